import PyProof.Rows.All
import Wide.All
import OpenK.AllK
import Wide.FinOn
import HandS.ForMost
import HandS.ForExc
import HandS.Evl
import HandS.Zip
import HandS.TupAny
import HandS.NoneIn
import HandS.IsInst
import HandS.Wide
import HandS.Conv
import HandS.Deep
import KE.GoesZip
import KE.GoesEnum
import KE.GoesMore
import HandS.SortRule
import HandS.TupLe
import PySem.Challenge.RW_loandesks_k14_whole_waits_grow
set_option Elab.async false
set_option linter.all false
set_option maxRecDepth 100000
section
/-! the layer: trees of owned objects over frozen data -/
namespace DP
open PySem PySem.Spec PyProof.Rows L2
abbrev Frag := PySem.W.Frag
/-- the kind of an owned object -/
inductive Shp where
  | lst | tup
  | dic (ks : List Key)
  | ins (C : Addr) (fs : List Str)
def Shp.ho : Shp → List V → HO → Prop
  | .lst, vs, h => h = .lst vs
  | .tup, vs, h => h = .tup vs
  | .dic ks, vs, h => ks.length = vs.length ∧ h = .dK (ks.zip vs)
  | .ins C fs, vs, h => fs.length = vs.length ∧ ∃ dx, h = .ins C dx (fs.zip vs)
/-- frozen data, or an owned object -/
inductive O where
  | any
  | dat (d : PyData)
  | node (s : Shp) (xs : List O)
mutual
/-- frozen data; a list that is only read (the law's script) is a dict that holds it -/
inductive DR (K : Frag) (H : Hp) : V → PyData → Prop
  | non : DR K H .non .none
  | bl (b : Bool) : DR K H (.bl b) (.bool b)
  | int (i : Int) : DR K H (.int i) (.int i)
  | str (x : Str) : DR K H (.str x) (.str x)
  | lst {a : Addr} {xs : List V} {ds : List PyData} : H a = some (.lst xs) → DRs K H xs ds → DR K H (.ref a) (.list ds)
  | tup {a : Addr} {xs : List V} {ds : List PyData} : SqT K H a xs → DRs K H xs ds → DR K H (.ref a) (.tuple ds)
  | ro {a : Addr} {xs : List V} {ds : List PyData} : SqL K H a xs → DRs K H xs ds → DR K H (.ref a) (.dict [(.list ds, .none)])
inductive DRs (K : Frag) (H : Hp) : List V → List PyData → Prop
  | nil : DRs K H [] []
  | cons {v : V} {vs : List V} {d : PyData} {ds : List PyData} : DR K H v d → DRs K H vs ds → DRs K H (v :: vs) (d :: ds)
end
mutual
inductive RO (K : Frag) (F H : Hp) : O → V → List Addr → Prop
  | any {v : V} : RO K F H .any v []
  | dat {d : PyData} {v : V} : DR K F v d → RO K F H (.dat d) v []
  | node {s : Shp} {xs : List O} {p : Addr} {vs : List V} {h : HO} {fp : List Addr} : F p = none → H p = some h → s.ho vs h → ROs K F H xs vs fp → RO K F H (.node s xs) (.ref p) (p :: fp)
inductive ROs (K : Frag) (F H : Hp) : List O → List V → List Addr → Prop
  | nil : ROs K F H [] [] []
  | cons {x : O} {v : V} {f1 : List Addr} {xs : List O} {vs : List V} {f2 : List Addr} : RO K F H x v f1 → ROs K F H xs vs f2 → ROs K F H (x :: xs) (v :: vs) (f1 ++ f2)
end
/-- all that H has, H' has -/
def Ex (H H' : Hp) : Prop := ∀ a o, H a = some o → H' a = some o
theorem Ex.refl (H : Hp) : Ex H H := fun _ _ h => h
theorem Ex.trans {H H1 H2 : Hp} (a : Ex H H1) (b : Ex H1 H2) : Ex H H2 := fun x o h => b x o (a x o h)
theorem Ex.new {H : Hp} {p : Addr} {o : HO} (h : H p = none) : Ex H (upd H p o) := fun a u e => by
  rw [upd_ne (ne_of_none e h)]
  exact e
theorem Ex.free {H H' : Hp} (e : Ex H H') {l : Addr} (h : H' l = none) : H l = none := by
  cases q : H l with
  | none => rfl
  | some o => rw [e l o q] at h; cases h
theorem Ex.rd {H H' : Hp} (e : Ex H H') {a : Addr} {u : HO} (h : Rd H a u) : Rd H' a u := by
  rcases h with h | ⟨o, h⟩
  · exact .inl (e a _ h)
  · exact .inr ⟨o, e a _ h⟩
theorem Ex.l {K : Frag} {H H' : Hp} (e : Ex H H') {a : Addr} {xs : List V} (h : SqL K H a xs) : SqL K H' a xs := by
  rcases h with h | h
  · exact .inl (e.rd h)
  · exact .inr h
theorem Ex.t {K : Frag} {H H' : Hp} (e : Ex H H') {a : Addr} {xs : List V} (h : SqT K H a xs) : SqT K H' a xs := by
  rcases h with h | h
  · exact .inl (e.rd h)
  · exact .inr h
mutual
theorem Ex.dp {K : Frag} {H H' : Hp} (e : Ex H H') : ∀ (d : PyData) (v : V), DR K H v d → DR K H' v d
  | .none, _, h => by cases h; exact .non
  | .bool b, _, h => by cases h; exact .bl b
  | .int i, _, h => by cases h; exact .int i
  | .str x, _, h => by cases h; exact .str x
  | .list ds, _, h => by
    cases h with
    | lst hs ha => exact .lst (e _ _ hs) (Ex.dpAll e ds _ ha)
  | .tuple ds, _, h => by
    cases h with
    | tup hs ha => exact .tup (e.t hs) (Ex.dpAll e ds _ ha)
  | .dict [(.list ds, .none)], _, h => by
    cases h with
    | ro hs ha => exact .ro (e.l hs) (Ex.dpAll e ds _ ha)
theorem Ex.dpAll {K : Frag} {H H' : Hp} (e : Ex H H') : ∀ (ds : List PyData) (vs : List V), DRs K H vs ds → DRs K H' vs ds
  | [], _, h => by cases h; exact .nil
  | d :: ds, _, h => by
    cases h with
    | cons h1 h2 => exact .cons (Ex.dp e d _ h1) (Ex.dpAll e ds _ h2)
end
mutual
/-- as the library's data -/
theorem DR.dp {K : Frag} {H : Hp} : ∀ (d : PyData) (v : V), DR K H v d → d.canLay0 = true → Dp K H v d
  | .none, _, h, _ => by cases h; exact .non
  | .bool b, _, h, _ => by cases h; exact .bl b
  | .int i, _, h, _ => by cases h; exact .int i
  | .str x, _, h, _ => by cases h; exact .str x
  | .list ds, _, h, z => by
    cases h with
    | lst hs ha => exact .lst (SqL.of hs) (DRs.dp ds _ ha (by simpa [PyData.canLay0] using z))
  | .tuple ds, _, h, z => by
    cases h with
    | tup hs ha => exact .tup hs (DRs.dp ds _ ha (by simpa [PyData.canLay0] using z))
  | .dict _, _, h, z => by simp [PyData.canLay0] at z
theorem DRs.dp {K : Frag} {H : Hp} : ∀ (ds : List PyData) (vs : List V), DRs K H vs ds → PyData.canLayAll0 ds = true → DpAll K H vs ds
  | [], _, h, _ => by cases h; exact .nil
  | d :: ds, _, h, z => by
    cases h with
    | cons h1 h2 =>
      have z' : d.canLay0 = true ∧ PyData.canLayAll0 ds = true := by simpa [PyData.canLayAll0] using z
      exact .cons (DR.dp d _ h1 z'.1) (DRs.dp ds _ h2 z'.2)
end
/-- what a tree leans on: the frozen part (may grow, but not at the tree's own places), its own places -/
structure Stay (fp : List Addr) (F H F' H' : Hp) : Prop where
  fz : Ex F F'
  out : ∀ a ∈ fp, F' a = none
  at' : ∀ a ∈ fp, H' a = H a
theorem Stay.left {f1 f2 : List Addr} {F H F' H' : Hp} (s : Stay (f1 ++ f2) F H F' H') : Stay f1 F H F' H' := ⟨s.fz, fun a h => s.out a (List.mem_append_left _ h), fun a h => s.at' a (List.mem_append_left _ h)⟩
theorem Stay.right {f1 f2 : List Addr} {F H F' H' : Hp} (s : Stay (f1 ++ f2) F H F' H') : Stay f2 F H F' H' := ⟨s.fz, fun a h => s.out a (List.mem_append_right _ h), fun a h => s.at' a (List.mem_append_right _ h)⟩
mutual
theorem RO.stay {K : Frag} {F H F' H' : Hp} : ∀ (o : O) (v : V) (fp : List Addr), RO K F H o v fp → Stay fp F H F' H' → RO K F' H' o v fp
  | .any, _, _, h, s => by
    cases h with
    | any => exact .any
  | .dat d, _, _, h, s => by
    cases h with
    | dat h => exact .dat (s.fz.dp d _ h)
  | .node c xs, _, _, h, s => by
    cases h with
    | node h1 h2 h3 h4 =>
      rename_i p vs ho fp
      exact .node (s.out _ List.mem_cons_self) ((s.at' _ List.mem_cons_self).trans h2) h3 (ROs.stay xs _ _ h4 ⟨s.fz, fun a z => s.out a (List.mem_cons_of_mem _ z), fun a z => s.at' a (List.mem_cons_of_mem _ z)⟩)
theorem ROs.stay {K : Frag} {F H F' H' : Hp} : ∀ (os : List O) (vs : List V) (fp : List Addr), ROs K F H os vs fp → Stay fp F H F' H' → ROs K F' H' os vs fp
  | [], _, _, h, _ => by cases h; exact .nil
  | o :: os, _, _, h, s => by
    cases h with
    | cons h1 h2 => exact .cons (RO.stay o _ _ h1 s.left) (ROs.stay os _ _ h2 s.right)
end
mutual
/-- a tree's own places are tracked, and not frozen -/
theorem RO.own {K : Frag} {F H : Hp} : ∀ (o : O) (v : V) (fp : List Addr), RO K F H o v fp → ∀ a ∈ fp, F a = none ∧ ∃ h, H a = some h
  | .any, _, _, h, a, z => by
    cases h with
    | any => cases z
  | .dat d, _, _, h, a, z => by
    cases h with
    | dat h => cases z
  | .node c xs, _, _, h, a, z => by
    cases h with
    | node h1 h2 h3 h4 =>
      rcases List.mem_cons.mp z with e | z
      · subst e; exact ⟨h1, _, h2⟩
      · exact ROs.own xs _ _ h4 a z
theorem ROs.own {K : Frag} {F H : Hp} : ∀ (os : List O) (vs : List V) (fp : List Addr), ROs K F H os vs fp → ∀ a ∈ fp, F a = none ∧ ∃ h, H a = some h
  | [], _, _, h, a, z => by cases h; cases z
  | o :: os, _, _, h, a, z => by
    cases h with
    | cons h1 h2 =>
      rcases List.mem_append.mp z with z | z
      · exact RO.own o _ _ h1 a z
      · exact ROs.own os _ _ h2 a z
end
theorem ROs.length {K : Frag} {F H : Hp} : ∀ {os : List O} {vs : List V} {fp : List Addr}, ROs K F H os vs fp → os.length = vs.length
  | [], _, _, h => by cases h; rfl
  | o :: os, _, _, h => by
    cases h with
    | cons h1 h2 => simp [ROs.length h2]
theorem ROs.app {K : Frag} {F H : Hp} : ∀ {os : List O} {vs : List V} {fp : List Addr} {os' : List O} {vs' : List V} {fp' : List Addr}, ROs K F H os vs fp → ROs K F H os' vs' fp' → ROs K F H (os ++ os') (vs ++ vs') (fp ++ fp')
  | [], _, _, _, _, _, h, h' => by cases h; exact h'
  | o :: os, _, _, _, _, _, h, h' => by
    cases h with
    | cons h1 h2 =>
      rw [List.append_assoc]
      exact .cons h1 (ROs.app h2 h')
theorem ROs.split {K : Frag} {F H : Hp} : ∀ {os os' : List O} {us : List V} {fp : List Addr}, ROs K F H (os ++ os') us fp → ∃ vs vs' f1 f2, us = vs ++ vs' ∧ fp = f1 ++ f2 ∧ ROs K F H os vs f1 ∧ ROs K F H os' vs' f2
  | [], _, us, fp, h => ⟨[], us, [], fp, rfl, rfl, .nil, h⟩
  | o :: os, os', _, _, h => by
    cases h with
    | cons h1 h2 =>
      obtain ⟨vs, vs', f1, f2, e1, e2, a, b⟩ := ROs.split h2
      subst e1 e2
      exact ⟨_ :: vs, vs', _ ++ f1, f2, rfl, (List.append_assoc ..).symm, .cons h1 a, b⟩
theorem ROs.split' {K : Frag} {F H : Hp} {os os' : List O} {vs vs' : List V} {fp : List Addr} (h : ROs K F H (os ++ os') (vs ++ vs') fp) (hl : os.length = vs.length) : ∃ f1 f2, fp = f1 ++ f2 ∧ ROs K F H os vs f1 ∧ ROs K F H os' vs' f2 := by
  obtain ⟨ws, ws', f1, f2, e1, e2, a, b⟩ := h.split
  obtain ⟨e3, e4⟩ := List.append_inj e1 (hl.symm.trans a.length)
  subst e3 e4
  exact ⟨f1, f2, e2, a, b⟩
theorem dpAll_os {K : Frag} {F H : Hp} : ∀ {ds : List PyData} {vs : List V}, DRs K F vs ds → ROs K F H (ds.map .dat) vs []
  | [], _, h => by cases h; exact .nil
  | d :: ds, _, h => by
    cases h with
    | cons h1 h2 => exact .cons (.dat h1) (dpAll_os h2)
/-! ### the frozen form of a tree -/
mutual
def O.toD : O → Option PyData
  | .any => none
  | .dat d => some d
  | .node .lst xs => (O.toDs xs).map .list
  | .node .tup xs => (O.toDs xs).map .tuple
  | .node _ _ => none
def O.toDs : List O → Option (List PyData)
  | [] => some []
  | x :: xs => match x.toD, O.toDs xs with
    | some d, some ds => some (d :: ds)
    | _, _ => none
end
/-- the frozen part with a tree's places in it -/
def frz (F H : Hp) (fp : List Addr) : Hp := fun a => if a ∈ fp then H a else F a
theorem frz_in {F H : Hp} {fp : List Addr} {a : Addr} (h : a ∈ fp) : frz F H fp a = H a := if_pos h
theorem frz_out {F H : Hp} {fp : List Addr} {a : Addr} (h : a ∉ fp) : frz F H fp a = F a := if_neg h
theorem frz_ex {F H : Hp} {fp : List Addr} (h : ∀ a ∈ fp, F a = none) : Ex F (frz F H fp) := fun a o e => by
  by_cases z : a ∈ fp
  · rw [h a z] at e; cases e
  · rw [frz_out z]; exact e
theorem frz_sub {F H : Hp} {fp : List Addr} (h : Ex F H) : Ex (frz F H fp) H := fun a o e => by
  by_cases z : a ∈ fp
  · rw [frz_in z] at e; exact e
  · rw [frz_out z] at e; exact h a o e
mutual
theorem RO.frozen {K : Frag} {F H G : Hp} : ∀ (o : O) (d : PyData) (v : V) (fp : List Addr), RO K F H o v fp → o.toD = some d → Ex F G → (∀ a ∈ fp, G a = H a) → DR K G v d
  | .any, _, _, _, h, e, x, _ => by rw [O.toD] at e; cases e
  | .dat d, _, _, _, h, e, x, _ => by
    cases h with
    | dat h =>
      have e' : d = _ := Option.some.inj e
      subst e'
      exact x.dp _ _ h
  | .node c xs, _, _, _, h, e, x, y => by
    cases h with
    | node h1 h2 h3 h4 =>
      rename_i p vs ho fp
      cases c with
      | lst =>
        rw [O.toD] at e
        cases q : O.toDs xs with
        | none => rw [q] at e; cases e
        | some ds =>
          rw [q] at e
          cases e
          have h3' : ho = .lst vs := h3
          subst h3'
          exact .lst ((y _ List.mem_cons_self).trans h2) (ROs.frozen xs ds _ _ h4 q x fun a z => y a (List.mem_cons_of_mem _ z))
      | tup =>
        rw [O.toD] at e
        cases q : O.toDs xs with
        | none => rw [q] at e; cases e
        | some ds =>
          rw [q] at e
          cases e
          have h3' : ho = .tup vs := h3
          subst h3'
          exact .tup (SqT.of ((y _ List.mem_cons_self).trans h2)) (ROs.frozen xs ds _ _ h4 q x fun a z => y a (List.mem_cons_of_mem _ z))
      | dic ks => rw [O.toD] at e; cases e; all_goals (intro z; cases z)
      | ins C fs => rw [O.toD] at e; cases e; all_goals (intro z; cases z)
theorem ROs.frozen {K : Frag} {F H G : Hp} : ∀ (os : List O) (ds : List PyData) (vs : List V) (fp : List Addr), ROs K F H os vs fp → O.toDs os = some ds → Ex F G → (∀ a ∈ fp, G a = H a) → DRs K G vs ds
  | [], _, _, _, h, e, _, _ => by
    cases h
    rw [O.toDs] at e
    cases e
    exact .nil
  | o :: os, _, _, _, h, e, x, y => by
    cases h with
    | cons h1 h2 =>
      rw [O.toDs] at e
      cases q1 : o.toD with
      | none => rw [q1] at e; cases e
      | some d =>
        cases q2 : O.toDs os with
        | none => rw [q1, q2] at e; cases e
        | some ds =>
          rw [q1, q2] at e
          cases e
          exact .cons (RO.frozen o d _ _ h1 q1 x fun a z => y a (List.mem_append_left _ z)) (ROs.frozen os ds _ _ h2 q2 x fun a z => y a (List.mem_append_right _ z))
end
/-! ### the slots -/
/-- what is known of a slot: nothing; a tree; a tree that the caller handed in and gets back; one such that is away -/
inductive Sl where
  | no
  | v (o : O)
  | io (o : O)
  | mv
/-- may be stored -/
def Sl.w : Sl → Bool
  | .no => true
  | .v _ => true
  | _ => false
abbrev Env := List Sl
inductive REnv (K : Frag) (F H : Hp) : List (Option V) → Env → L2.St → List Addr → Prop
  | nil : REnv K F H [] [] [] []
  | no {p : Option V} {ps : List (Option V)} {env : Env} {x : Option V} {σ : L2.St} {fp : List Addr} : REnv K F H ps env σ fp → REnv K F H (p :: ps) (.no :: env) (x :: σ) fp
  | v {p : Option V} {ps : List (Option V)} {o : O} {v : V} {env : Env} {σ : L2.St} {f1 f2 : List Addr} : RO K F H o v f1 → REnv K F H ps env σ f2 → REnv K F H (p :: ps) (.v o :: env) (some v :: σ) (f1 ++ f2)
  | io {ps : List (Option V)} {o : O} {v : V} {env : Env} {σ : L2.St} {f1 f2 : List Addr} : RO K F H o v f1 → REnv K F H ps env σ f2 → REnv K F H (some v :: ps) (.io o :: env) (some v :: σ) (f1 ++ f2)
  | mv {ps : List (Option V)} {v : V} {env : Env} {σ : L2.St} {fp : List Addr} : REnv K F H ps env σ fp → REnv K F H (some v :: ps) (.mv :: env) (some v :: σ) fp
theorem REnv.stay {K : Frag} {F H F' H' : Hp} {ps : List (Option V)} {env : Env} {σ : L2.St} {fp : List Addr} (h : REnv K F H ps env σ fp) : Stay fp F H F' H' → REnv K F' H' ps env σ fp := by
  induction h with
  | nil => exact fun _ => .nil
  | no _ ih => exact fun s => .no (ih s)
  | v r _ ih => exact fun s => .v (r.stay _ _ _ s.left) (ih s.right)
  | io r _ ih => exact fun s => .io (r.stay _ _ _ s.left) (ih s.right)
  | mv _ ih => exact fun s => .mv (ih s)
theorem REnv.own {K : Frag} {F H : Hp} {ps : List (Option V)} {env : Env} {σ : L2.St} {fp : List Addr} (h : REnv K F H ps env σ fp) : ∀ a ∈ fp, F a = none ∧ ∃ h, H a = some h := by
  induction h with
  | nil => exact fun a z => nomatch z
  | no _ ih => exact ih
  | v r _ ih => exact fun a z => (List.mem_append.mp z).elim (r.own _ _ _ a) (ih a)
  | io r _ ih => exact fun a z => (List.mem_append.mp z).elim (r.own _ _ _ a) (ih a)
  | mv _ ih => exact ih
end DP
end

section
namespace DP
open PySem PySem.Spec PyProof.Rows L2
/-! ### the state of a frame -/
/-- fixed in a def's body: the frozen part and the heap at its start, the places that it may change, the values of the parameters that it gives back, the wish for what is raised, the classes of errors -/
structure Fc where
  K : Frag
  Fs : Hp
  Hs : Hp
  P : List Addr
  ps : List (Option V)
  W : WX
  cls : Str → Value
structure Fr (c : Fc) (F H : Hp) : Prop where
  up : Ex c.Fs F
  sub : Ex F H
  nw : ∀ a, F a ≠ none → c.Fs a ≠ none ∨ c.Hs a = none ∨ a ∈ c.P
  kp : ∀ a o, c.Hs a = some o → a ∉ c.P → H a = some o
def Rp (c : Fc) (env : Env) (σ : L2.St) (ts : List O) (us : List V) (H : Hp) : Prop :=
  ∃ F fe ft, Fr c F H ∧ REnv c.K F H c.ps env σ fe ∧ ROs c.K F H ts us ft ∧ (fe ++ ft).Nodup ∧ ∀ a ∈ fe ++ ft, c.Hs a = none ∨ a ∈ c.P
section
variable {c : Fc} {env : Env} {σ : L2.St} {ts : List O} {us : List V} {F H H' : Hp}
theorem Fr.ex (f : Fr c F H) (e : Ex H H') : Fr c F H' := ⟨f.up, f.sub.trans e, f.nw, fun a o h n => e a o (f.kp a o h n)⟩
theorem Fr.fresh (f : Fr c F H) {p : Addr} (h : H p = none) : c.Hs p = none ∨ p ∈ c.P := by
  by_cases z : p ∈ c.P
  · exact .inr z
  · cases e : c.Hs p with
    | none => exact .inl rfl
    | some o => rw [f.kp p o e z] at h; cases h
theorem Fr.out (f : Fr c F H) {p : Addr} (h : H p = none) : F p = none := f.sub.free h
theorem stay_ex {fp : List Addr} (e : Ex H H') (h : ∀ a ∈ fp, F a = none ∧ ∃ o, H a = some o) : Stay fp F H F H' := ⟨Ex.refl F, fun a z => (h a z).1, fun a z => by
  obtain ⟨_, o, q⟩ := h a z
  rw [e a o q, q]⟩
theorem REnv.len {K : Frag} {F H : Hp} {ps : List (Option V)} {env : Env} {σ : L2.St} {fp : List Addr} (h : REnv K F H ps env σ fp) : env.length = σ.length := by
  induction h with
  | nil => rfl
  | no _ ih => simp [ih]
  | v _ _ ih => simp [ih]
  | io _ _ ih => simp [ih]
  | mv _ ih => simp [ih]
theorem Rp.elen (R : Rp c env σ ts us H) : env.length = σ.length := by
  obtain ⟨F, fe, ft, _, e, _⟩ := R
  exact e.len
/-- a tree comes: the heap has grown, the frozen part too, by new places -/
structure Grow (F H F' H' : Hp) : Prop where
  h : Ex H H'
  f : Ex F F'
  sub : Ex F' H'
  nw : ∀ a, F' a ≠ none → F a ≠ none ∨ H a = none
theorem Grow.of {F H H' : Hp} (s : Ex F H) (x : Ex H H') : Grow F H F H' := ⟨x, Ex.refl F, s.trans x, fun _ z => .inl z⟩
theorem Grow.stay {F H F' H' : Hp} (g : Grow F H F' H') {fp : List Addr} (h : ∀ a ∈ fp, F a = none ∧ ∃ o, H a = some o) : Stay fp F H F' H' := by
  refine ⟨g.f, fun a z => ?_, fun a z => ?_⟩
  · obtain ⟨n, o, q⟩ := h a z
    cases e : F' a with
    | none => rfl
    | some u =>
      rcases g.nw a (by rw [e]; exact fun z => nomatch z) with z | z
      · exact absurd n z
      · rw [q] at z; cases z
  · obtain ⟨_, o, q⟩ := h a z
    rw [g.h a o q, q]
theorem Fr.grow {F' H' : Hp} (f : Fr c F H) (g : Grow F H F' H') : Fr c F' H' := ⟨f.up.trans g.f, g.sub, fun a z => by
  rcases g.nw a z with z | z
  · exact f.nw a z
  · exact .inr (f.fresh z), fun a o h n => g.h a o (f.kp a o h n)⟩
theorem Rp.grow {F' : Hp} {z : O} {v : V} {fp fo : List Addr} {fe ft0 : List Addr} (f : Fr c F H) (e : REnv c.K F H c.ps env σ fe) (t : ROs c.K F H ts us ft0) (nd : (fe ++ (fo ++ ft0)).Nodup) (nw : ∀ a ∈ fe ++ (fo ++ ft0), c.Hs a = none ∨ a ∈ c.P)
    (x : Grow F H F' H') (r : RO c.K F' H' z v fp) (nf : fp.Nodup) (hf : ∀ a ∈ fp, H a = none ∨ a ∈ fo) : Rp c env σ (z :: ts) (v :: us) H' := by
  obtain ⟨n1, n2, n3⟩ := List.nodup_append.mp nd
  obtain ⟨n4, n5, n6⟩ := List.nodup_append.mp n2
  refine ⟨F', fe, fp ++ ft0, f.grow x, e.stay (x.stay e.own), .cons r (t.stay _ _ _ (x.stay (t.own _ _ _))), ?_, ?_⟩
  · refine List.nodup_append.mpr ⟨n1, List.nodup_append.mpr ⟨nf, n5, fun a ha b hb q => ?_⟩, fun a ha b hb q => ?_⟩
    · subst q
      rcases hf a ha with z | z
      · obtain ⟨_, o, q⟩ := t.own _ _ _ a hb; rw [q] at z; cases z
      · exact n6 a z a hb rfl
    · subst q
      rcases List.mem_append.mp hb with hb | hb
      · rcases hf a hb with z | z
        · obtain ⟨_, o, q⟩ := e.own a ha; rw [q] at z; cases z
        · exact n3 a ha a (List.mem_append_left _ z) rfl
      · exact n3 a ha a (List.mem_append_right _ hb) rfl
  · intro a ha
    rcases List.mem_append.mp ha with ha | ha
    · exact nw a (List.mem_append_left _ ha)
    · rcases List.mem_append.mp ha with ha | ha
      · rcases hf a ha with z | z
        · exact f.fresh z
        · exact nw a (List.mem_append_right _ (List.mem_append_left _ z))
      · exact nw a (List.mem_append_right _ (List.mem_append_right _ ha))
/-- trees are dropped -/
theorem Rp.drop {ts0 : List O} {us0 : List V} (R : Rp c env σ (ts0 ++ ts) (us0 ++ us) H) (hl : ts0.length = us0.length) : Rp c env σ ts us H := by
  obtain ⟨F, fe, ft, f, e, t, nd, nw⟩ := R
  obtain ⟨f1, f2, rfl, t1, t2⟩ := t.split' hl
  obtain ⟨n1, n2, n3⟩ := List.nodup_append.mp nd
  refine ⟨F, fe, f2, f, e, t2, List.nodup_append.mpr ⟨n1, (List.nodup_append.mp n2).2.1, fun a ha b hb => n3 a ha b (List.mem_append_right _ hb)⟩, fun a ha => nw a ?_⟩
  rcases List.mem_append.mp ha with z | z
  · exact List.mem_append_left _ z
  · exact List.mem_append_right _ (List.mem_append_right _ z)
theorem Rp.pop {o : O} {v : V} (R : Rp c env σ (o :: ts) (v :: us) H) : Rp c env σ ts us H := Rp.drop (ts0 := [o]) (us0 := [v]) R rfl
theorem Rp.lens (R : Rp c env σ ts us H) : ts.length = us.length := by
  obtain ⟨F, fe, ft, f, e, t, nd, nw⟩ := R
  exact t.length
/-- frozen data comes on top -/
theorem Rp.push {d : PyData} {v : V} (R : Rp c env σ ts us H) (h : ∀ F, Fr c F H → DR c.K F v d) : Rp c env σ (.dat d :: ts) (v :: us) H := by
  obtain ⟨F, fe, ft, f, e, t, nd, nw⟩ := R
  exact ⟨F, fe, ft, f, e, .cons (f1 := []) (.dat (h F f)) t, nd, nw⟩
/-- a new object is made of the trees on top -/
theorem Rp.mk {s : Shp} {xs : List O} {vs : List V} {p : Addr} {h : HO} (R : Rp c env σ (xs ++ ts) (vs ++ us) H) (hl : xs.length = vs.length) (hp : H p = none) (hs : s.ho vs h) :
    Rp c env σ (.node s xs :: ts) (.ref p :: us) (upd H p h) := by
  obtain ⟨F, fe, ft, f, e, t, nd, nw⟩ := R
  obtain ⟨f1, f2, rfl, t1, t2⟩ := t.split' hl
  have x : Ex H (upd H p h) := Ex.new hp
  have np : p ∉ f1 := fun z => by
    obtain ⟨_, o, q⟩ := t1.own _ _ _ p z
    rw [hp] at q; cases q
  obtain ⟨n1, n2, n3⟩ := List.nodup_append.mp nd
  refine Rp.grow (fo := f1) (ft0 := f2) f e t2 nd nw (Grow.of f.sub x) (.node (f.out hp) upd_same hs (t1.stay _ _ _ (stay_ex x (t1.own _ _ _)))) (List.nodup_cons.mpr ⟨np, (List.nodup_append.mp n2).1⟩) fun a ha => ?_
  rcases List.mem_cons.mp ha with z | z
  · exact .inl (z ▸ hp)
  · exact .inr z
/-- the tree on top is frozen -/
theorem Rp.freeze {o : O} {v : V} {d : PyData} (R : Rp c env σ (o :: ts) (v :: us) H) (h : o.toD = some d) : Rp c env σ (.dat d :: ts) (v :: us) H := by
  obtain ⟨F, fe, ft, f, e, t, nd, nw⟩ := R
  cases t with
  | cons r t =>
    rename_i f1 f2
    obtain ⟨n1, n2, n3⟩ := List.nodup_append.mp nd
    obtain ⟨n4, n5, n6⟩ := List.nodup_append.mp n2
    have x : Ex F (frz F H f1) := frz_ex fun a z => (r.own _ _ _ a z).1
    have st : ∀ fp : List Addr, (∀ a ∈ fp, F a = none ∧ ∃ o, H a = some o) → (∀ a ∈ fp, a ∉ f1) → Stay fp F H (frz F H f1) H := fun fp q n => ⟨x, fun a z => by rw [frz_out (n a z)]; exact (q a z).1, fun _ _ => rfl⟩
    refine ⟨frz F H f1, fe, f2, ⟨f.up.trans x, frz_sub f.sub, fun a z => ?_, f.kp⟩, e.stay (st fe e.own fun a ha hb => n3 a ha a (List.mem_append_left _ hb) rfl),
      .cons (f1 := []) (.dat (r.frozen _ _ _ _ h x fun a z => frz_in z)) (t.stay _ _ _ (st f2 (t.own _ _ _) fun a ha hb => n6 a hb a ha rfl)), List.nodup_append.mpr ⟨n1, n5, fun a ha b hb => n3 a ha b (List.mem_append_right _ hb)⟩, fun a ha => nw a ?_⟩
    · by_cases q : a ∈ f1
      · exact .inr (nw a (List.mem_append_right _ (List.mem_append_left _ q)))
      · rw [frz_out q] at z
        exact f.nw a z
    · rcases List.mem_append.mp ha with z | z
      · exact List.mem_append_left _ z
      · exact List.mem_append_right _ (List.mem_append_right _ z)
/-- the first trees change places -/
theorem Rp.turn {o : O} {v : V} {xs : List O} {vs : List V} (R : Rp c env σ (xs ++ o :: ts) (vs ++ v :: us) H) (hl : xs.length = vs.length) : Rp c env σ (o :: (xs ++ ts)) (v :: (vs ++ us)) H := by
  obtain ⟨F, fe, ft, f, e, t, nd, nw⟩ := R
  obtain ⟨f1, f2, rfl, t1, t2⟩ := t.split' hl
  cases t2 with
  | cons r t2 =>
    rename_i f3 f4
    have pm : (f1 ++ (f3 ++ f4)).Perm (f3 ++ (f1 ++ f4)) := by
      rw [← List.append_assoc, ← List.append_assoc]
      exact List.perm_append_comm.append_right _
    exact ⟨F, fe, f3 ++ (f1 ++ f4), f, e, .cons r (t1.app t2), ((pm.append_left fe).nodup_iff).mp nd, fun a ha => nw a (((pm.append_left fe).mem_iff).mpr ha)⟩
end
/-! ### what is reckoned -/
inductive RE (α : Type) where
  | ok (a : α) (env : Env)
  | err (x : Str) (env : Env)
  | no
abbrev EF := Env → RE O
/-- behind an expression -/
def PostE (c : Fc) (pu : Bool) (σ : L2.St) (ts : List O) (us : List V) (H : Hp) (Q : VK) : RE O → Prop
  | .ok o env => ∀ v H', Rp c env σ (o :: ts) (v :: us) H' → (pu = true → Ex H H') → Q v H'
  | .err x env => ∀ H', Rp c env σ ts us H' → c.W (c.cls x) none σ H'
  | .no => False
def PostB (c : Fc) (pu : Bool) (σ : L2.St) (ts : List O) (us : List V) (H : Hp) (Q : Bool → Hp → Prop) : RE Bool → Prop
  | .ok b env => ∀ H', Rp c env σ ts us H' → (pu = true → Ex H H') → Q b H'
  | .err x env => ∀ H', Rp c env σ ts us H' → c.W (c.cls x) none σ H'
  | .no => False
def PostA (c : Fc) (pu : Bool) (σ : L2.St) (ios : List (Option Nat)) (ts : List O) (us : List V) (H : Hp) (Q : List V → Hp → Prop) : RE (List O) → Prop
  | .ok os env => ∀ vs H', Rp c env σ (os ++ ts) (vs ++ us) H' → os.length = vs.length → ios.length = vs.length → (∀ (k i : Nat), ios[k]? = some (some i) → σ[i]? = some vs[k]?) → (pu = true → Ex H H') → Q vs H'
  | .err x env => ∀ H', Rp c env σ ts us H' → c.W (c.cls x) none σ H'
  | .no => False
def tE (c : Fc) (pu : Bool) (f : EF) : TE := fun σ H Q => ∃ env ts us, Rp c env σ ts us H ∧ PostE c pu σ ts us H Q (f env)
def tBq (c : Fc) (pu : Bool) (f : Env → RE Bool) : TT := fun σ H Q => ∃ env ts us, Rp c env σ ts us H ∧ PostB c pu σ ts us H Q (f env)
def tAq (c : Fc) (pu : Bool) (ios : List (Option Nat)) (f : Env → RE (List O)) : TA := fun σ H Q => ∃ env ts us, Rp c env σ ts us H ∧ PostA c pu σ ios ts us H Q (f env)
theorem _root_.L2.PE.weak {X : Cx} {e : Expr} {t t' : TE} (h : PE X e t) (w : ∀ σ H Q, t' σ H Q → t σ H Q) : PE X e t' := ⟨fun pins s σ H Q I q => h.run pins s σ H Q I (w σ H Q q)⟩
theorem _root_.L2.PT.weak {X : Cx} {e : Expr} {t t' : TT} (h : PT X e t) (w : ∀ σ H Q, t' σ H Q → t σ H Q) : PT X e t' := ⟨fun pins s σ H Q I q => h.run pins s σ H Q I (w σ H Q q)⟩
theorem _root_.L2.PW.weak {X : Cx} {e : Expr} {t t' : TT} (h : PW X e t) (w : ∀ σ H Q, t' σ H Q → t σ H Q) : PW X e t' := ⟨fun wh pins s σ H Q I q => h.run wh pins s σ H Q I (w σ H Q q)⟩
theorem _root_.L2.PA.weak {X : Cx} {es : List Expr} {t t' : TA} (h : PA X es t) (w : ∀ σ H Q, t' σ H Q → t σ H Q) : PA X es t' := ⟨fun pos pins s σ H Q I q => h.run pos pins s σ H Q I (w σ H Q q)⟩
theorem _root_.L2.PS.weak {X : Cx} {st : Stmt} {t t' : TS} (h : PS X st t) (w : ∀ D σ H, t' D σ H → t D σ H) : PS X st t' := ⟨fun pins s σ H D I q => h.run pins s σ H D I (w D σ H q)⟩
theorem _root_.L2.PSs.weak {X : Cx} {st : List Stmt} {t t' : TS} (h : PSs X st t) (w : ∀ D σ H, t' D σ H → t D σ H) : PSs X st t' := ⟨fun pins s σ H D I q => h.run pins s σ H D I (w D σ H q)⟩
/-- nothing is changed by a pure one -/
def Pu {α : Type} (pu : Bool) (f : Env → RE α) : Prop := pu = true → ∀ env o env', f env = .ok o env' → env' = env
structure DE (X : Cx) (c : Fc) (pu : Bool) (e : Expr) (f : EF) : Prop where
  pure : Pu pu f
  run : PE X e (tE c pu f)
structure DT (X : Cx) (c : Fc) (pu : Bool) (e : Expr) (f : Env → RE Bool) : Prop where
  pure : Pu pu f
  run : PT X e (tBq c pu f)
structure DW (X : Cx) (c : Fc) (pu : Bool) (e : Expr) (f : Env → RE Bool) : Prop where
  pure : Pu pu f
  run : PW X e (tBq c pu f)
structure DA (X : Cx) (c : Fc) (pu : Bool) (ios : List (Option Nat)) (es : List Expr) (f : Env → RE (List O)) : Prop where
  pure : Pu pu f
  run : PA X es (tAq c pu ios f)
def RE.bind {α β : Type} (r : RE α) (f : α → Env → RE β) : RE β := match r with
  | .ok a env => f a env
  | .err x env => .err x env
  | .no => .no
/-! ### constants and names -/
def kD (d : PyData) : EF := fun env => .ok (.dat d) env
section
variable {X : Cx} {c : Fc}
theorem de_const {e : Expr} {v : V} {d : PyData} (h : PE X e (tC v)) (hd : ∀ K F, DR K F v d) : DE X c true e (kD d) :=
  ⟨fun _ env o env' h => by cases h; rfl, h.weak fun σ H Q ⟨env, ts, us, R, q⟩ => q v H (R.push fun F _ => hd c.K F) fun _ => Ex.refl H⟩
theorem de_int {i j pos} : DE X c true (.Constant (.int i) j pos) (kD (.int i)) := de_const pe_int fun _ _ => .int i
theorem de_bl {b j pos} : DE X c true (.Constant (.bool b) j pos) (kD (.bool b)) := de_const pe_bl fun _ _ => .bl b
theorem de_non {j pos} : DE X c true (.Constant .none j pos) (kD .none) := de_const pe_non fun _ _ => .non
theorem de_str {x j pos} : DE X c true (.Constant (.str x) j pos) (kD (.str x)) := de_const pe_str fun _ _ => .str x
/-- a module's constant -/
theorem de_glob {x : Str} {v : V} {u : Value} {d : PyData} {pos : Pos} (hg : Gl X x) (hm : X.mg x = some u) (r : RelV v u) (hd : ∀ F, DR c.K F v d) (hdb : (x == ("__debug__" : Str)) = false := by decide) : DE X c true (.Name x pos) (kD d) :=
  ⟨fun _ env o env' h => by cases h; rfl, (pe_glob hg hm r hdb).weak fun σ H Q ⟨env, ts, us, R, q⟩ => q v H (R.push fun F _ => hd F) fun _ => Ex.refl H⟩
/-- a slot that holds frozen data -/
def kVar (i : Nat) : EF := fun env => match env[i]? with
  | some (.v (.dat d)) => .ok (.dat d) env
  | some (.io (.dat d)) => .ok (.dat d) env
  | _ => .no
/-- a slot's tree goes to the top -/
def kMov (i : Nat) : EF := fun env => match env[i]? with
  | some (.v (.dat d)) => .ok (.dat d) env
  | some (.v o) => .ok o (env.set i .no)
  | some (.io o) => .ok o (env.set i .mv)
  | _ => .no
/-- a slot's tree is frozen -/
def kFrz (i : Nat) : EF := fun env => match env[i]? with
  | some (.v o) => match o.toD with
    | some d => .ok (.dat d) (env.set i (.v (.dat d)))
    | none => .no
  | some (.io (.dat d)) => .ok (.dat d) env
  | _ => .no
end
/-- one slot apart -/
theorem REnv.at {K : Frag} {F H : Hp} {ps : List (Option V)} {env : Env} {σ : L2.St} {fp : List Addr} (h : REnv K F H ps env σ fp) : ∀ {i : Nat} {o : O}, (env[i]? = some (.v o) ∨ env[i]? = some (.io o)) →
    ∃ v fo fr, σ[i]? = some (some v) ∧ RO K F H o v fo ∧ fp.Perm (fo ++ fr) ∧ (env[i]? = some (.io o) → ps[i]? = some (some v)) ∧
      (∀ (s : Sl) (fs : List Addr) (F' H' : Hp), Stay fr F H F' H' → (s = .no ∨ (s = .mv ∧ env[i]? = some (.io o)) ∨ (∃ o', (s = .v o' ∨ (s = .io o' ∧ env[i]? = some (.io o))) ∧ RO K F' H' o' v fs)) → ((s = .no ∨ s = .mv) → fs = []) → ∃ fp', fp'.Perm (fs ++ fr) ∧ REnv K F' H' ps (env.set i s) σ fp') := by
  induction h with
  | nil => intro i o q; simp at q
  | @no p ps env x σ fp h ih =>
    intro i o q
    cases i with
    | zero => simp at q
    | succ i =>
      obtain ⟨v, fo, fr, e1, r, pm, io, k⟩ := ih (i := i) (o := o) (by simpa using q)
      refine ⟨v, fo, fr, by simpa using e1, r, pm, fun z => by simpa using io (by simpa using z), fun s fs F' H' st hs hz => ?_⟩
      obtain ⟨fp', pm', e'⟩ := k s fs F' H' st (by simpa using hs) hz
      exact ⟨fp', pm', .no e'⟩
  | @mv ps v0 env σ fp h ih =>
    intro i o q
    cases i with
    | zero => simp at q
    | succ i =>
      obtain ⟨v, fo, fr, e1, r, pm, io, k⟩ := ih (i := i) (o := o) (by simpa using q)
      refine ⟨v, fo, fr, by simpa using e1, r, pm, fun z => by simpa using io (by simpa using z), fun s fs F' H' st hs hz => ?_⟩
      obtain ⟨fp', pm', e'⟩ := k s fs F' H' st (by simpa using hs) hz
      exact ⟨fp', pm', .mv e'⟩
  | @v p ps o0 v0 env σ f1 f2 r0 h ih =>
    intro i o q
    cases i with
    | zero =>
      have e0 : o0 = o := by
        rcases q with q | q <;> simp at q
        exact q
      subst e0
      refine ⟨v0, f1, f2, rfl, r0, .refl _, fun z => by simp at z, fun s fs F' H' st hs hz => ?_⟩
      rcases hs with rfl | ⟨rfl, z⟩ | ⟨o', hs, r'⟩
      · rw [hz (.inl rfl)]
        exact ⟨f2, .refl _, .no (h.stay st)⟩
      · simp at z
      · rcases hs with rfl | ⟨rfl, z⟩
        · exact ⟨fs ++ f2, .refl _, .v r' (h.stay st)⟩
        · simp at z
    | succ i =>
      obtain ⟨v, fo, fr, e1, r, pm, io, k⟩ := ih (i := i) (o := o) (by simpa using q)
      refine ⟨v, fo, f1 ++ fr, by simpa using e1, r, ?_, fun z => by simpa using io (by simpa using z), fun s fs F' H' st hs hz => ?_⟩
      · refine (pm.append_left f1).trans ?_
        rw [← List.append_assoc, ← List.append_assoc]
        exact List.perm_append_comm.append_right _
      · obtain ⟨fp', pm', e'⟩ := k s fs F' H' st.right (by simpa using hs) hz
        refine ⟨f1 ++ fp', ?_, .v (r0.stay _ _ _ st.left) e'⟩
        refine (pm'.append_left f1).trans ?_
        rw [← List.append_assoc, ← List.append_assoc]
        exact List.perm_append_comm.append_right _
  | @io ps o0 v0 env σ f1 f2 r0 h ih =>
    intro i o q
    cases i with
    | zero =>
      have e0 : o0 = o := by
        rcases q with q | q <;> simp at q
        exact q
      subst e0
      refine ⟨v0, f1, f2, rfl, r0, .refl _, fun _ => rfl, fun s fs F' H' st hs hz => ?_⟩
      rcases hs with rfl | ⟨rfl, z⟩ | ⟨o', hs, r'⟩
      · rw [hz (.inl rfl)]
        exact ⟨f2, .refl _, .no (h.stay st)⟩
      · rw [hz (.inr rfl)]
        exact ⟨f2, .refl _, .mv (h.stay st)⟩
      · rcases hs with rfl | ⟨rfl, z⟩
        · exact ⟨fs ++ f2, .refl _, .v r' (h.stay st)⟩
        · exact ⟨fs ++ f2, .refl _, .io r' (h.stay st)⟩
    | succ i =>
      obtain ⟨v, fo, fr, e1, r, pm, io, k⟩ := ih (i := i) (o := o) (by simpa using q)
      refine ⟨v, fo, f1 ++ fr, by simpa using e1, r, ?_, fun z => by simpa using io (by simpa using z), fun s fs F' H' st hs hz => ?_⟩
      · refine (pm.append_left f1).trans ?_
        rw [← List.append_assoc, ← List.append_assoc]
        exact List.perm_append_comm.append_right _
      · obtain ⟨fp', pm', e'⟩ := k s fs F' H' st.right (by simpa using hs) hz
        refine ⟨f1 ++ fp', ?_, .io (r0.stay _ _ _ st.left) e'⟩
        refine (pm'.append_left f1).trans ?_
        rw [← List.append_assoc, ← List.append_assoc]
        exact List.perm_append_comm.append_right _
end DP
end

section
namespace DP
open PySem PySem.Spec PyProof.Rows L2
section
variable {c : Fc} {env : Env} {σ : L2.St} {ts : List O} {us : List V} {F H H' : Hp}
/-- places that are a part of others -/
def Sub (a b : List Addr) : Prop := ∃ r, (a ++ r).Perm b
theorem Sub.refl (a : List Addr) : Sub a a := ⟨[], by simp⟩
theorem Sub.perm {a b : List Addr} (h : a.Perm b) : Sub a b := ⟨[], by simpa using h⟩
theorem Sub.mem {a b : List Addr} (s : Sub a b) : ∀ x ∈ a, x ∈ b := fun x h => by
  obtain ⟨r, p⟩ := s
  exact p.mem_iff.mp (List.mem_append_left _ h)
theorem Sub.nodup {a b : List Addr} (s : Sub a b) (n : b.Nodup) : a.Nodup := by
  obtain ⟨r, p⟩ := s
  exact (List.nodup_append.mp (p.nodup_iff.mpr n)).1
theorem Sub.trans {a b d : List Addr} (s : Sub a b) (t : Sub b d) : Sub a d := by
  obtain ⟨r, p⟩ := s
  obtain ⟨r', p'⟩ := t
  refine ⟨r ++ r', ?_⟩
  rw [← List.append_assoc]
  exact (p.append_right r').trans p'
theorem Sub.app {a b a' b' : List Addr} (s : Sub a b) (t : Sub a' b') : Sub (a ++ a') (b ++ b') := by
  obtain ⟨r, p⟩ := s
  obtain ⟨r', p'⟩ := t
  refine ⟨r ++ r', ?_⟩
  refine List.Perm.trans ?_ (p.append p')
  rw [List.append_assoc, List.append_assoc]
  refine List.Perm.append_left a ?_
  rw [← List.append_assoc, ← List.append_assoc]
  exact List.perm_append_comm.append_right _
theorem Sub.left (a b : List Addr) : Sub a (a ++ b) := ⟨b, .refl _⟩
theorem Sub.right (a b : List Addr) : Sub b (a ++ b) := ⟨a, List.perm_append_comm⟩
theorem Sub.swap (a b d : List Addr) : Sub (a ++ (b ++ d)) (b ++ (a ++ d)) := .perm (by
  rw [← List.append_assoc, ← List.append_assoc]
  exact List.perm_append_comm.append_right _)
/-- the state anew, over a part of the places -/
theorem Rp.of {fe ft all : List Addr} (f : Fr c F H) (e : REnv c.K F H c.ps env σ fe) (t : ROs c.K F H ts us ft) (s : Sub (fe ++ ft) all) (nd : all.Nodup) (nw : ∀ a ∈ all, c.Hs a = none ∨ a ∈ c.P) : Rp c env σ ts us H :=
  ⟨F, fe, ft, f, e, t, s.nodup nd, fun a z => nw a (s.mem a z)⟩
theorem Rp.slot {i : Nat} {d : PyData} (R : Rp c env σ ts us H) (h : env[i]? = some (.v (.dat d)) ∨ env[i]? = some (.io (.dat d))) : ∃ v, σ[i]? = some (some v) ∧ Rp c env σ (.dat d :: ts) (v :: us) H := by
  obtain ⟨F, fe, ft, f, e, t, nd, nw⟩ := R
  obtain ⟨v, fo, fr, e1, r, pm, _, _⟩ := e.at h
  refine ⟨v, e1, F, fe, ft, f, e, ?_, nd, nw⟩
  cases r with
  | dat r => exact .cons (f1 := []) (.dat r) t
theorem Rp.take {i : Nat} {o : O} (R : Rp c env σ ts us H) (h : env[i]? = some (.v o)) : ∃ v, σ[i]? = some (some v) ∧ Rp c (env.set i .no) σ (o :: ts) (v :: us) H := by
  obtain ⟨F, fe, ft, f, e, t, nd, nw⟩ := R
  obtain ⟨v, fo, fr, e1, r, pm, _, k⟩ := e.at (.inl h)
  have st : Stay fr F H F H := ⟨Ex.refl F, fun a z => (e.own a (pm.mem_iff.mpr (List.mem_append_right _ z))).1, fun _ _ => rfl⟩
  obtain ⟨fp', pm', e'⟩ := k .no [] F H st (.inl rfl) (fun _ => rfl)
  refine ⟨v, e1, Rp.of f e' (.cons r t) (all := fe ++ ft) ?_ nd nw⟩
  exact ((Sub.perm pm').app (.refl _)).trans ((Sub.swap fr fo ft).trans (by
    rw [← List.append_assoc]
    exact .perm (pm.symm.append_right ft)))
theorem Rp.takeIo {i : Nat} {o : O} (R : Rp c env σ ts us H) (h : env[i]? = some (.io o)) : ∃ v, σ[i]? = some (some v) ∧ Rp c (env.set i .mv) σ (o :: ts) (v :: us) H := by
  obtain ⟨F, fe, ft, f, e, t, nd, nw⟩ := R
  obtain ⟨v, fo, fr, e1, r, pm, _, k⟩ := e.at (.inr h)
  have st : Stay fr F H F H := ⟨Ex.refl F, fun a z => (e.own a (pm.mem_iff.mpr (List.mem_append_right _ z))).1, fun _ _ => rfl⟩
  obtain ⟨fp', pm', e'⟩ := k .mv [] F H st (.inr (.inl ⟨rfl, h⟩)) (fun _ => rfl)
  refine ⟨v, e1, Rp.of f e' (.cons r t) (all := fe ++ ft) ?_ nd nw⟩
  exact ((Sub.perm pm').app (.refl _)).trans ((Sub.swap fr fo ft).trans (by
    rw [← List.append_assoc]
    exact .perm (pm.symm.append_right ft)))
end
/-- a slot is stored -/
theorem REnv.store {K : Frag} {F H : Hp} {ps : List (Option V)} {env : Env} {σ : L2.St} {fp : List Addr} (h : REnv K F H ps env σ fp) {o : O} {v : V} {fo : List Addr} (r : RO K F H o v fo) : ∀ {i : Nat}, (env[i]? = some .no ∨ ∃ o', env[i]? = some (.v o')) →
    ∃ fp', Sub fp' (fo ++ fp) ∧ REnv K F H ps (env.set i (.v o)) (σ.set i (some v)) fp' := by
  induction h with
  | nil => intro i q; rcases q with q | ⟨o', q⟩ <;> simp at q
  | @no p ps env x σ fp h ih =>
    intro i q
    cases i with
    | zero => exact ⟨fo ++ fp, .refl _, .v r h⟩
    | succ i =>
      obtain ⟨fp', s, e⟩ := ih (i := i) (by simpa using q)
      exact ⟨fp', s, .no e⟩
  | @mv ps v0 env σ fp h ih =>
    intro i q
    cases i with
    | zero => rcases q with q | ⟨o', q⟩ <;> simp at q
    | succ i =>
      obtain ⟨fp', s, e⟩ := ih (i := i) (by simpa using q)
      exact ⟨fp', s, .mv e⟩
  | @v p ps o0 v0 env σ f1 f2 r0 h ih =>
    intro i q
    cases i with
    | zero => exact ⟨fo ++ f2, (Sub.refl fo).app (Sub.right f1 f2), .v r h⟩
    | succ i =>
      obtain ⟨fp', s, e⟩ := ih (i := i) (by simpa using q)
      exact ⟨f1 ++ fp', ((Sub.refl f1).app s).trans (Sub.swap f1 fo f2), .v r0 e⟩
  | @io ps o0 v0 env σ f1 f2 r0 h ih =>
    intro i q
    cases i with
    | zero => rcases q with q | ⟨o', q⟩ <;> simp at q
    | succ i =>
      obtain ⟨fp', s, e⟩ := ih (i := i) (by simpa using q)
      exact ⟨f1 ++ fp', ((Sub.refl f1).app s).trans (Sub.swap f1 fo f2), .io r0 e⟩
/-- a tree comes back to its slot -/
def putBack (env : Env) (i : Nat) (o : O) : Env := match env[i]? with
  | some .mv => env.set i (.io o)
  | some .no => env.set i (.v o)
  | _ => env
theorem REnv.back {K : Frag} {F H : Hp} {ps : List (Option V)} {env : Env} {σ : L2.St} {fp : List Addr} (h : REnv K F H ps env σ fp) {o : O} {v : V} {fo : List Addr} (r : RO K F H o v fo) : ∀ {i : Nat}, σ[i]? = some (some v) →
    ∃ fp', Sub fp' (fo ++ fp) ∧ REnv K F H ps (putBack env i o) σ fp' := by
  induction h with
  | nil => intro i q; simp at q
  | @no p ps env x σ fp h ih =>
    intro i q
    cases i with
    | zero =>
      have e : x = some v := by simpa using q
      subst e
      exact ⟨fo ++ fp, .refl _, .v r h⟩
    | succ i =>
      obtain ⟨fp', s, e⟩ := ih (i := i) (by simpa using q)
      refine ⟨fp', s, ?_⟩
      have z : putBack (.no :: env) (i + 1) o = .no :: putBack env i o := by
        unfold putBack
        simp only [List.getElem?_cons_succ]
        cases env[i]? with
        | none => rfl
        | some s => cases s <;> rfl
      rw [z]
      exact .no e
  | @mv ps v0 env σ fp h ih =>
    intro i q
    cases i with
    | zero =>
      have e : v0 = v := by simpa using q
      subst e
      exact ⟨fo ++ fp, .refl _, .io r h⟩
    | succ i =>
      obtain ⟨fp', s, e⟩ := ih (i := i) (by simpa using q)
      refine ⟨fp', s, ?_⟩
      have z : putBack (.mv :: env) (i + 1) o = .mv :: putBack env i o := by
        unfold putBack
        simp only [List.getElem?_cons_succ]
        cases env[i]? with
        | none => rfl
        | some s => cases s <;> rfl
      rw [z]
      exact .mv e
  | @v p ps o0 v0 env σ f1 f2 r0 h ih =>
    intro i q
    cases i with
    | zero => exact ⟨f1 ++ f2, Sub.right fo _, .v r0 h⟩
    | succ i =>
      obtain ⟨fp', s, e⟩ := ih (i := i) (by simpa using q)
      refine ⟨f1 ++ fp', ((Sub.refl f1).app s).trans (Sub.swap f1 fo f2), ?_⟩
      have z : putBack (.v o0 :: env) (i + 1) o = .v o0 :: putBack env i o := by
        unfold putBack
        simp only [List.getElem?_cons_succ]
        cases env[i]? with
        | none => rfl
        | some s => cases s <;> rfl
      rw [z]
      exact .v r0 e
  | @io ps o0 v0 env σ f1 f2 r0 h ih =>
    intro i q
    cases i with
    | zero => exact ⟨f1 ++ f2, Sub.right fo _, .io r0 h⟩
    | succ i =>
      obtain ⟨fp', s, e⟩ := ih (i := i) (by simpa using q)
      refine ⟨f1 ++ fp', ((Sub.refl f1).app s).trans (Sub.swap f1 fo f2), ?_⟩
      have z : putBack (.io o0 :: env) (i + 1) o = .io o0 :: putBack env i o := by
        unfold putBack
        simp only [List.getElem?_cons_succ]
        cases env[i]? with
        | none => rfl
        | some s => cases s <;> rfl
      rw [z]
      exact .io r0 e
section
variable {c : Fc} {env : Env} {σ : L2.St} {ts : List O} {us : List V} {F H H' : Hp}
theorem Rp.store {i : Nat} {o : O} {v : V} (R : Rp c env σ (o :: ts) (v :: us) H) (h : env[i]? = some .no ∨ ∃ o', env[i]? = some (.v o')) : Rp c (env.set i (.v o)) (σ.set i (some v)) ts us H := by
  obtain ⟨F, fe, ft, f, e, t, nd, nw⟩ := R
  cases t with
  | cons r t =>
    rename_i f1 f2
    obtain ⟨fp', s, e'⟩ := e.store r h
    refine Rp.of f e' t (all := fe ++ (f1 ++ f2)) ((s.app (.refl f2)).trans ?_) nd nw
    rw [List.append_assoc]
    exact Sub.swap f1 fe f2
theorem Rp.back {i : Nat} {o : O} {v : V} (R : Rp c env σ (o :: ts) (v :: us) H) (h : σ[i]? = some (some v)) : Rp c (putBack env i o) σ ts us H := by
  obtain ⟨F, fe, ft, f, e, t, nd, nw⟩ := R
  cases t with
  | cons r t =>
    rename_i f1 f2
    obtain ⟨fp', s, e'⟩ := e.back r h
    refine Rp.of f e' t (all := fe ++ (f1 ++ f2)) ((s.app (.refl f2)).trans ?_) nd nw
    rw [List.append_assoc]
    exact Sub.swap f1 fe f2
/-- a slot is forgotten -/
theorem Rp.forget {i : Nat} (R : Rp c env σ ts us H) (h : env[i]? = some .no ∨ ∃ o', env[i]? = some (.v o')) : Rp c (env.set i .no) σ ts us H := by
  rcases h with h | ⟨o, h⟩
  · have : env.set i .no = env := by
      obtain ⟨hi, e⟩ := List.getElem?_eq_some_iff.mp h
      rw [← e]
      exact List.set_getElem_self hi
    rw [this]; exact R
  · obtain ⟨v, _, R'⟩ := R.take h
    exact R'.pop
end
section
variable {X : Cx} {c : Fc}
theorem de_var {i : Nat} {e : Expr} (h : PE X e (tVar i)) : DE X c true e (kVar i) := by
  refine ⟨fun _ env o env' h => ?_, h.weak fun σ H Q ⟨env, ts, us, R, q⟩ => ?_⟩
  · unfold kVar at h
    split at h
    · cases h; rfl
    · cases h; rfl
    · cases h
  · unfold kVar at q
    split at q
    · rename_i d e
      obtain ⟨v, e1, R'⟩ := R.slot (.inl e)
      exact ⟨v, e1, q v H R' fun _ => Ex.refl H⟩
    · rename_i d e
      obtain ⟨v, e1, R'⟩ := R.slot (.inr e)
      exact ⟨v, e1, q v H R' fun _ => Ex.refl H⟩
    · exact q.elim
theorem Pu.no {α : Type} {f : Env → RE α} : Pu false f := fun h => Bool.noConfusion h
theorem de_mov {i : Nat} {e : Expr} (h : PE X e (tVar i)) : DE X c false e (kMov i) := by
  refine ⟨Pu.no, h.weak fun σ H Q ⟨env, ts, us, R, q⟩ => ?_⟩
  unfold kMov at q
  split at q
  · rename_i d e
    obtain ⟨v, e1, R'⟩ := R.slot (.inl e)
    exact ⟨v, e1, q v H R' fun z => nomatch z⟩
  · rename_i o _ e
    obtain ⟨v, e1, R'⟩ := R.take e
    exact ⟨v, e1, q v H R' fun z => nomatch z⟩
  · rename_i o e
    obtain ⟨v, e1, R'⟩ := R.takeIo e
    exact ⟨v, e1, q v H R' fun z => nomatch z⟩
  · exact q.elim
theorem set_self_eq {σ : L2.St} {i : Nat} {v : V} (h : σ[i]? = some (some v)) : σ.set i (some v) = σ := by
  obtain ⟨hi, e⟩ := List.getElem?_eq_some_iff.mp h
  rw [← e]
  exact List.set_getElem_self hi
theorem de_frz {i : Nat} {e : Expr} (h : PE X e (tVar i)) : DE X c false e (kFrz i) := by
  refine ⟨Pu.no, h.weak fun σ H Q ⟨env, ts, us, R, q⟩ => ?_⟩
  unfold kFrz at q
  split at q
  · rename_i o e
    split at q
    · rename_i d ed
      obtain ⟨v, e1, R'⟩ := R.take e
      have R2 := (R'.freeze ed).store (i := i) (.inl (by
        rw [List.getElem?_set_self (List.getElem?_eq_some_iff.mp e).1]))
      rw [set_self_eq e1, List.set_set] at R2
      obtain ⟨v', e1', R3⟩ := R2.slot (i := i) (d := d) (.inl (List.getElem?_set_self (List.getElem?_eq_some_iff.mp e).1))
      exact ⟨v', e1', q v' H R3 fun z => nomatch z⟩
    · exact q.elim
  · rename_i d e
    obtain ⟨v, e1, R'⟩ := R.slot (.inr e)
    exact ⟨v, e1, q v H R' fun z => nomatch z⟩
  · exact q.elim
/-! ### argument lists -/
def kMark (i : Nat) : EF := fun env => match env[i]? with
  | some (.v _) => .ok .any env
  | some (.io _) => .ok .any env
  | _ => .no
def kNil : Env → RE (List O) := fun env => .ok [] env
def kCons (f : EF) (g : Env → RE (List O)) : Env → RE (List O) := fun env => (f env).bind fun o env1 => (g env1).bind fun os env2 => .ok (o :: os) env2
theorem da_nil : DA X c true [] [] kNil := ⟨fun _ env o env' h => by cases h; rfl, pa_nil.weak fun σ H Q ⟨env, ts, us, R, q⟩ => q [] H R rfl rfl (fun k i z => by simp at z) fun _ => Ex.refl H⟩
theorem and_ex {p1 p2 : Bool} {H H1 H2 : Hp} (a : p1 = true → Ex H H1) (b : p2 = true → Ex H1 H2) : (p1 && p2) = true → Ex H H2 := fun h => by
  cases p1 <;> cases p2 <;> simp at h
  exact (a rfl).trans (b rfl)
theorem pu_cons {p1 p2 : Bool} {f : EF} {g : Env → RE (List O)} (hf : Pu p1 f) (hg : Pu p2 g) : Pu (p1 && p2) (kCons f g) := fun h env o env' q => by
  cases p1 <;> cases p2 <;> simp at h
  unfold kCons RE.bind at q
  cases e1 : f env with
  | no => rw [e1] at q; cases q
  | err x en => rw [e1] at q; cases q
  | ok o1 en1 =>
    rw [e1] at q
    have z1 := hf rfl _ _ _ e1
    subst z1
    simp only at q
    cases e2 : g en1 with
    | no => rw [e2] at q; cases q
    | err x en => rw [e2] at q; cases q
    | ok o2 en2 =>
      rw [e2] at q
      have z2 := hg rfl _ _ _ e2
      subst z2
      cases q
      rfl
/-- e and the rest, e of any kind: what is known of its value beside -/
theorem da_cons0 {p1 p2 : Bool} {e : Expr} {es : List Expr} {f : EF} {g : Env → RE (List O)} {ios : List (Option Nat)} {w : Option Nat} {te : TE} (hp : Pu p1 f) (he : PE X e te)
    (hte : ∀ σ H Q, (∃ env ts us, Rp c env σ ts us H ∧ PostE c p1 σ ts us H (fun v H' => (∀ i, w = some i → σ[i]? = some (some v)) → Q v H') (f env)) → te σ H Q)
    (h2 : DA X c p2 ios es g) (hs : starEach (e :: es) X.env = (false, eval e X.env) :: starEach es X.env) : DA X c (p1 && p2) (w :: ios) (e :: es) (kCons f g) := by
  refine ⟨pu_cons hp h2.pure, (pa_cons he h2.run hs).weak fun σ H Q ⟨env, ts, us, R, q⟩ => ?_⟩
  refine hte σ H _ ⟨env, ts, us, R, ?_⟩
  unfold kCons RE.bind at q
  cases e1 : f env with
  | no => rw [e1] at q; exact q.elim
  | err x en => rw [e1] at q; exact q
  | ok o1 en1 =>
    rw [e1] at q
    intro v H1 R1 x1 hw
    refine ⟨en1, o1 :: ts, v :: us, R1, ?_⟩
    simp only at q
    cases e2 : g en1 with
    | no => rw [e2] at q; exact q.elim
    | err x en =>
      rw [e2] at q
      exact fun H2 R2 => q H2 R2.pop
    | ok os en2 =>
      rw [e2] at q
      intro vs H2 R2 hl hli hw2 x2
      refine q (v :: vs) H2 (R2.turn hl) (by simp [hl]) (by simp [hli]) (fun k i z => ?_) (and_ex x1 x2)
      cases k with
      | zero =>
        have z' : w = some i := by simpa using z
        simpa using hw i z'
      | succ k => simpa using hw2 k i (by simpa using z)
theorem da_cons {p1 p2 : Bool} {e : Expr} {es : List Expr} {f : EF} {g : Env → RE (List O)} {ios : List (Option Nat)} (h1 : DE X c p1 e f) (h2 : DA X c p2 ios es g) (hs : starEach (e :: es) X.env = (false, eval e X.env) :: starEach es X.env := by rfl) :
    DA X c (p1 && p2) (none :: ios) (e :: es) (kCons f g) :=
  da_cons0 h1.pure h1.run (fun σ H Q ⟨env, ts, us, R, q⟩ => ⟨env, ts, us, R, by
    cases e1 : f env with
    | no => rw [e1] at q; exact q.elim
    | err x en => rw [e1] at q; exact q
    | ok o1 en1 => rw [e1] at q; exact fun v H1 R1 x1 => q v H1 R1 x1 fun i z => nomatch z⟩) h2 hs
/-- a name whose tree is lent: it is taken when the call comes -/
def kAny : EF := fun env => .ok .any env
theorem Rp.top {c : Fc} {env : Env} {σ : L2.St} {ts : List O} {us : List V} {H : Hp} {v : V} (R : Rp c env σ ts us H) : Rp c env σ (.any :: ts) (v :: us) H := by
  obtain ⟨F, fe, ft, f, e, t, nd, nw⟩ := R
  exact ⟨F, fe, ft, f, e, .cons (f1 := []) .any t, nd, nw⟩
theorem da_lend {p2 : Bool} {i : Nat} {e : Expr} {es : List Expr} {g : Env → RE (List O)} {ios : List (Option Nat)} (h1 : PE X e (tVar i)) (h2 : DA X c p2 ios es g) (hs : starEach (e :: es) X.env = (false, eval e X.env) :: starEach es X.env := by rfl) :
    DA X c (false && p2) (some i :: ios) (e :: es) (kCons (kMark i) g) :=
  da_cons0 Pu.no h1 (fun σ H Q ⟨env, ts, us, R, q⟩ => by
    unfold kMark at q
    split at q
    · rename_i o e
      obtain ⟨v, e1, _⟩ := R.take e
      exact ⟨v, e1, q v H R.top (fun z => nomatch z) fun j z => by cases z; exact e1⟩
    · rename_i o e
      obtain ⟨v, e1, _⟩ := R.takeIo e
      exact ⟨v, e1, q v H R.top (fun z => nomatch z) fun j z => by cases z; exact e1⟩
    · exact q.elim) h2 hs
/-! ### displays -/
/-- a tuple is frozen where it can be -/
def O.fz : O → O
  | .node .tup xs => match O.toDs xs with
    | some ds => .dat (.tuple ds)
    | none => .node .tup xs
  | o => o
theorem Rp.fz {c : Fc} {env : Env} {σ : L2.St} {ts : List O} {us : List V} {H : Hp} {o : O} {v : V} (R : Rp c env σ (o :: ts) (v :: us) H) : Rp c env σ (O.fz o :: ts) (v :: us) H := by
  unfold O.fz
  split
  · split
    · rename_i xs ds e
      exact R.freeze (by rw [O.toD, e]; rfl)
    · exact R
  · exact R
def kMk (s : Shp) (g : Env → RE (List O)) : EF := fun env => (g env).bind fun os env1 => if os.length ≤ 1000000 then .ok (O.fz (.node s os)) env1 else .no
theorem sz_ok {n : Nat} (h : n ≤ 1000000) : n ≤ sizeLine := Nat.le_trans h (by decide)
theorem pu_mk {p : Bool} {s : Shp} {g : Env → RE (List O)} (hg : Pu p g) : Pu p (kMk s g) := fun h env o env' q => by
  unfold kMk RE.bind at q
  cases e1 : g env with
  | no => rw [e1] at q; cases q
  | err x en => rw [e1] at q; cases q
  | ok o1 en1 =>
    rw [e1] at q
    have z1 := hg h _ _ _ e1
    subst z1
    simp only at q
    split at q
    · cases q; rfl
    · cases q
theorem disp {p : Bool} {s : Shp} {g : Env → RE (List O)} {ios : List (Option Nat)} {mk : List V → HO} (ho : ∀ vs, s.ho vs (mk vs)) {σ : L2.St} {H : Hp} {Q : VK} (h : tE c p (kMk s g) σ H Q) :
    tAq c p ios g σ H fun vs H1 => vs.length ≤ sizeLine ∧ ∀ q, H1 q = none → Q (.ref q) (upd H1 q (mk vs)) := by
  obtain ⟨env, ts, us, R, q⟩ := h
  refine ⟨env, ts, us, R, ?_⟩
  unfold kMk RE.bind at q
  cases e1 : g env with
  | no => rw [e1] at q; exact q.elim
  | err x en => rw [e1] at q; exact q
  | ok os en1 =>
    rw [e1] at q
    simp only at q
    intro vs H1 R1 hl _ _ x1
    split at q
    · rename_i hz
      exact ⟨sz_ok (hl ▸ hz), fun p0 hp => q _ _ (R1.mk hl hp (ho vs)).fz fun z => (x1 z).trans (Ex.new hp)⟩
    · exact q.elim
theorem de_tup {p : Bool} {ios : List (Option Nat)} {es : List Expr} {g : Env → RE (List O)} {k pos} (h : DA X c p ios es g) : DE X c p (.Tuple es k pos) (kMk .tup g) :=
  ⟨pu_mk h.pure, (pe_tup h.run).weak fun σ H Q q => disp (s := .tup) (mk := .tup) (fun _ => rfl) q⟩
theorem de_lst {p : Bool} {ios : List (Option Nat)} {es : List Expr} {g : Env → RE (List O)} {pos} (h : DA X c p ios es g) : DE X c p (.List es pos) (kMk .lst g) :=
  ⟨pu_mk h.pure, (pe_lst h.run).weak fun σ H Q q => disp (s := .lst) (mk := .lst) (fun _ => rfl) q⟩
end
end DP
end

section
namespace DP
open PySem PySem.Spec PyProof.Rows L2
/-- a result: a tree, new (or out of the places fo), the frozen part grown by new places -/
def Res (K : Frag) (F H : Hp) (fo : List Addr) (z : O) (Q : VK) : Prop := ∀ v H' F' fp, Grow F H F' H' → RO K F' H' z v fp → fp.Nodup → (∀ a ∈ fp, H a = none ∨ a ∈ fo) → Q v H'
theorem Res.sc {K : Frag} {F H : Hp} {fo : List Addr} {d : PyData} {v : V} {Q : VK} (q : Res K F H fo (.dat d) Q) (s : Ex F H) (h : DR K F v d) : Q v H := q v H F [] (Grow.of s (Ex.refl H)) (.dat h) List.nodup_nil fun _ z => nomatch z
/-- a new tuple, frozen at once -/
theorem Res.tup {K : Frag} {F H : Hp} {fo : List Addr} {ds : List PyData} {vs : List V} {Q : VK} (q : Res K F H fo (.dat (.tuple ds)) Q) (s : Ex F H) (h : DRs K F vs ds) {p : Addr} (hp : H p = none) : Q (.ref p) (upd H p (.tup vs)) := by
  have fp : F p = none := s.free hp
  refine q _ _ (upd F p (.tup vs)) [] ⟨Ex.new hp, Ex.new fp, fun a o e => ?_, fun a z => ?_⟩ (.dat (.tup (SqT.of upd_same) ((Ex.new fp).dpAll _ _ h))) List.nodup_nil fun _ z => nomatch z
  · by_cases z : a = p
    · subst z; rw [upd_same] at e; rw [upd_same]; exact e
    · rw [upd_ne z] at e; rw [upd_ne z]; exact s a o e
  · by_cases y : a = p
    · exact .inr (y ▸ hp)
    · rw [upd_ne y] at z; exact .inl z
/-- a new list of frozen data -/
theorem Res.lst {K : Frag} {F H : Hp} {fo : List Addr} {ds : List PyData} {vs : List V} {Q : VK} (q : Res K F H fo (.node .lst (ds.map .dat)) Q) (s : Ex F H) (h : DRs K F vs ds) {p : Addr} (hp : H p = none) : Q (.ref p) (upd H p (.lst vs)) := by
  have r : ROs K F (upd H p (.lst vs)) (ds.map .dat) vs [] := dpAll_os h
  exact q _ _ F [p] (Grow.of s (Ex.new hp)) (.node (s.free hp) upd_same rfl r) (by simp) fun a z => .inl (by rw [List.mem_singleton.mp z]; exact hp)
/-- two-place operations on data -/
def Op2 (K : Frag) (r : R2) (g : PyData → PyData → Option O) : Prop := ∀ F H x y d1 d2 z, Ex F H → DR K F x d1 → DR K F y d2 → g d1 d2 = some z → ∀ Q, Res K F H [] z Q → r x y H Q
def Op1 (K : Frag) (r : V → Hp → VK → Prop) (g : PyData → Option O) : Prop := ∀ F H x d z, Ex F H → DR K F x d → g d = some z → ∀ Q, Res K F H [] z Q → r x H Q
def Opn (K : Frag) (r : List V → Hp → VK → Prop) (g : List PyData → Option O) : Prop := ∀ F H xs ds z, Ex F H → DRs K F xs ds → g ds = some z → ∀ Q, Res K F H [] z Q → r xs H Q
def k2 (g : PyData → PyData → Option O) (f1 f2 : EF) : EF := fun env => (f1 env).bind fun o1 e1 => (f2 e1).bind fun o2 e2 => match o1.toD, o2.toD with
  | some d1, some d2 => match g d1 d2 with
    | some z => .ok z e2
    | none => .no
  | _, _ => .no
def k1 (g : PyData → Option O) (f1 : EF) : EF := fun env => (f1 env).bind fun o1 e1 => match o1.toD with
  | some d1 => match g d1 with
    | some z => .ok z e1
    | none => .no
  | _ => .no
def kn (g : List PyData → Option O) (f : Env → RE (List O)) : EF := fun env => (f env).bind fun os e1 => match O.toDs os with
  | some ds => match g ds with
    | some z => .ok z e1
    | none => .no
  | _ => .no
section
variable {X : Cx} {c : Fc} {p1 p2 : Bool} {f1 f2 : EF} {σ : L2.St} {H : Hp} {Q : VK}
theorem pu_2 {g : PyData → PyData → Option O} (h1 : Pu p1 f1) (h2 : Pu p2 f2) : Pu (p1 && p2) (k2 g f1 f2) := fun h env o env' q => by
  cases p1 <;> cases p2 <;> simp at h
  unfold k2 RE.bind at q
  cases e1 : f1 env with
  | no => rw [e1] at q; cases q
  | err x en => rw [e1] at q; cases q
  | ok o1 en1 =>
    rw [e1] at q
    have z1 := h1 rfl _ _ _ e1
    subst z1
    simp only at q
    cases e2 : f2 en1 with
    | no => rw [e2] at q; cases q
    | err x en => rw [e2] at q; cases q
    | ok o2 en2 =>
      rw [e2] at q
      have z2 := h2 rfl _ _ _ e2
      subst z2
      simp only at q
      split at q
      · split at q
        · cases q; rfl
        · cases q
      · cases q
theorem pu_1 {g : PyData → Option O} (h1 : Pu p1 f1) : Pu p1 (k1 g f1) := fun h env o env' q => by
  unfold k1 RE.bind at q
  cases e1 : f1 env with
  | no => rw [e1] at q; cases q
  | err x en => rw [e1] at q; cases q
  | ok o1 en1 =>
    rw [e1] at q
    have z1 := h1 h _ _ _ e1
    subst z1
    simp only at q
    split at q
    · split at q
      · cases q; rfl
      · cases q
    · cases q
theorem pu_n {g : List PyData → Option O} {f : Env → RE (List O)} (h1 : Pu p1 f) : Pu p1 (kn g f) := fun h env o env' q => by
  unfold kn RE.bind at q
  cases e1 : f env with
  | no => rw [e1] at q; cases q
  | err x en => rw [e1] at q; cases q
  | ok o1 en1 =>
    rw [e1] at q
    have z1 := h1 h _ _ _ e1
    subst z1
    simp only at q
    split at q
    · split at q
      · cases q; rfl
      · cases q
    · cases q
/-- two temporaries of data on top: an operation on them -/
theorem Rp.op2 {env : Env} {ts : List O} {us : List V} {r : R2} {g : PyData → PyData → Option O} {o1 o2 z : O} {d1 d2 : PyData} {x y : V} (hr : Op2 c.K r g) (R : Rp c env σ (o2 :: o1 :: ts) (y :: x :: us) H) (e1 : o1.toD = some d1) (e2 : o2.toD = some d2) (e : g d1 d2 = some z)
    (q : ∀ v H', Rp c env σ (z :: ts) (v :: us) H' → Ex H H' → Q v H') : r x y H Q := by
  have R1 := (Rp.turn (xs := [.dat d2]) (vs := [y]) (R.freeze e2) rfl).freeze e1
  obtain ⟨F, fe, ft, f, en, t, nd, nw⟩ := R1
  cases t with
  | cons ra t =>
    cases t with
    | cons rb t =>
      cases ra with
      | dat ra =>
        cases rb with
        | dat rb =>
          refine hr F H x y d1 d2 z f.sub ra rb e Q fun v H' F' fp gr ro nf hf => q v H' (Rp.grow (fo := []) f en t nd nw gr ro nf hf) gr.h
theorem Rp.op1 {env : Env} {ts : List O} {us : List V} {r : V → Hp → VK → Prop} {g : PyData → Option O} {o1 z : O} {d1 : PyData} {x : V} (hr : Op1 c.K r g) (R : Rp c env σ (o1 :: ts) (x :: us) H) (e1 : o1.toD = some d1) (e : g d1 = some z)
    (q : ∀ v H', Rp c env σ (z :: ts) (v :: us) H' → Ex H H' → Q v H') : r x H Q := by
  obtain ⟨F, fe, ft, f, en, t, nd, nw⟩ := R.freeze e1
  cases t with
  | cons ra t =>
    cases ra with
    | dat ra =>
      refine hr F H x d1 z f.sub ra e Q fun v H' F' fp gr ro nf hf => q v H' (Rp.grow (fo := []) f en t nd nw gr ro nf hf) gr.h
/-- all the first trees are frozen -/
theorem Rp.freezes {env : Env} : ∀ {os : List O} {vs : List V} {ds : List PyData} {ts : List O} {us : List V}, Rp c env σ (os ++ ts) (vs ++ us) H → os.length = vs.length → O.toDs os = some ds → Rp c env σ (ds.map .dat ++ ts) (vs ++ us) H
  | [], [], ds, ts, us, R, _, e => by
    rw [O.toDs] at e
    cases e
    exact R
  | o :: os, v :: vs, ds, ts, us, R, hl, e => by
    rw [O.toDs] at e
    cases q1 : o.toD with
    | none => rw [q1] at e; cases e
    | some d =>
      cases q2 : O.toDs os with
      | none => rw [q1, q2] at e; cases e
      | some ds' =>
        rw [q1, q2] at e
        cases e
        have hl' : os.length = vs.length := by simpa using hl
        have R1 : Rp c env σ (.dat d :: (os ++ ts)) (v :: (vs ++ us)) H := Rp.freeze (o := o) R q1
        have R2 : Rp c env σ (os ++ .dat d :: ts) (vs ++ v :: us) H := by
          obtain ⟨F, fe, ft, f, en, t, nd, nw⟩ := R1
          cases t with
          | cons r t =>
            cases r with
            | dat r =>
              obtain ⟨f1, f2, rfl, t1, t2⟩ := t.split' hl'
              exact ⟨F, fe, _, f, en, t1.app (.cons (f1 := []) (.dat r) t2), by simpa using nd, by simpa using nw⟩
        exact Rp.turn (Rp.freezes R2 hl' q2) (by rw [List.length_map]; exact (toDs_len q2).trans hl')
  | [], _ :: _, _, _, _, _, hl, _ => by simp at hl
  | _ :: _, [], _, _, _, _, hl, _ => by simp at hl
where toDs_len : ∀ {os : List O} {ds : List PyData}, O.toDs os = some ds → ds.length = os.length
  | [], _, e => by rw [O.toDs] at e; cases e; rfl
  | o :: os, _, e => by
    rw [O.toDs] at e
    cases q1 : o.toD with
    | none => rw [q1] at e; cases e
    | some d =>
      cases q2 : O.toDs os with
      | none => rw [q1, q2] at e; cases e
      | some ds' =>
        rw [q1, q2] at e
        cases e
        simp [toDs_len q2]
theorem drs_of {K : Frag} {F H : Hp} : ∀ {ds : List PyData} {vs : List V} {fp : List Addr}, ROs K F H (ds.map .dat) vs fp → DRs K F vs ds ∧ fp = []
  | [], _, _, h => by cases h; exact ⟨.nil, rfl⟩
  | d :: ds, _, _, h => by
    cases h with
    | cons h1 h2 =>
      cases h1 with
      | dat h1 =>
        obtain ⟨a, b⟩ := drs_of h2
        subst b
        exact ⟨.cons h1 a, rfl⟩
theorem Rp.opn {env : Env} {ts : List O} {us : List V} {r : List V → Hp → VK → Prop} {g : List PyData → Option O} {os : List O} {z : O} {ds : List PyData} {vs : List V} (hr : Opn c.K r g) (R : Rp c env σ (os ++ ts) (vs ++ us) H) (hl : os.length = vs.length) (e1 : O.toDs os = some ds) (e : g ds = some z)
    (q : ∀ v H', Rp c env σ (z :: ts) (v :: us) H' → Ex H H' → Q v H') : r vs H Q := by
  obtain ⟨F, fe, ft, f, en, t, nd, nw⟩ := R.freezes hl e1
  obtain ⟨fa, fb, rfl, ta, tb⟩ := t.split' (by rw [List.length_map]; exact (Rp.freezes.toDs_len e1).trans hl)
  obtain ⟨ra, rfl⟩ := drs_of ta
  exact hr F H vs ds z f.sub ra e Q fun v H' F' fp gr ro nf hf => q v H' (Rp.grow (fo := []) f en tb nd nw gr ro nf hf) gr.h
theorem t_op2 {r : R2} {g : PyData → PyData → Option O} (hr : Op2 c.K r g) (h : tE c (p1 && p2) (k2 g f1 f2) σ H Q) : tOp r (tE c p1 f1) (tE c p2 f2) σ H Q := by
  obtain ⟨env, ts, us, R, q⟩ := h
  refine ⟨env, ts, us, R, ?_⟩
  unfold k2 RE.bind at q
  cases e1 : f1 env with
  | no => rw [e1] at q; exact q.elim
  | err x en => rw [e1] at q; exact q
  | ok o1 en1 =>
    rw [e1] at q
    intro x H1 R1 x1
    refine ⟨en1, o1 :: ts, x :: us, R1, ?_⟩
    simp only at q
    cases e2 : f2 en1 with
    | no => rw [e2] at q; exact q.elim
    | err x en =>
      rw [e2] at q
      exact fun H2 R2 => q H2 R2.pop
    | ok o2 en2 =>
      rw [e2] at q
      intro y H2 R2 x2
      simp only at q
      split at q
      · rename_i d1 d2 z1 z2
        split at q
        · rename_i z ez
          exact R2.op2 hr z1 z2 ez fun v H' R3 x3 => q v H' R3 fun h => (and_ex x1 x2 h).trans x3
        · exact q.elim
      · exact q.elim
theorem t_op1 {r : V → Hp → VK → Prop} {g : PyData → Option O} (hr : Op1 c.K r g) (h : tE c p1 (k1 g f1) σ H Q) : tUn r (tE c p1 f1) σ H Q := by
  obtain ⟨env, ts, us, R, q⟩ := h
  refine ⟨env, ts, us, R, ?_⟩
  unfold k1 RE.bind at q
  cases e1 : f1 env with
  | no => rw [e1] at q; exact q.elim
  | err x en => rw [e1] at q; exact q
  | ok o1 en1 =>
    rw [e1] at q
    intro x H1 R1 x1
    simp only at q
    split at q
    · rename_i d1 z1
      split at q
      · rename_i z ez
        exact R1.op1 hr z1 ez fun v H' R3 x3 => q v H' R3 fun h => (x1 h).trans x3
      · exact q.elim
    · exact q.elim
theorem t_opn {r : List V → Hp → VK → Prop} {g : List PyData → Option O} {f : Env → RE (List O)} {ios : List (Option Nat)} (hr : Opn c.K r g) (h : tE c p1 (kn g f) σ H Q) : tCB r (tAq c p1 ios f) σ H Q := by
  obtain ⟨env, ts, us, R, q⟩ := h
  refine ⟨env, ts, us, R, ?_⟩
  unfold kn RE.bind at q
  cases e1 : f env with
  | no => rw [e1] at q; exact q.elim
  | err x en => rw [e1] at q; exact q
  | ok os en1 =>
    rw [e1] at q
    intro vs H1 R1 hl _ _ x1
    simp only at q
    split at q
    · rename_i ds z1
      split at q
      · rename_i z ez
        exact R1.opn hr hl z1 ez fun v H' R3 x3 => q v H' R3 fun h => (x1 h).trans x3
      · exact q.elim
    · exact q.elim
/-- a op b -/
theorem de_op {op : Operator} {a b : Expr} {r : R2} {g : PyData → PyData → Option O} {pos : Pos} (ho : OpR X (binaryOp op) r) (hr : Op2 c.K r g) (h1 : DE X c p1 a f1) (h2 : DE X c p2 b f2) : DE X c (p1 && p2) (.BinOp a op b pos) (k2 g f1 f2) :=
  ⟨pu_2 h1.pure h2.pure, (pe_op ho h1.run h2.run).weak fun _ _ _ q => t_op2 hr q⟩
theorem de_un {op : UnaryOp} {a : Expr} {r : V → Hp → VK → Prop} {g : PyData → Option O} {pos : Pos} (ho : UnR X (unaryOp op) r) (hr : Op1 c.K r g) (h1 : DE X c p1 a f1) : DE X c p1 (.UnaryOp op a pos) (k1 g f1) :=
  ⟨pu_1 h1.pure, (pe_un ho h1.run).weak fun _ _ _ q => t_op1 hr q⟩
theorem de_cmp {op : CmpOp} {a b : Expr} {r : R2} {g : PyData → PyData → Option O} {pos : Pos} (ho : OpR X (compareOp op) r) (hr : Op2 c.K r g) (h1 : DE X c p1 a f1) (h2 : DE X c p2 b f2) (hm : behindInMarks op b = false) : DE X c (p1 && p2) (.Compare a [op] [b] pos) (k2 g f1 f2) :=
  ⟨pu_2 h1.pure h2.pure, (pe_cmpR ho h1.run h2.run hm).weak fun _ _ _ q => t_op2 hr q⟩
theorem de_ix {a b : Expr} {r : R2} {g : PyData → PyData → Option O} {pos : Pos} (ho : IxR X r) (hr : Op2 c.K r g) (h1 : DE X c p1 a f1) (h2 : DE X c p2 b f2) (hs : PlainIx b) : DE X c (p1 && p2) (.Subscript a b pos) (k2 g f1 f2) :=
  ⟨pu_2 h1.pure h2.pure, (pe_ix ho h1.run h2.run hs).weak fun _ _ _ q => t_op2 hr q⟩
theorem de_cb {id : String} {x : Str} {e : Expr} {es : List Expr} {r : List V → Hp → VK → Prop} {g : List PyData → Option O} {f : Env → RE (List O)} {ios : List (Option Nat)} {p pos : Pos} (hc : CallR X (.builtin id) r) (hr : Opn c.K r g) (hg : Gl X x) (hm : X.mg x = none) (hv : bootBuiltins x = some (.builtin id))
    (ha : DA X c p1 ios (e :: es) f) (hn : x ≠ "__name__" := by decide) (hdb : (x == ("__debug__" : Str)) = false := by decide)
    (he : starEach (e :: es) X.env = (false, eval e X.env) :: starEach es X.env := by rfl) (hpl : (backTo pos (starEach es X.env)).any (·.1) = false := by rfl) :
    DE X c p1 (.Call (.Name x p) (e :: es) [] pos) (kn g f) :=
  ⟨pu_n ha.pure, (pe_callB hc hg hm hv ha.run hn hdb he hpl).weak fun _ _ _ q => t_opn hr q⟩
theorem de_ct {T : String} {x : Str} {e : Expr} {es : List Expr} {r : List V → Hp → VK → Prop} {g : List PyData → Option O} {f : Env → RE (List O)} {ios : List (Option Nat)} {p pos : Pos} (hc : CallR X (.type T) r) (hr : Opn c.K r g) (hg : Gl X x) (hm : X.mg x = none) (hv : bootBuiltins x = some (.type T))
    (ha : DA X c p1 ios (e :: es) f) (hn : x ≠ "__name__" := by decide) (hdb : (x == ("__debug__" : Str)) = false := by decide)
    (he : starEach (e :: es) X.env = (false, eval e X.env) :: starEach es X.env := by rfl) (hpl : (backTo pos (starEach es X.env)).any (·.1) = false := by rfl) :
    DE X c p1 (.Call (.Name x p) (e :: es) [] pos) (kn g f) :=
  ⟨pu_n ha.pure, (pe_callTy hc hg hm hv ha.run hn hdb he hpl).weak fun _ _ _ q => t_opn hr q⟩
end
end DP
end

section
namespace DP
open PySem PySem.Spec PyProof.Rows L2
/-! ### tests -/
def kB (f : EF) : Env → RE Bool := fun env => (f env).bind fun o e1 => match o with
  | .dat (.bool b) => .ok b e1
  | _ => .no
def kAnd (f g : Env → RE Bool) : Env → RE Bool := fun env => (f env).bind fun b e1 => if b = true then g e1 else .ok false e1
def kOr (f g : Env → RE Bool) : Env → RE Bool := fun env => (f env).bind fun b e1 => if b = true then .ok true e1 else g e1
def kNot (f : Env → RE Bool) : Env → RE Bool := fun env => (f env).bind fun b e1 => .ok (!b) e1
def kAndV (f g : EF) : EF := fun env => (f env).bind fun o e1 => match o with
  | .dat (.bool true) => g e1
  | .dat (.bool false) => .ok (.dat (.bool false)) e1
  | _ => .no
def kOrV (f g : EF) : EF := fun env => (f env).bind fun o e1 => match o with
  | .dat (.bool true) => .ok (.dat (.bool true)) e1
  | .dat (.bool false) => g e1
  | _ => .no
def kNotV (f : EF) : EF := fun env => (f env).bind fun o e1 => match o with
  | .dat (.bool b) => .ok (.dat (.bool !b)) e1
  | _ => .no
def kIte (t : Env → RE Bool) (f g : EF) : EF := fun env => (t env).bind fun b e1 => if b = true then f e1 else g e1
theorem Rp.bl {c : Fc} {env : Env} {σ : L2.St} {ts : List O} {us : List V} {H : Hp} {b : Bool} {v : V} (R : Rp c env σ (.dat (.bool b) :: ts) (v :: us) H) : v = .bl b := by
  obtain ⟨F, fe, ft, f, e, t, nd, nw⟩ := R
  cases t with
  | cons r t =>
    cases r with
    | dat r => cases r; rfl
theorem Rp.bpush {c : Fc} {env : Env} {σ : L2.St} {ts : List O} {us : List V} {H : Hp} {b : Bool} (R : Rp c env σ ts us H) : Rp c env σ (.dat (.bool b) :: ts) (.bl b :: us) H := R.push fun _ _ => .bl b
section
variable {X : Cx} {c : Fc} {p1 p2 p3 : Bool} {f1 f2 f3 : EF} {g1 g2 : Env → RE Bool} {σ : L2.St} {H : Hp} {a b : Expr} {rest : List Expr} {pos : Pos}
theorem pu_bind {α β : Type} {f : Env → RE α} {g : α → Env → RE β} (h1 : Pu p1 f) (h2 : ∀ a, Pu p2 (g a)) : Pu (p1 && p2) (fun env => (f env).bind g) := fun h env o env' q => by
  cases p1 <;> cases p2 <;> simp at h
  unfold RE.bind at q
  cases e1 : f env with
  | no => simp only [e1] at q; cases q
  | err x en => simp only [e1] at q; cases q
  | ok o1 en1 =>
    simp only [e1] at q
    have z1 := h1 rfl _ _ _ e1
    subst z1
    exact h2 o1 rfl _ _ _ q
theorem pu_ok {α : Type} {p : Bool} {a : α} : Pu p (fun env => RE.ok a env) := fun _ env o env' h => by cases h; rfl
theorem pu_no {α : Type} {p : Bool} : Pu (α := α) p (fun env => RE.no) := fun _ env o env' h => by cases h
theorem pu_true (p : Bool) : (p && true) = p := by cases p <;> rfl
theorem pu_kB (h : Pu p1 f1) : Pu p1 (kB f1) := by
  have := pu_bind (p2 := true) h (g := fun o e1 => match o with | .dat (.bool b) => .ok b e1 | _ => .no) fun o => by
    intro _ env o' env' q
    split at q <;> first | (cases q; rfl) | cases q
  rw [pu_true] at this
  exact this
/-- an expression's bool, as a test -/
theorem t_kB {Q : Bool → Hp → Prop} (h : tBq c p1 (kB f1) σ H Q) : tE c p1 f1 σ H fun x H1 => ∃ k, x = .bl k ∧ Q k H1 := by
  obtain ⟨env, ts, us, R, q⟩ := h
  refine ⟨env, ts, us, R, ?_⟩
  unfold kB RE.bind at q
  cases e1 : f1 env with
  | no => rw [e1] at q; exact q.elim
  | err x en => rw [e1] at q; exact q
  | ok o en =>
    rw [e1] at q
    simp only at q
    intro v H1 R1 x1
    split at q
    · rename_i b
      obtain rfl := R1.bl
      exact ⟨b, rfl, q H1 R1.pop x1⟩
    · exact q.elim
theorem dt_val (h : DE X c p1 a f1) (he : ∀ whole, isTrue a X.env whole = (do let v ← whole; standAt a.pos; holding [v] (truthy v)) := by intro _; rfl) : DT X c p1 a (kB f1) :=
  ⟨pu_kB h.pure, (pt_val h.run he).weak fun _ _ _ q => t_kB q⟩
theorem dt_cmp {op : CmpOp} {r : R2} {g : PyData → PyData → Option O} (ho : OpR X (compareOp op) r) (hr : Op2 c.K r g) (h1 : DE X c p1 a f1) (h2 : DE X c p2 b f2) (hm : behindInMarks op b = false) : DT X c (p1 && p2) (.Compare a [op] [b] pos) (kB (k2 g f1 f2)) :=
  ⟨pu_kB (pu_2 h1.pure h2.pure), (pt_cmpR ho h1.run h2.run hm).weak fun _ _ _ q => t_op2 hr (t_kB q)⟩
theorem dw_and1 (h : DT X c p1 a g1) : DW X c p1 (.BoolOp .And [a] pos) g1 := ⟨h.pure, pw_and1 h.run⟩
theorem dw_or1 (h : DT X c p1 a g1) : DW X c p1 (.BoolOp .Or [a] pos) g1 := ⟨h.pure, pw_or1 h.run⟩
theorem pu_ite {α : Type} {c : Prop} [Decidable c] {p : Bool} {f g : Env → RE α} (hf : Pu p f) (hg : Pu p g) : Pu p (fun e => if c then f e else g e) := by
  intro h env o env' q
  simp only at q
  split at q
  · exact hf h _ _ _ q
  · exact hg h _ _ _ q
theorem pu_ff (x : Bool) : (x && true) = x := by cases x <;> rfl
theorem dw_and (h1 : DT X c p1 a g1) (h2 : DW X c p2 (.BoolOp .And (b :: rest) pos) g2) : DW X c (p1 && p2) (.BoolOp .And (a :: b :: rest) pos) (kAnd g1 g2) := by
  refine ⟨pu_bind h1.pure fun x => pu_ite h2.pure pu_ok, (pw_and h1.run h2.run).weak fun σ H Q ⟨env, ts, us, R, q⟩ => ?_⟩
  refine ⟨env, ts, us, R, ?_⟩
  unfold kAnd RE.bind at q
  cases e1 : g1 env with
  | no => rw [e1] at q; exact q.elim
  | err x en => rw [e1] at q; exact q
  | ok o en =>
    rw [e1] at q
    simp only at q
    intro H1 R1 x1
    cases o with
    | true =>
      rw [if_pos rfl] at q ⊢
      refine ⟨en, ts, us, R1, ?_⟩
      cases e2 : g2 en with
      | no => rw [e2] at q; exact q.elim
      | err x en => rw [e2] at q; exact q
      | ok o2 en2 =>
        rw [e2] at q
        exact fun H2 R2 x2 => q H2 R2 (and_ex x1 x2)
    | false =>
      rw [if_neg Bool.false_ne_true] at q ⊢
      exact q H1 R1 fun h => x1 (by cases p1 <;> simp at h; rfl)
theorem dw_or (h1 : DT X c p1 a g1) (h2 : DW X c p2 (.BoolOp .Or (b :: rest) pos) g2) : DW X c (p1 && p2) (.BoolOp .Or (a :: b :: rest) pos) (kOr g1 g2) := by
  refine ⟨pu_bind h1.pure fun x => pu_ite pu_ok h2.pure, (pw_or h1.run h2.run).weak fun σ H Q ⟨env, ts, us, R, q⟩ => ?_⟩
  refine ⟨env, ts, us, R, ?_⟩
  unfold kOr RE.bind at q
  cases e1 : g1 env with
  | no => rw [e1] at q; exact q.elim
  | err x en => rw [e1] at q; exact q
  | ok o en =>
    rw [e1] at q
    simp only at q
    intro H1 R1 x1
    cases o with
    | false =>
      rw [if_neg Bool.false_ne_true] at q ⊢
      refine ⟨en, ts, us, R1, ?_⟩
      cases e2 : g2 en with
      | no => rw [e2] at q; exact q.elim
      | err x en => rw [e2] at q; exact q
      | ok o2 en2 =>
        rw [e2] at q
        exact fun H2 R2 x2 => q H2 R2 (and_ex x1 x2)
    | true =>
      rw [if_pos rfl] at q ⊢
      exact q H1 R1 fun h => x1 (by cases p1 <;> simp at h; rfl)
theorem dt_bool {e : Expr} (h : DW X c p1 e g1) : DT X c p1 e g1 := ⟨h.pure, h.run.pt⟩
theorem dt_not (h : DT X c p1 a g1) : DT X c p1 (.UnaryOp .Not a pos) (kNot g1) := by
  refine ⟨pu_true p1 ▸ pu_bind (p2 := true) h.pure (g := fun b e1 => .ok (!b) e1) fun x => pu_ok, (pt_not h.run).weak fun σ H Q ⟨env, ts, us, R, q⟩ => ?_⟩
  refine ⟨env, ts, us, R, ?_⟩
  unfold kNot RE.bind at q
  cases e1 : g1 env with
  | no => rw [e1] at q; exact q.elim
  | err x en => rw [e1] at q; exact q
  | ok o en => rw [e1] at q; exact q
/-! .. as values -/
theorem de_one {op} (h : DE X c p1 a f1) : DE X c p1 (.BoolOp op [a] pos) f1 := ⟨h.pure, pe_one h.run⟩
theorem de_and (h1 : DE X c p1 a f1) (h2 : DE X c p2 (.BoolOp .And (b :: rest) pos) f2) : DE X c (p1 && p2) (.BoolOp .And (a :: b :: rest) pos) (kAndV f1 f2) := by
  refine ⟨pu_bind h1.pure fun o => ?_, (pe_and h1.run h2.run).weak fun σ H Q ⟨env, ts, us, R, q⟩ => ?_⟩
  · intro h env o' env' q
    split at q
    · exact h2.pure h _ _ _ q
    · cases q; rfl
    · cases q
  · refine ⟨env, ts, us, R, ?_⟩
    unfold kAndV RE.bind at q
    cases e1 : f1 env with
    | no => rw [e1] at q; exact q.elim
    | err x en => rw [e1] at q; exact q
    | ok o en =>
      rw [e1] at q
      simp only at q
      intro v H1 R1 x1
      split at q
      · obtain rfl := R1.bl
        refine ⟨true, rfl, ?_⟩
        rw [if_pos rfl]
        refine ⟨en, ts, us, R1.pop, ?_⟩
        cases e2 : f2 en with
        | no => rw [e2] at q; exact q.elim
        | err x en => rw [e2] at q; exact q
        | ok o2 en2 =>
          rw [e2] at q
          exact fun v2 H2 R2 x2 => q v2 H2 R2 (and_ex x1 x2)
      · obtain rfl := R1.bl
        refine ⟨false, rfl, ?_⟩
        rw [if_neg Bool.false_ne_true]
        exact q _ H1 R1 fun h => x1 (by cases p1 <;> simp at h; rfl)
      · exact q.elim
theorem de_or (h1 : DE X c p1 a f1) (h2 : DE X c p2 (.BoolOp .Or (b :: rest) pos) f2) : DE X c (p1 && p2) (.BoolOp .Or (a :: b :: rest) pos) (kOrV f1 f2) := by
  refine ⟨pu_bind h1.pure fun o => ?_, (pe_or h1.run h2.run).weak fun σ H Q ⟨env, ts, us, R, q⟩ => ?_⟩
  · intro h env o' env' q
    split at q
    · cases q; rfl
    · exact h2.pure h _ _ _ q
    · cases q
  · refine ⟨env, ts, us, R, ?_⟩
    unfold kOrV RE.bind at q
    cases e1 : f1 env with
    | no => rw [e1] at q; exact q.elim
    | err x en => rw [e1] at q; exact q
    | ok o en =>
      rw [e1] at q
      simp only at q
      intro v H1 R1 x1
      split at q
      · obtain rfl := R1.bl
        refine ⟨true, rfl, ?_⟩
        rw [if_pos rfl]
        exact q _ H1 R1 fun h => x1 (by cases p1 <;> simp at h; rfl)
      · obtain rfl := R1.bl
        refine ⟨false, rfl, ?_⟩
        rw [if_neg Bool.false_ne_true]
        refine ⟨en, ts, us, R1.pop, ?_⟩
        cases e2 : f2 en with
        | no => rw [e2] at q; exact q.elim
        | err x en => rw [e2] at q; exact q
        | ok o2 en2 =>
          rw [e2] at q
          exact fun v2 H2 R2 x2 => q v2 H2 R2 (and_ex x1 x2)
      · exact q.elim
theorem de_not (h : DE X c p1 a f1) : DE X c p1 (.UnaryOp .Not a pos) (kNotV f1) := by
  refine ⟨?_, (pe_not h.run).weak fun σ H Q ⟨env, ts, us, R, q⟩ => ?_⟩
  · have := pu_bind (p2 := true) h.pure (g := fun o e1 => match o with | .dat (.bool b) => RE.ok (O.dat (.bool !b)) e1 | _ => .no) fun o => by
      intro _ env o' env' q
      split at q <;> first | (cases q; rfl) | cases q
    rw [pu_true] at this
    exact this
  · refine ⟨env, ts, us, R, ?_⟩
    unfold kNotV RE.bind at q
    cases e1 : f1 env with
    | no => rw [e1] at q; exact q.elim
    | err x en => rw [e1] at q; exact q
    | ok o en =>
      rw [e1] at q
      simp only at q
      intro v H1 R1 x1
      split at q
      · rename_i b
        obtain rfl := R1.bl
        exact ⟨b, rfl, q _ H1 R1.pop.bpush x1⟩
      · exact q.elim
theorem de_ifx {t : Expr} (ht : DT X c p1 t g1) (h1 : DE X c p2 a f1) (h2 : DE X c p2 b f2) : DE X c (p1 && p2) (.IfExp t a b pos) (kIte g1 f1 f2) := by
  refine ⟨pu_bind ht.pure fun x => pu_ite h1.pure h2.pure, (pe_ifExp ht.run h1.run h2.run).weak fun σ H Q ⟨env, ts, us, R, q⟩ => ?_⟩
  refine ⟨env, ts, us, R, ?_⟩
  unfold kIte RE.bind at q
  cases e1 : g1 env with
  | no => rw [e1] at q; exact q.elim
  | err x en => rw [e1] at q; exact q
  | ok o en =>
    rw [e1] at q
    simp only at q
    intro H1 R1 x1
    cases o with
    | true =>
      rw [if_pos rfl] at q ⊢
      refine ⟨en, ts, us, R1, ?_⟩
      cases e2 : f1 en with
      | no => rw [e2] at q; exact q.elim
      | err x en => rw [e2] at q; exact q
      | ok o2 en2 =>
        rw [e2] at q
        exact fun v2 H2 R2 x2 => q v2 H2 R2 (and_ex x1 x2)
    | false =>
      rw [if_neg Bool.false_ne_true] at q ⊢
      refine ⟨en, ts, us, R1, ?_⟩
      cases e2 : f2 en with
      | no => rw [e2] at q; exact q.elim
      | err x en => rw [e2] at q; exact q
      | ok o2 en2 =>
        rw [e2] at q
        exact fun v2 H2 R2 x2 => q v2 H2 R2 (and_ex x1 x2)
/-- a purity flag is forgotten -/
theorem DE.any (h : DE X c p1 a f1) : DE X c false a f1 := ⟨Pu.no, h.run.weak fun σ H Q ⟨env, ts, us, R, q⟩ => ⟨env, ts, us, R, by
  cases e : f1 env with
  | no => rw [e] at q; exact q.elim
  | err x en => rw [e] at q; exact q
  | ok o en => rw [e] at q; exact fun v H' R' _ => q v H' R' fun z => nomatch z⟩⟩
/-- a op b op' d -/
def kCh (g g' : PyData → PyData → Option O) (f1 f2 f3 : EF) : EF := fun env => (f1 env).bind fun o1 e1 => (f2 e1).bind fun o2 e2 => match o1.toD, o2.toD with
  | some d1, some d2 => match g d1 d2 with
    | some (.dat (.bool true)) => (f3 e2).bind fun o3 e3 => match o3.toD with
      | some d3 => match g' d2 d3 with
        | some (.dat (.bool b)) => .ok (.dat (.bool b)) e3
        | _ => .no
      | none => .no
    | some (.dat (.bool false)) => .ok (.dat (.bool false)) e2
    | _ => .no
  | _, _ => .no
theorem t_chain {r r' : R2} {g g' : PyData → PyData → Option O} {Q : VK} (hr : Op2 c.K r g) (hr' : Op2 c.K r' g') (h : tE c false (kCh g g' f1 f2 f3) σ H Q) : tChain r r' (tE c p1 f1) (tE c p2 f2) (tE c p3 f3) σ H Q := by
  obtain ⟨env, ts, us, R, q⟩ := h
  refine ⟨env, ts, us, R, ?_⟩
  unfold kCh RE.bind at q
  cases e1 : f1 env with
  | no => rw [e1] at q; exact q.elim
  | err x en => rw [e1] at q; exact q
  | ok o1 en1 =>
    rw [e1] at q
    intro x H1 R1 x1
    refine ⟨en1, o1 :: ts, x :: us, R1, ?_⟩
    simp only at q
    cases e2 : f2 en1 with
    | no => rw [e2] at q; exact q.elim
    | err x en =>
      rw [e2] at q
      exact fun H2 R2 => q H2 R2.pop
    | ok o2 en2 =>
      rw [e2] at q
      intro y H2 R2 x2
      simp only at q
      split at q
      · rename_i d1 d2 z1 z2
        -- keep the middle one below
        have R2' : Rp c en2 σ (.dat d2 :: o1 :: .dat d2 :: ts) (y :: x :: y :: us) H2 := by
          have R3 := Rp.turn (xs := [.dat d2]) (vs := [y]) (R2.freeze z2) rfl
          obtain ⟨F, fe, ft, f, en, t, nd, nw⟩ := R3
          cases t with
          | cons ra t =>
            cases t with
            | cons rb t =>
              cases rb with
              | dat rb =>
                exact ⟨F, fe, _, f, en, .cons (f1 := []) (.dat rb) (.cons ra (.cons (f1 := []) (.dat rb) t)), nd, nw⟩
        split at q
        · rename_i ez
          refine Rp.op2 hr R2' z1 rfl ez fun v H3 R3 x3 => ?_
          obtain rfl := R3.bl
          refine ⟨true, rfl, ?_⟩
          rw [if_pos rfl]
          refine ⟨en2, .dat d2 :: ts, y :: us, R3.pop, ?_⟩
          cases e3 : f3 en2 with
          | no => rw [e3] at q; exact q.elim
          | err x en =>
            rw [e3] at q
            exact fun H2 R2 => q H2 R2.pop
          | ok o3 en3 =>
            rw [e3] at q
            simp only at q
            intro w H4 R4 x4
            split at q
            · rename_i d3 z3
              split at q
              · rename_i b eb
                exact Rp.op2 hr' R4 rfl z3 eb fun v H5 R5 _ => q v H5 R5 fun z => nomatch z
              · exact q.elim
            · exact q.elim
        · rename_i ez
          refine Rp.op2 hr R2' z1 rfl ez fun v H3 R3 x3 => ?_
          obtain rfl := R3.bl
          refine ⟨false, rfl, ?_⟩
          rw [if_neg Bool.false_ne_true]
          exact q _ H3 R3.pop.pop.bpush fun z => nomatch z
        · exact q.elim
      · exact q.elim
theorem de_chain {op op' : CmpOp} {r r' : R2} {d : Expr} {g g' : PyData → PyData → Option O} (ho : OpR X (compareOp op) r) (ho' : OpR X (compareOp op') r') (hr : Op2 c.K r g) (hr' : Op2 c.K r' g') (h1 : DE X c p1 a f1) (h2 : DE X c p2 b f2) (h3 : DE X c p3 d f3)
    (hm : lastMarks [op, op'] [b, d] = false := by with_unfolding_all rfl) : DE X c false (.Compare a [op, op'] [b, d] pos) (kCh g g' f1 f2 f3) :=
  ⟨Pu.no, (pe_chain ho ho' h1.run h2.run h3.run hm).weak fun _ _ _ q => t_chain hr hr' q⟩
theorem dt_chain {op op' : CmpOp} {r r' : R2} {d : Expr} {g g' : PyData → PyData → Option O} (ho : OpR X (compareOp op) r) (ho' : OpR X (compareOp op') r') (hr : Op2 c.K r g) (hr' : Op2 c.K r' g') (h1 : DE X c p1 a f1) (h2 : DE X c p2 b f2) (h3 : DE X c p3 d f3)
    (hm : lastMarks [op, op'] [b, d] = false := by with_unfolding_all rfl) : DT X c false (.Compare a [op, op'] [b, d] pos) (kB (kCh g g' f1 f2 f3)) :=
  ⟨Pu.no, (pt_chain ho ho' h1.run h2.run h3.run hm).weak fun _ _ _ q => t_chain hr hr' (t_kB q)⟩
end
end DP
end

section
namespace DP
open PySem PySem.Spec PyProof.Rows L2
/-! ### statements -/
inductive RS where
  | nx (env : Env)
  | rt (o : O) (env : Env)
  | bk (env : Env)
  | ct (env : Env)
  | err (x : Str) (env : Env)
  | no
def PostS (c : Fc) (ts : List O) (us : List V) (D : Ends) : RS → Prop
  | .nx env => ∀ σ' H', Rp c env σ' ts us H' → D.nx σ' H'
  | .rt o env => ∀ v σ' H', Rp c env σ' (o :: ts) (v :: us) H' → D.rt v H'
  | .bk env => ∀ σ' H', Rp c env σ' ts us H' → D.bk σ' H'
  | .ct env => ∀ σ' H', Rp c env σ' ts us H' → D.ct σ' H'
  | .err x env => ∀ σ' H', Rp c env σ' ts us H' → c.W (c.cls x) none σ' H'
  | .no => False
def tSq (c : Fc) (g : Env → RS) : TS := fun D σ H => ∃ env ts us, Rp c env σ ts us H ∧ PostS c ts us D (g env)
structure DS (X : Cx) (c : Fc) (st : Stmt) (g : Env → RS) : Prop where
  run : PS X st (tSq c g)
structure DSs (X : Cx) (c : Fc) (st : List Stmt) (g : Env → RS) : Prop where
  run : PSs X st (tSq c g)
def RE.st {α : Type} (r : RE α) (f : α → Env → RS) : RS := match r with
  | .ok a env => f a env
  | .err x env => .err x env
  | .no => .no
def RS.sq (r : RS) (g : Env → RS) : RS := match r with
  | .nx env => g env
  | r => r
def kSq (f g : Env → RS) : Env → RS := fun env => (f env).sq g
def kNx : Env → RS := fun env => .nx env
def kEx (f : EF) : Env → RS := fun env => (f env).st fun _ e => .nx e
def kRt (f : EF) : Env → RS := fun env => (f env).st fun o e => .rt o e
def kIf (t : Env → RE Bool) (f g : Env → RS) : Env → RS := fun env => (t env).st fun b e => if b = true then f e else g e
abbrev GF := O → Env → Option Env
def hName (i : Nat) : GF := fun o env => match env[i]? with
  | some s => if s.w = true then some (env.set i (.v o)) else none
  | none => none
theorem w_cases {s : Sl} (h : s.w = true) : s = .no ∨ ∃ o, s = .v o := by
  cases s with
  | no => exact .inl rfl
  | v o => exact .inr ⟨o, rfl⟩
  | io o => cases h
  | mv => cases h
def kAs (f : EF) (h : GF) : Env → RS := fun env => (f env).st fun o e => match h o e with
  | some e' => .nx e'
  | none => .no
def hNil : List O → Env → Option Env := fun os env => match os with
  | [] => some env
  | _ => none
def hCons (h : GF) (hs : List O → Env → Option Env) : List O → Env → Option Env := fun os env => match os with
  | o :: r => match h o env with
    | some e => hs r e
    | none => none
  | [] => none
def hTup (n : Nat) (hs : List O → Env → Option Env) : GF := fun o env => match o with
  | .dat (.tuple ds) => if ds.length = n then hs (ds.map .dat) env else none
  | .node .tup os => if os.length = n then hs os env else none
  | _ => none
def PostG (c : Fc) (gs : List Nat) (σ : L2.St) (ts : List O) (us : List V) (Q : L2.St → Hp → Prop) : Option Env → Prop
  | some env => ∀ σ' H', Rp c env σ' ts us H' → σ'.length = σ.length → (∀ j, j ∉ gs → σ'[j]? = σ[j]?) → Q σ' H'
  | none => False
def tGq (c : Fc) (gs : List Nat) (h : GF) : TG := fun v σ H Q => ∃ env ts us o, Rp c env σ (o :: ts) (v :: us) H ∧ PostG c gs σ ts us Q (h o env)
def tGsq (c : Fc) (gs : List Nat) (h : List O → Env → Option Env) : TGs := fun vs σ H Q => ∃ env ts us os, Rp c env σ (os ++ ts) (vs ++ us) H ∧ os.length = vs.length ∧ PostG c gs σ ts us Q (h os env)
structure DG (X : Cx) (c : Fc) (gs : List Nat) (tg : Expr) (h : GF) : Prop where
  run : PG X tg (tGq c gs h)
structure DGs (X : Cx) (c : Fc) (gs : List Nat) (tgs : List Expr) (h : List O → Env → Option Env) : Prop where
  run : PGs X tgs (tGsq c gs h)
theorem _root_.L2.PG.weak {X : Cx} {e : Expr} {t t' : TG} (h : PG X e t) (w : ∀ v σ H Q, t' v σ H Q → t v σ H Q) : PG X e t' := ⟨fun pins s σ H v u Q I r q => h.run pins s σ H v u Q I r (w v σ H Q q)⟩
theorem _root_.L2.PGs.weak {X : Cx} {es : List Expr} {t t' : TGs} (h : PGs X es t) (w : ∀ v σ H Q, t' v σ H Q → t v σ H Q) : PGs X es t' := ⟨fun pins s σ H v u Q I r q => h.run pins s σ H v u Q I r (w v σ H Q q)⟩
theorem _root_.L2.PI.weak {X : Cx} {tg e : Expr} {t t' : TI} (h : PI X tg e t) (w : ∀ σ H Q, t' σ H Q → t σ H Q) : PI X tg e t' := ⟨fun pins s σ H R I q => h.run pins s σ H R I (w σ H R q)⟩
theorem _root_.L2.PTs.weak {X : Cx} {es : List Expr} {t t' : TT} (h : PTs X es t) (w : ∀ σ H Q, t' σ H Q → t σ H Q) : PTs X es t' := ⟨fun pins s σ H Q I q => h.run pins s σ H Q I (w σ H Q q)⟩
section
variable {c : Fc} {env : Env} {σ : L2.St} {ts : List O} {us : List V} {H : Hp}
/-- a tuple's items come on top -/
theorem Rp.items {ds : List PyData} {v : V} (R : Rp c env σ (.dat (.tuple ds) :: ts) (v :: us) H) : ∃ a vs, v = .ref a ∧ SqT c.K H a vs ∧ ds.length = vs.length ∧ Rp c env σ (ds.map .dat ++ ts) (vs ++ us) H := by
  obtain ⟨F, fe, ft, f, e, t, nd, nw⟩ := R
  cases t with
  | cons r t =>
    cases r with
    | dat r =>
      cases r with
      | tup hs ha =>
        have ro := dpAll_os (F := F) (H := H) ha
        exact ⟨_, _, rfl, f.sub.t hs, by have := ro.length; simpa using this, F, fe, _, f, e, ro.app t, by simpa using nd, by simpa using nw⟩
theorem Rp.kids {os : List O} {v : V} (R : Rp c env σ (.node .tup os :: ts) (v :: us) H) : ∃ a vs, v = .ref a ∧ SqT c.K H a vs ∧ os.length = vs.length ∧ Rp c env σ (os ++ ts) (vs ++ us) H := by
  obtain ⟨F, fe, ft, f, e, t, nd, nw⟩ := R
  cases t with
  | cons r t =>
    cases r with
    | node h1 h2 h3 h4 =>
      rename_i f2 p vs h fp
      have h3' : h = .tup vs := h3
      subst h3'
      refine ⟨_, _, rfl, SqT.of h2, h4.length, Rp.of f e (h4.app t) (all := fe ++ (p :: fp ++ f2)) ?_ nd nw⟩
      refine (Sub.refl fe).app ?_
      exact ⟨[p], by
        show (fp ++ f2 ++ [p]).Perm (p :: (fp ++ f2))
        exact List.perm_append_comm⟩
/-- what is dropped from below the top -/
theorem Rp.under {o : O} {v : V} {xs : List O} {vs : List V} (R : Rp c env σ (o :: (xs ++ ts)) (v :: (vs ++ us)) H) (hl : xs.length = vs.length) : Rp c env σ (o :: ts) (v :: us) H := by
  obtain ⟨F, fe, ft, f, e, t, nd, nw⟩ := R
  cases t with
  | cons r t =>
    rename_i f1 f2
    obtain ⟨f3, f4, rfl, t1, t2⟩ := t.split' hl
    exact Rp.of f e (.cons r t2) (all := fe ++ (f1 ++ (f3 ++ f4))) ((Sub.refl fe).app ((Sub.refl f1).app (Sub.right f3 f4))) nd nw
end
section
variable {X : Cx} {c : Fc} {p1 p2 p3 : Bool} {f1 f2 f3 : EF} {t1 : Env → RE Bool} {g1 g2 : Env → RS} {a b : Expr} {st : Stmt} {rest : List Stmt} {pos : Pos}
theorem ds_nil : DSs X c [] kNx := ⟨pss_nil.weak fun D σ H ⟨env, ts, us, R, q⟩ => q σ H R⟩
theorem PostS.mono {c : Fc} {ts : List O} {us : List V} {D D' : Ends} (h1 : ∀ σ H, D.nx σ H → D'.nx σ H) (h2 : ∀ v H, D.rt v H → D'.rt v H) (h3 : ∀ σ H, D.bk σ H → D'.bk σ H) (h4 : ∀ σ H, D.ct σ H → D'.ct σ H) : ∀ {r : RS}, PostS c ts us D r → PostS c ts us D' r
  | .nx _, q => fun σ H R => h1 σ H (q σ H R)
  | .rt _ _, q => fun v σ H R => h2 v H (q v σ H R)
  | .bk _, q => fun σ H R => h3 σ H (q σ H R)
  | .ct _, q => fun σ H R => h4 σ H (q σ H R)
  | .err _ _, q => q
  | .no, q => q
theorem ds_cons (h1 : DS X c st g1) (h2 : DSs X c rest g2) : DSs X c (st :: rest) (kSq g1 g2) := by
  refine ⟨(pss_cons h1.run h2.run).weak fun D σ H ⟨env, ts, us, R, q⟩ => ?_⟩
  refine ⟨env, ts, us, R, ?_⟩
  unfold kSq RS.sq at q
  cases e : g1 env with
  | nx en => rw [e] at q; exact fun σ' H' R' => ⟨en, ts, us, R', q⟩
  | rt o en => rw [e] at q; exact q
  | bk en => rw [e] at q; exact q
  | ct en => rw [e] at q; exact q
  | err x en => rw [e] at q; exact q
  | no => rw [e] at q; exact q
theorem ds_one (h1 : DS X c st g1) : DSs X c [st] g1 := ⟨pss_one h1.run⟩
theorem ds_pass : DS X c (.Pass pos) kNx := ⟨ps_pass.weak fun D σ H ⟨env, ts, us, R, q⟩ => q σ H R⟩
theorem ds_break : DS X c (.Break pos) (fun env => .bk env) := ⟨ps_break.weak fun D σ H ⟨env, ts, us, R, q⟩ => q σ H R⟩
theorem ds_continue : DS X c (.Continue pos) (fun env => .ct env) := ⟨ps_continue.weak fun D σ H ⟨env, ts, us, R, q⟩ => q σ H R⟩
theorem ds_expr (h : DE X c p1 a f1) (hs : swapsWith a none pos.line X.env = pure false := by rfl) : DS X c (.Expr a pos) (kEx f1) := by
  refine ⟨(ps_expr h.run hs).weak fun D σ H ⟨env, ts, us, R, q⟩ => ?_⟩
  refine ⟨env, ts, us, R, ?_⟩
  unfold kEx RE.st at q
  cases e : f1 env with
  | no => rw [e] at q; exact q.elim
  | err x en => rw [e] at q; exact fun H' R' => q σ H' R'
  | ok o en => rw [e] at q; exact fun v H' R' _ => q σ H' R'.pop
theorem ds_ret (h : DE X c p1 a f1) : DS X c (.Return (some a) pos) (kRt f1) := by
  refine ⟨(ps_ret h.run).weak fun D σ H ⟨env, ts, us, R, q⟩ => ?_⟩
  refine ⟨env, ts, us, R, ?_⟩
  unfold kRt RE.st at q
  cases e : f1 env with
  | no => rw [e] at q; exact q.elim
  | err x en => rw [e] at q; exact fun H' R' => q σ H' R'
  | ok o en => rw [e] at q; exact fun v H' R' _ => q v σ H' R'
theorem ds_retN : DS X c (.Return none pos) (fun env => .rt (.dat .none) env) := ⟨ps_retN.weak fun D σ H ⟨env, ts, us, R, q⟩ => q .non σ H (R.push fun _ _ => .non)⟩
theorem ds_if {tb fb : List Stmt} (ht : DT X c p1 a t1) (h1 : DSs X c tb g1) (h2 : DSs X c fb g2) : DS X c (.If a tb fb pos) (kIf t1 g1 g2) := by
  refine ⟨(ps_if ht.run h1.run h2.run).weak fun D σ H ⟨env, ts, us, R, q⟩ => ?_⟩
  refine ⟨env, ts, us, R, ?_⟩
  unfold kIf RE.st at q
  cases e : t1 env with
  | no => rw [e] at q; exact q.elim
  | err x en => rw [e] at q; exact fun H' R' => q σ H' R'
  | ok o en =>
    rw [e] at q
    simp only at q
    intro H' R' _
    cases o with
    | true => rw [if_pos rfl] at q ⊢; exact ⟨en, ts, us, R', q⟩
    | false => rw [if_neg Bool.false_ne_true] at q ⊢; exact ⟨en, ts, us, R', q⟩
theorem post_name {i : Nat} {env : Env} {σ : L2.St} {ts : List O} {us : List V} {H : Hp} {o : O} {v : V} {Q : L2.St → Hp → Prop} (R : Rp c env σ (o :: ts) (v :: us) H) (q : PostG c [i] σ ts us Q (hName i o env)) : Q (σ.set i (some v)) H := by
  unfold hName at q
  have other : ∀ j, j ∉ [i] → (σ.set i (some v))[j]? = σ[j]? := fun j hj => List.getElem?_set_ne (fun e => hj (by simp [e]))
  split at q
  · rename_i s e
    split at q
    · rename_i hw
      rcases w_cases hw with rfl | ⟨o', rfl⟩
      · exact q _ H (R.store (.inl e)) (by simp) other
      · exact q _ H (R.store (.inr ⟨_, e⟩)) (by simp) other
    · exact q.elim
  · exact q.elim
theorem dg_name {i : Nat} {e : Expr} (h : PG X e (gName i)) : DG X c [i] e (hName i) := ⟨h.weak fun v σ H Q ⟨env, ts, us, o, R, q⟩ => post_name R q⟩
theorem dgs_nil : DGs X c [] [] hNil := ⟨pgs_nil.weak fun vs σ H Q ⟨env, ts, us, os, R, hl, q⟩ => by
  cases os with
  | nil =>
    have e : vs = [] := List.eq_nil_of_length_eq_zero hl.symm
    subst e
    exact ⟨rfl, q σ H R rfl fun _ _ => rfl⟩
  | cons o os => exact q.elim⟩
theorem dgs_cons {gs gs' : List Nat} {e : Expr} {es : List Expr} {h : GF} {hs : List O → Env → Option Env} (h1 : DG X c gs e h) (h2 : DGs X c gs' es hs)
    (hq : (assignEach (e :: es) X.env).map (·.2) = assign e X.env :: (assignEach es X.env).map (·.2) := by rfl) : DGs X c (gs ++ gs') (e :: es) (hCons h hs) := by
  refine ⟨(pgs_cons h1.run h2.run hq).weak fun vs σ H Q ⟨env, ts, us, os, R, hl, q⟩ => ?_⟩
  cases os with
  | nil => exact q.elim
  | cons o os =>
    cases vs with
    | nil => simp at hl
    | cons v vs =>
      refine ⟨v, vs, rfl, env, os ++ ts, vs ++ us, o, R, ?_⟩
      unfold hCons at q
      simp only at q
      split at q
      · rename_i en e1
        rw [e1]
        refine fun σ1 H1 R1 l1 k1 => ⟨en, ts, us, os, R1, by simpa using hl, ?_⟩
        cases e2 : hs os en with
        | none => rw [e2] at q; exact q.elim
        | some en2 =>
          rw [e2] at q
          exact fun σ2 H2 R2 l2 k2 => q σ2 H2 R2 (l2.trans l1) fun j hj => (k2 j fun z => hj (List.mem_append_right _ z)).trans (k1 j fun z => hj (List.mem_append_left _ z))
      · exact q.elim
theorem dg_tup {gs : List Nat} {es : List Expr} {k : Nat} {hs : List O → Env → Option Env} {n : Nat} (hc : X.calm = true) (hK : X.K = c.K) (h : DGs X c gs es hs)
    (hn : (assignEach es X.env).length = n := by rfl) (hst : (assignEach es X.env).findIdx? (·.1) = none := by rfl) : DG X c gs (.Tuple es k pos) (hTup n hs) := by
  refine ⟨(pg_tup hc h.run hn hst).weak fun v σ H Q ⟨env, ts, us, o, R, q⟩ => ?_⟩
  unfold hTup at q
  split at q
  · split at q
    · rename_i ds hl
      obtain ⟨a, vs, e, hs', hl', R'⟩ := R.items
      exact ⟨a, vs, e, hK ▸ hs', hl' ▸ hl, env, ts, us, _, R', by simpa using hl', q⟩
    · exact q.elim
  · split at q
    · rename_i os hl
      obtain ⟨a, vs, e, hs', hl', R'⟩ := R.kids
      exact ⟨a, vs, e, hK ▸ hs', hl' ▸ hl, env, ts, us, _, R', hl', q⟩
    · exact q.elim
  · exact q.elim
theorem t_as {gs : List Nat} {h : GF} {D : Ends} {σ : L2.St} {H : Hp} (q : tSq c (kAs f1 h) D σ H) : tAsg (tE c p1 f1) (tGq c gs h) D σ H := by
  obtain ⟨env, ts, us, R, q⟩ := q
  refine ⟨env, ts, us, R, ?_⟩
  unfold kAs RE.st at q
  cases e : f1 env with
  | no => rw [e] at q; exact q.elim
  | err x en => rw [e] at q; exact fun H' R' => q σ H' R'
  | ok o en =>
    rw [e] at q
    simp only at q
    intro v H' R' _
    refine ⟨en, ts, us, o, R', ?_⟩
    cases e2 : h o en with
    | none => rw [e2] at q; exact q.elim
    | some en2 => rw [e2] at q; exact fun σ2 H2 R2 _ _ => q σ2 H2 R2
theorem ds_asg {gs : List Nat} {tg : Expr} {h : GF} (h1 : DE X c p1 a f1) (h2 : DG X c gs tg h) (hs : swapsWithSole [tg] a pos.line X.env = pure false := by rfl) (hw : swappedStores [tg] a X.env = pure none := by rfl)
    (h3 : (assignEach [tg] X.env).map (·.2) = [assign tg X.env] := by rfl) : DS X c (.Assign [tg] a pos) (kAs f1 h) := ⟨(ps_asg h1.run h2.run hs hw h3).weak fun _ _ _ q => t_as q⟩
theorem t_set {i : Nat} {D : Ends} {σ : L2.St} {H : Hp} (q : tSq c (kAs f1 (hName i)) D σ H) : tAsg (tE c p1 f1) (gName i) D σ H := by
  obtain ⟨env, ts, us, R, q⟩ := q
  refine ⟨env, ts, us, R, ?_⟩
  unfold kAs RE.st at q
  cases e : f1 env with
  | no => rw [e] at q; exact q.elim
  | err x en => rw [e] at q; exact fun H' R' => q σ H' R'
  | ok o en =>
    rw [e] at q
    simp only at q
    intro v H' R' _
    refine post_name (Q := D.nx) R' ?_
    cases e2 : hName i o en with
    | none => rw [e2] at q; exact q.elim
    | some en2 => rw [e2] at q; exact fun σ2 H2 R2 _ _ => q σ2 H2 R2
theorem ds_set {i : Nat} {x : Str} {pos' : Pos} (hN : X.N.Nodup) (hi : X.N[i]? = some x) (hx : Loc X.env.scope x) (h1 : DE X c p1 a f1) (hs : swapsWith a (some (.Name x pos')) pos.line X.env = pure false := by rfl)
    (hf : X.fn x = true ∨ X.env.scope.names.lookup x = some .local := by first | exact .inl rfl | exact .inr rfl | assumption) : DS X c (.Assign [.Name x pos'] a pos) (kAs f1 (hName i)) :=
  ⟨(ps_set hN hi hx h1.run hs hf).weak fun _ _ _ q => t_set q⟩
/-- a, b = e1, e2 -/
def kPar (i j : Nat) (g : Env → RE (List O)) : Env → RS := fun env => (g env).st fun os e => match os with
  | [o1, o2] => match hName i o1 e with
    | some e1 => match hName j o2 e1 with
      | some e2 => .nx e2
      | none => .no
    | none => .no
  | _ => .no
theorem ds_par {i j : Nat} {x y : Str} {px py pt : Pos} {kt k2 pt2} {ios : List (Option Nat)} {g : Env → RE (List O)} (hc : X.calm = true) (hN : X.N.Nodup) (hi : X.N[i]? = some x) (hj : X.N[j]? = some y) (hij : i ≠ j)
    (hx : X.env.scope.names.lookup x = some .local) (hy : X.env.scope.names.lookup y = some .local) (ha : DA X c p1 ios [a, b] g)
    (hw : swappedStores [.Tuple [.Name x px, .Name y py] kt pt] (.Tuple [a, b] k2 pt2) X.env = pure (some [x, y]))
    (hs : swapsWithSole [.Tuple [.Name x px, .Name y py] kt pt] (.Tuple [a, b] k2 pt2) pos.line X.env = pure false := by rfl) :
    DS X c (.Assign [.Tuple [.Name x px, .Name y py] kt pt] (.Tuple [a, b] k2 pt2) pos) (kPar i j g) := by
  refine ⟨(ps_par hc hN hi hj hij hx hy ha.run hw hs).weak fun D σ H ⟨env, ts, us, R, q⟩ => ?_⟩
  refine ⟨env, ts, us, R, ?_⟩
  unfold kPar RE.st at q
  cases e : g env with
  | no => rw [e] at q; exact q.elim
  | err x en => rw [e] at q; exact fun H' R' => q σ H' R'
  | ok os en =>
    rw [e] at q
    simp only at q
    intro vs H' R' hl _ _ _
    split at q
    · rename_i o1 o2
      obtain ⟨v1, v2, rfl⟩ : ∃ v1 v2, vs = [v1, v2] := by
        cases vs with
        | nil => simp at hl
        | cons v1 vs =>
          cases vs with
          | nil => simp at hl
          | cons v2 vs =>
            cases vs with
            | nil => exact ⟨_, _, rfl⟩
            | cons v3 vs => simp at hl
      refine ⟨v1, v2, rfl, ?_⟩
      split at q
      · rename_i e1 z1
        split at q
        · rename_i e2 z2
          have R' : Rp c en σ (o1 :: o2 :: ts) (v1 :: v2 :: us) H' := R'
          refine post_name (Q := fun σ1 H1 => D.nx (σ1.set j (some v2)) H1) R' ?_
          rw [z1]
          intro σ1 H1 R1 _ _
          refine post_name (Q := D.nx) R1 ?_
          rw [z2]
          exact fun σ2 H2 R2 _ _ => q σ2 H2 R2
        · exact q.elim
      · exact q.elim
    · exact q.elim
end
end DP
end

section
namespace DP
open PySem PySem.Spec PyProof.Rows L2
/-! ### what is walked -/
/-- the walk of data: turn by turn, over the temporaries ts2 -/
def Walk (c : Fc) (ds : List PyData) (ts2 : List O) (us2 : List V) (J : It) : Prop :=
  (∀ (i : Nat) d, ds[i]? = some d → ∀ env σ ts us H, Rp c env σ (ts2 ++ ts) (us2 ++ us) H → J.go i H ∧ ∀ x H', J.yld i H x H' → Rp c env σ (.dat d :: (ts2 ++ ts)) (x :: (us2 ++ us)) H') ∧
  ∀ env σ ts us H, Rp c env σ (ts2 ++ ts) (us2 ++ us) H → J.stop ds.length H
def PostI (c : Fc) (σ : L2.St) (ts : List O) (us : List V) (R : It → Hp → Prop) : RE (List PyData) → Prop
  | .ok ds env => ∀ J H' ts2 us2, Rp c env σ (ts2 ++ ts) (us2 ++ us) H' → ts2.length = us2.length → Walk c ds ts2 us2 J → R J H'
  | .err x env => ∀ H', Rp c env σ ts us H' → c.W (c.cls x) none σ H'
  | .no => False
abbrev IF := Env → RE (List PyData)
def tIq (c : Fc) (h : IF) : TI := fun σ H R => ∃ env ts us, Rp c env σ ts us H ∧ PostI c σ ts us R (h env)
structure DI (X : Cx) (c : Fc) (tg iter : Expr) (h : IF) : Prop where
  run : PI X tg iter (tIq c h)
/-! ### for -/
def loopS (hg : GF) (body : Env → RS) : List PyData → Env → RS
  | [], env => .nx env
  | d :: ds, env => match hg (.dat d) env with
    | none => .no
    | some e1 => match body e1 with
      | .nx e2 => loopS hg body ds e2
      | .ct e2 => loopS hg body ds e2
      | .bk e2 => .nx e2
      | r => r
def kFor (h : IF) (hg : GF) (body : Env → RS) : Env → RS := fun env => (h env).st fun ds e => loopS hg body ds e
section
variable {X : Cx} {c : Fc} {p1 p2 p3 : Bool} {h : IF} {hg : GF} {gs : List Nat} {body : Env → RS}
theorem t_for {D : Ends} {σ : L2.St} {H : Hp} (q : tSq c (kFor h hg body) D σ H) : tFor (tIq c h) (tGq c gs hg) (tSq c body) D σ H := by
  obtain ⟨env, ts, us, R, q⟩ := q
  refine ⟨env, ts, us, R, ?_⟩
  unfold kFor RE.st at q
  cases e : h env with
  | no => rw [e] at q; exact q.elim
  | err x en => rw [e] at q; exact fun H' R' => q σ H' R'
  | ok ds en =>
    rw [e] at q
    simp only at q
    intro J H1 ts2 us2 R1 hl2 w
    obtain ⟨wg, ws⟩ := w
    refine ⟨fun i m σ' H' => m = ds.length - i ∧ i ≤ ds.length ∧ ∃ env', Rp c env' σ' (ts2 ++ ts) (us2 ++ us) H' ∧ PostS c ts us D (loopS hg body (ds.drop i) env'), ⟨ds.length, by simp, Nat.zero_le _, en, R1, q⟩, ?_⟩
    rintro i m σ' H' ⟨rfl, hi, env', R', q'⟩
    by_cases hlt : i < ds.length
    · have e1 : ds.drop i = ds[i] :: ds.drop (i + 1) := List.drop_eq_getElem_cons hlt
      obtain ⟨g1, g2⟩ := wg i ds[i] (List.getElem?_eq_getElem hlt) _ _ _ _ _ R'
      refine .inr ⟨g1, fun σ2 H2 => i + 1 ≤ ds.length ∧ ∃ env2, Rp c env2 σ2 (ts2 ++ ts) (us2 ++ us) H2 ∧ PostS c ts us D (loopS hg body (ds.drop (i + 1)) env2), fun σ2 H2 n => ⟨ds.length - (i + 1), by omega, rfl, n⟩, fun x H2 y => ?_⟩
      rw [e1, loopS] at q'
      refine ⟨env', ts2 ++ ts, us2 ++ us, _, g2 x H2 y, ?_⟩
      cases e2 : hg (.dat ds[i]) env' with
      | none => rw [e2] at q'; exact q'.elim
      | some en1 =>
        rw [e2] at q'
        simp only at q'
        intro σ3 H3 R3 _ _
        refine ⟨en1, ts2 ++ ts, us2 ++ us, R3, ?_⟩
        cases e3 : body en1 with
        | nx en2 => rw [e3] at q'; exact fun σ4 H4 R4 => ⟨hlt, en2, R4, q'⟩
        | ct en2 => rw [e3] at q'; exact fun σ4 H4 R4 => ⟨hlt, en2, R4, q'⟩
        | bk en2 => rw [e3] at q'; exact fun σ4 H4 R4 => q' σ4 H4 (R4.drop hl2)
        | rt o en2 => rw [e3] at q'; exact fun v σ4 H4 R4 => q' v σ4 H4 (R4.under hl2)
        | err x en2 => rw [e3] at q'; exact fun σ4 H4 R4 => q' σ4 H4 (R4.drop hl2)
        | no => rw [e3] at q'; exact q'.elim
    · have e1 : i = ds.length := by omega
      subst e1
      rw [List.drop_length, loopS] at q'
      exact .inl ⟨ws _ _ _ _ _ R', q' σ' H' (R'.drop hl2)⟩
theorem ds_for {tg iter : Expr} {bd : List Stmt} {pos : Pos} (hp : PassesOwn (model X.prog X.w) X.A X.env X.xe) (hc : X.calm = true) (h1 : DI X c tg iter h) (h2 : DG X c gs tg hg) (h3 : DSs X c bd body) (hs : ∀ x, foldedSetIterable iter X.env x = pure x := by intro _; rfl) : DS X c (.For tg iter bd [] pos) (kFor h hg body) :=
  ⟨(ps_for hp hc h1.run h2.run h3.run hs).weak fun _ _ _ q => t_for q⟩
/-! ### while -/
/-- n turns at most -/
def loopW (t : Env → RE Bool) (body : Env → RS) : Nat → Env → RS
  | 0, _ => .no
  | n + 1, env => (t env).st fun b e => if b = true then match body e with
      | .nx e2 => loopW t body n e2
      | .ct e2 => loopW t body n e2
      | .bk e2 => .nx e2
      | r => r
    else .nx e
theorem ds_while {n : Nat} {t : Expr} {bd : List Stmt} {pos : Pos} {g : Env → RE Bool} (hp : PassesOwn (model X.prog X.w) X.A X.env X.xe) (h1 : DT X c p1 t g) (h2 : DSs X c bd body) : DS X c (.While t bd [] pos) (loopW g body n) := by
  refine ⟨(ps_while hp h1.run h2.run).weak fun D σ H ⟨env, ts, us, R, q⟩ => ?_⟩
  refine ⟨fun m σ' H' => ∃ env', Rp c env' σ' ts us H' ∧ PostS c ts us D (loopW g body m env'), ⟨n, env, R, q⟩, ?_⟩
  rintro m σ' H' ⟨env', R', q'⟩
  cases m with
  | zero => exact q'.elim
  | succ m =>
    unfold loopW RE.st at q'
    refine ⟨env', ts, us, R', ?_⟩
    cases e : g env' with
    | no => rw [e] at q'; exact q'.elim
    | err x en => rw [e] at q'; exact fun H2 R2 => q' σ' H2 R2
    | ok b en =>
      rw [e] at q'
      simp only at q'
      intro H2 R2 _
      cases b with
      | false =>
        rw [if_neg Bool.false_ne_true] at q' ⊢
        exact q' σ' H2 R2
      | true =>
        rw [if_pos rfl] at q' ⊢
        refine ⟨fun σ3 H3 => ∃ env3, Rp c env3 σ3 ts us H3 ∧ PostS c ts us D (loopW g body m env3), fun σ3 H3 n3 => ⟨m, Nat.lt_succ_self m, n3⟩, en, ts, us, R2, ?_⟩
        cases e3 : body en with
        | nx en2 => rw [e3] at q'; exact fun σ4 H4 R4 => ⟨en2, R4, q'⟩
        | ct en2 => rw [e3] at q'; exact fun σ4 H4 R4 => ⟨en2, R4, q'⟩
        | bk en2 => rw [e3] at q'; exact q'
        | rt o en2 => rw [e3] at q'; exact q'
        | err x en2 => rw [e3] at q'; exact q'
        | no => rw [e3] at q'; exact q'.elim
end
/-! ### comprehensions -/
/-- the own names' slots are forgotten -/
def wipeE : List Nat → Env → Option Env
  | [], env => some env
  | i :: is, env => match wipeE is env with
    | some e => match e[i]? with
      | some s => if s.w = true then some (e.set i .no) else none
      | none => none
    | none => none
def compL (own : List Nat) (hg : GF) (t : Env → RE Bool) (f : EF) : List PyData → Env → List O → RE (List O)
  | [], env, acc => .ok acc env
  | d :: ds, env, acc => match hg (.dat d) env with
    | none => .no
    | some e1 => (match t e1 with
      | .ok true e2 => (match f e2 with
        | .ok o e3 => (match wipeE own e3 with
          | some e4 => if acc.length < 1000000 then compL own hg t f ds e4 (acc ++ [o]) else .no
          | none => .no)
        | _ => .no)
      | .ok false e2 => (match wipeE own e2 with
        | some e4 => compL own hg t f ds e4 acc
        | none => .no)
      | _ => .no)
def lcEnd : RE (List O) → RE O
  | .ok acc e => .ok (.node .lst acc) e
  | .err x e => .err x e
  | .no => .no
def kLc (own : List Nat) (h : IF) (hg : GF) (t : Env → RE Bool) (f : EF) : EF := fun env => (h env).bind fun ds e => match wipeE own e with
  | some e' => lcEnd (compL own hg t f ds e' [])
  | none => .no
def Fc.still (c : Fc) : Fc := { c with W := fun _ _ _ _ => False }
theorem Rp.still {c : Fc} {env : Env} {σ : L2.St} {ts : List O} {us : List V} {H : Hp} : Rp c.still env σ ts us H ↔ Rp c env σ ts us H := by
  constructor <;> rintro ⟨F, fe, ft, ⟨a, b, d, e⟩, q⟩ <;> exact ⟨F, fe, ft, ⟨a, b, d, e⟩, q⟩
theorem REnv.loose {K : Frag} {F H : Hp} {ps : List (Option V)} {env : Env} {σ : L2.St} {fp : List Addr} (h : REnv K F H ps env σ fp) : ∀ {i : Nat} (x : Option V), env[i]? = some .no → REnv K F H ps env (σ.set i x) fp := by
  induction h with
  | nil => intro i x q; simp at q
  | no h ih =>
    intro i x q
    cases i with
    | zero => exact .no h
    | succ i => exact .no (ih x (by simpa using q))
  | mv h ih =>
    intro i x q
    cases i with
    | zero => simp at q
    | succ i => exact .mv (ih x (by simpa using q))
  | v r h ih =>
    intro i x q
    cases i with
    | zero => simp at q
    | succ i => exact .v r (ih x (by simpa using q))
  | io r h ih =>
    intro i x q
    cases i with
    | zero => simp at q
    | succ i => exact .io r (ih x (by simpa using q))
section
variable {c : Fc} {env : Env} {σ : L2.St} {ts : List O} {us : List V} {H : Hp}
theorem Rp.loose {i : Nat} (x : Option V) (R : Rp c env σ ts us H) (h : env[i]? = some .no) : Rp c env (σ.set i x) ts us H := by
  obtain ⟨F, fe, ft, f, e, q⟩ := R
  exact ⟨F, fe, ft, f, e.loose x h, q⟩
theorem wipeE_no : ∀ {vs : List Nat} {env e' : Env}, wipeE vs env = some e' → e'.length = env.length ∧ ∀ i ∈ vs, e'[i]? = some .no
  | [], env, e', h => by cases h; exact ⟨rfl, fun i z => nomatch z⟩
  | v :: vs, env, e', h => by
    unfold wipeE at h
    cases e1 : wipeE vs env with
    | none => rw [e1] at h; cases h
    | some e =>
      rw [e1] at h
      obtain ⟨l, k⟩ := wipeE_no e1
      simp only at h
      have go : e.set v .no = e' → (∃ s, e[v]? = some s) → e'.length = env.length ∧ ∀ i ∈ v :: vs, e'[i]? = some .no := fun q ⟨s, qs⟩ => by
        subst q
        refine ⟨by simpa using l, fun i hi => ?_⟩
        by_cases z : v = i
        · subst z
          exact List.getElem?_set_self (List.getElem?_eq_some_iff.mp qs).1
        · rw [List.getElem?_set_ne z]
          rcases List.mem_cons.mp hi with y | y
          · exact absurd y.symm z
          · exact k i y
      split at h
      · rename_i q
        split at h
        · cases h; exact go rfl ⟨_, q⟩
        · cases h
      · cases h
theorem Rp.wipe : ∀ {vs : List Nat} {env e' : Env}, Rp c env σ ts us H → wipeE vs env = some e' → Rp c e' (L2.wipe σ vs) ts us H
  | [], env, e', R, h => by cases h; exact R
  | v :: vs, env, e', R, h => by
    unfold wipeE at h
    cases e1 : wipeE vs env with
    | none => rw [e1] at h; cases h
    | some e =>
      rw [e1] at h
      have R1 := Rp.wipe (vs := vs) R e1
      simp only at h
      show Rp c e' ((L2.wipe σ vs).set v none) ts us H
      split at h
      · rename_i q
        split at h
        · rename_i hw
          cases h
          rcases w_cases hw with rfl | ⟨o', rfl⟩
          · exact (R1.forget (.inl q)).loose none (List.getElem?_set_self (List.getElem?_eq_some_iff.mp q).1)
          · exact (R1.forget (.inr ⟨_, q⟩)).loose none (List.getElem?_set_self (List.getElem?_eq_some_iff.mp q).1)
        · cases h
      · cases h
/-- the slots as they were -/
theorem Rp.unwipe : ∀ {vs : List Nat}, Rp c env (L2.wipe σ vs) ts us H → (∀ i ∈ vs, env[i]? = some .no) → Rp c env σ ts us H
  | [], R, _ => R
  | v :: vs, R, h => by
    have R' : Rp c env ((L2.wipe σ vs).set v none) ts us H := R
    refine Rp.unwipe (vs := vs) ?_ fun i z => h i (List.mem_cons_of_mem _ z)
    by_cases hv : v < (L2.wipe σ vs).length
    · have R2 := R'.loose ((L2.wipe σ vs)[v]) (h v List.mem_cons_self)
      rw [List.set_set, List.set_getElem_self hv] at R2
      exact R2
    · rw [List.set_eq_of_length_le (by omega)] at R'
      exact R'
theorem wipe_eq : ∀ {vs : List Nat} {σ σ' : L2.St}, σ'.length = σ.length → (∀ j, j ∉ vs → σ'[j]? = σ[j]?) → L2.wipe σ' vs = L2.wipe σ vs := by
  intro vs σ σ' hl h
  have len : (L2.wipe σ' vs).length = (L2.wipe σ vs).length := by rw [wipe_length, wipe_length, hl]
  refine List.ext_getElem? fun i => ?_
  by_cases hi : i ∈ vs
  · have key : ∀ (ws : List Nat) (τ : L2.St), i ∈ ws → (L2.wipe τ ws)[i]? = if i < τ.length then some none else none := by
      intro ws
      induction ws with
      | nil => intro τ z; cases z
      | cons w ws ih =>
        intro τ z
        show ((L2.wipe τ ws).set w none)[i]? = _
        by_cases q : w = i
        · subst q
          by_cases y : w < τ.length
          · rw [List.getElem?_set_self (by rw [wipe_length]; exact y), if_pos y]
          · rw [List.getElem?_eq_none (by rw [List.length_set, wipe_length]; omega), if_neg y]
        · rw [List.getElem?_set_ne q]
          rcases List.mem_cons.mp z with y | y
          · exact absurd y.symm q
          · exact ih τ y
    rw [key vs σ' hi, key vs σ hi, hl]
  · rw [L2.wipe_out hi, L2.wipe_out hi, h i hi]
/-- an item is put at the end of the list on top but one -/
theorem Rp.append {o : O} {y : V} {D : Addr} {acc : List O} (R : Rp c env σ (o :: .node .lst acc :: ts) (y :: .ref D :: us) H) : ∃ vs, H D = some (.lst vs) ∧ vs.length = acc.length ∧ Rp c env σ (.node .lst (acc ++ [o]) :: ts) (.ref D :: us) (upd H D (.lst (vs ++ [y]))) := by
  obtain ⟨F, fe, ft, f, e, t, nd, nw⟩ := R
  cases t with
  | cons r t =>
    cases t with
    | cons rn t =>
      cases rn with
      | node h1 h2 h3 h4 =>
        rename_i f1 f2 vs h fp
        have h3' : h = .lst vs := h3
        subst h3'
        obtain ⟨n1, n2, n3⟩ := List.nodup_append.mp nd
        obtain ⟨n4, n5, n6⟩ := List.nodup_append.mp n2
        obtain ⟨n7, n8, n9⟩ := List.nodup_append.mp n5
        obtain ⟨n10, n11⟩ := List.nodup_cons.mp n7
        have stay : ∀ fp : List Addr, (∀ a ∈ fp, F a = none) → D ∉ fp → Stay fp F H F (upd H D (.lst (vs ++ [y]))) := fun fp k n => ⟨Ex.refl F, k, fun a z => upd_ne fun q => n (q ▸ z)⟩
        refine ⟨vs, h2, h4.length.symm, Rp.of (F := F) (all := fe ++ (f1 ++ (D :: fp ++ f2))) ⟨f.up, fun a o q => ?_, f.nw, fun a o q z => ?_⟩ (e.stay (stay fe (fun a z => (e.own a z).1) fun z => n3 D z D (List.mem_append_right _ (List.mem_append_left _ List.mem_cons_self)) rfl))
          (.cons (.node h1 upd_same rfl ((h4.stay _ _ _ (stay fp (fun a z => (h4.own _ _ _ a z).1) n10)).app (.cons (r.stay _ _ _ (stay f1 (fun a z => (r.own _ _ _ a z).1) fun z => n6 D z D (List.mem_append_left _ List.mem_cons_self) rfl)) .nil)))
            (t.stay _ _ _ (stay f2 (fun a z => (t.own _ _ _ a z).1) fun z => n9 D List.mem_cons_self D z rfl))) ?_ nd nw⟩
        · by_cases z : a = D
          · subst z; rw [h1] at q; cases q
          · rw [upd_ne z]; exact f.sub a o q
        · have ne : a ≠ D := fun y => by
            subst y
            rcases nw a (List.mem_append_right _ (List.mem_append_right _ (List.mem_append_left _ List.mem_cons_self))) with w | w
            · rw [w] at q; cases q
            · exact z w
          rw [upd_ne ne]
          exact f.kp a o q z
        · refine (Sub.refl fe).app (.perm ?_)
          rw [List.append_nil]
          show (D :: (fp ++ f1 ++ f2)).Perm (f1 ++ (D :: (fp ++ f2)))
          refine List.Perm.trans ?_ List.perm_middle.symm
          refine List.Perm.cons D ?_
          rw [← List.append_assoc]
          exact List.perm_append_comm.append_right _
end
section
variable {X : Cx} {c : Fc} {p1 p2 p3 : Bool} {h : IF} {hg : GF} {gs own : List Nat} {f : EF} {t : Env → RE Bool}
theorem t_lc {σ : L2.St} {H : Hp} {Q : VK} (hgs : ∀ j ∈ gs, j ∈ own) (q : tE c false (kLc own h hg t f) σ H Q) : tLc (tIq c h) (tGq c.still gs hg) (tBq c.still p1 t) (tE c.still p2 f) own σ H Q := by
  obtain ⟨env, ts, us, R, q⟩ := q
  refine ⟨env, ts, us, R, ?_⟩
  unfold kLc RE.bind at q
  cases e : h env with
  | no => rw [e] at q; exact q.elim
  | err x en => rw [e] at q; exact q
  | ok ds en =>
    rw [e] at q
    simp only at q
    intro J H1 ts2 us2 R1 hl2 w D hD
    obtain ⟨wg, ws⟩ := w
    cases ew : wipeE own en with
    | none => rw [ew] at q; exact q.elim
    | some en' =>
      rw [ew] at q
      simp only at q
      have R2 : Rp c en' (L2.wipe σ own) (.node .lst [] :: (ts2 ++ ts)) (.ref D :: (us2 ++ us)) (upd H1 D (.lst [])) := Rp.mk (xs := []) (vs := []) (R1.wipe ew) rfl hD rfl
      -- the list goes below what is walked
      have sw : ∀ {env' σ' H'} {l : List O}, Rp c env' σ' (.node .lst l :: (ts2 ++ ts)) (.ref D :: (us2 ++ us)) H' → Rp c env' σ' (ts2 ++ .node .lst l :: ts) (us2 ++ .ref D :: us) H' := fun {env' σ' H' l} R => by
        obtain ⟨F, fe, ft, f, e, t, nd, nw⟩ := R
        cases t with
        | cons r t =>
          rename_i f1 f2
          obtain ⟨f3, f4, rfl, t1, t2⟩ := t.split' hl2
          exact Rp.of f e (t1.app (.cons r t2)) (all := fe ++ (f1 ++ (f3 ++ f4))) ((Sub.refl fe).app (Sub.swap f3 f1 f4)) nd nw
      refine ⟨fun i m H' => m = ds.length - i ∧ i ≤ ds.length ∧ ∃ env' acc, (∀ j ∈ own, env'[j]? = some .no) ∧ Rp c env' (L2.wipe σ own) (.node .lst acc :: (ts2 ++ ts)) (.ref D :: (us2 ++ us)) H' ∧
        PostE c false σ ts us H Q (lcEnd (compL own hg t f (ds.drop i) env' acc)), ⟨ds.length, by simp, Nat.zero_le _, en', [], (wipeE_no ew).2, R2, q⟩, ?_⟩
      rintro i m H' ⟨rfl, hi, env', acc, hno, R', q'⟩
      by_cases hlt : i < ds.length
      · have e1 : ds.drop i = ds[i] :: ds.drop (i + 1) := List.drop_eq_getElem_cons hlt
        obtain ⟨g1, g2⟩ := wg i ds[i] (List.getElem?_eq_getElem hlt) _ _ _ _ _ (sw R')
        refine .inr ⟨g1, fun H2 => i + 1 ≤ ds.length ∧ ∃ env' acc, (∀ j ∈ own, env'[j]? = some .no) ∧ Rp c env' (L2.wipe σ own) (.node .lst acc :: (ts2 ++ ts)) (.ref D :: (us2 ++ us)) H2 ∧
          PostE c false σ ts us H Q (lcEnd (compL own hg t f (ds.drop (i + 1)) env' acc)), fun H2 n => ⟨ds.length - (i + 1), by omega, rfl, n⟩, fun x H2 y => ?_⟩
        rw [e1, compL] at q'
        have G2 := g2 x H2 y
        -- the list comes up again, below the item
        have up : ∀ {env' σ' H'} {l : List O}, Rp c env' σ' (ts2 ++ .node .lst l :: ts) (us2 ++ .ref D :: us) H' → Rp c env' σ' (.node .lst l :: (ts2 ++ ts)) (.ref D :: (us2 ++ us)) H' := fun {env' σ' H' l} R => R.turn hl2
        refine ⟨env', ts2 ++ .node .lst acc :: ts, us2 ++ .ref D :: us, _, Rp.still.mpr G2, ?_⟩
        cases e2 : hg (.dat ds[i]) env' with
        | none => rw [e2] at q'; exact q'.elim
        | some en1 =>
          rw [e2] at q'
          simp only at q'
          intro σ3 H3 R3 l3 k3
          have w3 : L2.wipe σ3 own = L2.wipe σ own := by
            have a : L2.wipe σ3 own = L2.wipe (L2.wipe σ own) own := wipe_eq l3 fun j hj => k3 j fun z => hj (hgs j z)
            rw [a]
            exact wipe_eq (by rw [wipe_length]) fun j hj => L2.wipe_out hj
          rw [w3]
          refine ⟨by rw [← w3], en1, ts2 ++ .node .lst acc :: ts, us2 ++ .ref D :: us, R3, ?_⟩
          cases e3 : t en1 with
          | no => rw [e3] at q'; exact q'.elim
          | err x en => rw [e3] at q'; exact q'.elim
          | ok b en2 =>
            rw [e3] at q'
            intro H4 R4 _
            cases b with
            | false =>
              rw [if_neg Bool.false_ne_true]
              simp only at q'
              cases e5 : wipeE own en2 with
              | none => rw [e5] at q'; exact q'.elim
              | some en4 =>
                rw [e5] at q'
                have R5 := (Rp.still.mp R4).wipe e5
                rw [w3] at R5
                exact ⟨hlt, en4, acc, (wipeE_no e5).2, up R5, q'⟩
            | true =>
              rw [if_pos rfl]
              simp only at q'
              refine ⟨en2, ts2 ++ .node .lst acc :: ts, us2 ++ .ref D :: us, R4, ?_⟩
              cases e4 : f en2 with
              | no => rw [e4] at q'; exact q'.elim
              | err x en => rw [e4] at q'; exact q'.elim
              | ok o en3 =>
                rw [e4] at q'
                simp only at q'
                intro y5 H5 R5 _
                cases e5 : wipeE own en3 with
                | none => rw [e5] at q'; exact q'.elim
                | some en4 =>
                  rw [e5] at q'
                  simp only at q'
                  split at q'
                  · rename_i hz
                    have R6 := (Rp.still.mp R5).wipe e5
                    rw [w3] at R6
                    have R7 : Rp c en4 (L2.wipe σ own) (o :: .node .lst acc :: (ts2 ++ ts)) (y5 :: .ref D :: (us2 ++ us)) H5 := by
                      obtain ⟨F, fe, ft, f, e, t, nd, nw⟩ := R6
                      cases t with
                      | cons r t =>
                        rename_i f1 f2
                        obtain ⟨f3, f4, rfl, t1, t2⟩ := t.split' hl2
                        cases t2 with
                        | cons r2 t2 =>
                          rename_i f5 f6
                          exact Rp.of f e (.cons r (.cons r2 (t1.app t2))) (all := fe ++ (f1 ++ (f3 ++ (f5 ++ f6)))) ((Sub.refl fe).app ((Sub.refl f1).app (Sub.swap f5 f3 f6))) nd nw
                    obtain ⟨vs, hv, lv, R8⟩ := R7.append
                    exact ⟨vs, hv, Nat.lt_of_lt_of_le (lv ▸ hz) (by decide), hlt, en4, acc ++ [o], (wipeE_no e5).2, R8, q'⟩
                  · exact q'.elim
      · have e1 : i = ds.length := by omega
        subst e1
        rw [List.drop_length, compL] at q'
        refine .inl ⟨ws _ _ _ _ _ (sw R'), ?_⟩
        refine q' _ H' (Rp.under (xs := ts2) (vs := us2) ?_ hl2) fun z => nomatch z
        exact R'.unwipe hno
/-- what stands in a comprehension's block -/
abbrev BlkE (X : Cx) (scope : Scope) (P : Cx → Prop) : Prop := ∀ (s : Shared) (H : Hp) (C : Addr) (cl : List (Str × Addr)) (fp : List Addr), P (X.blk s H scope (compEnvC scope cl C X.env) fp)
def kYes : Env → RE Bool := fun env => .ok true env
structure DTs (X : Cx) (c : Fc) (pu : Bool) (ifs : List Expr) (t : Env → RE Bool) : Prop where
  run : PTs X ifs (tBq c pu t)
theorem dts_nil : DTs X c true [] kYes := ⟨pts_nil.weak fun σ H Q ⟨env, ts, us, R, q⟩ => q H R fun _ => Ex.refl H⟩
theorem dts_one {e : Expr} (h : DT X c p1 e t) : DTs X c p1 [e] t := ⟨pts_one h.run⟩
theorem de_lc {elt tg iter : Expr} {ifs : List Expr} {scope : Scope} {own : List (Str × Nat)} {pos : Pos} (hc : X.calm = true) (hN : X.N.Nodup) (h1 : DI X c tg iter h) (ok : BlkOk X.N X.env.scope scope own) (hgs : ∀ j ∈ gs, j ∈ own.map (·.2))
    (h2 : BlkE X scope fun Y => DG Y c.still gs tg hg) (h3 : BlkE X scope fun Y => DTs Y c.still p1 ifs t) (h4 : BlkE X scope fun Y => DE Y c.still p2 elt f) (hs : ∀ x, foldedSetIterable iter X.env x = pure x := by intro _; rfl) :
    DE X c false (.ListComp elt [⟨tg, iter, ifs, 0⟩] scope pos) (kLc (own.map (·.2)) h hg t f) :=
  ⟨Pu.no, (pe_lc hc hN h1.run ok (fun s H C cl fp => (h2 s H C cl fp).run) (fun s H C cl fp => (h3 s H C cl fp).run) (fun s H C cl fp => (h4 s H C cl fp).run) hs).weak fun _ _ _ q => t_lc hgs q⟩
theorem ds_setLc {i : Nat} {y : Str} {py : Pos} {elt tg iter : Expr} {ifs : List Expr} {scope : Scope} {own : List (Str × Nat)} {pos spos : Pos} (hc : X.calm = true) (hN : X.N.Nodup) (hy : X.N[i]? = some y) (hyl : X.env.scope.names.lookup y = some .local)
    (hsw : swapsWith (.ListComp elt [⟨tg, iter, ifs, 0⟩] scope pos) (some (.Name y py)) spos.line X.env = pure true) (h1 : DI X c tg iter h) (ok : BlkOk X.N X.env.scope scope own) (hgs : ∀ j ∈ gs, j ∈ own.map (·.2))
    (h2 : BlkE X scope fun Y => DG Y c.still gs tg hg) (h3 : BlkE X scope fun Y => DTs Y c.still p1 ifs t) (h4 : BlkE X scope fun Y => DE Y c.still p2 elt f) (hs : ∀ x, foldedSetIterable iter X.env x = pure x := by intro _; rfl) :
    DS X c (.Assign [.Name y py] (.ListComp elt [⟨tg, iter, ifs, 0⟩] scope pos) spos) (kAs (kLc (own.map (·.2)) h hg t f) (hName i)) := by
  refine ⟨(ps_setLc hc hN hy hyl hsw h1.run ok (fun s H C cl fp => (h2 s H C cl fp).run) (fun s H C cl fp => (h3 s H C cl fp).run) (fun s H C cl fp => (h4 s H C cl fp).run) hs).weak fun D σ H q => ?_⟩
  exact t_lc (gs := gs) hgs (t_set (p1 := false) q)
end
end DP
end

section
namespace DP
open PySem PySem.Spec PyProof.Rows L2
/-! ### defs and calls -/
inductive RF where
  | ok (o : O) (outs : List O)
  | err (x : Str) (outs : List O)
  | no
/-- the values of the parameters that are given back -/
def ioVals : List Bool → List V → List V
  | true :: io, v :: vs => v :: ioVals io vs
  | false :: io, _ :: vs => ioVals io vs
  | _, _ => []
structure After (K : Frag) (F H : Hp) (fp : List Addr) (F' H' : Hp) : Prop where
  f : Ex F F'
  sub : Ex F' H'
  nw : ∀ a, F' a ≠ none → F a ≠ none ∨ H a = none ∨ a ∈ fp
  kp : ∀ a o, H a = some o → a ∉ fp → H' a = some o
def PostF (K : Frag) (cls : Str → Value) (io : List Bool) (F H : Hp) (vs : List V) (fp : List Addr) (Q : VK) (E : XK) : RF → Prop
  | .ok o outs => ∀ v H' F' fr fo, After K F H fp F' H' → RO K F' H' o v fr → ROs K F' H' outs (ioVals io vs) fo → (fr ++ fo).Nodup → (∀ a ∈ fr ++ fo, H a = none ∨ a ∈ fp) → Q v H'
  | .err x outs => ∀ H' F' fo, After K F H fp F' H' → ROs K F' H' outs (ioVals io vs) fo → fo.Nodup → (∀ a ∈ fo, H a = none ∨ a ∈ fp) → E (cls x) none H'
  | .no => False
/-- THE PROMISE of a def: on trees it reckons what den says -/
def spD (K : Frag) (cls : Str → Value) (io : List Bool) (den : List O → RF) : Sp := fun vs H Q E => ∃ F os fp, Ex F H ∧ ROs K F H os vs fp ∧ fp.Nodup ∧ os.length = io.length ∧ PostF K cls io F H vs fp Q E (den os)
def startE : List Bool → List O → Nat → Env
  | true :: io, o :: os, n + 1 => .io o :: startE io os n
  | false :: io, o :: os, n + 1 => .v o :: startE io os n
  | _, _, n => List.replicate n .no
def startP : List Bool → List V → Nat → List (Option V)
  | b :: io, v :: vs, n + 1 => (if b = true then some v else none) :: startP io vs n
  | _, _, n => List.replicate n none
def outsOf : List Bool → Env → Option (List O)
  | true :: io, .io o :: env => (outsOf io env).map (o :: ·)
  | true :: _, _ => none
  | false :: io, _ :: env => outsOf io env
  | false :: _, [] => none
  | [], _ => some []
/-- a def's worth by its body's -/
def finF (io : List Bool) : RS → RF
  | .nx env => match outsOf io env with
    | some l => .ok (.dat .none) l
    | none => .no
  | .rt o env => match outsOf io env with
    | some l => .ok o l
    | none => .no
  | .err x env => match outsOf io env with
    | some l => .err x l
    | none => .no
  | _ => .no
theorem rep_env {K : Frag} {F H : Hp} : ∀ n : Nat, REnv K F H (List.replicate n none) (List.replicate n .no) (List.replicate n none) []
  | 0 => .nil
  | n + 1 => .no (rep_env n)
theorem start_env {K : Frag} {F H : Hp} : ∀ {io : List Bool} {os : List O} {vs : List V} {fp : List Addr} (n : Nat), ROs K F H os vs fp → os.length = io.length → os.length ≤ n →
    REnv K F H (startP io vs n) (startE io os n) (vs.map some ++ List.replicate (n - vs.length) none) fp
  | [], [], vs, fp, n, r, _, _ => by
    cases r
    cases n <;> exact rep_env _
  | b :: io, o :: os, vs, fp, n, r, hl, hn => by
    cases r with
    | cons r1 r2 =>
      rename_i v f1 vs f2
      cases n with
      | zero => simp at hn
      | succ n =>
        have ih := start_env (io := io) n r2 (by simpa using hl) (by simpa using hn)
        have e : n + 1 - (v :: vs).length = n - vs.length := by simp
        rw [e]
        cases b with
        | true => exact .io r1 ih
        | false => exact .v r1 ih
  | [], _ :: _, _, _, _, _, hl, _ => by simp at hl
  | _ :: _, [], _, _, _, _, hl, _ => by simp at hl
theorem outs_env {K : Frag} {F H : Hp} : ∀ {io : List Bool} {env : Env} {vs : List V} {n : Nat} {σ : L2.St} {fe : List Addr} {l : List O}, outsOf io env = some l → vs.length = io.length → REnv K F H (startP io vs n) env σ fe → ∃ fo, ROs K F H l (ioVals io vs) fo ∧ Sub fo fe
  | [], env, vs, n, σ, fe, l, h, hl, e => by
    have : l = [] := by unfold outsOf at h; cases h; rfl
    subst this
    exact ⟨[], .nil, fe, by simp⟩
  | b :: io, env, vs, n, σ, fe, l, h, hl, e => by
    cases vs with
    | nil => simp at hl
    | cons v vs =>
      cases n with
      | zero =>
        have z : startP (b :: io) (v :: vs) 0 = [] := rfl
        rw [z] at e
        cases e
        cases b <;> simp [outsOf] at h
      | succ n =>
        have z : startP (b :: io) (v :: vs) (n + 1) = (if b = true then some v else none) :: startP io vs n := rfl
        rw [z] at e
        cases b with
        | true =>
          cases env with
          | nil => simp [outsOf] at h
          | cons s env =>
            cases s with
            | io o =>
              unfold outsOf at h
              cases q : outsOf io env with
              | none => rw [q] at h; cases h
              | some l' =>
                rw [q] at h
                cases h
                rw [if_pos rfl] at e
                cases e with
                | io r e =>
                  obtain ⟨fo, ro, s⟩ := outs_env q (by simpa using hl) e
                  exact ⟨_ ++ fo, .cons r ro, (Sub.refl _).app s⟩
            | no => simp [outsOf] at h
            | v o => simp [outsOf] at h
            | mv => simp [outsOf] at h
        | false =>
          cases env with
          | nil => simp [outsOf] at h
          | cons s env =>
            have h' : outsOf io env = some l := h
            rw [if_neg Bool.false_ne_true] at e
            cases e with
            | no e =>
              obtain ⟨fo, ro, s⟩ := outs_env h' (by simpa using hl) e
              exact ⟨fo, ro, s⟩
            | v r e =>
              obtain ⟨fo, ro, s⟩ := outs_env h' (by simpa using hl) e
              exact ⟨fo, ro, s.trans (Sub.right _ _)⟩
/-- a body as a def's worth -/
theorem fn_body {K : Frag} {cls : Str → Value} {io : List Bool} {den : List O → RF} {N ps : List Str} {vs : List V} {H : Hp} {Q : VK} {E : XK} {X : Cx} {body : List Stmt} {g : Env → RS} (hN : ps.length ≤ N.length) (hio : io.length = ps.length)
    (h : ∀ F fp, DSs X ⟨K, F, H, fp, startP io vs N.length, fun cls d _ H => E cls d H, cls⟩ body g) (hd : ∀ os, os.length = ps.length → den os = finF io (g (startE io os N.length))) (hsp : spD K cls io den vs H Q E) :
    ∃ t, PSs X body t ∧ t { nx := fun _ H' => Q .non H', rt := Q } (start N vs) H := by
  obtain ⟨F, os, fp, x, r, nd, hl, q⟩ := hsp
  refine ⟨_, (h F fp).run, startE io os N.length, [], [], ⟨F, fp, [], ⟨Ex.refl F, x, fun a z => .inl z, fun a o z _ => z⟩, start_env N.length r hl (by omega), .nil, by simpa using nd, fun a z => .inr (by simpa using z)⟩, ?_⟩
  rw [hd os (hl.trans hio)] at q
  have lv : vs.length = io.length := r.length.symm.trans hl
  cases e : g (startE io os N.length) with
  | no => rw [e] at q; exact q.elim
  | bk en => rw [e] at q; exact q.elim
  | ct en => rw [e] at q; exact q.elim
  | nx en =>
    rw [e] at q
    unfold finF at q
    simp only at q
    intro σ' H' R
    obtain ⟨F', fe, ft, f, en', t, nd', nw⟩ := R
    cases e2 : outsOf io en with
    | none => rw [e2] at q; exact q.elim
    | some l =>
      rw [e2] at q
      obtain ⟨fo, ro, s⟩ := outs_env e2 lv en'
      cases t
      rw [List.append_nil] at nd' nw
      exact q .non H' F' [] fo ⟨f.up, f.sub, f.nw, f.kp⟩ (.dat .non) ro (s.nodup nd') fun a z => nw a (s.mem a z)
  | rt o en =>
    rw [e] at q
    unfold finF at q
    simp only at q
    intro v σ' H' R
    obtain ⟨F', fe, ft, f, en', t, nd', nw⟩ := R
    cases e2 : outsOf io en with
    | none => rw [e2] at q; exact q.elim
    | some l =>
      rw [e2] at q
      obtain ⟨fo, ro, s⟩ := outs_env e2 lv en'
      cases t with
      | cons r1 t =>
        cases t
        rename_i f1
        have s2 : Sub (f1 ++ fo) (fe ++ (f1 ++ [])) := by
          rw [List.append_nil]
          exact ((Sub.refl f1).app s).trans (.perm List.perm_append_comm)
        exact q v H' F' f1 fo ⟨f.up, f.sub, f.nw, f.kp⟩ r1 ro (s2.nodup nd') fun a z => nw a (s2.mem a z)
  | err x en =>
    rw [e] at q
    unfold finF at q
    simp only at q
    intro σ' H' R
    obtain ⟨F', fe, ft, f, en', t, nd', nw⟩ := R
    cases e2 : outsOf io en with
    | none => rw [e2] at q; exact q.elim
    | some l =>
      rw [e2] at q
      obtain ⟨fo, ro, s⟩ := outs_env e2 lv en'
      cases t
      rw [List.append_nil] at nd' nw
      exact q H' F' fo ⟨f.up, f.sub, f.nw, f.kp⟩ ro (s.nodup nd') fun a z => nw a (s.mem a z)
/-- the context of a def's body -/
abbrev fcOf (K : Frag) (cls : Str → Value) (io : List Bool) (N : List Str) (vs : List V) (H : Hp) (E : XK) (F : Hp) (fp : List Addr) : Fc := ⟨K, F, H, fp, startP io vs N.length, fun cls d _ H => E cls d H, cls⟩
section
variable {P : Program} {w : World} {K : Frag} {mg : Str → Option Value} {base : Heap}
theorem fn_ok {x qual : Str} {st : Stmt} {f : Addr} {fd : FuncData} {N ps : List Str} {k : Nat} {cls : Str → Value} {io : List Bool} {den : List O → RF} {g : Env → RS} (F : Fun K x qual st f fd) (S : FnScope N ps (defScope st)) (hN : ps.length ≤ N.length) (hio : io.length = ps.length)
    (hd : ∀ os, os.length = ps.length → den os = finF io (g (startE io os N.length)))
    (h : ∀ (cdv : Value) (A : Around) (outer : List PySem.Env) (s : Shared) (H : Hp) (vs : List V) (E : XK), Room k (A.deeper (envOfC qual (defScope st) s.heap.objs.size f cdv)) → ∀ F fp,
      DSs (cxOf (L2.CX P w) P w K mg base N qual (defScope st) f cdv A outer s H E) (fcOf K cls io N vs H E F fp) (defBody st) g) : FnOk P w K mg base (L2.CX P w) (k + 1) f fd ps (spD K cls io den) := by
  refine F.okX S (fun vs H Q E q => ?_) fun cdv A outer s H vs Q E hr q => fn_body hN hio (fun F fp => h cdv A outer s H vs E hr F fp) hd q
  obtain ⟨F, os, fp, x, r, nd, hl, _⟩ := q
  rw [← r.length, hl, hio]
end
/-! calls -/
def backs : List Bool → List (Option Nat) → List O → Env → Env
  | true :: io, some i :: ios, o :: outs, e => backs io ios outs (putBack e i o)
  | true :: io, none :: ios, _ :: outs, e => backs io ios outs e
  | false :: io, _ :: ios, outs, e => backs io ios outs e
  | _, _, _, e => e
/-- the lent trees are taken -/
def takeO (env : Env) (i : Nat) : Option (O × Env) := match env[i]? with
  | some (.v o) => some (o, env.set i .no)
  | some (.io o) => some (o, env.set i .mv)
  | _ => none
def lendIn : List (Option Nat) → List O → Env → Option (List O × Env)
  | some i :: ios, _ :: os, e => match takeO e i with
    | some (o, e1) => match lendIn ios os e1 with
      | some (os', e2) => some (o :: os', e2)
      | none => none
    | none => none
  | none :: ios, o :: os, e => match lendIn ios os e with
    | some (os', e2) => some (o :: os', e2)
    | none => none
  | _, os, e => some (os, e)
theorem Rp.unturn {c : Fc} {env : Env} {σ : L2.St} {ts : List O} {us : List V} {H : Hp} {o : O} {v : V} {xs : List O} {vs : List V} (R : Rp c env σ (o :: (xs ++ ts)) (v :: (vs ++ us)) H) (hl : xs.length = vs.length) : Rp c env σ (xs ++ o :: ts) (vs ++ v :: us) H := by
  obtain ⟨F, fe, ft, f, e, t, nd, nw⟩ := R
  cases t with
  | cons r t =>
    rename_i f1 f2
    obtain ⟨f3, f4, rfl, t1, t2⟩ := t.split' hl
    exact Rp.of f e (t1.app (.cons r t2)) (all := fe ++ (f1 ++ (f3 ++ f4))) ((Sub.refl fe).app (Sub.swap f3 f1 f4)) nd nw
theorem Rp.lend {c : Fc} {σ : L2.St} {H : Hp} : ∀ {ios : List (Option Nat)} {os os' : List O} {vs : List V} {ts : List O} {us : List V} {env env' : Env}, ios.length = vs.length → os.length = vs.length → (∀ (k i : Nat), ios[k]? = some (some i) → σ[i]? = some vs[k]?) →
    lendIn ios os env = some (os', env') → Rp c env σ (os ++ ts) (vs ++ us) H → os'.length = vs.length ∧ Rp c env' σ (os' ++ ts) (vs ++ us) H
  | [], os, os', vs, ts, us, env, env', h1, h2, hw, e, R => by
    have : vs = [] := List.eq_nil_of_length_eq_zero h1.symm
    subst this
    have : os = [] := List.eq_nil_of_length_eq_zero h2
    subst this
    unfold lendIn at e
    cases e
    exact ⟨rfl, R⟩
  | w :: ios, os, os', vs, ts, us, env, env', h1, h2, hw, e, R => by
    cases vs with
    | nil => simp at h1
    | cons v vs =>
      cases os with
      | nil => simp at h2
      | cons o os =>
        have hw' : ∀ (k i : Nat), ios[k]? = some (some i) → σ[i]? = some vs[k]? := fun k i z => by simpa using hw (k + 1) i (by simpa using z)
        have l1 : ios.length = vs.length := by simpa using h1
        have l2 : os.length = vs.length := by simpa using h2
        have R' : Rp c env σ (o :: (os ++ ts)) (v :: (vs ++ us)) H := R
        cases w with
        | none =>
          unfold lendIn at e
          cases e1 : lendIn ios os env with
          | none => rw [e1] at e; cases e
          | some q =>
            obtain ⟨os2, e2⟩ := q
            rw [e1] at e
            cases e
            obtain ⟨a, b⟩ := Rp.lend l1 l2 hw' e1 (R'.unturn l2)
            exact ⟨by simp [a], b.turn a⟩
        | some i =>
          unfold lendIn at e
          cases e0 : takeO env i with
          | none => rw [e0] at e; cases e
          | some q0 =>
            obtain ⟨o1, en1⟩ := q0
            rw [e0] at e
            simp only at e
            cases e1 : lendIn ios os en1 with
            | none => rw [e1] at e; cases e
            | some q =>
              obtain ⟨os2, e2⟩ := q
              rw [e1] at e
              cases e
              have ev : σ[i]? = some (some v) := by simpa using hw 0 i rfl
              have R2 : Rp c en1 σ (o1 :: (os ++ ts)) (v :: (vs ++ us)) H := by
                unfold takeO at e0
                split at e0
                · rename_i z
                  cases e0
                  obtain ⟨v', ev', R3⟩ := R'.pop.take z
                  rw [ev] at ev'
                  cases ev'
                  exact R3
                · rename_i z
                  cases e0
                  obtain ⟨v', ev', R3⟩ := R'.pop.takeIo z
                  rw [ev] at ev'
                  cases ev'
                  exact R3
                · cases e0
              obtain ⟨a, b⟩ := Rp.lend l1 l2 hw' e1 (R2.unturn l2)
              exact ⟨by simp [a], b.turn a⟩
def kCall (io : List Bool) (ios : List (Option Nat)) (den : List O → RF) (fa : Env → RE (List O)) : EF := fun env => (fa env).bind fun os0 e0 => match lendIn ios os0 e0 with
  | some (os, e) => if os.length = io.length then match den os with
    | .ok o outs => .ok o (backs io ios outs e)
    | .err x outs => .err x (backs io ios outs e)
    | .no => .no
    else .no
  | none => .no
theorem Rp.backs {c : Fc} {σ : L2.St} {ts : List O} {us : List V} {H : Hp} : ∀ {io : List Bool} {ios : List (Option Nat)} {outs : List O} {vs : List V} {env : Env}, io.length = vs.length → ios.length = vs.length → outs.length = (ioVals io vs).length →
    (∀ (k i : Nat), ios[k]? = some (some i) → σ[i]? = some vs[k]?) → Rp c env σ (outs ++ ts) (ioVals io vs ++ us) H → Rp c (DP.backs io ios outs env) σ ts us H
  | [], ios, outs, vs, env, h1, h2, h3, hw, R => by
    have : vs = [] := List.eq_nil_of_length_eq_zero h1.symm
    subst this
    have : outs = [] := List.eq_nil_of_length_eq_zero h3
    subst this
    exact R
  | b :: io, ios, outs, vs, env, h1, h2, h3, hw, R => by
    cases vs with
    | nil => simp at h1
    | cons v vs =>
      cases ios with
      | nil => simp at h2
      | cons w ios =>
        have hw' : ∀ (k i : Nat), ios[k]? = some (some i) → σ[i]? = some vs[k]? := fun k i z => by simpa using hw (k + 1) i (by simpa using z)
        cases b with
        | false => exact Rp.backs (io := io) (vs := vs) (by simpa using h1) (by simpa using h2) h3 hw' R
        | true =>
          cases outs with
          | nil => simp [ioVals] at h3
          | cons o outs =>
            have R' : Rp c env σ (o :: (outs ++ ts)) (v :: (ioVals io vs ++ us)) H := R
            cases w with
            | none => exact Rp.backs (io := io) (vs := vs) (by simpa using h1) (by simpa using h2) (by simpa [ioVals] using h3) hw' R'.pop
            | some i =>
              have e : σ[i]? = some (some v) := by simpa using hw 0 i rfl
              exact Rp.backs (io := io) (vs := vs) (by simpa using h1) (by simpa using h2) (by simpa [ioVals] using h3) hw' (R'.back e)
theorem Rp.after {c : Fc} {env : Env} {σ : L2.St} {ts : List O} {us : List V} {F H F' H' : Hp} {fe f1 f2 fo : List Addr} {outs : List O} {ws : List V} (f : Fr c F H) (e : REnv c.K F H c.ps env σ fe) (t : ROs c.K F H ts us f2) (nd : (fe ++ (f1 ++ f2)).Nodup) (nw : ∀ a ∈ fe ++ (f1 ++ f2), c.Hs a = none ∨ a ∈ c.P)
    (af : After c.K F H f1 F' H') (r : ROs c.K F' H' outs ws fo) (no : fo.Nodup) (ho : ∀ a ∈ fo, H a = none ∨ a ∈ f1) : Rp c env σ (outs ++ ts) (ws ++ us) H' := by
  obtain ⟨n1, n2, n3⟩ := List.nodup_append.mp nd
  obtain ⟨n4, n5, n6⟩ := List.nodup_append.mp n2
  have st : ∀ fp : List Addr, (∀ a ∈ fp, F a = none ∧ ∃ o, H a = some o) → (∀ a ∈ fp, a ∉ f1) → Stay fp F H F' H' := fun fp k n => by
    refine ⟨af.f, fun a z => ?_, fun a z => ?_⟩
    · obtain ⟨q, o, q2⟩ := k a z
      cases e : F' a with
      | none => rfl
      | some u =>
        rcases af.nw a (by rw [e]; exact fun z => nomatch z) with y | y | y
        · exact absurd q y
        · rw [q2] at y; cases y
        · exact absurd y (n a z)
    · obtain ⟨_, o, q⟩ := k a z
      rw [af.kp a o q (n a z), q]
  refine ⟨F', fe, fo ++ f2, ⟨f.up.trans af.f, af.sub, fun a z => ?_, fun a o z n => ?_⟩, e.stay (st fe e.own fun a z y => n3 a z a (List.mem_append_left _ y) rfl), r.app (t.stay _ _ _ (st f2 (t.own _ _ _) fun a z y => n6 a y a z rfl)), ?_, fun a z => ?_⟩
  · rcases af.nw a z with y | y | y
    · exact f.nw a y
    · exact .inr (f.fresh y)
    · exact .inr (nw a (List.mem_append_right _ (List.mem_append_left _ y)))
  · refine af.kp a o (f.kp a o z n) fun y => ?_
    rcases nw a (List.mem_append_right _ (List.mem_append_left _ y)) with q | q
    · rw [q] at z; cases z
    · exact n q
  · refine List.nodup_append.mpr ⟨n1, List.nodup_append.mpr ⟨no, n5, fun a ha b hb q => ?_⟩, fun a ha b hb q => ?_⟩
    · subst q
      rcases ho a ha with z | z
      · obtain ⟨_, o, q⟩ := t.own _ _ _ a hb; rw [q] at z; cases z
      · exact n6 a z a hb rfl
    · subst q
      rcases List.mem_append.mp hb with hb | hb
      · rcases ho a hb with z | z
        · obtain ⟨_, o, q⟩ := e.own a ha; rw [q] at z; cases z
        · exact n3 a ha a (List.mem_append_left _ z) rfl
      · exact n3 a ha a (List.mem_append_right _ hb) rfl
  · rcases List.mem_append.mp z with y | y
    · exact nw a (List.mem_append_left _ y)
    · rcases List.mem_append.mp y with y | y
      · rcases ho a y with q | q
        · exact f.fresh q
        · exact nw a (List.mem_append_right _ (List.mem_append_left _ q))
      · exact nw a (List.mem_append_right _ (List.mem_append_right _ y))
theorem t_call1 {c : Fc} {io : List Bool} {ios : List (Option Nat)} {den : List O → RF} {en : Env} {os : List O} {σ : L2.St} {H H1 : Hp} {Q : VK} {ts : List O} {us vs : List V} (hl : os.length = vs.length) (hli : ios.length = vs.length) (hw : ∀ (k i : Nat), ios[k]? = some (some i) → σ[i]? = some vs[k]?) (R1 : Rp c en σ (os ++ ts) (vs ++ us) H1) (hio : os.length = io.length)
    (q : PostE c false σ ts us H Q (match den os with | .ok o outs => .ok o (backs io ios outs en) | .err x outs => .err x (backs io ios outs en) | .no => .no)) : spD c.K c.cls io den vs H1 Q (WE c.W σ) := by
      obtain ⟨F, fe, ft, f, e', t, nd, nw⟩ := R1
      obtain ⟨f1, f2, rfl, t1, t2⟩ := t.split' hl
      obtain ⟨n1, n2, n3⟩ := List.nodup_append.mp nd
      refine ⟨F, os, f1, f.sub, t1, (List.nodup_append.mp n2).1, hio, ?_⟩
      cases e2 : den os with
      | no => rw [e2] at q; exact q.elim
      | ok o outs =>
        rw [e2] at q
        intro v H' F' fr fo af ro rs no ho
        have R2 : Rp c en σ ((o :: outs) ++ ts) ((v :: ioVals io vs) ++ us) H' := Rp.after f e' t2 nd nw af (.cons ro rs) no ho
        -- the value goes below, the trees come back
        have R3 : Rp c en σ (outs ++ o :: ts) (ioVals io vs ++ v :: us) H' := by
          obtain ⟨F, fe, ft, f, e, t, nd, nw⟩ := R2
          cases t with
          | cons r t =>
            rename_i f1 f2
            obtain ⟨f3, f4, rfl, t1, t2⟩ := t.split' rs.length
            exact Rp.of f e (t1.app (.cons r t2)) (all := fe ++ (f1 ++ (f3 ++ f4))) ((Sub.refl fe).app (Sub.swap f3 f1 f4)) nd nw
        exact q v H' (Rp.backs (by omega) hli rs.length hw R3) fun z => nomatch z
      | err x outs =>
        rw [e2] at q
        intro H' F' fo af rs no ho
        exact q H' (Rp.backs (by omega) hli rs.length hw (Rp.after f e' t2 nd nw af rs no ho))
theorem t_call {c : Fc} {io : List Bool} {ios : List (Option Nat)} {den : List O → RF} {fa : Env → RE (List O)} {p1 : Bool} {σ : L2.St} {H : Hp} {Q : VK} (q : tE c false (kCall io ios den fa) σ H Q) : tCallS (spD c.K c.cls io den) (WE c.W) (tAq c p1 ios fa) σ H Q := by
  obtain ⟨env, ts, us, R, q⟩ := q
  refine ⟨env, ts, us, R, ?_⟩
  unfold kCall RE.bind at q
  cases e : fa env with
  | no => rw [e] at q; exact q.elim
  | err x en => rw [e] at q; exact q
  | ok os0 en0 =>
    rw [e] at q
    simp only at q
    intro vs H1 R0 hl0 hli hw _
    split at q
    · rename_i os en el
      obtain ⟨hl, R1⟩ := Rp.lend hli hl0 hw el R0
      split at q
      · rename_i hio
        exact t_call1 hl hli hw R1 hio q
      · exact q.elim
    · exact q.elim
theorem de_call {X : Cx} {c : Fc} {p1 : Bool} {k : Nat} {f : Addr} {fd : FuncData} {ps : List Str} {io : List Bool} {ios : List (Option Nat)} {den : List O → RF} {fa : Env → RE (List O)} {x : Str} {p pos : Pos} {e : Expr} {es : List Expr} (G : FnOk X.prog X.w X.K X.mg X.base (L2.CX X.prog X.w) k f fd ps (spD c.K c.cls io den)) (hr : Room k X.A) (hg : Gl X x) (hm : X.mg x = some (.ref f)) (hk : PySem.W.keepIn X.K (.ref f) = true) (hb : Binds X.K fd ps [])
    (hx : ∀ σ, PassesAt (L2.CX X.prog X.w) X σ (WE c.W σ)) (ha : DA X c p1 ios (e :: es) fa) (hdb : (x == ("__debug__" : Str)) = false := by decide) (he : starEach (e :: es) X.env = (false, eval e X.env) :: starEach es X.env := by rfl) (hpl : (backTo pos (starEach es X.env)).any (·.1) = false := by rfl) :
    DE X c false (.Call (.Name x p) (e :: es) [] pos) (kCall io ios den fa) :=
  ⟨Pu.no, (pe_callS G hr hg hm hk hb hx ha.run hdb he hpl).weak fun _ _ _ q => t_call q⟩
/-- what a comprehension's block lets out: nothing -/
theorem pass_still {X : Cx} {c : Fc} (σ : L2.St) : PassesAt (L2.CX X.prog X.w) X σ (WE c.still.W σ) := fun _ _ _ _ _ _ h => by
  obtain ⟨_, _, _, _, _, _, _, _, _, _, _, _, z⟩ := h
  exact z.elim
/-- raise C('..') -/
theorem ds_raise {X : Cx} {c : Fc} {C : Addr} {bmB : List Value} {B newId initId : String} {x m : Str} {j : Nat} {p p2 pos pos2 : Pos} (hc : X.calm = true) (tk : Takes X c.W) (F : ExcBaseFacts B newId initId bmB) (q : PySem.W.excIn X.K C bmB newId = true) (gC : X.mg x = some (.ref C)) (kC : PySem.W.keepIn X.K (.ref C) = true) (r : Raises X (.ref C)) (hg : Gl X x) (hcl : c.cls x = .ref C)
    (hdb : (x == ("__debug__" : Str)) = false := by decide) : DS X c (.Raise (some (.Call (.Name x p) [.Constant (.str m) j p2] [] pos)) none pos2) (fun env => .err x env) := by
  refine ⟨(ps_raise hc tk (pmk_own F q gC kC r hg hdb)).weak fun D σ H ⟨env, ts, us, R, q⟩ => ?_⟩
  have q' := q σ H R
  rw [hcl] at q'
  exact q'
end DP
end

section
namespace DP
open PySem PySem.Spec PyProof.Rows L2
/-! ### zip of three tuples -/
def Itz3 (K : Frag) (a b d : Addr) : It :=
  ⟨fun i H => ∃ xs ys zs x y z, SqT K H a xs ∧ SqT K H b ys ∧ SqT K H d zs ∧ xs[i]? = some x ∧ ys[i]? = some y ∧ zs[i]? = some z,
   fun i H v H' => ∃ T x y z, v = .ref T ∧ H T = none ∧ H' = upd H T (.tup [x, y, z]) ∧ (∀ l, SqT K H a l → l[i]? = some x) ∧ (∀ l, SqT K H b l → l[i]? = some y) ∧ (∀ l, SqT K H d l → l[i]? = some z),
   fun i H => ∃ xs ys zs, SqT K H a xs ∧ SqT K H b ys ∧ SqT K H d zs ∧ i ≤ xs.length ∧ i ≤ ys.length ∧ i ≤ zs.length ∧ (i = xs.length ∨ i = ys.length ∨ i = zs.length)⟩
theorem turn_zip3 {P : Program} {w : World} {K : Frag} {elts : List Expr} {kk : Nat} {tpos : Pos} {a b d z TI TO i1 i2 i3 : Addr} (D : ZipSep3 z TI TO i1 i2 i3 [i1, a] [i2, b] [i3, d]) (na : a ≠ i1) (nb : b ≠ i2) (nd : d ≠ i3) :
    Turn P w K (.Tuple elts kk tpos) (Itz3 K a b d) [z, TI, TO, i1, i2, i3] z (fun i h => IsZip h z TI TO .none ∧ IsTupOf3 h TI (.ref i1) (.ref i2) (.ref i3) ∧ (∃ x y u, IsTupOf3 h TO x y u) ∧ h.IsTupleIter i1 a i ∧ h.IsTupleIter i2 b i ∧ h.IsTupleIter i3 d i) where
  mem := by simp
  obj := fun i h st c hc => by
    obtain ⟨hz, hTI, ⟨x, y, u, hTO⟩, ⟨o1, e1, _, d1⟩, ⟨o2, e2, _, d2⟩, ⟨o3, e3, _, d3⟩⟩ := st
    have e' : c = z ∨ c = TI ∨ c = TO ∨ c = i1 ∨ c = i2 ∨ c = i3 := by simpa using hc
    rcases e' with q | q | q | q | q | q
    · rw [q]; exact ⟨_, hz, fun v q => nomatch q⟩
    · rw [q]; exact ⟨_, hTI, fun v q => nomatch q⟩
    · rw [q]; exact ⟨_, hTO, fun v q => nomatch q⟩
    · rw [q]; exact ⟨o1, e1, fun v q => by rw [d1] at q; cases q⟩
    · rw [q]; exact ⟨o2, e2, fun v q => by rw [d2] at q; cases q⟩
    · rw [q]; exact ⟨o3, e3, fun v q => by rw [d3] at q; cases q⟩
  keep := fun i h h' st k => by
    obtain ⟨hz, hTI, ⟨x, y, u, hTO⟩, h1, h2, h3⟩ := st
    exact ⟨k z (by simp) _ hz, k TI (by simp) _ hTI, ⟨x, y, u, k TO (by simp) _ hTO⟩, h1.at fun o q => k i1 (by simp) o q, h2.at fun o q => k i2 (by simp) o q, h3.at fun o q => k i3 (by simp) o q⟩
  item := by
    intro X hP hw hK hc i pins s σ H E I hf st hg
    subst hP hw hK
    obtain ⟨hz, hTI, ⟨x0, y0, u0, hTO⟩, h1, h2, h3⟩ := st
    obtain ⟨xs, ys, zs, x, y, u, hqx, hqy, hqz, hx, hy, hu⟩ := hg
    obtain ⟨its, rv, p, _⟩ := I.tuple hqx
    obtain ⟨its2, rv2, p2, _⟩ := I.tuple hqy
    obtain ⟨its3, rv3, p3, _⟩ := I.tuple hqz
    obtain ⟨v1, hv1, ru⟩ := rv.get hx
    obtain ⟨v2, hv2, ru2⟩ := rv2.get hy
    obtain ⟨v3, hv3, ru3⟩ := rv3.get hu
    have hh := I.ok.hd hc
    have hzl : z < s.heap.objs.size := Heap.lt_size hz
    have lt1 : i < its.length := (List.getElem?_eq_some_iff.mp hv1).1
    have lt2 : i < its2.length := (List.getElem?_eq_some_iff.mp hv2).1
    have lt3 : i < its3.length := (List.getElem?_eq_some_iff.mp hv3).1
    refine wpAny_pyNext_zipD3_item D (Draws.tuple (A := X.A.in1) hh i1 a na its.toArray) (Draws.tuple (A := X.A.in1) hh i2 b nb its2.toArray) (Draws.tuple (A := X.A.in1) hh i3 d nd its3.toArray) hz hTI hTO ⟨h1, p⟩ ⟨h2, p2⟩ ⟨h3, p3⟩ (by simpa using lt1) (by simpa using lt2) (by simpa using lt3)
      fun x1 x2 x3 h' tk q1 q2 q3 z' TO' s1' s2' s3' hT hsz hk => ?_
    have e1 : x1 = v1 := by
      have : its[i]? = some x1 := by simpa using q1
      rw [hv1] at this; exact (Option.some.inj this).symm
    have e2 : x2 = v2 := by
      have : its2[i]? = some x2 := by simpa using q2
      rw [hv2] at this; exact (Option.some.inj this).symm
    have e3 : x3 = v3 := by
      have : its3[i]? = some x3 := by simpa using q3
      rw [hv3] at this; exact (Option.some.inj this).symm
    subst e1 e2 e3
    refine ⟨_, rfl, wpAny_letOwnedTupleGo_zip (s := { s with heap := h', toks := tk }) z' fun h'' z'' sb => ?_⟩
    have hT2 : h''.get? s.heap.objs.size = some { cls := .type "tuple", data := .seq #[x1, x2, x3] } := (sb.2 _ (Nat.ne_of_gt hzl)).trans hT
    have new : ObjOk X.prog X.w (upd H s.heap.objs.size (.tup [x, y, u])) h'' s.heap.objs.size (.tup [x, y, u]) :=
      ⟨by show 3 ≤ sizeLine; decide, [x1, x2, x3], .cons ru (.cons ru2 (.cons ru3 .nil)), ⟨_, hT2, rfl, _, rfl⟩⟩
    have keep : ∀ c o, c ∉ [z, TI, TO, i1, i2, i3] → s.heap.get? c = some o → h''.get? c = some o := fun c o hb q =>
      (sb.2 c (fun q' => hb (by simp [q']))).trans (hk c o (fun q' => hb (by simp [q'])) (fun q' => hb (by simp [q'])) (fun q' => hb (by simp [q'])) (fun q' => hb (by simp [q'])) (fun q' => hb (by simp [q'])) q)
    have I1 : Inv X pins σ (upd H s.heap.objs.size (.tup [x, y, u])) { s with heap := h'', toks := tk } :=
      I.turnedNew (t' := tk) (ch := [z, TI, TO, i1, i2, i3]) keep hf (Nat.le_refl _) new
    refine ⟨.ref s.heap.objs.size, _, I1, rfl, ⟨_, x, y, u, rfl, I.hok.fresh (Nat.le_refl _), rfl, fun l hl => by rw [I.tuple_inj hl hqx]; exact hx, fun l hl => by rw [I.tuple_inj hl hqy]; exact hy, fun l hl => by rw [I.tuple_inj hl hqz]; exact hu⟩, ⟨z'', ?_, ⟨x1, x2, x3, ?_⟩, ?_, ?_, ?_⟩, fun c hcm => ?_⟩
    · exact (sb.2 _ D.TIz).trans (hk _ _ D.TIz D.TITO D.TIi1 D.TIi2 D.TIi3 hTI)
    · exact (sb.2 _ D.TOz).trans TO'
    · exact s1'.1.at fun o q => (sb.2 _ (fun e => D.zi1 e.symm)).trans q
    · exact s2'.1.at fun o q => (sb.2 _ (fun e => D.zi2 e.symm)).trans q
    · exact s3'.1.at fun o q => (sb.2 _ (fun e => D.zi3 e.symm)).trans q
    · have hlt : c < s.heap.objs.size := by
        have e' : c = z ∨ c = TI ∨ c = TO ∨ c = i1 ∨ c = i2 ∨ c = i3 := by simpa using hcm
        rcases e' with q | q | q | q | q | q
        · rw [q]; exact hzl
        · rw [q]; exact Heap.lt_size hTI
        · rw [q]; exact Heap.lt_size hTO
        · rw [q]; obtain ⟨_, e1, _⟩ := h1; exact Heap.lt_size e1
        · rw [q]; obtain ⟨_, e2, _⟩ := h2; exact Heap.lt_size e2
        · rw [q]; obtain ⟨_, e2, _⟩ := h3; exact Heap.lt_size e2
      rw [upd_ne (Nat.ne_of_lt hlt)]
      exact (hf c hcm).1
  done := by
    intro X hP hw hK hc i pins s σ H E I hf st hg
    subst hP hw hK
    obtain ⟨hz, hTI, ⟨x0, y0, u0, hTO⟩, h1, h2, h3⟩ := st
    obtain ⟨xs, ys, zs, hqx, hqy, hqz, l1, l2, l3, hend⟩ := hg
    obtain ⟨its, rv, p, _⟩ := I.tuple hqx
    obtain ⟨its2, rv2, p2, _⟩ := I.tuple hqy
    obtain ⟨its3, rv3, p3, _⟩ := I.tuple hqz
    have hh := I.ok.hd hc
    have m1 := rv.length
    have m2 := rv2.length
    have m3 := rv3.length
    exact wpAny_pyNext_zipD3_end D (Draws.tuple (A := X.A.in1) hh i1 a na its.toArray) (Draws.tuple (A := X.A.in1) hh i2 b nb its2.toArray) (Draws.tuple (A := X.A.in1) hh i3 d nd its3.toArray) hz hTI hTO ⟨h1, p⟩ ⟨h2, p2⟩ ⟨h3, p3⟩
      (by simp; omega) (by simp; omega) (by simp; omega) (by simp; omega) fun h' tk hk => ⟨rfl, I.turnedL (t' := tk) (ch := [z, TI, TO, i1, i2, i3]) (fun c o hb q =>
      hk c o (fun q' => hb (by simp [q'])) (fun q' => hb (by simp [q'])) (fun q' => hb (by simp [q'])) (fun q' => hb (by simp [q'])) (fun q' => hb (by simp [q'])) q) hf⟩
  self := fun A i s Q E st h => wpAny_pyIter_zip st.1 h
def iZip3 (K : Frag) (ta : TA) : TI := fun σ H R => ta σ H fun vs H1 => ∃ a b d xs ys zs, vs = [.ref a, .ref b, .ref d] ∧ SqT K H1 a xs ∧ SqT K H1 b ys ∧ SqT K H1 d zs ∧ R (Itz3 K a b d) H1
theorem pi_zip3 {X : Cx} {e e2 e3 : Expr} {ta : TA} {p pos tpos : Pos} {elts : List Expr} {kk : Nat} (hg : Gl X "zip") (hm : X.mg "zip" = none) (ha : PA X [e, e2, e3] ta)
    (hs : starEach [e, e2, e3] X.env = (false, eval e X.env) :: starEach [e2, e3] X.env := by rfl) (hpl : (backTo pos (starEach [e2, e3] X.env)).any (·.1) = false := by rfl) :
    PI X (.Tuple elts kk tpos) (.Call (.Name "zip" p) [e, e2, e3] [] pos) (iZip3 X.K ta) := by
  refine ⟨fun pins s σ H R I h => ?_⟩
  refine Call_ (ld_blt I hg hm PyProof.Rows.boot_zip (PyProof.Rows.callWith_type1 (thn (ha.run pos pins s σ H _ I h) fun us s1 ⟨vs, H1, I1, r1, q1⟩ => ?_) hs hpl))
  obtain ⟨a, b, d, xs, ys, zs, ex, hqx, hqy, hqz, q⟩ := q1
  subst ex
  cases r1 with
  | cons r rr =>
    cases rr with
    | cons r' rr =>
      cases rr with
      | cons r'' rr =>
        cases rr
        cases r
        cases r'
        cases r''
        obtain ⟨its, rv, p1, _⟩ := I1.tuple hqx
        obtain ⟨its2, rv2, p2, _⟩ := I1.tuple hqy
        obtain ⟨its3, rv3, p3, _⟩ := I1.tuple hqz
        have la : a < s1.heap.objs.size := p1.lt
        have lb : b < s1.heap.objs.size := p2.lt
        have ld : d < s1.heap.objs.size := p3.lt
        refine zip_begins3 (begins_tuple a its.toArray) (begins_tuple b its2.toArray) (begins_tuple d its3.toArray) p1 p2 p3 fun h' hz hTI hTO g1 g2 g3 hsz hk => wpAny_pyIter_zip hz ?_
        have I2 : Inv X pins σ H1 { s1 with heap := h' } := I1.kept (t' := s1.toks) hk
        refine ⟨s1.heap.objs.size + 5, [s1.heap.objs.size + 5, s1.heap.objs.size + 3, s1.heap.objs.size + 4, s1.heap.objs.size, s1.heap.objs.size + 1, s1.heap.objs.size + 2], _, _, H1, rfl, I2,
          turn_zip3 (zip_sep3 (N := s1.heap.objs.size) (fp1 := [a]) (fp2 := [b]) (fp3 := [d]) (by simpa using la) (by simpa using lb) (by simpa using ld)) (Nat.ne_of_lt la) (Nat.ne_of_lt (Nat.lt_succ_of_lt lb)) (Nat.ne_of_lt (Nat.lt_succ_of_lt (Nat.lt_succ_of_lt ld))), ⟨hz, hTI, ⟨_, _, _, hTO⟩, ⟨_, g1, rfl, rfl⟩, ⟨_, g2, rfl, rfl⟩, ⟨_, g3, rfl, rfl⟩⟩, fun c hcm => ?_, q⟩
        have e' : c = s1.heap.objs.size + 5 ∨ c = s1.heap.objs.size + 3 ∨ c = s1.heap.objs.size + 4 ∨ c = s1.heap.objs.size ∨ c = s1.heap.objs.size + 1 ∨ c = s1.heap.objs.size + 2 := by simpa using hcm
        have hle : s1.heap.objs.size ≤ c := by
          rcases e' with z | z | z | z | z | z <;> rw [z]
          · exact Nat.le_add_right _ _
          · exact Nat.le_add_right _ _
          · exact Nat.le_add_right _ _
          · exact Nat.le_refl _
          · exact Nat.le_add_right _ _
          · exact Nat.le_add_right _ _
        exact I1.fpOk hle (I1.hok.fresh hle)
end DP
end

section
namespace DP
open PySem PySem.Spec PyProof.Rows L2
section
variable {c : Fc} {env : Env} {σ : L2.St} {ts : List O} {us : List V} {H : Hp}
/-- what is known of data on top -/
theorem Rp.dat {d : PyData} {v : V} (R : Rp c env σ (.dat d :: ts) (v :: us) H) : ∃ F, Fr c F H ∧ DR c.K F v d ∧ ∀ d' v', DR c.K F v' d' → Rp c env σ (.dat d' :: .dat d :: ts) (v' :: v :: us) H := by
  obtain ⟨F, fe, ft, f, e, t, nd, nw⟩ := R
  cases t with
  | cons r t =>
    cases r with
    | dat r => exact ⟨F, f, r, fun d' v' r' => ⟨F, fe, _, f, e, .cons (f1 := []) (.dat r') (.cons (f1 := []) (.dat r) t), nd, nw⟩⟩
end
theorem DRs.length {K : Frag} {F : Hp} : ∀ {vs : List V} {ds : List PyData}, DRs K F vs ds → vs.length = ds.length
  | _, _, .nil => rfl
  | _, _, .cons _ t => by simp [DRs.length t]
theorem DRs.get {K : Frag} {F : Hp} : ∀ {vs : List V} {ds : List PyData} {i : Nat} {d : PyData}, DRs K F vs ds → ds[i]? = some d → ∃ v, vs[i]? = some v ∧ DR K F v d
  | _, _, _, _, .nil, e => by simp at e
  | _, _, 0, _, .cons r _, e => by
    have e' := Option.some.inj e
    subst e'
    exact ⟨_, rfl, r⟩
  | _, _, i + 1, d, .cons _ t, e => by
    obtain ⟨v, h1, h2⟩ := DRs.get (i := i) (d := d) t (by simpa using e)
    exact ⟨v, by simpa using h1, h2⟩
theorem DRs.app {K : Frag} {F : Hp} : ∀ {vs vs' : List V} {ds ds' : List PyData}, DRs K F vs ds → DRs K F vs' ds' → DRs K F (vs ++ vs') (ds ++ ds')
  | _, _, _, _, .nil, h => h
  | _, _, _, _, .cons r t, h => .cons r (DRs.app t h)
theorem DRs.take {K : Frag} {F : Hp} : ∀ {vs : List V} {ds : List PyData} (n : Nat), DRs K F vs ds → DRs K F (vs.take n) (ds.take n)
  | _, _, 0, _ => .nil
  | _, _, _ + 1, .nil => .nil
  | _, _, n + 1, .cons r t => .cons r (DRs.take n t)
theorem DRs.drop {K : Frag} {F : Hp} : ∀ {vs : List V} {ds : List PyData} (n : Nat), DRs K F vs ds → DRs K F (vs.drop n) (ds.drop n)
  | _, _, 0, r => r
  | _, _, _ + 1, .nil => .nil
  | _, _, n + 1, .cons _ t => DRs.drop n t
theorem DRs.ints {K : Frag} {F : Hp} : ∀ {vs : List V} {ns : List Int}, DRs K F vs (ns.map .int) → vs = ns.map V.int
  | _, [], h => by cases h; rfl
  | _, n :: ns, h => by
    cases h with
    | cons r t => cases r; rw [DRs.ints t]; rfl
theorem DRs.ofInts {K : Frag} {F : Hp} : ∀ ns : List Int, DRs K F (ns.map V.int) (ns.map .int)
  | [] => .nil
  | n :: ns => .cons (.int n) (DRs.ofInts ns)
theorem DRs.bls {K : Frag} {F : Hp} : ∀ {vs : List V} {bs : List Bool}, DRs K F vs (bs.map .bool) → vs = bs.map V.bl
  | _, [], h => by cases h; rfl
  | _, n :: ns, h => by
    cases h with
    | cons r t => cases r; rw [DRs.bls t]; rfl
/-! ### walks -/
theorem pi_or {X : Cx} {tg e : Expr} {t t' : TI} (h : PI X tg e t) (h' : PI X tg e t') : PI X tg e (fun σ H R => t σ H R ∨ t' σ H R) := ⟨fun pins s σ H R I q => q.elim (h.run pins s σ H R I) (h'.run pins s σ H R I)⟩
def seqD : PyData → Option (List PyData)
  | .list ds => some ds
  | .tuple ds => some ds
  | .dict [(.list ds, .none)] => some ds
  | _ => none
def kIt (f : EF) : IF := fun env => (f env).bind fun o e1 => match o.toD with
  | some d => match seqD d with
    | some ds => .ok ds e1
    | none => .no
  | none => .no
section
variable {X : Cx} {c : Fc} {p1 p2 : Bool} {f1 f2 : EF}
theorem walk_l {ds : List PyData} {d : PyData} {a : Addr} (h : ∀ F, DR c.K F (.ref a) d → ∃ vs, SqL c.K F a vs ∧ DRs c.K F vs ds) (inj : ∀ env σ ts us H, Rp c env σ (.dat d :: ts) (.ref a :: us) H → True) : Walk c ds [.dat d] [.ref a] (Itl c.K a) := by
  refine ⟨fun i d' hd env σ ts us H R => ?_, fun env σ ts us H R => ?_⟩
  · obtain ⟨F, f, r, k⟩ := Rp.dat R
    obtain ⟨vs, hs, hv⟩ := h F r
    obtain ⟨v, e1, rv⟩ := hv.get hd
    refine ⟨⟨vs, v, f.sub.l hs, e1⟩, fun x H' ⟨e2, y⟩ => ?_⟩
    subst e2
    have e3 := y vs (f.sub.l hs)
    rw [e1] at e3
    cases e3
    exact k d' v rv
  · obtain ⟨F, f, r, k⟩ := Rp.dat R
    obtain ⟨vs, hs, hv⟩ := h F r
    exact ⟨vs, f.sub.l hs, Nat.le_of_eq hv.length⟩
theorem walk_t {ds : List PyData} {a : Addr} : Walk c ds [.dat (.tuple ds)] [.ref a] (Itt c.K a) := by
  refine ⟨fun i d' hd env σ ts us H R => ?_, fun env σ ts us H R => ?_⟩
  · obtain ⟨F, f, r, k⟩ := Rp.dat R
    cases r with
    | tup hs hv =>
      rename_i vs
      obtain ⟨v, e1, rv⟩ := hv.get hd
      refine ⟨⟨vs, v, f.sub.t hs, e1⟩, fun x H' ⟨e2, y⟩ => ?_⟩
      subst e2
      have e3 := y vs (f.sub.t hs)
      rw [e1] at e3
      cases e3
      exact k d' v rv
  · obtain ⟨F, f, r, k⟩ := Rp.dat R
    cases r with
    | tup hs hv => exact ⟨_, f.sub.t hs, Nat.le_of_eq hv.length⟩
theorem di_data {tg e : Expr} (hK : X.K = c.K) (h : DE X c p1 e f1) : DI X c tg e (kIt f1) := by
  refine ⟨(pi_or (pi_list h.run) (pi_tup h.run)).weak fun σ H R ⟨env, ts, us, Rr, q⟩ => ?_⟩
  unfold kIt RE.bind at q
  cases e1 : f1 env with
  | no => rw [e1] at q; exact q.elim
  | err x en => rw [e1] at q; exact .inl ⟨env, ts, us, Rr, by rw [e1]; exact q⟩
  | ok o en =>
    rw [e1] at q
    simp only at q
    split at q
    · rename_i d ed
      split at q
      · rename_i ds es
        rw [hK]
        cases d with
        | tuple ds' =>
          cases es
          refine .inr ⟨env, ts, us, Rr, ?_⟩
          rw [e1]
          intro v H' R' _
          have R2 := R'.freeze ed
          obtain ⟨F, f, r, k⟩ := Rp.dat R2
          cases r with
          | tup hs hv => exact ⟨_, rfl, ⟨_, f.sub.t hs⟩, q _ H' _ _ R2 rfl walk_t⟩
        | list ds' =>
          cases es
          refine .inl ⟨env, ts, us, Rr, ?_⟩
          rw [e1]
          intro v H' R' _
          have R2 := R'.freeze ed
          obtain ⟨F, f, r, k⟩ := Rp.dat R2
          cases r with
          | lst hs hv => exact ⟨_, rfl, ⟨_, f.sub.l (SqL.of hs)⟩, q _ H' _ _ R2 rfl (walk_l (fun F r => by cases r with | lst hs hv => exact ⟨_, SqL.of hs, hv⟩) fun _ _ _ _ _ _ => trivial)⟩
        | dict kvs =>
          unfold seqD at es
          split at es
          · rename_i z; cases z
          · rename_i z; cases z
          · rename_i ds' z
            cases z
            cases es
            refine .inl ⟨env, ts, us, Rr, ?_⟩
            rw [e1]
            intro v H' R' _
            have R2 := R'.freeze ed
            obtain ⟨F, f, r, k⟩ := Rp.dat R2
            cases r with
            | ro hs hv => exact ⟨_, rfl, ⟨_, f.sub.l hs⟩, q _ H' _ _ R2 rfl (walk_l (fun F r => by cases r with | ro hs hv => exact ⟨_, hs, hv⟩) fun _ _ _ _ _ _ => trivial)⟩
          · cases es
        | _ => cases es
      · exact q.elim
    · exact q.elim
/-- the ints from lo on -/
def rngD (lo : Int) (n : Nat) : List PyData := (List.range n).map fun (i : Nat) => PyData.int (lo + i)
theorem rngD_get {lo : Int} {n i : Nat} {d : PyData} (h : (rngD lo n)[i]? = some d) : i < n ∧ d = .int (lo + i) := by
  unfold rngD at h
  rw [List.getElem?_map] at h
  by_cases z : i < n
  · rw [List.getElem?_range z] at h
    cases h
    exact ⟨z, rfl⟩
  · rw [List.getElem?_eq_none (by simpa using Nat.le_of_not_lt z)] at h
    cases h
theorem walk_r {lo : Int} {n : Nat} : Walk c (rngD lo n) [] [] (Itr lo n) := by
  refine ⟨fun i d hd env σ ts us H R => ?_, fun env σ ts us H R => ?_⟩
  · obtain ⟨h1, rfl⟩ := rngD_get hd
    refine ⟨h1, fun x H' ⟨e1, e2⟩ => ?_⟩
    subst e1 e2
    exact Rp.push R fun _ _ => .int _
  · show n ≤ (rngD lo n).length
    unfold rngD
    simp
def kRng1 (g : Env → RE (List O)) : IF := fun env => (g env).bind fun os e1 => match os with
  | [.dat (.int j)] => if -4611686018427387904 ≤ j ∧ j < 4611686018427387904 then .ok (rngD 0 j.toNat) e1 else .no
  | _ => .no
def kRng2 (g : Env → RE (List O)) : IF := fun env => (g env).bind fun os e1 => match os with
  | [.dat (.int i), .dat (.int j)] => if -4611686018427387904 ≤ i ∧ i < 4611686018427387904 ∧ -4611686018427387904 ≤ j ∧ j < 4611686018427387904 then .ok (rngD i (j - i).toNat) e1 else .no
  | _ => .no
theorem Rp.ints1 {env : Env} {σ : L2.St} {ts : List O} {us : List V} {H : Hp} {j : Int} {vs : List V} (R : Rp c env σ ([.dat (.int j)] ++ ts) (vs ++ us) H) (hl : ([.dat (.int j)] : List O).length = vs.length) : vs = [.int j] := by
  cases vs with
  | nil => simp at hl
  | cons v vs =>
    cases vs with
    | cons _ _ => simp at hl
    | nil =>
      obtain ⟨F, f, r, k⟩ := Rp.dat (ts := ts) (us := us) R
      cases r; rfl
theorem Rp.ints2 {env : Env} {σ : L2.St} {ts : List O} {us : List V} {H : Hp} {i j : Int} {vs : List V} (R : Rp c env σ ([.dat (.int i), .dat (.int j)] ++ ts) (vs ++ us) H) (hl : ([.dat (.int i), .dat (.int j)] : List O).length = vs.length) : vs = [.int i, .int j] := by
  cases vs with
  | nil => simp at hl
  | cons v vs =>
    have R' : Rp c env σ (.dat (.int i) :: ([.dat (.int j)] ++ ts)) (v :: (vs ++ us)) H := R
    obtain ⟨F, f, r, k⟩ := Rp.dat R'
    cases r
    rw [Rp.ints1 R'.pop (by simp at hl ⊢; exact hl.symm)]
theorem di_range1 {tg a : Expr} {p pos : Pos} {g : Env → RE (List O)} {ios : List (Option Nat)} (hg : Gl X "range") (hm : X.mg "range" = none) (ha : DA X c p1 ios [a] g) (hs : starEach [a] X.env = [(false, eval a X.env)] := by rfl) : DI X c tg (.Call (.Name "range" p) [a] [] pos) (kRng1 g) := by
  refine ⟨(pi_range1 hg hm ha.run hs).weak fun σ H R ⟨env, ts, us, Rr, q⟩ => ⟨env, ts, us, Rr, ?_⟩⟩
  unfold kRng1 RE.bind at q
  cases e1 : g env with
  | no => rw [e1] at q; exact q.elim
  | err x en => rw [e1] at q; exact q
  | ok os en =>
    rw [e1] at q
    simp only at q
    intro vs H' R' hl hli _ _
    split at q
    · rename_i j
      obtain rfl := Rp.ints1 R' hl
      split at q
      · rename_i hz
        exact ⟨j, rfl, hz.1, hz.2, q _ H' [] [] R'.pop rfl walk_r⟩
      · exact q.elim
    · exact q.elim
theorem di_range2 {tg a b : Expr} {p pos : Pos} {g : Env → RE (List O)} {ios : List (Option Nat)} (hg : Gl X "range") (hm : X.mg "range" = none) (ha : DA X c p1 ios [a, b] g) (hs : starEach [a, b] X.env = [(false, eval a X.env), (false, eval b X.env)] := by rfl) (hs2 : starEach [b] X.env = [(false, eval b X.env)] := by rfl) : DI X c tg (.Call (.Name "range" p) [a, b] [] pos) (kRng2 g) := by
  refine ⟨(pi_range2 hg hm ha.run hs hs2).weak fun σ H R ⟨env, ts, us, Rr, q⟩ => ⟨env, ts, us, Rr, ?_⟩⟩
  unfold kRng2 RE.bind at q
  cases e1 : g env with
  | no => rw [e1] at q; exact q.elim
  | err x en => rw [e1] at q; exact q
  | ok os en =>
    rw [e1] at q
    simp only at q
    intro vs H' R' hl hli _ _
    split at q
    · rename_i i j
      obtain rfl := Rp.ints2 R' hl
      split at q
      · rename_i hz
        exact ⟨i, j, rfl, ⟨hz.1, hz.2.1, hz.2.2.1, hz.2.2.2⟩, q _ H' [] [] R'.pop.pop rfl walk_r⟩
      · exact q.elim
    · exact q.elim
/-- a new frozen tuple comes on top -/
theorem Rp.newTup {env : Env} {σ : L2.St} {ts : List O} {us : List V} {H : Hp} {ds : List PyData} {vs : List V} {T : Addr} (R : Rp c env σ (ds.map .dat ++ ts) (vs ++ us) H) (hl : ds.length = vs.length) (hT : H T = none) : Rp c env σ (.dat (.tuple ds) :: ts) (.ref T :: us) (upd H T (.tup vs)) := by
  have R1 := Rp.mk (s := .tup) R (by simpa using hl) hT rfl
  refine R1.freeze ?_
  rw [O.toD]
  have : O.toDs (ds.map .dat) = some ds := by
    clear R R1 hl hT
    induction ds with
    | nil => rfl
    | cons d ds ih =>
      show (match (O.dat d).toD, O.toDs (ds.map .dat) with | some d, some ds => some (d :: ds) | _, _ => none) = _
      rw [ih, O.toD]
  rw [this]
  rfl
/-! zip of three tuples -/
def zip3D : List PyData → List PyData → List PyData → List PyData
  | x :: xs, y :: ys, z :: zs => .tuple [x, y, z] :: zip3D xs ys zs
  | _, _, _ => []
theorem zip3D_get : ∀ {xs ys zs : List PyData} {i : Nat} {d : PyData}, (zip3D xs ys zs)[i]? = some d → ∃ x y z, xs[i]? = some x ∧ ys[i]? = some y ∧ zs[i]? = some z ∧ d = .tuple [x, y, z]
  | [], _, _, _, _, h => by simp [zip3D] at h
  | _ :: _, [], _, _, _, h => by simp [zip3D] at h
  | _ :: _, _ :: _, [], _, _, h => by simp [zip3D] at h
  | x :: xs, y :: ys, z :: zs, 0, d, h => ⟨x, y, z, rfl, rfl, rfl, (by simpa [zip3D] using h.symm)⟩
  | x :: xs, y :: ys, z :: zs, i + 1, d, h => by
    obtain ⟨a, b, e, h1, h2, h3, h4⟩ := zip3D_get (xs := xs) (ys := ys) (zs := zs) (i := i) (d := d) (by simpa [zip3D] using h)
    exact ⟨a, b, e, by simpa using h1, by simpa using h2, by simpa using h3, h4⟩
theorem zip3D_len : ∀ xs ys zs : List PyData, (zip3D xs ys zs).length = min xs.length (min ys.length zs.length)
  | [], _, _ => by simp [zip3D]
  | _ :: _, [], _ => by simp [zip3D]
  | _ :: _, _ :: _, [] => by simp [zip3D]
  | x :: xs, y :: ys, z :: zs => by
    show (zip3D xs ys zs).length + 1 = min (xs.length + 1) (min (ys.length + 1) (zs.length + 1))
    rw [zip3D_len xs ys zs]
    omega
def kZip3 (g : Env → RE (List O)) : IF := fun env => (g env).bind fun os e1 => match O.toDs os with
  | some [.tuple xs, .tuple ys, .tuple zs] => .ok (zip3D xs ys zs) e1
  | _ => .no
theorem walk_z3 {xs ys zs : List PyData} {a b d : Addr} : Walk c (zip3D xs ys zs) [.dat (.tuple xs), .dat (.tuple ys), .dat (.tuple zs)] [.ref a, .ref b, .ref d] (Itz3 c.K a b d) := by
  have look : ∀ {env σ ts us H}, Rp c env σ ([.dat (.tuple xs), .dat (.tuple ys), .dat (.tuple zs)] ++ ts) ([.ref a, .ref b, .ref d] ++ us) H → ∃ F vs ws zz, Fr c F H ∧ SqT c.K F a vs ∧ SqT c.K F b ws ∧ SqT c.K F d zz ∧ DRs c.K F vs xs ∧ DRs c.K F ws ys ∧ DRs c.K F zz zs ∧
      ∀ d' v', DRs c.K F v' d' → Rp c env σ (d'.map .dat ++ ([.dat (.tuple xs), .dat (.tuple ys), .dat (.tuple zs)] ++ ts)) (v' ++ ([.ref a, .ref b, .ref d] ++ us)) H := fun {env σ ts us H} R => by
    obtain ⟨F, fe, ft, f, e, t, nd, nw⟩ := R
    have t0 := t
    cases t with
    | cons r t =>
      cases t with
      | cons r2 t =>
        cases t with
        | cons r3 t =>
          cases r with
          | dat r =>
            cases r2 with
            | dat r2 =>
              cases r3 with
              | dat r3 =>
                cases r with
                | tup h1 g1 =>
                  cases r2 with
                  | tup h2 g2 =>
                    cases r3 with
                    | tup h3 g3 => exact ⟨F, _, _, _, f, h1, h2, h3, g1, g2, g3, fun d' v' r' => ⟨F, fe, _, f, e, (dpAll_os r').app t0, by simpa using nd, by simpa using nw⟩⟩
  refine ⟨fun i dd hd env σ ts us H R => ?_, fun env σ ts us H R => ?_⟩
  · obtain ⟨F, vs, ws, zz, f, h1, h2, h3, g1, g2, g3, k⟩ := look R
    obtain ⟨x, y, z, i1, i2, i3, rfl⟩ := zip3D_get hd
    obtain ⟨v1, j1, r1⟩ := g1.get i1
    obtain ⟨v2, j2, r2⟩ := g2.get i2
    obtain ⟨v3, j3, r3⟩ := g3.get i3
    refine ⟨⟨vs, ws, zz, v1, v2, v3, f.sub.t h1, f.sub.t h2, f.sub.t h3, j1, j2, j3⟩, fun q H' ⟨T, x', y', z', e1, hT, e2, k1, k2, k3⟩ => ?_⟩
    have a1 := k1 vs (f.sub.t h1)
    have a2 := k2 ws (f.sub.t h2)
    have a3 := k3 zz (f.sub.t h3)
    rw [j1] at a1; rw [j2] at a2; rw [j3] at a3
    cases a1; cases a2; cases a3
    subst e1 e2
    exact Rp.newTup (k [x, y, z] [v1, v2, v3] (.cons r1 (.cons r2 (.cons r3 .nil)))) rfl hT
  · obtain ⟨F, vs, ws, zz, f, h1, h2, h3, g1, g2, g3, k⟩ := look R
    have l1 := g1.length
    have l2 := g2.length
    have l3 := g3.length
    have l := zip3D_len xs ys zs
    exact ⟨vs, ws, zz, f.sub.t h1, f.sub.t h2, f.sub.t h3, by omega, by omega, by omega, by omega⟩
theorem three {vs : List V} (h : (3 : Nat) = vs.length) : ∃ a b d, vs = [a, b, d] := by
  match vs, h with
  | [a, b, d], _ => exact ⟨a, b, d, rfl⟩
theorem di_zip3 {a b d : Expr} {p pos tpos : Pos} {elts : List Expr} {kk : Nat} {g : Env → RE (List O)} {ios : List (Option Nat)} (hK : X.K = c.K) (hg : Gl X "zip") (hm : X.mg "zip" = none) (ha : DA X c p1 ios [a, b, d] g)
    (hs : starEach [a, b, d] X.env = (false, eval a X.env) :: starEach [b, d] X.env := by rfl) (hpl : (backTo pos (starEach [b, d] X.env)).any (·.1) = false := by rfl) : DI X c (.Tuple elts kk tpos) (.Call (.Name "zip" p) [a, b, d] [] pos) (kZip3 g) := by
  refine ⟨(pi_zip3 hg hm ha.run hs hpl).weak fun σ H R ⟨env, ts, us, Rr, q⟩ => ⟨env, ts, us, Rr, ?_⟩⟩
  unfold kZip3 RE.bind at q
  cases e1 : g env with
  | no => rw [e1] at q; exact q.elim
  | err x en => rw [e1] at q; exact q
  | ok os en =>
    rw [e1] at q
    simp only at q
    intro vs H' R' hl hli _ _
    split at q
    · rename_i xs ys zs ed
      have R2 := R'.freezes hl ed
      have l3 : (3 : Nat) = vs.length := (Rp.freezes.toDs_len ed).trans hl
      obtain ⟨v1, v2, v3, rfl⟩ := three l3
      have R3 : Rp c en σ (.dat (.tuple xs) :: .dat (.tuple ys) :: .dat (.tuple zs) :: ts) (v1 :: v2 :: v3 :: us) H' := R2
      obtain ⟨F, f, r, k⟩ := Rp.dat R3
      obtain ⟨F2, f2, r2, _⟩ := Rp.dat R3.pop
      obtain ⟨F3, f3, r3, _⟩ := Rp.dat R3.pop.pop
      cases r with
      | tup h1 g1 =>
        cases r2 with
        | tup h2 g2 =>
          cases r3 with
          | tup h3 g3 => 
            rw [hK]
            exact ⟨_, _, _, _, _, _, rfl, f.sub.t h1, f2.sub.t h2, f3.sub.t h3, q _ H' _ _ R3 rfl walk_z3⟩
    · exact q.elim
/-! enumerate of a list -/
def enumD (k : Nat) : List PyData → List PyData
  | [] => []
  | d :: ds => .tuple [.int k, d] :: enumD (k + 1) ds
theorem enumD_get : ∀ {ds : List PyData} {k i : Nat} {d : PyData}, (enumD k ds)[i]? = some d → ∃ x, ds[i]? = some x ∧ d = .tuple [.int (k + i : Nat), x]
  | [], _, _, _, h => by simp [enumD] at h
  | x :: xs, k, 0, d, h => ⟨x, rfl, by simpa [enumD] using h.symm⟩
  | x :: xs, k, i + 1, d, h => by
    obtain ⟨y, h1, h2⟩ := enumD_get (ds := xs) (k := k + 1) (i := i) (d := d) (by simpa [enumD] using h)
    exact ⟨y, by simpa using h1, by rw [h2]; congr 3; omega⟩
theorem enumD_len : ∀ (k : Nat) (ds : List PyData), (enumD k ds).length = ds.length
  | _, [] => rfl
  | k, d :: ds => by simp [enumD, enumD_len (k + 1) ds]
theorem seqD_l {F : Hp} {d : PyData} {ds : List PyData} {a : Addr} (h : DR c.K F (.ref a) d) (hs : seqD d = some ds) : (∃ vs, SqL c.K F a vs ∧ DRs c.K F vs ds) ∨ (∃ vs, SqT c.K F a vs ∧ DRs c.K F vs ds) := by
  cases h with
  | lst h1 h2 => cases hs; exact .inl ⟨_, SqL.of h1, h2⟩
  | tup h1 h2 => cases hs; exact .inr ⟨_, h1, h2⟩
  | ro h1 h2 => cases hs; exact .inl ⟨_, h1, h2⟩
end
end DP
end

section
namespace DP
open PySem PySem.Spec PyProof.Rows L2
/-! ### operations on data -/
def gAdd : PyData → PyData → Option O
  | .int i, .int j => some (.dat (.int (i + j)))
  | .str x, .str y => if x.length + y.length ≤ 1000000 then some (.dat (.str (x ++ y))) else none
  | .tuple xs, .tuple ys => if xs.length + ys.length ≤ 1000000 then some (.dat (.tuple (xs ++ ys))) else none
  | .list xs, .list ys => if xs.length + ys.length ≤ 1000000 then some (.node .lst ((xs ++ ys).map .dat)) else none
  | _, _ => none
def rAddA (K : Frag) : L2.R2 := fun x y H Q => rI0 (fun i j => .int (i + j)) x y H Q ∨ ((∃ i j, x = .str i ∧ y = .str j ∧ i.length + j.length ≤ sizeLine ∧ Q (.str (i ++ j)) H) ∨ (rCatA K x y H Q ∨ rCat x y H Q))
theorem op_addA {X : Cx} : OpR X (binaryOp .Add) (rAddA X.K) := op_add.or (op_add_str.or (op_catA.or op_cat))
theorem o_add {K : Frag} : Op2 K (rAddA K) gAdd := by
  intro F H x y d1 d2 z s r1 r2 g Q q
  unfold gAdd at g
  split at g
  · cases g; cases r1; cases r2
    exact .inl ⟨_, _, rfl, rfl, q.sc s (.int _)⟩
  · split at g
    · rename_i hz
      cases g; cases r1; cases r2
      exact .inr (.inl ⟨_, _, rfl, rfl, sz_ok hz, q.sc s (.str _)⟩)
    · cases g
  · split at g
    · rename_i xs ys hz
      cases g
      cases r1 with
      | tup h1 g1 =>
        cases r2 with
        | tup h2 g2 =>
          rename_i a vs b ws
          refine .inr (.inr (.inl ⟨a, b, vs, ws, rfl, rfl, s.t h1, s.t h2, by rw [g1.length, g2.length]; exact sz_ok hz, fun e => ?_, fun _ e => ?_, fun _ _ p hp => q.tup s (g1.app g2) hp⟩))
          · subst e
            cases g1
            exact q.sc s (.tup h2 g2)
          · subst e
            cases g2
            rw [List.append_nil] at q
            exact q.sc s (.tup h1 g1)
    · cases g
  · split at g
    · rename_i xs ys hz
      cases g
      cases r1 with
      | lst h1 g1 =>
        cases r2 with
        | lst h2 g2 => exact .inr (.inr (.inr ⟨_, _, _, _, rfl, rfl, s _ _ h1, s _ _ h2, by rw [g1.length, g2.length]; exact sz_ok hz, fun p hp => q.lst s (g1.app g2) hp⟩))
    · cases g
  · cases g
def gSub : PyData → PyData → Option O
  | .int i, .int j => some (.dat (.int (i - j)))
  | _, _ => none
theorem o_sub {K : Frag} : Op2 K (rI0 fun i j => .int (i - j)) gSub := by
  intro F H x y d1 d2 z s r1 r2 g Q q
  unfold gSub at g
  split at g
  · cases g; cases r1; cases r2
    exact ⟨_, _, rfl, rfl, q.sc s (.int _)⟩
  · cases g
/-- ints below 2^64 on one side -/
def gMul : PyData → PyData → Option O
  | .int i, .int j => if (-18446744073709551616 < i ∧ i < 18446744073709551616) ∨ (-18446744073709551616 < j ∧ j < 18446744073709551616) then some (.dat (.int (i * j))) else none
  | _, _ => none
theorem o_mul {K : Frag} : Op2 K (rI CMul fun i j => .int (i * j)) gMul := by
  intro F H x y d1 d2 z s r1 r2 g Q q
  unfold gMul at g
  split at g
  · split at g
    · rename_i hc
      cases g; cases r1; cases r2
      exact ⟨_, _, rfl, rfl, hc, q.sc s (.int _)⟩
    · cases g
  · cases g
def gDiv : PyData → PyData → Option O
  | .int i, .int j => if 0 < j ∧ j < 18446744073709551616 then some (.dat (.int (i / j))) else none
  | _, _ => none
theorem o_div {K : Frag} : Op2 K (rI CDivW fun i j => .int (i / j)) gDiv := by
  intro F H x y d1 d2 z s r1 r2 g Q q
  unfold gDiv at g
  split at g
  · split at g
    · rename_i i j hc
      cases g; cases r1; cases r2
      exact ⟨_, _, rfl, rfl, wide_div (b := 64) hc.1 (by have := hc.1; have := hc.2; omega) (by decide) (by decide), q.sc s (.int _)⟩
    · cases g
  · cases g
def gMod : PyData → PyData → Option O
  | .int i, .int j => if 0 < j then some (.dat (.int (i % j))) else none
  | _, _ => none
theorem o_mod {K : Frag} : Op2 K (rI (fun _ j => 0 < j) fun i j => .int (i % j)) gMod := by
  intro F H x y d1 d2 z s r1 r2 g Q q
  unfold gMod at g
  split at g
  · split at g
    · rename_i i j hc
      cases g; cases r1; cases r2
      exact ⟨_, _, rfl, rfl, hc, q.sc s (.int _)⟩
    · cases g
  · cases g
def gPow : PyData → PyData → Option O
  | .int i, .int j => if 0 ≤ j ∧ j ≤ 1000 ∧ -1000000 < i ∧ i < 1000000 then some (.dat (.int (i ^ j.toNat))) else none
  | _, _ => none
theorem o_pow {K : Frag} : Op2 K (rI CPow fun i j => .int (i ^ j.toNat)) gPow := by
  intro F H x y d1 d2 z s r1 r2 g Q q
  unfold gPow at g
  split at g
  · split at g
    · rename_i i j hc
      cases g; cases r1; cases r2
      exact ⟨_, _, rfl, rfl, ⟨hc.1, by omega, by omega⟩, q.sc s (.int _)⟩
    · cases g
  · cases g
def gNeg : PyData → Option O
  | .int i => some (.dat (.int (-i)))
  | _ => none
theorem o_neg {K : Frag} : Op1 K (rU fun i => .int (-i)) gNeg := by
  intro F H x d1 z s r1 g Q q
  unfold gNeg at g
  split at g
  · cases g; cases r1
    exact ⟨_, rfl, q.sc s (.int _)⟩
  · cases g
/-! comparisons of ints -/
def gCmp (p : Int → Int → Bool) : PyData → PyData → Option O
  | .int i, .int j => some (.dat (.bool (p i j)))
  | _, _ => none
theorem o_cmp {K : Frag} {p : Int → Int → Bool} : Op2 K (rI0 fun i j => .bl (p i j)) (gCmp p) := by
  intro F H x y d1 d2 z s r1 r2 g Q q
  unfold gCmp at g
  split at g
  · cases g; cases r1; cases r2
    exact ⟨_, _, rfl, rfl, q.sc s (.bl _)⟩
  · cases g
abbrev gLt := gCmp fun i j => decide (i < j)
abbrev gLe := gCmp fun i j => decide (i ≤ j)
abbrev gGt := gCmp fun i j => decide (j < i)
abbrev gGe := gCmp fun i j => decide (j ≤ i)
/-- == of data without dicts -/
def gEq : PyData → PyData → Option O := fun d e => if SeqAt.shaped d = true ∧ SeqAt.shaped e = true then some (.dat (.bool (PyData.eqv d e))) else none
def gNe : PyData → PyData → Option O := fun d e => if SeqAt.shaped d = true ∧ SeqAt.shaped e = true then some (.dat (.bool (!PyData.eqv d e))) else none
theorem o_eq {K : Frag} : Op2 K (rEqD K) gEq := by
  intro F H x y d1 d2 z s r1 r2 g Q q
  unfold gEq at g
  split at g
  · rename_i hz
    cases g
    exact ⟨d1, d2, (s.dp _ _ r1).dp _ _ (SeqAt.canLay_of_shaped hz.1), (s.dp _ _ r2).dp _ _ (SeqAt.canLay_of_shaped hz.2), hz.1, hz.2, q.sc s (.bl _)⟩
  · cases g
theorem o_ne {K : Frag} : Op2 K (rNeD K) gNe := by
  intro F H x y d1 d2 z s r1 r2 g Q q
  unfold gNe at g
  split at g
  · rename_i hz
    cases g
    exact ⟨d1, d2, (s.dp _ _ r1).dp _ _ (SeqAt.canLay_of_shaped hz.1), (s.dp _ _ r2).dp _ _ (SeqAt.canLay_of_shaped hz.2), hz.1, hz.2, q.sc s (.bl _)⟩
  · cases g
def isN : PyData → Bool
  | .none => true
  | _ => false
theorem isN_dec {K : Frag} {F : Hp} {x : V} {d : PyData} (r : DR K F x d) : decide (x = .non) = isN d := by cases r <;> rfl
def gIs : PyData → PyData → Option O
  | d, .none => some (.dat (.bool (isN d)))
  | _, _ => none
def gIsNot : PyData → PyData → Option O
  | d, .none => some (.dat (.bool (!isN d)))
  | _, _ => none
theorem o_is {K : Frag} : Op2 K (fun x y H Q => y = .non ∧ Q (.bl (decide (x = .non))) H) gIs := by
  intro F H x y d1 d2 z s r1 r2 g Q q
  unfold gIs at g
  split at g
  · cases g; cases r2
    rw [← isN_dec r1] at q
    exact ⟨rfl, q.sc s (.bl _)⟩
  · cases g
theorem o_isnot {K : Frag} : Op2 K (fun x y H Q => y = .non ∧ Q (.bl (!decide (x = .non))) H) gIsNot := by
  intro F H x y d1 d2 z s r1 r2 g Q q
  unfold gIsNot at g
  split at g
  · cases g; cases r2
    rw [← isN_dec r1] at q
    exact ⟨rfl, q.sc s (.bl _)⟩
  · cases g
/-! in, not in: data in a list (deep); flat data in a list or a tuple -/
def flatD : PyData → Bool
  | .none => true
  | .bool _ => true
  | .int _ => true
  | .str _ => true
  | _ => false
def inD (d : PyData) (ds : List PyData) : Bool := ds.any fun z => PyData.eqv z d
def gIn : PyData → PyData → Option O
  | d, .list ds => if SeqAt.shaped d = true ∧ SeqAt.shaped (.list ds) = true then some (.dat (.bool (inD d ds))) else none
  | d, .tuple ds => if flatD d = true ∧ ds.all flatD = true then some (.dat (.bool (inD d ds))) else none
  | _, _ => none
def gNotIn : PyData → PyData → Option O
  | d, .list ds => if SeqAt.shaped d = true ∧ SeqAt.shaped (.list ds) = true then some (.dat (.bool (!inD d ds))) else none
  | d, .tuple ds => if flatD d = true ∧ ds.all flatD = true then some (.dat (.bool (!inD d ds))) else none
  | _, _ => none
theorem flat_dv {K : Frag} {F : Hp} {x : V} {d : PyData} (r : DR K F x d) (h : flatD d = true) : flatV x = true := by cases r <;> first | rfl | cases h
theorem eqv_dv {K : Frag} {F : Hp} {x y : V} {d e : PyData} (r : DR K F x d) (r' : DR K F y e) (h : flatD d = true) (h' : flatD e = true) : eqV y x = PyData.eqv e d := by
  cases r <;> cases r' <;> first | (cases h; done) | (cases h'; done) | skip
  all_goals simp [eqV, PyData.eqv]
theorem flats_dv {K : Frag} {F : Hp} : ∀ {xs : List V} {ds : List PyData}, DRs K F xs ds → ds.all flatD = true → xs.all flatV = true
  | _, _, .nil, _ => rfl
  | _, _, .cons r t, h => by
    rw [List.all_cons, Bool.and_eq_true] at h
    rw [List.all_cons, flat_dv r h.1, flats_dv t h.2]
    rfl
theorem in_dv {K : Frag} {F : Hp} {x : V} {d : PyData} (r : DR K F x d) (hd : flatD d = true) : ∀ {xs : List V} {ds : List PyData}, DRs K F xs ds → ds.all flatD = true → inV x xs = inD d ds
  | _, _, .nil, _ => rfl
  | _, _, .cons r' t, h => by
    rw [List.all_cons, Bool.and_eq_true] at h
    have ih := in_dv r hd t h.2
    unfold inV inD at ih ⊢
    rw [List.any_cons, List.any_cons, ih, eqv_dv r r' hd h.1]
def rInA (K : Frag) (neg : Bool) : L2.R2 := fun x y H Q => (if neg then rNotInD K else rInD K) x y H Q ∨ rIn K neg x y H Q
theorem op_inA {X : Cx} (hu : X.A.units + 65 < cLine) : OpR X (compareOp .In) (rInA X.K false) := (op_inD hu).or op_in_seq
theorem op_notInA {X : Cx} (hu : X.A.units + 65 < cLine) : OpR X (compareOp .NotIn) (rInA X.K true) := (op_notInD hu).or op_notIn_seq
theorem o_in {K : Frag} : Op2 K (rInA K false) gIn := by
  intro F H x y d1 d2 z s r1 r2 g Q q
  unfold gIn at g
  split at g
  · split at g
    · rename_i hz
      cases g
      exact .inl ⟨d1, _, (s.dp _ _ r1).dp _ _ (SeqAt.canLay_of_shaped hz.1), (s.dp _ _ r2).dp _ _ (SeqAt.canLay_of_shaped hz.2), hz.1, hz.2, q.sc s (.bl _)⟩
    · cases g
  · split at g
    · rename_i hz
      cases g
      cases r2 with
      | tup h2 g2 =>
        refine .inr ⟨_, _, rfl, .inr (s.t h2), flat_dv r1 hz.1, flats_dv g2 hz.2, ?_⟩
        rw [← in_dv r1 hz.1 g2 hz.2] at q
        exact q.sc s (.bl _)
    · cases g
  · cases g
theorem o_notin {K : Frag} : Op2 K (rInA K true) gNotIn := by
  intro F H x y d1 d2 z s r1 r2 g Q q
  unfold gNotIn at g
  split at g
  · split at g
    · rename_i hz
      cases g
      exact .inl ⟨d1, _, (s.dp _ _ r1).dp _ _ (SeqAt.canLay_of_shaped hz.1), (s.dp _ _ r2).dp _ _ (SeqAt.canLay_of_shaped hz.2), hz.1, hz.2, q.sc s (.bl _)⟩
    · cases g
  · split at g
    · rename_i hz
      cases g
      cases r2 with
      | tup h2 g2 =>
        refine .inr ⟨_, _, rfl, .inr (s.t h2), flat_dv r1 hz.1, flats_dv g2 hz.2, ?_⟩
        rw [← in_dv r1 hz.1 g2 hz.2] at q
        exact q.sc s (.bl _)
    · cases g
  · cases g
/-! subscripts -/
def gIx : PyData → PyData → Option O
  | .list ds, .int i => (atI ds i).map .dat
  | .tuple ds, .int i => (atI ds i).map .dat
  | .dict [(.list ds, .none)], .int i => (atI ds i).map .dat
  | _, _ => none
theorem atI_dv {K : Frag} {F : Hp} {vs : List V} {ds : List PyData} {i : Int} {d : PyData} (r : DRs K F vs ds) (h : atI ds i = some d) : ∃ v, atI vs i = some v ∧ DR K F v d := by
  unfold atI at h ⊢
  rw [r.length]
  cases e : ixN ds.length i with
  | none => rw [e] at h; cases h
  | some j =>
    rw [e] at h
    obtain ⟨v, h1, h2⟩ := r.get h
    exact ⟨v, h1, h2⟩
theorem o_ix {K : Frag} : Op2 K (rIx K) gIx := by
  intro F H x y d1 d2 z s r1 r2 g Q q
  unfold gIx at g
  split at g
  · rename_i ds i
    cases e : atI ds i with
    | none => rw [e] at g; cases g
    | some d =>
      rw [e] at g
      cases g
      cases r2
      cases r1 with
      | lst h1 g1 =>
        obtain ⟨v, hv, rv⟩ := atI_dv g1 e
        exact .inl ⟨_, _, i, v, rfl, rfl, SqL.of (s _ _ h1), hv, q.sc s rv⟩
  · rename_i ds i
    cases e : atI ds i with
    | none => rw [e] at g; cases g
    | some d =>
      rw [e] at g
      cases g
      cases r2
      cases r1 with
      | tup h1 g1 =>
        obtain ⟨v, hv, rv⟩ := atI_dv g1 e
        exact .inr (.inl ⟨_, _, i, v, rfl, rfl, s.t h1, hv, q.sc s rv⟩)
  · rename_i ds i
    cases e : atI ds i with
    | none => rw [e] at g; cases g
    | some d =>
      rw [e] at g
      cases g
      cases r2
      cases r1 with
      | ro h1 g1 =>
        obtain ⟨v, hv, rv⟩ := atI_dv g1 e
        exact .inl ⟨_, _, i, v, rfl, rfl, s.l h1, hv, q.sc s rv⟩
  · cases g
/-! built-ins -/
def gLen : List PyData → Option O
  | [.list ds] => some (.dat (.int ds.length))
  | [.tuple ds] => some (.dat (.int ds.length))
  | [.dict [(.list ds, .none)]] => some (.dat (.int ds.length))
  | [.str x] => if x.length ≤ 1000000 then some (.dat (.int x.length)) else none
  | _ => none
def rLenA (K : Frag) : List V → Hp → VK → Prop := fun xs H Q => (∃ p ys, xs = [.ref p] ∧ (SqL K H p ys ∨ SqT K H p ys) ∧ Q (.int ys.length) H) ∨ ∃ z, xs = [.str z] ∧ z.length ≤ sizeLine ∧ Q (.int z.length) H
theorem call_lenA {X : Cx} : CallR X (.builtin "len") (rLenA X.K) := call_len_seq.or call_len_str
theorem o_len {K : Frag} : Opn K (rLenA K) gLen := by
  intro F H xs ds z s r g Q q
  unfold gLen at g
  split at g
  · cases g
    cases r with
    | cons r t =>
      cases t
      cases r with
      | lst h1 g1 =>
        rw [← g1.length] at q
        exact .inl ⟨_, _, rfl, .inl (SqL.of (s _ _ h1)), q.sc s (.int _)⟩
  · cases g
    cases r with
    | cons r t =>
      cases t
      cases r with
      | tup h1 g1 =>
        rw [← g1.length] at q
        exact .inl ⟨_, _, rfl, .inr (s.t h1), q.sc s (.int _)⟩
  · cases g
    cases r with
    | cons r t =>
      cases t
      cases r with
      | ro h1 g1 =>
        rw [← g1.length] at q
        exact .inl ⟨_, _, rfl, .inl (s.l h1), q.sc s (.int _)⟩
  · split at g
    · rename_i hz
      cases g
      cases r with
      | cons r t =>
        cases t
        cases r
        exact .inr ⟨_, rfl, sz_ok hz, q.sc s (.int _)⟩
    · cases g
  · cases g
def gMax2 : List PyData → Option O
  | [.int i, .int j] => some (.dat (.int (if j > i then j else i)))
  | _ => none
def gMin2 : List PyData → Option O
  | [.int i, .int j] => some (.dat (.int (if j < i then j else i)))
  | _ => none
theorem o_max2 {K : Frag} : Opn K (fun xs H Q => ∃ i j, xs = [.int i, .int j] ∧ Q (.int (if j > i then j else i)) H) gMax2 := by
  intro F H xs ds z s r g Q q
  unfold gMax2 at g
  split at g
  · cases g
    cases r with
    | cons r t =>
      cases t with
      | cons r2 t =>
        cases t; cases r; cases r2
        exact ⟨_, _, rfl, q.sc s (.int _)⟩
  · cases g
theorem o_min2 {K : Frag} : Opn K (fun xs H Q => ∃ i j, xs = [.int i, .int j] ∧ Q (.int (if j < i then j else i)) H) gMin2 := by
  intro F H xs ds z s r g Q q
  unfold gMin2 at g
  split at g
  · cases g
    cases r with
    | cons r t =>
      cases t with
      | cons r2 t =>
        cases t; cases r; cases r2
        exact ⟨_, _, rfl, q.sc s (.int _)⟩
  · cases g
/-- all data bools -/
def blsD : List PyData → Option (List Bool)
  | [] => some []
  | .bool b :: ds => (blsD ds).map (b :: ·)
  | _ => none
theorem blsD_eq : ∀ {ds : List PyData} {bs : List Bool}, blsD ds = some bs → ds = bs.map .bool
  | [], bs, h => by cases h; rfl
  | d :: ds, bs, h => by
    cases d with
    | bool b =>
      unfold blsD at h
      cases e : blsD ds with
      | none => rw [e] at h; cases h
      | some bs' =>
        rw [e] at h
        cases h
        rw [blsD_eq e]
        rfl
    | _ => cases h
def intsD : List PyData → Option (List Int)
  | [] => some []
  | .int b :: ds => (intsD ds).map (b :: ·)
  | _ => none
theorem intsD_eq : ∀ {ds : List PyData} {bs : List Int}, intsD ds = some bs → ds = bs.map .int
  | [], bs, h => by cases h; rfl
  | d :: ds, bs, h => by
    cases d with
    | int b =>
      unfold intsD at h
      cases e : intsD ds with
      | none => rw [e] at h; cases h
      | some bs' =>
        rw [e] at h
        cases h
        rw [intsD_eq e]
        rfl
    | _ => cases h
theorem intsD_map : ∀ ns : List Int, intsD (ns.map .int) = some ns
  | [] => rfl
  | n :: ns => by
    show (intsD (ns.map .int)).map (n :: ·) = _
    rw [intsD_map ns]
    rfl
theorem blsD_map : ∀ ns : List Bool, blsD (ns.map .bool) = some ns
  | [] => rfl
  | n :: ns => by
    show (blsD (ns.map .bool)).map (n :: ·) = _
    rw [blsD_map ns]
    rfl
def gAll : List PyData → Option O
  | [.list ds] => (blsD ds).map fun bs => .dat (.bool (bs.all id))
  | _ => none
def gAny : List PyData → Option O
  | [.list ds] => (blsD ds).map fun bs => .dat (.bool (bs.any id))
  | _ => none
theorem o_all {K : Frag} : Opn K (rAll K) gAll := by
  intro F H xs ds z s r g Q q
  unfold gAll at g
  split at g
  · rename_i ds
    cases e : blsD ds with
    | none => rw [e] at g; cases g
    | some bs =>
      rw [e] at g
      cases g
      have e2 := blsD_eq e
      subst e2
      cases r with
      | cons r t =>
        cases t
        cases r with
        | lst h1 g1 =>
          have := g1.bls
          subst this
          exact ⟨_, bs, rfl, SqL.of (s _ _ h1), q.sc s (.bl _)⟩
  · cases g
theorem o_any {K : Frag} : Opn K (rAny K) gAny := by
  intro F H xs ds z s r g Q q
  unfold gAny at g
  split at g
  · rename_i ds
    cases e : blsD ds with
    | none => rw [e] at g; cases g
    | some bs =>
      rw [e] at g
      cases g
      have e2 := blsD_eq e
      subst e2
      cases r with
      | cons r t =>
        cases t
        cases r with
        | lst h1 g1 =>
          have := g1.bls
          subst this
          exact ⟨_, bs, rfl, SqL.of (s _ _ h1), q.sc s (.bl _)⟩
  · cases g
def gSum : List PyData → Option O
  | [.list ds] => (intsD ds).map fun ns => .dat (.int ns.sum)
  | _ => none
theorem o_sum {K : Frag} : Opn K (rSum K) gSum := by
  intro F H xs ds z s r g Q q
  unfold gSum at g
  split at g
  · rename_i ds
    cases e : intsD ds with
    | none => rw [e] at g; cases g
    | some bs =>
      rw [e] at g
      cases g
      have e2 := intsD_eq e
      subst e2
      cases r with
      | cons r t =>
        cases t
        cases r with
        | lst h1 g1 =>
          have := g1.ints
          subst this
          exact ⟨_, bs, rfl, SqL.of (s _ _ h1), q.sc s (.int _)⟩
  · cases g
def gInt : List PyData → Option O
  | [.int i] => some (.dat (.int i))
  | _ => none
theorem o_int {K : Frag} : Opn K (fun xs H Q => (∃ i, xs = [.int i] ∧ Q (.int i) H) ∨ ∃ k, xs = [.bl k] ∧ Q (.int (if k then 1 else 0)) H) gInt := by
  intro F H xs ds z s r g Q q
  unfold gInt at g
  split at g
  · cases g
    cases r with
    | cons r t =>
      cases t; cases r
      exact .inl ⟨_, rfl, q.sc s (.int _)⟩
  · cases g
def gList : List PyData → Option O
  | [.list ds] => some (.node .lst (ds.map .dat))
  | [.tuple ds] => some (.node .lst (ds.map .dat))
  | _ => none
theorem o_list {K : Frag} : Opn K (fun xs H Q => ∃ p ys, xs = [.ref p] ∧ (SqL K H p ys ∨ SqT K H p ys) ∧ ∀ l, H l = none → Q (.ref l) (upd H l (.lst ys))) gList := by
  intro F H xs ds z s r g Q q
  unfold gList at g
  split at g
  · cases g
    cases r with
    | cons r t =>
      cases t
      cases r with
      | lst h1 g1 => exact ⟨_, _, rfl, .inl (SqL.of (s _ _ h1)), fun l hl => q.lst s g1 hl⟩
  · cases g
    cases r with
    | cons r t =>
      cases t
      cases r with
      | tup h1 g1 => exact ⟨_, _, rfl, .inr (s.t h1), fun l hl => q.lst s g1 hl⟩
  · cases g
def gTuple : List PyData → Option O
  | [.list ds] => some (.dat (.tuple ds))
  | [.tuple ds] => some (.dat (.tuple ds))
  | _ => none
theorem o_tuple {K : Frag} : Opn K (fun xs H Q => ∃ p ys, xs = [.ref p] ∧ ((SqL K H p ys ∧ ∀ l, H l = none → Q (.ref l) (upd H l (.tup ys))) ∨ (SqT K H p ys ∧ Q (.ref p) H))) gTuple := by
  intro F H xs ds z s r g Q q
  unfold gTuple at g
  split at g
  · cases g
    cases r with
    | cons r t =>
      cases t
      cases r with
      | lst h1 g1 => exact ⟨_, _, rfl, .inl ⟨SqL.of (s _ _ h1), fun l hl => q.tup s g1 hl⟩⟩
  · cases g
    cases r with
    | cons r t =>
      cases t
      cases r with
      | tup h1 g1 => exact ⟨_, _, rfl, .inr ⟨s.t h1, q.sc s (.tup h1 g1)⟩⟩
  · cases g
/-! isinstance of data -/
def tyD : PyData → String
  | .none => "NoneType"
  | .bool _ => "bool"
  | .int _ => "int"
  | .str _ => "str"
  | .list _ => "list"
  | .tuple _ => "tuple"
  | .dict _ => "list"
def isTy (T : String) (d : PyData) : Bool := tyD d == T || (T == "int" && tyD d == "bool")
def tys : List String := ["NoneType", "bool", "int", "str", "list", "tuple"]
theorem kit_all : (tys.all fun a => ["int", "bool", "str", "list", "tuple"].all fun T => kitB a T == some (a == T || (T == "int" && a == "bool"))) = true := by decide +kernel
theorem tyD_mem (d : PyData) : tyD d ∈ tys := by cases d <;> simp [tyD, tys]
theorem kit_dv {K : Frag} {d : PyData} {T : String} (h : T ∈ ["int", "bool", "str", "list", "tuple"]) : PySem.W.kitOne K (.type (tyD d)) (.type T) = some (isTy T d) := by
  have h1 := List.all_eq_true.mp kit_all (tyD d) (tyD_mem d)
  have h2 := List.all_eq_true.mp h1 T h
  exact kit_ty (eq_of_beq h2)
theorem tyX_dv {K : Frag} {H : Hp} {x : V} {d : PyData} (r : DR K H x d) : TyX K H x (.type (tyD d)) := by
  cases r with
  | non => exact .base .non
  | bl b => exact .base (.bl b)
  | int i => exact .base (.int i)
  | str i => exact .base (.str i)
  | lst h1 g1 => exact .base (.lst h1)
  | tup h1 g1 =>
    rcases h1 with (h | ⟨o, h⟩) | ⟨o, its, n, h, hc, _⟩
    · exact .base (.tup h)
    · exact .fTuple h
    · exact .kTuple h hc
  | ro h1 g1 =>
    rcases h1 with (h | ⟨o, h⟩) | ⟨o, its, n, h, hc, _⟩
    · exact .base (.lst h)
    · exact .base (.frz h)
    · exact .kList h hc
def gIsi (T : String) : PyData → Option O := fun d => some (.dat (.bool (isTy T d)))
theorem de_isi {X : Cx} {c : Fc} {p1 : Bool} {f1 : EF} {T : Str} {Ts : String} {a : Expr} {p p2 pos : Pos} (hK : X.K = c.K) (hT : Ts ∈ ["int", "bool", "str", "list", "tuple"]) (hg : Gl X "isinstance") (hm : X.mg "isinstance" = none) (hg2 : Gl X T) (hm2 : X.mg T = none) (hv : bootBuiltins T = some (.type Ts)) (ha : DE X c p1 a f1)
    (hn : T ≠ "__name__" := by decide) (hdb : (T == ("__debug__" : Str)) = false := by decide)
    (hs1 : starEach [.Name T p2] X.env = (false, eval (.Name T p2) X.env) :: starEach [] X.env := by rfl) (hs2 : starEach [a, .Name T p2] X.env = (false, eval a X.env) :: starEach [.Name T p2] X.env := by rfl) (hpl : (backTo pos (starEach [.Name T p2] X.env)).any (·.1) = false := by rfl) :
    DE X c p1 (.Call (.Name "isinstance" p) [a, .Name T p2] [] pos) (k1 (gIsi Ts) f1) := by
  refine ⟨pu_1 ha.pure, (pe_callB call_isi hg hm PyProof.Rows.boot_isinstance (pa_cons ha.run (pa_cons (pe_bltn (v := .ty Ts) hg2 hm2 hv rfl hn hdb) pa_nil hs1) hs2) (by decide) (by decide) hs2 hpl).weak fun σ H Q ⟨env, ts, us, R, q⟩ => ?_⟩
  refine ⟨env, ts, us, R, ?_⟩
  unfold k1 RE.bind at q
  cases e1 : f1 env with
  | no => rw [e1] at q; exact q.elim
  | err x en => rw [e1] at q; exact q
  | ok o1 en1 =>
    rw [e1] at q
    intro v H1 R1 x1
    simp only at q
    split at q
    · rename_i d1 z1
      have R2 := R1.freeze z1
      obtain ⟨F, f, r, k⟩ := Rp.dat R2
      rw [hK]
      refine ⟨v, .ty Ts, _, _, _, rfl, .ty Ts, tyX_dv (f.sub.dp _ _ r), kit_dv hT, ?_⟩
      exact q _ H1 R2.pop.bpush x1
    · exact q.elim
/-! slices -/
structure DO (X : Cx) (c : Fc) (e : Option Expr) (f : Env → RE (Option Int)) : Prop where
  run : PO X e (fun σ H Q => ∃ env ts us, Rp c env σ ts us H ∧ (match f env with | .ok o env' => ∀ H', Rp c env' σ ts us H' → Q o H' | .err x env' => ∀ H', Rp c env' σ ts us H' → c.W (c.cls x) none σ H' | .no => False))
theorem _root_.L2.PO.weak {X : Cx} {e : Option Expr} {t t' : TO} (h : PO X e t) (w : ∀ σ H Q, t' σ H Q → t σ H Q) : PO X e t' := ⟨fun pins s σ H Q I q => h.run pins s σ H Q I (w σ H Q q)⟩
def kPart (f : EF) : Env → RE (Option Int) := fun env => (f env).bind fun o e => match o with
  | .dat (.int i) => .ok (some i) e
  | _ => .no
def kNoPart : Env → RE (Option Int) := fun env => .ok none env
theorem do_none {X : Cx} {c : Fc} : DO X c none kNoPart := ⟨po_none.weak fun σ H Q ⟨env, ts, us, R, q⟩ => q H R⟩
theorem do_some {X : Cx} {c : Fc} {p1 : Bool} {e : Expr} {f : EF} (h : DE X c p1 e f) : DO X c (some e) (kPart f) := by
  refine ⟨(po_some h.run).weak fun σ H Q ⟨env, ts, us, R, q⟩ => ⟨env, ts, us, R, ?_⟩⟩
  unfold kPart RE.bind at q
  cases e1 : f env with
  | no => simp only [e1] at q
  | err x en => simp only [e1] at q; exact q
  | ok o en =>
    simp only [e1] at q
    intro v H' R' _
    split at q
    · rename_i o' env' h'
      split at h'
      · rename_i i
        cases h'
        obtain ⟨F, f, r, k⟩ := Rp.dat R'
        cases r
        exact ⟨i, rfl, q H' R'.pop⟩
      · cases h'
    · rename_i h'
      split at h' <;> cases h'
    · exact q.elim
def cutD (ds : List PyData) (lo hi : Option Int) : List PyData := (ds.drop (HT.sIx ds.length 0 lo)).take (HT.sIx ds.length ds.length hi - HT.sIx ds.length 0 lo)
def kSl (f : EF) (l h : Env → RE (Option Int)) : EF := fun env => (f env).bind fun o e1 => (l e1).bind fun lo e2 => (h e2).bind fun hi e3 => match o.toD with
  | some (.list ds) => .ok (.node .lst ((cutD ds lo hi).map .dat)) e3
  | some (.tuple ds) => .ok (.dat (.tuple (cutD ds lo hi))) e3
  | _ => .no
theorem cut_dv {K : Frag} {F : Hp} {vs : List V} {ds : List PyData} (r : DRs K F vs ds) (lo hi : Option Int) : DRs K F (cutV vs lo hi) (cutD ds lo hi) := by
  unfold cutV cutD
  rw [r.length]
  exact (r.drop _).take _
theorem de_slice {X : Cx} {c : Fc} {p1 : Bool} {e : Expr} {lo hi : Option Expr} {f : EF} {l h : Env → RE (Option Int)} {pos p2 : Pos} (hK : X.K = c.K) (he : DE X c p1 e f) (hl : DO X c lo l) (hh : DO X c hi h) : DE X c false (.Subscript e (.Slice lo hi none p2) pos) (kSl f l h) := by
  refine ⟨Pu.no, (pe_slice (sl_list.or sl_tupA) he.run hl.run hh.run).weak fun σ H Q ⟨env, ts, us, R, q⟩ => ⟨env, ts, us, R, ?_⟩⟩
  unfold kSl RE.bind at q
  cases e1 : f env with
  | no => rw [e1] at q; exact q.elim
  | err x en => rw [e1] at q; exact q
  | ok o en =>
    rw [e1] at q
    simp only at q
    intro v H1 R1 _
    refine ⟨en, o :: ts, v :: us, R1, ?_⟩
    cases e2 : l en with
    | no => rw [e2] at q; exact q.elim
    | err x en => rw [e2] at q; exact fun H' R' => q H' R'.pop
    | ok lo' en2 =>
      rw [e2] at q
      intro H2 R2
      refine ⟨en2, o :: ts, v :: us, R2, ?_⟩
      simp only at q
      cases e3 : h en2 with
      | no => rw [e3] at q; exact q.elim
      | err x en => rw [e3] at q; exact fun H' R' => q H' R'.pop
      | ok hi' en3 =>
        rw [e3] at q
        intro H3 R3
        simp only at q
        split at q
        · rename_i ds ed
          obtain ⟨F, fe, ft, f, e, t, nd, nw⟩ := R3.freeze ed
          cases t with
          | cons r t =>
            cases r with
            | dat r =>
              cases r with
              | lst h1 g1 =>
                refine .inl ⟨_, _, rfl, SqL.of (f.sub _ _ h1), fun p hp => ?_⟩
                have res : Res c.K F H3 [] (.node .lst ((cutD ds lo' hi').map .dat)) Q := fun v H' F' fp gr ro nf hf => q v H' (Rp.grow (fo := []) f e t nd nw gr ro nf hf) fun z => nomatch z
                exact res.lst f.sub (cut_dv g1 lo' hi') hp
        · rename_i ds ed
          obtain ⟨F, fe, ft, f, e, t, nd, nw⟩ := R3.freeze ed
          cases t with
          | cons r t =>
            cases r with
            | dat r =>
              cases r with
              | tup h1 g1 =>
                have res : Res c.K F H3 [] (.dat (.tuple (cutD ds lo' hi'))) Q := fun v H' F' fp gr ro nf hf => q v H' (Rp.grow (fo := []) f e t nd nw gr ro nf hf) fun z => nomatch z
                rw [hK]
                refine .inr ⟨_, _, rfl, f.sub.t h1, fun hw => ?_, fun hw p hp => res.tup f.sub (cut_dv g1 lo' hi') hp⟩
                have whole : cutD ds lo' hi' = ds := by
                  unfold cutD
                  rw [g1.length] at hw
                  rw [hw.1, hw.2, List.drop_zero, Nat.sub_zero, List.take_length]
                rw [whole] at res
                exact res.sc f.sub (.tup h1 g1)
        · exact q.elim
end DP
end

section
namespace DP
open PySem PySem.Spec PyProof.Rows L2
/-! ### places within a slot's tree -/
/-- a step: an item of a list or tuple; from 1000 on an attribute -/
def Shp.at : Shp → Nat → Option Nat
  | .lst, k => some k
  | .tup, k => some k
  | .dic _, _ => none
  | .ins _ _, k => if 1000 ≤ k then some (k - 1000) else none
def nth (s : Shp) (xs : List O) (k : Nat) : Option O := match s.at k with
  | some j => xs[j]?
  | none => none
def O.get : O → List Nat → Option O
  | o, [] => some o
  | .node s xs, k :: π => match nth s xs k with
    | some o => o.get π
    | none => none
  | .dat _, _ :: _ => none
  | .any, _ :: _ => none
def put1 (s : Shp) (xs : List O) (k : Nat) (z : O) : List O := match s.at k with
  | some j => xs.set j z
  | none => xs
def O.put : O → List Nat → O → O
  | _, [], z => z
  | .node s xs, k :: π, z => match nth s xs k with
    | some o => .node s (put1 s xs k (o.put π z))
    | none => .node s xs
  | .dat d, _ :: _, _ => .dat d
  | .any, _ :: _, _ => .any
def kidAt : HO → Nat → Option V
  | .lst xs, k => xs[k]?
  | .tup xs, k => xs[k]?
  | .ins _ _ fs, k => if 1000 ≤ k then (fs.map (·.2))[k - 1000]? else none
  | _, _ => none
theorem zip_snd {α β : Type} : ∀ {xs : List α} {ys : List β}, xs.length = ys.length → (xs.zip ys).map (·.2) = ys
  | [], [], _ => rfl
  | x :: xs, y :: ys, h => by simp [zip_snd (xs := xs) (ys := ys) (by simpa using h)]
  | [], _ :: _, h => by simp at h
  | _ :: _, [], h => by simp at h
theorem kids_ho {s : Shp} {vs : List V} {h : HO} {k j : Nat} (e : s.ho vs h) (ha : s.at k = some j) : kidAt h k = vs[j]? := by
  cases s with
  | lst => have e' : h = .lst vs := e; subst e'; cases ha; rfl
  | tup => have e' : h = .tup vs := e; subst e'; cases ha; rfl
  | dic ks => cases ha
  | ins C fs =>
    obtain ⟨l, dx, e'⟩ : fs.length = vs.length ∧ ∃ dx, h = .ins C dx (fs.zip vs) := e
    subst e'
    have ha' : (if 1000 ≤ k then some (k - 1000) else none) = some j := ha
    split at ha'
    · rename_i hk
      cases ha'
      show (if 1000 ≤ k then ((fs.zip vs).map (·.2))[k - 1000]? else none) = _
      rw [if_pos hk, zip_snd l]
    · cases ha'
def follow (H : Hp) : V → List Nat → Option V
  | v, [] => some v
  | .ref p, k :: π => match H p with
    | some h => match kidAt h k with
      | some v => follow H v π
      | none => none
    | none => none
  | _, _ :: _ => none
theorem ROs.nth {K : Frag} {F H : Hp} : ∀ {os : List O} {vs : List V} {fp : List Addr} {k : Nat} {o : O}, ROs K F H os vs fp → os[k]? = some o → ∃ v fo fr, vs[k]? = some v ∧ RO K F H o v fo ∧ fp.Perm (fo ++ fr) ∧ (∀ a ∈ fr, F a = none ∧ ∃ h, H a = some h) ∧
    ∀ (o' : O) (fo' : List Addr) (F' H' : Hp), RO K F' H' o' v fo' → Stay fr F H F' H' → ∃ fp', fp'.Perm (fo' ++ fr) ∧ ROs K F' H' (os.set k o') vs fp'
  | [], _, _, _, _, _, e => by simp at e
  | x :: os, _, _, 0, o, h, e => by
    have e' := Option.some.inj e
    subst e'
    cases h with
    | cons h1 h2 =>
      rename_i v f1 vs f2
      exact ⟨v, f1, f2, rfl, h1, .refl _, h2.own _ _ _, fun o' fo' F' H' r st => ⟨_, .refl _, .cons r (h2.stay _ _ _ st)⟩⟩
  | x :: os, _, _, k + 1, o, h, e => by
    cases h with
    | cons h1 h2 =>
      rename_i v0 f1 vs f2
      obtain ⟨v, fo, fr, e1, r, pm, ow, put⟩ := ROs.nth (k := k) (o := o) h2 (by simpa using e)
      have sw : ∀ a b d : List Addr, (a ++ (b ++ d)).Perm (b ++ (a ++ d)) := fun a b d => by
        rw [← List.append_assoc, ← List.append_assoc]
        exact List.perm_append_comm.append_right _
      refine ⟨v, fo, f1 ++ fr, by simpa using e1, r, (pm.append_left f1).trans (sw _ _ _), fun a z => (List.mem_append.mp z).elim (h1.own _ _ _ a) (ow a), fun o' fo' F' H' r' st => ?_⟩
      obtain ⟨fp', pm', r2⟩ := put o' fo' F' H' r' st.right
      exact ⟨f1 ++ fp', (pm'.append_left f1).trans (sw _ _ _), .cons (h1.stay _ _ _ st.left) r2⟩
theorem RO.focus {K : Frag} {F H : Hp} : ∀ {π : List Nat} {t : O} {w : V} {fp : List Addr} {o : O}, RO K F H t w fp → t.get π = some o → ∃ v fo fr, follow H w π = some v ∧ RO K F H o v fo ∧ fp.Perm (fo ++ fr) ∧ (∀ a ∈ fr, F a = none ∧ ∃ h, H a = some h) ∧
    ∀ (o' : O) (fo' : List Addr) (F' H' : Hp), RO K F' H' o' v fo' → Stay fr F H F' H' → ∃ fp', fp'.Perm (fo' ++ fr) ∧ RO K F' H' (t.put π o') w fp'
  | [], t, w, fp, o, h, e => by
    have e' : t = o := by cases t <;> exact Option.some.inj e
    subst e'
    exact ⟨w, fp, [], (by cases w <;> rfl), h, (by simp), (fun a z => nomatch z), fun o' fo' F' H' r st => ⟨fo', (by simp), (by cases t <;> exact r)⟩⟩
  | k :: π, .dat d, w, fp, o, h, e => by cases e
  | k :: π, .any, w, fp, o, h, e => by cases e
  | k :: π, .node s xs, w, fp, o, h, e => by
    cases h with
    | node h1 h2 h3 h4 =>
      rename_i p vs ho fx
      have e0 : (match nth s xs k with | some o => o.get π | none => none) = some o := e
      cases en : nth s xs k with
      | none => rw [en] at e0; cases e0
      | some t' =>
        rw [en] at e0
        obtain ⟨j, ej, ex⟩ : ∃ j, s.at k = some j ∧ xs[j]? = some t' := by
          unfold nth at en
          cases ej : s.at k with
          | none => rw [ej] at en; cases en
          | some j => rw [ej] at en; exact ⟨j, rfl, en⟩
        obtain ⟨v', fk, fr, ev, rk, pm, ow, put⟩ := h4.nth ex
        obtain ⟨v, fo, fr2, ef, ro, pm2, ow2, put2⟩ := RO.focus (π := π) rk e0
        have sw : ∀ a b d : List Addr, (a ++ (b ++ d)).Perm (b ++ (a ++ d)) := fun a b d => by
          rw [← List.append_assoc, ← List.append_assoc]
          exact List.perm_append_comm.append_right _
        have pmm : ∀ {a b d : List Addr}, a.Perm (b ++ fr2) → d.Perm (a ++ fr) → (p :: d).Perm (b ++ (p :: (fr2 ++ fr))) := fun {a b d} h1 h2 => by
          refine List.Perm.trans (List.Perm.cons p ?_) List.perm_middle.symm
          refine h2.trans ((h1.append_right fr).trans ?_)
          rw [List.append_assoc]
        refine ⟨v, fo, p :: (fr2 ++ fr), ?_, ro, pmm pm2 pm, fun a z => ?_, fun o' fo' F' H' r' st => ?_⟩
        · show (match H p with | some h => _ | none => none) = some v
          rw [h2]
          show (match kidAt ho k with | some v => follow H v π | none => none) = some v
          rw [kids_ho h3 ej, ev]
          exact ef
        · rcases List.mem_cons.mp z with y | y
          · rw [y]; exact ⟨h1, _, h2⟩
          · exact (List.mem_append.mp y).elim (ow2 a) (ow a)
        · have sp : F' p = none ∧ H' p = H p := ⟨st.out p List.mem_cons_self, st.at' p List.mem_cons_self⟩
          have st2 : Stay fr2 F H F' H' := ⟨st.fz, fun a z => st.out a (List.mem_cons_of_mem _ (List.mem_append_left _ z)), fun a z => st.at' a (List.mem_cons_of_mem _ (List.mem_append_left _ z))⟩
          have st3 : Stay fr F H F' H' := ⟨st.fz, fun a z => st.out a (List.mem_cons_of_mem _ (List.mem_append_right _ z)), fun a z => st.at' a (List.mem_cons_of_mem _ (List.mem_append_right _ z))⟩
          obtain ⟨fp1, q1, r1⟩ := put2 o' fo' F' H' r' st2
          obtain ⟨fp2, q2, r2⟩ := put (t'.put π o') fp1 F' H' r1 st3
          refine ⟨p :: fp2, pmm q1 q2, ?_⟩
          have ep : (O.node s xs).put (k :: π) o' = .node s (xs.set j (t'.put π o')) := by
            show (match nth s xs k with | some o => O.node s (put1 s xs k (o.put π o')) | none => .node s xs) = _
            rw [en]
            show O.node s (put1 s xs k (t'.put π o')) = _
            unfold put1
            rw [ej]
          rw [ep]
          exact .node sp.1 (sp.2.trans h2) h3 r2
def slotO (env : Env) (i : Nat) : Option O := match env[i]? with
  | some (.v o) => some o
  | some (.io o) => some o
  | _ => none
def setO (env : Env) (i : Nat) (o : O) : Env := match env[i]? with
  | some (.v _) => env.set i (.v o)
  | some (.io _) => env.set i (.io o)
  | _ => env
def getP (env : Env) (i : Nat) (π : List Nat) : Option O := match slotO env i with
  | some o => o.get π
  | none => none
def putP (env : Env) (i : Nat) (π : List Nat) (z : O) : Env := match slotO env i with
  | some o => setO env i (o.put π z)
  | none => env
def valP (H : Hp) (σ : L2.St) (i : Nat) (π : List Nat) : Option V := match σ[i]? with
  | some (some w) => follow H w π
  | _ => none
section
variable {c : Fc} {env : Env} {σ : L2.St} {ts : List O} {us : List V} {H : Hp} {i : Nat} {π : List Nat}
theorem Rp.focus {o : O} (R : Rp c env σ ts us H) (hg : getP env i π = some o) : ∃ v F fo fr ft, valP H σ i π = some v ∧ Fr c F H ∧ RO c.K F H o v fo ∧ ROs c.K F H ts us ft ∧ (fo ++ (fr ++ ft)).Nodup ∧ (∀ a ∈ fo ++ (fr ++ ft), c.Hs a = none ∨ a ∈ c.P) ∧ (∀ a ∈ fr, F a = none ∧ ∃ h, H a = some h) ∧
    ∀ (o' : O) (fo' : List Addr) (F' H' : Hp) (ts' : List O) (us' : List V) (ft' : List Addr), RO c.K F' H' o' v fo' → Stay fr F H F' H' → Fr c F' H' → ROs c.K F' H' ts' us' ft' → (fo' ++ (fr ++ ft')).Nodup → (∀ a ∈ fo' ++ (fr ++ ft'), c.Hs a = none ∨ a ∈ c.P) → Rp c (putP env i π o') σ ts' us' H' := by
  obtain ⟨F, fe, ft, f, e, t, nd, nw⟩ := R
  have sl : ∃ o0, (env[i]? = some (.v o0) ∨ env[i]? = some (.io o0)) ∧ o0.get π = some o := by
    unfold getP slotO at hg
    split at hg
    · rename_i o0 e1
      split at e1
      · rename_i e2; cases e1; exact ⟨_, .inl e2, hg⟩
      · rename_i e2; cases e1; exact ⟨_, .inr e2, hg⟩
      · cases e1
    · cases hg
  obtain ⟨o0, h0, g0⟩ := sl
  obtain ⟨w, f1, f2, e1, r, pm, io, k⟩ := e.at h0
  obtain ⟨v, fo, fr, ef, ro, pm2, ow, put⟩ := r.focus g0
  have ow2 : ∀ a ∈ f2, F a = none ∧ ∃ h, H a = some h := fun a z => e.own a (pm.mem_iff.mpr (List.mem_append_right _ z))
  have pall : (fe ++ ft).Perm (fo ++ ((fr ++ f2) ++ ft)) := by
    refine (pm.append_right ft).trans ?_
    refine ((pm2.append_right f2).append_right ft).trans ?_
    rw [List.append_assoc, List.append_assoc, List.append_assoc]
  refine ⟨v, F, fo, fr ++ f2, ft, by unfold valP; rw [e1]; exact ef, f, ro, t, pall.nodup_iff.mp nd, fun a z => nw a (pall.mem_iff.mpr z), fun a z => (List.mem_append.mp z).elim (ow a) (ow2 a), fun o' fo' F' H' ts' us' ft' ro' st f' t' nd' nw' => ?_⟩
  obtain ⟨fp1, q1, r1⟩ := put o' fo' F' H' ro' st.left
  have hs : ∃ s, (s = .no ∨ (s = .mv ∧ env[i]? = some (.io o0)) ∨ ∃ o', (s = .v o' ∨ (s = .io o' ∧ env[i]? = some (.io o0))) ∧ RO c.K F' H' o' w fp1) ∧ putP env i π o' = env.set i s ∧ ¬ (s = .no ∨ s = .mv) := by
    unfold putP slotO setO
    rcases h0 with h0 | h0
    · rw [h0]; exact ⟨.v (o0.put π o'), .inr (.inr ⟨_, .inl rfl, r1⟩), rfl, by simp⟩
    · rw [h0]; exact ⟨.io (o0.put π o'), .inr (.inr ⟨_, .inr ⟨rfl, rfl⟩, r1⟩), rfl, by simp⟩
  obtain ⟨s, hs1, hs2, hs3⟩ := hs
  obtain ⟨fp', q', e'⟩ := k s fp1 F' H' st.right hs1 (fun z => absurd z hs3)
  rw [hs2]
  refine Rp.of f' e' t' (all := fo' ++ ((fr ++ f2) ++ ft')) (.perm ?_) nd' nw'
  refine (q'.append_right ft').trans ?_
  refine ((q1.append_right f2).append_right ft').trans ?_
  rw [List.append_assoc, List.append_assoc, List.append_assoc]
/-- an object within a slot's tree is changed: it takes trees from the top, or gives some -/
theorem Rp.mut {s : Shp} {xs : List O} (R : Rp c env σ ts us H) (hg : getP env i π = some (.node s xs)) : ∃ p vs h F fx ft, valP H σ i π = some (.ref p) ∧ H p = some h ∧ s.ho vs h ∧ Fr c F H ∧ ROs c.K F H xs vs fx ∧ ROs c.K F H ts us ft ∧
    ∀ (s' : Shp) (xs' : List O) (vs' : List V) (h' : HO) (fx' : List Addr) (ts' : List O) (us' : List V) (ft' : List Addr), s'.ho vs' h' → ROs c.K F H xs' vs' fx' → ROs c.K F H ts' us' ft' → Sub (fx' ++ ft') (fx ++ ft) → Rp c (putP env i π (.node s' xs')) σ ts' us' (upd H p h') := by
  obtain ⟨v, F, fo, fr, ft, ev, f, ro, t, nd, nw, ow, put⟩ := R.focus hg
  cases ro with
  | node h1 h2 h3 h4 =>
    rename_i p vs h fx
    refine ⟨p, vs, h, F, fx, ft, ev, h2, h3, f, h4, t, fun s' xs' vs' h' fx' ts' us' ft' ho' rx' rt' sb => ?_⟩
    have pp : p ∉ fr ++ (fx ++ ft) := by
      have : (p :: (fr ++ (fx ++ ft))).Nodup := by
        refine List.Perm.nodup_iff (l₁ := (p :: fx) ++ (fr ++ ft)) ?_ |>.mp nd
        refine List.Perm.cons p ?_
        show (fx ++ (fr ++ ft)).Perm (fr ++ (fx ++ ft))
        rw [← List.append_assoc, ← List.append_assoc]
        exact List.perm_append_comm.append_right _
      exact (List.nodup_cons.mp this).1
    have npx : p ∉ fx' ++ ft' := fun z => pp (List.mem_append_right _ (sb.mem p z))
    have stay : ∀ fp : List Addr, (∀ a ∈ fp, F a = none) → p ∉ fp → Stay fp F H F (upd H p h') := fun fp k n => ⟨Ex.refl F, k, fun a z => upd_ne fun q => n (q ▸ z)⟩
    have sub : Sub ((p :: fx') ++ (fr ++ ft')) ((p :: fx) ++ (fr ++ ft)) := by
      have e1 : ((p :: fx') ++ (fr ++ ft')).Perm (p :: (fr ++ (fx' ++ ft'))) := by
        refine List.Perm.cons p ?_
        show (fx' ++ (fr ++ ft')).Perm (fr ++ (fx' ++ ft'))
        rw [← List.append_assoc, ← List.append_assoc]
        exact List.perm_append_comm.append_right _
      have e2 : (p :: (fr ++ (fx ++ ft))).Perm ((p :: fx) ++ (fr ++ ft)) := by
        refine List.Perm.cons p ?_
        show (fr ++ (fx ++ ft)).Perm (fx ++ (fr ++ ft))
        rw [← List.append_assoc, ← List.append_assoc]
        exact List.perm_append_comm.append_right _
      exact (Sub.perm e1).trans (((Sub.refl [p]).app ((Sub.refl fr).app sb)).trans (Sub.perm e2))
    refine put _ (p :: fx') F (upd H p h') ts' us' ft' (.node h1 upd_same ho' (rx'.stay _ _ _ (stay fx' (fun a z => (rx'.own _ _ _ a z).1) fun z => npx (List.mem_append_left _ z)))) (stay fr (fun a z => (ow a z).1) fun z => pp (List.mem_append_left _ z)) ⟨f.up, fun a o q => ?_, f.nw, fun a o q z => ?_⟩
      (rt'.stay _ _ _ (stay ft' (fun a z => (rt'.own _ _ _ a z).1) fun z => npx (List.mem_append_right _ z))) (sub.nodup nd) (fun a z => nw a (sub.mem a z))
    · by_cases z : a = p
      · subst z; rw [h1] at q; cases q
      · rw [upd_ne z]; exact f.sub a o q
    · have ne : a ≠ p := fun y => by
        subst y
        rcases nw a (List.mem_append_left _ List.mem_cons_self) with w | w
        · rw [w] at q; cases q
        · exact z w
      rw [upd_ne ne]
      exact f.kp a o q z
/-- frozen data within a slot's tree -/
theorem Rp.leaf {d : PyData} (R : Rp c env σ ts us H) (hg : getP env i π = some (.dat d)) : ∃ v, valP H σ i π = some v ∧ Rp c env σ (.dat d :: ts) (v :: us) H := by
  have R0 := R
  obtain ⟨v, F, fo, fr, ft, ev, f, ro, t, nd, nw, ow, put⟩ := R.focus hg
  refine ⟨v, ev, ?_⟩
  cases ro with
  | dat ro =>
    have st : Stay fr F H F H := ⟨Ex.refl F, fun a z => (ow a z).1, fun _ _ => rfl⟩
    have R1 := put (.dat d) [] F H (.dat d :: ts) (v :: us) ft (.dat ro) st f (.cons (f1 := []) (.dat ro) t) nd nw
    have same : putP env i π (.dat d) = env := by
      have go : ∀ (π : List Nat) (t : O), t.get π = some (.dat d) → t.put π (.dat d) = t := by
        intro π
        induction π with
        | nil => intro t h; cases t <;> exact (Option.some.inj h).symm
        | cons k π ih =>
          intro t h
          cases t with
          | dat _ => cases h
          | any => cases h
          | node s xs =>
            show (match nth s xs k with | some o => O.node s (put1 s xs k (o.put π (.dat d))) | none => .node s xs) = _
            have h' : (match nth s xs k with | some o => o.get π | none => none) = some (O.dat d) := h
            cases ex : nth s xs k with
            | none => rfl
            | some t' =>
              rw [ex] at h'
              show O.node s (put1 s xs k (t'.put π (.dat d))) = _
              rw [ih t' h']
              unfold put1
              unfold nth at ex
              cases ej : s.at k with
              | none => rfl
              | some j =>
                rw [ej] at ex
                obtain ⟨hk, e⟩ := List.getElem?_eq_some_iff.mp ex
                show O.node s (xs.set j t') = _
                rw [← e, List.set_getElem_self hk]
      unfold putP
      unfold getP at hg
      cases es : slotO env i with
      | none => rfl
      | some o0 =>
        rw [es] at hg
        show setO env i (o0.put π (.dat d)) = env
        rw [go π o0 hg]
        unfold slotO at es
        unfold setO
        split at es
        · rename_i o e2
          cases es
          obtain ⟨hk, e⟩ := List.getElem?_eq_some_iff.mp e2
          show env.set i (.v o0) = env
          rw [← e, List.set_getElem_self hk]
        · rename_i o e2
          cases es
          obtain ⟨hk, e⟩ := List.getElem?_eq_some_iff.mp e2
          show env.set i (.io o0) = env
          rw [← e, List.set_getElem_self hk]
        · cases es
    rw [same] at R1
    exact R1
end
/-- e stands for the place π of slot i -/
def tP (c : Fc) (i : Nat) (π : List Nat) : TE := fun σ H Q => ∃ env ts us o, Rp c env σ ts us H ∧ getP env i π = some o ∧ ∀ v, valP H σ i π = some v → Q v H
structure DPl (X : Cx) (c : Fc) (e : Expr) (i : Nat) (π : List Nat) : Prop where
  run : PE X e (tP c i π)
section
variable {X : Cx} {c : Fc} {i : Nat} {π : List Nat}
theorem dp_name {e : Expr} (h : PE X e (tVar i)) : DPl X c e i [] := by
  refine ⟨h.weak fun σ H Q ⟨env, ts, us, o, R, hg, q⟩ => ?_⟩
  obtain ⟨v, F, fo, fr, ft, ev, _⟩ := R.focus hg
  unfold valP at ev
  split at ev
  · rename_i w e1
    exact ⟨w, e1, q w (by unfold valP; rw [e1]; cases w <;> rfl)⟩
  · cases ev
/-- e[k], e a list's place -/
theorem getP_app {env : Env} {k : Nat} {o : O} (h : getP env i (π ++ [k]) = some o) : ∃ s xs, getP env i π = some (.node s xs) ∧ nth s xs k = some o := by
  unfold getP at h ⊢
  cases e : slotO env i with
  | none => rw [e] at h; cases h
  | some o0 =>
    rw [e] at h
    have go : ∀ (π : List Nat) (t : O), t.get (π ++ [k]) = some o → ∃ s xs, t.get π = some (.node s xs) ∧ nth s xs k = some o := by
      intro π
      induction π with
      | nil =>
        intro t h
        cases t with
        | dat _ => cases h
        | any => cases h
        | node s xs =>
          have h' : (match nth s xs k with | some o => o.get [] | none => none) = some o := h
          cases ex : nth s xs k with
          | none => rw [ex] at h'; cases h'
          | some t' =>
            rw [ex] at h'
            refine ⟨s, xs, rfl, ?_⟩
            rw [ex]
            cases t' <;> exact h'
      | cons j π ih =>
        intro t h
        cases t with
        | dat _ => cases h
        | any => cases h
        | node s xs =>
          have h' : (match nth s xs j with | some o => o.get (π ++ [k]) | none => none) = some o := h
          cases ex : nth s xs j with
          | none => rw [ex] at h'; cases h'
          | some t' =>
            rw [ex] at h'
            obtain ⟨s', xs', a, b⟩ := ih t' h'
            refine ⟨s', xs', ?_, b⟩
            show (match nth s xs j with | some o => o.get π | none => none) = _
            rw [ex]
            exact a
    exact go π o0 h
theorem follow_app {H : Hp} {v w : V} {k : Nat} {p : Addr} {h : HO} (e1 : follow H w π = some (.ref p)) (e2 : H p = some h) (e3 : kidAt h k = some v) : follow H w (π ++ [k]) = some v := by
  induction π generalizing w with
  | nil =>
    have : w = .ref p := by cases w <;> exact Option.some.inj e1
    subst this
    show (match H p with | some h => _ | none => none) = some v
    rw [e2]
    show (match kidAt h k with | some v => follow H v [] | none => none) = some v
    rw [e3]
    cases v <;> rfl
  | cons j π ih =>
    cases w with
    | ref q =>
      have e1' : (match H q with | some h => (match kidAt h j with | some v => follow H v π | none => none) | none => none) = some (V.ref p) := e1
      show (match H q with | some h => (match kidAt h j with | some v => follow H v (π ++ [k]) | none => none) | none => none) = some v
      cases a : H q with
      | none => rw [a] at e1'; cases e1'
      | some h1 =>
        rw [a] at e1'
        simp only at e1' ⊢
        cases b : kidAt h1 j with
        | none => rw [b] at e1'; cases e1'
        | some ws =>
          rw [b] at e1'
          exact ih e1'
    | _ => cases e1
theorem valP_app {H : Hp} {σ : L2.St} {v : V} {k : Nat} {p : Addr} {h : HO} (e1 : valP H σ i π = some (.ref p)) (e2 : H p = some h) (e3 : kidAt h k = some v) : valP H σ i (π ++ [k]) = some v := by
  unfold valP at e1 ⊢
  cases a : σ[i]? with
  | none => rw [a] at e1; cases e1
  | some x =>
    cases x with
    | none => rw [a] at e1; cases e1
    | some w => rw [a] at e1; exact follow_app e1 e2 e3
theorem dp_ix {e : Expr} {k : Nat} {j : Nat} {pos pos' : Pos} (he : DPl X c e i π) (hs : PlainIx (.Constant (.int (k : Int)) j pos')) (hk : k < 1000 := by decide) : DPl X c (.Subscript e (.Constant (.int (k : Int)) j pos') pos) i (π ++ [k]) := by
  refine ⟨(pe_ix ix_seq he.run pe_int hs).weak fun σ H Q ⟨env, ts, us, o, R, hg, q⟩ => ?_⟩
  obtain ⟨s, xs, hg', hx⟩ := getP_app hg
  refine ⟨env, ts, us, _, R, hg', fun v hv => ?_⟩
  obtain ⟨p, vs, h, F, fx, ft, ev, hp, ho, f, rx, _, _⟩ := R.mut hg'
  have : v = .ref p := Option.some.inj (hv.symm.trans ev)
  subst this
  have hl := rx.length
  show rIx X.K (.ref p) (.int (k : Int)) H Q
  cases s with
  | lst =>
    have ho' : h = .lst vs := ho
    subst ho'
    have hx' : xs[k]? = some o := hx
    have hk' : k < vs.length := hl ▸ (List.getElem?_eq_some_iff.mp hx').1
    have hu : vs[k]? = some vs[k] := List.getElem?_eq_getElem hk'
    exact .inl ⟨p, vs, k, _, rfl, rfl, SqL.of hp, atI_nat hu, q _ (valP_app ev hp hu)⟩
  | tup =>
    have ho' : h = .tup vs := ho
    subst ho'
    have hx' : xs[k]? = some o := hx
    have hk' : k < vs.length := hl ▸ (List.getElem?_eq_some_iff.mp hx').1
    have hu : vs[k]? = some vs[k] := List.getElem?_eq_getElem hk'
    exact .inr (.inl ⟨p, vs, k, _, rfl, rfl, SqT.of hp, atI_nat hu, q _ (valP_app ev hp hu)⟩)
  | dic ks => cases hx
  | ins C fs =>
    have hx' : (match (if 1000 ≤ k then some (k - 1000) else none) with | some j => xs[j]? | none => none) = some o := hx
    rw [if_neg (by omega)] at hx'
    cases hx'
/-- frozen data at a place -/
def kLeaf (i : Nat) (π : List Nat) : EF := fun env => match getP env i π with
  | some (.dat d) => .ok (.dat d) env
  | _ => .no
theorem de_leaf {e : Expr} (h : DPl X c e i π) : DE X c true e (kLeaf i π) := by
  refine ⟨fun _ env o env' h => ?_, h.run.weak fun σ H Q ⟨env, ts, us, R, q⟩ => ?_⟩
  · unfold kLeaf at h
    split at h <;> first | (cases h; rfl) | cases h
  · unfold kLeaf at q
    split at q
    · rename_i d e
      obtain ⟨v, ev, R'⟩ := R.leaf e
      refine ⟨env, ts, us, _, R, e, fun w hw => ?_⟩
      have : w = v := Option.some.inj (hw.symm.trans ev)
      subst this
      exact q w H R' fun _ => Ex.refl H
    · exact q.elim
/-- e[k] = value, e a list at a place -/
def kSetP (i : Nat) (π : List Nat) (k : Nat) (f : EF) : Env → RS := fun env => (f env).st fun o e => match getP e i π with
  | some (.node .lst xs) => if k < xs.length then .nx (putP e i π (.node .lst (xs.set k o))) else .no
  | _ => .no
theorem ROs.setTop {K : Frag} {F H : Hp} {o : O} {v : V} {f1 : List Addr} (r : RO K F H o v f1) : ∀ {xs : List O} {vs : List V} {fx : List Addr} (k : Nat), ROs K F H xs vs fx → ∃ fx', ROs K F H (xs.set k o) (vs.set k v) fx' ∧ Sub fx' (f1 ++ fx)
  | [], _, _, k, h => by
    cases h
    exact ⟨[], .nil, Sub.right _ _⟩
  | x :: xs, _, _, 0, h => by
    cases h with
    | cons h1 h2 => exact ⟨_, .cons r h2, (Sub.refl f1).app (Sub.right _ _)⟩
  | x :: xs, _, _, k + 1, h => by
    cases h with
    | cons h1 h2 =>
      rename_i f2 vs f3
      obtain ⟨fx', r', s⟩ := ROs.setTop r k h2
      exact ⟨_, .cons h1 r', ((Sub.refl _).app s).trans (Sub.swap _ _ _)⟩
theorem ds_setP {p1 : Bool} {e a : Expr} {k j : Nat} {f : EF} {pos pos2 pos' : Pos} (h1 : DE X c p1 a f) (he : DPl X c e i π) (hs : swapsWithSole [.Subscript e (.Constant (.int (k : Int)) j pos') pos2] a pos.line X.env = pure false := by rfl) (hw : swappedStores [.Subscript e (.Constant (.int (k : Int)) j pos') pos2] a X.env = pure none := by rfl)
    (h3 : (assignEach [.Subscript e (.Constant (.int (k : Int)) j pos') pos2] X.env).map (·.2) = [assign (.Subscript e (.Constant (.int (k : Int)) j pos') pos2) X.env] := by rfl)
    (ha : ∀ v, assign (.Subscript e (.Constant (.int (k : Int)) j pos') pos2) X.env v = (do
      let ov ← holding [v] (eval e X.env)
      let iv ← holding [v, ov] (eval (.Constant (.int (k : Int)) j pos') X.env)
      standAt pos2
      holding [v, ov, iv] (setItem ov iv v)
      release [v, ov, iv] []) := by intro _; rfl) : DS X c (.Assign [.Subscript e (.Constant (.int (k : Int)) j pos') pos2] a pos) (kSetP i π k f) := by
  refine ⟨(ps_asg h1.run (pg_sub he.run pe_int set_list ha) hs hw h3).weak fun D σ H ⟨env, ts, us, R, q⟩ => ⟨env, ts, us, R, ?_⟩⟩
  unfold kSetP RE.st at q
  cases e1 : f env with
  | no => rw [e1] at q; exact q.elim
  | err x en => rw [e1] at q; exact fun H' R' => q σ H' R'
  | ok o en =>
    rw [e1] at q
    simp only at q
    intro v H1 R1 _
    split at q
    · rename_i xs eg
      split at q
      · rename_i hk
        refine ⟨en, o :: ts, v :: us, _, R1, eg, fun w hw' => ?_⟩
        obtain ⟨p, vs, h, F, fx, ft, ev, hp, ho, f, rx, rt, put⟩ := R1.mut eg
        have : w = .ref p := Option.some.inj (hw'.symm.trans ev)
        subst this
        have ho' : h = .lst vs := ho
        subst ho'
        have hl := rx.length
        refine ⟨p, vs, k, k, rfl, rfl, hp, ?_, ?_⟩
        · unfold ixN
          rw [if_pos (by omega), if_pos (by omega)]
          simp
        · cases rt with
          | cons ro rt =>
            rename_i f1 f2
            obtain ⟨fx', r', sb⟩ := ROs.setTop ro k rx
            refine q σ _ (put .lst _ _ _ fx' ts us f2 rfl r' rt ?_)
            refine (sb.app (.refl f2)).trans ?_
            rw [List.append_assoc]
            exact Sub.swap f1 fx f2
      · exact q.elim
    · exact q.elim
/-- (a, b, ..) = a list -/
def hTupL (n : Nat) (hs : List O → Env → Option Env) : GF := fun o env => match o with
  | .dat (.list ds) => if ds.length = n then hs (ds.map .dat) env else none
  | .node .lst os => if os.length = n then hs os env else none
  | _ => none
theorem Rp.kidsL {env : Env} {σ : L2.St} {ts : List O} {us : List V} {H : Hp} {os : List O} {v : V} (R : Rp c env σ (.node .lst os :: ts) (v :: us) H) : ∃ a vs, v = .ref a ∧ SqL c.K H a vs ∧ os.length = vs.length ∧ Rp c env σ (os ++ ts) (vs ++ us) H := by
  obtain ⟨F, fe, ft, f, e, t, nd, nw⟩ := R
  cases t with
  | cons r t =>
    cases r with
    | node h1 h2 h3 h4 =>
      rename_i f2 p vs h fp
      have h3' : h = .lst vs := h3
      subst h3'
      refine ⟨_, _, rfl, SqL.of h2, h4.length, Rp.of f e (h4.app t) (all := fe ++ (p :: fp ++ f2)) ?_ nd nw⟩
      refine (Sub.refl fe).app ?_
      exact ⟨[p], by
        show (fp ++ f2 ++ [p]).Perm (p :: (fp ++ f2))
        exact List.perm_append_comm⟩
theorem Rp.itemsL {env : Env} {σ : L2.St} {ts : List O} {us : List V} {H : Hp} {ds : List PyData} {v : V} (R : Rp c env σ (.dat (.list ds) :: ts) (v :: us) H) : ∃ a vs, v = .ref a ∧ SqL c.K H a vs ∧ ds.length = vs.length ∧ Rp c env σ (ds.map .dat ++ ts) (vs ++ us) H := by
  obtain ⟨F, fe, ft, f, e, t, nd, nw⟩ := R
  cases t with
  | cons r t =>
    cases r with
    | dat r =>
      cases r with
      | lst hs ha =>
        have ro := dpAll_os (F := F) (H := H) ha
        exact ⟨_, _, rfl, SqL.of (f.sub _ _ hs), by have := ro.length; simpa using this, F, fe, _, f, e, ro.app t, by simpa using nd, by simpa using nw⟩
theorem dg_lst {gs : List Nat} {es : List Expr} {k : Nat} {pos : Pos} {hs : List O → Env → Option Env} {n : Nat} (hc : X.calm = true) (hK : X.K = c.K) (h : DGs X c gs es hs)
    (hn : (assignEach es X.env).length = n := by rfl) (hst : (assignEach es X.env).findIdx? (·.1) = none := by rfl) : DG X c gs (.Tuple es k pos) (hTupL n hs) := by
  refine ⟨(pg_unl hc h.run hn hst).weak fun v σ H Q ⟨env, ts, us, o, R, q⟩ => ?_⟩
  unfold hTupL at q
  split at q
  · split at q
    · rename_i ds hl
      obtain ⟨a, vs, e, hs', hl', R'⟩ := R.itemsL
      exact ⟨a, vs, e, hK ▸ hs', hl' ▸ hl, env, ts, us, _, R', by simpa using hl', q⟩
    · exact q.elim
  · split at q
    · rename_i os hl
      obtain ⟨a, vs, e, hs', hl', R'⟩ := R.kidsL
      exact ⟨a, vs, e, hK ▸ hs', hl' ▸ hl, env, ts, us, _, R', hl', q⟩
    · exact q.elim
  · exact q.elim
end
end DP
end

section
namespace DP
open PySem PySem.Spec PyProof.Rows L2
/-! ### sorting tuples of ints -/
def lexI : List Int → List Int → Bool
  | [], [] => false
  | [], _ :: _ => true
  | _ :: _, [] => false
  | x :: xs, y :: ys => if x = y then lexI xs ys else decide (x < y)
theorem lexI_irr : ∀ x : List Int, lexI x x = false
  | [] => rfl
  | x :: xs => by rw [lexI, if_pos rfl]; exact lexI_irr xs
theorem lexI_asym : ∀ x y : List Int, lexI x y = true → lexI y x = false
  | [], [], h => by cases h
  | [], _ :: _, _ => rfl
  | _ :: _, [], h => by cases h
  | x :: xs, y :: ys, h => by
    rw [lexI] at h ⊢
    by_cases e : x = y
    · rw [if_pos e] at h
      rw [if_pos e.symm]
      exact lexI_asym xs ys h
    · rw [if_neg e] at h
      rw [if_neg (fun z => e z.symm)]
      have := of_decide_eq_true h
      exact decide_eq_false (by omega)
theorem lexI_eq : ∀ x y : List Int, lexI x y = false → lexI y x = false → x = y
  | [], [], _, _ => rfl
  | [], _ :: _, h, _ => by cases h
  | _ :: _, [], _, h => by cases h
  | x :: xs, y :: ys, h, h' => by
    rw [lexI] at h h'
    by_cases e : x = y
    · rw [if_pos e] at h
      rw [if_pos e.symm] at h'
      rw [e, lexI_eq xs ys h h']
    · rw [if_neg e] at h
      rw [if_neg (fun z => e z.symm)] at h'
      have a := of_decide_eq_false h
      have b := of_decide_eq_false h'
      omega
theorem lexI_tr : ∀ x y z : List Int, lexI y x = false → lexI z y = false → lexI z x = false
  | [], [], z, _, h => h
  | [], _ :: _, [], _, h => by cases h
  | [], _ :: _, _ :: _, _, _ => rfl
  | _ :: _, [], _, h, _ => by cases h
  | _ :: _, _ :: _, [], _, h => by cases h
  | x :: xs, y :: ys, z :: zs, h, h' => by
    rw [lexI] at h h' ⊢
    by_cases e : y = x
    · subst e
      rw [if_pos rfl] at h
      by_cases e2 : z = y
      · subst e2
        rw [if_pos rfl] at h' ⊢
        exact lexI_tr xs ys zs h h'
      · rw [if_neg e2] at h' ⊢
        exact h'
    · rw [if_neg e] at h
      have a := of_decide_eq_false h
      by_cases e2 : z = y
      · subst e2
        rw [if_neg e]
        exact h
      · rw [if_neg e2] at h'
        have b := of_decide_eq_false h'
        rw [if_neg (by omega)]
        exact decide_eq_false (by omega)
theorem swoI {α : Type} (k : α → List Int) : SrtO.Swo fun u v => lexI (k u) (k v) := ⟨fun _ _ => lexI_asym _ _, fun _ _ _ => lexI_tr _ _ _⟩
section
variable {prog : Program} {w : World} {A : Around} {E : Value → Shared → Prop} {s : Shared}
open SrtO PyProof.Rows Srt
def IsIts (h : Heap) (v : Value) (ns : List Int) : Prop := ∃ a o its n, v = .ref a ∧ h.get? a = some o ∧ o.cls = .type "tuple" ∧ o.data = .seq its n ∧ IntsAre its.toList ns
theorem IsIts.keeps {h h' : Heap} {v : Value} {ns : List Int} (p : IsIts h v ns) (k : ∀ b o, h.get? b = some o → o.cls = .type "tuple" → h'.get? b = some o) : IsIts h' v ns := by
  obtain ⟨a, o, t, n, e, ho, hc, hd, hi⟩ := p
  exact ⟨a, o, t, n, e, k _ _ ho hc, hc, hd, hi⟩
theorem lex_kat {Q : Bool → Shared → Prop} (b : Bool) : ∀ {xs ys : List Value} {ns ms : List Int} {fin : Bool} (i : Nat), IntsAre xs ns → IntsAre ys ms → fin = decide (ns.length < ms.length) → Q (lexI ns ms) s →
    PySem.W.KatLex prog w A b fin Q (xs.zip ys) i s
  | _, _, _, _, _, _, .nil, .nil, f, q => by
    subst f
    exact PySem.W.kat_nil q
  | _, _, _, _, _, _, .nil, .cons _ _ _, f, q => by
    subst f
    refine PySem.W.kat_nil ?_
    simpa [lexI] using q
  | _, _, _, _, _, _, .cons _ _ _, .nil, f, q => by
    subst f
    refine PySem.W.kat_nil ?_
    simpa [lexI] using q
  | _, _, _, _, _, i, .cons x t hx, .cons y u hy, f, q => by
    refine PySem.W.kat_cons (SeqAt.EqAt.int_int x t y u prog w _ _ ?_)
    refine PySem.W.kat_go (fun e1 => ?_) (fun e1 => ?_)
    · have ex : x = y := by simpa using e1
      refine PySem.W.kat_yes (lex_kat b (i + 1) hx hy (by rw [f]; simp) ?_)
      rw [lexI, if_pos ex] at q
      exact q
    · have ex : ¬ x = y := by simpa using e1
      refine PySem.W.kat_no (TS.oneLt_ints _ ?_)
      rw [lexI, if_neg ex] at q
      exact q
theorem its_cmp {vs : List Value} {k : Value → List Int} (hp : ∀ v ∈ vs, IsIts s.heap v (k v)) : Cmp prog w A s (tuples' true) (fun p => p.1 ∈ vs) (lt2 fun v u => lexI (k v) (k u)) := by
  intro p q hm hm'
  obtain ⟨a, o, t, n, e, ho, hc, hd, hi⟩ := hp _ hm
  obtain ⟨a', o', t', n', e', ho', hc', hd', hi'⟩ := hp _ hm'
  show wpAny (model prog w) A (keyLt' (tuples' true) p.1 q.1) (fun r s' => s' = s ∧ r = lexI (k p.1) (k q.1)) (fun _ _ => False) s
  generalize k p.1 = x at hi ⊢
  generalize k q.1 = y at hi' ⊢
  rw [e, e']
  refine PySem.W.kat_lt ho hd ho' hd' (lex_kat true 0 hi hi' ?_ ⟨rfl, rfl⟩)
  have l1 := hi.length
  have l2 := hi'.length
  rw [← l1, ← l2, Array.length_toList, Array.length_toList]
theorem firstsI {h : Heap} : ∀ {vs : List Value}, (∀ v ∈ vs, ∃ x ns, IsIts h v (x :: ns)) → ∃ fs : List Value, PySem.W.KatTups h vs fs ∧ fs.length = vs.length ∧ ∀ f ∈ fs, ∃ x t, f = Value.int x t
  | [], _ => ⟨[], PySem.W.KatTups.nil, rfl, fun _ hm => by simp at hm⟩
  | v :: vs, hp => by
    obtain ⟨fs, h1, h2, h3⟩ := firstsI (vs := vs) fun v' hm => hp v' (List.mem_cons_of_mem _ hm)
    obtain ⟨x, ns, a, o, its, n, e, ho, hc, hd, hi⟩ := hp v (List.mem_cons_self ..)
    subst e
    obtain ⟨t, z, ez⟩ : ∃ t z, its.toList = .int x t :: z := by
      cases q : its.toList with
      | nil => rw [q] at hi; cases hi
      | cons y z => rw [q] at hi; cases hi; exact ⟨_, _, rfl⟩
    have e0 : its[0]? = some (.int x t) := by rw [← Array.getElem?_toList, ez]; rfl
    refine ⟨.int x t :: fs, PySem.W.KatTups.cons ho hc hd e0 h1, by rw [List.length_cons, List.length_cons, h2], fun f hm => ?_⟩
    rcases List.mem_cons.mp hm with rfl | hm
    · exact ⟨x, t, rfl⟩
    · exact h3 f hm
theorem its_sortable {a : Addr} {vs : List Value} {k : Value → List Int} (h0 : 0 < vs.length) (hp : ∀ v ∈ vs, IsIts s.heap v (k v)) (hk : ∀ v ∈ vs, k v ≠ []) (ha : ∀ o, s.heap.get? a = some o → o.cls ≠ .type "tuple") : SortableO prog w A s a vs fun v u => lexI (k v) (k u) := by
  intro h' keep
  have hp' : ∀ v ∈ vs, IsIts h' v (k v) := fun v hm => (hp v hm).keeps fun b o e c => keep b o (fun z => by subst z; exact ha o e c) e
  obtain ⟨fs, h1, h2, h3⟩ := firstsI fun v hm => by
    cases e : k v with
    | nil => exact absurd e (hk v hm)
    | cons x ns => exact ⟨x, ns, e ▸ hp' v hm⟩
  refine ⟨tuples' true, fun Q E hq => ?_, its_cmp hp'⟩
  refine PySem.W.kat_kind (T := .type "int") h1 (by omega) (fun f hm => ?_) (by rfl) ?_
  · obtain ⟨x, t, rfl⟩ := h3 f hm
    exact PySem.W.Looks.now
  · have e : (Value.type "int" != Value.type "tuple") = true := by first | decide +kernel | rfl | decide
    rw [e]
    exact hq
theorem sorted_its {l : Addr} {vs : List Value} {k : Value → List Int} {Q : Value → Shared → Prop} (hl : s.heap.IsList l vs.toArray) (hz : vs.length ≤ sizeLine) (hp : ∀ v ∈ vs, IsIts s.heap v (k v)) (hk : ∀ v ∈ vs, k v ≠ [])
    (h : ∀ (h' : Heap) (d : Addr) (out : List Value), Srtd (fun v u => lexI (k v) (k u)) out → Stb (fun v u => lexI (k v) (k u)) out vs → (∀ b o, s.heap.get? b = some o → h'.get? b = some o) → s.heap.objs.size ≤ d → (∃ n, h'.get? d = some (seqObj "list" out.toArray n)) → Q (.ref d) { s with heap := h' }) :
    wpAny (model prog w) A (call (.builtin "sorted") [.ref l]) Q E s := by
  refine sorted_ord (swoI k) hl hz (fun h2 h₁ a ha kk => ?_) fun out hs hb => ?_
  · refine its_sortable (s := { s with heap := h₁ }) (by omega) (fun v hm => (hp v hm).keeps fun b o e _ => (kk b o e).2) hk fun o e => ?_
    have e' : some o = some (seqObj "list" vs.toArray 0) := e.symm.trans ha
    cases e'
    intro c
    exact absurd (Value.type.inj c) (by decide)
  · exact h _ _ out hs hb (fun b o e => sortedAll_old e) (Nat.le_succ _) (sortedAll_at s.heap vs out.toArray)
end
/-! the rule -/
def rSortedI (K : Frag) : List V → Hp → VK → Prop := fun vs H Q => ∃ (a : Addr) (xs : List V) (ks : List (List Int)), vs = [V.ref a] ∧ SqL K H a xs ∧ xs.length = ks.length ∧ (∀ (i : Nat) (x : V) (n : List Int), xs[i]? = some x → ks[i]? = some n → n ≠ [] ∧ ∃ t, x = V.ref t ∧ SqT K H t (n.map V.int)) ∧
  ∀ (k : V → List Int) ys p, xs.map k = ks → SrtO.Srtd (fun u v => lexI (k u) (k v)) ys → SrtO.Stb (fun u v => lexI (k u) (k v)) ys xs → H p = none → Q (.ref p) (upd H p (.lst ys))
theorem map_int_inj : ∀ {a b : List Int}, a.map V.int = b.map V.int → a = b
  | [], [], _ => rfl
  | [], _ :: _, h => by cases h
  | _ :: _, [], h => by cases h
  | x :: a, y :: b, h => by
    have h1 := List.cons.inj h
    rw [V.int.inj h1.1, map_int_inj h1.2]
open Classical in
noncomputable def keyV (K : Frag) (H : Hp) (x : V) : List Int := if h : ∃ n : List Int, ∃ t, x = V.ref t ∧ SqT K H t (n.map V.int) then choose h else []
theorem call_sortedI {X : Cx} : CallR X (.builtin "sorted") (rSortedI X.K) := by
  intro pins s σ H vs us Q I r h
  obtain ⟨a, xs, ks, rfl, hs, hl, hx, q⟩ := h
  have hk : ∀ (i : Nat) (x : V) (n : List Int), xs[i]? = some x → ks[i]? = some n → keyV X.K H x = n := fun i x n h1 h2 => by
    obtain ⟨_, t, e, ht⟩ := hx i x n h1 h2
    have ex : ∃ n : List Int, ∃ t, x = V.ref t ∧ SqT X.K H t (n.map V.int) := ⟨n, t, e, ht⟩
    unfold keyV
    rw [dif_pos ex]
    obtain ⟨t', e', ht'⟩ := Classical.choose_spec ex
    rw [e] at e'
    cases e'
    exact map_int_inj (I.tuple_inj ht' ht)
  have hm : xs.map (keyV X.K H) = ks := by
    refine List.ext_getElem (by simpa using hl) fun i h1 h2 => ?_
    rw [List.getElem_map]
    have h1' : i < xs.length := by simpa using h1
    exact hk i _ _ (List.getElem?_eq_getElem h1') (List.getElem?_eq_getElem h2)
  have hin : ∀ x ∈ xs, keyV X.K H x ≠ [] ∧ ∃ t, x = V.ref t ∧ SqT X.K H t ((keyV X.K H x).map V.int) := fun x m => by
    obtain ⟨i, hi, e⟩ := List.mem_iff_getElem.mp m
    have g1 : xs[i]? = some x := by rw [List.getElem?_eq_getElem hi, e]
    have g2 : ks[i]? = some (ks[i]'(hl ▸ hi)) := List.getElem?_eq_getElem (hl ▸ hi)
    have z := hk i x _ g1 g2
    rw [z]
    exact hx i x _ g1 g2
  obtain ⟨its, rv, hL, hz⟩ := I.list hs
  obtain ⟨u, rfl, ru⟩ := vals1 r
  obtain rfl : u = Value.ref a := ru
  obtain ⟨e1, e2⟩ := refs_back rv fun x m => by
    obtain ⟨_, t, e, _⟩ := hin x m
    exact ⟨t, e⟩
  have bk : ∀ v ∈ its, backV v ∈ xs := fun v hv => by rw [e1]; exact List.mem_map.mpr ⟨_, hv, rfl⟩
  refine sorted_its (k := fun u => keyV X.K H (backV u)) hL.isList (by rw [← rv.length]; exact hz) (fun v hv => ?_) (fun v hv => (hin _ (bk v hv)).1) fun h' d out h1 h2 kp hd hn => ?_
  · obtain ⟨t, rfl⟩ := e2 v hv
    obtain ⟨_, t', e, ht⟩ := hin _ (bk _ hv)
    cases e
    obtain ⟨its2, r2, p2, _⟩ := I.tuple ht
    obtain ⟨o, ho, hc, n, hd⟩ := p2
    exact ⟨t, o, its2.toArray, n, rfl, ho, hc, hd, by simpa using Vals.ints r2⟩
  · have h3 : ∀ u ∈ out, ∃ a, u = Value.ref a := fun u hu => e2 u (h2.perm.mem_iff.mp hu)
    obtain ⟨n, hn⟩ := hn
    have hb : SrtO.Stb (fun u v => lexI (keyV X.K H u) (keyV X.K H v)) (out.map backV) xs := by
      rw [e1]
      exact SrtO.Stb.map (swoI (keyV X.K H)) backV h2
    refine ⟨.ref d, upd H d (.lst (out.map backV)), I.laid (t' := s.toks) kp hd ⟨?_, out, n, vals_back h3, hn⟩, rfl, q _ _ d hm (SrtO.srtd_map h1) hb (I.hok.fresh hd)⟩
    rw [hb.len]
    exact hz
/-! sorting as data -/
def insI (x : List Int) : List (List Int) → List (List Int)
  | [] => [x]
  | y :: l => if lexI y x = true then y :: insI x l else x :: y :: l
def isortI : List (List Int) → List (List Int)
  | [] => []
  | x :: l => insI x (isortI l)
theorem insI_perm (x : List Int) : ∀ l, (insI x l).Perm (x :: l)
  | [] => List.Perm.refl _
  | y :: l => by
    unfold insI
    split
    · exact ((insI_perm x l).cons y).trans (List.Perm.swap x y l)
    · exact List.Perm.refl _
theorem isortI_perm : ∀ l, (isortI l).Perm l
  | [] => List.Perm.refl _
  | x :: l => (insI_perm x _).trans ((isortI_perm l).cons x)
theorem insI_srt (x : List Int) : ∀ {l}, SrtO.Srtd lexI l → SrtO.Srtd lexI (insI x l)
  | [], _ => List.pairwise_singleton _ _
  | y :: l, h => by
    obtain ⟨h1, h2⟩ := List.pairwise_cons.mp h
    unfold insI
    split
    · rename_i z
      refine List.pairwise_cons.mpr ⟨fun u hu => ?_, insI_srt x h2⟩
      rcases List.mem_cons.mp ((insI_perm x l).mem_iff.mp hu) with e | hu
      · rw [e]; exact lexI_asym _ _ z
      · exact h1 u hu
    · rename_i z
      have z' : lexI y x = false := by simpa using z
      refine List.pairwise_cons.mpr ⟨fun u hu => ?_, h⟩
      rcases List.mem_cons.mp hu with e | hu
      · rw [e]; exact z'
      · exact lexI_tr x y u z' (h1 u hu)
theorem isortI_srt : ∀ l, SrtO.Srtd lexI (isortI l)
  | [] => List.Pairwise.nil
  | x :: l => insI_srt x (isortI_srt l)
theorem stb_perm {l m : List (List Int)} (p : l.Perm m) : SrtO.Stb lexI l m := by
  refine ⟨p, fun x => ?_⟩
  have e : ∀ k : List (List Int), k.filter (SrtO.eqv lexI x) = List.replicate (k.filter (SrtO.eqv lexI x)).length x := fun k =>
    List.eq_replicate_of_mem fun u hu => by
      obtain ⟨a, b⟩ := SrtO.eqv_iff.mp (List.mem_filter.mp hu).2
      exact lexI_eq _ _ b a
  rw [e l, e m, (p.filter _).length_eq]
theorem srt_uniq {l m : List (List Int)} (s : SrtO.Srtd lexI l) (p : l.Perm m) : l = isortI m :=
  SrtO.stb_uniq (swoI id) s (isortI_srt m) (stb_perm (p.trans (isortI_perm m).symm))
def rowsI : List PyData → Option (List (List Int))
  | [] => some []
  | .tuple ds :: r => match intsD ds, rowsI r with
    | some (x :: n), some ks => some ((x :: n) :: ks)
    | _, _ => none
  | _ :: _ => none
def rowD (n : List Int) : PyData := .tuple (n.map .int)
theorem rowsI_eq : ∀ {ds : List PyData} {ks : List (List Int)}, rowsI ds = some ks → ds = ks.map rowD ∧ ∀ n ∈ ks, n ≠ []
  | [], ks, h => by cases h; exact ⟨rfl, fun _ h => nomatch h⟩
  | d :: ds, ks, h => by
    cases d with
    | tuple ts =>
      unfold rowsI at h
      split at h
      · rename_i x n ks' e1 e2
        cases h
        obtain ⟨h1, h2⟩ := rowsI_eq e2
        rw [intsD_eq e1, h1]
        refine ⟨rfl, fun z hz => ?_⟩
        rcases List.mem_cons.mp hz with e | hz
        · rw [e]; exact fun q => nomatch q
        · exact h2 z hz
      · cases h
    | _ => cases h
def gSort : List PyData → Option O
  | [.list ds] => (rowsI ds).map fun ks => .node .lst (((isortI ks).map rowD).map .dat)
  | _ => none
theorem drs_map {K : Frag} {F : Hp} {f : V → PyData} : ∀ {ys : List V}, (∀ y ∈ ys, DR K F y (f y)) → DRs K F ys (ys.map f)
  | [], _ => .nil
  | y :: ys, h => .cons (h y List.mem_cons_self) (drs_map fun z hz => h z (List.mem_cons_of_mem _ hz))
theorem drs_ints {K : Frag} {F : Hp} : ∀ {vs : List V} {n : List Int}, DRs K F vs (n.map .int) → vs = n.map .int
  | _, [], h => by cases h; rfl
  | _, x :: n, h => by
    cases h with
    | cons r t => cases r; rw [drs_ints t]; rfl
theorem o_sort {K : Frag} : Opn K (rSortedI K) gSort := by
  intro F H xs ds z s r g Q q
  unfold gSort at g
  split at g
  · rename_i ds
    cases e : rowsI ds with
    | none => rw [e] at g; cases g
    | some ks =>
      rw [e] at g
      cases g
      obtain ⟨rfl, ne⟩ := rowsI_eq e
      cases r with
      | cons r t =>
        cases t
        cases r with
        | lst h1 h2 =>
          rename_i a ws
          have at1 : ∀ (i : Nat) (x : V) (n : List Int), ws[i]? = some x → ks[i]? = some n → n ≠ [] ∧ DR K F x (rowD n) ∧ ∃ t, x = V.ref t ∧ SqT K F t (n.map V.int) := fun i x n g1 g2 => by
            obtain ⟨v, e1, rv⟩ := h2.get (i := i) (d := rowD n) (by rw [List.getElem?_map, g2]; rfl)
            rw [g1] at e1
            cases e1
            refine ⟨ne n (List.mem_of_getElem? g2), rv, ?_⟩
            cases rv with
            | tup g3 g4 => exact ⟨_, rfl, drs_ints g4 ▸ g3⟩
          have hl : ws.length = ks.length := by have := h2.length; simpa using this
          refine ⟨a, ws, ks, rfl, s.l (SqL.of h1), hl, fun i x n g1 g2 => ?_, fun k ys p hk h3 h4 hp => ?_⟩
          · obtain ⟨n1, _, t, e1, e2⟩ := at1 i x n g1 g2
            exact ⟨n1, t, e1, s.t e2⟩
          · have e1 : ys.map k = isortI ks := by
              refine srt_uniq (SrtO.srtd_map h3) ?_
              rw [← hk]
              exact h4.perm.map k
            have q : Res K F H [] (.node .lst (List.map O.dat (List.map rowD (isortI ks)))) Q := q
            rw [← e1, show List.map rowD (List.map k ys) = ys.map (fun y => rowD (k y)) from List.map_map] at q
            refine q.lst s (drs_map fun y hy => ?_) hp
            obtain ⟨i, hi, ey⟩ := List.mem_iff_getElem.mp (h4.perm.mem_iff.mp hy)
            have g1 : ws[i]? = some y := by rw [List.getElem?_eq_getElem hi, ey]
            have g2 : ks[i]? = some (k y) := by rw [← hk, List.getElem?_map, g1]; rfl
            exact (at1 i y _ g1 g2).2.1
  · cases g
/-! ### enumerate of a list -/
def lstD : PyData → Option (List PyData)
  | .list ds => some ds
  | .dict [(.list ds, .none)] => some ds
  | _ => none
def kEnum (g : Env → RE (List O)) : IF := fun env => (g env).bind fun os e1 => match os with
  | [o] => match o.toD with
    | some d => match lstD d with
      | some ds => .ok (enumD 0 ds) e1
      | none => .no
    | none => .no
  | _ => .no
section
variable {X : Cx} {c : Fc} {p1 p2 : Bool}
theorem lstD_at {F : Hp} {d : PyData} {ds : List PyData} {v : V} (h : DR c.K F v d) (hs : lstD d = some ds) : ∃ a vs, v = .ref a ∧ SqL c.K F a vs ∧ DRs c.K F vs ds := by
  cases h with
  | lst h1 h2 => cases hs; exact ⟨_, _, rfl, SqL.of h1, h2⟩
  | ro h1 h2 => cases hs; exact ⟨_, _, rfl, h1, h2⟩
  | _ => cases hs
theorem walk_enumD {ds : List PyData} {d : PyData} {a : Addr} (hs : lstD d = some ds) : Walk c (enumD 0 ds) [.dat d] [.ref a] (Ite c.K a) := by
  have look : ∀ {env σ ts us H}, Rp c env σ ([.dat d] ++ ts) ([.ref a] ++ us) H → ∃ F vs, Fr c F H ∧ SqL c.K F a vs ∧ DRs c.K F vs ds ∧
      ∀ d' v', DRs c.K F v' d' → Rp c env σ (d'.map .dat ++ ([.dat d] ++ ts)) (v' ++ ([.ref a] ++ us)) H := fun {env σ ts us H} R => by
    obtain ⟨F, fe, ft, f, e, t, nd, nw⟩ := R
    have t0 := t
    cases t with
    | cons r t =>
      cases r with
      | dat r =>
        obtain ⟨a', vs, e1, h1, g1⟩ := lstD_at r hs
        cases e1
        exact ⟨F, vs, f, h1, g1, fun d' v' r' => ⟨F, fe, _, f, e, (dpAll_os r').app t0, by simpa using nd, by simpa using nw⟩⟩
  refine ⟨fun i dd hd env σ ts us H R => ?_, fun env σ ts us H R => ?_⟩
  · obtain ⟨F, vs, f, h1, g1, k⟩ := look R
    obtain ⟨x, i1, rfl⟩ := enumD_get hd
    obtain ⟨v1, j1, r1⟩ := g1.get i1
    refine ⟨⟨vs, v1, f.sub.l h1, j1⟩, fun q H' ⟨T, x', e1, hT, e2, k1⟩ => ?_⟩
    have a1 := k1 vs (f.sub.l h1)
    rw [j1] at a1
    cases a1
    subst e1 e2
    rw [Nat.zero_add]
    exact Rp.newTup (k [.int (i : Nat), x] [.int (i : Nat), v1] (.cons (.int _) (.cons r1 .nil))) rfl hT
  · obtain ⟨F, vs, f, h1, g1, k⟩ := look R
    have l1 := g1.length
    rw [enumD_len]
    exact ⟨vs, f.sub.l h1, by omega⟩
theorem di_enum {e : Expr} {p pos tpos : Pos} {elts : List Expr} {kk : Nat} {g : Env → RE (List O)} {ios : List (Option Nat)} (hK : X.K = c.K) (hg : Gl X "enumerate") (hm : X.mg "enumerate" = none) (ha : DA X c p1 ios [e] g)
    (hs : starEach [e] X.env = [(false, eval e X.env)] := by rfl) : DI X c (.Tuple elts kk tpos) (.Call (.Name "enumerate" p) [e] [] pos) (kEnum g) := by
  refine ⟨(pi_enum hg hm ha.run hs).weak fun σ H R ⟨env, ts, us, Rr, q⟩ => ⟨env, ts, us, Rr, ?_⟩⟩
  unfold kEnum RE.bind at q
  cases e1 : g env with
  | no => rw [e1] at q; exact q.elim
  | err x en => rw [e1] at q; exact q
  | ok os en =>
    rw [e1] at q
    simp only at q
    intro vs H' R' hl hli _ _
    split at q
    · rename_i o
      split at q
      · rename_i d ed
        split at q
        · rename_i ds es
          match vs, hl with
          | [v], _ =>
            have R2 : Rp c en σ (o :: ts) (v :: us) H' := R'
            have R3 := R2.freeze ed
            obtain ⟨F, f, r, k⟩ := Rp.dat R3
            obtain ⟨a, ws, rfl, h1, g1⟩ := lstD_at r es
            rw [hK]
            exact ⟨_, _, rfl, f.sub.l h1, q _ H' [.dat d] [.ref a] R3 rfl (walk_enumD es)⟩
        · exact q.elim
      · exact q.elim
    · exact q.elim
end
/-! ### append and extend at a place -/
def kApp (i : Nat) (π : List Nat) (g : Env → RE (List O)) : EF := fun env => match getP env i π with
  | some (.node .lst _) => (g env).bind fun os e => match os, getP e i π with
    | [o], some (.node .lst xs) => if xs.length < 1000000 then .ok (.dat .none) (putP e i π (.node .lst (xs ++ [o]))) else .no
    | _, _ => .no
  | _ => .no
theorem ROs.appTop {K : Frag} {F H : Hp} {o : O} {v : V} {f1 : List Addr} (r : RO K F H o v f1) : ∀ {xs : List O} {vs : List V} {fx : List Addr}, ROs K F H xs vs fx → ∃ fx', ROs K F H (xs ++ [o]) (vs ++ [v]) fx' ∧ Sub fx' (f1 ++ fx)
  | [], _, _, h => by
    cases h
    exact ⟨_, .cons r .nil, Sub.refl _⟩
  | x :: xs, _, _, h => by
    cases h with
    | cons h1 h2 =>
      obtain ⟨fx', r', s⟩ := ROs.appTop r h2
      exact ⟨_, .cons h1 r', ((Sub.refl _).app s).trans (Sub.swap _ _ _)⟩
section
variable {X : Cx} {c : Fc} {p1 : Bool} {i : Nat} {π : List Nat}
theorem de_app {e a : Expr} {g : Env → RE (List O)} {apos cpos : Pos} {ios : List (Option Nat)} (hK : X.K = c.K) (he : DPl X c e i []) (ha : DA X c p1 ios [a] g)
    (hbase : attributeBase e "append" X.env (eval e X.env) = eval e X.env := by rfl)
    (hfew : ((backTo cpos (starEach [a] X.env)).all (fun x => !x.1) && (backToKw cpos (keywordEach [] X.env)).all (fun x => x.1.isSome)
      && decide (([a] : List Expr).length + ([] : List Keyword).length + (if ([] : List Keyword).isEmpty then 0 else 1) < 30)) = true := by rfl)
    (hline : (apos.endLine == cpos.line) = true := by rfl) (hs : starEach [a] X.env = (false, eval a X.env) :: starEach [] X.env := by rfl) (hplain : (backTo cpos (starEach [] X.env)).any (·.1) = false := by rfl) :
    DE X c false (.Call (.Attribute e "append" apos) [a] [] cpos) (kApp i [] g) := by
  refine ⟨fun h => (by cases h), (pe_bm PySem.F.plainAttrs_list PySem.F.slot_list_append PySem.F.type_list_append mt_append he.run ha.run hbase hfew hline hs hplain).weak fun σ H Q ⟨env, ts, us, R, q⟩ => ?_⟩
  unfold kApp at q
  split at q
  · rename_i xs0 eg0
    refine ⟨env, ts, us, _, R, eg0, fun w hw => ?_⟩
    obtain ⟨p, vs0, h, F, fx, ft, ev, hp, ho, f, rx, rt, put⟩ := R.mut eg0
    have : w = .ref p := Option.some.inj (hw.symm.trans ev)
    subst this
    have ho' : h = .lst vs0 := ho
    subst ho'
    refine ⟨Or.inl ⟨rfl, vs0, by rw [hK]; exact SqL.of hp⟩, env, ts, us, R, ?_⟩
    unfold RE.bind at q
    cases e1 : g env with
    | no => rw [e1] at q; exact q.elim
    | err x en => rw [e1] at q; exact fun H' R' => q H' R'
    | ok os en =>
      rw [e1] at q
      simp only at q
      intro vs H1 R1 hl _ _ _
      split at q
      · rename_i o xs eg
        match vs, hl with
        | [v], _ =>
          split at q
          · rename_i hk
            have R1' : Rp c en σ (o :: ts) (v :: us) H1 := R1
            obtain ⟨p', vs1, h1, F1, fx1, ft1, ev1, hp1, ho1, f1, rx1, rt1, put1⟩ := R1'.mut eg
            have vp : valP H σ i [] = valP H1 σ i [] := by
              unfold valP
              split <;> rfl
            rw [vp, ev1] at ev
            cases ev
            have ho1' : h1 = .lst vs1 := ho1
            subst ho1'
            have hl1 := rx1.length
            refine ⟨p, vs1, v, rfl, rfl, hp1, Nat.lt_of_lt_of_le (by omega) (sz_ok (n := 1000000) (Nat.le_refl _)), ?_⟩
            cases rt1 with
            | cons ro rt1 =>
              rename_i f11 f2
              obtain ⟨fx', r', sb⟩ := ROs.appTop ro rx1
              refine q .non _ (Rp.push (put1 .lst _ _ _ fx' ts us f2 rfl r' rt1 ?_) fun F _ => .non) (fun h => by cases h)
              refine (sb.app (.refl f2)).trans ?_
              rw [List.append_assoc]
              exact Sub.swap f11 fx1 f2
          · exact q.elim
      · exact q.elim
  · exact q.elim
end
theorem DE.np {X : Cx} {c : Fc} {p : Bool} {e : Expr} {f : EF} (h : DE X c p e f) : DE X c false e f := by
  refine ⟨fun z => (by cases z), h.run.weak fun σ H Q ⟨env, ts, us, R, q⟩ => ⟨env, ts, us, R, ?_⟩⟩
  cases e1 : f env with
  | no => rw [e1] at q; exact q.elim
  | err x en => rw [e1] at q; exact q
  | ok o en => rw [e1] at q; exact fun v H' R' _ => q v H' R' fun z => (by cases z)
theorem de_ifxF {X : Cx} {c : Fc} {p1 p2 p3 : Bool} {t a b : Expr} {g1 : Env → RE Bool} {f1 f2 : EF} {pos : Pos} (ht : DT X c p1 t g1) (h1 : DE X c p2 a f1) (h2 : DE X c p3 b f2) : DE X c (p1 && false) (.IfExp t a b pos) (kIte g1 f1 f2) := de_ifx ht h1.np h2.np
end DP
end

section
namespace DP
open PySem PySem.Spec PyProof.Rows L2
theorem un65 {A : Around} {k : Nat} (r : Room k A) : A.units + 65 < cLine := by have := r.un; omega
/-- the law's script -/
abbrev scriptO (ns : List Int) : O := .dat (.dict [(.list (ns.map .int), .none)])
theorem walk_den {l : PySem.W.OpenLaw} {n k : Nat} {q : Program} {loose : List Str} {XP : (Str → Option Value) → Heap → Prop} {YP : World → Heap → Prop} {d : DefRec} {K : Params → PySem.W.Frag} {x : Str} {io : List Bool} {den : List O → RF}
    (hn : l.most = some n) (hn2 : n ≤ sizeLine) (hdf : d.params.defaults = []) (hr : Room k callerA)
    (hY : ∀ (w : World) (h : Heap), YP w h → (K w.params).In h)
    (F : ∀ (w : World) (mg : Str → Option Value) (fa : Addr) (h : Heap), (K w.params).In h → h.Ns mainGlobals mg → mg d.name = some (.ref fa) →
      ∃ (fd : FuncData) (cls : Str → Value), (∀ (s : Shared) (u : Value), BindsTo s fd ⟨[u], []⟩ [(x, u)]) ∧
        ∀ base : Heap, (K w.params).In base → base.Ns mainGlobals mg → FnOk l.prog w (K w.params) mg base (L2.CX l.prog w) k fa fd [x] (spD (K w.params) cls io den))
    (T : ∀ ns : List Int, ns.length ≤ n → den [scriptO ns] = .ok (.dat (.bool true)) []) (hio : io.length = 1) :
    PySem.W.WalkO q loose XP YP l.row.toRowW d [] (fun f vs => PySem.call f vs) := by
  refine L2.walk_of (l := l) (n := n) (k := k) (x := x) (CX := fun w => L2.CX l.prog w) (sp := fun w => fun vs H Q E => ∃ (a : Addr) (ns : List Int), vs = [.ref a] ∧ SqL (K w.params) H a (ns.map V.int) ∧ ns.length ≤ n ∧ ∀ H', Q (.bl true) H') hn hn2 hdf hr hY (fun w mg fa h X G hm => ?_) (fun w H a ns hl _ hS => ⟨a, ns, rfl, hS, hl, fun _ => rfl⟩) fun w H s e s' h => ?_
  · obtain ⟨fd, cls, hb, hF⟩ := F w mg fa h X G hm
    refine ⟨fd, hb, fun base X' G' => (hF base X' G').imp fun vs H Q E ⟨a, ns, e, hS, hl, q⟩ => ?_⟩
    subst e
    refine ⟨H, [scriptO ns], [], Ex.refl H, .cons (f1 := []) (.dat (.ro hS (DRs.ofInts ns))) .nil, List.nodup_nil, by rw [hio]; rfl, ?_⟩
    rw [T ns hl]
    intro v H' F' fr fo af r _ _ _
    cases r with
    | dat r => cases r; exact q H'
  · obtain ⟨_, _, _, _, _, _, _, _, _, _, _, _, z⟩ := h
    exact z
theorem cls_ex {α : Type} {cls : α → Str → Value} {P : FuncData → (Str → Value) → Prop} (h : ∃ (fd : FuncData) (A : α), P fd (cls A)) : ∃ (fd : FuncData) (c : Str → Value), P fd c := by
  obtain ⟨fd, A, h⟩ := h
  exact ⟨fd, cls A, h⟩
end DP
end

section
namespace DP.G
open PySem PySem.Spec PyProof.Rows L2
def c_LOWS : PyData := .tuple [.int 1, .int 1, .int 0, .int 0, .int 0, .int 0]
def c_HIGHS : PyData := .tuple [.int 4, .int 30, .int 3, .int 30, .int 10, .int 30]
def c_MAX_READER : PyData := .int 999
def c_MAX_EVENTS : PyData := .int 600
def c_MAX_DAYS : PyData := .int 1000
def c_WORDS : PyData := .tuple [.str "borrow", .str "return", .str "renew", .str "wait", .str "leave"]
def c_MOST_DAYS : PyData := .int 1000000000000
def c_MAX_PLACE : PyData := .int 20
def c_STRANGER : PyData := .int 500
def c_ITEMS : PyData := .int 6
def c_MOST_RULES : PyData := .int 6
/-- is_integer: value, low, high -/
def g_is_integer : Env → RS := kRt (kAndV (k1 (gIsi "int") (kVar 0)) (kAndV (kNotV (k1 (gIsi "bool") (kVar 0))) (kCh gLe gLe (kVar 1) (kVar 0) (kVar 2))))
def d_is_integer : List O → RF := fun os => finF [false, false, false] (g_is_integer (startE [false, false, false] os 3))
/-- is_reader: value -/
def g_is_reader : Env → RS := kRt (kCall [false, false, false] [none, none, none] d_is_integer (kCons (kVar 0) (kCons (kD (.int 0)) (kCons (kD c_MAX_READER) (kNil)))))
def d_is_reader : List O → RF := fun os => finF [false] (g_is_reader (startE [false] os 1))
/-- is_rules: value, item, low, high -/
def g_is_rules : Env → RS := kSq (kIf (kOr (kNot (kB (k1 (gIsi "tuple") (kVar 0)))) (kB (k2 gNe (kn gLen (kCons (kVar 0) (kNil))) (kD (.int 6))))) (kRt (kD (.bool false))) (kNx)) (kRt (kn gAll (kCons (kLc [1, 2, 3] (kZip3 (kCons (kVar 0) (kCons (kD c_LOWS) (kCons (kD c_HIGHS) (kNil))))) (hTup 3 (hCons (hName 1) (hCons (hName 2) (hCons (hName 3) (hNil))))) (kYes) (kCall [false, false, false] [none, none, none] d_is_integer (kCons (kVar 1) (kCons (kVar 2) (kCons (kVar 3) (kNil)))))) (kNil))))
def d_is_rules : List O → RF := fun os => finF [false] (g_is_rules (startE [false] os 4))
/-- is_event: value -/
def g_is_event : Env → RS := kSq (kIf (kOr (kNot (kB (k1 (gIsi "tuple") (kVar 0)))) (kOr (kB (k2 gNe (kn gLen (kCons (kVar 0) (kNil))) (kD (.int 2)))) (kNot (kB (k1 (gIsi "str") (k2 gIx (kVar 0) (kD (.int 0)))))))) (kRt (kD (.bool false))) (kNx)) (kSq (kIf (kB (k2 gEq (k2 gIx (kVar 0) (kD (.int 0))) (kD (.str "days")))) (kRt (kCall [false, false, false] [none, none, none] d_is_integer (kCons (k2 gIx (kVar 0) (kD (.int 1))) (kCons (kD (.int 1)) (kCons (kD c_MAX_DAYS) (kNil)))))) (kNx)) (kRt (kAndV (k2 gIn (k2 gIx (kVar 0) (kD (.int 0))) (kD c_WORDS)) (kCall [false] [none] d_is_reader (kCons (k2 gIx (kVar 0) (kD (.int 1))) (kNil))))))
def d_is_event : List O → RF := fun os => finF [false] (g_is_event (startE [false] os 1))
/-- is_history: value, event -/
def g_is_history : Env → RS := kRt (kAndV (k1 (gIsi "tuple") (kVar 0)) (kAndV (k2 gLe (kn gLen (kCons (kVar 0) (kNil))) (kD c_MAX_EVENTS)) (kn gAll (kCons (kLc [1] (kIt (kVar 0)) (hName 1) (kYes) (kCall [false] [none] d_is_event (kCons (kVar 1) (kNil)))) (kNil)))))
def d_is_history : List O → RF := fun os => finF [false] (g_is_history (startE [false] os 2))
/-- _law_source: script, k, cell, primes, seed -/
def g__law_source : Env → RS := kSq (kAs (kD (.int 0)) (hName 2)) (kSq (kIf (kB (k2 gLt (kVar 1) (kn gLen (kCons (kVar 0) (kNil))))) (kAs (k2 gIx (kVar 0) (kVar 1)) (hName 2)) (kNx)) (kSq (kAs (kMk .lst (kCons (kD (.int 2147483647)) (kCons (kD (.int 2147483629)) (kCons (kD (.int 2147483587)) (kCons (kD (.int 2147483579)) (kCons (kD (.int 2147483563)) (kCons (kD (.int 2147483549)) (kCons (kD (.int 2147483543)) (kCons (kD (.int 2147483497)) (kNil)))))))))) (hName 3)) (kSq (kAs (k2 gMod (k2 gMul (k2 gAdd (k2 gMod (kVar 2) (kD (.int 2147483489))) (kD (.int 1))) (k2 gAdd (kD (.int 48271)) (k2 gMul (kD (.int 2)) (kVar 1)))) (kD (.int 2147483489))) (hName 4)) (kSq (kAs (k2 gAdd (k2 gAdd (k2 gMod (k2 gMul (kVar 4) (kVar 4)) (kD (.int 2147483477))) (kVar 1)) (kD (.int 1))) (hName 4)) (kSq (kIf (kB (k2 gGe (kVar 2) (k2 gPow (kD (.int 10)) (kD (.int 18))))) (kRt (kMk .lst (kCons (kVar 2) (kCons (kVar 4) (kCons (k2 gIx (kFrz 3) (k2 gMod (kVar 1) (kD (.int 8)))) (kNil)))))) (kNx)) (kRt (kMk .lst (kCons (kD (.int 0)) (kCons (kVar 4) (kCons (k2 gIx (kFrz 3) (k2 gMod (kVar 1) (kD (.int 8)))) (kNil)))))))))))
def d__law_source : List O → RF := fun os => finF [false, false] (g__law_source (startE [false, false] os 5))
/-- _law_pick: source, size, drawn -/
def g__law_pick : Env → RS := kSq (kIf (kB (k2 gGt (kLeaf 0 ([] ++ [0])) (kD (.int 0)))) (kSq (kAs (k2 gMod (kLeaf 0 ([] ++ [0])) (kVar 1)) (hName 2)) (kSq (kSetP 0 [] 0 (k2 gDiv (kLeaf 0 ([] ++ [0])) (kVar 1))) (kRt (kVar 2)))) (kNx)) (kSq (kSetP 0 [] 1 (k2 gAdd (k2 gMod (k2 gMul (kLeaf 0 ([] ++ [1])) (kD (.int 48271))) (kLeaf 0 ([] ++ [2]))) (kD (.int 1)))) (kRt (k2 gMod (k2 gDiv (k2 gMod (k2 gMul (kLeaf 0 ([] ++ [1])) (kLeaf 0 ([] ++ [1]))) (kD (.int 2147483423))) (kD (.int 7))) (kVar 1))))
def d__law_pick : List O → RF := fun os => finF [true, false] (g__law_pick (startE [true, false] os 3))
/-- _law_is_bool: actual, expected -/
def g__law_is_bool : Env → RS := kRt (kAndV (k1 (gIsi "bool") (kVar 0)) (k2 gEq (kVar 0) (kVar 1)))
def d__law_is_bool : List O → RF := fun os => finF [false, false] (g__law_is_bool (startE [false, false] os 2))
/-- _law_is_integer: value, low, high -/
def g__law_is_integer : Env → RS := kRt (kAndV (k1 (gIsi "int") (kVar 0)) (kAndV (kNotV (k1 (gIsi "bool") (kVar 0))) (kAndV (k2 gLe (kVar 1) (kVar 0)) (k2 gLe (kVar 0) (kVar 2)))))
def d__law_is_integer : List O → RF := fun os => finF [false, false, false] (g__law_is_integer (startE [false, false, false] os 3))
/-- _law_rules: source, copies_so, loan_so, window_so, ready_so, rest_so -/
def g__law_rules : Env → RS := kSq (kAs (k2 gAdd (kD (.int 1)) (kCall [true, false] [some 0, none] d__law_pick (kCons (kMark 0) (kCons (kD (.int 4)) (kNil))))) (hName 1)) (kSq (kAs (k2 gAdd (kD (.int 1)) (kCall [true, false] [some 0, none] d__law_pick (kCons (kMark 0) (kCons (k2 gIx (kMk .lst (kCons (kD (.int 4)) (kCons (kD (.int 30)) (kNil)))) (kCall [true, false] [some 0, none] d__law_pick (kCons (kMark 0) (kCons (kD (.int 2)) (kNil))))) (kNil))))) (hName 2)) (kSq (kAs (kCall [true, false] [some 0, none] d__law_pick (kCons (kMark 0) (kCons (k2 gIx (kMk .lst (kCons (kD (.int 4)) (kCons (kD (.int 31)) (kNil)))) (kCall [true, false] [some 0, none] d__law_pick (kCons (kMark 0) (kCons (kD (.int 2)) (kNil))))) (kNil)))) (hName 3)) (kSq (kAs (kCall [true, false] [some 0, none] d__law_pick (kCons (kMark 0) (kCons (k2 gIx (kMk .lst (kCons (kD (.int 3)) (kCons (kD (.int 11)) (kNil)))) (kCall [true, false] [some 0, none] d__law_pick (kCons (kMark 0) (kCons (kD (.int 2)) (kNil))))) (kNil)))) (hName 4)) (kSq (kAs (kCall [true, false] [some 0, none] d__law_pick (kCons (kMark 0) (kCons (k2 gIx (kMk .lst (kCons (kD (.int 3)) (kCons (kD (.int 31)) (kNil)))) (kCall [true, false] [some 0, none] d__law_pick (kCons (kMark 0) (kCons (kD (.int 2)) (kNil))))) (kNil)))) (hName 5)) (kRt (kMk .tup (kCons (kVar 1) (kCons (kVar 2) (kCons (kCall [true, false] [some 0, none] d__law_pick (kCons (kMark 0) (kCons (kD (.int 4)) (kNil)))) (kCons (kVar 3) (kCons (kVar 4) (kCons (kVar 5) (kNil)))))))))))))
def d__law_rules : List O → RF := fun os => finF [true] (g__law_rules (startE [true] os 6))
/-- require_rules: value -/
def g_require_rules : Env → RS := kIf (kNot (kB (kCall [false] [none] d_is_rules (kCons (kVar 0) (kNil))))) ((fun env => .err "InvalidRules" env)) (kNx)
def d_require_rules : List O → RF := fun os => finF [false] (g_require_rules (startE [false] os 1))
/-- require_history: value -/
def g_require_history : Env → RS := kIf (kNot (kB (kCall [false] [none] d_is_history (kCons (kVar 0) (kNil))))) ((fun env => .err "InvalidHistory" env)) (kNx)
def d_require_history : List O → RF := fun os => finF [false] (g_require_history (startE [false] os 1))
/-- first_state: rules -/
def g_first_state : Env → RS := kRt (kMk .tup (kCons (kD (.int 0)) (kCons (k2 gIx (kVar 0) (kD (.int 0))) (kCons (kMk .tup (kNil)) (kCons (kMk .tup (kNil)) (kCons (kMk .tup (kNil)) (kCons (kMk .tup (kNil)) (kNil))))))))
def d_first_state : List O → RF := fun os => finF [false] (g_first_state (startE [false] os 1))
/-- without: rows, reader, row -/
def g_without : Env → RS := kRt (kn gTuple (kCons (kLc [2] (kIt (kVar 0)) (hName 2) (kB (k2 gNe (k2 gIx (kVar 2) (kD (.int 0))) (kVar 1))) (kVar 2)) (kNil)))
def d_without : List O → RF := fun os => finF [false, false] (g_without (startE [false, false] os 3))
/-- row_of: rows, reader, some, row -/
def g_row_of : Env → RS := kSq (kAs (kLc [3] (kIt (kVar 0)) (hName 3) (kB (k2 gEq (k2 gIx (kVar 3) (kD (.int 0))) (kVar 1))) (kVar 3)) (hName 2)) (kRt (kIte (kB (k2 gNe (kFrz 2) (kMk .lst (kNil)))) (k2 gIx (kFrz 2) (kD (.int 0))) (kD .none)))
def d_row_of : List O → RF := fun os => finF [false, false] (g_row_of (startE [false, false] os 4))
/-- come_back: rules, state, day, shelf, loans, ready, waiting, rests, later -/
def g_come_back : Env → RS := kSq (kAs (kVar 1) (hTup 6 (hCons (hName 2) (hCons (hName 3) (hCons (hName 4) (hCons (hName 5) (hCons (hName 6) (hCons (hName 7) (hNil))))))))) (kSq (kIf (kB (k2 gEq (kVar 6) (kMk .tup (kNil)))) (kRt (kMk .tup (kCons (kVar 2) (kCons (k2 gAdd (kVar 3) (kD (.int 1))) (kCons (kVar 4) (kCons (kVar 5) (kCons (kVar 6) (kCons (kVar 7) (kNil))))))))) (kNx)) (kSq (kAs (kn gTuple (kCons (kn gSort (kCons (k2 gAdd (kVar 5) (kMk .tup (kCons (kMk .tup (kCons (k2 gIx (kVar 6) (kD (.int 0))) (kCons (k2 gAdd (kVar 2) (k2 gIx (kVar 0) (kD (.int 4)))) (kNil)))) (kNil)))) (kNil))) (kNil))) (hName 8)) (kRt (kMk .tup (kCons (kVar 2) (kCons (kVar 3) (kCons (kVar 4) (kCons (kVar 8) (kCons (kSl (kVar 6) (kPart (kD (.int 1))) kNoPart) (kCons (kVar 7) (kNil)))))))))))
def d_come_back : List O → RF := fun os => finF [false, false] (g_come_back (startE [false, false] os 9))
/-- can_come: state, reader, day, shelf, loans, ready, waiting, rests, rest -/
def g_can_come : Env → RS := kSq (kAs (kVar 0) (hTup 6 (hCons (hName 2) (hCons (hName 3) (hCons (hName 4) (hCons (hName 5) (hCons (hName 6) (hCons (hName 7) (hNil))))))))) (kSq (kAs (kCall [false, false] [none, none] d_row_of (kCons (kVar 7) (kCons (kVar 1) (kNil)))) (hName 8)) (kRt (kAndV (k2 gIs (kCall [false, false] [none, none] d_row_of (kCons (kVar 4) (kCons (kVar 1) (kNil)))) (kD .none)) (kOrV (k2 gIs (kVar 8) (kD .none)) (k2 gLe (k2 gIx (kVar 8) (kD (.int 1))) (kVar 2))))))
def d_can_come : List O → RF := fun os => finF [false, false] (g_can_come (startE [false, false] os 9))
/-- borrowed: rules, state, reader, day, shelf, loans, ready, waiting, rests, later -/
def g_borrowed : Env → RS := kSq (kAs (kVar 1) (hTup 6 (hCons (hName 3) (hCons (hName 4) (hCons (hName 5) (hCons (hName 6) (hCons (hName 7) (hCons (hName 8) (hNil))))))))) (kSq (kIf (kNot (kB (kCall [false, false] [none, none] d_can_come (kCons (kVar 1) (kCons (kVar 2) (kNil)))))) (kRt (kD .none)) (kNx)) (kSq (kAs (kn gTuple (kCons (kn gSort (kCons (k2 gAdd (kVar 5) (kMk .tup (kCons (kMk .tup (kCons (kVar 2) (kCons (k2 gAdd (kVar 3) (k2 gIx (kVar 0) (kD (.int 1)))) (kCons (kD (.int 0)) (kNil))))) (kNil)))) (kNil))) (kNil))) (hName 9)) (kSq (kIf (kB (k2 gIsNot (kCall [false, false] [none, none] d_row_of (kCons (kVar 6) (kCons (kVar 2) (kNil)))) (kD .none))) (kRt (kMk .tup (kCons (kVar 3) (kCons (kVar 4) (kCons (kVar 9) (kCons (kCall [false, false] [none, none] d_without (kCons (kVar 6) (kCons (kVar 2) (kNil)))) (kCons (kVar 7) (kCons (kVar 8) (kNil))))))))) (kNx)) (kRt (kIte (kB (k2 gGt (kVar 4) (kD (.int 0)))) (kMk .tup (kCons (kVar 3) (kCons (k2 gSub (kVar 4) (kD (.int 1))) (kCons (kVar 9) (kCons (kVar 6) (kCons (kVar 7) (kCons (kVar 8) (kNil)))))))) (kD .none))))))
def d_borrowed : List O → RF := fun os => finF [false, false, false] (g_borrowed (startE [false, false, false] os 10))
/-- returned: rules, state, reader, day, shelf, loans, ready, waiting, rests, later -/
def g_returned : Env → RS := kSq (kAs (kVar 1) (hTup 6 (hCons (hName 3) (hCons (hName 4) (hCons (hName 5) (hCons (hName 6) (hCons (hName 7) (hCons (hName 8) (hNil))))))))) (kSq (kIf (kB (k2 gIs (kCall [false, false] [none, none] d_row_of (kCons (kVar 5) (kCons (kVar 2) (kNil)))) (kD .none))) (kRt (kD .none)) (kNx)) (kSq (kAs (k2 gAdd (kCall [false, false] [none, none] d_without (kCons (kVar 8) (kCons (kVar 2) (kNil)))) (kMk .tup (kCons (kMk .tup (kCons (kVar 2) (kCons (k2 gAdd (kVar 3) (k2 gIx (kVar 0) (kD (.int 5)))) (kNil)))) (kNil)))) (hName 9)) (kRt (kCall [false, false] [none, none] d_come_back (kCons (kVar 0) (kCons (kMk .tup (kCons (kVar 3) (kCons (kVar 4) (kCons (kCall [false, false] [none, none] d_without (kCons (kVar 5) (kCons (kVar 2) (kNil)))) (kCons (kVar 6) (kCons (kVar 7) (kCons (kVar 9) (kNil)))))))) (kNil)))))))
def d_returned : List O → RF := fun os => finF [false, false, false] (g_returned (startE [false, false, false] os 10))
/-- renewed: rules, state, reader, day, shelf, loans, ready, waiting, rests, loan, row -/
def g_renewed : Env → RS := kSq (kAs (kVar 1) (hTup 6 (hCons (hName 3) (hCons (hName 4) (hCons (hName 5) (hCons (hName 6) (hCons (hName 7) (hCons (hName 8) (hNil))))))))) (kSq (kAs (kCall [false, false] [none, none] d_row_of (kCons (kVar 5) (kCons (kVar 2) (kNil)))) (hName 9)) (kSq (kIf (kOr (kB (k2 gIs (kVar 9) (kD .none))) (kOr (kB (k2 gNe (kVar 7) (kMk .tup (kNil)))) (kOr (kB (k2 gGe (k2 gIx (kVar 9) (kD (.int 2))) (k2 gIx (kVar 0) (kD (.int 2))))) (kB (k2 gGt (k2 gSub (k2 gIx (kVar 9) (kD (.int 1))) (kVar 3)) (k2 gIx (kVar 0) (kD (.int 3)))))))) (kRt (kD .none)) (kNx)) (kSq (kAs (kMk .tup (kCons (kVar 2) (kCons (k2 gAdd (k2 gIx (kVar 9) (kD (.int 1))) (k2 gIx (kVar 0) (kD (.int 1)))) (kCons (k2 gAdd (k2 gIx (kVar 9) (kD (.int 2))) (kD (.int 1))) (kNil))))) (hName 10)) (kRt (kMk .tup (kCons (kVar 3) (kCons (kVar 4) (kCons (kn gTuple (kCons (kn gSort (kCons (k2 gAdd (kCall [false, false] [none, none] d_without (kCons (kVar 5) (kCons (kVar 2) (kNil)))) (kMk .tup (kCons (kVar 10) (kNil)))) (kNil))) (kNil))) (kCons (kVar 6) (kCons (kVar 7) (kCons (kVar 8) (kNil))))))))))))
def d_renewed : List O → RF := fun os => finF [false, false, false] (g_renewed (startE [false, false, false] os 11))
/-- waited: rules, state, reader, day, shelf, loans, ready, waiting, rests, later -/
def g_waited : Env → RS := kSq (kAs (kVar 1) (hTup 6 (hCons (hName 3) (hCons (hName 4) (hCons (hName 5) (hCons (hName 6) (hCons (hName 7) (hCons (hName 8) (hNil))))))))) (kSq (kIf (kOr (kNot (kB (kCall [false, false] [none, none] d_can_come (kCons (kVar 1) (kCons (kVar 2) (kNil)))))) (kOr (kB (k2 gIn (kVar 2) (kVar 7))) (kB (k2 gIsNot (kCall [false, false] [none, none] d_row_of (kCons (kVar 6) (kCons (kVar 2) (kNil)))) (kD .none))))) (kRt (kD .none)) (kNx)) (kSq (kAs (kMk .tup (kCons (kVar 3) (kCons (kVar 4) (kCons (kVar 5) (kCons (kVar 6) (kCons (k2 gAdd (kVar 7) (kMk .tup (kCons (kVar 2) (kNil)))) (kCons (kVar 8) (kNil)))))))) (hName 9)) (kSq (kIf (kB (k2 gGt (kVar 4) (kD (.int 0)))) (kRt (kCall [false, false] [none, none] d_come_back (kCons (kVar 0) (kCons (kMk .tup (kCons (kVar 3) (kCons (k2 gSub (kVar 4) (kD (.int 1))) (kCons (kVar 5) (kCons (kVar 6) (kCons (k2 gAdd (kVar 7) (kMk .tup (kCons (kVar 2) (kNil)))) (kCons (kVar 8) (kNil)))))))) (kNil))))) (kNx)) (kRt (kVar 9)))))
def d_waited : List O → RF := fun os => finF [false, false, false] (g_waited (startE [false, false, false] os 10))
/-- left: rules, state, reader, day, shelf, loans, ready, waiting, rests, one -/
def g_left : Env → RS := kSq (kAs (kVar 1) (hTup 6 (hCons (hName 3) (hCons (hName 4) (hCons (hName 5) (hCons (hName 6) (hCons (hName 7) (hCons (hName 8) (hNil))))))))) (kSq (kIf (kB (k2 gIn (kVar 2) (kVar 7))) (kRt (kMk .tup (kCons (kVar 3) (kCons (kVar 4) (kCons (kVar 5) (kCons (kVar 6) (kCons (kn gTuple (kCons (kLc [9] (kIt (kVar 7)) (hName 9) (kB (k2 gNe (kVar 9) (kVar 2))) (kVar 9)) (kNil))) (kCons (kVar 8) (kNil))))))))) (kNx)) (kSq (kIf (kB (k2 gIs (kCall [false, false] [none, none] d_row_of (kCons (kVar 6) (kCons (kVar 2) (kNil)))) (kD .none))) (kRt (kD .none)) (kNx)) (kRt (kCall [false, false] [none, none] d_come_back (kCons (kVar 0) (kCons (kMk .tup (kCons (kVar 3) (kCons (kVar 4) (kCons (kVar 5) (kCons (kCall [false, false] [none, none] d_without (kCons (kVar 6) (kCons (kVar 2) (kNil)))) (kCons (kVar 7) (kCons (kVar 8) (kNil)))))))) (kNil)))))))
def d_left : List O → RF := fun os => finF [false, false, false] (g_left (startE [false, false, false] os 10))
/-- next_day: rules, state, day, shelf, loans, ready, waiting, rests, over, row -/
def l_next_day_0 : Env → RS := kAs (kCall [false, false] [none, none] d_come_back (kCons (kVar 0) (kCons (kVar 1) (kNil)))) (hName 1)
def g_next_day : Env → RS := kSq (kAs (kVar 1) (hTup 6 (hCons (hName 2) (hCons (hName 3) (hCons (hName 4) (hCons (hName 5) (hCons (hName 6) (hCons (hName 7) (hNil))))))))) (kSq (kIf (kB (kn gAny (kCons (kLc [9] (kIt (kVar 4)) (hName 9) (kYes) (k2 gLe (k2 gIx (kVar 9) (kD (.int 1))) (kVar 2))) (kNil)))) (kRt (kD .none)) (kNx)) (kSq (kAs (kLc [9] (kIt (kVar 5)) (hName 9) (kB (k2 gLe (k2 gIx (kVar 9) (kD (.int 1))) (kVar 2))) (kVar 9)) (hName 8)) (kSq (kAs (kMk .tup (kCons (k2 gAdd (kVar 2) (kD (.int 1))) (kCons (kVar 3) (kCons (kVar 4) (kCons (kn gTuple (kCons (kLc [9] (kIt (kVar 5)) (hName 9) (kB (k2 gGt (k2 gIx (kVar 9) (kD (.int 1))) (kVar 2))) (kVar 9)) (kNil))) (kCons (kVar 6) (kCons (kVar 7) (kNil)))))))) (hName 1)) (kSq (kFor (kIt (kFrz 8)) (hName 9) l_next_day_0) (kRt (kVar 1))))))
def d_next_day : List O → RF := fun os => finF [false, false] (g_next_day (startE [false, false] os 10))
/-- passed: rules, state, days, turn -/
def l_passed_0 : Env → RS := kSq (kAs (kCall [false, false] [none, none] d_next_day (kCons (kVar 0) (kCons (kVar 1) (kNil)))) (hName 1)) (kIf (kB (k2 gIs (kVar 1) (kD .none))) (kRt (kD .none)) (kNx))
def g_passed : Env → RS := kSq (kFor (kRng1 (kCons (kVar 2) (kNil))) (hName 3) l_passed_0) (kRt (kVar 1))
def d_passed : List O → RF := fun os => finF [false, false, false] (g_passed (startE [false, false, false] os 4))
/-- next_state: rules, state, event, word, value -/
def g_next_state : Env → RS := kSq (kAs (kVar 2) (hTup 2 (hCons (hName 3) (hCons (hName 4) (hNil))))) (kSq (kIf (kB (k2 gEq (kVar 3) (kD (.str "borrow")))) (kRt (kCall [false, false, false] [none, none, none] d_borrowed (kCons (kVar 0) (kCons (kVar 1) (kCons (kVar 4) (kNil)))))) (kNx)) (kSq (kIf (kB (k2 gEq (kVar 3) (kD (.str "return")))) (kRt (kCall [false, false, false] [none, none, none] d_returned (kCons (kVar 0) (kCons (kVar 1) (kCons (kVar 4) (kNil)))))) (kNx)) (kSq (kIf (kB (k2 gEq (kVar 3) (kD (.str "renew")))) (kRt (kCall [false, false, false] [none, none, none] d_renewed (kCons (kVar 0) (kCons (kVar 1) (kCons (kVar 4) (kNil)))))) (kNx)) (kSq (kIf (kB (k2 gEq (kVar 3) (kD (.str "wait")))) (kRt (kCall [false, false, false] [none, none, none] d_waited (kCons (kVar 0) (kCons (kVar 1) (kCons (kVar 4) (kNil)))))) (kNx)) (kRt (kIte (kB (k2 gEq (kVar 3) (kD (.str "leave")))) (kCall [false, false, false] [none, none, none] d_left (kCons (kVar 0) (kCons (kVar 1) (kCons (kVar 4) (kNil))))) (kCall [false, false, false] [none, none, none] d_passed (kCons (kVar 0) (kCons (kVar 1) (kCons (kVar 4) (kNil)))))))))))
def d_next_state : List O → RF := fun os => finF [false, false, false] (g_next_state (startE [false, false, false] os 5))
/-- run_of: rules, history, state, index, event -/
def l_run_of_0 : Env → RS := kSq (kAs (kCall [false, false, false] [none, none, none] d_next_state (kCons (kVar 0) (kCons (kVar 2) (kCons (kVar 4) (kNil))))) (hName 2)) (kIf (kB (k2 gIs (kVar 2) (kD .none))) (kRt (kMk .tup (kCons (kD .none) (kCons (kVar 3) (kNil))))) (kNx))
def g_run_of : Env → RS := kSq (kAs (kCall [false] [none] d_first_state (kCons (kVar 0) (kNil))) (hName 2)) (kSq (kFor (kEnum (kCons (kVar 1) (kNil))) (hTup 2 (hCons (hName 3) (hCons (hName 4) (hNil)))) l_run_of_0) (kRt (kMk .tup (kCons (kVar 2) (kCons (kD .none) (kNil))))))
def d_run_of : List O → RF := fun os => finF [false, false] (g_run_of (startE [false, false] os 5))
/-- state_behind: rules, history, state, index -/
def g_state_behind : Env → RS := kSq (kAs (kCall [false, false] [none, none] d_run_of (kCons (kVar 0) (kCons (kVar 1) (kNil)))) (hTup 2 (hCons (hName 2) (hCons (hName 3) (hNil))))) (kSq (kIf (kB (k2 gIs (kVar 2) (kD .none))) ((fun env => .err "NotAllowed" env)) (kNx)) (kRt (kVar 2)))
def d_state_behind : List O → RF := fun os => finF [false, false] (g_state_behind (startE [false, false] os 4))
/-- stand: rules, history -/
def g_stand : Env → RS := kSq (kEx (kCall [false] [none] d_require_rules (kCons (kVar 0) (kNil)))) (kSq (kEx (kCall [false] [none] d_require_history (kCons (kVar 1) (kNil)))) (kRt (kSl (kCall [false, false] [none, none] d_state_behind (kCons (kVar 0) (kCons (kVar 1) (kNil)))) kNoPart (kPart (kD (.int 5))))))
def d_stand : List O → RF := fun os => finF [false, false] (g_stand (startE [false, false] os 2))
/-- first_refused: rules, history -/
def g_first_refused : Env → RS := kSq (kEx (kCall [false] [none] d_require_rules (kCons (kVar 0) (kNil)))) (kSq (kEx (kCall [false] [none] d_require_history (kCons (kVar 1) (kNil)))) (kRt (k2 gIx (kCall [false, false] [none, none] d_run_of (kCons (kVar 0) (kCons (kVar 1) (kNil)))) (kD (.int 1)))))
def d_first_refused : List O → RF := fun os => finF [false, false] (g_first_refused (startE [false, false] os 2))
/-- _law_told_stand: state_so, loans_so, ready_so, who -/
def g__law_told_stand : Env → RS := kSq (kAs (kn gTuple (kCons (kLc [3] (kIt (kn gSort (kCons (k2 gIx (kVar 0) (kD (.int 2))) (kNil)))) (hName 3) (kYes) (kMk .tup (kCons (kVar 3) (kCons (k2 gIx (k2 gIx (k2 gIx (kVar 0) (kD (.int 2))) (kVar 3)) (kD (.int 0))) (kCons (k2 gIx (k2 gIx (k2 gIx (kVar 0) (kD (.int 2))) (kVar 3)) (kD (.int 1))) (kNil)))))) (kNil))) (hName 1)) (kSq (kAs (kn gTuple (kCons (kLc [3] (kIt (kn gSort (kCons (k2 gIx (kVar 0) (kD (.int 3))) (kNil)))) (hName 3) (kYes) (kMk .tup (kCons (kVar 3) (kCons (k2 gIx (k2 gIx (kVar 0) (kD (.int 3))) (kVar 3)) (kNil))))) (kNil))) (hName 2)) (kRt (kMk .tup (kCons (k2 gIx (kVar 0) (kD (.int 0))) (kCons (k2 gIx (kVar 0) (kD (.int 1))) (kCons (kVar 1) (kCons (kVar 2) (kCons (kn gTuple (kCons (k2 gIx (kVar 0) (kD (.int 4))) (kNil))) (kNil)))))))))
def d__law_told_stand : List O → RF := fun os => finF [false] (g__law_told_stand (startE [false] os 4))
/-- require_number: value, low, high -/
def g_require_number : Env → RS := kIf (kNot (kB (kCall [false, false, false] [none, none, none] d_is_integer (kCons (kVar 0) (kCons (kVar 1) (kCons (kVar 2) (kNil))))))) ((fun env => .err "InvalidNumber" env)) (kNx)
def d_require_number : List O → RF := fun os => finF [false, false, false] (g_require_number (startE [false, false, false] os 3))
/-- longest_loan_of: rules -/
def g_longest_loan_of : Env → RS := kRt (k2 gMul (k2 gIx (kVar 0) (kD (.int 1))) (k2 gAdd (kD (.int 1)) (k2 gIx (kVar 0) (kD (.int 2)))))
def d_longest_loan_of : List O → RF := fun os => finF [false] (g_longest_loan_of (startE [false] os 1))
/-- most_days: rules, days, had, turn -/
def g_most_days : Env → RS := kSq (kEx (kCall [false] [none] d_require_rules (kCons (kVar 0) (kNil)))) (kSq (kEx (kCall [false, false, false] [none, none, none] d_require_number (kCons (kVar 1) (kCons (kD (.int 0)) (kCons (kD c_MOST_DAYS) (kNil)))))) (kSq (kAs (kCall [false] [none] d_longest_loan_of (kCons (kVar 0) (kNil))) (hName 2)) (kSq (kAs (k2 gAdd (kVar 2) (k2 gIx (kVar 0) (kD (.int 5)))) (hName 3)) (kRt (k2 gAdd (k2 gMul (k2 gDiv (kVar 1) (kVar 3)) (kVar 2)) (kn gMin2 (kCons (k2 gMod (kVar 1) (kVar 3)) (kCons (kVar 2) (kNil)))))))))
def d_most_days : List O → RF := fun os => finF [false, false] (g_most_days (startE [false, false] os 4))
/-- rounded_up: top, bottom -/
def g_rounded_up : Env → RS := kRt (k2 gDiv (k2 gSub (k2 gAdd (kVar 0) (kVar 1)) (kD (.int 1))) (kVar 1))
def d_rounded_up : List O → RF := fun os => finF [false, false] (g_rounded_up (startE [false, false] os 2))
/-- renewal_days: rules, count -/
def g_renewal_days : Env → RS := kRt (kLc [1] (kRng2 (kCons (kD (.int 1)) (kCons (k2 gAdd (k2 gIx (kVar 0) (kD (.int 2))) (kD (.int 1))) (kNil)))) (hName 1) (kYes) (kn gMax2 (kCons (kD (.int 0)) (kCons (k2 gSub (k2 gMul (k2 gIx (kVar 0) (kD (.int 1))) (kVar 1)) (k2 gIx (kVar 0) (kD (.int 3)))) (kNil)))))
def d_renewal_days : List O → RF := fun os => finF [false] (g_renewal_days (startE [false] os 2))
/-- best_renewals: rules, rows, index, day, most, count -/
def l_best_renewals_0 : Env → RS := kEx (kApp 1 [] (kCons (kMk .tup (kCons (k2 gSub (k2 gMul (k2 gIx (kVar 0) (kD (.int 1))) (k2 gAdd (kVar 2) (kD (.int 2)))) (kVar 3)) (kCons (k1 gNeg (k2 gAdd (kVar 2) (kD (.int 1)))) (kNil)))) (kNil)))
def g_best_renewals : Env → RS := kSq (kAs (kMk .lst (kCons (kMk .tup (kCons (k2 gIx (kVar 0) (kD (.int 1))) (kCons (kD (.int 0)) (kNil)))) (kNil))) (hName 1)) (kSq (kFor (kEnum (kCons (kCall [false] [none] d_renewal_days (kCons (kVar 0) (kNil))) (kNil))) (hTup 2 (hCons (hName 2) (hCons (hName 3) (hNil)))) l_best_renewals_0) (kSq (kAs (k2 gIx (kn gSort (kCons (kFrz 1) (kNil))) (k1 gNeg (kD (.int 1)))) (hTup 2 (hCons (hName 4) (hCons (hName 5) (hNil))))) (kRt (kMk .tup (kCons (kVar 4) (kCons (k1 gNeg (kVar 5)) (kNil)))))))
def d_best_renewals : List O → RF := fun os => finF [false] (g_best_renewals (startE [false] os 6))
/-- turn_of: rules -/
def g_turn_of : Env → RS := kRt (k2 gAdd (k2 gIx (kVar 0) (kD (.int 4))) (k2 gIx (kVar 0) (kD (.int 1))))
def d_turn_of : List O → RF := fun os => finF [false] (g_turn_of (startE [false] os 1))
/-- longest_of: rules, place, first -/
def g_longest_of : Env → RS := kSq (kAs (kn gMax2 (kCons (k2 gIx (kCall [false] [none] d_best_renewals (kCons (kVar 0) (kNil))) (kD (.int 0))) (kCons (kCall [false] [none] d_turn_of (kCons (kVar 0) (kNil))) (kNil)))) (hName 2)) (kRt (k2 gAdd (kVar 2) (k2 gMul (kCall [false] [none] d_turn_of (kCons (kVar 0) (kNil))) (k2 gSub (kCall [false, false] [none, none] d_rounded_up (kCons (kVar 1) (kCons (k2 gIx (kVar 0) (kD (.int 0))) (kNil)))) (kD (.int 1))))))
def d_longest_of : List O → RF := fun os => finF [false, false] (g_longest_of (startE [false, false] os 3))
/-- longest_wait: rules, place -/
def g_longest_wait : Env → RS := kSq (kEx (kCall [false] [none] d_require_rules (kCons (kVar 0) (kNil)))) (kSq (kEx (kCall [false, false, false] [none, none, none] d_require_number (kCons (kVar 1) (kCons (kD (.int 1)) (kCons (kD c_MAX_PLACE) (kNil)))))) (kRt (kCall [false, false] [none, none] d_longest_of (kCons (kVar 0) (kCons (kVar 1) (kNil))))))
def d_longest_wait : List O → RF := fun os => finF [false, false] (g_longest_wait (startE [false, false] os 2))
/-- days_event: days -/
def g_days_event : Env → RS := kRt (kIte (kB (k2 gGt (kVar 0) (kD (.int 0)))) (kMk .lst (kCons (kMk .tup (kCons (kD (.str "days")) (kCons (kVar 0) (kNil)))) (kNil))) (kMk .lst (kNil)))
def d_days_event : List O → RF := fun os => finF [false] (g_days_event (startE [false] os 1))
/-- renewed_start: rules, count, today, found, day, reader -/
def l_renewed_start_0 : Env → RS := kSq (kAs (k2 gAdd (k2 gAdd (kMov 3) (kCall [false] [none] d_days_event (kCons (k2 gSub (kVar 4) (kVar 2)) (kNil)))) (kLc [5] (kRng1 (kCons (k2 gIx (kVar 0) (kD (.int 0))) (kNil))) (hName 5) (kYes) (kMk .tup (kCons (kD (.str "renew")) (kCons (kVar 5) (kNil)))))) (hName 3)) (kAs (kVar 4) (hName 2))
def g_renewed_start : Env → RS := kSq (kAs (kD (.int 0)) (hName 2)) (kSq (kAs (kLc [5] (kRng1 (kCons (k2 gIx (kVar 0) (kD (.int 0))) (kNil))) (hName 5) (kYes) (kMk .tup (kCons (kD (.str "borrow")) (kCons (kVar 5) (kNil))))) (hName 3)) (kSq (kFor (kIt (kSl (kCall [false] [none] d_renewal_days (kCons (kVar 0) (kNil))) kNoPart (kPart (kVar 1)))) (hName 4) l_renewed_start_0) (kRt (kMov 3))))
def d_renewed_start : List O → RF := fun os => finF [false, false] (g_renewed_start (startE [false, false] os 6))
/-- ready_start: rules, found, reader -/
def g_ready_start : Env → RS := kSq (kAs (kLc [2] (kRng1 (kCons (k2 gIx (kVar 0) (kD (.int 0))) (kNil))) (hName 2) (kYes) (kMk .tup (kCons (kD (.str "borrow")) (kCons (kVar 2) (kNil))))) (hName 1)) (kSq (kAs (k2 gAdd (kMov 1) (kLc [2] (kRng1 (kCons (k2 gIx (kVar 0) (kD (.int 0))) (kNil))) (hName 2) (kYes) (kMk .tup (kCons (kD (.str "wait")) (kCons (k2 gAdd (kD (.int 10)) (kVar 2)) (kNil)))))) (hName 1)) (kSq (kAs (k2 gAdd (kMov 1) (kCall [false] [none] d_days_event (kCons (k2 gIx (kVar 0) (kD (.int 1))) (kNil)))) (hName 1)) (kRt (k2 gAdd (kFrz 1) (kLc [2] (kRng1 (kCons (k2 gIx (kVar 0) (kD (.int 0))) (kNil))) (hName 2) (kYes) (kMk .tup (kCons (kD (.str "return")) (kCons (kVar 2) (kNil)))))))))
def d_ready_start : List O → RF := fun os => finF [false] (g_ready_start (startE [false] os 3))
/-- _law_up: top, bottom -/
def g__law_up : Env → RS := kRt (k2 gSub (kD (.int 0)) (k2 gDiv (k2 gSub (kD (.int 0)) (kVar 0)) (kVar 1)))
def d__law_up : List O → RF := fun os => finF [false, false] (g__law_up (startE [false, false] os 2))
/-- _law_longest: rules_so, place, copies_so, loan_so, renewals_so, window_so, ready_so, rest_so, turn, first -/
def g__law_longest : Env → RS := kSq (kAs (kVar 0) (hTup 6 (hCons (hName 2) (hCons (hName 3) (hCons (hName 4) (hCons (hName 5) (hCons (hName 6) (hCons (hName 7) (hNil))))))))) (kSq (kAs (k2 gAdd (kVar 6) (kVar 3)) (hName 8)) (kSq (kAs (kn gMax2 (kCons (kVar 8) (kCons (kn gMin2 (kCons (k2 gMul (kVar 3) (k2 gAdd (kD (.int 1)) (kVar 4))) (kCons (k2 gAdd (kVar 3) (kVar 5)) (kNil)))) (kNil)))) (hName 9)) (kRt (k2 gAdd (kVar 9) (k2 gMul (kVar 8) (k2 gSub (kCall [false, false] [none, none] d__law_up (kCons (kVar 1) (kCons (kVar 2) (kNil)))) (kD (.int 1))))))))
def d__law_longest : List O → RF := fun os => finF [false, false] (g__law_longest (startE [false, false] os 10))
/-- fewest_copies: rules, place, days, some, count -/
def g_fewest_copies : Env → RS := kSq (kEx (kCall [false] [none] d_require_rules (kCons (kVar 0) (kNil)))) (kSq (kEx (kCall [false, false, false] [none, none, none] d_require_number (kCons (kVar 1) (kCons (kD (.int 1)) (kCons (kD c_MAX_PLACE) (kNil)))))) (kSq (kEx (kCall [false, false, false] [none, none, none] d_require_number (kCons (kVar 2) (kCons (kD (.int 0)) (kCons (kD c_MAX_DAYS) (kNil)))))) (kSq (kAs (kLc [4] (kRng2 (kCons (kD (.int 1)) (kCons (k2 gAdd (kVar 1) (kD (.int 1))) (kNil)))) (hName 4) (kB (k2 gLe (kCall [false, false] [none, none] d_longest_of (kCons (k2 gAdd (kMk .tup (kCons (kVar 4) (kNil))) (kSl (kVar 0) (kPart (kD (.int 1))) kNoPart)) (kCons (kVar 1) (kNil)))) (kVar 2))) (kVar 4)) (hName 3)) (kRt (kIte (kB (k2 gNe (kFrz 3) (kMk .lst (kNil)))) (k2 gIx (kFrz 3) (kD (.int 0))) (kD .none))))))
def d_fewest_copies : List O → RF := fun os => finF [false, false, false] (g_fewest_copies (startE [false, false, false] os 5))
/-- longest_loan: rules, place, days, some, loan -/
def g_longest_loan : Env → RS := kSq (kEx (kCall [false] [none] d_require_rules (kCons (kVar 0) (kNil)))) (kSq (kEx (kCall [false, false, false] [none, none, none] d_require_number (kCons (kVar 1) (kCons (kD (.int 1)) (kCons (kD c_MAX_PLACE) (kNil)))))) (kSq (kEx (kCall [false, false, false] [none, none, none] d_require_number (kCons (kVar 2) (kCons (kD (.int 0)) (kCons (kD c_MAX_DAYS) (kNil)))))) (kSq (kAs (kLc [4] (kRng2 (kCons (kD (.int 1)) (kCons (k2 gAdd (k2 gIx (kD c_HIGHS) (kD (.int 1))) (kD (.int 1))) (kNil)))) (hName 4) (kB (k2 gLe (kCall [false, false] [none, none] d_longest_of (kCons (k2 gAdd (kMk .tup (kCons (k2 gIx (kVar 0) (kD (.int 0))) (kCons (kVar 4) (kNil)))) (kSl (kVar 0) (kPart (kD (.int 2))) kNoPart)) (kCons (kVar 1) (kNil)))) (kVar 2))) (kVar 4)) (hName 3)) (kRt (kIte (kB (k2 gNe (kFrz 3) (kMk .lst (kNil)))) (k2 gIx (kFrz 3) (k1 gNeg (kD (.int 1)))) (kD .none))))))
def d_longest_loan : List O → RF := fun os => finF [false, false, false] (g_longest_loan (startE [false, false, false] os 5))
/-- wait_table: rules, place -/
def g_wait_table : Env → RS := kSq (kEx (kCall [false] [none] d_require_rules (kCons (kVar 0) (kNil)))) (kRt (kLc [1] (kRng2 (kCons (kD (.int 1)) (kCons (k2 gAdd (kD c_MAX_PLACE) (kD (.int 1))) (kNil)))) (hName 1) (kYes) (kCall [false, false] [none, none] d_longest_of (kCons (kVar 0) (kCons (kVar 1) (kNil))))))
def d_wait_table : List O → RF := fun os => finF [false] (g_wait_table (startE [false] os 2))
/-- last_place: rules, days, place -/
def g_last_place : Env → RS := kSq (kEx (kCall [false] [none] d_require_rules (kCons (kVar 0) (kNil)))) (kSq (kEx (kCall [false, false, false] [none, none, none] d_require_number (kCons (kVar 1) (kCons (kD (.int 0)) (kCons (kD c_MAX_DAYS) (kNil)))))) (kRt (kn gLen (kCons (kLc [2] (kRng2 (kCons (kD (.int 1)) (kCons (k2 gAdd (kD c_MAX_PLACE) (kD (.int 1))) (kNil)))) (hName 2) (kB (k2 gLe (kCall [false, false] [none, none] d_longest_of (kCons (kVar 0) (kCons (kVar 2) (kNil)))) (kVar 1))) (kD (.int 1))) (kNil)))))
def d_last_place : List O → RF := fun os => finF [false, false] (g_last_place (startE [false, false] os 3))
/-- whole_loan: rules -/
def g_whole_loan : Env → RS := kRt (k2 gMul (k2 gIx (kVar 0) (kD (.int 1))) (k2 gAdd (kD (.int 1)) (k2 gIx (kVar 0) (kD (.int 2)))))
def d_whole_loan : List O → RF := fun os => finF [false] (g_whole_loan (startE [false] os 1))
/-- fewest_of: rules -/
def g_fewest_of : Env → RS := kRt (k2 gAdd (k2 gIx (kVar 0) (kD (.int 0))) (kCall [false, false] [none, none] d_rounded_up (kCons (k2 gMul (k2 gIx (kVar 0) (kD (.int 0))) (k2 gIx (kVar 0) (kD (.int 5)))) (kCons (kCall [false] [none] d_whole_loan (kCons (kVar 0) (kNil))) (kNil)))))
def d_fewest_of : List O → RF := fun os => finF [false] (g_fewest_of (startE [false] os 1))
/-- fewest_friends: rules -/
def g_fewest_friends : Env → RS := kSq (kEx (kCall [false] [none] d_require_rules (kCons (kVar 0) (kNil)))) (kRt (kCall [false] [none] d_fewest_of (kCons (kVar 0) (kNil))))
def d_fewest_friends : List O → RF := fun os => finF [false] (g_fewest_friends (startE [false] os 1))
/-- turns_until: rules, days, copies, long, count, found, number, first -/
def l_turns_until_0 : Env → RS := kSq (kAs (kn gMax2 (kCons (kD (.int 0)) (kCons (k2 gDiv (k2 gMul (k2 gSub (kVar 6) (kVar 2)) (kVar 3)) (kVar 2)) (kNil)))) (hName 7)) (kSq (kEx (kApp 5 [] (kCons (kMk .tup (kCons (kVar 7) (kCons (k2 gDiv (k2 gMul (kVar 6) (kVar 3)) (kVar 2)) (kCons (k2 gMod (k2 gSub (kVar 6) (kD (.int 1))) (kVar 4)) (kNil))))) (kNil)))) (kAs (k2 gAdd (kVar 6) (kD (.int 1))) (hName 6)))
def g_turns_until : Env → RS := kSq (kAs (kMk .tup (kCons (k2 gIx (kVar 0) (kD (.int 0))) (kCons (kCall [false] [none] d_whole_loan (kCons (kVar 0) (kNil))) (kCons (kCall [false] [none] d_fewest_of (kCons (kVar 0) (kNil))) (kNil))))) (hTup 3 (hCons (hName 2) (hCons (hName 3) (hCons (hName 4) (hNil)))))) (kSq (kPar 5 6 (kCons (kMk .lst (kNil)) (kCons (kD (.int 1)) (kNil)))) (kSq (loopW (kB (k2 gLe (kn gMax2 (kCons (kD (.int 0)) (kCons (k2 gDiv (k2 gMul (k2 gSub (kVar 6) (kVar 2)) (kVar 3)) (kVar 2)) (kNil)))) (kVar 1))) l_turns_until_0 100000) (kRt (kMov 5))))
def d_turns_until : List O → RF := fun os => finF [false, false] (g_turns_until (startE [false, false] os 8))
/-- share: rules, top, bottom, one, other -/
def l_share_0 : Env → RS := kPar 3 4 (kCons (kVar 4) (kCons (k2 gMod (kVar 3) (kVar 4)) (kNil)))
def g_share : Env → RS := kSq (kEx (kCall [false] [none] d_require_rules (kCons (kVar 0) (kNil)))) (kSq (kPar 1 2 (kCons (kCall [false] [none] d_longest_loan_of (kCons (kVar 0) (kNil))) (kCons (k2 gAdd (kCall [false] [none] d_longest_loan_of (kCons (kVar 0) (kNil))) (k2 gIx (kVar 0) (kD (.int 5)))) (kNil)))) (kSq (kPar 3 4 (kCons (kVar 1) (kCons (kVar 2) (kNil)))) (kSq (loopW (kB (k2 gGt (kVar 4) (kD (.int 0)))) l_share_0 100000) (kRt (kMk .tup (kCons (k2 gDiv (kVar 1) (kVar 3)) (kCons (k2 gDiv (kVar 2) (kVar 3)) (kNil))))))))
def d_share : List O → RF := fun os => finF [false] (g_share (startE [false] os 5))
/-- _law_permits: one, other, count -/
def l__law_permits_0 : Env → RS := kIf (kB (k2 gGt (k2 gSub (k2 gMul (k2 gIx (kVar 1) (kD (.int 1))) (kVar 2)) (k2 gIx (kVar 1) (kD (.int 3)))) (kn gMax2 (kCons (kD (.int 0)) (kCons (k2 gSub (k2 gMul (k2 gIx (kVar 0) (kD (.int 1))) (kVar 2)) (k2 gIx (kVar 0) (kD (.int 3)))) (kNil)))))) (kRt (kD (.bool false))) (kNx)
def g__law_permits : Env → RS := kSq (kIf (kOr (kB (k2 gNe (k2 gIx (kVar 0) (kD (.int 0))) (k2 gIx (kVar 1) (kD (.int 0))))) (kOr (kB (k2 gNe (k2 gIx (kVar 0) (kD (.int 4))) (k2 gIx (kVar 1) (kD (.int 4))))) (kOr (kB (k2 gGt (k2 gIx (kVar 0) (kD (.int 1))) (k2 gIx (kVar 1) (kD (.int 1))))) (kOr (kB (k2 gLt (k2 gIx (kVar 0) (kD (.int 5))) (k2 gIx (kVar 1) (kD (.int 5))))) (kB (k2 gGt (k2 gIx (kVar 0) (kD (.int 2))) (k2 gIx (kVar 1) (kD (.int 2))))))))) (kRt (kD (.bool false))) (kNx)) (kSq (kFor (kRng2 (kCons (kD (.int 1)) (kCons (k2 gAdd (k2 gIx (kVar 0) (kD (.int 2))) (kD (.int 1))) (kNil)))) (hName 2) l__law_permits_0) (kRt (kD (.bool true))))
def d__law_permits : List O → RF := fun os => finF [false, false] (g__law_permits (startE [false, false] os 3))
/-- is_allowed_by: one, other, earliest, index, day -/
def g_is_allowed_by : Env → RS := kSq (kIf (kOr (kB (k2 gNe (k2 gIx (kVar 0) (kD (.int 0))) (k2 gIx (kVar 1) (kD (.int 0))))) (kOr (kB (k2 gNe (k2 gIx (kVar 0) (kD (.int 4))) (k2 gIx (kVar 1) (kD (.int 4))))) (kOr (kB (k2 gGt (k2 gIx (kVar 0) (kD (.int 1))) (k2 gIx (kVar 1) (kD (.int 1))))) (kOr (kB (k2 gGt (k2 gIx (kVar 0) (kD (.int 2))) (k2 gIx (kVar 1) (kD (.int 2))))) (kB (k2 gLt (k2 gIx (kVar 0) (kD (.int 5))) (k2 gIx (kVar 1) (kD (.int 5))))))))) (kRt (kD (.bool false))) (kNx)) (kSq (kAs (kCall [false] [none] d_renewal_days (kCons (kVar 0) (kNil))) (hName 2)) (kRt (kn gAll (kCons (kLc [3, 4] (kEnum (kCons (kFrz 2) (kNil))) (hTup 2 (hCons (hName 3) (hCons (hName 4) (hNil)))) (kYes) (k2 gLe (k2 gSub (k2 gMul (k2 gIx (kVar 1) (kD (.int 1))) (k2 gAdd (kVar 3) (kD (.int 1)))) (k2 gIx (kVar 1) (kD (.int 3)))) (kVar 4))) (kNil)))))
def d_is_allowed_by : List O → RF := fun os => finF [false, false] (g_is_allowed_by (startE [false, false] os 5))
/-- other_copies: one, other, borrows, found, reader -/
def g_other_copies : Env → RS := kSq (kAs (kLc [4] (kRng1 (kCons (k2 gIx (kVar 0) (kD (.int 0))) (kNil))) (hName 4) (kYes) (kMk .tup (kCons (kD (.str "borrow")) (kCons (kVar 4) (kNil))))) (hName 2)) (kSq (kIf (kB (k2 gGt (k2 gIx (kVar 0) (kD (.int 0))) (k2 gIx (kVar 1) (kD (.int 0))))) (kRt (kMov 2)) (kNx)) (kSq (kAs (k2 gAdd (kFrz 2) (kMk .lst (kCons (kMk .tup (kCons (kD (.str "wait")) (kCons (kD c_STRANGER) (kNil)))) (kNil)))) (hName 3)) (kSq (kIf (kB (k2 gGt (k2 gIx (kVar 0) (kD (.int 1))) (k2 gIx (kVar 0) (kD (.int 4))))) (kRt (k2 gAdd (k2 gAdd (kFrz 3) (kCall [false] [none] d_days_event (kCons (k2 gAdd (k2 gIx (kVar 0) (kD (.int 4))) (kD (.int 1))) (kNil)))) (kMk .lst (kCons (kMk .tup (kCons (kD (.str "leave")) (kCons (kD c_STRANGER) (kNil)))) (kNil))))) (kNx)) (kSq (kAs (k2 gAdd (k2 gAdd (kMov 3) (kCall [false] [none] d_days_event (kCons (k2 gIx (kVar 0) (kD (.int 1))) (kNil)))) (kLc [4] (kRng1 (kCons (k2 gIx (kVar 0) (kD (.int 0))) (kNil))) (hName 4) (kYes) (kMk .tup (kCons (kD (.str "return")) (kCons (kVar 4) (kNil)))))) (hName 3)) (kRt (k2 gAdd (k2 gAdd (kFrz 3) (kCall [false] [none] d_days_event (kCons (k2 gSub (k2 gAdd (k2 gIx (kVar 0) (kD (.int 4))) (kD (.int 1))) (k2 gIx (kVar 0) (kD (.int 1)))) (kNil)))) (kMk .lst (kCons (kMk .tup (kCons (kD (.str "leave")) (kCons (kD c_STRANGER) (kNil)))) (kNil)))))))))
def d_other_copies : List O → RF := fun os => finF [false, false] (g_other_copies (startE [false, false] os 5))
/-- other_ready: one, other, found -/
def g_other_ready : Env → RS := kSq (kAs (k2 gAdd (kMk .lst (kCons (kMk .tup (kCons (kD (.str "wait")) (kCons (kD c_STRANGER) (kNil)))) (kNil))) (kCall [false] [none] d_days_event (kCons (k2 gAdd (kn gMin2 (kCons (k2 gIx (kVar 0) (kD (.int 4))) (kCons (k2 gIx (kVar 1) (kD (.int 4))) (kNil)))) (kD (.int 1))) (kNil)))) (hName 2)) (kSq (kIf (kB (k2 gGt (k2 gIx (kVar 0) (kD (.int 4))) (k2 gIx (kVar 1) (kD (.int 4))))) (kRt (k2 gAdd (kFrz 2) (kMk .lst (kCons (kMk .tup (kCons (kD (.str "leave")) (kCons (kD c_STRANGER) (kNil)))) (kNil))))) (kNx)) (kRt (k2 gAdd (kFrz 2) (kMk .lst (kCons (kMk .tup (kCons (kD (.str "wait")) (kCons (kD c_STRANGER) (kNil)))) (kNil))))))
def d_other_ready : List O → RF := fun os => finF [false, false] (g_other_ready (startE [false, false] os 3))
/-- other_loans: one, found, late, early, today, day -/
def l_other_loans_0 : Env → RS := kSq (kAs (k2 gAdd (k2 gAdd (kMov 2) (kCall [false] [none] d_days_event (kCons (k2 gIx (kVar 0) (kD (.int 1))) (kNil)))) (kMk .lst (kCons (kMk .tup (kCons (kD (.str "renew")) (kCons (kD (.int 0)) (kNil)))) (kNil)))) (hName 2)) (kSq (kAs (k2 gAdd (k2 gAdd (kMov 3) (kCall [false] [none] d_days_event (kCons (k2 gSub (kVar 5) (kVar 4)) (kNil)))) (kMk .lst (kCons (kMk .tup (kCons (kD (.str "renew")) (kCons (kD (.int 0)) (kNil)))) (kNil)))) (hName 3)) (kSq (kAs (kVar 5) (hName 4)) (kAs (k2 gAdd (kMov 1) (kMk .lst (kCons (kFrz 3) (kNil)))) (hName 1))))
def g_other_loans : Env → RS := kSq (kAs (kMk .lst (kCons (k2 gAdd (kMk .lst (kCons (kMk .tup (kCons (kD (.str "borrow")) (kCons (kD (.int 0)) (kNil)))) (kNil))) (kCall [false] [none] d_days_event (kCons (k2 gIx (kVar 0) (kD (.int 1))) (kNil)))) (kNil))) (hName 1)) (kSq (kEx (kApp 1 [] (kCons (k2 gAdd (k2 gAdd (kMk .lst (kCons (kMk .tup (kCons (kD (.str "borrow")) (kCons (kD (.int 0)) (kNil)))) (kCons (kMk .tup (kCons (kD (.str "return")) (kCons (kD (.int 0)) (kNil)))) (kNil)))) (kCall [false] [none] d_days_event (kCons (k2 gIx (kVar 0) (kD (.int 5))) (kNil)))) (kMk .lst (kCons (kMk .tup (kCons (kD (.str "borrow")) (kCons (kD (.int 0)) (kNil)))) (kNil)))) (kNil)))) (kSq (kAs (kMk .tup (kCons (kMk .lst (kCons (kMk .tup (kCons (kD (.str "borrow")) (kCons (kD (.int 0)) (kNil)))) (kNil))) (kCons (kMk .lst (kCons (kMk .tup (kCons (kD (.str "borrow")) (kCons (kD (.int 0)) (kNil)))) (kNil))) (kCons (kD (.int 0)) (kNil))))) (hTup 3 (hCons (hName 2) (hCons (hName 3) (hCons (hName 4) (hNil)))))) (kSq (kFor (kIt (kCall [false] [none] d_renewal_days (kCons (kVar 0) (kNil)))) (hName 5) l_other_loans_0) (kRt (k2 gAdd (kFrz 1) (kMk .lst (kCons (kFrz 2) (kNil))))))))
def d_other_loans : List O → RF := fun os => finF [false] (g_other_loans (startE [false] os 6))
/-- parting_of: one, other, rows, row -/
def l_parting_of_0 : Env → RS := kIf (kAnd (kB (k2 gIs (k2 gIx (kCall [false, false] [none, none] d_run_of (kCons (kVar 0) (kCons (kVar 3) (kNil)))) (kD (.int 1))) (kD .none))) (kB (k2 gIsNot (k2 gIx (kCall [false, false] [none, none] d_run_of (kCons (kVar 1) (kCons (kVar 3) (kNil)))) (kD (.int 1))) (kD .none)))) (kRt (kn gTuple (kCons (kVar 3) (kNil)))) (kNx)
def g_parting_of : Env → RS := kSq (kIf (kB (kCall [false, false] [none, none] d_is_allowed_by (kCons (kVar 0) (kCons (kVar 1) (kNil))))) (kRt (kD .none)) (kNx)) (kSq (kAs (k2 gAdd (kMk .lst (kCons (kCall [false, false] [none, none] d_other_copies (kCons (kVar 0) (kCons (kVar 1) (kNil)))) (kCons (kCall [false, false] [none, none] d_other_ready (kCons (kVar 0) (kCons (kVar 1) (kNil)))) (kNil)))) (kCall [false] [none] d_other_loans (kCons (kVar 0) (kNil)))) (hName 2)) (kSq (kFor (kIt (kFrz 2)) (hName 3) l_parting_of_0) (kRt (kD .none))))
def d_parting_of : List O → RF := fun os => finF [false, false] (g_parting_of (startE [false, false] os 4))
/-- allows: one, other -/
def g_allows : Env → RS := kSq (kEx (kCall [false] [none] d_require_rules (kCons (kVar 0) (kNil)))) (kSq (kEx (kCall [false] [none] d_require_rules (kCons (kVar 1) (kNil)))) (kRt (kCall [false, false] [none, none] d_is_allowed_by (kCons (kVar 0) (kCons (kVar 1) (kNil))))))
def d_allows : List O → RF := fun os => finF [false, false] (g_allows (startE [false, false] os 2))
/-- parting_history: one, other -/
def g_parting_history : Env → RS := kSq (kEx (kCall [false] [none] d_require_rules (kCons (kVar 0) (kNil)))) (kSq (kEx (kCall [false] [none] d_require_rules (kCons (kVar 1) (kNil)))) (kRt (kCall [false, false] [none, none] d_parting_of (kCons (kVar 0) (kCons (kVar 1) (kNil))))))
def d_parting_history : List O → RF := fun os => finF [false, false] (g_parting_history (startE [false, false] os 2))
/-- alike: one, other -/
def g_alike : Env → RS := kSq (kEx (kCall [false] [none] d_require_rules (kCons (kVar 0) (kNil)))) (kSq (kEx (kCall [false] [none] d_require_rules (kCons (kVar 1) (kNil)))) (kRt (kAndV (kCall [false, false] [none, none] d_is_allowed_by (kCons (kVar 0) (kCons (kVar 1) (kNil)))) (kCall [false, false] [none, none] d_is_allowed_by (kCons (kVar 1) (kCons (kVar 0) (kNil)))))))
def d_alike : List O → RF := fun os => finF [false, false] (g_alike (startE [false, false] os 2))
/-- require_both: one, other -/
def g_require_both : Env → RS := kSq (kEx (kCall [false] [none] d_require_rules (kCons (kVar 0) (kNil)))) (kEx (kCall [false] [none] d_require_rules (kCons (kVar 1) (kNil))))
def d_require_both : List O → RF := fun os => finF [false, false] (g_require_both (startE [false, false] os 2))
/-- choices: found, index, row, size -/
def l_choices_0 : Env → RS := kAs (k2 gAdd (kMov 0) (kLc [2] (kIt (kFrz 0)) (hName 2) (kYes) (k2 gAdd (kVar 2) (kMk .tup (kCons (kVar 1) (kNil)))))) (hName 0)
def g_choices : Env → RS := kSq (kAs (kMk .lst (kCons (kMk .tup (kNil)) (kNil))) (hName 0)) (kSq (kFor (kRng1 (kCons (kD c_ITEMS) (kNil))) (hName 1) l_choices_0) (kRt (kLc [3, 2] (kIt (kn gSort (kCons (kLc [2] (kIt (kFrz 0)) (hName 2) (kYes) (kMk .tup (kCons (kn gLen (kCons (kVar 2) (kNil))) (kCons (kVar 2) (kNil))))) (kNil)))) (hTup 2 (hCons (hName 3) (hCons (hName 2) (hNil)))) (kYes) (kVar 2))))
def d_choices : List O → RF := fun os => finF [] (g_choices (startE [] os 4))
/-- mixed: one, other, indices, index -/
def g_mixed : Env → RS := kRt (kn gTuple (kCons (kLc [3] (kRng1 (kCons (kD c_ITEMS) (kNil))) (hName 3) (kYes) (kIte (kB (k2 gIn (kVar 3) (kVar 2))) (k2 gIx (kVar 0) (kVar 3)) (k2 gIx (kVar 1) (kVar 3)))) (kNil)))
def d_mixed : List O → RF := fun os => finF [false, false, false] (g_mixed (startE [false, false, false] os 4))
/-- fewest_items: one, other, row -/
def g_fewest_items : Env → RS := kSq (kEx (kCall [false, false] [none, none] d_require_both (kCons (kVar 0) (kCons (kVar 1) (kNil))))) (kRt (k2 gIx (kLc [2] (kIt (kCall [] [] d_choices (kNil))) (hName 2) (kB (kCall [false, false] [none, none] d_is_allowed_by (kCons (kVar 0) (kCons (kCall [false, false, false] [none, none, none] d_mixed (kCons (kVar 0) (kCons (kVar 1) (kCons (kVar 2) (kNil))))) (kNil))))) (kVar 2)) (kD (.int 0))))
def d_fewest_items : List O → RF := fun os => finF [false, false] (g_fewest_items (startE [false, false] os 3))
/-- like_copies: rules, found, loan, renewals, window -/
def l_like_copies_0 : Env → RS := kEx (kApp 1 [] (kCons (kMk .tup (kCons (k2 gIx (kVar 0) (kD (.int 0))) (kCons (kVar 2) (kCons (kVar 3) (kCons (kVar 4) (kCons (k2 gIx (kVar 0) (kD (.int 4))) (kNil))))))) (kNil)))
def l_like_copies_1 : Env → RS := kFor (kRng2 (kCons (k2 gIx (kD c_LOWS) (kD (.int 3))) (kCons (k2 gAdd (k2 gIx (kD c_HIGHS) (kD (.int 3))) (kD (.int 1))) (kNil)))) (hName 4) l_like_copies_0
def l_like_copies_2 : Env → RS := kFor (kRng2 (kCons (k2 gIx (kD c_LOWS) (kD (.int 2))) (kCons (k2 gAdd (k2 gIx (kD c_HIGHS) (kD (.int 2))) (kD (.int 1))) (kNil)))) (hName 3) l_like_copies_1
def g_like_copies : Env → RS := kSq (kAs (kMk .lst (kNil)) (hName 1)) (kSq (kFor (kRng2 (kCons (k2 gIx (kD c_LOWS) (kD (.int 1))) (kCons (k2 gAdd (k2 gIx (kD c_HIGHS) (kD (.int 1))) (kD (.int 1))) (kNil)))) (hName 2) l_like_copies_2) (kRt (kMov 1)))
def d_like_copies : List O → RF := fun os => finF [false] (g_like_copies (startE [false] os 5))
/-- rests_at_most: rules -/
def g_rests_at_most : Env → RS := kRt (k2 gAdd (k2 gSub (k2 gIx (kVar 0) (kD (.int 5))) (k2 gIx (kD c_LOWS) (kD (.int 5)))) (kD (.int 1)))
def d_rests_at_most : List O → RF := fun os => finF [false] (g_rests_at_most (startE [false] os 1))
/-- rests_at_least: rules -/
def g_rests_at_least : Env → RS := kRt (k2 gAdd (k2 gSub (k2 gIx (kD c_HIGHS) (kD (.int 5))) (k2 gIx (kVar 0) (kD (.int 5)))) (kD (.int 1)))
def d_rests_at_least : List O → RF := fun os => finF [false] (g_rests_at_least (startE [false] os 1))
/-- count_allowing: rules, some, row -/
def g_count_allowing : Env → RS := kSq (kEx (kCall [false] [none] d_require_rules (kCons (kVar 0) (kNil)))) (kSq (kAs (kLc [2] (kIt (kCall [false] [none] d_like_copies (kCons (kVar 0) (kNil)))) (hName 2) (kB (kCall [false, false] [none, none] d_is_allowed_by (kCons (kVar 0) (kCons (k2 gAdd (kVar 2) (kMk .tup (kCons (k2 gIx (kVar 0) (kD (.int 5))) (kNil)))) (kNil))))) (kVar 2)) (hName 1)) (kRt (k2 gMul (kn gLen (kCons (kFrz 1) (kNil))) (kCall [false] [none] d_rests_at_most (kCons (kVar 0) (kNil))))))
def d_count_allowing : List O → RF := fun os => finF [false] (g_count_allowing (startE [false] os 3))
/-- count_allowed: rules, some, row -/
def g_count_allowed : Env → RS := kSq (kEx (kCall [false] [none] d_require_rules (kCons (kVar 0) (kNil)))) (kSq (kAs (kLc [2] (kIt (kCall [false] [none] d_like_copies (kCons (kVar 0) (kNil)))) (hName 2) (kB (kCall [false, false] [none, none] d_is_allowed_by (kCons (k2 gAdd (kVar 2) (kMk .tup (kCons (k2 gIx (kVar 0) (kD (.int 5))) (kNil)))) (kCons (kVar 0) (kNil))))) (kVar 2)) (hName 1)) (kRt (k2 gMul (kn gLen (kCons (kFrz 1) (kNil))) (kCall [false] [none] d_rests_at_least (kCons (kVar 0) (kNil))))))
def d_count_allowed : List O → RF := fun os => finF [false] (g_count_allowed (startE [false] os 3))
/-- alike_rules: rules, found, row -/
def g_alike_rules : Env → RS := kSq (kAs (kLc [2] (kIt (kCall [false] [none] d_like_copies (kCons (kVar 0) (kNil)))) (hName 2) (kYes) (k2 gAdd (kVar 2) (kMk .tup (kCons (k2 gIx (kVar 0) (kD (.int 5))) (kNil))))) (hName 1)) (kRt (kn gSort (kCons (kLc [2] (kIt (kFrz 1)) (hName 2) (kAnd (kB (kCall [false, false] [none, none] d_is_allowed_by (kCons (kVar 0) (kCons (kVar 2) (kNil))))) (kB (kCall [false, false] [none, none] d_is_allowed_by (kCons (kVar 2) (kCons (kVar 0) (kNil)))))) (kVar 2)) (kNil))))
def d_alike_rules : List O → RF := fun os => finF [false] (g_alike_rules (startE [false] os 3))
/-- count_alike: rules -/
def g_count_alike : Env → RS := kSq (kEx (kCall [false] [none] d_require_rules (kCons (kVar 0) (kNil)))) (kRt (kn gLen (kCons (kCall [false] [none] d_alike_rules (kCons (kVar 0) (kNil))) (kNil))))
def d_count_alike : List O → RF := fun os => finF [false] (g_count_alike (startE [false] os 1))
/-- plain_rules: rules -/
def g_plain_rules : Env → RS := kSq (kEx (kCall [false] [none] d_require_rules (kCons (kVar 0) (kNil)))) (kRt (k2 gIx (kCall [false] [none] d_alike_rules (kCons (kVar 0) (kNil))) (kD (.int 0))))
def d_plain_rules : List O → RF := fun os => finF [false] (g_plain_rules (startE [false] os 1))
/-- require_many: value, item -/
def g_require_many : Env → RS := kIf (kOr (kNot (kB (k1 (gIsi "tuple") (kVar 0)))) (kOr (kNot (kB (kCh gLe gLe (kD (.int 1)) (kn gLen (kCons (kVar 0) (kNil))) (kD c_MOST_RULES)))) (kNot (kB (kn gAll (kCons (kLc [1] (kIt (kVar 0)) (hName 1) (kYes) (kCall [false] [none] d_is_rules (kCons (kVar 1) (kNil)))) (kNil))))))) ((fun env => .err "InvalidRules" env)) (kNx)
def d_require_many : List O → RF := fun os => finF [false] (g_require_many (startE [false] os 2))
/-- require_reader: value -/
def g_require_reader : Env → RS := kIf (kNot (kB (kCall [false] [none] d_is_reader (kCons (kVar 0) (kNil))))) ((fun env => .err "InvalidReader" env)) (kNx)
def d_require_reader : List O → RF := fun os => finF [false] (g_require_reader (startE [false] os 1))
/-- latest_in: rules, state, place, days, turn, row -/
def l_latest_in_0 : Env → RS := kAs (kn gSort (kCons (k2 gAdd (kSl (kFrz 3) (kPart (kD (.int 1))) kNoPart) (kMk .lst (kCons (k2 gAdd (k2 gAdd (k2 gIx (kFrz 3) (kD (.int 0))) (k2 gIx (kVar 0) (kD (.int 4)))) (k2 gIx (kVar 0) (kD (.int 1)))) (kNil)))) (kNil))) (hName 3)
def g_latest_in : Env → RS := kSq (kAs (kn gSort (kCons (k2 gAdd (kLc [5] (kIt (k2 gIx (kVar 1) (kD (.int 2)))) (hName 5) (kYes) (k2 gIx (kVar 5) (kD (.int 1)))) (kLc [5] (kIt (k2 gIx (kVar 1) (kD (.int 3)))) (hName 5) (kYes) (k2 gAdd (k2 gIx (kVar 5) (kD (.int 1))) (k2 gIx (kVar 0) (kD (.int 1)))))) (kNil))) (hName 3)) (kSq (kFor (kRng1 (kCons (k2 gSub (kVar 2) (kD (.int 1))) (kNil))) (hName 4) l_latest_in_0) (kRt (k2 gIx (kFrz 3) (kD (.int 0)))))
def d_latest_in : List O → RF := fun os => finF [false, false, false] (g_latest_in (startE [false, false, false] os 6))
/-- left_out: history, reader, event -/
def g_left_out : Env → RS := kRt (kn gTuple (kCons (kLc [2] (kIt (kVar 0)) (hName 2) (kOr (kB (k2 gEq (k2 gIx (kVar 2) (kD (.int 0))) (kD (.str "days")))) (kB (k2 gNe (k2 gIx (kVar 2) (kD (.int 1))) (kVar 1)))) (kVar 2)) (kNil)))
def d_left_out : List O → RF := fun os => finF [false, false] (g_left_out (startE [false, false] os 3))
/-- require_allowed: rules, history -/
def g_require_allowed : Env → RS := kIf (kB (k2 gIsNot (k2 gIx (kCall [false, false] [none, none] d_run_of (kCons (kVar 0) (kCons (kVar 1) (kNil)))) (kD (.int 1))) (kD .none))) ((fun env => .err "NotAllowed" env)) (kNx)
def d_require_allowed : List O → RF := fun os => finF [false, false] (g_require_allowed (startE [false, false] os 2))
/-- stand_without: rules, history, reader, short -/
def g_stand_without : Env → RS := kSq (kEx (kCall [false] [none] d_require_rules (kCons (kVar 0) (kNil)))) (kSq (kEx (kCall [false] [none] d_require_history (kCons (kVar 1) (kNil)))) (kSq (kEx (kCall [false] [none] d_require_reader (kCons (kVar 2) (kNil)))) (kSq (kEx (kCall [false, false] [none, none] d_require_allowed (kCons (kVar 0) (kCons (kVar 1) (kNil))))) (kSq (kAs (kCall [false, false] [none, none] d_left_out (kCons (kVar 1) (kCons (kVar 2) (kNil)))) (hName 3)) (kRt (kIte (kB (k2 gIs (k2 gIx (kCall [false, false] [none, none] d_run_of (kCons (kVar 0) (kCons (kVar 3) (kNil)))) (kD (.int 1))) (kD .none))) (kCall [false, false] [none, none] d_stand (kCons (kVar 0) (kCons (kVar 3) (kNil)))) (kD .none)))))))
def d_stand_without : List O → RF := fun os => finF [false, false, false] (g_stand_without (startE [false, false, false] os 4))
/-- _wall: k -/
def l__wall_0 : Env → RS := kNx
def g__wall : Env → RS := loopW (kB (kD (.bool true))) l__wall_0 100000
def d__wall : List O → RF := fun os => finF [false] (g__wall (startE [false] os 1))
/-- fitting: many, history, at, rules -/
def g_fitting : Env → RS := kSq (kEx (kCall [false] [none] d_require_many (kCons (kVar 0) (kNil)))) (kSq (kEx (kCall [false] [none] d_require_history (kCons (kVar 1) (kNil)))) (kRt (kLc [2, 3] (kEnum (kCons (kVar 0) (kNil))) (hTup 2 (hCons (hName 2) (hCons (hName 3) (hNil)))) (kB (k2 gIs (k2 gIx (kCall [false, false] [none, none] d_run_of (kCons (kVar 3) (kCons (kVar 1) (kNil)))) (kD (.int 1))) (kD .none))) (kVar 2))))
def d_fitting : List O → RF := fun os => finF [false, false] (g_fitting (startE [false, false] os 4))
/-- count_pairs: rules, first, second, history, count, one, other, some -/
def l_count_pairs_0 : Env → RS := kSq (kAs (k2 gAdd (k2 gAdd (k2 gAdd (k2 gAdd (kSl (kVar 0) kNoPart (kPart (kVar 1))) (kMk .tup (kCons (kVar 5) (kNil)))) (kSl (kVar 0) (kPart (k2 gAdd (kVar 1) (kD (.int 1)))) (kPart (kVar 2)))) (kMk .tup (kCons (kVar 6) (kNil)))) (kSl (kVar 0) (kPart (k2 gAdd (kVar 2) (kD (.int 1)))) kNoPart)) (hName 7)) (kIf (kB (k2 gIs (k2 gIx (kCall [false, false] [none, none] d_run_of (kCons (kVar 7) (kCons (kVar 3) (kNil)))) (kD (.int 1))) (kD .none))) (kAs (k2 gAdd (kVar 4) (kD (.int 1))) (hName 4)) (kNx))
def l_count_pairs_1 : Env → RS := kFor (kRng2 (kCons (k2 gIx (kD c_LOWS) (kVar 2)) (kCons (k2 gAdd (k2 gIx (kD c_HIGHS) (kVar 2)) (kD (.int 1))) (kNil)))) (hName 6) l_count_pairs_0
def g_count_pairs : Env → RS := kSq (kEx (kCall [false] [none] d_require_rules (kCons (kVar 0) (kNil)))) (kSq (kEx (kCall [false, false, false] [none, none, none] d_require_number (kCons (kVar 1) (kCons (kD (.int 0)) (kCons (kD (.int 5)) (kNil)))))) (kSq (kIf (kNot (kB (kCall [false, false, false] [none, none, none] d_is_integer (kCons (kVar 2) (kCons (k2 gAdd (kVar 1) (kD (.int 1))) (kCons (kD (.int 5)) (kNil))))))) ((fun env => .err "InvalidNumber" env)) (kNx)) (kSq (kEx (kCall [false] [none] d_require_history (kCons (kVar 3) (kNil)))) (kSq (kAs (kD (.int 0)) (hName 4)) (kSq (kFor (kRng2 (kCons (k2 gIx (kD c_LOWS) (kVar 1)) (kCons (k2 gAdd (k2 gIx (kD c_HIGHS) (kVar 1)) (kD (.int 1))) (kNil)))) (hName 5) l_count_pairs_1) (kRt (kVar 4)))))))
def d_count_pairs : List O → RF := fun os => finF [false, false, false, false] (g_count_pairs (startE [false, false, false, false] os 8))
end DP.G
end

section
namespace DP
open PySem PySem.Spec PyProof.Rows L2 DP.G
/-! ### reckoning a denotation -/
@[simp] theorem bind_ok {α β : Type} (a : α) (e : Env) (f : α → Env → RE β) : (RE.ok a e).bind f = f a e := (rfl)
@[simp] theorem kD_eq (d : PyData) (env : Env) : kD d env = (.ok (.dat d) env) := (rfl)
@[simp] theorem kVar_eq (i : Nat) (env : Env) : kVar i env = (match env[i]? with
  | some (.v (.dat d)) => .ok (.dat d) env
  | some (.io (.dat d)) => .ok (.dat d) env
  | _ => .no) := (rfl)
@[simp] theorem kMov_eq (i : Nat) (env : Env) : kMov i env = (match env[i]? with
  | some (.v (.dat d)) => .ok (.dat d) env
  | some (.v o) => .ok o (env.set i .no)
  | some (.io o) => .ok o (env.set i .mv)
  | _ => .no) := (rfl)
@[simp] theorem kFrz_eq (i : Nat) (env : Env) : kFrz i env = (match env[i]? with
  | some (.v o) => match o.toD with
    | some d => .ok (.dat d) (env.set i (.v (.dat d)))
    | none => .no
  | some (.io (.dat d)) => .ok (.dat d) env
  | _ => .no) := (rfl)
@[simp] theorem kMark_eq (i : Nat) (env : Env) : kMark i env = (match env[i]? with
  | some (.v _) => .ok .any env
  | some (.io _) => .ok .any env
  | _ => .no) := (rfl)
@[simp] theorem kNil_eq  (env : Env) : kNil env = (.ok [] env) := (rfl)
@[simp] theorem kCons_eq (f : EF) (g : Env → RE (List O)) (env : Env) : kCons f g env = ((f env).bind fun o env1 => (g env1).bind fun os env2 => .ok (o :: os) env2) := (rfl)
@[simp] theorem kAny_eq  (env : Env) : kAny env = (.ok .any env) := (rfl)
@[simp] theorem kMk_eq (s : Shp) (g : Env → RE (List O)) (env : Env) : kMk s g env = ((g env).bind fun os env1 => if os.length ≤ 1000000 then .ok (O.fz (.node s os)) env1 else .no) := (rfl)
@[simp] theorem k2_eq (g : PyData → PyData → Option O) (f1 f2 : EF) (env : Env) : k2 g f1 f2 env = ((f1 env).bind fun o1 e1 => (f2 e1).bind fun o2 e2 => match o1.toD, o2.toD with
  | some d1, some d2 => match g d1 d2 with
    | some z => .ok z e2
    | none => .no
  | _, _ => .no) := (rfl)
@[simp] theorem k1_eq (g : PyData → Option O) (f1 : EF) (env : Env) : k1 g f1 env = ((f1 env).bind fun o1 e1 => match o1.toD with
  | some d1 => match g d1 with
    | some z => .ok z e1
    | none => .no
  | _ => .no) := (rfl)
@[simp] theorem kn_eq (g : List PyData → Option O) (f : Env → RE (List O)) (env : Env) : kn g f env = ((f env).bind fun os e1 => match O.toDs os with
  | some ds => match g ds with
    | some z => .ok z e1
    | none => .no
  | _ => .no) := (rfl)
@[simp] theorem kB_eq (f : EF) (env : Env) : kB f env = ((f env).bind fun o e1 => match o with
  | .dat (.bool b) => .ok b e1
  | _ => .no) := (rfl)
@[simp] theorem kAnd_eq (f g : Env → RE Bool) (env : Env) : kAnd f g env = ((f env).bind fun b e1 => if b = true then g e1 else .ok false e1) := (rfl)
@[simp] theorem kOr_eq (f g : Env → RE Bool) (env : Env) : kOr f g env = ((f env).bind fun b e1 => if b = true then .ok true e1 else g e1) := (rfl)
@[simp] theorem kNot_eq (f : Env → RE Bool) (env : Env) : kNot f env = ((f env).bind fun b e1 => .ok (!b) e1) := (rfl)
@[simp] theorem kAndV_eq (f g : EF) (env : Env) : kAndV f g env = ((f env).bind fun o e1 => match o with
  | .dat (.bool true) => g e1
  | .dat (.bool false) => .ok (.dat (.bool false)) e1
  | _ => .no) := (rfl)
@[simp] theorem kOrV_eq (f g : EF) (env : Env) : kOrV f g env = ((f env).bind fun o e1 => match o with
  | .dat (.bool true) => .ok (.dat (.bool true)) e1
  | .dat (.bool false) => g e1
  | _ => .no) := (rfl)
@[simp] theorem kNotV_eq (f : EF) (env : Env) : kNotV f env = ((f env).bind fun o e1 => match o with
  | .dat (.bool b) => .ok (.dat (.bool !b)) e1
  | _ => .no) := (rfl)
@[simp] theorem kIte_eq (t : Env → RE Bool) (f g : EF) (env : Env) : kIte t f g env = ((t env).bind fun b e1 => if b = true then f e1 else g e1) := (rfl)
@[simp] theorem kCh_eq (g g' : PyData → PyData → Option O) (f1 f2 f3 : EF) (env : Env) : kCh g g' f1 f2 f3 env = ((f1 env).bind fun o1 e1 => (f2 e1).bind fun o2 e2 => match o1.toD, o2.toD with
  | some d1, some d2 => match g d1 d2 with
    | some (.dat (.bool true)) => (f3 e2).bind fun o3 e3 => match o3.toD with
      | some d3 => match g' d2 d3 with
        | some (.dat (.bool b)) => .ok (.dat (.bool b)) e3
        | _ => .no
      | none => .no
    | some (.dat (.bool false)) => .ok (.dat (.bool false)) e2
    | _ => .no
  | _, _ => .no) := (rfl)
@[simp] theorem kSq_eq (f g : Env → RS) (env : Env) : kSq f g env = ((f env).sq g) := (rfl)
@[simp] theorem kNx_eq  (env : Env) : kNx env = (.nx env) := (rfl)
@[simp] theorem kEx_eq (f : EF) (env : Env) : kEx f env = ((f env).st fun _ e => .nx e) := (rfl)
@[simp] theorem kRt_eq (f : EF) (env : Env) : kRt f env = ((f env).st fun o e => .rt o e) := (rfl)
@[simp] theorem kIf_eq (t : Env → RE Bool) (f g : Env → RS) (env : Env) : kIf t f g env = ((t env).st fun b e => if b = true then f e else g e) := (rfl)
@[simp] theorem hName_eq (i : Nat) (o : O) (env : Env) : hName i o env = (match env[i]? with
  | some s => if s.w = true then some (env.set i (.v o)) else none
  | none => none) := (rfl)
@[simp] theorem kAs_eq (f : EF) (h : GF) (env : Env) : kAs f h env = ((f env).st fun o e => match h o e with
  | some e' => .nx e'
  | none => .no) := (rfl)
@[simp] theorem hNil_eq  (os : List O) (env : Env) : hNil os env = (match os with
  | [] => some env
  | _ => none) := (rfl)
@[simp] theorem hCons_eq (h : GF) (hs : List O → Env → Option Env) (os : List O) (env : Env) : hCons h hs os env = (match os with
  | o :: r => match h o env with
    | some e => hs r e
    | none => none
  | [] => none) := (rfl)
@[simp] theorem hTup_eq (n : Nat) (hs : List O → Env → Option Env) (o : O) (env : Env) : hTup n hs o env = (match o with
  | .dat (.tuple ds) => if ds.length = n then hs (ds.map .dat) env else none
  | .node .tup os => if os.length = n then hs os env else none
  | _ => none) := (rfl)
@[simp] theorem kPar_eq (i j : Nat) (g : Env → RE (List O)) (env : Env) : kPar i j g env = ((g env).st fun os e => match os with
  | [o1, o2] => match hName i o1 e with
    | some e1 => match hName j o2 e1 with
      | some e2 => .nx e2
      | none => .no
    | none => .no
  | _ => .no) := (rfl)
@[simp] theorem kFor_eq (h : IF) (hg : GF) (body : Env → RS) (env : Env) : kFor h hg body env = ((h env).st fun ds e => loopS hg body ds e) := (rfl)
@[simp] theorem kLc_eq (own : List Nat) (h : IF) (hg : GF) (t : Env → RE Bool) (f : EF) (env : Env) : kLc own h hg t f env = ((h env).bind fun ds e => match wipeE own e with
  | some e' => lcEnd (compL own hg t f ds e' [])
  | none => .no) := (rfl)
@[simp] theorem kYes_eq  (env : Env) : kYes env = (.ok true env) := (rfl)
@[simp] theorem kCall_eq (io : List Bool) (ios : List (Option Nat)) (den : List O → RF) (fa : Env → RE (List O)) (env : Env) : kCall io ios den fa env = ((fa env).bind fun os0 e0 => match lendIn ios os0 e0 with
  | some (os, e) => if os.length = io.length then match den os with
    | .ok o outs => .ok o (backs io ios outs e)
    | .err x outs => .err x (backs io ios outs e)
    | .no => .no
    else .no
  | none => .no) := (rfl)
@[simp] theorem kIt_eq (f : EF) (env : Env) : kIt f env = ((f env).bind fun o e1 => match o.toD with
  | some d => match seqD d with
    | some ds => .ok ds e1
    | none => .no
  | none => .no) := (rfl)
@[simp] theorem kRng1_eq (g : Env → RE (List O)) (env : Env) : kRng1 g env = ((g env).bind fun os e1 => match os with
  | [.dat (.int j)] => if -4611686018427387904 ≤ j ∧ j < 4611686018427387904 then .ok (rngD 0 j.toNat) e1 else .no
  | _ => .no) := (rfl)
@[simp] theorem kRng2_eq (g : Env → RE (List O)) (env : Env) : kRng2 g env = ((g env).bind fun os e1 => match os with
  | [.dat (.int i), .dat (.int j)] => if -4611686018427387904 ≤ i ∧ i < 4611686018427387904 ∧ -4611686018427387904 ≤ j ∧ j < 4611686018427387904 then .ok (rngD i (j - i).toNat) e1 else .no
  | _ => .no) := (rfl)
@[simp] theorem kZip3_eq (g : Env → RE (List O)) (env : Env) : kZip3 g env = ((g env).bind fun os e1 => match O.toDs os with
  | some [.tuple xs, .tuple ys, .tuple zs] => .ok (zip3D xs ys zs) e1
  | _ => .no) := (rfl)
@[simp] theorem kLeaf_eq (i : Nat) (π : List Nat) (env : Env) : kLeaf i π env = (match getP env i π with
  | some (.dat d) => .ok (.dat d) env
  | _ => .no) := (rfl)
@[simp] theorem kSetP_eq (i : Nat) (π : List Nat) (k : Nat) (f : EF) (env : Env) : kSetP i π k f env = ((f env).st fun o e => match getP e i π with
  | some (.node .lst xs) => if k < xs.length then .nx (putP e i π (.node .lst (xs.set k o))) else .no
  | _ => .no) := (rfl)
@[simp] theorem hTupL_eq (n : Nat) (hs : List O → Env → Option Env) (o : O) (env : Env) : hTupL n hs o env = (match o with
  | .dat (.list ds) => if ds.length = n then hs (ds.map .dat) env else none
  | .node .lst os => if os.length = n then hs os env else none
  | _ => none) := (rfl)
@[simp] theorem kEnum_eq (g : Env → RE (List O)) (env : Env) : kEnum g env = ((g env).bind fun os e1 => match os with
  | [o] => match o.toD with
    | some d => match lstD d with
      | some ds => .ok (enumD 0 ds) e1
      | none => .no
    | none => .no
  | _ => .no) := (rfl)
@[simp] theorem kApp_eq (i : Nat) (π : List Nat) (g : Env → RE (List O)) (env : Env) : kApp i π g env = (match getP env i π with
  | some (.node .lst _) => (g env).bind fun os e => match os, getP e i π with
    | [o], some (.node .lst xs) => if xs.length < 1000000 then .ok (.dat .none) (putP e i π (.node .lst (xs ++ [o]))) else .no
    | _, _ => .no
  | _ => .no) := (rfl)
@[simp] theorem lstD_l (ds : List PyData) : lstD (.list ds) = some ds := (rfl)
@[simp] theorem st_ok {α : Type} (a : α) (e : Env) (f : α → Env → RS) : (RE.ok a e).st f = f a e := (rfl)
@[simp] theorem sq_nx (e : Env) (g : Env → RS) : (RS.nx e).sq g = g e := (rfl)
@[simp] theorem sq_rt (o : O) (e : Env) (g : Env → RS) : (RS.rt o e).sq g = .rt o e := (rfl)
@[simp] theorem toD_dat (d : PyData) : (O.dat d).toD = some d := by rw [O.toD]
@[simp] theorem toDs_nil : O.toDs [] = some [] := by rw [O.toDs]
@[simp] theorem toDs_cons (o : O) (os : List O) : O.toDs (o :: os) = (match o.toD, O.toDs os with | some d, some ds => some (d :: ds) | _, _ => none) := by
  rw [O.toDs] <;> cases o.toD <;> cases O.toDs os <;> rfl
@[simp] theorem toD_lst (xs : List O) : (O.node .lst xs).toD = (O.toDs xs).map .list := by rw [O.toD]
@[simp] theorem toD_tup (xs : List O) : (O.node .tup xs).toD = (O.toDs xs).map .tuple := by rw [O.toD]
theorem toDs_map : ∀ ds : List PyData, O.toDs (ds.map .dat) = some ds
  | [] => by simp
  | d :: ds => by simp [toDs_map ds]
@[simp] theorem fz_lst (xs : List O) : O.fz (.node .lst xs) = .node .lst xs := (rfl)
theorem fz_tup (xs : List O) : O.fz (.node .tup xs) = (match O.toDs xs with | some ds => .dat (.tuple ds) | none => .node .tup xs) := (rfl)
@[simp] theorem w_no : Sl.w .no = true := (rfl)
@[simp] theorem w_v (o : O) : Sl.w (.v o) = true := (rfl)

section
variable (i j : Int)
@[simp] theorem gAdd_i : gAdd (.int i) (.int j) = some (.dat (.int (i + j))) := (rfl)
@[simp] theorem gSub_i : gSub (.int i) (.int j) = some (.dat (.int (i - j))) := (rfl)
@[simp] theorem gMul_i : gMul (.int i) (.int j) = (if (-18446744073709551616 < i ∧ i < 18446744073709551616) ∨ (-18446744073709551616 < j ∧ j < 18446744073709551616) then some (.dat (.int (i * j))) else none) := (rfl)
@[simp] theorem gDiv_i : gDiv (.int i) (.int j) = (if 0 < j ∧ j < 18446744073709551616 then some (.dat (.int (i / j))) else none) := (rfl)
@[simp] theorem gMod_i : gMod (.int i) (.int j) = (if 0 < j then some (.dat (.int (i % j))) else none) := (rfl)
@[simp] theorem gPow_i : gPow (.int i) (.int j) = (if 0 ≤ j ∧ j ≤ 1000 ∧ -1000000 < i ∧ i < 1000000 then some (.dat (.int (i ^ j.toNat))) else none) := (rfl)
@[simp] theorem gCmp_i (p : Int → Int → Bool) : gCmp p (.int i) (.int j) = some (.dat (.bool (p i j))) := (rfl)
@[simp] theorem gMax2_i : gMax2 [.int i, .int j] = some (.dat (.int (if j > i then j else i))) := (rfl)
@[simp] theorem gMin2_i : gMin2 [.int i, .int j] = some (.dat (.int (if j < i then j else i))) := (rfl)
@[simp] theorem gEq_i : gEq (.int i) (.int j) = some (.dat (.bool (decide (i = j)))) := by
  unfold gEq
  rw [if_pos ⟨rfl, rfl⟩]
  congr 3
@[simp] theorem gNe_i : gNe (.int i) (.int j) = some (.dat (.bool (!decide (i = j)))) := by
  unfold gNe
  rw [if_pos ⟨rfl, rfl⟩]
  congr 3
@[simp] theorem gIx_l (ds : List PyData) : gIx (.list ds) (.int i) = (atI ds i).map .dat := (rfl)
@[simp] theorem gIx_t (ds : List PyData) : gIx (.tuple ds) (.int i) = (atI ds i).map .dat := (rfl)
@[simp] theorem gIx_d (ds : List PyData) : gIx (.dict [(.list ds, .none)]) (.int i) = (atI ds i).map .dat := (rfl)
@[simp] theorem gLen_l (ds : List PyData) : gLen [.list ds] = some (.dat (.int ds.length)) := (rfl)
@[simp] theorem gLen_t (ds : List PyData) : gLen [.tuple ds] = some (.dat (.int ds.length)) := (rfl)
@[simp] theorem gLen_d (ds : List PyData) : gLen [.dict [(.list ds, .none)]] = some (.dat (.int ds.length)) := (rfl)
end
/-- a loop that keeps a word I -/
theorem loopS_inv {hg : GF} {body : Env → RS} (I : Env → Prop) : ∀ {ds : List PyData} {env : Env}, (∀ d ∈ ds, ∀ env, I env → ∃ env1, hg (.dat d) env = some env1 ∧ ∃ env2, body env1 = .nx env2 ∧ I env2) → I env → ∃ env', loopS hg body ds env = .nx env' ∧ I env'
  | [], env, _, h0 => ⟨env, rfl, h0⟩
  | d :: ds, env, h, h0 => by
    obtain ⟨e1, q1, e2, q2, i2⟩ := h d List.mem_cons_self env h0
    obtain ⟨e3, q3, i3⟩ := loopS_inv I (ds := ds) (fun d z => h d (List.mem_cons_of_mem _ z)) i2
    refine ⟨e3, ?_, i3⟩
    rw [loopS, q1]
    show (match body e1 with | .nx e2 => loopS hg body ds e2 | .ct e2 => loopS hg body ds e2 | .bk e2 => .nx e2 | r => r) = _
    rw [q2]
    exact q3
theorem rngD_mem {lo : Int} {n : Nat} {d : PyData} (h : d ∈ rngD lo n) : ∃ i : Nat, i < n ∧ d = .int (lo + i) := by
  unfold rngD at h
  obtain ⟨i, h1, h2⟩ := List.mem_map.mp h
  exact ⟨i, List.mem_range.mp h1, h2.symm⟩
/-- a loop over a range that keeps a word I -/
theorem loopR_inv {hg : GF} {body : Env → RS} {lo : Int} {n : Nat} {env : Env} (I : Env → Prop) (h : ∀ i : Nat, i < n → ∀ env, I env → ∃ env1, hg (.dat (.int (lo + i))) env = some env1 ∧ ∃ env2, body env1 = .nx env2 ∧ I env2) (h0 : I env) : ∃ env', loopS hg body (rngD lo n) env = .nx env' ∧ I env' :=
  loopS_inv I (fun d z env i => by
    obtain ⟨j, hj, rfl⟩ := rngD_mem z
    exact h j hj env i) h0
/-! ### the source of drawn numbers -/
def Src (o : O) : Prop := ∃ a s p : Int, o = .node .lst [.dat (.int a), .dat (.int s), .dat (.int p)] ∧ 0 ≤ s ∧ s < 8589934592 ∧ 0 < p ∧ p < 4294967296
theorem pick_ok {o : O} {n : Int} (h : Src o) (h0 : 0 < n) (h1 : n < 18446744073709551616) : ∃ (r : Int) (o' : O), d__law_pick [o, .dat (.int n)] = .ok (.dat (.int r)) [o'] ∧ 0 ≤ r ∧ r < n ∧ Src o' := by
  obtain ⟨a, s, p, rfl, s0, s1, p0, p1⟩ := h
  by_cases ha : 0 < a
  · refine ⟨a % n, .node .lst [.dat (.int (a / n)), .dat (.int s), .dat (.int p)], ?_, Int.emod_nonneg _ (by omega), Int.emod_lt_of_pos _ h0, _, _, _, rfl, s0, s1, p0, p1⟩
    simp [d__law_pick, g__law_pick, kSq, kIf, kB, k2, kLeaf, kD, kAs, kVar, kRt, kSetP, kNx, startE, getP, slotO, O.get, nth, Shp.at, gGt, gCmp, gMod, gDiv, hName, putP, setO, O.put, finF, outsOf, ha, h0, h1, List.replicate]
  · have b1 := Int.emod_nonneg (s * 48271) (show p ≠ 0 by omega)
    have b2 := Int.emod_lt_of_pos (s * 48271) p0
    obtain ⟨q, hq⟩ : ∃ q, q = s * 48271 % p + 1 := ⟨_, rfl⟩
    have c1 : 1 ≤ q := by omega
    have c2 : q < 4294967297 := by omega
    have m1 : (-18446744073709551616 < s ∧ s < 18446744073709551616) := by omega
    have m2 : (-18446744073709551616 < q ∧ q < 18446744073709551616) := by omega
    refine ⟨q * q % 2147483423 / 7 % n, .node .lst [.dat (.int a), .dat (.int q), .dat (.int p)], ?_, Int.emod_nonneg _ (by omega), Int.emod_lt_of_pos _ h0, _, _, _, rfl, by omega, by omega, p0, p1⟩
    simp [d__law_pick, g__law_pick, kSq, kIf, kB, k2, kLeaf, kD, kAs, kVar, kRt, kSetP, kNx, startE, getP, slotO, O.get, nth, Shp.at, gGt, gCmp, gMod, gDiv, gMul, gAdd, hName, putP, setO, O.put, finF, outsOf, ha, h0, h1, p0, m1, m2, ← hq, List.replicate]
end DP
end

section
namespace DP
open PySem PySem.Spec PyProof.Rows L2 DP.G
theorem atI_mem {α : Type} {xs : List α} {i : Int} (h0 : 0 ≤ i) (h : i < xs.length) : ∃ d, atI xs i = some d ∧ d ∈ xs := by
  have h1 : i.toNat < xs.length := by omega
  refine ⟨xs[i.toNat], ?_, List.getElem_mem _⟩
  have e : i = ((i.toNat : Nat) : Int) := by omega
  conv => lhs; rw [e]
  exact atI_nat (List.getElem?_eq_getElem h1)
theorem atI_ints {ns : List Int} {i : Int} (h0 : 0 ≤ i) (h : i < ns.length) : ∃ z : Int, atI (ns.map PyData.int) i = some (.int z) := by
  obtain ⟨d, h1, h2⟩ := atI_mem (xs := ns.map PyData.int) h0 (by simpa using h)
  obtain ⟨z, _, rfl⟩ := List.mem_map.mp h2
  exact ⟨z, h1⟩
/-- the source of a script -/
theorem source_ok (ns : List Int) {k : Int} (h0 : 0 ≤ k) (h1 : k < 64) : ∃ o, d__law_source [scriptO ns, .dat (.int k)] = .ok o [] ∧ Src o := by
  have q0 := Int.emod_nonneg k (show (8 : Int) ≠ 0 by decide)
  have q1 := Int.emod_lt_of_pos k (show (0 : Int) < 8 by decide)
  obtain ⟨p, hp, hpm⟩ := atI_mem (xs := [PyData.int 2147483647, PyData.int 2147483629, PyData.int 2147483587, PyData.int 2147483579, PyData.int 2147483563, PyData.int 2147483549, PyData.int 2147483543, PyData.int 2147483497]) (i := k % 8) q0 (by simpa using q1)
  obtain ⟨pz, rfl, p0, p1⟩ : ∃ pz : Int, p = .int pz ∧ 0 < pz ∧ pz < 4294967296 := by
    simp only [List.mem_cons, List.not_mem_nil, or_false] at hpm
    rcases hpm with h | h | h | h | h | h | h | h <;> exact ⟨_, h, by decide, by decide⟩
  have main : ∀ c : Int, ∃ a s : Int, 0 ≤ s ∧ s < 8589934592 ∧ (kSq (kAs (k2 gMod (k2 gMul (k2 gAdd (k2 gMod (kVar 2) (kD (.int 2147483489))) (kD (.int 1))) (k2 gAdd (kD (.int 48271)) (k2 gMul (kD (.int 2)) (kVar 1)))) (kD (.int 2147483489))) (hName 4)) (kSq (kAs (k2 gAdd (k2 gAdd (k2 gMod (k2 gMul (kVar 4) (kVar 4)) (kD (.int 2147483477))) (kVar 1)) (kD (.int 1))) (hName 4)) (kSq (kIf (kB (k2 gGe (kVar 2) (k2 gPow (kD (.int 10)) (kD (.int 18))))) (kRt (kMk .lst (kCons (kVar 2) (kCons (kVar 4) (kCons (k2 gIx (kFrz 3) (k2 gMod (kVar 1) (kD (.int 8)))) (kNil)))))) (kNx)) (kRt (kMk .lst (kCons (kD (.int 0)) (kCons (kVar 4) (kCons (k2 gIx (kFrz 3) (k2 gMod (kVar 1) (kD (.int 8)))) (kNil)))))))))
      [.v (scriptO ns), .v (.dat (.int k)), .v (.dat (.int c)), .v (.node .lst ([PyData.int 2147483647, PyData.int 2147483629, PyData.int 2147483587, PyData.int 2147483579, PyData.int 2147483563, PyData.int 2147483549, PyData.int 2147483543, PyData.int 2147483497].map .dat)), .no]
      = .rt (.node .lst [.dat (.int a), .dat (.int s), .dat (.int pz)]) [.v (scriptO ns), .v (.dat (.int k)), .v (.dat (.int c)), .v (.dat (.list [PyData.int 2147483647, PyData.int 2147483629, PyData.int 2147483587, PyData.int 2147483579, PyData.int 2147483563, PyData.int 2147483549, PyData.int 2147483543, PyData.int 2147483497])), .v (.dat (.int s))] := fun c => by
    obtain ⟨x, hx⟩ : ∃ x, x = (c % 2147483489 + 1) * (48271 + 2 * k) % 2147483489 := ⟨_, rfl⟩
    have x0 : 0 ≤ x := hx ▸ Int.emod_nonneg _ (by decide)
    have x1 : x < 2147483489 := hx ▸ Int.emod_lt_of_pos _ (by decide)
    have y0 := Int.emod_nonneg (x * x) (show (2147483477 : Int) ≠ 0 by decide)
    have y1 := Int.emod_lt_of_pos (x * x) (show (0 : Int) < 2147483477 by decide)
    have z0 := Int.emod_nonneg c (show (2147483489 : Int) ≠ 0 by decide)
    have z1 := Int.emod_lt_of_pos c (show (0 : Int) < 2147483489 by decide)
    have m1 : -18446744073709551616 < c % 2147483489 + 1 ∧ c % 2147483489 + 1 < 18446744073709551616 := by omega
    have m2 : -18446744073709551616 < x ∧ x < 18446744073709551616 := by omega
    by_cases hc : (1000000000000000000 : Int) ≤ c
    · refine ⟨c, x * x % 2147483477 + k + 1, by omega, by omega, ?_⟩
      simp [m1, ← hx, m2, hc, hp, toDs_map]
    · refine ⟨0, x * x % 2147483477 + k + 1, by omega, by omega, ?_⟩
      simp [m1, ← hx, m2, hc, hp, toDs_map]
  by_cases hk : k < ns.length
  · obtain ⟨c, hc⟩ := atI_ints (ns := ns) h0 hk
    obtain ⟨a, s, s0, s1, e⟩ := main c
    refine ⟨_, ?_, a, s, pz, rfl, s0, s1, p0, p1⟩
    unfold d__law_source g__law_source
    simp [startE, List.replicate, hk, hc] at e ⊢
    simp [e, finF, outsOf]
  · obtain ⟨a, s, s0, s1, e⟩ := main 0
    refine ⟨_, ?_, a, s, pz, rfl, s0, s1, p0, p1⟩
    unfold d__law_source g__law_source
    simp [startE, List.replicate, hk] at e ⊢
    simp [e, finF, outsOf]
/-- a pick whose size is picked of two -/
theorem pick2_ok {o : O} {x y : Int} (h : Src o) (x0 : 0 < x) (x1 : x < 18446744073709551616) (y0 : 0 < y) (y1 : y < 18446744073709551616) : ∃ (i z r : Int) (o1 o2 : O), d__law_pick [o, .dat (.int 2)] = .ok (.dat (.int i)) [o1] ∧ atI [PyData.int x, PyData.int y] i = some (.int z) ∧ d__law_pick [o1, .dat (.int z)] = .ok (.dat (.int r)) [o2] ∧ 0 ≤ r ∧ (r < x ∨ r < y) ∧ Src o2 := by
  obtain ⟨i, o1, e1, i0, i1, s1⟩ := pick_ok h (n := 2) (by decide) (by decide)
  obtain h2 | h2 : i = 0 ∨ i = 1 := by omega
  · obtain ⟨r, o2, e2, r0, r1, s2⟩ := pick_ok s1 x0 x1
    exact ⟨i, x, r, o1, o2, e1, by subst h2; rfl, e2, r0, .inl r1, s2⟩
  · obtain ⟨r, o2, e2, r0, r1, s2⟩ := pick_ok s1 y0 y1
    exact ⟨i, y, r, o1, o2, e1, by subst h2; rfl, e2, r0, .inr r1, s2⟩
/-- six items of a desk's rules -/
abbrev rulD (c l r w h s : Int) : PyData := .tuple [.int c, .int l, .int r, .int w, .int h, .int s]
def Rul (c l r w h s : Int) : Prop := 1 ≤ c ∧ c ≤ 4 ∧ 1 ≤ l ∧ l ≤ 30 ∧ 0 ≤ r ∧ r ≤ 3 ∧ 0 ≤ w ∧ w ≤ 30 ∧ 0 ≤ h ∧ h ≤ 10 ∧ 0 ≤ s ∧ s ≤ 30
theorem rules_ok {o : O} (h : Src o) : ∃ (c l r w h s : Int) (o' : O), d__law_rules [o] = .ok (.dat (rulD c l r w h s)) [o'] ∧ Rul c l r w h s ∧ Src o' := by
  obtain ⟨c, o1, e1, c0, c1, s1⟩ := pick_ok h (n := 4) (by decide) (by decide)
  obtain ⟨i2, z2, l, o2, o3, e2, e3, e4, l0, l1, s3⟩ := pick2_ok s1 (x := 4) (y := 30) (by decide) (by decide) (by decide) (by decide)
  obtain ⟨i3, z3, w, o4, o5, e5, e6, e7, w0, w1, s5⟩ := pick2_ok s3 (x := 4) (y := 31) (by decide) (by decide) (by decide) (by decide)
  obtain ⟨i4, z4, y, o6, o7, e8, e9, e10, y0, y1, s7⟩ := pick2_ok s5 (x := 3) (y := 11) (by decide) (by decide) (by decide) (by decide)
  obtain ⟨i5, z5, t, o8, o9, e11, e12, e13, t0, t1, s9⟩ := pick2_ok s7 (x := 3) (y := 31) (by decide) (by decide) (by decide) (by decide)
  obtain ⟨r, o10, e14, r0, r1, s10⟩ := pick_ok s9 (n := 4) (by decide) (by decide)
  refine ⟨1 + c, 1 + l, r, w, y, t, o10, ?_, ⟨by omega, by omega, by omega, by omega, by omega, by omega, by omega, by omega, by omega, by omega, by omega, by omega⟩, s10⟩
  unfold d__law_rules g__law_rules
  simp [startE, List.replicate, lendIn, takeO, backs, putBack, fz_tup, finF, outsOf, e1, e2, e3, e4, e5, e6, e7, e8, e9, e10, e11, e12, e13, e14]
end DP
end

section
namespace DP
open PySem PySem.Spec PyProof.Rows L2 DP.G
@[simp] theorem isi_int (v : Int) : gIsi "int" (.int v) = some (.dat (.bool true)) := rfl
@[simp] theorem isi_bool (v : Int) : gIsi "bool" (.int v) = some (.dat (.bool false)) := rfl
@[simp] theorem isi_boolb (v : Bool) : gIsi "bool" (.bool v) = some (.dat (.bool true)) := rfl
@[simp] theorem isi_tuple (v : List PyData) : gIsi "tuple" (.tuple v) = some (.dat (.bool true)) := rfl
theorem is_integer_ok (v l h : Int) : d_is_integer [.dat (.int v), .dat (.int l), .dat (.int h)] = .ok (.dat (.bool (decide (l ≤ v) && decide (v ≤ h)))) [] := by
  unfold d_is_integer g_is_integer
  by_cases h1 : l ≤ v <;> simp [startE, finF, outsOf, h1]
@[simp] theorem law_is_integer_ok (v l h : Int) : d__law_is_integer [.dat (.int v), .dat (.int l), .dat (.int h)] = .ok (.dat (.bool (decide (l ≤ v) && decide (v ≤ h)))) [] := by
  unfold d__law_is_integer g__law_is_integer
  by_cases h1 : l ≤ v <;> simp [startE, finF, outsOf, h1]
theorem is_rules_ok {c l r w h s : Int} (R : Rul c l r w h s) : d_is_rules [.dat (rulD c l r w h s)] = .ok (.dat (.bool true)) [] := by
  obtain ⟨c0, c1, l0, l1, r0, r1, w0, w1, h0, h1, s0, s1⟩ := R
  unfold d_is_rules g_is_rules
  simp [startE, List.replicate, c_LOWS, c_HIGHS, zip3D, wipeE, compL, lcEnd, is_integer_ok, lendIn, backs, finF, outsOf, gAll, blsD, c0, c1, l0, l1, r0, r1, w0, w1, h0, h1, s0, s1]
theorem require_rules_ok {c l r w h s : Int} (R : Rul c l r w h s) : d_require_rules [.dat (rulD c l r w h s)] = .ok (.dat .none) [] := by
  unfold d_require_rules g_require_rules
  simp [startE, is_rules_ok R, lendIn, backs, finF, outsOf]
theorem require_number_ok {v l h : Int} (h0 : l ≤ v) (h1 : v ≤ h) : d_require_number [.dat (.int v), .dat (.int l), .dat (.int h)] = .ok (.dat .none) [] := by
  unfold d_require_number g_require_number
  simp [startE, is_integer_ok, lendIn, backs, finF, outsOf, h0, h1]
theorem longest_ok (c l r w h s : Int) (hl : -18446744073709551616 < l ∧ l < 18446744073709551616) : d_longest_loan_of [.dat (rulD c l r w h s)] = .ok (.dat (.int (l * (1 + r)))) [] := by
  unfold d_longest_loan_of g_longest_loan_of
  simp [startE, finF, outsOf, atI, ixN, hl]
/-- the days that one has out of d -/
def mostD (h s d : Int) : Int := d / (h + s) * h + (if h < d % (h + s) then h else d % (h + s))
theorem had_pos {c l r w h s : Int} (R : Rul c l r w h s) : 1 ≤ l * (1 + r) ∧ l * (1 + r) ≤ 120 := by
  obtain ⟨c0, c1, l0, l1, r0, r1, _⟩ := R
  constructor
  · have := Int.mul_le_mul l0 (show 1 ≤ 1 + r by omega) (by decide) (by omega)
    omega
  · have := Int.mul_le_mul l1 (show 1 + r ≤ 4 by omega) (by omega) (by omega)
    omega
theorem most_days_ok {c l r w h s d : Int} (R : Rul c l r w h s) (d0 : 0 ≤ d) (d1 : d ≤ 1000000000000) : d_most_days [.dat (rulD c l r w h s), .dat (.int d)] = .ok (.dat (.int (mostD (l * (1 + r)) s d))) [] := by
  obtain ⟨p0, p1⟩ := had_pos R
  have R0 := R
  obtain ⟨c0, c1, l0, l1, r0, r1, w0, w1, h0, h1, s0, s1⟩ := R
  have hl : -18446744073709551616 < l ∧ l < 18446744073709551616 := by omega
  obtain ⟨z, hz⟩ : ∃ z, z = l * (1 + r) := ⟨_, rfl⟩
  have m1 : -18446744073709551616 < z ∧ z < 18446744073709551616 := by omega
  have m2 : 0 < z + s ∧ z + s < 18446744073709551616 := by omega
  unfold d_most_days g_most_days
  simp [startE, List.replicate, c_MOST_DAYS, require_rules_ok R0, require_number_ok d0 d1, longest_ok _ _ _ _ _ _ hl, lendIn, backs, finF, outsOf, ← hz, atI, ixN, m1, m2, mostD]
end DP
end

section
namespace DP
open PySem PySem.Spec PyProof.Rows L2 DP.G
theorem mostD_of {h s q r : Int} (t0 : 0 < h + s) (r0 : 0 ≤ r) (r1 : r < h + s) : mostD h s (r + (h + s) * q) = q * h + (if h < r then h else r) := by
  obtain ⟨e1, e2⟩ := (Int.ediv_emod_unique (a := r + (h + s) * q) (q := q) (r := r) t0).mpr ⟨rfl, r0, r1⟩
  unfold mostD
  rw [e1, e2]
theorem split_of {t d : Int} (t0 : 0 < t) (d0 : 0 ≤ d) : ∃ q r : Int, d = r + t * q ∧ 0 ≤ r ∧ r < t ∧ 0 ≤ q ∧ d % t = r ∧ d / t = q :=
  ⟨d / t, d % t, (Int.emod_add_mul_ediv d t).symm, Int.emod_nonneg _ (by omega), Int.emod_lt_of_pos _ t0, Int.ediv_nonneg d0 (by omega), rfl, rfl⟩
theorem len_cons {α : Type} {l : List α} {n : Nat} (h : l.length = n + 1) : ∃ a r, l = a :: r ∧ r.length = n := by
  cases l with
  | nil => simp at h
  | cons a r => exact ⟨a, r, rfl, by simpa using h⟩
/-- an env whose first slot holds the script, the others free -/
def Free (ns : List Int) (n : Nat) (env : Env) : Prop := ∃ l : Env, env = .v (scriptO ns) :: l ∧ l.length = n ∧ ∀ s ∈ l, s.w = true
theorem free_start (ns : List Int) (n : Nat) : Free ns n (.v (scriptO ns) :: List.replicate n .no) := ⟨_, rfl, by simp, fun s hs => by rw [List.eq_of_mem_replicate hs]; rfl⟩
/-- a law's outer loop and its end -/
theorem outer_ok {ns : List Int} {m A B : Nat} {body tail : Env → RS} (hl : ns.length ≤ 63) (hA : A ≤ 63) (hs : ∀ k : Int, 0 ≤ k → k < 64 → ∀ env, Free ns m env → ∃ env1, hName 1 (.dat (.int k)) env = some env1 ∧ ∃ env2, body env1 = .nx env2 ∧ Free ns m env2)
    (ht : ∀ env, Free ns m env → ∃ env', tail env = .rt (.dat (.bool true)) env' ∧ Free ns m env') :
    finF [false] ((kSq (kFor (kRng1 (kCons (kn gMax2 (kCons (kD (.int A)) (kCons (kn gMin2 (kCons (kD (.int B)) (kCons (kn gLen (kCons (kVar 0) (kNil))) (kNil)))) (kNil)))) (kNil))) (hName 1) body) tail) (startE [false] [scriptO ns] (m + 1))) = .ok (.dat (.bool true)) [] := by
  obtain ⟨n, hn, hz⟩ : ∃ n : Nat, n ≤ 63 ∧ (if (A : Int) < (if (ns.length : Int) < (B : Int) then (ns.length : Int) else B) then (if (ns.length : Int) < (B : Int) then (ns.length : Int) else B) else A) = (n : Int) := by
    refine ⟨(if (A : Int) < (if (ns.length : Int) < (B : Int) then (ns.length : Int) else B) then (if (ns.length : Int) < (B : Int) then (ns.length : Int) else B) else A).toNat, ?_, ?_⟩ <;> (repeat' split) <;> omega
  obtain ⟨en, x, I⟩ := loopR_inv (hg := hName 1) (body := body) (lo := 0) (n := n) (Free ns m) (fun i hi env I => hs _ (by omega) (by omega) env I) (free_start ns m)
  obtain ⟨en', y, t, rfl, tl, tw⟩ := ht en I
  have hb : -4611686018427387904 ≤ (n : Int) ∧ (n : Int) < 4611686018427387904 := by omega
  have e0 : startE [false] [scriptO ns] (m + 1) = .v (scriptO ns) :: List.replicate m .no := by simp [startE]
  rw [e0]
  simp only [kSq_eq, kFor_eq, kRng1_eq, kCons_eq, kn_eq, kD_eq, kVar_eq, kNil_eq, bind_ok, List.getElem?_cons_zero, toDs_cons, toD_dat, toDs_nil, gLen_d, List.length_map, gMin2_i, gMax2_i, gt_iff_lt, hz, hb, and_self, if_true, st_ok, Int.toNat_natCast, x, sq_nx, y, finF, outsOf]
@[simp] theorem isi_tupleD (v : List PyData) : gIsi "tuple" (.tuple v) = some (.dat (.bool true)) := (rfl)
/-- the gcd loop of share -/
theorem gcd_loop (x0 x1 x2 : Sl) : ∀ (b a fuel : Nat), b < fuel → loopW (kB (k2 gGt (kVar 4) (kD (.int 0)))) l_share_0 fuel [x0, x1, x2, .v (.dat (.int a)), .v (.dat (.int b))] = .nx [x0, x1, x2, .v (.dat (.int (Nat.gcd a b : Nat))), .v (.dat (.int 0))] := by
  intro b
  induction b using Nat.strongRecOn with
  | ind b ih =>
    intro a fuel hf
    obtain ⟨f, rfl⟩ : ∃ f, fuel = f + 1 := ⟨fuel - 1, by omega⟩
    by_cases hb : b = 0
    · subst hb
      simp [loopW]
    · have hb0 : 0 < b := by omega
      have lt : a % b < b := Nat.mod_lt _ hb0
      have r := ih (a % b) lt b f (by omega)
      have g : Nat.gcd b (a % b) = Nat.gcd a b := by rw [Nat.gcd_comm a b, Nat.gcd_rec b a, Nat.gcd_comm]
      rw [g] at r
      rw [show ((a % b : Nat) : Int) = (a : Int) % (b : Int) by simp] at r
      have hbody : l_share_0 [x0, x1, x2, .v (.dat (.int a)), .v (.dat (.int b))] = .nx [x0, x1, x2, .v (.dat (.int b)), .v (.dat (.int ((a : Int) % (b : Int))))] := by
        simp [l_share_0, hb0]
      unfold loopW
      simp [hb0, hbody, r]
theorem share_ok {c l r w h s : Int} (R : Rul c l r w h s) : ∃ p q g : Int, d_share [.dat (rulD c l r w h s)] = .ok (.dat (.tuple [.int p, .int q])) [] ∧ 0 < p ∧ p ≤ q ∧ q ≤ 150 ∧ 0 < g ∧ p * g = l * (1 + r) ∧ q * g = l * (1 + r) + s ∧ (∀ d : Int, 2 ≤ d → ¬ (p % d = 0 ∧ q % d = 0)) ∧ g = (Nat.gcd (l * (1 + r)).toNat (l * (1 + r) + s).toNat : Nat) := by
  obtain ⟨p0, p1⟩ := had_pos R
  have R0 := R
  obtain ⟨_, _, l0, l1, _, _, _, _, _, _, s0, s1⟩ := R
  have hl : -18446744073709551616 < l ∧ l < 18446744073709551616 := by omega
  obtain ⟨z, hz⟩ : ∃ z, z = l * (1 + r) := ⟨_, rfl⟩
  obtain ⟨H, hH⟩ : ∃ H : Nat, z = (H : Int) := ⟨z.toNat, by omega⟩
  obtain ⟨T, hT⟩ : ∃ T : Nat, z + s = (T : Int) := ⟨(z + s).toNat, by omega⟩
  have gp : 0 < Nat.gcd H T := Nat.gcd_pos_of_pos_left _ (by omega)
  have gle : Nat.gcd H T ≤ H := Nat.le_of_dvd (by omega) (Nat.gcd_dvd_left H T)
  have L := gcd_loop (.v (.dat (rulD c l r w h s))) (.v (.dat (.int z))) (.v (.dat (.int (z + s)))) T H 100000 (by omega)
  rw [← hH, ← hT] at L
  have cop := Nat.coprime_div_gcd_div_gcd gp
  have e1 := Nat.div_mul_cancel (Nat.gcd_dvd_left H T)
  have e2 := Nat.div_mul_cancel (Nat.gcd_dvd_right H T)
  generalize hg : Nat.gcd H T = g at *
  generalize hp : H / g = p at *
  generalize hq : T / g = q at *
  have hpz : z / (g : Int) = (p : Int) := by rw [hH, ← hp]; simp
  have hqz : (z + s) / (g : Int) = (q : Int) := by rw [hT, ← hq]; simp
  have gb : 0 < (g : Int) ∧ (g : Int) < 18446744073709551616 := by omega
  have gn : g < 18446744073709551616 := by omega
  refine ⟨p, q, g, ?_, ?_, ?_, ?_, by omega, ?_, ?_, ?_, ?_⟩
  · unfold d_share g_share
    simp [startE, List.replicate, require_rules_ok R0, longest_ok _ _ _ _ _ _ hl, lendIn, backs, ← hz, atI, ixN, L, gb, gp, gn, hpz, hqz, fz_tup, finF, outsOf]
  · have : p ≠ 0 := fun e => by rw [e] at e1; omega
    omega
  · rw [← hp, ← hq]
    have := Nat.div_le_div_right (c := g) (show H ≤ T by omega)
    omega
  · have := Nat.div_le_self T g
    omega
  · rw [← hz, hH, ← e1]; simp
  · rw [← hz, hT, ← e2]; simp
  · intro d d2 ⟨m1, m2⟩
    obtain ⟨D, hD⟩ : ∃ D : Nat, d = (D : Int) := ⟨d.toNat, by omega⟩
    subst hD
    have a1 : D ∣ p := Nat.dvd_of_mod_eq_zero (by omega)
    have a2 : D ∣ q := Nat.dvd_of_mod_eq_zero (by omega)
    have a3 := Nat.dvd_gcd a1 a2
    rw [cop] at a3
    have := Nat.le_of_dvd (by decide) a3
    omega
  · rw [← hz, hT, hH, Int.toNat_natCast, Int.toNat_natCast, hg]
/-- the fewest friends -/
theorem friends_ok {c l r w h s : Int} (R : Rul c l r w h s) : d_fewest_friends [.dat (rulD c l r w h s)] = .ok (.dat (.int (c + (c * s + l * (1 + r) - 1) / (l * (1 + r))))) [] := by
  obtain ⟨p0, p1⟩ := had_pos R
  have R0 := R
  obtain ⟨c0, c1, l0, l1, _, _, _, _, _, _, s0, s1⟩ := R
  have hl : -18446744073709551616 < l ∧ l < 18446744073709551616 := by omega
  have hc : -18446744073709551616 < c ∧ c < 18446744073709551616 := by omega
  have hz : 0 < l * (1 + r) ∧ l * (1 + r) < 18446744073709551616 := by omega
  have e1 : d_whole_loan [.dat (rulD c l r w h s)] = .ok (.dat (.int (l * (1 + r)))) [] := by
    unfold d_whole_loan g_whole_loan
    simp [startE, finF, outsOf, atI, ixN, hl]
  have e2 : d_rounded_up [.dat (.int (c * s)), .dat (.int (l * (1 + r)))] = .ok (.dat (.int ((c * s + l * (1 + r) - 1) / (l * (1 + r))))) [] := by
    unfold d_rounded_up g_rounded_up
    generalize l * (1 + r) = z at *
    simp [startE, finF, outsOf, hz]
  have e3 : d_fewest_of [.dat (rulD c l r w h s)] = .ok (.dat (.int (c + (c * s + l * (1 + r) - 1) / (l * (1 + r))))) [] := by
    unfold d_fewest_of g_fewest_of
    simp [startE, finF, outsOf, atI, ixN, hc, e1, e2, lendIn, backs]
  unfold d_fewest_friends g_fewest_friends
  simp [startE, finF, outsOf, require_rules_ok R0, e3, lendIn, backs]
theorem share_mul {p q g H T : Int} (e1 : p * g = H) (e2 : q * g = T) : p * T = q * H := by
  subst e1; subst e2; grind
/-- n = T * a + e -/
theorem share_mid {p q g H s n : Int} (e1 : p * g = H) (e2 : q * g = H + s) (p0 : 0 < p) (pq : p ≤ q) (g0 : 0 < g) (n0 : 0 ≤ n) : n * p ≤ mostD H s n * q ∧ mostD H s n * q - n * p ≤ H * q := by
  have H0 : 0 < H := e1 ▸ Int.mul_pos p0 g0
  have T0 : 0 < H + s := e2 ▸ Int.mul_pos (by omega) g0
  have s0 : 0 ≤ s := by
    have := Int.mul_le_mul_of_nonneg_right pq (by omega : 0 ≤ g)
    omega
  obtain ⟨a, e, h1, h2, h3, _, _, _⟩ := split_of (t := H + s) (d := n) T0 n0
  have sm := share_mul e1 e2
  rw [h1, mostD_of T0 h2 h3]
  have k1 : (a * H + (if H < e then H else e)) * q - (e + (H + s) * a) * p = (if H < e then H else e) * q - e * p := by
    have : a * (p * (H + s)) = a * (q * H) := by rw [sm]
    grind
  have k2 : e * p ≤ (if H < e then H else e) * q ∧ (if H < e then H else e) * q - e * p ≤ H * q := by
    have ep : 0 ≤ e * p := Int.mul_nonneg h2 (by omega)
    split
    · refine ⟨?_, by omega⟩
      have : e * p ≤ (H + s) * p := Int.mul_le_mul_of_nonneg_right (by omega) (by omega)
      have : (H + s) * p = H * q := by grind
      omega
    · refine ⟨Int.mul_le_mul_of_nonneg_left pq h2, ?_⟩
      have : e * q ≤ H * q := Int.mul_le_mul_of_nonneg_right (by omega) (by omega)
      omega
  omega
theorem ceil_of {t b : Int} (b0 : 0 < b) : t ≤ (t + b - 1) / b * b ∧ ((t + b - 1) / b - 1) * b < t := by
  have h1 := Int.emod_add_mul_ediv (t + b - 1) b
  have h2 := Int.emod_nonneg (t + b - 1) (show b ≠ 0 by omega)
  have h3 := Int.emod_lt_of_pos (t + b - 1) b0
  generalize (t + b - 1) / b = u at *
  have h4 : (u - 1) * b = b * u - b := by grind
  have h5 : u * b = b * u := Int.mul_comm _ _
  omega
theorem share_friends {p q g H s c u : Int} (e1 : p * g = H) (e2 : q * g = H + s) (g0 : 0 < g) (h1 : c * s ≤ u * H) (h2 : (u - 1) * H < c * s) : c * q ≤ (c + u) * p ∧ (c + u - 1) * p < c * q := by
  constructor
  · refine Int.le_of_mul_le_mul_right (a := g) ?_ g0
    have k1 : c * q * g = c * H + c * s := by grind
    have k2 : (c + u) * p * g = c * H + u * H := by grind
    omega
  · refine Int.lt_of_mul_lt_mul_right (a := g) ?_ (by omega)
    have k1 : c * q * g = c * H + c * s := by grind
    have k2 : (c + u - 1) * p * g = c * H + (u - 1) * H := by grind
    omega
end DP
end

section
namespace DP
open PySem PySem.Spec PyProof.Rows L2 DP.G
@[simp] theorem at6_0 {α : Type} (a b c d e f : α) : atI [a, b, c, d, e, f] 0 = some a := rfl
@[simp] theorem at6_1 {α : Type} (a b c d e f : α) : atI [a, b, c, d, e, f] 1 = some b := rfl
@[simp] theorem at6_2 {α : Type} (a b c d e f : α) : atI [a, b, c, d, e, f] 2 = some c := rfl
@[simp] theorem at6_3 {α : Type} (a b c d e f : α) : atI [a, b, c, d, e, f] 3 = some d := rfl
@[simp] theorem at6_4 {α : Type} (a b c d e f : α) : atI [a, b, c, d, e, f] 4 = some e := rfl
@[simp] theorem at6_5 {α : Type} (a b c d e f : α) : atI [a, b, c, d, e, f] 5 = some f := rfl
@[simp] theorem at2_0 {α : Type} (a b : α) : atI [a, b] 0 = some a := rfl
@[simp] theorem at2_1 {α : Type} (a b : α) : atI [a, b] 1 = some b := rfl
/-- a comprehension that keeps a word I -/
theorem compL_inv {own : List Nat} {hg : GF} {t : Env → RE Bool} {f : EF} (I : Env → Prop) (P : PyData → Bool) (g : PyData → O) : ∀ {ds : List PyData} {env : Env} {acc : List O}, (∀ d ∈ ds, ∀ env, I env → ∃ e1 e2, hg (.dat d) env = some e1 ∧ t e1 = .ok (P d) e2 ∧
      (P d = true → ∃ e3 e4, f e2 = .ok (g d) e3 ∧ wipeE own e3 = some e4 ∧ I e4) ∧ (P d = false → ∃ e4, wipeE own e2 = some e4 ∧ I e4)) → acc.length + ds.length < 1000000 → I env →
    ∃ e', compL own hg t f ds env acc = .ok (acc ++ (ds.filter P).map g) e' ∧ I e'
  | [], env, acc, _, _, i => ⟨env, by simp [compL], i⟩
  | d :: ds, env, acc, h, hl, i => by
    obtain ⟨e1, e2, h1, h2, h3, h4⟩ := h d List.mem_cons_self env i
    simp only [List.length_cons] at hl
    cases hp : P d with
    | true =>
      obtain ⟨e3, e4, h5, h6, i4⟩ := h3 hp
      obtain ⟨e', r, i'⟩ := compL_inv I P g (ds := ds) (env := e4) (acc := acc ++ [g d]) (fun d' m => h d' (List.mem_cons_of_mem _ m)) (by simp; omega) i4
      refine ⟨e', ?_, i'⟩
      rw [hp] at h2
      simp only [compL, h1, h2, h5, h6]
      rw [if_pos (by omega), r, List.filter_cons_of_pos hp]
      simp
    | false =>
      obtain ⟨e4, h6, i4⟩ := h4 hp
      obtain ⟨e', r, i'⟩ := compL_inv I P g (ds := ds) (env := e4) (acc := acc) (fun d' m => h d' (List.mem_cons_of_mem _ m)) (by omega) i4
      refine ⟨e', ?_, i'⟩
      rw [hp] at h2
      simp only [compL, h1, h2, h6]
      rw [r, List.filter_cons_of_neg (by rw [hp]; decide)]
theorem last_pairs {ks : List (List Int)} (h0 : ks ≠ []) (h2 : ∀ n ∈ ks, ∃ a b, n = [a, b]) : ∃ a b, atI ((isortI ks).map rowD) (-1) = some (.tuple [.int a, .int b]) ∧ [a, b] ∈ ks ∧ ∀ a' b', [a', b'] ∈ ks → a' ≤ a := by
  have hne : isortI ks ≠ [] := fun e => h0 (by have := (isortI_perm ks).length_eq; rw [e] at this; exact List.eq_nil_of_length_eq_zero this.symm)
  obtain ⟨l, m, e⟩ : ∃ l m, isortI ks = l ++ [m] := ⟨_, _, (List.dropLast_concat_getLast hne).symm⟩
  have mm : m ∈ ks := (isortI_perm ks).mem_iff.mp (by rw [e]; simp)
  obtain ⟨a, b, rfl⟩ := h2 m mm
  refine ⟨a, b, ?_, mm, fun a' b' h => ?_⟩
  · rw [e, List.map_append]
    exact atI_last _ _
  · have hs := isortI_srt ks
    have h' := (isortI_perm ks).mem_iff.mpr h
    rw [e] at hs h'
    rcases List.mem_append.mp h' with h' | h'
    · have z := (List.pairwise_append.mp hs).2.2 _ h' _ (List.mem_singleton.mpr rfl)
      rw [lexI] at z
      split at z
      · omega
      · have := of_decide_eq_false z
        omega
    · cases List.mem_singleton.mp h'
      omega
/-- how long one can keep a copy -/
def bestD (l r w : Int) : Int := if l * (1 + r) ≤ l + w then l * (1 + r) else l + w
theorem renewal_days_ok {c l r w h s : Int} (l0 : 1 ≤ l) (l1 : l ≤ 30) (r0 : 0 ≤ r) (r1 : r ≤ 3) : d_renewal_days [.dat (rulD c l r w h s)] = .ok (.node .lst (((List.range r.toNat).map fun i : Nat => PyData.int (if l * (1 + (i : Int)) - w > 0 then l * (1 + (i : Int)) - w else 0)).map .dat)) [] := by
  have ml : -18446744073709551616 < l ∧ l < 18446744073709551616 := by omega
  obtain rfl | rfl | rfl | rfl : r = 0 ∨ r = 1 ∨ r = 2 ∨ r = 3 := by omega
  all_goals
    unfold d_renewal_days g_renewal_days
    simp [startE, List.replicate, rngD, compL, wipeE, lcEnd, finF, outsOf, ml, List.range_succ]
@[simp] theorem gNeg_i (i : Int) : gNeg (.int i) = some (.dat (.int (-i))) := (rfl)
@[simp] theorem toDs_mapc {α : Type} (f : α → PyData) (l : List α) : O.toDs (l.map (O.dat ∘ f)) = some (l.map f) := by
  rw [← List.map_map]
  exact toDs_map _
theorem best_ok {c l r w h s : Int} (l0 : 1 ≤ l) (l1 : l ≤ 30) (r0 : 0 ≤ r) (r1 : r ≤ 3) (w0 : 0 ≤ w) : ∃ b : Int, d_best_renewals [.dat (rulD c l r w h s)] = .ok (.dat (.tuple [.int (bestD l r w), .int b])) [] := by
  have ml : -18446744073709551616 < l ∧ l < 18446744073709551616 := by omega
  have e1 := renewal_days_ok (c := c) (w := w) (h := h) (s := s) l0 l1 r0 r1
  have fin : ∀ (ks : List (List Int)) (a b : Int), [a, b] ∈ ks → (∀ a' b', [a', b'] ∈ ks → a' ≤ a) → ∀ B, [B, 0] ∈ ks ∨ [B, -1] ∈ ks ∨ [B, -2] ∈ ks ∨ [B, -3] ∈ ks → (∀ a' b', [a', b'] ∈ ks → a' ≤ B) → B = a := fun ks a b h1 h2 B h3 h4 => by
    have z1 := h4 a b h1
    rcases h3 with h3 | h3 | h3 | h3 <;> (have z2 := h2 _ _ h3; omega)
  obtain rfl | rfl | rfl | rfl : r = 0 ∨ r = 1 ∨ r = 2 ∨ r = 3 := by omega
  · obtain ⟨a, b, h1, h2, h3⟩ := last_pairs (ks := [[l, 0]]) (by simp) (by simp)
    refine ⟨-b, ?_⟩
    have ea : bestD l 0 w = a := by
      have z := h3 l 0 (by simp)
      simp at h2
      unfold bestD
      split <;> omega
    rw [ea]
    unfold d_best_renewals g_best_renewals l_best_renewals_0
    simp [startE, List.replicate, e1, loopS, enumD, lendIn, backs, fz_tup, finF, outsOf, ml, gSort, rowsI, intsD] at h1 ⊢
    simp [h1, fz_tup, finF, outsOf]
  · simp only [show (1 : Int).toNat = 1 from rfl, show List.range 1 = [0] from rfl, List.map_cons, List.map_nil] at e1
    obtain ⟨d1, hd1⟩ : ∃ d1, d1 = (if l * (1 + ((0 : Nat) : Int)) - w > 0 then l * (1 + ((0 : Nat) : Int)) - w else 0) := ⟨_, rfl⟩
    rw [← hd1] at e1
    obtain ⟨a, b, h1, h2, h3⟩ := last_pairs (ks := [[l, 0], [l * 2 - d1, -1]]) (by simp) (by simp)
    refine ⟨-b, ?_⟩
    have ea : bestD l 1 w = a := by
      have z := h3 l 0 (by simp)
      have z1 := h3 (l * 2 - d1) (-1) (by simp)
      simp at h2
      unfold bestD
      split at hd1 <;> split <;> omega
    rw [ea]
    unfold d_best_renewals g_best_renewals l_best_renewals_0
    simp [startE, List.replicate, e1, loopS, enumD, lendIn, backs, fz_tup, finF, outsOf, ml, gSort, rowsI, intsD, getP, slotO, O.get, putP, setO, O.put] at h1 ⊢
    simp [h1, fz_tup, finF, outsOf]
  · simp only [show (2 : Int).toNat = 2 from rfl, show List.range 2 = [0, 1] from rfl, List.map_cons, List.map_nil] at e1
    obtain ⟨d1, hd1⟩ : ∃ d1, d1 = (if l * (1 + ((0 : Nat) : Int)) - w > 0 then l * (1 + ((0 : Nat) : Int)) - w else 0) := ⟨_, rfl⟩
    obtain ⟨d2, hd2⟩ : ∃ d2, d2 = (if l * (1 + ((1 : Nat) : Int)) - w > 0 then l * (1 + ((1 : Nat) : Int)) - w else 0) := ⟨_, rfl⟩
    rw [← hd1, ← hd2] at e1
    obtain ⟨a, b, h1, h2, h3⟩ := last_pairs (ks := [[l, 0], [l * 2 - d1, -1], [l * 3 - d2, -2]]) (by simp) (by simp)
    refine ⟨-b, ?_⟩
    have ea : bestD l 2 w = a := by
      have z := h3 l 0 (by simp)
      have z1 := h3 (l * 2 - d1) (-1) (by simp)
      have z2 := h3 (l * 3 - d2) (-2) (by simp)
      simp at h2
      unfold bestD
      split at hd1 <;> split at hd2 <;> split <;> omega
    rw [ea]
    unfold d_best_renewals g_best_renewals l_best_renewals_0
    simp [startE, List.replicate, e1, loopS, enumD, lendIn, backs, fz_tup, finF, outsOf, ml, gSort, rowsI, intsD, getP, slotO, O.get, putP, setO, O.put] at h1 ⊢
    simp [h1, fz_tup, finF, outsOf]
  · simp only [show (3 : Int).toNat = 3 from rfl, show List.range 3 = [0, 1, 2] from rfl, List.map_cons, List.map_nil] at e1
    obtain ⟨d1, hd1⟩ : ∃ d1, d1 = (if l * (1 + ((0 : Nat) : Int)) - w > 0 then l * (1 + ((0 : Nat) : Int)) - w else 0) := ⟨_, rfl⟩
    obtain ⟨d2, hd2⟩ : ∃ d2, d2 = (if l * (1 + ((1 : Nat) : Int)) - w > 0 then l * (1 + ((1 : Nat) : Int)) - w else 0) := ⟨_, rfl⟩
    obtain ⟨d3, hd3⟩ : ∃ d3, d3 = (if l * (1 + ((2 : Nat) : Int)) - w > 0 then l * (1 + ((2 : Nat) : Int)) - w else 0) := ⟨_, rfl⟩
    rw [← hd1, ← hd2, ← hd3] at e1
    obtain ⟨a, b, h1, h2, h3⟩ := last_pairs (ks := [[l, 0], [l * 2 - d1, -1], [l * 3 - d2, -2], [l * 4 - d3, -3]]) (by simp) (by simp)
    refine ⟨-b, ?_⟩
    have ea : bestD l 3 w = a := by
      have z := h3 l 0 (by simp)
      have z1 := h3 (l * 2 - d1) (-1) (by simp)
      have z2 := h3 (l * 3 - d2) (-2) (by simp)
      have z3 := h3 (l * 4 - d3) (-3) (by simp)
      simp at h2
      unfold bestD
      split at hd1 <;> split at hd2 <;> split at hd3 <;> split <;> omega
    rw [ea]
    unfold d_best_renewals g_best_renewals l_best_renewals_0
    simp [startE, List.replicate, e1, loopS, enumD, lendIn, backs, fz_tup, finF, outsOf, ml, gSort, rowsI, intsD, getP, slotO, O.get, putP, setO, O.put] at h1 ⊢
    simp [h1, fz_tup, finF, outsOf]
end DP
end

section
namespace DP
open PySem PySem.Spec PyProof.Rows L2 DP.G
/-- the longest wait of a place -/
def longD (c l r w h p : Int) : Int := (if h + l > bestD l r w then h + l else bestD l r w) + (h + l) * ((p + c - 1) / c - 1)
theorem longest_of_ok {c l r w h s p : Int} (c0 : 1 ≤ c) (c1 : c ≤ 1000) (l0 : 1 ≤ l) (l1 : l ≤ 30) (r0 : 0 ≤ r) (r1 : r ≤ 3) (w0 : 0 ≤ w) (h0 : 0 ≤ h) (h1 : h ≤ 10) : d_longest_of [.dat (rulD c l r w h s), .dat (.int p)] = .ok (.dat (.int (longD c l r w h p))) [] := by
  obtain ⟨b, e1⟩ := best_ok (c := c) (h := h) (s := s) l0 l1 r0 r1 w0
  have mt : -18446744073709551616 < h + l ∧ h + l < 18446744073709551616 := by omega
  have mc : 0 < c ∧ c < 18446744073709551616 := by omega
  have e2 : d_turn_of [.dat (rulD c l r w h s)] = .ok (.dat (.int (h + l))) [] := by
    unfold d_turn_of g_turn_of
    simp [startE, finF, outsOf]
  have e3 : d_rounded_up [.dat (.int p), .dat (.int c)] = .ok (.dat (.int ((p + c - 1) / c))) [] := by
    unfold d_rounded_up g_rounded_up
    simp [startE, finF, outsOf, mc]
  unfold d_longest_of g_longest_of longD
  simp [startE, List.replicate, e1, e2, e3, lendIn, backs, finF, outsOf, mt]
theorem longest_wait_ok {c l r w h s p : Int} (R : Rul c l r w h s) (p0 : 1 ≤ p) (p1 : p ≤ 20) : d_longest_wait [.dat (rulD c l r w h s), .dat (.int p)] = .ok (.dat (.int (longD c l r w h p))) [] := by
  have R0 := R
  obtain ⟨c0, c1, l0, l1, r0, r1, w0, w1, h0, h1, s0, s1⟩ := R
  unfold d_longest_wait g_longest_wait
  simp [startE, c_MAX_PLACE, require_rules_ok R0, require_number_ok p0 p1, longest_of_ok (s := s) (p := p) c0 (by omega) l0 l1 r0 r1 w0 h0 h1, lendIn, backs, finF, outsOf]
theorem cut1 (a b c d e f : PyData) : cutD [a, b, c, d, e, f] (some 1) none = [b, c, d, e, f] := rfl
theorem cut2 (a b c d e f : PyData) : cutD [a, b, c, d, e, f] (some 2) none = [c, d, e, f] := rfl
@[simp] theorem gAdd_t (xs ys : List PyData) : gAdd (.tuple xs) (.tuple ys) = (if xs.length + ys.length ≤ 1000000 then some (.dat (.tuple (xs ++ ys))) else none) := (rfl)
@[simp] theorem kPart_eq (f : EF) (env : Env) : kPart f env = ((f env).bind fun o e => match o with
  | .dat (.int i) => .ok (some i) e
  | _ => .no) := (rfl)
@[simp] theorem kNoPart_eq (env : Env) : kNoPart env = .ok none env := (rfl)
@[simp] theorem kSl_eq (f : EF) (l h : Env → RE (Option Int)) (env : Env) : kSl f l h env = ((f env).bind fun o e1 => (l e1).bind fun lo e2 => (h e2).bind fun hi e3 => match o.toD with
  | some (.list ds) => .ok (.node .lst ((cutD ds lo hi).map .dat)) e3
  | some (.tuple ds) => .ok (.dat (.tuple (cutD ds lo hi))) e3
  | _ => .no) := (rfl)
theorem lay_ints : ∀ ns : List Int, PyData.canLayAll0 (ns.map .int) = true ∧ PyData.depthAll (ns.map .int) = 0
  | [] => ⟨rfl, rfl⟩
  | n :: ns => by
    obtain ⟨h1, h2⟩ := lay_ints ns
    exact ⟨by rw [List.map_cons, PyData.canLayAll0, h1]; rfl, by rw [List.map_cons, PyData.depthAll, h2]; rfl⟩
theorem shaped_ints (ns : List Int) : SeqAt.shaped (.list (ns.map .int)) = true := by
  obtain ⟨h1, h2⟩ := lay_ints ns
  unfold SeqAt.shaped
  rw [PyData.canLay0, h1, PyData.depth, h2]
  rfl
theorem ne_nil (ns : List Int) : gNe (.list (ns.map .int)) (.list []) = some (.dat (.bool (decide (ns ≠ [])))) := by
  unfold gNe
  rw [if_pos ⟨shaped_ints ns, rfl⟩]
  cases ns with
  | nil => rfl
  | cons x ns => simp [PyData.eqv, PyData.eqvAll]
def ofI (P : Int → Bool) : PyData → Bool
  | .int i => P i
  | _ => false
/-- the first of a range that does -/
theorem filter_first {lo : Int} {n : Nat} {P : Int → Bool} : ((rngD lo n).filter (ofI P)) = (((List.range n).map fun i : Nat => lo + (i : Int)).filter P).map .int := by
  unfold rngD
  induction n with
  | zero => rfl
  | succ n ih =>
    rw [List.range_succ]
    simp only [List.map_append, List.filter_append, ih, List.map_cons, List.map_nil]
    by_cases h : P (lo + (n : Int)) = true
    · simp [h, ofI]
    · simp [h, ofI]
/-- sorted range filters -/
def FirstOf (ns : List Int) (lo n : Int) (P : Int → Bool) : Prop := (ns = [] ∧ ∀ i, lo ≤ i → i < lo + n → P i = false) ∨ ∃ f z, ns ≠ [] ∧ atI (ns.map PyData.int) 0 = some (.int f) ∧ atI (ns.map PyData.int) (-1) = some (.int z) ∧ lo ≤ f ∧ f < lo + n ∧ P f = true ∧ (∀ i, lo ≤ i → i < f → P i = false) ∧ lo ≤ z ∧ z < lo + n ∧ P z = true ∧ ∀ i, z < i → i < lo + n → P i = false
theorem first_of (lo : Int) (P : Int → Bool) : ∀ n : Nat, FirstOf (((List.range n).map fun i : Nat => lo + (i : Int)).filter P) lo n P := by
  intro n
  induction n with
  | zero => exact .inl ⟨rfl, fun i h1 h2 => by omega⟩
  | succ n ih =>
    rw [List.range_succ, List.map_append, List.filter_append]
    simp only [List.map_cons, List.map_nil]
    generalize ((List.range n).map fun i : Nat => lo + (i : Int)).filter P = l at ih
    by_cases hp : P (lo + (n : Int)) = true
    · have e : ([lo + (n : Int)]).filter P = [lo + (n : Int)] := by simp [hp]
      rw [e]
      have lastq : atI ((l ++ [lo + (n : Int)]).map PyData.int) (-1) = some (.int (lo + n)) := by
        rw [List.map_append]
        exact atI_last _ _
      rcases ih with ⟨rfl, h⟩ | ⟨f, z, h1, h2, h3, h4, h5, h6, h7, h8, h9, h10, h11⟩
      · exact .inr ⟨lo + n, lo + n, by simp, rfl, lastq, by omega, by omega, hp, fun i a b => h i a b, by omega, by omega, hp, fun i a b => by omega⟩
      · refine .inr ⟨f, lo + n, by simp, ?_, lastq, h4, by omega, h6, h7, by omega, by omega, hp, fun i a b => by omega⟩
        cases l with
        | nil => exact absurd rfl h1
        | cons x l =>
          have : atI ((x :: l).map PyData.int) 0 = some (.int x) := atI_nat (j := 0) rfl
          rw [this] at h2
          rw [← h2]
          exact atI_nat (j := 0) rfl
    · have e : ([lo + (n : Int)]).filter P = [] := by simp [hp]
      rw [e, List.append_nil]
      have hq : P (lo + (n : Int)) = false := by simpa using hp
      have more : ∀ {i : Int}, i < lo + ((n + 1 : Nat) : Int) → i < lo + n ∨ i = lo + n := fun h => by omega
      rcases ih with ⟨rfl, h⟩ | ⟨f, z, h1, h2, h3, h4, h5, h6, h7, h8, h9, h10, h11⟩
      · refine .inl ⟨rfl, fun i a b => ?_⟩
        rcases more b with b | b
        · exact h i a b
        · rw [b]; exact hq
      · refine .inr ⟨f, z, h1, h2, h3, h4, by omega, h6, h7, h8, by omega, h10, fun i a b => ?_⟩
        rcases more b with b | b
        · exact h11 i a b
        · rw [b]; exact hq
theorem fewest_ok {c l r w h s p d : Int} (R : Rul c l r w h s) (p0 : 1 ≤ p) (p1 : p ≤ 20) (d0 : 0 ≤ d) (d1 : d ≤ 1000) :
    (d_fewest_copies [.dat (rulD c l r w h s), .dat (.int p), .dat (.int d)] = .ok (.dat .none) [] ∧ ∀ i, 1 ≤ i → i ≤ p → d < longD i l r w h p) ∨ ∃ f, d_fewest_copies [.dat (rulD c l r w h s), .dat (.int p), .dat (.int d)] = .ok (.dat (.int f)) [] ∧ 1 ≤ f ∧ f ≤ p ∧ longD f l r w h p ≤ d ∧ ∀ i, 1 ≤ i → i < f → d < longD i l r w h p := by
  have R0 := R
  obtain ⟨c0, c1, l0, l1, r0, r1, w0, w1, h0, h1, s0, s1⟩ := R
  obtain ⟨e, x, rfl⟩ := compL_inv (own := [4]) (hg := hName 4) (t := (kB (k2 gLe (kCall [false, false] [none, none] d_longest_of (kCons (k2 gAdd (kMk .tup (kCons (kVar 4) (kNil))) (kSl (kVar 0) (kPart (kD (.int 1))) kNoPart)) (kCons (kVar 1) (kNil)))) (kVar 2)))) (f := kVar 4) (ds := rngD 1 p.toNat) (acc := []) (fun env => env = [.v (.dat (rulD c l r w h s)), .v (.dat (.int p)), .v (.dat (.int d)), .no, .no])
    (ofI fun i => decide (longD i l r w h p ≤ d)) .dat (fun d' hd env ie => by
      subst ie
      obtain ⟨i, hi, rfl⟩ := rngD_mem hd
      have lo := longest_of_ok (c := 1 + (i : Int)) (s := s) (p := p) (by omega) (by omega) l0 l1 r0 r1 w0 h0 h1
      refine ⟨_, [.v (.dat (rulD c l r w h s)), .v (.dat (.int p)), .v (.dat (.int d)), .no, .v (.dat (.int (1 + (i : Int))))], by simp; rfl, ?_, fun _ => ⟨_, _, rfl, rfl, rfl⟩, fun _ => ⟨_, rfl, rfl⟩⟩
      simp [fz_tup, cut1, lo, lendIn, backs, ofI]) (by simp [rngD]; omega) rfl
  rw [List.nil_append, filter_first] at x
  have fo := first_of 1 (fun i => decide (longD i l r w h p ≤ d)) p.toNat
  generalize ((List.range p.toNat).map fun i : Nat => 1 + (i : Int)).filter (fun i => decide (longD i l r w h p ≤ d)) = ns at x fo
  have hb : -4611686018427387904 ≤ p + 1 ∧ p + 1 < 4611686018427387904 := by omega
  have pn : p + 1 - 1 = p := by omega
  have nn := ne_nil ns
  rcases fo with ⟨rfl, h⟩ | ⟨f, z, h1, h2, h3, h4, h5, h6, h7, h8⟩
  · refine .inl ⟨?_, fun i a b => by have := h i a (by omega); simpa using this⟩
    unfold d_fewest_copies g_fewest_copies
    simp [startE, List.replicate, c_MAX_PLACE, c_MAX_DAYS, require_rules_ok R0, require_number_ok p0 p1, require_number_ok d0 d1, lendIn, backs, hb, pn, wipeE, x, lcEnd, finF, outsOf] at nn ⊢
    simp [nn, finF, outsOf]
  · refine .inr ⟨f, ?_, h4, by omega, by simpa using h6, fun i a b => by have := h7 i a b; simpa using this⟩
    have nn' : (decide (ns ≠ [])) = true := by simpa using h1
    rw [nn'] at nn
    unfold d_fewest_copies g_fewest_copies
    simp [startE, List.replicate, c_MAX_PLACE, c_MAX_DAYS, require_rules_ok R0, require_number_ok p0 p1, require_number_ok d0 d1, lendIn, backs, hb, pn, wipeE, x, lcEnd, finF, outsOf, toDs_map]
    simp [toDs_map, nn, h2, finF, outsOf]
end DP
end

section
namespace DP
open PySem PySem.Spec PyProof.Rows L2 DP.G
theorem loan_ok {c l r w h s p d : Int} (R : Rul c l r w h s) (p0 : 1 ≤ p) (p1 : p ≤ 20) (d0 : 0 ≤ d) (d1 : d ≤ 1000) :
    (d_longest_loan [.dat (rulD c l r w h s), .dat (.int p), .dat (.int d)] = .ok (.dat .none) [] ∧ ∀ i, 1 ≤ i → i ≤ 30 → d < longD c i r w h p) ∨ ∃ f, d_longest_loan [.dat (rulD c l r w h s), .dat (.int p), .dat (.int d)] = .ok (.dat (.int f)) [] ∧ 1 ≤ f ∧ f ≤ 30 ∧ longD c f r w h p ≤ d ∧ ∀ i, f < i → i ≤ 30 → d < longD c i r w h p := by
  have R0 := R
  obtain ⟨c0, c1, l0, l1, r0, r1, w0, w1, h0, h1, s0, s1⟩ := R
  obtain ⟨e, x, rfl⟩ := compL_inv (own := [4]) (hg := hName 4) (t := (kB (k2 gLe (kCall [false, false] [none, none] d_longest_of (kCons (k2 gAdd (kMk .tup (kCons (k2 gIx (kVar 0) (kD (.int 0))) (kCons (kVar 4) (kNil)))) (kSl (kVar 0) (kPart (kD (.int 2))) kNoPart)) (kCons (kVar 1) (kNil)))) (kVar 2)))) (f := kVar 4) (ds := rngD 1 30) (acc := []) (fun env => env = [.v (.dat (rulD c l r w h s)), .v (.dat (.int p)), .v (.dat (.int d)), .no, .no])
    (ofI fun i => decide (longD c i r w h p ≤ d)) .dat (fun d' hd env ie => by
      subst ie
      obtain ⟨i, hi, rfl⟩ := rngD_mem hd
      have lo := longest_of_ok (l := 1 + (i : Int)) (s := s) (p := p) c0 (by omega) (by omega) (by omega) r0 r1 w0 h0 h1
      refine ⟨_, [.v (.dat (rulD c l r w h s)), .v (.dat (.int p)), .v (.dat (.int d)), .no, .v (.dat (.int (1 + (i : Int))))], by simp; rfl, ?_, fun _ => ⟨_, _, rfl, rfl, rfl⟩, fun _ => ⟨_, rfl, rfl⟩⟩
      simp [fz_tup, cut2, lo, lendIn, backs, ofI]) (by simp [rngD]) rfl
  rw [List.nil_append, filter_first (lo := 1) (n := 30) (P := fun i => decide (longD c i r w h p ≤ d))] at x
  have fo := first_of 1 (fun i => decide (longD c i r w h p ≤ d)) 30
  generalize ((List.range 30).map fun i : Nat => 1 + (i : Int)).filter (fun i => decide (longD c i r w h p ≤ d)) = ns at x fo
  have nn := ne_nil ns
  rcases fo with ⟨rfl, h⟩ | ⟨f, z, h1, h2, h3, h4, h5, h6, h7, h8, h9, h10, h11⟩
  · refine .inl ⟨?_, fun i a b => by have := h i a (by omega); simpa using this⟩
    unfold d_longest_loan g_longest_loan
    simp [startE, List.replicate, c_MAX_PLACE, c_MAX_DAYS, c_HIGHS, require_rules_ok R0, require_number_ok p0 p1, require_number_ok d0 d1, lendIn, backs, wipeE, x, lcEnd, finF, outsOf] at nn ⊢
    simp [nn, finF, outsOf]
  · refine .inr ⟨z, ?_, h8, by omega, by simpa using h10, fun i a b => by have := h11 i a (by omega); simpa using this⟩
    have nn' : (decide (ns ≠ [])) = true := by simpa using h1
    rw [nn'] at nn
    unfold d_longest_loan g_longest_loan
    simp [startE, List.replicate, c_MAX_PLACE, c_MAX_DAYS, c_HIGHS, require_rules_ok R0, require_number_ok p0 p1, require_number_ok d0 d1, lendIn, backs, wipeE, x, lcEnd, finF, outsOf, toDs_map]
    simp [toDs_map, nn, h3, finF, outsOf]
/-! ### how the longest wait grows -/
theorem ceil_pos {p c : Int} (p0 : 1 ≤ p) (c0 : 1 ≤ c) : 1 ≤ (p + c - 1) / c := by
  have := Int.ediv_le_ediv (c := c) (by omega) (show c ≤ p + c - 1 by omega)
  rwa [Int.ediv_self (by omega)] at this
theorem ceil_copy {p c : Int} (p0 : 1 ≤ p) (c0 : 1 ≤ c) : (p + (c + 1) - 1) / (c + 1) ≤ (p + c - 1) / c := by
  obtain ⟨h1, _⟩ := ceil_of (t := p) (b := c) (by omega)
  have u0 := ceil_pos p0 c0
  generalize (p + c - 1) / c = u at *
  have : u * c + u = u * (c + 1) := by rw [Int.mul_add, Int.mul_one]
  refine Int.lt_add_one_iff.mp (Int.ediv_lt_of_lt_mul (by omega) ?_)
  rw [Int.add_mul]
  omega
theorem ceil_place {p c : Int} (p0 : 1 ≤ p) (c0 : 1 ≤ c) : (p + c - 1) / c ≤ (p + 1 + c - 1) / c ∧ (p + 1 + c - 1) / c ≤ (p + c - 1) / c + 1 := by
  refine ⟨Int.ediv_le_ediv (by omega) (by omega), ?_⟩
  have := Int.ediv_le_ediv (c := c) (by omega) (show p + 1 + c - 1 ≤ (p + c - 1) + 1 * c by omega)
  rwa [Int.add_mul_ediv_right _ _ (by omega)] at this
theorem mul_up {a b k : Int} (h : a ≤ b) (k0 : 0 ≤ k) : a * k ≤ b * k := Int.mul_le_mul_of_nonneg_right h k0
theorem best_up {l r w l' r' w' : Int} (l0 : 1 ≤ l) (r0 : 0 ≤ r) (r1 : r' ≤ 3) (hl : l ≤ l') (hr : r ≤ r') (hw : w ≤ w') : bestD l r w ≤ bestD l' r' w' := by
  have k1 : l * (1 + r) ≤ l' * (1 + r') := Int.mul_le_mul hl (by omega) (by omega) (by omega)
  unfold bestD
  split <;> split <;> omega
theorem long_up {c l r w h p l' r' w' h' : Int} (c0 : 1 ≤ c) (p0 : 1 ≤ p) (l0 : 1 ≤ l) (r0 : 0 ≤ r) (r1 : r' ≤ 3) (hl : l ≤ l') (hr : r ≤ r') (hw : w ≤ w') (hh : h ≤ h') : longD c l r w h p ≤ longD c l' r' w' h' p := by
  have b := best_up l0 r0 r1 hl hr hw
  have u0 := ceil_pos p0 c0
  have m := mul_up (show h + l ≤ h' + l' by omega) (show 0 ≤ (p + c - 1) / c - 1 by omega)
  unfold longD
  split <;> split <;> omega
theorem long_copy {c l r w h p : Int} (c0 : 1 ≤ c) (p0 : 1 ≤ p) (h0 : 0 ≤ h + l) : longD (c + 1) l r w h p ≤ longD c l r w h p := by
  have u := ceil_copy p0 c0
  have m := Int.mul_le_mul_of_nonneg_left (show (p + (c + 1) - 1) / (c + 1) - 1 ≤ (p + c - 1) / c - 1 by omega) h0
  unfold longD
  omega
theorem long_place {c l r w h p : Int} (c0 : 1 ≤ c) (p0 : 1 ≤ p) (h0 : 0 ≤ h + l) : longD c l r w h p ≤ longD c l r w h (p + 1) ∧ longD c l r w h (p + 1) ≤ longD c l r w h p + l + h := by
  obtain ⟨u1, u2⟩ := ceil_place p0 c0
  have m := Int.mul_le_mul_of_nonneg_left (show (p + c - 1) / c - 1 ≤ (p + 1 + c - 1) / c - 1 by omega) h0
  have m2 := Int.mul_le_mul_of_nonneg_left (show (p + 1 + c - 1) / c - 1 ≤ (p + c - 1) / c - 1 + 1 by omega) h0
  rw [Int.mul_add, Int.mul_one] at m2
  unfold longD
  omega
theorem long_bound {c l r w h p : Int} (c0 : 1 ≤ c) (p0 : 1 ≤ p) (p1 : p ≤ 20) (l0 : 1 ≤ l) (l1 : l ≤ 30) (r0 : 0 ≤ r) (r1 : r ≤ 3) (w1 : w ≤ 30) (w0 : 0 ≤ w) (h0 : 0 ≤ h) (h1 : h ≤ 10) : 1 ≤ longD c l r w h p ∧ longD c l r w h p ≤ 880 := by
  have u0 := ceil_pos p0 c0
  have u1 : (p + c - 1) / c ≤ 20 := by
    refine Int.lt_add_one_iff.mp (Int.ediv_lt_of_lt_mul (by omega) ?_)
    have : 1 * 20 ≤ c * 20 := mul_up c0 (by omega)
    omega
  have b : bestD l r w ≤ 60 := by
    unfold bestD
    split <;> omega
  have m := Int.mul_le_mul (show h + l ≤ 40 by omega) (show (p + c - 1) / c - 1 ≤ 19 by omega) (by omega) (by omega)
  have m0 := Int.mul_nonneg (show 0 ≤ h + l by omega) (show 0 ≤ (p + c - 1) / c - 1 by omega)
  unfold longD
  split <;> omega
end DP
end

section
namespace DP.K14
open PySem PySem.Spec PyProof.Rows L2 DP.G
/-- law: script, k, source, r, place, here, highs_so, at, there, days, copies_so, loan -/
def l_law_0 : Env → RS := kIf (kB (k2 gLt (k2 gIx (kVar 3) (kVar 7)) (k2 gIx (kFrz 6) (kVar 7)))) (kSq (kAs (kCall [false, false] [none, none] d_longest_wait (kCons (k2 gAdd (k2 gAdd (kSl (kVar 3) kNoPart (kPart (kVar 7))) (kMk .tup (kCons (k2 gAdd (k2 gIx (kVar 3) (kVar 7)) (kD (.int 1))) (kNil)))) (kSl (kVar 3) (kPart (k2 gAdd (kVar 7) (kD (.int 1)))) kNoPart)) (kCons (kVar 4) (kNil)))) (hName 8)) (kIf (kOr (kAnd (kB (k2 gEq (kVar 7) (kD (.int 0)))) (kB (k2 gGt (kVar 8) (kVar 5)))) (kOr (kAnd (kB (k2 gEq (kVar 7) (kD (.int 5)))) (kB (k2 gNe (kVar 8) (kVar 5)))) (kAnd (kB (kCh gLt gLt (kD (.int 0)) (kVar 7) (kD (.int 5)))) (kB (k2 gLt (kVar 8) (kVar 5)))))) (kRt (kD (.bool false))) (kNx))) (kNx)
def l_law_1 : Env → RS := kSq (kAs (kCall [false, false] [none, none] d__law_source (kCons (kVar 0) (kCons (kVar 1) (kNil)))) (hName 2)) (kSq (kAs (kCall [true] [some 2] d__law_rules (kCons (kMark 2) (kNil))) (hName 3)) (kSq (kAs (k2 gAdd (kD (.int 1)) (kCall [true, false] [some 2, none] d__law_pick (kCons (kMark 2) (kCons (kD (.int 19)) (kNil))))) (hName 4)) (kSq (kAs (kCall [false, false] [none, none] d_longest_wait (kCons (kVar 3) (kCons (kVar 4) (kNil)))) (hName 5)) (kSq (kAs (kMk .lst (kCons (kD (.int 4)) (kCons (kD (.int 30)) (kCons (kD (.int 3)) (kCons (kD (.int 30)) (kCons (kD (.int 10)) (kCons (kD (.int 30)) (kNil)))))))) (hName 6)) (kSq (kFor (kRng1 (kCons (kD (.int 6)) (kNil))) (hName 7) l_law_0) (kSq (kIf (kOr (kB (k2 gLt (kCall [false, false] [none, none] d_longest_wait (kCons (kVar 3) (kCons (k2 gAdd (kVar 4) (kD (.int 1))) (kNil)))) (kVar 5))) (kB (k2 gGt (kCall [false, false] [none, none] d_longest_wait (kCons (kVar 3) (kCons (k2 gAdd (kVar 4) (kD (.int 1))) (kNil)))) (k2 gAdd (k2 gAdd (kVar 5) (k2 gIx (kVar 3) (kD (.int 1)))) (k2 gIx (kVar 3) (kD (.int 4))))))) (kRt (kD (.bool false))) (kNx)) (kSq (kAs (kn gMax2 (kCons (kD (.int 0)) (kCons (k2 gSub (k2 gAdd (kVar 5) (kCall [true, false] [some 2, none] d__law_pick (kCons (kMark 2) (kCons (kD (.int 9)) (kNil))))) (kD (.int 4))) (kNil)))) (hName 9)) (kSq (kAs (kCall [false, false, false] [none, none, none] d_fewest_copies (kCons (kVar 3) (kCons (kVar 4) (kCons (kVar 9) (kNil))))) (hName 10)) (kSq (kIf (kAnd (kB (k2 gIsNot (kVar 10) (kD .none))) (kB (k2 gLe (kVar 10) (kD (.int 4))))) (kSq (kIf (kB (k2 gGt (kCall [false, false] [none, none] d_longest_wait (kCons (k2 gAdd (kMk .tup (kCons (kVar 10) (kNil))) (kSl (kVar 3) (kPart (kD (.int 1))) kNoPart)) (kCons (kVar 4) (kNil)))) (kVar 9))) (kRt (kD (.bool false))) (kNx)) (kIf (kAnd (kB (k2 gGt (kVar 10) (kD (.int 1)))) (kB (k2 gLe (kCall [false, false] [none, none] d_longest_wait (kCons (k2 gAdd (kMk .tup (kCons (k2 gSub (kVar 10) (kD (.int 1))) (kNil))) (kSl (kVar 3) (kPart (kD (.int 1))) kNoPart)) (kCons (kVar 4) (kNil)))) (kVar 9)))) (kRt (kD (.bool false))) (kNx))) (kNx)) (kSq (kAs (kCall [false, false, false] [none, none, none] d_longest_loan (kCons (kVar 3) (kCons (kVar 4) (kCons (kVar 9) (kNil))))) (hName 11)) (kSq (kIf (kB (k2 gNe (kOrV (k2 gIs (kVar 11) (kD .none)) (k2 gLt (kVar 11) (k2 gIx (kVar 3) (kD (.int 1))))) (k2 gGt (kVar 5) (kVar 9)))) (kRt (kD (.bool false))) (kNx)) (kIf (kAnd (kB (k2 gIsNot (kVar 11) (kD .none))) (kB (k2 gGt (kCall [false, false] [none, none] d_longest_wait (kCons (k2 gAdd (kMk .tup (kCons (k2 gIx (kVar 3) (kD (.int 0))) (kCons (kVar 11) (kNil)))) (kSl (kVar 3) (kPart (kD (.int 2))) kNoPart)) (kCons (kVar 4) (kNil)))) (kVar 9)))) (kRt (kD (.bool false))) (kNx)))))))))))))
def g_law : Env → RS := kSq (kFor (kRng1 (kCons (kn gMax2 (kCons (kD (.int 6)) (kCons (kn gMin2 (kCons (kD (.int 24)) (kCons (kn gLen (kCons (kVar 0) (kNil))) (kNil)))) (kNil)))) (kNil))) (hName 1) l_law_1) (kRt (k2 gEq (kCall [false, false] [none, none] d_longest_wait (kCons (kMk .tup (kCons (kD (.int 1)) (kCons (kD (.int 1)) (kCons (kD (.int 0)) (kCons (kD (.int 0)) (kCons (kD (.int 0)) (kCons (kD (.int 0)) (kNil)))))))) (kCons (kD (.int 1)) (kNil)))) (kD (.int 1))))
def d_law : List O → RF := fun os => finF [false] (g_law (startE [false] os 12))
end DP.K14
end

section
namespace DP.K14
open PySem PySem.Spec PyProof.Rows L2 DP.G
def topS (i : Nat) : Stmt := PySem.Challenge.pw_loandesks_k14_whole_waits_grow.main.body.getD i (.Pass ⟨0, 0, 0, 0⟩)
structure Adr where
  f_is_integer : Addr
  fd_is_integer : FuncData
  f_is_rules : Addr
  fd_is_rules : FuncData
  f_require_rules : Addr
  fd_require_rules : FuncData
  f_require_number : Addr
  fd_require_number : FuncData
  f_rounded_up : Addr
  fd_rounded_up : FuncData
  f_renewal_days : Addr
  fd_renewal_days : FuncData
  f_best_renewals : Addr
  fd_best_renewals : FuncData
  f_turn_of : Addr
  fd_turn_of : FuncData
  f_longest_of : Addr
  fd_longest_of : FuncData
  f_longest_wait : Addr
  fd_longest_wait : FuncData
  f_fewest_copies : Addr
  fd_fewest_copies : FuncData
  f_longest_loan : Addr
  fd_longest_loan : FuncData
  f__law_source : Addr
  fd__law_source : FuncData
  f__law_pick : Addr
  fd__law_pick : FuncData
  f__law_rules : Addr
  fd__law_rules : FuncData
  f_law : Addr
  fd_law : FuncData
  C_DeskError : Addr
  C_InvalidRules : Addr
  C_InvalidNumber : Addr
def clsOf (A : Adr) : Str → Value := fun x => if x = "DeskError" then .ref A.C_DeskError else if x = "InvalidRules" then .ref A.C_InvalidRules else if x = "InvalidNumber" then .ref A.C_InvalidNumber else Value.none
structure Txt (K : Frag) (mg : Str → Option Value) (A : Adr) : Prop where
  F_is_integer : Fun K "is_integer" "is_integer" (topS 8) A.f_is_integer A.fd_is_integer
  g_is_integer : mg "is_integer" = some (.ref A.f_is_integer)
  b_is_integer : Binds K A.fd_is_integer ["value", "low", "high"] []
  F_is_rules : Fun K "is_rules" "is_rules" (topS 9) A.f_is_rules A.fd_is_rules
  g_is_rules : mg "is_rules" = some (.ref A.f_is_rules)
  b_is_rules : Binds K A.fd_is_rules ["value"] []
  F_require_rules : Fun K "require_rules" "require_rules" (topS 10) A.f_require_rules A.fd_require_rules
  g_require_rules : mg "require_rules" = some (.ref A.f_require_rules)
  b_require_rules : Binds K A.fd_require_rules ["value"] []
  F_require_number : Fun K "require_number" "require_number" (topS 11) A.f_require_number A.fd_require_number
  g_require_number : mg "require_number" = some (.ref A.f_require_number)
  b_require_number : Binds K A.fd_require_number ["value", "low", "high"] []
  F_rounded_up : Fun K "rounded_up" "rounded_up" (topS 14) A.f_rounded_up A.fd_rounded_up
  g_rounded_up : mg "rounded_up" = some (.ref A.f_rounded_up)
  b_rounded_up : Binds K A.fd_rounded_up ["top", "bottom"] []
  F_renewal_days : Fun K "renewal_days" "renewal_days" (topS 15) A.f_renewal_days A.fd_renewal_days
  g_renewal_days : mg "renewal_days" = some (.ref A.f_renewal_days)
  b_renewal_days : Binds K A.fd_renewal_days ["rules"] []
  F_best_renewals : Fun K "best_renewals" "best_renewals" (topS 16) A.f_best_renewals A.fd_best_renewals
  g_best_renewals : mg "best_renewals" = some (.ref A.f_best_renewals)
  b_best_renewals : Binds K A.fd_best_renewals ["rules"] []
  F_turn_of : Fun K "turn_of" "turn_of" (topS 17) A.f_turn_of A.fd_turn_of
  g_turn_of : mg "turn_of" = some (.ref A.f_turn_of)
  b_turn_of : Binds K A.fd_turn_of ["rules"] []
  F_longest_of : Fun K "longest_of" "longest_of" (topS 18) A.f_longest_of A.fd_longest_of
  g_longest_of : mg "longest_of" = some (.ref A.f_longest_of)
  b_longest_of : Binds K A.fd_longest_of ["rules", "place"] []
  F_longest_wait : Fun K "longest_wait" "longest_wait" (topS 19) A.f_longest_wait A.fd_longest_wait
  g_longest_wait : mg "longest_wait" = some (.ref A.f_longest_wait)
  b_longest_wait : Binds K A.fd_longest_wait ["rules", "place"] []
  F_fewest_copies : Fun K "fewest_copies" "fewest_copies" (topS 21) A.f_fewest_copies A.fd_fewest_copies
  g_fewest_copies : mg "fewest_copies" = some (.ref A.f_fewest_copies)
  b_fewest_copies : Binds K A.fd_fewest_copies ["rules", "place", "days"] []
  F_longest_loan : Fun K "longest_loan" "longest_loan" (topS 22) A.f_longest_loan A.fd_longest_loan
  g_longest_loan : mg "longest_loan" = some (.ref A.f_longest_loan)
  b_longest_loan : Binds K A.fd_longest_loan ["rules", "place", "days"] []
  F__law_source : Fun K "_law_source" "_law_source" (topS 24) A.f__law_source A.fd__law_source
  g__law_source : mg "_law_source" = some (.ref A.f__law_source)
  b__law_source : Binds K A.fd__law_source ["script", "k"] []
  F__law_pick : Fun K "_law_pick" "_law_pick" (topS 25) A.f__law_pick A.fd__law_pick
  g__law_pick : mg "_law_pick" = some (.ref A.f__law_pick)
  b__law_pick : Binds K A.fd__law_pick ["source", "size"] []
  F__law_rules : Fun K "_law_rules" "_law_rules" (topS 26) A.f__law_rules A.fd__law_rules
  g__law_rules : mg "_law_rules" = some (.ref A.f__law_rules)
  b__law_rules : Binds K A.fd__law_rules ["source"] []
  F_law : Fun K "law" "law" (topS 27) A.f_law A.fd_law
  g_law : mg "law" = some (.ref A.f_law)
  b_law : Binds K A.fd_law ["script"] []
  z_all : mg "all" = none
  z_bool : mg "bool" = none
  z_enumerate : mg "enumerate" = none
  z_int : mg "int" = none
  z_isinstance : mg "isinstance" = none
  z_len : mg "len" = none
  z_max : mg "max" = none
  z_min : mg "min" = none
  z_range : mg "range" = none
  z_sorted : mg "sorted" = none
  z_tuple : mg "tuple" = none
  z_zip : mg "zip" = none
  gc_HIGHS : ∃ u v, mg "HIGHS" = some u ∧ RelV v u ∧ ∀ F, DR K F v c_HIGHS
  gc_LOWS : ∃ u v, mg "LOWS" = some u ∧ RelV v u ∧ ∀ F, DR K F v c_LOWS
  gc_MAX_DAYS : ∃ u v, mg "MAX_DAYS" = some u ∧ RelV v u ∧ ∀ F, DR K F v c_MAX_DAYS
  gc_MAX_PLACE : ∃ u v, mg "MAX_PLACE" = some u ∧ RelV v u ∧ ∀ F, DR K F v c_MAX_PLACE
  g_InvalidNumber : mg "InvalidNumber" = some (.ref A.C_InvalidNumber)
  x_InvalidNumber : PySem.W.excIn K A.C_InvalidNumber [.type "ValueError", .type "Exception", .type "BaseException", .type "object"] "ValueError.__new__" = true
  k_InvalidNumber : PySem.W.keepIn K (.ref A.C_InvalidNumber) = true
  e_InvalidNumber : PySem.W.subIn K (.ref A.C_InvalidNumber) (.type "BaseException") = some true
  t_InvalidNumber : PySem.W.typeIn K (.ref A.C_InvalidNumber) = some (.type "type")
  g_InvalidRules : mg "InvalidRules" = some (.ref A.C_InvalidRules)
  x_InvalidRules : PySem.W.excIn K A.C_InvalidRules [.type "ValueError", .type "Exception", .type "BaseException", .type "object"] "ValueError.__new__" = true
  k_InvalidRules : PySem.W.keepIn K (.ref A.C_InvalidRules) = true
  e_InvalidRules : PySem.W.subIn K (.ref A.C_InvalidRules) (.type "BaseException") = some true
  t_InvalidRules : PySem.W.typeIn K (.ref A.C_InvalidRules) = some (.type "type")
section
variable {P : Program} {w : World} {K : Frag} {mg : Str → Option Value} {base : Heap} {A : Adr}
theorem sc_is_integer : FnScope ["value", "low", "high"] ["value", "low", "high"] (defScope (topS 8)) := ⟨rfl, rfl, rfl, by decide +kernel, rfl, by decide +kernel, by decide +kernel⟩
theorem ok_is_integer (T : Txt K mg A) : FnOk P w K mg base (L2.CX P w) 1 A.f_is_integer A.fd_is_integer ["value", "low", "high"] (spD K (clsOf A) [false, false, false] d_is_integer) := by
  refine fn_ok (k := 0) (g := g_is_integer) T.F_is_integer sc_is_integer (by decide) rfl (fun os _ => rfl) fun cdv A' outer s H vs E hr F fp => ?_
  have tk : Takes (cxOf (L2.CX P w) P w K mg base ["value", "low", "high"] "is_integer" (defScope (topS 8)) A.f_is_integer cdv A' outer s H E) (fcOf K (clsOf A) [false, false, false] ["value", "low", "high"] vs H E F fp).W := takes_of rfl rfl rfl rfl
  have hp := passes_of (X := cxOf (L2.CX P w) P w K mg base ["value", "low", "high"] "is_integer" (defScope (topS 8)) A.f_is_integer cdv A' outer s H E) rfl
  exact ds_one (ds_ret (de_and (de_isi rfl (by decide) (by rfl) T.z_isinstance (by rfl) T.z_int PyProof.Rows.boot_int (de_var (pv 0))) (de_and (de_not (de_isi rfl (by decide) (by rfl) T.z_isinstance (by rfl) T.z_bool PyProof.Rows.boot_bool (de_var (pv 0)))) (de_one (de_chain op_le op_le o_cmp o_cmp (de_var (pv 1)) (de_var (pv 0)) (de_var (pv 2)))))))
theorem sc_is_rules : FnScope ["value", "item", "low", "high"] ["value"] (defScope (topS 9)) := ⟨rfl, rfl, rfl, by decide +kernel, rfl, by decide +kernel, by decide +kernel⟩
theorem ok_is_rules (T : Txt K mg A) : FnOk P w K mg base (L2.CX P w) 2 A.f_is_rules A.fd_is_rules ["value"] (spD K (clsOf A) [false] d_is_rules) := by
  have G_is_integer : FnOk P w K mg base (L2.CX P w) 1 A.f_is_integer A.fd_is_integer ["value", "low", "high"] (spD K (clsOf A) [false, false, false] d_is_integer) := ok_is_integer T
  refine fn_ok (k := 1) (g := g_is_rules) T.F_is_rules sc_is_rules (by decide) rfl (fun os _ => rfl) fun cdv A' outer s H vs E hr F fp => ?_
  have tk : Takes (cxOf (L2.CX P w) P w K mg base ["value", "item", "low", "high"] "is_rules" (defScope (topS 9)) A.f_is_rules cdv A' outer s H E) (fcOf K (clsOf A) [false] ["value", "item", "low", "high"] vs H E F fp).W := takes_of rfl rfl rfl rfl
  have hp := passes_of (X := cxOf (L2.CX P w) P w K mg base ["value", "item", "low", "high"] "is_rules" (defScope (topS 9)) A.f_is_rules cdv A' outer s H E) rfl
  exact ds_cons (ds_if (dt_bool (dw_or (dt_not (dt_val (de_isi rfl (by decide) (by rfl) T.z_isinstance (by rfl) T.z_tuple PyProof.Rows.boot_tuple (de_var (pv 0))))) (dw_or1 (dt_cmp (op_neD hr.units) o_ne (de_cb call_lenA o_len (by rfl) T.z_len (by decide +kernel) (da_cons (de_var (pv 0)) (da_nil))) (de_int) (nomark _))))) (ds_one (ds_ret (de_bl))) (ds_nil)) (ds_one (ds_ret (de_cb (cr_all rfl) o_all (by rfl) T.z_all (by decide +kernel) (da_cons (de_lc (own := [("item", 1), ("low", 2), ("high", 3)]) rfl sc_is_rules.nd (di_zip3 rfl (by rfl) T.z_zip (da_cons (de_var (pv 0)) (da_cons (de_glob (by rfl) T.gc_LOWS.choose_spec.choose_spec.1 T.gc_LOWS.choose_spec.choose_spec.2.1 T.gc_LOWS.choose_spec.choose_spec.2.2) (da_cons (de_glob (by rfl) T.gc_HIGHS.choose_spec.choose_spec.1 T.gc_HIGHS.choose_spec.choose_spec.2.1 T.gc_HIGHS.choose_spec.choose_spec.2.2) (da_nil))))) (blkOk_by (N := ["value", "item", "low", "high"]) (sc := defScope (topS 9)) (own := [("item", 1), ("low", 2), ("high", 3)]) (by decide +kernel)) (by decide) (fun _ _ _ _ _ => dg_tup rfl rfl (dgs_cons (dg_name (pg_name (i := 1) sc_is_rules.nd rfl (.inl rfl))) (dgs_cons (dg_name (pg_name (i := 2) sc_is_rules.nd rfl (.inl rfl))) (dgs_cons (dg_name (pg_name (i := 3) sc_is_rules.nd rfl (.inl rfl))) (dgs_nil))))) (fun _ _ _ _ _ => dts_nil) (fun _ _ _ _ _ => de_call G_is_integer (hr.mono (by decide)) (by rfl) T.g_is_integer T.F_is_integer.kp T.b_is_integer (fun σ => pass_still σ) (da_cons (de_var (pv 1)) (da_cons (de_var (pv 2)) (da_cons (de_var (pv 3)) (da_nil)))))) (da_nil)))))
theorem sc_require_rules : FnScope ["value"] ["value"] (defScope (topS 10)) := ⟨rfl, rfl, rfl, by decide +kernel, rfl, by decide +kernel, by decide +kernel⟩
theorem ok_require_rules (T : Txt K mg A) : FnOk P w K mg base (L2.CX P w) 3 A.f_require_rules A.fd_require_rules ["value"] (spD K (clsOf A) [false] d_require_rules) := by
  have G_is_rules : FnOk P w K mg base (L2.CX P w) 2 A.f_is_rules A.fd_is_rules ["value"] (spD K (clsOf A) [false] d_is_rules) := ok_is_rules T
  refine fn_ok (k := 2) (g := g_require_rules) T.F_require_rules sc_require_rules (by decide) rfl (fun os _ => rfl) fun cdv A' outer s H vs E hr F fp => ?_
  have tk : Takes (cxOf (L2.CX P w) P w K mg base ["value"] "require_rules" (defScope (topS 10)) A.f_require_rules cdv A' outer s H E) (fcOf K (clsOf A) [false] ["value"] vs H E F fp).W := takes_of rfl rfl rfl rfl
  have hp := passes_of (X := cxOf (L2.CX P w) P w K mg base ["value"] "require_rules" (defScope (topS 10)) A.f_require_rules cdv A' outer s H E) rfl
  exact ds_one (ds_if (dt_not (dt_val (de_call G_is_rules (hr.mono (by decide)) (by rfl) T.g_is_rules T.F_is_rules.kp T.b_is_rules (fun σ => passAt tk σ) (da_cons (de_var (pv 0)) (da_nil))))) (ds_one (ds_raise rfl tk PySem.F.excBase_ValueError T.x_InvalidRules T.g_InvalidRules T.k_InvalidRules (raises_own T.e_InvalidRules T.t_InvalidRules) (by rfl) (by rfl))) (ds_nil))
theorem sc_require_number : FnScope ["value", "low", "high"] ["value", "low", "high"] (defScope (topS 11)) := ⟨rfl, rfl, rfl, by decide +kernel, rfl, by decide +kernel, by decide +kernel⟩
theorem ok_require_number (T : Txt K mg A) : FnOk P w K mg base (L2.CX P w) 2 A.f_require_number A.fd_require_number ["value", "low", "high"] (spD K (clsOf A) [false, false, false] d_require_number) := by
  have G_is_integer : FnOk P w K mg base (L2.CX P w) 1 A.f_is_integer A.fd_is_integer ["value", "low", "high"] (spD K (clsOf A) [false, false, false] d_is_integer) := ok_is_integer T
  refine fn_ok (k := 1) (g := g_require_number) T.F_require_number sc_require_number (by decide) rfl (fun os _ => rfl) fun cdv A' outer s H vs E hr F fp => ?_
  have tk : Takes (cxOf (L2.CX P w) P w K mg base ["value", "low", "high"] "require_number" (defScope (topS 11)) A.f_require_number cdv A' outer s H E) (fcOf K (clsOf A) [false, false, false] ["value", "low", "high"] vs H E F fp).W := takes_of rfl rfl rfl rfl
  have hp := passes_of (X := cxOf (L2.CX P w) P w K mg base ["value", "low", "high"] "require_number" (defScope (topS 11)) A.f_require_number cdv A' outer s H E) rfl
  exact ds_one (ds_if (dt_not (dt_val (de_call G_is_integer (hr.mono (by decide)) (by rfl) T.g_is_integer T.F_is_integer.kp T.b_is_integer (fun σ => passAt tk σ) (da_cons (de_var (pv 0)) (da_cons (de_var (pv 1)) (da_cons (de_var (pv 2)) (da_nil))))))) (ds_one (ds_raise rfl tk PySem.F.excBase_ValueError T.x_InvalidNumber T.g_InvalidNumber T.k_InvalidNumber (raises_own T.e_InvalidNumber T.t_InvalidNumber) (by rfl) (by rfl))) (ds_nil))
theorem sc_rounded_up : FnScope ["top", "bottom"] ["top", "bottom"] (defScope (topS 14)) := ⟨rfl, rfl, rfl, by decide +kernel, rfl, by decide +kernel, by decide +kernel⟩
theorem ok_rounded_up (T : Txt K mg A) : FnOk P w K mg base (L2.CX P w) 1 A.f_rounded_up A.fd_rounded_up ["top", "bottom"] (spD K (clsOf A) [false, false] d_rounded_up) := by
  refine fn_ok (k := 0) (g := g_rounded_up) T.F_rounded_up sc_rounded_up (by decide) rfl (fun os _ => rfl) fun cdv A' outer s H vs E hr F fp => ?_
  have tk : Takes (cxOf (L2.CX P w) P w K mg base ["top", "bottom"] "rounded_up" (defScope (topS 14)) A.f_rounded_up cdv A' outer s H E) (fcOf K (clsOf A) [false, false] ["top", "bottom"] vs H E F fp).W := takes_of rfl rfl rfl rfl
  have hp := passes_of (X := cxOf (L2.CX P w) P w K mg base ["top", "bottom"] "rounded_up" (defScope (topS 14)) A.f_rounded_up cdv A' outer s H E) rfl
  exact ds_one (ds_ret (de_op op_fdivW o_div (de_op op_sub o_sub (de_op op_addA o_add (de_var (pv 0)) (de_var (pv 1))) (de_int)) (de_var (pv 1))))
theorem sc_renewal_days : FnScope ["rules", "count"] ["rules"] (defScope (topS 15)) := ⟨rfl, rfl, rfl, by decide +kernel, rfl, by decide +kernel, by decide +kernel⟩
theorem ok_renewal_days (T : Txt K mg A) : FnOk P w K mg base (L2.CX P w) 1 A.f_renewal_days A.fd_renewal_days ["rules"] (spD K (clsOf A) [false] d_renewal_days) := by
  refine fn_ok (k := 0) (g := g_renewal_days) T.F_renewal_days sc_renewal_days (by decide) rfl (fun os _ => rfl) fun cdv A' outer s H vs E hr F fp => ?_
  have tk : Takes (cxOf (L2.CX P w) P w K mg base ["rules", "count"] "renewal_days" (defScope (topS 15)) A.f_renewal_days cdv A' outer s H E) (fcOf K (clsOf A) [false] ["rules", "count"] vs H E F fp).W := takes_of rfl rfl rfl rfl
  have hp := passes_of (X := cxOf (L2.CX P w) P w K mg base ["rules", "count"] "renewal_days" (defScope (topS 15)) A.f_renewal_days cdv A' outer s H E) rfl
  exact ds_one (ds_ret (de_lc (own := [("count", 1)]) rfl sc_renewal_days.nd (di_range2 (by rfl) T.z_range (da_cons (de_int) (da_cons (de_op op_addA o_add (de_ix ix_seq o_ix (de_var (pv 0)) (de_int) (fun _ _ => rfl)) (de_int)) (da_nil)))) (blkOk_by (N := ["rules", "count"]) (sc := defScope (topS 15)) (own := [("count", 1)]) (by decide +kernel)) (by decide) (fun _ _ _ _ _ => dg_name (pg_name (i := 1) sc_renewal_days.nd rfl (.inl rfl))) (fun _ _ _ _ _ => dts_nil) (fun _ _ _ _ _ => de_cb (call_max2 rfl) o_max2 (by rfl) T.z_max (by decide +kernel) (da_cons (de_int) (da_cons (de_op op_sub o_sub (de_op op_mul o_mul (de_ix ix_seq o_ix (de_var (pv 0)) (de_int) (fun _ _ => rfl)) (de_var (pv 1))) (de_ix ix_seq o_ix (de_var (pv 0)) (de_int) (fun _ _ => rfl))) (da_nil))))))
theorem sc_best_renewals : FnScope ["rules", "rows", "index", "day", "most", "count"] ["rules"] (defScope (topS 16)) := ⟨rfl, rfl, rfl, by decide +kernel, rfl, by decide +kernel, by decide +kernel⟩
theorem ok_best_renewals (T : Txt K mg A) : FnOk P w K mg base (L2.CX P w) 2 A.f_best_renewals A.fd_best_renewals ["rules"] (spD K (clsOf A) [false] d_best_renewals) := by
  have G_renewal_days : FnOk P w K mg base (L2.CX P w) 1 A.f_renewal_days A.fd_renewal_days ["rules"] (spD K (clsOf A) [false] d_renewal_days) := ok_renewal_days T
  refine fn_ok (k := 1) (g := g_best_renewals) T.F_best_renewals sc_best_renewals (by decide) rfl (fun os _ => rfl) fun cdv A' outer s H vs E hr F fp => ?_
  have tk : Takes (cxOf (L2.CX P w) P w K mg base ["rules", "rows", "index", "day", "most", "count"] "best_renewals" (defScope (topS 16)) A.f_best_renewals cdv A' outer s H E) (fcOf K (clsOf A) [false] ["rules", "rows", "index", "day", "most", "count"] vs H E F fp).W := takes_of rfl rfl rfl rfl
  have hp := passes_of (X := cxOf (L2.CX P w) P w K mg base ["rules", "rows", "index", "day", "most", "count"] "best_renewals" (defScope (topS 16)) A.f_best_renewals cdv A' outer s H E) rfl
  exact ds_cons (ds_set (i := 1) sc_best_renewals.nd rfl (.inl rfl) (de_lst (da_cons (de_tup (da_cons (de_ix ix_seq o_ix (de_var (pv 0)) (de_int) (fun _ _ => rfl)) (da_cons (de_int) (da_nil)))) (da_nil)))) (ds_cons (ds_for hp rfl (di_enum rfl (by rfl) T.z_enumerate (da_cons (de_call G_renewal_days (hr.mono (by decide)) (by rfl) T.g_renewal_days T.F_renewal_days.kp T.b_renewal_days (fun σ => passAt tk σ) (da_cons (de_var (pv 0)) (da_nil))) (da_nil))) (dg_tup rfl rfl (dgs_cons (dg_name (pg_name (i := 2) sc_best_renewals.nd rfl (.inl rfl))) (dgs_cons (dg_name (pg_name (i := 3) sc_best_renewals.nd rfl (.inl rfl))) (dgs_nil)))) (ds_one (ds_expr (de_app rfl (dp_name (pv 1)) (da_cons (de_tup (da_cons (de_op op_sub o_sub (de_op op_mul o_mul (de_ix ix_seq o_ix (de_var (pv 0)) (de_int) (fun _ _ => rfl)) (de_op op_addA o_add (de_var (pv 2)) (de_int))) (de_var (pv 3))) (da_cons (de_un un_neg o_neg (de_op op_addA o_add (de_var (pv 2)) (de_int))) (da_nil)))) (da_nil)))))) (ds_cons (ds_asg (de_ix ix_seq o_ix (de_cb call_sortedI o_sort (by rfl) T.z_sorted (by decide +kernel) (da_cons (de_frz (pv 1)) (da_nil))) (de_un un_neg o_neg (de_int)) (fun _ _ => rfl)) (dg_tup rfl rfl (dgs_cons (dg_name (pg_name (i := 4) sc_best_renewals.nd rfl (.inl rfl))) (dgs_cons (dg_name (pg_name (i := 5) sc_best_renewals.nd rfl (.inl rfl))) (dgs_nil))))) (ds_one (ds_ret (de_tup (da_cons (de_var (pv 4)) (da_cons (de_un un_neg o_neg (de_var (pv 5))) (da_nil))))))))
theorem sc_turn_of : FnScope ["rules"] ["rules"] (defScope (topS 17)) := ⟨rfl, rfl, rfl, by decide +kernel, rfl, by decide +kernel, by decide +kernel⟩
theorem ok_turn_of (T : Txt K mg A) : FnOk P w K mg base (L2.CX P w) 1 A.f_turn_of A.fd_turn_of ["rules"] (spD K (clsOf A) [false] d_turn_of) := by
  refine fn_ok (k := 0) (g := g_turn_of) T.F_turn_of sc_turn_of (by decide) rfl (fun os _ => rfl) fun cdv A' outer s H vs E hr F fp => ?_
  have tk : Takes (cxOf (L2.CX P w) P w K mg base ["rules"] "turn_of" (defScope (topS 17)) A.f_turn_of cdv A' outer s H E) (fcOf K (clsOf A) [false] ["rules"] vs H E F fp).W := takes_of rfl rfl rfl rfl
  have hp := passes_of (X := cxOf (L2.CX P w) P w K mg base ["rules"] "turn_of" (defScope (topS 17)) A.f_turn_of cdv A' outer s H E) rfl
  exact ds_one (ds_ret (de_op op_addA o_add (de_ix ix_seq o_ix (de_var (pv 0)) (de_int) (fun _ _ => rfl)) (de_ix ix_seq o_ix (de_var (pv 0)) (de_int) (fun _ _ => rfl))))
theorem sc_longest_of : FnScope ["rules", "place", "first"] ["rules", "place"] (defScope (topS 18)) := ⟨rfl, rfl, rfl, by decide +kernel, rfl, by decide +kernel, by decide +kernel⟩
theorem ok_longest_of (T : Txt K mg A) : FnOk P w K mg base (L2.CX P w) 3 A.f_longest_of A.fd_longest_of ["rules", "place"] (spD K (clsOf A) [false, false] d_longest_of) := by
  have G_best_renewals : FnOk P w K mg base (L2.CX P w) 2 A.f_best_renewals A.fd_best_renewals ["rules"] (spD K (clsOf A) [false] d_best_renewals) := ok_best_renewals T
  have G_rounded_up : FnOk P w K mg base (L2.CX P w) 1 A.f_rounded_up A.fd_rounded_up ["top", "bottom"] (spD K (clsOf A) [false, false] d_rounded_up) := ok_rounded_up T
  have G_turn_of : FnOk P w K mg base (L2.CX P w) 1 A.f_turn_of A.fd_turn_of ["rules"] (spD K (clsOf A) [false] d_turn_of) := ok_turn_of T
  refine fn_ok (k := 2) (g := g_longest_of) T.F_longest_of sc_longest_of (by decide) rfl (fun os _ => rfl) fun cdv A' outer s H vs E hr F fp => ?_
  have tk : Takes (cxOf (L2.CX P w) P w K mg base ["rules", "place", "first"] "longest_of" (defScope (topS 18)) A.f_longest_of cdv A' outer s H E) (fcOf K (clsOf A) [false, false] ["rules", "place", "first"] vs H E F fp).W := takes_of rfl rfl rfl rfl
  have hp := passes_of (X := cxOf (L2.CX P w) P w K mg base ["rules", "place", "first"] "longest_of" (defScope (topS 18)) A.f_longest_of cdv A' outer s H E) rfl
  exact ds_cons (ds_set (i := 2) sc_longest_of.nd rfl (.inl rfl) (de_cb (call_max2 rfl) o_max2 (by rfl) T.z_max (by decide +kernel) (da_cons (de_ix ix_seq o_ix (de_call G_best_renewals (hr.mono (by decide)) (by rfl) T.g_best_renewals T.F_best_renewals.kp T.b_best_renewals (fun σ => passAt tk σ) (da_cons (de_var (pv 0)) (da_nil))) (de_int) (fun _ _ => rfl)) (da_cons (de_call G_turn_of (hr.mono (by decide)) (by rfl) T.g_turn_of T.F_turn_of.kp T.b_turn_of (fun σ => passAt tk σ) (da_cons (de_var (pv 0)) (da_nil))) (da_nil))))) (ds_one (ds_ret (de_op op_addA o_add (de_var (pv 2)) (de_op op_mul o_mul (de_call G_turn_of (hr.mono (by decide)) (by rfl) T.g_turn_of T.F_turn_of.kp T.b_turn_of (fun σ => passAt tk σ) (da_cons (de_var (pv 0)) (da_nil))) (de_op op_sub o_sub (de_call G_rounded_up (hr.mono (by decide)) (by rfl) T.g_rounded_up T.F_rounded_up.kp T.b_rounded_up (fun σ => passAt tk σ) (da_cons (de_var (pv 1)) (da_cons (de_ix ix_seq o_ix (de_var (pv 0)) (de_int) (fun _ _ => rfl)) (da_nil)))) (de_int))))))
theorem sc_longest_wait : FnScope ["rules", "place"] ["rules", "place"] (defScope (topS 19)) := ⟨rfl, rfl, rfl, by decide +kernel, rfl, by decide +kernel, by decide +kernel⟩
theorem ok_longest_wait (T : Txt K mg A) : FnOk P w K mg base (L2.CX P w) 4 A.f_longest_wait A.fd_longest_wait ["rules", "place"] (spD K (clsOf A) [false, false] d_longest_wait) := by
  have G_longest_of : FnOk P w K mg base (L2.CX P w) 3 A.f_longest_of A.fd_longest_of ["rules", "place"] (spD K (clsOf A) [false, false] d_longest_of) := ok_longest_of T
  have G_require_number : FnOk P w K mg base (L2.CX P w) 2 A.f_require_number A.fd_require_number ["value", "low", "high"] (spD K (clsOf A) [false, false, false] d_require_number) := ok_require_number T
  have G_require_rules : FnOk P w K mg base (L2.CX P w) 3 A.f_require_rules A.fd_require_rules ["value"] (spD K (clsOf A) [false] d_require_rules) := ok_require_rules T
  refine fn_ok (k := 3) (g := g_longest_wait) T.F_longest_wait sc_longest_wait (by decide) rfl (fun os _ => rfl) fun cdv A' outer s H vs E hr F fp => ?_
  have tk : Takes (cxOf (L2.CX P w) P w K mg base ["rules", "place"] "longest_wait" (defScope (topS 19)) A.f_longest_wait cdv A' outer s H E) (fcOf K (clsOf A) [false, false] ["rules", "place"] vs H E F fp).W := takes_of rfl rfl rfl rfl
  have hp := passes_of (X := cxOf (L2.CX P w) P w K mg base ["rules", "place"] "longest_wait" (defScope (topS 19)) A.f_longest_wait cdv A' outer s H E) rfl
  exact ds_cons (ds_expr (de_call G_require_rules (hr.mono (by decide)) (by rfl) T.g_require_rules T.F_require_rules.kp T.b_require_rules (fun σ => passAt tk σ) (da_cons (de_var (pv 0)) (da_nil)))) (ds_cons (ds_expr (de_call G_require_number (hr.mono (by decide)) (by rfl) T.g_require_number T.F_require_number.kp T.b_require_number (fun σ => passAt tk σ) (da_cons (de_var (pv 1)) (da_cons (de_int) (da_cons (de_glob (by rfl) T.gc_MAX_PLACE.choose_spec.choose_spec.1 T.gc_MAX_PLACE.choose_spec.choose_spec.2.1 T.gc_MAX_PLACE.choose_spec.choose_spec.2.2) (da_nil)))))) (ds_one (ds_ret (de_call G_longest_of (hr.mono (by decide)) (by rfl) T.g_longest_of T.F_longest_of.kp T.b_longest_of (fun σ => passAt tk σ) (da_cons (de_var (pv 0)) (da_cons (de_var (pv 1)) (da_nil)))))))
theorem sc_fewest_copies : FnScope ["rules", "place", "days", "some", "count"] ["rules", "place", "days"] (defScope (topS 21)) := ⟨rfl, rfl, rfl, by decide +kernel, rfl, by decide +kernel, by decide +kernel⟩
theorem ok_fewest_copies (T : Txt K mg A) : FnOk P w K mg base (L2.CX P w) 4 A.f_fewest_copies A.fd_fewest_copies ["rules", "place", "days"] (spD K (clsOf A) [false, false, false] d_fewest_copies) := by
  have G_longest_of : FnOk P w K mg base (L2.CX P w) 3 A.f_longest_of A.fd_longest_of ["rules", "place"] (spD K (clsOf A) [false, false] d_longest_of) := ok_longest_of T
  have G_require_number : FnOk P w K mg base (L2.CX P w) 2 A.f_require_number A.fd_require_number ["value", "low", "high"] (spD K (clsOf A) [false, false, false] d_require_number) := ok_require_number T
  have G_require_rules : FnOk P w K mg base (L2.CX P w) 3 A.f_require_rules A.fd_require_rules ["value"] (spD K (clsOf A) [false] d_require_rules) := ok_require_rules T
  refine fn_ok (k := 3) (g := g_fewest_copies) T.F_fewest_copies sc_fewest_copies (by decide) rfl (fun os _ => rfl) fun cdv A' outer s H vs E hr F fp => ?_
  have tk : Takes (cxOf (L2.CX P w) P w K mg base ["rules", "place", "days", "some", "count"] "fewest_copies" (defScope (topS 21)) A.f_fewest_copies cdv A' outer s H E) (fcOf K (clsOf A) [false, false, false] ["rules", "place", "days", "some", "count"] vs H E F fp).W := takes_of rfl rfl rfl rfl
  have hp := passes_of (X := cxOf (L2.CX P w) P w K mg base ["rules", "place", "days", "some", "count"] "fewest_copies" (defScope (topS 21)) A.f_fewest_copies cdv A' outer s H E) rfl
  exact ds_cons (ds_expr (de_call G_require_rules (hr.mono (by decide)) (by rfl) T.g_require_rules T.F_require_rules.kp T.b_require_rules (fun σ => passAt tk σ) (da_cons (de_var (pv 0)) (da_nil)))) (ds_cons (ds_expr (de_call G_require_number (hr.mono (by decide)) (by rfl) T.g_require_number T.F_require_number.kp T.b_require_number (fun σ => passAt tk σ) (da_cons (de_var (pv 1)) (da_cons (de_int) (da_cons (de_glob (by rfl) T.gc_MAX_PLACE.choose_spec.choose_spec.1 T.gc_MAX_PLACE.choose_spec.choose_spec.2.1 T.gc_MAX_PLACE.choose_spec.choose_spec.2.2) (da_nil)))))) (ds_cons (ds_expr (de_call G_require_number (hr.mono (by decide)) (by rfl) T.g_require_number T.F_require_number.kp T.b_require_number (fun σ => passAt tk σ) (da_cons (de_var (pv 2)) (da_cons (de_int) (da_cons (de_glob (by rfl) T.gc_MAX_DAYS.choose_spec.choose_spec.1 T.gc_MAX_DAYS.choose_spec.choose_spec.2.1 T.gc_MAX_DAYS.choose_spec.choose_spec.2.2) (da_nil)))))) (ds_cons (ds_setLc (i := 3) (own := [("count", 4)]) rfl sc_fewest_copies.nd rfl rfl (sw_true rfl rfl rfl (by decide +kernel)) (di_range2 (by rfl) T.z_range (da_cons (de_int) (da_cons (de_op op_addA o_add (de_var (pv 1)) (de_int)) (da_nil)))) (blkOk_by (N := ["rules", "place", "days", "some", "count"]) (sc := defScope (topS 21)) (own := [("count", 4)]) (by decide +kernel)) (by decide) (fun _ _ _ _ _ => dg_name (pg_name (i := 4) sc_fewest_copies.nd rfl (.inl rfl))) (fun _ _ _ _ _ => dts_one (dt_cmp op_le o_cmp (de_call G_longest_of (hr.mono (by decide)) (by rfl) T.g_longest_of T.F_longest_of.kp T.b_longest_of (fun σ => pass_still σ) (da_cons (de_op op_addA o_add (de_tup (da_cons (de_var (pv 4)) (da_nil))) (de_slice rfl (de_var (pv 0)) (do_some (de_int)) do_none)) (da_cons (de_var (pv 1)) (da_nil)))) (de_var (pv 2)) (nomark _))) (fun _ _ _ _ _ => de_var (pv 4))) (ds_one (ds_ret (de_ifxF (dt_cmp (op_neD hr.units) o_ne (de_frz (pv 3)) (de_lst (da_nil)) (nomark _)) (de_ix ix_seq o_ix (de_frz (pv 3)) (de_int) (fun _ _ => rfl)) (de_non)))))))
theorem sc_longest_loan : FnScope ["rules", "place", "days", "some", "loan"] ["rules", "place", "days"] (defScope (topS 22)) := ⟨rfl, rfl, rfl, by decide +kernel, rfl, by decide +kernel, by decide +kernel⟩
theorem ok_longest_loan (T : Txt K mg A) : FnOk P w K mg base (L2.CX P w) 4 A.f_longest_loan A.fd_longest_loan ["rules", "place", "days"] (spD K (clsOf A) [false, false, false] d_longest_loan) := by
  have G_longest_of : FnOk P w K mg base (L2.CX P w) 3 A.f_longest_of A.fd_longest_of ["rules", "place"] (spD K (clsOf A) [false, false] d_longest_of) := ok_longest_of T
  have G_require_number : FnOk P w K mg base (L2.CX P w) 2 A.f_require_number A.fd_require_number ["value", "low", "high"] (spD K (clsOf A) [false, false, false] d_require_number) := ok_require_number T
  have G_require_rules : FnOk P w K mg base (L2.CX P w) 3 A.f_require_rules A.fd_require_rules ["value"] (spD K (clsOf A) [false] d_require_rules) := ok_require_rules T
  refine fn_ok (k := 3) (g := g_longest_loan) T.F_longest_loan sc_longest_loan (by decide) rfl (fun os _ => rfl) fun cdv A' outer s H vs E hr F fp => ?_
  have tk : Takes (cxOf (L2.CX P w) P w K mg base ["rules", "place", "days", "some", "loan"] "longest_loan" (defScope (topS 22)) A.f_longest_loan cdv A' outer s H E) (fcOf K (clsOf A) [false, false, false] ["rules", "place", "days", "some", "loan"] vs H E F fp).W := takes_of rfl rfl rfl rfl
  have hp := passes_of (X := cxOf (L2.CX P w) P w K mg base ["rules", "place", "days", "some", "loan"] "longest_loan" (defScope (topS 22)) A.f_longest_loan cdv A' outer s H E) rfl
  exact ds_cons (ds_expr (de_call G_require_rules (hr.mono (by decide)) (by rfl) T.g_require_rules T.F_require_rules.kp T.b_require_rules (fun σ => passAt tk σ) (da_cons (de_var (pv 0)) (da_nil)))) (ds_cons (ds_expr (de_call G_require_number (hr.mono (by decide)) (by rfl) T.g_require_number T.F_require_number.kp T.b_require_number (fun σ => passAt tk σ) (da_cons (de_var (pv 1)) (da_cons (de_int) (da_cons (de_glob (by rfl) T.gc_MAX_PLACE.choose_spec.choose_spec.1 T.gc_MAX_PLACE.choose_spec.choose_spec.2.1 T.gc_MAX_PLACE.choose_spec.choose_spec.2.2) (da_nil)))))) (ds_cons (ds_expr (de_call G_require_number (hr.mono (by decide)) (by rfl) T.g_require_number T.F_require_number.kp T.b_require_number (fun σ => passAt tk σ) (da_cons (de_var (pv 2)) (da_cons (de_int) (da_cons (de_glob (by rfl) T.gc_MAX_DAYS.choose_spec.choose_spec.1 T.gc_MAX_DAYS.choose_spec.choose_spec.2.1 T.gc_MAX_DAYS.choose_spec.choose_spec.2.2) (da_nil)))))) (ds_cons (ds_setLc (i := 3) (own := [("loan", 4)]) rfl sc_longest_loan.nd rfl rfl (sw_true rfl rfl rfl (by decide +kernel)) (di_range2 (by rfl) T.z_range (da_cons (de_int) (da_cons (de_op op_addA o_add (de_ix ix_seq o_ix (de_glob (by rfl) T.gc_HIGHS.choose_spec.choose_spec.1 T.gc_HIGHS.choose_spec.choose_spec.2.1 T.gc_HIGHS.choose_spec.choose_spec.2.2) (de_int) (fun _ _ => rfl)) (de_int)) (da_nil)))) (blkOk_by (N := ["rules", "place", "days", "some", "loan"]) (sc := defScope (topS 22)) (own := [("loan", 4)]) (by decide +kernel)) (by decide) (fun _ _ _ _ _ => dg_name (pg_name (i := 4) sc_longest_loan.nd rfl (.inl rfl))) (fun _ _ _ _ _ => dts_one (dt_cmp op_le o_cmp (de_call G_longest_of (hr.mono (by decide)) (by rfl) T.g_longest_of T.F_longest_of.kp T.b_longest_of (fun σ => pass_still σ) (da_cons (de_op op_addA o_add (de_tup (da_cons (de_ix ix_seq o_ix (de_var (pv 0)) (de_int) (fun _ _ => rfl)) (da_cons (de_var (pv 4)) (da_nil)))) (de_slice rfl (de_var (pv 0)) (do_some (de_int)) do_none)) (da_cons (de_var (pv 1)) (da_nil)))) (de_var (pv 2)) (nomark _))) (fun _ _ _ _ _ => de_var (pv 4))) (ds_one (ds_ret (de_ifxF (dt_cmp (op_neD hr.units) o_ne (de_frz (pv 3)) (de_lst (da_nil)) (nomark _)) (de_ix ix_seq o_ix (de_frz (pv 3)) (de_un un_neg o_neg (de_int)) (fun _ _ => rfl)) (de_non)))))))
theorem sc__law_source : FnScope ["script", "k", "cell", "primes", "seed"] ["script", "k"] (defScope (topS 24)) := ⟨rfl, rfl, rfl, by decide +kernel, rfl, by decide +kernel, by decide +kernel⟩
theorem ok__law_source (T : Txt K mg A) : FnOk P w K mg base (L2.CX P w) 1 A.f__law_source A.fd__law_source ["script", "k"] (spD K (clsOf A) [false, false] d__law_source) := by
  refine fn_ok (k := 0) (g := g__law_source) T.F__law_source sc__law_source (by decide) rfl (fun os _ => rfl) fun cdv A' outer s H vs E hr F fp => ?_
  have tk : Takes (cxOf (L2.CX P w) P w K mg base ["script", "k", "cell", "primes", "seed"] "_law_source" (defScope (topS 24)) A.f__law_source cdv A' outer s H E) (fcOf K (clsOf A) [false, false] ["script", "k", "cell", "primes", "seed"] vs H E F fp).W := takes_of rfl rfl rfl rfl
  have hp := passes_of (X := cxOf (L2.CX P w) P w K mg base ["script", "k", "cell", "primes", "seed"] "_law_source" (defScope (topS 24)) A.f__law_source cdv A' outer s H E) rfl
  exact ds_cons (ds_set (i := 2) sc__law_source.nd rfl (.inl rfl) (de_int)) (ds_cons (ds_if (dt_cmp op_lt o_cmp (de_var (pv 1)) (de_cb call_lenA o_len (by rfl) T.z_len (by decide +kernel) (da_cons (de_var (pv 0)) (da_nil))) (nomark _)) (ds_one (ds_set (i := 2) sc__law_source.nd rfl (.inl rfl) (de_ix ix_seq o_ix (de_var (pv 0)) (de_var (pv 1)) (fun _ _ => rfl)))) (ds_nil)) (ds_cons (ds_set (i := 3) sc__law_source.nd rfl (.inl rfl) (de_lst (da_cons (de_int) (da_cons (de_int) (da_cons (de_int) (da_cons (de_int) (da_cons (de_int) (da_cons (de_int) (da_cons (de_int) (da_cons (de_int) (da_nil))))))))))) (ds_cons (ds_set (i := 4) sc__law_source.nd rfl (.inl rfl) (de_op op_mod o_mod (de_op op_mul o_mul (de_op op_addA o_add (de_op op_mod o_mod (de_var (pv 2)) (de_int)) (de_int)) (de_op op_addA o_add (de_int) (de_op op_mul o_mul (de_int) (de_var (pv 1))))) (de_int))) (ds_cons (ds_set (i := 4) sc__law_source.nd rfl (.inl rfl) (de_op op_addA o_add (de_op op_addA o_add (de_op op_mod o_mod (de_op op_mul o_mul (de_var (pv 4)) (de_var (pv 4))) (de_int)) (de_var (pv 1))) (de_int))) (ds_cons (ds_if (dt_cmp op_ge o_cmp (de_var (pv 2)) (de_op op_pow o_pow (de_int) (de_int)) (nomark _)) (ds_one (ds_ret (de_lst (da_cons (de_var (pv 2)) (da_cons (de_var (pv 4)) (da_cons (de_ix ix_seq o_ix (de_frz (pv 3)) (de_op op_mod o_mod (de_var (pv 1)) (de_int)) (fun _ _ => rfl)) (da_nil))))))) (ds_nil)) (ds_one (ds_ret (de_lst (da_cons (de_int) (da_cons (de_var (pv 4)) (da_cons (de_ix ix_seq o_ix (de_frz (pv 3)) (de_op op_mod o_mod (de_var (pv 1)) (de_int)) (fun _ _ => rfl)) (da_nil))))))))))))
theorem sc__law_pick : FnScope ["source", "size", "drawn"] ["source", "size"] (defScope (topS 25)) := ⟨rfl, rfl, rfl, by decide +kernel, rfl, by decide +kernel, by decide +kernel⟩
theorem ok__law_pick (T : Txt K mg A) : FnOk P w K mg base (L2.CX P w) 1 A.f__law_pick A.fd__law_pick ["source", "size"] (spD K (clsOf A) [true, false] d__law_pick) := by
  refine fn_ok (k := 0) (g := g__law_pick) T.F__law_pick sc__law_pick (by decide) rfl (fun os _ => rfl) fun cdv A' outer s H vs E hr F fp => ?_
  have tk : Takes (cxOf (L2.CX P w) P w K mg base ["source", "size", "drawn"] "_law_pick" (defScope (topS 25)) A.f__law_pick cdv A' outer s H E) (fcOf K (clsOf A) [true, false] ["source", "size", "drawn"] vs H E F fp).W := takes_of rfl rfl rfl rfl
  have hp := passes_of (X := cxOf (L2.CX P w) P w K mg base ["source", "size", "drawn"] "_law_pick" (defScope (topS 25)) A.f__law_pick cdv A' outer s H E) rfl
  exact ds_cons (ds_if (dt_cmp op_gt o_cmp (de_leaf (dp_ix (k := 0) (dp_name (pv 0)) (fun _ _ => rfl))) (de_int) (nomark _)) (ds_cons (ds_set (i := 2) sc__law_pick.nd rfl (.inl rfl) (de_op op_mod o_mod (de_leaf (dp_ix (k := 0) (dp_name (pv 0)) (fun _ _ => rfl))) (de_var (pv 1)))) (ds_cons (ds_setP (k := 0) (de_op op_fdivW o_div (de_leaf (dp_ix (k := 0) (dp_name (pv 0)) (fun _ _ => rfl))) (de_var (pv 1))) (dp_name (pv 0))) (ds_one (ds_ret (de_var (pv 2)))))) (ds_nil)) (ds_cons (ds_setP (k := 1) (de_op op_addA o_add (de_op op_mod o_mod (de_op op_mul o_mul (de_leaf (dp_ix (k := 1) (dp_name (pv 0)) (fun _ _ => rfl))) (de_int)) (de_leaf (dp_ix (k := 2) (dp_name (pv 0)) (fun _ _ => rfl)))) (de_int)) (dp_name (pv 0))) (ds_one (ds_ret (de_op op_mod o_mod (de_op op_fdivW o_div (de_op op_mod o_mod (de_op op_mul o_mul (de_leaf (dp_ix (k := 1) (dp_name (pv 0)) (fun _ _ => rfl))) (de_leaf (dp_ix (k := 1) (dp_name (pv 0)) (fun _ _ => rfl)))) (de_int)) (de_int)) (de_var (pv 1))))))
theorem sc__law_rules : FnScope ["source", "copies_so", "loan_so", "window_so", "ready_so", "rest_so"] ["source"] (defScope (topS 26)) := ⟨rfl, rfl, rfl, by decide +kernel, rfl, by decide +kernel, by decide +kernel⟩
theorem ok__law_rules (T : Txt K mg A) : FnOk P w K mg base (L2.CX P w) 2 A.f__law_rules A.fd__law_rules ["source"] (spD K (clsOf A) [true] d__law_rules) := by
  have G__law_pick : FnOk P w K mg base (L2.CX P w) 1 A.f__law_pick A.fd__law_pick ["source", "size"] (spD K (clsOf A) [true, false] d__law_pick) := ok__law_pick T
  refine fn_ok (k := 1) (g := g__law_rules) T.F__law_rules sc__law_rules (by decide) rfl (fun os _ => rfl) fun cdv A' outer s H vs E hr F fp => ?_
  have tk : Takes (cxOf (L2.CX P w) P w K mg base ["source", "copies_so", "loan_so", "window_so", "ready_so", "rest_so"] "_law_rules" (defScope (topS 26)) A.f__law_rules cdv A' outer s H E) (fcOf K (clsOf A) [true] ["source", "copies_so", "loan_so", "window_so", "ready_so", "rest_so"] vs H E F fp).W := takes_of rfl rfl rfl rfl
  have hp := passes_of (X := cxOf (L2.CX P w) P w K mg base ["source", "copies_so", "loan_so", "window_so", "ready_so", "rest_so"] "_law_rules" (defScope (topS 26)) A.f__law_rules cdv A' outer s H E) rfl
  exact ds_cons (ds_set (i := 1) sc__law_rules.nd rfl (.inl rfl) (de_op op_addA o_add (de_int) (de_call G__law_pick (hr.mono (by decide)) (by rfl) T.g__law_pick T.F__law_pick.kp T.b__law_pick (fun σ => passAt tk σ) (da_lend (pv 0) (da_cons (de_int) (da_nil)))))) (ds_cons (ds_set (i := 2) sc__law_rules.nd rfl (.inl rfl) (de_op op_addA o_add (de_int) (de_call G__law_pick (hr.mono (by decide)) (by rfl) T.g__law_pick T.F__law_pick.kp T.b__law_pick (fun σ => passAt tk σ) (da_lend (pv 0) (da_cons (de_ix ix_seq o_ix (de_lst (da_cons (de_int) (da_cons (de_int) (da_nil)))) (de_call G__law_pick (hr.mono (by decide)) (by rfl) T.g__law_pick T.F__law_pick.kp T.b__law_pick (fun σ => passAt tk σ) (da_lend (pv 0) (da_cons (de_int) (da_nil)))) (fun _ _ => rfl)) (da_nil)))))) (ds_cons (ds_set (i := 3) sc__law_rules.nd rfl (.inl rfl) (de_call G__law_pick (hr.mono (by decide)) (by rfl) T.g__law_pick T.F__law_pick.kp T.b__law_pick (fun σ => passAt tk σ) (da_lend (pv 0) (da_cons (de_ix ix_seq o_ix (de_lst (da_cons (de_int) (da_cons (de_int) (da_nil)))) (de_call G__law_pick (hr.mono (by decide)) (by rfl) T.g__law_pick T.F__law_pick.kp T.b__law_pick (fun σ => passAt tk σ) (da_lend (pv 0) (da_cons (de_int) (da_nil)))) (fun _ _ => rfl)) (da_nil))))) (ds_cons (ds_set (i := 4) sc__law_rules.nd rfl (.inl rfl) (de_call G__law_pick (hr.mono (by decide)) (by rfl) T.g__law_pick T.F__law_pick.kp T.b__law_pick (fun σ => passAt tk σ) (da_lend (pv 0) (da_cons (de_ix ix_seq o_ix (de_lst (da_cons (de_int) (da_cons (de_int) (da_nil)))) (de_call G__law_pick (hr.mono (by decide)) (by rfl) T.g__law_pick T.F__law_pick.kp T.b__law_pick (fun σ => passAt tk σ) (da_lend (pv 0) (da_cons (de_int) (da_nil)))) (fun _ _ => rfl)) (da_nil))))) (ds_cons (ds_set (i := 5) sc__law_rules.nd rfl (.inl rfl) (de_call G__law_pick (hr.mono (by decide)) (by rfl) T.g__law_pick T.F__law_pick.kp T.b__law_pick (fun σ => passAt tk σ) (da_lend (pv 0) (da_cons (de_ix ix_seq o_ix (de_lst (da_cons (de_int) (da_cons (de_int) (da_nil)))) (de_call G__law_pick (hr.mono (by decide)) (by rfl) T.g__law_pick T.F__law_pick.kp T.b__law_pick (fun σ => passAt tk σ) (da_lend (pv 0) (da_cons (de_int) (da_nil)))) (fun _ _ => rfl)) (da_nil))))) (ds_one (ds_ret (de_tup (da_cons (de_var (pv 1)) (da_cons (de_var (pv 2)) (da_cons (de_call G__law_pick (hr.mono (by decide)) (by rfl) T.g__law_pick T.F__law_pick.kp T.b__law_pick (fun σ => passAt tk σ) (da_lend (pv 0) (da_cons (de_int) (da_nil)))) (da_cons (de_var (pv 3)) (da_cons (de_var (pv 4)) (da_cons (de_var (pv 5)) (da_nil))))))))))))))
theorem sc_law : FnScope ["script", "k", "source", "r", "place", "here", "highs_so", "at", "there", "days", "copies_so", "loan"] ["script"] (defScope (topS 27)) := ⟨rfl, rfl, rfl, by decide +kernel, rfl, by decide +kernel, by decide +kernel⟩
theorem ok_law (T : Txt K mg A) : FnOk P w K mg base (L2.CX P w) 5 A.f_law A.fd_law ["script"] (spD K (clsOf A) [false] d_law) := by
  have G__law_pick : FnOk P w K mg base (L2.CX P w) 1 A.f__law_pick A.fd__law_pick ["source", "size"] (spD K (clsOf A) [true, false] d__law_pick) := ok__law_pick T
  have G__law_rules : FnOk P w K mg base (L2.CX P w) 2 A.f__law_rules A.fd__law_rules ["source"] (spD K (clsOf A) [true] d__law_rules) := ok__law_rules T
  have G__law_source : FnOk P w K mg base (L2.CX P w) 1 A.f__law_source A.fd__law_source ["script", "k"] (spD K (clsOf A) [false, false] d__law_source) := ok__law_source T
  have G_fewest_copies : FnOk P w K mg base (L2.CX P w) 4 A.f_fewest_copies A.fd_fewest_copies ["rules", "place", "days"] (spD K (clsOf A) [false, false, false] d_fewest_copies) := ok_fewest_copies T
  have G_longest_loan : FnOk P w K mg base (L2.CX P w) 4 A.f_longest_loan A.fd_longest_loan ["rules", "place", "days"] (spD K (clsOf A) [false, false, false] d_longest_loan) := ok_longest_loan T
  have G_longest_wait : FnOk P w K mg base (L2.CX P w) 4 A.f_longest_wait A.fd_longest_wait ["rules", "place"] (spD K (clsOf A) [false, false] d_longest_wait) := ok_longest_wait T
  refine fn_ok (k := 4) (g := g_law) T.F_law sc_law (by decide) rfl (fun os _ => rfl) fun cdv A' outer s H vs E hr F fp => ?_
  have tk : Takes (cxOf (L2.CX P w) P w K mg base ["script", "k", "source", "r", "place", "here", "highs_so", "at", "there", "days", "copies_so", "loan"] "law" (defScope (topS 27)) A.f_law cdv A' outer s H E) (fcOf K (clsOf A) [false] ["script", "k", "source", "r", "place", "here", "highs_so", "at", "there", "days", "copies_so", "loan"] vs H E F fp).W := takes_of rfl rfl rfl rfl
  have hp := passes_of (X := cxOf (L2.CX P w) P w K mg base ["script", "k", "source", "r", "place", "here", "highs_so", "at", "there", "days", "copies_so", "loan"] "law" (defScope (topS 27)) A.f_law cdv A' outer s H E) rfl
  exact ds_cons (ds_for hp rfl (di_range1 (by rfl) T.z_range (da_cons (de_cb (call_max2 rfl) o_max2 (by rfl) T.z_max (by decide +kernel) (da_cons (de_int) (da_cons (de_cb (call_min2 rfl) o_min2 (by rfl) T.z_min (by decide +kernel) (da_cons (de_int) (da_cons (de_cb call_lenA o_len (by rfl) T.z_len (by decide +kernel) (da_cons (de_var (pv 0)) (da_nil))) (da_nil)))) (da_nil)))) (da_nil))) (dg_name (pg_name (i := 1) sc_law.nd rfl (.inl rfl))) (ds_cons (ds_set (i := 2) sc_law.nd rfl (.inl rfl) (de_call G__law_source (hr.mono (by decide)) (by rfl) T.g__law_source T.F__law_source.kp T.b__law_source (fun σ => passAt tk σ) (da_cons (de_var (pv 0)) (da_cons (de_var (pv 1)) (da_nil))))) (ds_cons (ds_set (i := 3) sc_law.nd rfl (.inl rfl) (de_call G__law_rules (hr.mono (by decide)) (by rfl) T.g__law_rules T.F__law_rules.kp T.b__law_rules (fun σ => passAt tk σ) (da_lend (pv 2) (da_nil)))) (ds_cons (ds_set (i := 4) sc_law.nd rfl (.inl rfl) (de_op op_addA o_add (de_int) (de_call G__law_pick (hr.mono (by decide)) (by rfl) T.g__law_pick T.F__law_pick.kp T.b__law_pick (fun σ => passAt tk σ) (da_lend (pv 2) (da_cons (de_int) (da_nil)))))) (ds_cons (ds_set (i := 5) sc_law.nd rfl (.inl rfl) (de_call G_longest_wait (hr.mono (by decide)) (by rfl) T.g_longest_wait T.F_longest_wait.kp T.b_longest_wait (fun σ => passAt tk σ) (da_cons (de_var (pv 3)) (da_cons (de_var (pv 4)) (da_nil))))) (ds_cons (ds_set (i := 6) sc_law.nd rfl (.inl rfl) (de_lst (da_cons (de_int) (da_cons (de_int) (da_cons (de_int) (da_cons (de_int) (da_cons (de_int) (da_cons (de_int) (da_nil))))))))) (ds_cons (ds_for hp rfl (di_range1 (by rfl) T.z_range (da_cons (de_int) (da_nil))) (dg_name (pg_name (i := 7) sc_law.nd rfl (.inl rfl))) (ds_one (ds_if (dt_cmp op_lt o_cmp (de_ix ix_seq o_ix (de_var (pv 3)) (de_var (pv 7)) (fun _ _ => rfl)) (de_ix ix_seq o_ix (de_frz (pv 6)) (de_var (pv 7)) (fun _ _ => rfl)) (nomark _)) (ds_cons (ds_set (i := 8) sc_law.nd rfl (.inl rfl) (de_call G_longest_wait (hr.mono (by decide)) (by rfl) T.g_longest_wait T.F_longest_wait.kp T.b_longest_wait (fun σ => passAt tk σ) (da_cons (de_op op_addA o_add (de_op op_addA o_add (de_slice rfl (de_var (pv 3)) do_none (do_some (de_var (pv 7)))) (de_tup (da_cons (de_op op_addA o_add (de_ix ix_seq o_ix (de_var (pv 3)) (de_var (pv 7)) (fun _ _ => rfl)) (de_int)) (da_nil)))) (de_slice rfl (de_var (pv 3)) (do_some (de_op op_addA o_add (de_var (pv 7)) (de_int))) do_none)) (da_cons (de_var (pv 4)) (da_nil))))) (ds_one (ds_if (dt_bool (dw_or (dt_bool (dw_and (dt_cmp (op_eqD hr.units) o_eq (de_var (pv 7)) (de_int) (nomark _)) (dw_and1 (dt_cmp op_gt o_cmp (de_var (pv 8)) (de_var (pv 5)) (nomark _))))) (dw_or (dt_bool (dw_and (dt_cmp (op_eqD hr.units) o_eq (de_var (pv 7)) (de_int) (nomark _)) (dw_and1 (dt_cmp (op_neD hr.units) o_ne (de_var (pv 8)) (de_var (pv 5)) (nomark _))))) (dw_or1 (dt_bool (dw_and (dt_chain op_lt op_lt o_cmp o_cmp (de_int) (de_var (pv 7)) (de_int)) (dw_and1 (dt_cmp op_lt o_cmp (de_var (pv 8)) (de_var (pv 5)) (nomark _))))))))) (ds_one (ds_ret (de_bl))) (ds_nil)))) (ds_nil)))) (ds_cons (ds_if (dt_bool (dw_or (dt_cmp op_lt o_cmp (de_call G_longest_wait (hr.mono (by decide)) (by rfl) T.g_longest_wait T.F_longest_wait.kp T.b_longest_wait (fun σ => passAt tk σ) (da_cons (de_var (pv 3)) (da_cons (de_op op_addA o_add (de_var (pv 4)) (de_int)) (da_nil)))) (de_var (pv 5)) (nomark _)) (dw_or1 (dt_cmp op_gt o_cmp (de_call G_longest_wait (hr.mono (by decide)) (by rfl) T.g_longest_wait T.F_longest_wait.kp T.b_longest_wait (fun σ => passAt tk σ) (da_cons (de_var (pv 3)) (da_cons (de_op op_addA o_add (de_var (pv 4)) (de_int)) (da_nil)))) (de_op op_addA o_add (de_op op_addA o_add (de_var (pv 5)) (de_ix ix_seq o_ix (de_var (pv 3)) (de_int) (fun _ _ => rfl))) (de_ix ix_seq o_ix (de_var (pv 3)) (de_int) (fun _ _ => rfl))) (nomark _))))) (ds_one (ds_ret (de_bl))) (ds_nil)) (ds_cons (ds_set (i := 9) sc_law.nd rfl (.inl rfl) (de_cb (call_max2 rfl) o_max2 (by rfl) T.z_max (by decide +kernel) (da_cons (de_int) (da_cons (de_op op_sub o_sub (de_op op_addA o_add (de_var (pv 5)) (de_call G__law_pick (hr.mono (by decide)) (by rfl) T.g__law_pick T.F__law_pick.kp T.b__law_pick (fun σ => passAt tk σ) (da_lend (pv 2) (da_cons (de_int) (da_nil))))) (de_int)) (da_nil))))) (ds_cons (ds_set (i := 10) sc_law.nd rfl (.inl rfl) (de_call G_fewest_copies (hr.mono (by decide)) (by rfl) T.g_fewest_copies T.F_fewest_copies.kp T.b_fewest_copies (fun σ => passAt tk σ) (da_cons (de_var (pv 3)) (da_cons (de_var (pv 4)) (da_cons (de_var (pv 9)) (da_nil)))))) (ds_cons (ds_if (dt_bool (dw_and (dt_cmp op_notN o_isnot (de_var (pv 10)) (de_non) (nomark _)) (dw_and1 (dt_cmp op_le o_cmp (de_var (pv 10)) (de_int) (nomark _))))) (ds_cons (ds_if (dt_cmp op_gt o_cmp (de_call G_longest_wait (hr.mono (by decide)) (by rfl) T.g_longest_wait T.F_longest_wait.kp T.b_longest_wait (fun σ => passAt tk σ) (da_cons (de_op op_addA o_add (de_tup (da_cons (de_var (pv 10)) (da_nil))) (de_slice rfl (de_var (pv 3)) (do_some (de_int)) do_none)) (da_cons (de_var (pv 4)) (da_nil)))) (de_var (pv 9)) (nomark _)) (ds_one (ds_ret (de_bl))) (ds_nil)) (ds_one (ds_if (dt_bool (dw_and (dt_cmp op_gt o_cmp (de_var (pv 10)) (de_int) (nomark _)) (dw_and1 (dt_cmp op_le o_cmp (de_call G_longest_wait (hr.mono (by decide)) (by rfl) T.g_longest_wait T.F_longest_wait.kp T.b_longest_wait (fun σ => passAt tk σ) (da_cons (de_op op_addA o_add (de_tup (da_cons (de_op op_sub o_sub (de_var (pv 10)) (de_int)) (da_nil))) (de_slice rfl (de_var (pv 3)) (do_some (de_int)) do_none)) (da_cons (de_var (pv 4)) (da_nil)))) (de_var (pv 9)) (nomark _))))) (ds_one (ds_ret (de_bl))) (ds_nil)))) (ds_nil)) (ds_cons (ds_set (i := 11) sc_law.nd rfl (.inl rfl) (de_call G_longest_loan (hr.mono (by decide)) (by rfl) T.g_longest_loan T.F_longest_loan.kp T.b_longest_loan (fun σ => passAt tk σ) (da_cons (de_var (pv 3)) (da_cons (de_var (pv 4)) (da_cons (de_var (pv 9)) (da_nil)))))) (ds_cons (ds_if (dt_cmp (op_neD hr.units) o_ne (de_or (de_cmp op_isN o_is (de_var (pv 11)) (de_non) (nomark _)) (de_one (de_cmp op_lt o_cmp (de_var (pv 11)) (de_ix ix_seq o_ix (de_var (pv 3)) (de_int) (fun _ _ => rfl)) (nomark _)))) (de_cmp op_gt o_cmp (de_var (pv 5)) (de_var (pv 9)) (nomark _)) (nomark _)) (ds_one (ds_ret (de_bl))) (ds_nil)) (ds_one (ds_if (dt_bool (dw_and (dt_cmp op_notN o_isnot (de_var (pv 11)) (de_non) (nomark _)) (dw_and1 (dt_cmp op_gt o_cmp (de_call G_longest_wait (hr.mono (by decide)) (by rfl) T.g_longest_wait T.F_longest_wait.kp T.b_longest_wait (fun σ => passAt tk σ) (da_cons (de_op op_addA o_add (de_tup (da_cons (de_ix ix_seq o_ix (de_var (pv 3)) (de_int) (fun _ _ => rfl)) (da_cons (de_var (pv 11)) (da_nil)))) (de_slice rfl (de_var (pv 3)) (do_some (de_int)) do_none)) (da_cons (de_var (pv 4)) (da_nil)))) (de_var (pv 9)) (nomark _))))) (ds_one (ds_ret (de_bl))) (ds_nil)))))))))))))))) (ds_one (ds_ret (de_cmp (op_eqD hr.units) o_eq (de_call G_longest_wait (hr.mono (by decide)) (by rfl) T.g_longest_wait T.F_longest_wait.kp T.b_longest_wait (fun σ => passAt tk σ) (da_cons (de_tup (da_cons (de_int) (da_cons (de_int) (da_cons (de_int) (da_cons (de_int) (da_cons (de_int) (da_cons (de_int) (da_nil)))))))) (da_cons (de_int) (da_nil)))) (de_int) (nomark _))))
end
theorem all_mk {P : Program} {w : World} {K : Frag} {h : Heap} {mg : Str → Option Value} {fa : Addr} (X : K.In h) (G : h.Ns mainGlobals mg) (hfa : mg "law" = some (.ref fa))
    {f0 : Addr} {od0 an0 : Option Addr} {sl0 : Array (Option Value)} {oc0 kV0 dc0 pm0 cd0 ct0 : Value}
    {f1 : Addr} {od1 an1 : Option Addr} {sl1 : Array (Option Value)} {oc1 kV1 dc1 pm1 cd1 ct1 : Value}
    {f2 : Addr} {od2 an2 : Option Addr} {sl2 : Array (Option Value)} {oc2 kV2 dc2 pm2 cd2 ct2 : Value}
    {f3 : Addr} {od3 an3 : Option Addr} {sl3 : Array (Option Value)} {oc3 kV3 dc3 pm3 cd3 ct3 : Value}
    {f4 : Addr} {od4 an4 : Option Addr} {sl4 : Array (Option Value)} {oc4 kV4 dc4 pm4 cd4 ct4 : Value}
    {f5 : Addr} {od5 an5 : Option Addr} {sl5 : Array (Option Value)} {oc5 kV5 dc5 pm5 cd5 ct5 : Value}
    {f6 : Addr} {od6 an6 : Option Addr} {sl6 : Array (Option Value)} {oc6 kV6 dc6 pm6 cd6 ct6 : Value}
    {f7 : Addr} {od7 an7 : Option Addr} {sl7 : Array (Option Value)} {oc7 kV7 dc7 pm7 cd7 ct7 : Value}
    {f8 : Addr} {od8 an8 : Option Addr} {sl8 : Array (Option Value)} {oc8 kV8 dc8 pm8 cd8 ct8 : Value}
    {f9 : Addr} {od9 an9 : Option Addr} {sl9 : Array (Option Value)} {oc9 kV9 dc9 pm9 cd9 ct9 : Value}
    {f10 : Addr} {od10 an10 : Option Addr} {sl10 : Array (Option Value)} {oc10 kV10 dc10 pm10 cd10 ct10 : Value}
    {f11 : Addr} {od11 an11 : Option Addr} {sl11 : Array (Option Value)} {oc11 kV11 dc11 pm11 cd11 ct11 : Value}
    {f12 : Addr} {od12 an12 : Option Addr} {sl12 : Array (Option Value)} {oc12 kV12 dc12 pm12 cd12 ct12 : Value}
    {f13 : Addr} {od13 an13 : Option Addr} {sl13 : Array (Option Value)} {oc13 kV13 dc13 pm13 cd13 ct13 : Value}
    {f14 : Addr} {od14 an14 : Option Addr} {sl14 : Array (Option Value)} {oc14 kV14 dc14 pm14 cd14 ct14 : Value}
    {f15 : Addr} {od15 an15 : Option Addr} {sl15 : Array (Option Value)} {oc15 kV15 dc15 pm15 cd15 ct15 : Value}
    {ac0 : Addr} {occ0 : Option Addr} {nn0 : Nat} {slc0 : Array (Option Value)} {t0_0 t0_1 t0_2 t0_3 t0_4 t0_5 : Tok}
    {ac1 : Addr} {occ1 : Option Addr} {nn1 : Nat} {slc1 : Array (Option Value)} {t1_0 t1_1 t1_2 t1_3 t1_4 t1_5 : Tok}
    {tc2 : Tok}
    {tc3 : Tok}
    {C1 : Addr}
    {C2 : Addr}
    (a0 : PySem.W.nsIn K mainGlobals "is_integer" = some (some (.ref f0))) (l0 : K.lookup f0 = some ⟨oc0, od0, .func (PySem.W.fnOf "is_integer" "is_integer" (defArgs (topS 8)) (defBody (topS 8)) (defScope (topS 8)) .none kV0 dc0 pm0 an0 cd0 ct0), sl0⟩) (c0 : PySem.W.codeIn K cd0 "is_integer" = true) (k0 : PySem.W.keepIn K (.ref f0) = true)
    (a1 : PySem.W.nsIn K mainGlobals "is_rules" = some (some (.ref f1))) (l1 : K.lookup f1 = some ⟨oc1, od1, .func (PySem.W.fnOf "is_rules" "is_rules" (defArgs (topS 9)) (defBody (topS 9)) (defScope (topS 9)) .none kV1 dc1 pm1 an1 cd1 ct1), sl1⟩) (c1 : PySem.W.codeIn K cd1 "is_rules" = true) (k1 : PySem.W.keepIn K (.ref f1) = true)
    (a2 : PySem.W.nsIn K mainGlobals "require_rules" = some (some (.ref f2))) (l2 : K.lookup f2 = some ⟨oc2, od2, .func (PySem.W.fnOf "require_rules" "require_rules" (defArgs (topS 10)) (defBody (topS 10)) (defScope (topS 10)) .none kV2 dc2 pm2 an2 cd2 ct2), sl2⟩) (c2 : PySem.W.codeIn K cd2 "require_rules" = true) (k2 : PySem.W.keepIn K (.ref f2) = true)
    (a3 : PySem.W.nsIn K mainGlobals "require_number" = some (some (.ref f3))) (l3 : K.lookup f3 = some ⟨oc3, od3, .func (PySem.W.fnOf "require_number" "require_number" (defArgs (topS 11)) (defBody (topS 11)) (defScope (topS 11)) .none kV3 dc3 pm3 an3 cd3 ct3), sl3⟩) (c3 : PySem.W.codeIn K cd3 "require_number" = true) (k3 : PySem.W.keepIn K (.ref f3) = true)
    (a4 : PySem.W.nsIn K mainGlobals "rounded_up" = some (some (.ref f4))) (l4 : K.lookup f4 = some ⟨oc4, od4, .func (PySem.W.fnOf "rounded_up" "rounded_up" (defArgs (topS 14)) (defBody (topS 14)) (defScope (topS 14)) .none kV4 dc4 pm4 an4 cd4 ct4), sl4⟩) (c4 : PySem.W.codeIn K cd4 "rounded_up" = true) (k4 : PySem.W.keepIn K (.ref f4) = true)
    (a5 : PySem.W.nsIn K mainGlobals "renewal_days" = some (some (.ref f5))) (l5 : K.lookup f5 = some ⟨oc5, od5, .func (PySem.W.fnOf "renewal_days" "renewal_days" (defArgs (topS 15)) (defBody (topS 15)) (defScope (topS 15)) .none kV5 dc5 pm5 an5 cd5 ct5), sl5⟩) (c5 : PySem.W.codeIn K cd5 "renewal_days" = true) (k5 : PySem.W.keepIn K (.ref f5) = true)
    (a6 : PySem.W.nsIn K mainGlobals "best_renewals" = some (some (.ref f6))) (l6 : K.lookup f6 = some ⟨oc6, od6, .func (PySem.W.fnOf "best_renewals" "best_renewals" (defArgs (topS 16)) (defBody (topS 16)) (defScope (topS 16)) .none kV6 dc6 pm6 an6 cd6 ct6), sl6⟩) (c6 : PySem.W.codeIn K cd6 "best_renewals" = true) (k6 : PySem.W.keepIn K (.ref f6) = true)
    (a7 : PySem.W.nsIn K mainGlobals "turn_of" = some (some (.ref f7))) (l7 : K.lookup f7 = some ⟨oc7, od7, .func (PySem.W.fnOf "turn_of" "turn_of" (defArgs (topS 17)) (defBody (topS 17)) (defScope (topS 17)) .none kV7 dc7 pm7 an7 cd7 ct7), sl7⟩) (c7 : PySem.W.codeIn K cd7 "turn_of" = true) (k7 : PySem.W.keepIn K (.ref f7) = true)
    (a8 : PySem.W.nsIn K mainGlobals "longest_of" = some (some (.ref f8))) (l8 : K.lookup f8 = some ⟨oc8, od8, .func (PySem.W.fnOf "longest_of" "longest_of" (defArgs (topS 18)) (defBody (topS 18)) (defScope (topS 18)) .none kV8 dc8 pm8 an8 cd8 ct8), sl8⟩) (c8 : PySem.W.codeIn K cd8 "longest_of" = true) (k8 : PySem.W.keepIn K (.ref f8) = true)
    (a9 : PySem.W.nsIn K mainGlobals "longest_wait" = some (some (.ref f9))) (l9 : K.lookup f9 = some ⟨oc9, od9, .func (PySem.W.fnOf "longest_wait" "longest_wait" (defArgs (topS 19)) (defBody (topS 19)) (defScope (topS 19)) .none kV9 dc9 pm9 an9 cd9 ct9), sl9⟩) (c9 : PySem.W.codeIn K cd9 "longest_wait" = true) (k9 : PySem.W.keepIn K (.ref f9) = true)
    (a10 : PySem.W.nsIn K mainGlobals "fewest_copies" = some (some (.ref f10))) (l10 : K.lookup f10 = some ⟨oc10, od10, .func (PySem.W.fnOf "fewest_copies" "fewest_copies" (defArgs (topS 21)) (defBody (topS 21)) (defScope (topS 21)) .none kV10 dc10 pm10 an10 cd10 ct10), sl10⟩) (c10 : PySem.W.codeIn K cd10 "fewest_copies" = true) (k10 : PySem.W.keepIn K (.ref f10) = true)
    (a11 : PySem.W.nsIn K mainGlobals "longest_loan" = some (some (.ref f11))) (l11 : K.lookup f11 = some ⟨oc11, od11, .func (PySem.W.fnOf "longest_loan" "longest_loan" (defArgs (topS 22)) (defBody (topS 22)) (defScope (topS 22)) .none kV11 dc11 pm11 an11 cd11 ct11), sl11⟩) (c11 : PySem.W.codeIn K cd11 "longest_loan" = true) (k11 : PySem.W.keepIn K (.ref f11) = true)
    (a12 : PySem.W.nsIn K mainGlobals "_law_source" = some (some (.ref f12))) (l12 : K.lookup f12 = some ⟨oc12, od12, .func (PySem.W.fnOf "_law_source" "_law_source" (defArgs (topS 24)) (defBody (topS 24)) (defScope (topS 24)) .none kV12 dc12 pm12 an12 cd12 ct12), sl12⟩) (c12 : PySem.W.codeIn K cd12 "_law_source" = true) (k12 : PySem.W.keepIn K (.ref f12) = true)
    (a13 : PySem.W.nsIn K mainGlobals "_law_pick" = some (some (.ref f13))) (l13 : K.lookup f13 = some ⟨oc13, od13, .func (PySem.W.fnOf "_law_pick" "_law_pick" (defArgs (topS 25)) (defBody (topS 25)) (defScope (topS 25)) .none kV13 dc13 pm13 an13 cd13 ct13), sl13⟩) (c13 : PySem.W.codeIn K cd13 "_law_pick" = true) (k13 : PySem.W.keepIn K (.ref f13) = true)
    (a14 : PySem.W.nsIn K mainGlobals "_law_rules" = some (some (.ref f14))) (l14 : K.lookup f14 = some ⟨oc14, od14, .func (PySem.W.fnOf "_law_rules" "_law_rules" (defArgs (topS 26)) (defBody (topS 26)) (defScope (topS 26)) .none kV14 dc14 pm14 an14 cd14 ct14), sl14⟩) (c14 : PySem.W.codeIn K cd14 "_law_rules" = true) (k14 : PySem.W.keepIn K (.ref f14) = true)
    (a15 : PySem.W.nsIn K mainGlobals "law" = some (some (.ref f15))) (l15 : K.lookup f15 = some ⟨oc15, od15, .func (PySem.W.fnOf "law" "law" (defArgs (topS 27)) (defBody (topS 27)) (defScope (topS 27)) .none kV15 dc15 pm15 an15 cd15 ct15), sl15⟩) (c15 : PySem.W.codeIn K cd15 "law" = true) (k15 : PySem.W.keepIn K (.ref f15) = true)
    (z_all : PySem.W.nsIn K mainGlobals "all" = some none)
    (z_bool : PySem.W.nsIn K mainGlobals "bool" = some none)
    (z_enumerate : PySem.W.nsIn K mainGlobals "enumerate" = some none)
    (z_int : PySem.W.nsIn K mainGlobals "int" = some none)
    (z_isinstance : PySem.W.nsIn K mainGlobals "isinstance" = some none)
    (z_len : PySem.W.nsIn K mainGlobals "len" = some none)
    (z_max : PySem.W.nsIn K mainGlobals "max" = some none)
    (z_min : PySem.W.nsIn K mainGlobals "min" = some none)
    (z_range : PySem.W.nsIn K mainGlobals "range" = some none)
    (z_sorted : PySem.W.nsIn K mainGlobals "sorted" = some none)
    (z_tuple : PySem.W.nsIn K mainGlobals "tuple" = some none)
    (z_zip : PySem.W.nsIn K mainGlobals "zip" = some none)
    (gc0 : PySem.W.nsIn K mainGlobals "HIGHS" = some (some (.ref ac0))) (lc0 : K.lookup ac0 = some ⟨.type "tuple", occ0, .seq #[.int 4 t0_0, .int 30 t0_1, .int 3 t0_2, .int 30 t0_3, .int 10 t0_4, .int 30 t0_5] nn0, slc0⟩)
    (gc1 : PySem.W.nsIn K mainGlobals "LOWS" = some (some (.ref ac1))) (lc1 : K.lookup ac1 = some ⟨.type "tuple", occ1, .seq #[.int 1 t1_0, .int 1 t1_1, .int 0 t1_2, .int 0 t1_3, .int 0 t1_4, .int 0 t1_5] nn1, slc1⟩)
    (gc2 : PySem.W.nsIn K mainGlobals "MAX_DAYS" = some (some (.int 1000 tc2)))
    (gc3 : PySem.W.nsIn K mainGlobals "MAX_PLACE" = some (some (.int 20 tc3)))
    (g_InvalidNumber : PySem.W.nsIn K mainGlobals "InvalidNumber" = some (some (.ref C1))) (x_InvalidNumber : PySem.W.excIn K C1 [.type "ValueError", .type "Exception", .type "BaseException", .type "object"] "ValueError.__new__" = true) (kk_InvalidNumber : PySem.W.keepIn K (.ref C1) = true) (e_InvalidNumber : PySem.W.subIn K (.ref C1) (.type "BaseException") = some true) (t_InvalidNumber : PySem.W.typeIn K (.ref C1) = some (.type "type"))
    (g_InvalidRules : PySem.W.nsIn K mainGlobals "InvalidRules" = some (some (.ref C2))) (x_InvalidRules : PySem.W.excIn K C2 [.type "ValueError", .type "Exception", .type "BaseException", .type "object"] "ValueError.__new__" = true) (kk_InvalidRules : PySem.W.keepIn K (.ref C2) = true) (e_InvalidRules : PySem.W.subIn K (.ref C2) (.type "BaseException") = some true) (t_InvalidRules : PySem.W.typeIn K (.ref C2) = some (.type "type")) :
    ∃ (fd : FuncData) (A : Adr), (∀ (s : Shared) (v : Value), BindsTo s fd ⟨[v], []⟩ [("script", v)]) ∧ ∀ base : Heap, K.In base → base.Ns mainGlobals mg → FnOk P w K mg base (L2.CX P w) 5 fa fd ["script"] (spD K (clsOf A) [false] d_law) := by
  have e := hfa.symm.trans (PySem.W.mg_of X G a15)
  cases e
  have F0 := fun_mk (st := topS 8) l0 c0 k0
  have b0 := F0.binds (ps := ["value", "low", "high"]) fun _ _ _ _ _ _ us hl => match us, hl with | [_, _, _], _ => rfl
  have F1 := fun_mk (st := topS 9) l1 c1 k1
  have b1 := F1.binds (ps := ["value"]) fun _ _ _ _ _ _ us hl => match us, hl with | [_], _ => rfl
  have F2 := fun_mk (st := topS 10) l2 c2 k2
  have b2 := F2.binds (ps := ["value"]) fun _ _ _ _ _ _ us hl => match us, hl with | [_], _ => rfl
  have F3 := fun_mk (st := topS 11) l3 c3 k3
  have b3 := F3.binds (ps := ["value", "low", "high"]) fun _ _ _ _ _ _ us hl => match us, hl with | [_, _, _], _ => rfl
  have F4 := fun_mk (st := topS 14) l4 c4 k4
  have b4 := F4.binds (ps := ["top", "bottom"]) fun _ _ _ _ _ _ us hl => match us, hl with | [_, _], _ => rfl
  have F5 := fun_mk (st := topS 15) l5 c5 k5
  have b5 := F5.binds (ps := ["rules"]) fun _ _ _ _ _ _ us hl => match us, hl with | [_], _ => rfl
  have F6 := fun_mk (st := topS 16) l6 c6 k6
  have b6 := F6.binds (ps := ["rules"]) fun _ _ _ _ _ _ us hl => match us, hl with | [_], _ => rfl
  have F7 := fun_mk (st := topS 17) l7 c7 k7
  have b7 := F7.binds (ps := ["rules"]) fun _ _ _ _ _ _ us hl => match us, hl with | [_], _ => rfl
  have F8 := fun_mk (st := topS 18) l8 c8 k8
  have b8 := F8.binds (ps := ["rules", "place"]) fun _ _ _ _ _ _ us hl => match us, hl with | [_, _], _ => rfl
  have F9 := fun_mk (st := topS 19) l9 c9 k9
  have b9 := F9.binds (ps := ["rules", "place"]) fun _ _ _ _ _ _ us hl => match us, hl with | [_, _], _ => rfl
  have F10 := fun_mk (st := topS 21) l10 c10 k10
  have b10 := F10.binds (ps := ["rules", "place", "days"]) fun _ _ _ _ _ _ us hl => match us, hl with | [_, _, _], _ => rfl
  have F11 := fun_mk (st := topS 22) l11 c11 k11
  have b11 := F11.binds (ps := ["rules", "place", "days"]) fun _ _ _ _ _ _ us hl => match us, hl with | [_, _, _], _ => rfl
  have F12 := fun_mk (st := topS 24) l12 c12 k12
  have b12 := F12.binds (ps := ["script", "k"]) fun _ _ _ _ _ _ us hl => match us, hl with | [_, _], _ => rfl
  have F13 := fun_mk (st := topS 25) l13 c13 k13
  have b13 := F13.binds (ps := ["source", "size"]) fun _ _ _ _ _ _ us hl => match us, hl with | [_, _], _ => rfl
  have F14 := fun_mk (st := topS 26) l14 c14 k14
  have b14 := F14.binds (ps := ["source"]) fun _ _ _ _ _ _ us hl => match us, hl with | [_], _ => rfl
  have F15 := fun_mk (st := topS 27) l15 c15 k15
  have b15 := F15.binds (ps := ["script"]) fun _ _ _ _ _ _ us hl => match us, hl with | [_], _ => rfl
  let A : Adr := { f_is_integer := f0, fd_is_integer := (PySem.W.fnOf "is_integer" "is_integer" (defArgs (topS 8)) (defBody (topS 8)) (defScope (topS 8)) .none kV0 dc0 pm0 an0 cd0 ct0), f_is_rules := f1, fd_is_rules := (PySem.W.fnOf "is_rules" "is_rules" (defArgs (topS 9)) (defBody (topS 9)) (defScope (topS 9)) .none kV1 dc1 pm1 an1 cd1 ct1), f_require_rules := f2, fd_require_rules := (PySem.W.fnOf "require_rules" "require_rules" (defArgs (topS 10)) (defBody (topS 10)) (defScope (topS 10)) .none kV2 dc2 pm2 an2 cd2 ct2), f_require_number := f3, fd_require_number := (PySem.W.fnOf "require_number" "require_number" (defArgs (topS 11)) (defBody (topS 11)) (defScope (topS 11)) .none kV3 dc3 pm3 an3 cd3 ct3), f_rounded_up := f4, fd_rounded_up := (PySem.W.fnOf "rounded_up" "rounded_up" (defArgs (topS 14)) (defBody (topS 14)) (defScope (topS 14)) .none kV4 dc4 pm4 an4 cd4 ct4), f_renewal_days := f5, fd_renewal_days := (PySem.W.fnOf "renewal_days" "renewal_days" (defArgs (topS 15)) (defBody (topS 15)) (defScope (topS 15)) .none kV5 dc5 pm5 an5 cd5 ct5), f_best_renewals := f6, fd_best_renewals := (PySem.W.fnOf "best_renewals" "best_renewals" (defArgs (topS 16)) (defBody (topS 16)) (defScope (topS 16)) .none kV6 dc6 pm6 an6 cd6 ct6), f_turn_of := f7, fd_turn_of := (PySem.W.fnOf "turn_of" "turn_of" (defArgs (topS 17)) (defBody (topS 17)) (defScope (topS 17)) .none kV7 dc7 pm7 an7 cd7 ct7), f_longest_of := f8, fd_longest_of := (PySem.W.fnOf "longest_of" "longest_of" (defArgs (topS 18)) (defBody (topS 18)) (defScope (topS 18)) .none kV8 dc8 pm8 an8 cd8 ct8), f_longest_wait := f9, fd_longest_wait := (PySem.W.fnOf "longest_wait" "longest_wait" (defArgs (topS 19)) (defBody (topS 19)) (defScope (topS 19)) .none kV9 dc9 pm9 an9 cd9 ct9), f_fewest_copies := f10, fd_fewest_copies := (PySem.W.fnOf "fewest_copies" "fewest_copies" (defArgs (topS 21)) (defBody (topS 21)) (defScope (topS 21)) .none kV10 dc10 pm10 an10 cd10 ct10), f_longest_loan := f11, fd_longest_loan := (PySem.W.fnOf "longest_loan" "longest_loan" (defArgs (topS 22)) (defBody (topS 22)) (defScope (topS 22)) .none kV11 dc11 pm11 an11 cd11 ct11), f__law_source := f12, fd__law_source := (PySem.W.fnOf "_law_source" "_law_source" (defArgs (topS 24)) (defBody (topS 24)) (defScope (topS 24)) .none kV12 dc12 pm12 an12 cd12 ct12), f__law_pick := f13, fd__law_pick := (PySem.W.fnOf "_law_pick" "_law_pick" (defArgs (topS 25)) (defBody (topS 25)) (defScope (topS 25)) .none kV13 dc13 pm13 an13 cd13 ct13), f__law_rules := f14, fd__law_rules := (PySem.W.fnOf "_law_rules" "_law_rules" (defArgs (topS 26)) (defBody (topS 26)) (defScope (topS 26)) .none kV14 dc14 pm14 an14 cd14 ct14), f_law := fa, fd_law := (PySem.W.fnOf "law" "law" (defArgs (topS 27)) (defBody (topS 27)) (defScope (topS 27)) .none kV15 dc15 pm15 an15 cd15 ct15), C_DeskError := 0, C_InvalidNumber := C1, C_InvalidRules := C2 }
  have T : Txt K mg A := { F_is_integer := F0, g_is_integer := PySem.W.mg_of X G a0, b_is_integer := b0, F_is_rules := F1, g_is_rules := PySem.W.mg_of X G a1, b_is_rules := b1, F_require_rules := F2, g_require_rules := PySem.W.mg_of X G a2, b_require_rules := b2, F_require_number := F3, g_require_number := PySem.W.mg_of X G a3, b_require_number := b3, F_rounded_up := F4, g_rounded_up := PySem.W.mg_of X G a4, b_rounded_up := b4, F_renewal_days := F5, g_renewal_days := PySem.W.mg_of X G a5, b_renewal_days := b5, F_best_renewals := F6, g_best_renewals := PySem.W.mg_of X G a6, b_best_renewals := b6, F_turn_of := F7, g_turn_of := PySem.W.mg_of X G a7, b_turn_of := b7, F_longest_of := F8, g_longest_of := PySem.W.mg_of X G a8, b_longest_of := b8, F_longest_wait := F9, g_longest_wait := PySem.W.mg_of X G a9, b_longest_wait := b9, F_fewest_copies := F10, g_fewest_copies := PySem.W.mg_of X G a10, b_fewest_copies := b10, F_longest_loan := F11, g_longest_loan := PySem.W.mg_of X G a11, b_longest_loan := b11, F__law_source := F12, g__law_source := PySem.W.mg_of X G a12, b__law_source := b12, F__law_pick := F13, g__law_pick := PySem.W.mg_of X G a13, b__law_pick := b13, F__law_rules := F14, g__law_rules := PySem.W.mg_of X G a14, b__law_rules := b14, F_law := F15, g_law := PySem.W.mg_of X G a15, b_law := b15, z_all := PySem.W.mg_none_of X G z_all, z_bool := PySem.W.mg_none_of X G z_bool, z_enumerate := PySem.W.mg_none_of X G z_enumerate, z_int := PySem.W.mg_none_of X G z_int, z_isinstance := PySem.W.mg_none_of X G z_isinstance, z_len := PySem.W.mg_none_of X G z_len, z_max := PySem.W.mg_none_of X G z_max, z_min := PySem.W.mg_none_of X G z_min, z_range := PySem.W.mg_none_of X G z_range, z_sorted := PySem.W.mg_none_of X G z_sorted, z_tuple := PySem.W.mg_none_of X G z_tuple, z_zip := PySem.W.mg_none_of X G z_zip, gc_HIGHS := ⟨.ref ac0, .ref ac0, PySem.W.mg_of X G gc0, rfl, fun F => .tup (xs := [.int 4, .int 30, .int 3, .int 30, .int 10, .int 30]) (.inr ⟨_, _, _, lc0, rfl, rfl, (show 6 ≤ sizeLine by decide), .cons ⟨_, rfl⟩ (.cons ⟨_, rfl⟩ (.cons ⟨_, rfl⟩ (.cons ⟨_, rfl⟩ (.cons ⟨_, rfl⟩ (.cons ⟨_, rfl⟩ (.nil))))))⟩) (.cons (.int _) (.cons (.int _) (.cons (.int _) (.cons (.int _) (.cons (.int _) (.cons (.int _) (.nil)))))))⟩, gc_LOWS := ⟨.ref ac1, .ref ac1, PySem.W.mg_of X G gc1, rfl, fun F => .tup (xs := [.int 1, .int 1, .int 0, .int 0, .int 0, .int 0]) (.inr ⟨_, _, _, lc1, rfl, rfl, (show 6 ≤ sizeLine by decide), .cons ⟨_, rfl⟩ (.cons ⟨_, rfl⟩ (.cons ⟨_, rfl⟩ (.cons ⟨_, rfl⟩ (.cons ⟨_, rfl⟩ (.cons ⟨_, rfl⟩ (.nil))))))⟩) (.cons (.int _) (.cons (.int _) (.cons (.int _) (.cons (.int _) (.cons (.int _) (.cons (.int _) (.nil)))))))⟩, gc_MAX_DAYS := ⟨.int 1000 tc2, .int 1000, PySem.W.mg_of X G gc2, ⟨_, rfl⟩, fun F => .int _⟩, gc_MAX_PLACE := ⟨.int 20 tc3, .int 20, PySem.W.mg_of X G gc3, ⟨_, rfl⟩, fun F => .int _⟩, g_InvalidNumber := PySem.W.mg_of X G g_InvalidNumber, x_InvalidNumber := x_InvalidNumber, k_InvalidNumber := kk_InvalidNumber, e_InvalidNumber := e_InvalidNumber, t_InvalidNumber := t_InvalidNumber, g_InvalidRules := PySem.W.mg_of X G g_InvalidRules, x_InvalidRules := x_InvalidRules, k_InvalidRules := kk_InvalidRules, e_InvalidRules := e_InvalidRules, t_InvalidRules := t_InvalidRules }
  exact ⟨(PySem.W.fnOf "law" "law" (defArgs (topS 27)) (defBody (topS 27)) (defScope (topS 27)) .none kV15 dc15 pm15 an15 cd15 ct15), A, fun s v => .of_eq rfl, fun base _ _ => ok_law T⟩
end DP.K14
end

section
namespace DP.K14
open PySem PySem.Spec PyProof.Rows L2 DP.G
theorem cut00 (a b c d e f : PyData) : cutD [a, b, c, d, e, f] none (some 0) = [] := rfl
theorem cut01 (a b c d e f : PyData) : cutD [a, b, c, d, e, f] none (some 1) = [a] := rfl
theorem cut02 (a b c d e f : PyData) : cutD [a, b, c, d, e, f] none (some 2) = [a, b] := rfl
theorem cut03 (a b c d e f : PyData) : cutD [a, b, c, d, e, f] none (some 3) = [a, b, c] := rfl
theorem cut04 (a b c d e f : PyData) : cutD [a, b, c, d, e, f] none (some 4) = [a, b, c, d] := rfl
theorem cut05 (a b c d e f : PyData) : cutD [a, b, c, d, e, f] none (some 5) = [a, b, c, d, e] := rfl
theorem cut3 (a b c d e f : PyData) : cutD [a, b, c, d, e, f] (some 3) none = [d, e, f] := rfl
theorem cut4 (a b c d e f : PyData) : cutD [a, b, c, d, e, f] (some 4) none = [e, f] := rfl
theorem cut5 (a b c d e f : PyData) : cutD [a, b, c, d, e, f] (some 5) none = [f] := rfl
theorem cut6 (a b c d e f : PyData) : cutD [a, b, c, d, e, f] (some 6) none = [] := rfl
abbrev highs : PyData := .list [.int 4, .int 30, .int 3, .int 30, .int 10, .int 30]
def A (x0 x1 x2 : Sl) (c l r w h s p : Int) (x9 x10 x11 : Sl) (env : Env) : Prop := ∃ (x : O) (y z : Sl), x.toD = some highs ∧ y.w = true ∧ z.w = true ∧ env = [x0, x1, x2, .v (.dat (rulD c l r w h s)), .v (.dat (.int p)), .v (.dat (.int (longD c l r w h p))), .v x, y, z, x9, x10, x11]
theorem at_step {x0 x1 x2 : Sl} {c l r w h s p : Int} {x9 x10 x11 : Sl} (R : Rul c l r w h s) (p0 : 1 ≤ p) (p1 : p ≤ 19) {i : Int} (hi : i = 0 ∨ i = 1 ∨ i = 2 ∨ i = 3 ∨ i = 4 ∨ i = 5) {env : Env} (I : A x0 x1 x2 c l r w h s p x9 x10 x11 env) :
    ∃ env1, hName 7 (.dat (.int i)) env = some env1 ∧ ∃ env2, l_law_0 env1 = .nx env2 ∧ A x0 x1 x2 c l r w h s p x9 x10 x11 env2 := by
  obtain ⟨x, y, z, hx, wy, wz, rfl⟩ := I
  have R0 := R
  obtain ⟨c0, c1, l0, l1, r0, r1, w0, w1, h0, h1, s0, s1⟩ := R
  refine ⟨[x0, x1, x2, .v (.dat (rulD c l r w h s)), .v (.dat (.int p)), .v (.dat (.int (longD c l r w h p))), .v x, .v (.dat (.int i)), z, x9, x10, x11], by simp [wy], ?_⟩
  have key : ∃ u : Sl, u.w = true ∧ l_law_0 [x0, x1, x2, .v (.dat (rulD c l r w h s)), .v (.dat (.int p)), .v (.dat (.int (longD c l r w h p))), .v x, .v (.dat (.int i)), z, x9, x10, x11] = .nx [x0, x1, x2, .v (.dat (rulD c l r w h s)), .v (.dat (.int p)), .v (.dat (.int (longD c l r w h p))), .v (.dat highs), .v (.dat (.int i)), u, x9, x10, x11] := by
    unfold l_law_0
    rcases hi with rfl | rfl | rfl | rfl | rfl | rfl
    · by_cases q : c < 4
      · have e := longest_wait_ok (c := c + 1) (l := l) (r := r) (w := w) (h := h) (s := s) (p := p) ⟨by omega, by omega, l0, l1, r0, r1, w0, w1, h0, h1, s0, s1⟩ p0 (by omega)
        have g : ¬ longD c l r w h p < longD (c + 1) l r w h p := Int.not_lt.mpr (long_copy c0 p0 (by omega))
        exact ⟨_, rfl, by simp [hx, q, cut00, cut1, fz_tup, e, g, wz, lendIn, backs]; rfl⟩
      · exact ⟨z, wz, by simp [hx, q]⟩
    · by_cases q : l < 30
      · have e := longest_wait_ok (c := c) (l := l + 1) (r := r) (w := w) (h := h) (s := s) (p := p) ⟨c0, c1, by omega, by omega, r0, r1, w0, w1, h0, h1, s0, s1⟩ p0 (by omega)
        have g : ¬ longD c (l + 1) r w h p < longD c l r w h p := Int.not_lt.mpr (long_up c0 p0 l0 r0 r1 (by omega) (by omega) (by omega) (by omega))
        exact ⟨_, rfl, by simp [hx, q, cut01, cut2, fz_tup, e, g, wz, lendIn, backs]; rfl⟩
      · exact ⟨z, wz, by simp [hx, q]⟩
    · by_cases q : r < 3
      · have e := longest_wait_ok (c := c) (l := l) (r := r + 1) (w := w) (h := h) (s := s) (p := p) ⟨c0, c1, l0, l1, by omega, by omega, w0, w1, h0, h1, s0, s1⟩ p0 (by omega)
        have g : ¬ longD c l (r + 1) w h p < longD c l r w h p := Int.not_lt.mpr (long_up c0 p0 l0 r0 (by omega) (by omega) (by omega) (by omega) (by omega))
        exact ⟨_, rfl, by simp [hx, q, cut02, cut3, fz_tup, e, g, wz, lendIn, backs]; rfl⟩
      · exact ⟨z, wz, by simp [hx, q]⟩
    · by_cases q : w < 30
      · have e := longest_wait_ok (c := c) (l := l) (r := r) (w := w + 1) (h := h) (s := s) (p := p) ⟨c0, c1, l0, l1, r0, r1, by omega, by omega, h0, h1, s0, s1⟩ p0 (by omega)
        have g : ¬ longD c l r (w + 1) h p < longD c l r w h p := Int.not_lt.mpr (long_up c0 p0 l0 r0 r1 (by omega) (by omega) (by omega) (by omega))
        exact ⟨_, rfl, by simp [hx, q, cut03, cut4, fz_tup, e, g, wz, lendIn, backs]; rfl⟩
      · exact ⟨z, wz, by simp [hx, q]⟩
    · by_cases q : h < 10
      · have e := longest_wait_ok (c := c) (l := l) (r := r) (w := w) (h := h + 1) (s := s) (p := p) ⟨c0, c1, l0, l1, r0, r1, w0, w1, by omega, by omega, s0, s1⟩ p0 (by omega)
        have g : ¬ longD c l r w (h + 1) p < longD c l r w h p := Int.not_lt.mpr (long_up c0 p0 l0 r0 r1 (by omega) (by omega) (by omega) (by omega))
        exact ⟨_, rfl, by simp [hx, q, cut04, cut5, fz_tup, e, g, wz, lendIn, backs]; rfl⟩
      · exact ⟨z, wz, by simp [hx, q]⟩
    · by_cases q : s < 30
      · have e := longest_wait_ok (c := c) (l := l) (r := r) (w := w) (h := h) (s := s + 1) (p := p) ⟨c0, c1, l0, l1, r0, r1, w0, w1, h0, h1, by omega, by omega⟩ p0 (by omega)
        exact ⟨_, rfl, by simp [hx, q, cut05, cut6, fz_tup, e, wz, lendIn, backs]; rfl⟩
      · exact ⟨z, wz, by simp [hx, q]⟩
  obtain ⟨u, wu, e⟩ := key
  exact ⟨_, e, .dat highs, _, u, by simp, rfl, wu, rfl⟩
end DP.K14
end

section
namespace DP.K14
open PySem PySem.Spec PyProof.Rows L2 DP.G
theorem gNe_b (a b : Bool) : gNe (.bool a) (.bool b) = some (.dat (.bool (a != b))) := by
  unfold gNe
  rw [if_pos ⟨rfl, rfl⟩]
  cases a <;> cases b <;> rfl
theorem gIsNot_n : gIsNot .none .none = some (.dat (.bool false)) := rfl
theorem gIsNot_i (i : Int) : gIsNot (.int i) .none = some (.dat (.bool true)) := rfl
theorem gIs_n : gIs .none .none = some (.dat (.bool true)) := rfl
theorem gIs_i (i : Int) : gIs (.int i) .none = some (.dat (.bool false)) := rfl
set_option maxHeartbeats 8000000 in
theorem step1 {ns : List Int} {k : Int} (k0 : 0 ≤ k) (k1 : k < 64) {env : Env} (I : Free ns 11 env) : ∃ env1, hName 1 (.dat (.int k)) env = some env1 ∧ ∃ env2, l_law_1 env1 = .nx env2 ∧ Free ns 11 env2 := by
  obtain ⟨t, rfl, tl, tw⟩ := I
  obtain ⟨s1, t0, rfl, tl0⟩ := len_cons tl
  obtain ⟨s2, t1, rfl, tl1⟩ := len_cons tl0
  obtain ⟨s3, t2, rfl, tl2⟩ := len_cons tl1
  obtain ⟨s4, t3, rfl, tl3⟩ := len_cons tl2
  obtain ⟨s5, t4, rfl, tl4⟩ := len_cons tl3
  obtain ⟨s6, t5, rfl, tl5⟩ := len_cons tl4
  obtain ⟨s7, t6, rfl, tl6⟩ := len_cons tl5
  obtain ⟨s8, t7, rfl, tl7⟩ := len_cons tl6
  obtain ⟨s9, t8, rfl, tl8⟩ := len_cons tl7
  obtain ⟨s10, t9, rfl, tl9⟩ := len_cons tl8
  obtain ⟨s11, t10, rfl, tl10⟩ := len_cons tl9
  obtain rfl := List.length_eq_zero_iff.mp tl10
  simp only [List.mem_cons, List.not_mem_nil, or_false, forall_eq_or_imp, forall_eq] at tw
  obtain ⟨v1, v2, v3, v4, v5, v6, v7, v8, v9, v10, v11⟩ := tw
  obtain ⟨o, e1, S⟩ := source_ok ns k0 k1
  obtain ⟨c, l, r, w, h, s, o1, e2, R, S1⟩ := rules_ok S
  obtain ⟨a, o2, e3, a0, a1, S2⟩ := pick_ok S1 (n := 19) (by decide) (by decide)
  obtain ⟨b, o3, e4, b0, b1, S3⟩ := pick_ok S2 (n := 9) (by decide) (by decide)
  have R0 := R
  obtain ⟨c0, c1, l0, l1, r0, r1, w0, w1, h0, h1, s0, s1⟩ := R
  obtain ⟨p, hp⟩ : ∃ p, p = 1 + a := ⟨_, rfl⟩
  have e5 := longest_wait_ok R0 (p := p) (by omega) (by omega)
  have e6 := longest_wait_ok R0 (p := p + 1) (by omega) (by omega)
  have A0 : A (.v (scriptO ns)) (.v (.dat (.int k))) (.v o2) c l r w h s p s9 s10 s11 [.v (scriptO ns), .v (.dat (.int k)), .v o2, .v (.dat (rulD c l r w h s)), .v (.dat (.int p)), .v (.dat (.int (longD c l r w h p))), .v (.node .lst [.dat (.int 4), .dat (.int 30), .dat (.int 3), .dat (.int 30), .dat (.int 10), .dat (.int 30)]), s7, s8, s9, s10, s11] := ⟨_, s7, s8, by simp, v7, v8, rfl⟩
  obtain ⟨en, x1, x, y, z, hx, wy, wz, rfl⟩ := loopS_inv (hg := hName 7) (body := l_law_0) (A (.v (scriptO ns)) (.v (.dat (.int k))) (.v o2) c l r w h s p s9 s10 s11) (ds := rngD 0 6) (fun d hd env I => by
    obtain ⟨i, hi, rfl⟩ := rngD_mem hd
    exact at_step R0 (by omega) (by omega) (by omega) I) A0
  obtain ⟨t1, t2⟩ := long_place (c := c) (l := l) (r := r) (w := w) (h := h) (p := p) c0 (by omega) (by omega)
  obtain ⟨z1, z2⟩ := long_bound (c := c) (l := l) (r := r) (w := w) (h := h) (p := p) c0 (by omega) (by omega) l0 l1 r0 r1 w1 w0 h0 h1
  have f1 : ¬ longD c l r w h (p + 1) < longD c l r w h p := Int.not_lt.mpr t1
  have f2 : ¬ longD c l r w h p + l + h < longD c l r w h (p + 1) := Int.not_lt.mpr t2
  obtain ⟨d, hd⟩ : ∃ d, d = (if 4 < longD c l r w h p + b then longD c l r w h p + b - 4 else 0) := ⟨_, rfl⟩
  have d0 : 0 ≤ d := by rw [hd]; split <;> omega
  have d1 : d ≤ 1000 := by rw [hd]; split <;> omega
  have up : ∀ f, l ≤ f → longD c l r w h p ≤ longD c f r w h p := fun f hf => long_up c0 (by omega) l0 r0 r1 hf (by omega) (by omega) (by omega)
  have cop := fewest_ok R0 (p := p) (d := d) (by omega) (by omega) d0 d1
  have loa := loan_ok R0 (p := p) (d := d) (by omega) (by omega) d0 d1
  have cases : (∃ (C : O), d_fewest_copies [.dat (rulD c l r w h s), .dat (.int p), .dat (.int d)] = .ok C [] ∧ (C = .dat .none ∨ ∃ f, C = .dat (.int f) ∧ 1 ≤ f ∧ longD f l r w h p ≤ d ∧ (1 < f → d < longD (f - 1) l r w h p))) := by
    rcases cop with ⟨e, _⟩ | ⟨f, e, g1, g2, g3, g4⟩
    · exact ⟨_, e, .inl rfl⟩
    · exact ⟨_, e, .inr ⟨f, rfl, g1, g3, fun q => g4 _ (by omega) (by omega)⟩⟩
  obtain ⟨C, e7, cop⟩ := cases
  have fin : ∀ (L : O) (o3 : O), Src o3 → Free ns 11 [.v (scriptO ns), .v (.dat (.int k)), .v o3, .v (.dat (rulD c l r w h s)), .v (.dat (.int p)), .v (.dat (.int (longD c l r w h p))), .v x, y, z, .v (.dat (.int d)), .v C, .v L] := fun L o3 _ => ⟨_, rfl, rfl, by simp [wy, wz]⟩
  refine ⟨_, by simp [v1]; rfl, ?_⟩
  rcases loa with ⟨e8, g8⟩ | ⟨n, e8, n0, n1, n2, n3⟩
  · have q8 : d < longD c l r w h p := g8 l l0 l1
    refine ⟨_, ?_, fin (.dat .none) o3 S3⟩
    unfold l_law_1
    rcases cop with rfl | ⟨f, rfl, f0, f3, f4⟩
    · simp [v2, v3, v4, v5, v6, v7, v8, v9, v10, v11, lendIn, takeO, backs, putBack, e1, e2, e3, e4, e5, e6, e7, e8, ← hp, ← hd, x1, f1, f2, q8, cut1, cut2, fz_tup, gNe_b, gIsNot_n, gIsNot_i, gIs_n, gIs_i]
    · by_cases q1 : f ≤ 4
      · have e9 := longest_wait_ok (c := f) (l := l) (r := r) (w := w) (h := h) (s := s) (p := p) ⟨f0, q1, l0, l1, r0, r1, w0, w1, h0, h1, s0, s1⟩ (by omega) (by omega)
        have f3' : ¬ d < longD f l r w h p := by omega
        by_cases q2 : 1 < f
        · have e10 := longest_wait_ok (c := f - 1) (l := l) (r := r) (w := w) (h := h) (s := s) (p := p) ⟨by omega, by omega, l0, l1, r0, r1, w0, w1, h0, h1, s0, s1⟩ (by omega) (by omega)
          have f4' : ¬ longD (f - 1) l r w h p ≤ d := by have := f4 q2; omega
          simp [v2, v3, v4, v5, v6, v7, v8, v9, v10, v11, lendIn, takeO, backs, putBack, e1, e2, e3, e4, e5, e6, e7, e8, ← hp, ← hd, x1, f1, f2, q8, cut1, cut2, fz_tup, gNe_b, gIsNot_n, gIsNot_i, gIs_n, gIs_i, q1, q2, e9, e10, f3', f4']
        · simp [v2, v3, v4, v5, v6, v7, v8, v9, v10, v11, lendIn, takeO, backs, putBack, e1, e2, e3, e4, e5, e6, e7, e8, ← hp, ← hd, x1, f1, f2, q8, cut1, cut2, fz_tup, gNe_b, gIsNot_n, gIsNot_i, gIs_n, gIs_i, q1, q2, e9, f3']
      · simp [v2, v3, v4, v5, v6, v7, v8, v9, v10, v11, lendIn, takeO, backs, putBack, e1, e2, e3, e4, e5, e6, e7, e8, ← hp, ← hd, x1, f1, f2, q8, cut1, cut2, fz_tup, gNe_b, gIsNot_n, gIsNot_i, gIs_n, gIs_i, q1]
  · have q8 : (decide (n < l) != decide (d < longD c l r w h p)) = false := by
      by_cases q : n < l
      · have := n3 l q l1
        simp [q, this]
      · have := up n (by omega)
        have q' : ¬ d < longD c l r w h p := by omega
        simp [q, q']
    have e11 := longest_wait_ok (c := c) (l := n) (r := r) (w := w) (h := h) (s := s) (p := p) ⟨c0, c1, n0, n1, r0, r1, w0, w1, h0, h1, s0, s1⟩ (by omega) (by omega)
    have n2' : ¬ d < longD c n r w h p := by omega
    refine ⟨_, ?_, fin (.dat (.int n)) o3 S3⟩
    unfold l_law_1
    rcases cop with rfl | ⟨f, rfl, f0, f3, f4⟩
    · simp [v2, v3, v4, v5, v6, v7, v8, v9, v10, v11, lendIn, takeO, backs, putBack, e1, e2, e3, e4, e5, e6, e7, e8, ← hp, ← hd, x1, f1, f2, q8, cut1, cut2, fz_tup, gNe_b, gIsNot_n, gIsNot_i, gIs_n, gIs_i, e11, n2']
    · by_cases q1 : f ≤ 4
      · have e9 := longest_wait_ok (c := f) (l := l) (r := r) (w := w) (h := h) (s := s) (p := p) ⟨f0, q1, l0, l1, r0, r1, w0, w1, h0, h1, s0, s1⟩ (by omega) (by omega)
        have f3' : ¬ d < longD f l r w h p := by omega
        by_cases q2 : 1 < f
        · have e10 := longest_wait_ok (c := f - 1) (l := l) (r := r) (w := w) (h := h) (s := s) (p := p) ⟨by omega, by omega, l0, l1, r0, r1, w0, w1, h0, h1, s0, s1⟩ (by omega) (by omega)
          have f4' : ¬ longD (f - 1) l r w h p ≤ d := by have := f4 q2; omega
          simp [v2, v3, v4, v5, v6, v7, v8, v9, v10, v11, lendIn, takeO, backs, putBack, e1, e2, e3, e4, e5, e6, e7, e8, ← hp, ← hd, x1, f1, f2, q8, cut1, cut2, fz_tup, gNe_b, gIsNot_n, gIsNot_i, gIs_n, gIs_i, e11, n2', q1, q2, e9, e10, f3', f4']
        · simp [v2, v3, v4, v5, v6, v7, v8, v9, v10, v11, lendIn, takeO, backs, putBack, e1, e2, e3, e4, e5, e6, e7, e8, ← hp, ← hd, x1, f1, f2, q8, cut1, cut2, fz_tup, gNe_b, gIsNot_n, gIsNot_i, gIs_n, gIs_i, e11, n2', q1, q2, e9, f3']
      · simp [v2, v3, v4, v5, v6, v7, v8, v9, v10, v11, lendIn, takeO, backs, putBack, e1, e2, e3, e4, e5, e6, e7, e8, ← hp, ← hd, x1, f1, f2, q8, cut1, cut2, fz_tup, gNe_b, gIsNot_n, gIsNot_i, gIs_n, gIs_i, e11, n2', q1]
theorem law_true (ns : List Int) (h : ns.length ≤ 63) : d_law [scriptO ns] = .ok (.dat (.bool true)) [] := by
  have R1 : Rul 1 1 0 0 0 0 := by unfold Rul; decide
  have m1 := longest_wait_ok R1 (p := 1) (by decide) (by decide)
  rw [show longD 1 1 0 0 0 1 = 1 by decide] at m1
  refine outer_ok (m := 11) (A := 6) (B := 24) h (by decide) (fun k k0 k1 env I => step1 k0 k1 I) fun env I => ⟨env, ?_, I⟩
  simp [lendIn, backs, fz_tup, m1]
end DP.K14
end

section
open PySem PySem.W PyProof.Rows
set_option maxHeartbeats 0 in
theorem PySem.Challenge.cw_loandesks_k14_whole_waits_grow_holds : PySem.Challenge.rw_loandesks_k14_whole_waits_grow.Holds := by
  w_on; o_law; k_head; (case hw => w_witness2)
  k_fill
  refine DP.walk_den (l := PySem.Challenge.rw_loandesks_k14_whole_waits_grow) (n := 63) (k := 5) (x := "script") (io := [false]) (den := DP.K14.d_law) (by rfl) (by decide) (by rfl) ⟨rfl, by decide, by decide⟩ (fun w h Y => PySem.W.kIn_of Y) ?F DP.K14.law_true rfl
  case F =>
    intro w mg fa h KX G hmg
    refine DP.cls_ex (cls := DP.K14.clsOf) ?_
    refine' DP.K14.all_mk KX G hmg ?a0 ?l0 ?c0 ?k0 ?a1 ?l1 ?c1 ?k1 ?a2 ?l2 ?c2 ?k2 ?a3 ?l3 ?c3 ?k3 ?a4 ?l4 ?c4 ?k4 ?a5 ?l5 ?c5 ?k5 ?a6 ?l6 ?c6 ?k6 ?a7 ?l7 ?c7 ?k7 ?a8 ?l8 ?c8 ?k8 ?a9 ?l9 ?c9 ?k9 ?a10 ?l10 ?c10 ?k10 ?a11 ?l11 ?c11 ?k11 ?a12 ?l12 ?c12 ?k12 ?a13 ?l13 ?c13 ?k13 ?a14 ?l14 ?c14 ?k14 ?a15 ?l15 ?c15 ?k15 ?z_all ?z_bool ?z_enumerate ?z_int ?z_isinstance ?z_len ?z_max ?z_min ?z_range ?z_sorted ?z_tuple ?z_zip ?gc0 ?lc0 ?gc1 ?lc1 ?gc2 ?gc3 ?g_InvalidNumber ?x_InvalidNumber ?kk_InvalidNumber ?e_InvalidNumber ?t_InvalidNumber ?g_InvalidRules ?x_InvalidRules ?kk_InvalidRules ?e_InvalidRules ?t_InvalidRules
    (case a0 => k_is)
    (case l0 => k_is)
    (case c0 => k_is)
    (case k0 => k_is)
    (case a1 => k_is)
    (case l1 => k_is)
    (case c1 => k_is)
    (case k1 => k_is)
    (case a2 => k_is)
    (case l2 => k_is)
    (case c2 => k_is)
    (case k2 => k_is)
    (case a3 => k_is)
    (case l3 => k_is)
    (case c3 => k_is)
    (case k3 => k_is)
    (case a4 => k_is)
    (case l4 => k_is)
    (case c4 => k_is)
    (case k4 => k_is)
    (case a5 => k_is)
    (case l5 => k_is)
    (case c5 => k_is)
    (case k5 => k_is)
    (case a6 => k_is)
    (case l6 => k_is)
    (case c6 => k_is)
    (case k6 => k_is)
    (case a7 => k_is)
    (case l7 => k_is)
    (case c7 => k_is)
    (case k7 => k_is)
    (case a8 => k_is)
    (case l8 => k_is)
    (case c8 => k_is)
    (case k8 => k_is)
    (case a9 => k_is)
    (case l9 => k_is)
    (case c9 => k_is)
    (case k9 => k_is)
    (case a10 => k_is)
    (case l10 => k_is)
    (case c10 => k_is)
    (case k10 => k_is)
    (case a11 => k_is)
    (case l11 => k_is)
    (case c11 => k_is)
    (case k11 => k_is)
    (case a12 => k_is)
    (case l12 => k_is)
    (case c12 => k_is)
    (case k12 => k_is)
    (case a13 => k_is)
    (case l13 => k_is)
    (case c13 => k_is)
    (case k13 => k_is)
    (case a14 => k_is)
    (case l14 => k_is)
    (case c14 => k_is)
    (case k14 => k_is)
    (case a15 => k_is)
    (case l15 => k_is)
    (case c15 => k_is)
    (case k15 => k_is)
    (case z_all => k_is)
    (case z_bool => k_is)
    (case z_enumerate => k_is)
    (case z_int => k_is)
    (case z_isinstance => k_is)
    (case z_len => k_is)
    (case z_max => k_is)
    (case z_min => k_is)
    (case z_range => k_is)
    (case z_sorted => k_is)
    (case z_tuple => k_is)
    (case z_zip => k_is)
    (case gc0 => k_is)
    (case lc0 => k_is)
    (case gc1 => k_is)
    (case lc1 => k_is)
    (case gc2 => k_is)
    (case gc3 => k_is)
    (case g_InvalidNumber => k_is)
    (case x_InvalidNumber => first | k_exc | k_is)
    (case kk_InvalidNumber => k_is)
    (case e_InvalidNumber => k_is)
    (case t_InvalidNumber => k_is)
    (case g_InvalidRules => k_is)
    (case x_InvalidRules => first | k_exc | k_is)
    (case kk_InvalidRules => k_is)
    (case e_InvalidRules => k_is)
    (case t_InvalidRules => k_is)
end
