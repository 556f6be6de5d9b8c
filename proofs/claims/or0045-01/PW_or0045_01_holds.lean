import PyProof.Rows.All
import Wide.All
import OpenK.AllK
import Wide.FinOn
import PySem.Challenge.RW_or0045_01
open PySem PySem.W PySem.Calls PyProof.Rows
set_option linter.unusedVariables false
set_option linter.unusedSimpArgs false
set_option Elab.async false
set_option maxRecDepth 100000
set_option linter.unusedVariables false
set_option compiler.extract_closed false
set_option linter.unusedSimpArgs false
namespace Mine
noncomputable def view : Program := { PySem.Challenge.pw_or0045_01 with main := { PySem.Challenge.pw_or0045_01.main with body := (PySem.Challenge.pw_or0045_01.main.body.take 20).drop 1 ++ PySem.Challenge.pw_or0045_01.main.body.drop 21 } }
-- the head: the run of the module's text from the boot that the library laid, by the library's fast twins
theorem left_gen {p q : Program} {loose : List Str} {Xt : Shared → Bool} {α : Type} {Yf : Shared → α} {Ya : World → α} {H : Params → Heap} {gs : Array GenState} {d : Drawn} {k m M N : Nat} {ann : Option Value}
    (opn : ∀ w : World, (fencedOpening treeTable p w (M + N)).map (fun s => (s.heap, s.gens, s.drawn, s.toks)) = some (H w.params, gs, d, k))
    (size : ∀ w : World, ((H w.params).isNs mainGlobals && gs.size == 0, (H w.params).objs.size, (H w.params).nsMap mainGlobals "__annotations__") = (true, m, ann))
    (h : ∀ w os, (topRun treeTable p w m ann M ⟨H w.params, gs, d, k, os⟩ (topStub p)).map (fun s => (staticsOk (importedModules p.main.body) (H w.params) s.heap && namesBound p s.heap && gensDone s && laidKept (H w.params) s.heap,
      openSeen q loose (importedModules p.main.body) Xt true s, Yf s)) = some (true, openGood q loose, Ya w)) : LeftO p q loose Xt Yf Ya (M + N) := by
  intro w
  obtain ⟨s0, e, e'⟩ := Option.map_eq_some_iff.mp (opn w)
  obtain ⟨h0, gs0, d0, k0, os⟩ := s0
  have e1 := congrArg Prod.fst e'
  have e2 := congrArg (fun x => x.2.1) e'
  have e3 := congrArg (fun x => x.2.2.1) e'
  have e4 := congrArg (fun x => x.2.2.2) e'
  dsimp only at e1 e2 e3 e4
  subst e1 e2 e3 e4
  obtain ⟨s1, r1, r2⟩ := Option.map_eq_some_iff.mp (h w os)
  have t : topFrom treeTable p w (M + N) ⟨H w.params, gs0, d0, k0, os⟩ = some s1 := by
    have z := size w
    have r := topRun_mono N _ _ _ _ r1
    unfold topFrom
    simp only [Prod.mk.injEq] at z r2
    simp only [z.1, z.2.1, z.2.2, r, Option.bind_some, r2.1]
  unfold openEnds
  rw [e, Option.bind_some, t]
  exact congrArg some (congrArg Prod.snd r2)
noncomputable abbrev pp : Program := PySem.Challenge.pw_or0045_01
theorem twin_eq {B : Type} {p q : Program} {w : World} {m M : Nat} {ann : Option Value} {s : Shared} {t : Thread} {l mods : List Str} {Xt : Shared → Bool} {f : Shared → Bool} {g : Shared → B} {b}
    (h : (PySem.W.Fast.tw14082659384304107361 PySem.W.Fast.tw14364793385576792824 p w m ann M s t).map (fun s => (f s, PySem.W.Fast.tw4187177175401517315 q l mods Xt true s, g s)) = b) :
    (topRun treeTable p w m ann M s t).map (fun s => (f s, openSeen q l mods Xt true s, g s)) = b := by
  rw [PySem.W.Fast.te14082659384304107361, PySem.W.Fast.te14364793385576792824, PySem.W.Fast.te4187177175401517315]; exact h
theorem opn : ∀ w : World, (fencedOpening treeTable pp w (2000 + 810)).map (fun s => (s.heap, s.gens, s.drawn, s.toks)) = some (boot_heap w.params, Array.mk [], boot_drawn, boot_toks) := boot_open (by kernel_rfl) (by rfl) (by intro s; kernel_rfl)
theorem opn_size (w : World) : ((boot_heap w.params).isNs mainGlobals && (Array.mk [] : Array GenState).size == 0, (boot_heap w.params).objs.size, (boot_heap w.params).nsMap mainGlobals "__annotations__") = (true, 11, some (.ref 6)) := by kernel_rfl
theorem said_law : OpenLaw.wellSaid PySem.Challenge.rw_or0045_01 = true := (congrFun PySem.W.Fast.te9446332074065402090 _).trans (by kernel_rfl)
noncomputable abbrev Xt (s : Shared) : Bool := xlAt view [] s && recOk (RowW.records (OpenRow.toRowW PySem.Challenge.rw_or0045_01.row)) s
noncomputable def head_of (H : Hook) (said : PySem.Challenge.rw_or0045_01.row.wellSaid = true) (hl : LeftO pp view [] Xt H.obs H.val (2000 + 810)) :=
  holds_open (r := PySem.Challenge.rw_or0045_01.row) (q := view) (loose := []) (Xt := Xt) (XP := XL view []) (Yf := H.obs) (Ya := H.val) (YP := H.says) (N := 2000 + 810) hl H.of H.keeps (fun s e => xl_of s (Bool.and_eq_true_iff.mp e).1) XL.keeps
    (by rfl) (by rfl) (by rfl) (fun s e => recFacts_of (Bool.and_eq_true_iff.mp e).2) (by rfl) said (by decide +kernel) ⟨rfl, rfl, rfl, rfl, rfl, by decide +kernel⟩
end Mine
local macro_rules | `(tactic| o_law) => `(tactic| refine holds_law Mine.said_law fun said => ?_)
set_option hygiene false
local macro_rules | `(tactic| o_head $H) => `(tactic| refine Mine.head_of $H (by assumption) (Mine.left_gen Mine.opn Mine.opn_size fun w os => Mine.twin_eq (by kernel_rfl)) ?hw ?hc)
set_option maxHeartbeats 8000000 in
open_top hd for PySem.Challenge.rw_or0045_01
namespace Mine

inductive MV where
  | none
  | bool (b : Bool)
  | int (i : Int)
  | str (x : Str)
  | tup (vs : List MV)
  | ref (i : Nat)
  | obj (C : Addr) (i : Nat)
  | rng (a b c : Int)
  | ilst (vs : List MV)

inductive MO where
  | lst (vs : List MV)
  | dctI (ep : Nat) (kvs : List (Int × MV))
  | dctS (ep : Nat) (kvs : List (Str × MV))
  | fld (kvs : List (Str × MV))
noncomputable abbrev MH := List MO

structure RR where
  ρ : List Addr
  ι : List (Addr × Obj)

noncomputable abbrev tupObj (rvs : List Value) (n : Nat) : Obj := { cls := .type "tuple", data := .seq rvs.toArray n }
noncomputable abbrev rngObj (a b c : Int) (t u v : Tok) : Obj := { cls := .type "range", dict := none, data := .fields #[.int a t, .int b u, .int c v], slots := #[] }
noncomputable abbrev lstObj (rvs : List Value) (n : Nat) : Obj := { cls := .type "list", data := .seq rvs.toArray n }

mutual
inductive VRep (R : RR) : MV → Value → Prop
  | none : VRep R .none .none
  | bool (b : Bool) : VRep R (.bool b) (.bool b)
  | int (i : Int) (t : Tok) : VRep R (.int i) (.int i t)
  | str (x : Str) (t : Tok) : VRep R (.str x) (.str x t)
  | tup {a : Addr} {rvs : List Value} {n : Nat} {vs : List MV} : (a, tupObj rvs n) ∈ R.ι → VReps R vs rvs → VRep R (.tup vs) (.ref a)
  | ref {i : Nat} {a : Addr} : R.ρ[i]? = some a → VRep R (.ref i) (.ref a)
  | obj {C : Addr} {i : Nat} {a dx : Addr} : R.ρ[i]? = some dx → (a, instObj C dx) ∈ R.ι → VRep R (.obj C i) (.ref a)
  | ilst {a : Addr} {o : Obj} {rvs : List Value} {n : Nat} {vs : List MV} : (a, o) ∈ R.ι → o.cls = .type "list" → o.data = .seq rvs.toArray n → VReps R vs rvs → VRep R (.ilst vs) (.ref a)
  | rng {r : Addr} {a b c : Int} (t u v : Tok) : (r, rngObj a b c t u v) ∈ R.ι → VRep R (.rng a b c) (.ref r)
inductive VReps (R : RR) : List MV → List Value → Prop
  | nil : VReps R [] []
  | cons {v : MV} {rv : Value} {vs : List MV} {rvs : List Value} : VRep R v rv → VReps R vs rvs → VReps R (v :: vs) (rv :: rvs)
end

structure RLe (R R' : RR) : Prop where
  rho : ∀ (i : Nat) (a : Addr), R.ρ[i]? = some a → R'.ρ[i]? = some a
  iota : ∀ p ∈ R.ι, p ∈ R'.ι
theorem RLe.refl (R : RR) : RLe R R := ⟨fun _ _ h => h, fun _ h => h⟩
theorem RLe.trans {R R' R'' : RR} (x : RLe R R') (y : RLe R' R'') : RLe R R'' := ⟨fun i a h => y.rho i a (x.rho i a h), fun p h => y.iota p (x.iota p h)⟩
theorem RLe.mem {R R' : RR} (x : RLe R R') {a : Addr} (h : a ∈ R.ρ) : a ∈ R'.ρ := by
  obtain ⟨i, hi⟩ := List.mem_iff_getElem?.mp h
  exact List.mem_of_getElem? (x.rho i a hi)

mutual
theorem VRep.mono {R R' : RR} (x : RLe R R') : ∀ {v : MV} {rv : Value}, VRep R v rv → VRep R' v rv
  | _, _, .none => .none
  | _, _, .bool b => .bool b
  | _, _, .int i t => .int i t
  | _, _, .str s t => .str s t
  | _, _, .tup h r => .tup (x.iota _ h) (VReps.mono x r)
  | _, _, .ref h => .ref (x.rho _ _ h)
  | _, _, .obj h k => .obj (x.rho _ _ h) (x.iota _ k)
  | _, _, .rng t u v h => .rng t u v (x.iota _ h)
  | _, _, .ilst h c d r => .ilst (x.iota _ h) c d (VReps.mono x r)
theorem VReps.mono {R R' : RR} (x : RLe R R') : ∀ {vs : List MV} {rvs : List Value}, VReps R vs rvs → VReps R' vs rvs
  | _, _, .nil => .nil
  | _, _, .cons h r => .cons (VRep.mono x h) (VReps.mono x r)
end
section
variable {R : RR} {vs ws : List MV} {rvs rws : List Value} {v : MV} {rv : Value}
theorem VReps.length (h : VReps R vs rvs) : rvs.length = vs.length := by
  induction vs generalizing rvs with
  | nil => cases h; rfl
  | cons v vs ih => cases h with | cons _ r => rw [List.length_cons, List.length_cons, ih r]
theorem VReps.append (h : VReps R vs rvs) (k : VReps R ws rws) : VReps R (vs ++ ws) (rvs ++ rws) := by
  induction vs generalizing rvs with
  | nil => cases h; exact k
  | cons v vs ih => cases h with | cons a r => exact .cons a (ih r)
theorem VReps.one (h : VRep R v rv) : VReps R [v] [rv] := .cons h .nil
theorem VReps.get (h : VReps R vs rvs) {k : Nat} {v : MV} (hk : vs[k]? = some v) : ∃ rv, rvs[k]? = some rv ∧ VRep R v rv := by
  induction vs generalizing rvs k with
  | nil => simp at hk
  | cons w vs ih =>
    cases h with
    | cons a r =>
      cases k with
      | zero => simp at hk; subst hk; exact ⟨_, rfl, a⟩
      | succ k => simp at hk; simpa using ih r hk
theorem VReps.reverse (h : VReps R vs rvs) : VReps R vs.reverse rvs.reverse := by
  induction vs generalizing rvs with
  | nil => cases h; exact .nil
  | cons v vs ih => cases h with | cons a r => rw [List.reverse_cons, List.reverse_cons]; exact (ih r).append (.one a)
theorem VReps.take (h : VReps R vs rvs) (k : Nat) : VReps R (vs.take k) (rvs.take k) := by
  induction vs generalizing rvs k with
  | nil => cases h; simp; exact .nil
  | cons v vs ih => cases h with | cons a r => cases k with
    | zero => exact .nil
    | succ k => exact .cons a (ih r k)
theorem VReps.drop (h : VReps R vs rvs) (k : Nat) : VReps R (vs.drop k) (rvs.drop k) := by
  induction vs generalizing rvs k with
  | nil => cases h; simp; exact .nil
  | cons v vs ih => cases h with | cons a r => cases k with
    | zero => exact .cons a r
    | succ k => exact ih r k
theorem VReps.set (h : VReps R vs rvs) (k : Nat) (hv : VRep R v rv) : VReps R (vs.set k v) (rvs.set k rv) := by
  induction vs generalizing rvs k with
  | nil => cases h; exact .nil
  | cons w vs ih => cases h with | cons a r => cases k with
    | zero => exact .cons hv r
    | succ k => exact .cons a (ih r k)
theorem VReps.replicate (hv : VRep R v rv) : ∀ n : Nat, VReps R (List.replicate n v) (List.replicate n rv)
  | 0 => .nil
  | n + 1 => .cons hv (VReps.replicate hv n)
end

noncomputable abbrev Prg : Program := PySem.Challenge.rw_or0045_01.row.prog
noncomputable abbrev Kf (w : World) : Frag := hd.heap_1 w.params

structure WD where
  w : World
  H₀ : Heap
  p : Program
  loose : List Str
  mean : ExcName → Option Value
  mg : Str → Option Value
  mb : Str → Option Value
  T : Top p loose mean mg mb H₀
  X : (Kf w).In H₀
  c1 : CodeHd H₀ 221 219
  c2 : CodeHd H₀ 209 207
  c3 : CodeHd H₀ 157 153
  t1 : H₀.get? 219 = none
  t2 : H₀.get? 207 = none
  t3 : H₀.get? 153 = none

noncomputable def tabs : List Addr := [219, 207, 153]
/-- keys and values of a dict, related -/
inductive KReps (R : RR) {κ : Type} : List (κ × MV) → List (κ × Value) → Prop
  | nil : KReps R [] []
  | cons {k : κ} {v : MV} {rv : Value} {vs : List (κ × MV)} {rvs : List (κ × Value)} : VRep R v rv → KReps R vs rvs → KReps R ((k, v) :: vs) ((k, rv) :: rvs)
theorem KReps.mono {R R' : RR} (x : RLe R R') {κ : Type} {vs : List (κ × MV)} {rvs : List (κ × Value)} (h : KReps R vs rvs) : KReps R' vs rvs := by
  induction h with
  | nil => exact .nil
  | cons a _ ih => exact .cons (a.mono x) ih
/-- the entries of an object's dict -/
inductive FReps (R : RR) : List (Str × MV) → List DictEntry → Prop
  | nil : FReps R [] []
  | cons {k : Str} {t : Tok} {z : Int} {v : MV} {rv : Value} {vs : List (Str × MV)} {es : List DictEntry} : VRep R v rv → FReps R vs es → FReps R ((k, v) :: vs) (⟨z, .str k t, rv⟩ :: es)
theorem FReps.mono {R R' : RR} (x : RLe R R') {vs : List (Str × MV)} {rvs : List DictEntry} (h : FReps R vs rvs) : FReps R' vs rvs := by
  induction h with
  | nil => exact .nil
  | cons a _ ih => exact .cons (a.mono x) ih

noncomputable def ORep (D : WD) (R : RR) : MO → Obj → Prop
  | .lst vs, o => ∃ rvs n, o = lstObj rvs n ∧ VReps R vs rvs
  | .dctI ep kvs, o => ∃ rk, KdkAt (intKind Prg D.w) o rk ep ∧ KReps R kvs rk
  | .dctS ep kvs, o => ∃ rk, KdkAt (strKind Prg D.w) o rk ep ∧ KReps R kvs rk
  | .fld kvs, o => ∃ es n, o = dictOf es n ∧ FReps R kvs es
theorem ORep.mono {D : WD} {R R' : RR} (x : RLe R R') {o : MO} {ro : Obj} (h : ORep D R o ro) : ORep D R' o ro := by
  cases o with
  | lst vs => obtain ⟨rvs, n, e, r⟩ := h; exact ⟨rvs, n, e, r.mono x⟩
  | dctI ep kvs => obtain ⟨rk, e, r⟩ := h; exact ⟨rk, e, r.mono x⟩
  | dctS ep kvs => obtain ⟨rk, e, r⟩ := h; exact ⟨rk, e, r.mono x⟩
  | fld kvs => obtain ⟨es, n, e, r⟩ := h; exact ⟨es, n, e, r.mono x⟩

/-- the table of code objects of a function that makes one lambda: empty, or with the lambda's code -/
noncomputable def TabOk (R : RR) (h : Heap) (P : Addr) (line col : Nat) (q : Str) : Prop :=
  ∃ ps, h.get? P = some (tabObj ps) ∧ (ps = #[] ∨ ∃ c' oc vs t, ps = #[rawInt line, rawInt col, .ref c'] ∧ (c', oc) ∈ R.ι ∧ oc.data = .fields vs ∧ vs[1]? = some (.str q t))
theorem TabOk.mono {R R' : RR} {h h' : Heap} {P : Addr} {l c : Nat} {q : Str} (t : TabOk R h P l c q) (x : RLe R R') (e : ∀ o, h.get? P = some o → h'.get? P = some o) : TabOk R' h' P l c q := by
  obtain ⟨ps, hp, r⟩ := t
  refine ⟨ps, e _ hp, r.imp id ?_⟩
  rintro ⟨c', oc, vs, t, h1, h2, h3⟩
  exact ⟨c', oc, vs, t, h1, x.iota _ h2, h3⟩

structure HRep (D : WD) (R : RR) (mh : MH) (h : Heap) : Prop where
  base : ∀ b o, D.H₀.get? b = some o → h.get? b = some o
  len : R.ρ.length = mh.length
  nd : R.ρ.Nodup
  obj : ∀ (i : Nat) (o : MO) (a : Addr), mh[i]? = some o → R.ρ[i]? = some a → ∃ ro, h.get? a = some ro ∧ ORep D R o ro
  imm : ∀ p ∈ R.ι, h.get? p.1 = some p.2
  off : ∀ a ∈ R.ρ, D.H₀.get? a = none ∧ a ∉ tabs ∧ ∀ p ∈ R.ι, p.1 ≠ a
  offi : ∀ p ∈ R.ι, p.1 ∉ tabs
  ms : ∀ a ∈ R.ρ, (a == sysModules) = false
  t1 : TabOk R h 219 162 40 "_law_due.<locals>.<lambda>"
  t2 : TabOk R h 207 145 32 "subject_threads.<locals>.<lambda>"
  t3 : TabOk R h 153 106 29 "in_order.<locals>.<lambda>"

theorem HRep.tabsIn {D : WD} {R : RR} {mh : MH} {h : Heap} (x : HRep D R mh h) : ∀ P ∈ tabs, ∃ o, h.get? P = some o := by
  intro P hP
  simp only [tabs, List.mem_cons, List.not_mem_nil, or_false] at hP
  rcases hP with rfl | rfl | rfl
  · obtain ⟨ps, e, _⟩ := x.t1; exact ⟨_, e⟩
  · obtain ⟨ps, e, _⟩ := x.t2; exact ⟨_, e⟩
  · obtain ⟨ps, e, _⟩ := x.t3; exact ⟨_, e⟩
theorem HRep.rhoIn {D : WD} {R : RR} {mh : MH} {h : Heap} (x : HRep D R mh h) : ∀ a ∈ R.ρ, ∃ o, h.get? a = some o := by
  intro a ha
  obtain ⟨i, hi⟩ := List.mem_iff_getElem?.mp ha
  have hl : i < mh.length := by rw [← x.len]; exact (List.getElem?_eq_some_iff.mp hi).1
  obtain ⟨ro, e, _⟩ := x.obj i mh[i] a (List.getElem?_eq_getElem hl) hi
  exact ⟨ro, e⟩
theorem HRep.base_tab {D : WD} {P : Addr} (hP : P ∈ tabs) : D.H₀.get? P = none := by
  simp only [tabs, List.mem_cons, List.not_mem_nil, or_false] at hP
  rcases hP with rfl | rfl | rfl
  · exact D.t1
  · exact D.t2
  · exact D.t3

structure Go (X : List Addr) (R R' : RR) (h h' : Heap) : Prop where
  le : RLe R R'
  there : ∀ b o, h.get? b = some o → ∃ o', h'.get? b = some o'
  keep : ∀ b o, b ∉ R.ρ → b ∉ tabs → b ∉ X → h.get? b = some o → h'.get? b = some o
  fresh : ∀ a ∈ R'.ρ, a ∈ R.ρ ∨ h.get? a = none
  freshi : ∀ p ∈ R'.ι, p ∈ R.ι ∨ h.get? p.1 = none
theorem none_of_there {h h' : Heap} (t : ∀ b o, h.get? b = some o → ∃ o', h'.get? b = some o') {a : Addr} (e : h'.get? a = none) : h.get? a = none := by
  cases q : h.get? a with
  | none => rfl
  | some o => obtain ⟨o', e'⟩ := t a o q; rw [e] at e'; cases e'
theorem Go.refl (X : List Addr) (R : RR) (h : Heap) : Go X R R h h := ⟨RLe.refl R, fun _ o e => ⟨o, e⟩, fun _ _ _ _ _ e => e, fun _ h => .inl h, fun _ h => .inl h⟩
theorem Go.trans {X : List Addr} {R R' R'' : RR} {h h' h'' : Heap} (x : Go X R R' h h') (y : Go X R' R'' h' h'') : Go X R R'' h h'' where
  le := x.le.trans y.le
  there := fun b o e => let ⟨o', e'⟩ := x.there b o e; y.there b o' e'
  keep := fun b o h1 h2 h3 e => y.keep b o (fun hm => (x.fresh b hm).elim h1 fun q => by rw [q] at e; cases e) h2 h3 (x.keep b o h1 h2 h3 e)
  fresh := fun a ha => (y.fresh a ha).elim (x.fresh a) fun q => .inr (none_of_there x.there q)
  freshi := fun a ha => (y.freshi a ha).elim (x.freshi a) fun q => .inr (none_of_there x.there q)
theorem Go.weak {X : List Addr} {R R' : RR} {h h' : Heap} (x : Go [] R R' h h') : Go X R R' h h' := ⟨x.le, x.there, fun b o h1 h2 _ => x.keep b o h1 h2 (by simp), x.fresh, x.freshi⟩

section
variable {D : WD} {R : RR} {mh : MH} {h h' : Heap}
/-- everything that stood stands -/
noncomputable def Kept (h h' : Heap) : Prop := ∀ b o, h.get? b = some o → h'.get? b = some o
theorem Kept.refl (h : Heap) : Kept h h := fun _ _ e => e
theorem Kept.trans {h'' : Heap} (x : Kept h h') (y : Kept h' h'') : Kept h h'' := fun b o e => y b o (x b o e)
theorem Kept.push (h : Heap) (o : Obj) : Kept h (h.push o) := fun _ _ e => Heap.get?_push_of_some _ e
theorem next_none (h : Heap) : h.get? h.objs.size = none := Heap.get?_none_of_le (Nat.le_refl _)
theorem HRep.grow (x : HRep D R mh h) (k : Kept h h') : HRep D R mh h' where
  base := fun b o e => k b o (x.base b o e)
  len := x.len
  nd := x.nd
  obj := fun i o a h1 h2 => let ⟨ro, e, r⟩ := x.obj i o a h1 h2; ⟨ro, k _ _ e, r⟩
  imm := fun p hp => k _ _ (x.imm p hp)
  off := x.off
  offi := x.offi
  ms := x.ms
  t1 := x.t1.mono (RLe.refl R) fun o e => k _ o e
  t2 := x.t2.mono (RLe.refl R) fun o e => k _ o e
  t3 := x.t3.mono (RLe.refl R) fun o e => k _ o e
theorem Go.grow (X : List Addr) (R : RR) (k : Kept h h') : Go X R R h h' := ⟨RLe.refl R, fun b o e => ⟨o, k b o e⟩, fun b o _ _ _ e => k b o e, fun _ h => .inl h, fun _ h => .inl h⟩

theorem RLe.snoc (R : RR) (a : Addr) : RLe R ⟨R.ρ ++ [a], R.ι⟩ := ⟨fun i b e => by
  have hl : i < R.ρ.length := (List.getElem?_eq_some_iff.mp e).1
  show (R.ρ ++ [a])[i]? = some b
  rw [List.getElem?_append_left hl]; exact e, fun _ h => h⟩
theorem RLe.imm (R : RR) (p : Addr × Obj) : RLe R ⟨R.ρ, p :: R.ι⟩ := ⟨fun _ _ e => e, fun _ h => List.mem_cons_of_mem _ h⟩
theorem snoc_get (R : RR) (a : Addr) (x : R.ρ.length = mh.length) : (RR.mk (R.ρ ++ [a]) R.ι).ρ[mh.length]? = some a := by
  show (R.ρ ++ [a])[mh.length]? = some a
  rw [← x]; simp

theorem HRep.lim (x : HRep D R mh h) : h.NoLimit := D.T.nolimit.keeps x.base
theorem HRep.newOff (x : HRep D R mh h) {a : Addr} (e : h.get? a = none) : D.H₀.get? a = none ∧ a ∉ R.ρ ∧ a ∉ tabs ∧ ∀ p ∈ R.ι, p.1 ≠ a := by
  refine ⟨?_, fun q => ?_, fun q => ?_, fun p hp q => ?_⟩
  · cases q : D.H₀.get? a with
    | none => rfl
    | some o => rw [x.base _ _ q] at e; cases e
  · obtain ⟨o, e'⟩ := x.rhoIn a q; rw [e] at e'; cases e'
  · obtain ⟨o, e'⟩ := x.tabsIn a q; rw [e] at e'; cases e'
  · have := x.imm p hp; rw [q, e] at this; cases this
theorem HRep.msNew (x : HRep D R mh h) : (h.objs.size == sysModules) = false := by
  have := modules_low x.lim
  exact beq_eq_false_iff_ne.mpr (Nat.ne_of_gt this)
/-- an object that stood aside becomes a mini object -/
theorem HRep.adopt {a : Addr} {o : MO} {ro : Obj} (x : HRep D R mh h) (hoff : D.H₀.get? a = none ∧ a ∉ R.ρ ∧ a ∉ tabs ∧ ∀ p ∈ R.ι, p.1 ≠ a) (hm : (a == sysModules) = false) (e : h.get? a = some ro) (r : ORep D ⟨R.ρ ++ [a], R.ι⟩ o ro) :
    HRep D ⟨R.ρ ++ [a], R.ι⟩ (mh ++ [o]) h := by
  have le := RLe.snoc R a
  obtain ⟨o1, o2, o3, o4⟩ := hoff
  refine ⟨x.base, by simp [x.len], ?_, ?_, x.imm, ?_, x.offi, ?_, x.t1.mono le fun _ e => e, x.t2.mono le fun _ e => e, x.t3.mono le fun _ e => e⟩
  · show (R.ρ ++ [a]).Nodup
    rw [List.nodup_append]
    refine ⟨x.nd, by simp, fun b hb c hc => ?_⟩
    rw [List.mem_singleton.mp hc]
    exact fun q => o2 (q ▸ hb)
  · intro i o' b h1 h2
    by_cases hi : i < mh.length
    · rw [List.getElem?_append_left hi] at h1
      have h3 : R.ρ[i]? = some b := by
        have h2' : (R.ρ ++ [a])[i]? = some b := h2
        rwa [List.getElem?_append_left (by rw [x.len]; exact hi)] at h2'
      obtain ⟨ro', e', r'⟩ := x.obj i o' b h1 h3
      exact ⟨ro', e', r'.mono le⟩
    · have hl : i < (mh ++ [o]).length := (List.getElem?_eq_some_iff.mp h1).1
      have hi' : i = mh.length := by simp at hl; omega
      subst hi'
      rw [snoc_get R a x.len] at h2
      simp at h1
      cases h2; subst h1
      exact ⟨ro, e, r⟩
  · intro b hb
    rcases List.mem_append.mp hb with hb | hb
    · exact x.off b hb
    · rw [List.mem_singleton.mp hb]
      exact ⟨o1, o3, o4⟩
  · intro b hb
    rcases List.mem_append.mp hb with hb | hb
    · exact x.ms b hb
    · rw [List.mem_singleton.mp hb]; exact hm
/-- a new mini object -/
theorem HRep.alloc {o : MO} {ro : Obj} (x : HRep D R mh h) (k : Kept h h') (e : h'.get? h.objs.size = some ro) (r : ORep D ⟨R.ρ ++ [h.objs.size], R.ι⟩ o ro) :
    HRep D ⟨R.ρ ++ [h.objs.size], R.ι⟩ (mh ++ [o]) h' :=
  (x.grow k).adopt (x.newOff (next_none h)) x.msNew e r
theorem Go.alloc (X : List Addr) {a : Addr} (k : Kept h h') (ha : h.get? a = none) : Go X R ⟨R.ρ ++ [a], R.ι⟩ h h' :=
  ⟨RLe.snoc R a, fun b o e => ⟨o, k b o e⟩, fun b o _ _ _ e => k b o e, fun b hb => (List.mem_append.mp hb).imp id fun q => by rw [List.mem_singleton.mp q]; exact ha, fun _ h => .inl h⟩

/-- a new immutable object -/
theorem HRep.fix {a : Addr} {ro : Obj} (x : HRep D R mh h) (k : Kept h h') (ha : h.get? a = none) (e : h'.get? a = some ro) : HRep D ⟨R.ρ, (a, ro) :: R.ι⟩ mh h' := by
  have hnew : ∀ b o, h.get? b = some o → b ≠ a := fun b o e9 q => by rw [q, ha] at e9; cases e9
  have le := RLe.imm R (a, ro)
  have y := x.grow k
  refine ⟨y.base, x.len, x.nd, fun i o b h1 h2 => let ⟨ro, e, r⟩ := y.obj i o b h1 h2; ⟨ro, e, r.mono le⟩, ?_, ?_, ?_, x.ms, x.t1.mono le fun o e => k _ o e, x.t2.mono le fun o e => k _ o e, x.t3.mono le fun o e => k _ o e⟩
  · intro p hp
    rcases List.mem_cons.mp hp with rfl | hp
    · exact e
    · exact y.imm p hp
  · intro b hb
    refine ⟨(x.off b hb).1, (x.off b hb).2.1, fun p hp => ?_⟩
    rcases List.mem_cons.mp hp with rfl | hp
    · obtain ⟨o, e⟩ := x.rhoIn b hb
      exact (hnew b o e).symm
    · exact (x.off b hb).2.2 p hp
  · intro p hp
    rcases List.mem_cons.mp hp with rfl | hp
    · intro q
      obtain ⟨o', e'⟩ := x.tabsIn _ q
      exact hnew _ _ e' rfl
    · exact x.offi p hp
theorem Go.fix (X : List Addr) {a : Addr} {ro : Obj} (k : Kept h h') (ha : h.get? a = none) : Go X R ⟨R.ρ, (a, ro) :: R.ι⟩ h h' :=
  ⟨RLe.imm R _, fun b o e => ⟨o, k b o e⟩, fun b o _ _ _ e => k b o e, fun _ h => .inl h, fun p hp => by
    rcases List.mem_cons.mp hp with rfl | hp
    · exact .inr ha
    · exact .inl hp⟩

/-- a mini object changed -/
theorem HRep.upd {i : Nat} {a : Addr} {o : MO} {ro : Obj} (x : HRep D R mh h) (hi : R.ρ[i]? = some a) (k : ∀ b o, b ≠ a → h.get? b = some o → h'.get? b = some o) (e : h'.get? a = some ro) (r : ORep D R o ro) :
    HRep D R (mh.set i o) h' := by
  have ha : a ∈ R.ρ := List.mem_of_getElem? hi
  obtain ⟨o1, o2, o3⟩ := x.off a ha
  have tk : ∀ P ∈ tabs, ∀ o, h.get? P = some o → h'.get? P = some o := fun P hP o e => k P o (fun q => o2 (q ▸ hP)) e
  refine ⟨fun b o e => k b o (fun q => by rw [q, o1] at e; cases e) (x.base b o e), by simp [x.len], x.nd, ?_, fun p hp => k _ _ (o3 p hp) (x.imm p hp), x.off, x.offi, x.ms,
    x.t1.mono (RLe.refl R) (tk _ (by decide)), x.t2.mono (RLe.refl R) (tk _ (by decide)), x.t3.mono (RLe.refl R) (tk _ (by decide))⟩
  intro j o' b h1 h2
  by_cases hj : i = j
  · subst hj
    rw [hi] at h2; cases h2
    have hl : i < mh.length := by rw [← x.len]; exact (List.getElem?_eq_some_iff.mp hi).1
    rw [List.getElem?_set_self hl] at h1; cases h1
    exact ⟨ro, e, r⟩
  · rw [List.getElem?_set_ne hj] at h1
    obtain ⟨ro', e', r'⟩ := x.obj j o' b h1 h2
    refine ⟨ro', k _ _ (fun q => ?_) e', r'⟩
    subst q
    have l1 := (List.getElem?_eq_some_iff.mp hi)
    have l2 := (List.getElem?_eq_some_iff.mp h2)
    have pw := List.pairwise_iff_getElem.mp x.nd
    rcases Nat.lt_trichotomy i j with q | q | q
    · exact pw i j l1.1 l2.1 q (l1.2.trans l2.2.symm)
    · exact hj q
    · exact pw j i l2.1 l1.1 q (l2.2.trans l1.2.symm)
theorem there_upd {a : Addr} (k : ∀ b o, b ≠ a → h.get? b = some o → h'.get? b = some o) (hs : ∃ o, h'.get? a = some o) : ∀ b o, h.get? b = some o → ∃ o', h'.get? b = some o' := fun b o e => by
  by_cases q : b = a
  · rw [q]; exact hs
  · exact ⟨o, k b o q e⟩
theorem Go.upd (X : List Addr) {i : Nat} {a : Addr} (hi : R.ρ[i]? = some a) (k : ∀ b o, b ≠ a → h.get? b = some o → h'.get? b = some o) (hs : ∃ o, h'.get? a = some o) : Go X R R h h' :=
  ⟨RLe.refl R, there_upd k hs, fun b o h1 _ _ e => k b o (fun q => h1 (q ▸ List.mem_of_getElem? hi)) e, fun _ h => .inl h, fun _ h => .inl h⟩

/-- an object that is none of these changed -/
theorem HRep.other {a : Addr} (x : HRep D R mh h) (k : ∀ b o, b ≠ a → h.get? b = some o → h'.get? b = some o) (h0 : D.H₀.get? a = none) (h1 : a ∉ R.ρ) (h2 : a ∉ tabs) (h3 : ∀ p ∈ R.ι, p.1 ≠ a) : HRep D R mh h' := by
  have tk : ∀ P ∈ tabs, ∀ o, h.get? P = some o → h'.get? P = some o := fun P hP o e => k P o (fun q => h2 (q ▸ hP)) e
  refine ⟨fun b o e => k b o (fun q => by rw [q, h0] at e; cases e) (x.base b o e), x.len, x.nd, ?_, fun p hp => k _ _ (h3 p hp) (x.imm p hp), x.off, x.offi, x.ms,
    x.t1.mono (RLe.refl R) (tk _ (by decide)), x.t2.mono (RLe.refl R) (tk _ (by decide)), x.t3.mono (RLe.refl R) (tk _ (by decide))⟩
  intro j o' b q1 q2
  obtain ⟨ro', e', r'⟩ := x.obj j o' b q1 q2
  exact ⟨ro', k _ _ (fun q => h1 (q ▸ List.mem_of_getElem? q2)) e', r'⟩
theorem Go.other (R : RR) {X : List Addr} {a : Addr} (k : ∀ b o, b ≠ a → h.get? b = some o → h'.get? b = some o) (hs : ∃ o, h'.get? a = some o) (ha : a ∈ X) : Go X R R h h' :=
  ⟨RLe.refl R, there_upd k hs, fun b o _ _ h3 e => k b o (fun q => h3 (q ▸ ha)) e, fun _ h => .inl h, fun _ h => .inl h⟩
end
end Mine

namespace Mine

structure ROk (n : Nat) (A : Around) : Prop where
  handled : A.handled = none
  depth : A.depth + 3 * n < recursionLimit
  units : A.units + 20 * n < cLine
theorem ROk.le {n m : Nat} {A : Around} (x : ROk n A) (h : m ≤ n) : ROk m A := ⟨x.handled, by have := x.depth; omega, by have := x.units; omega⟩
theorem ROk.room {n : Nat} {A : Around} (x : ROk n A) : A.depth < recursionLimit := by have := x.depth; omega
theorem ROk.unit {n : Nat} {A : Around} (x : ROk n A) : A.units < cLine := by have := x.units; omega
theorem ROk.deeper {n : Nat} {A : Around} (x : ROk (n + 1) A) (env : Env) : ROk n (A.deeper env) :=
  ⟨x.handled, by show A.depth + 1 + 3 * n < _; have := x.depth; omega, by show A.units + 3 + 20 * n < _; have := x.units; omega⟩
theorem ROk.in1 {n : Nat} {A : Around} (x : ROk (n + 1) A) : ROk n A.in1 :=
  ⟨x.handled, by show A.depth + 3 * n < _; have := x.depth; omega, by show A.units + 1 + 20 * n < _; have := x.units; omega⟩

structure SI where
  scope : Scope
  code : Value
  qual : Str

structure EnvOk (si : SI) (env : Env) : Prop where
  scope : env.scope = si.scope
  code : env.code = si.code
  qual : env.qual = si.qual
  globals : env.globals = mainGlobals
  builtins : env.builtins = builtinsNs
  kind : si.scope.kind = .function
  cells : ∀ x, si.scope.names.lookup x = some .cell → ∃ c, env.cells.lookup x = some c
theorem EnvOk.kind' {si : SI} {env : Env} (x : EnvOk si env) : env.scope.kind = .function := by rw [x.scope]; exact x.kind
theorem EnvOk.kindOf {si : SI} {env : Env} (x : EnvOk si env) (n : Str) : env.kindOf n = si.scope.names.lookup n := by show env.scope.names.lookup n = _; rw [x.scope]

noncomputable abbrev Locals := List (Str × MV)
noncomputable def nameAddrs (env : Env) : List Addr := env.locals :: env.cells.map (·.2)

noncomputable def NameAt (env : Env) (h : Heap) (m : Str → Option Value) (x : Str) (rv : Value) : Prop :=
  (env.kindOf x = some .local ∧ m x = some rv) ∨ ((env.kindOf x = some .cell ∨ env.kindOf x = some .free) ∧ ∃ c, env.cells.lookup x = some c ∧ h.IsCell c (some rv))

structure NamesOk (D : WD) (env : Env) (σ : Locals) (R : RR) (h : Heap) : Prop where
  ns : ∃ m, h.Ns env.locals m ∧ ∀ x mv, σ.lookup x = some mv → ∃ rv, VRep R mv rv ∧ NameAt env h m x rv
  cells : ∀ x c, (x, c) ∈ env.cells → ∃ v, h.IsCell c v
  apart : env.cells.Pairwise fun x y => x.2 ≠ y.2
  lc : ∀ x c, (x, c) ∈ env.cells → c ≠ env.locals
  na : ∀ a ∈ nameAddrs env, D.H₀.get? a = none ∧ a ∉ R.ρ ∧ a ∉ tabs ∧ ∀ p ∈ R.ι, p.1 ≠ a

section
variable {D : WD} {env : Env} {σ : Locals} {R R' : RR} {h h' : Heap}
theorem NamesOk.lt (x : NamesOk D env σ R h) : ∀ a ∈ nameAddrs env, ∃ o, h.get? a = some o := by
  intro a ha
  rcases List.mem_cons.mp ha with rfl | ha
  · obtain ⟨m, ⟨o, _, _, e, _⟩, _⟩ := x.ns; exact ⟨o, e⟩
  · obtain ⟨⟨n, c⟩, hc, rfl⟩ := List.mem_map.mp ha
    obtain ⟨v, o, e, _⟩ := x.cells n c hc
    exact ⟨o, e⟩
theorem NamesOk.go (x : NamesOk D env σ R h) (g : Go [] R R' h h') : NamesOk D env σ R' h' := by
  have k : ∀ a ∈ nameAddrs env, ∀ o, h.get? a = some o → h'.get? a = some o := fun a ha o e => g.keep a o (x.na a ha).2.1 (x.na a ha).2.2.1 (by simp) e
  have kc : ∀ n c v, (n, c) ∈ env.cells → h.IsCell c v → h'.IsCell c v := fun n c v hc ⟨o, e, d⟩ => ⟨o, k c (List.mem_cons_of_mem _ (List.mem_map.mpr ⟨(n, c), hc, rfl⟩)) o e, d⟩
  refine ⟨?_, fun n c hc => let ⟨v, iv⟩ := x.cells n c hc; ⟨v, kc n c v hc iv⟩, x.apart, x.lc, fun a ha => ?_⟩
  · obtain ⟨m, ⟨o, es, ep, e, r⟩, hm⟩ := x.ns
    refine ⟨m, ⟨o, es, ep, k _ List.mem_cons_self _ e, r⟩, fun y mv hy => ?_⟩
    obtain ⟨rv, hr, hn⟩ := hm y mv hy
    refine ⟨rv, hr.mono g.le, hn.imp id ?_⟩
    rintro ⟨hk, c, hc, iv⟩
    exact ⟨hk, c, hc, kc y c _ (mem_of_lookup hc) iv⟩
  · obtain ⟨o, e⟩ := x.lt a ha
    refine ⟨(x.na a ha).1, fun hm => ?_, (x.na a ha).2.2.1, fun p hp q => ?_⟩
    · rcases g.fresh a hm with q | q
      · exact (x.na a ha).2.1 q
      · rw [e] at q; cases q
    · rcases g.freshi p hp with z | z
      · exact (x.na a ha).2.2.2 p z q
      · rw [q, e] at z; cases z
theorem NamesOk.sub {σ' : Locals} (x : NamesOk D env σ R h) (hs : ∀ y mv, σ'.lookup y = some mv → σ.lookup y = some mv) : NamesOk D env σ' R h :=
  ⟨let ⟨m, a, b⟩ := x.ns; ⟨m, a, fun y mv e => b y mv (hs y mv e)⟩, x.cells, x.apart, x.lc, x.na⟩
theorem Go.leave {X Y : List Addr} {h₁ : Heap} (k : Kept h h₁) (g : Go X R R' h₁ h') (hX : ∀ a ∈ X, h.get? a = none) : Go Y R R' h h' :=
  have t : ∀ b o, h.get? b = some o → ∃ o', h₁.get? b = some o' := fun b o e => ⟨o, k b o e⟩
  ⟨g.le, fun b o e => g.there b o (k b o e), fun b o h1 h2 _ e => g.keep b o h1 h2 (fun hm => by rw [hX b hm] at e; cases e) (k b o e),
    fun a ha => (g.fresh a ha).imp id fun q => none_of_there t q, fun p hp => (g.freshi p hp).imp id fun q => none_of_there t q⟩
end

/-- what an expression leaves -/
inductive VPost (D : WD) (R : RR) (s : Shared) (Q : MV → MH → Prop) (rv : Value) (s' : Shared) : Prop
  | mk (R' : RR) (mh' : MH) (mv : MV) (h' : Heap) (tk' : Nat) (e : s' = { s with heap := h', toks := tk' }) (g : Go [] R R' s.heap h') (hr : HRep D R' mh' h') (v : VRep R' mv rv) (q : Q mv mh')
inductive VsPost (D : WD) (R : RR) (s : Shared) (Q : List MV → MH → Prop) (rv : List Value) (s' : Shared) : Prop
  | mk (R' : RR) (mh' : MH) (mv : List MV) (h' : Heap) (tk' : Nat) (e : s' = { s with heap := h', toks := tk' }) (g : Go [] R R' s.heap h') (hr : HRep D R' mh' h') (v : VReps R' mv rv) (q : Q mv mh')
inductive BPost (D : WD) (R : RR) (s : Shared) (Q : Bool → MH → Prop) (b : Bool) (s' : Shared) : Prop
  | mk (R' : RR) (mh' : MH) (h' : Heap) (tk' : Nat) (e : s' = { s with heap := h', toks := tk' }) (g : Go [] R R' s.heap h') (hr : HRep D R' mh' h') (q : Q b mh')
inductive UPost (D : WD) (R : RR) (s : Shared) (Q : MH → Prop) (_u : Unit) (s' : Shared) : Prop
  | mk (R' : RR) (mh' : MH) (h' : Heap) (tk' : Nat) (e : s' = { s with heap := h', toks := tk' }) (g : Go [] R R' s.heap h') (hr : HRep D R' mh' h') (q : Q mh')
noncomputable def SFin (D : WD) (env : Env) (QN : Locals → MH → Prop) (QR : MV → MH → Prop) (f : Flow) (R' : RR) (mh' : MH) (h' : Heap) : Prop :=
  match f with
  | .next => ∃ σ', NamesOk D env σ' R' h' ∧ QN σ' mh'
  | .ret rv => ∃ mv, VRep R' mv rv ∧ QR mv mh'
  | _ => False
inductive SPost (D : WD) (env : Env) (R : RR) (s : Shared) (QN : Locals → MH → Prop) (QR : MV → MH → Prop) (f : Flow) (s' : Shared) : Prop
  | mk (R' : RR) (mh' : MH) (h' : Heap) (tk' : Nat) (e : s' = { s with heap := h', toks := tk' }) (g : Go (nameAddrs env) R R' s.heap h') (hr : HRep D R' mh' h') (q : SFin D env QN QR f R' mh' h')

section
variable (D : WD) (n : Nat)
noncomputable def EW (si : SI) (e : Expr) (σ : Locals) (Q : MV → MH → Prop) (mh : MH) : Prop :=
  ∀ (A : Around) (env : Env) (R : RR) (s : Shared), ROk n A → EnvOk si env → HRep D R mh s.heap → NamesOk D env σ R s.heap →
    wpAny (model Prg D.w) A (eval e env) (VPost D R s Q) (fun _ _ => False) s
/-- a list of expressions, each evaluated in turn -/
noncomputable def EsW (si : SI) (es : List Expr) (σ : Locals) (Q : List MV → MH → Prop) (mh : MH) : Prop :=
  ∀ (A : Around) (env : Env) (R : RR) (s : Shared) (pos : Pos), ROk n A → EnvOk si env → HRep D R mh s.heap → NamesOk D env σ R s.heap →
    wpAny (model Prg D.w) A (spliced (backTo pos (starEach es env))) (VsPost D R s Q) (fun _ _ => False) s
/-- a test -/
noncomputable def IW (si : SI) (e : Expr) (σ : Locals) (Q : Bool → MH → Prop) (mh : MH) : Prop :=
  ∀ (A : Around) (env : Env) (R : RR) (s : Shared), ROk n A → EnvOk si env → HRep D R mh s.heap → NamesOk D env σ R s.heap →
    wpAny (model Prg D.w) A (isTrue e env (eval e env)) (BPost D R s Q) (fun _ _ => False) s
/-- a call -/
noncomputable def CW (f : Value) (args : List MV) (Q : MV → MH → Prop) (mh : MH) : Prop :=
  ∀ (A : Around) (R : RR) (s : Shared) (rargs : List Value), ROk n A → HRep D R mh s.heap → VReps R args rargs →
    wpAny (model Prg D.w) A (call f rargs) (VPost D R s Q) (fun _ _ => False) s
/-- an operation of one, of two values -/
noncomputable def OW1 (t : Value → Sem Value) (a : MV) (Q : MV → MH → Prop) (mh : MH) : Prop :=
  ∀ (A : Around) (R : RR) (s : Shared) (ra : Value), ROk n A → HRep D R mh s.heap → VRep R a ra →
    wpAny (model Prg D.w) A (t ra) (VPost D R s Q) (fun _ _ => False) s
noncomputable def OW2 (t : Value → Value → Sem Value) (a b : MV) (Q : MV → MH → Prop) (mh : MH) : Prop :=
  ∀ (A : Around) (R : RR) (s : Shared) (ra rb : Value), ROk n A → HRep D R mh s.heap → VRep R a ra → VRep R b rb →
    wpAny (model Prg D.w) A (t ra rb) (VPost D R s Q) (fun _ _ => False) s
/-- truth -/
noncomputable def BW1 (t : Value → Sem Bool) (a : MV) (Q : Bool → MH → Prop) (mh : MH) : Prop :=
  ∀ (A : Around) (R : RR) (s : Shared) (ra : Value), ROk n A → HRep D R mh s.heap → VRep R a ra →
    wpAny (model Prg D.w) A (t ra) (BPost D R s Q) (fun _ _ => False) s
noncomputable def XW (si : SI) (st : Stmt) (σ : Locals) (QN : Locals → MH → Prop) (QR : MV → MH → Prop) (mh : MH) : Prop :=
  ∀ (A : Around) (env : Env) (R : RR) (s : Shared), ROk n A → EnvOk si env → HRep D R mh s.heap → NamesOk D env σ R s.heap →
    wpAny (model Prg D.w) A (exec st env) (SPost D env R s QN QR) (fun _ _ => False) s
noncomputable def XsW (si : SI) (sts : List Stmt) (σ : Locals) (QN : Locals → MH → Prop) (QR : MV → MH → Prop) (mh : MH) : Prop :=
  ∀ (A : Around) (env : Env) (R : RR) (s : Shared), ROk n A → EnvOk si env → HRep D R mh s.heap → NamesOk D env σ R s.heap →
    wpAny (model Prg D.w) A (execs sts env) (SPost D env R s QN QR) (fun _ _ => False) s
end

section
variable {D : WD} {n : Nat} {si : SI} {σ : Locals} {mh : MH} {R R₁ : RR} {s : Shared} {h₁ : Heap} {tk₁ : Nat}
theorem VPost.after {Q : MV → MH → Prop} {rv : Value} {s' : Shared} (g : Go [] R R₁ s.heap h₁) (x : VPost D R₁ { s with heap := h₁, toks := tk₁ } Q rv s') : VPost D R s Q rv s' := by
  obtain ⟨R', mh', mv, h', tk', rfl, g', hr', v', q'⟩ := x
  exact ⟨R', mh', mv, h', tk', rfl, g.trans g', hr', v', q'⟩
theorem VsPost.after {Q : List MV → MH → Prop} {rv : List Value} {s' : Shared} (g : Go [] R R₁ s.heap h₁) (x : VsPost D R₁ { s with heap := h₁, toks := tk₁ } Q rv s') : VsPost D R s Q rv s' := by
  obtain ⟨R', mh', mv, h', tk', rfl, g', hr', v', q'⟩ := x
  exact ⟨R', mh', mv, h', tk', rfl, g.trans g', hr', v', q'⟩
theorem BPost.after {Q : Bool → MH → Prop} {b : Bool} {s' : Shared} (g : Go [] R R₁ s.heap h₁) (x : BPost D R₁ { s with heap := h₁, toks := tk₁ } Q b s') : BPost D R s Q b s' := by
  obtain ⟨R', mh', h', tk', rfl, g', hr', q'⟩ := x
  exact ⟨R', mh', h', tk', rfl, g.trans g', hr', q'⟩
theorem SPost.after {env : Env} {QN : Locals → MH → Prop} {QR : MV → MH → Prop} {f : Flow} {s' : Shared} (g : Go (nameAddrs env) R R₁ s.heap h₁) (x : SPost D env R₁ { s with heap := h₁, toks := tk₁ } QN QR f s') : SPost D env R s QN QR f s' := by
  obtain ⟨R', mh', h', tk', rfl, g', hr', q'⟩ := x
  exact ⟨R', mh', h', tk', rfl, g.trans g', hr', q'⟩
/-- a value at once, the state as it is but for tokens -/
theorem VPost.now {Q : MV → MH → Prop} {mv : MV} {rv : Value} {tk : Nat} (hr : HRep D R mh s.heap) (v : VRep R mv rv) (q : Q mv mh) : VPost D R s Q rv { s with toks := tk } :=
  ⟨R, mh, mv, s.heap, tk, rfl, Go.refl _ _ _, hr, v, q⟩
theorem VPost.now' {Q : MV → MH → Prop} {mv : MV} {rv : Value} (hr : HRep D R mh s.heap) (v : VRep R mv rv) (q : Q mv mh) : VPost D R s Q rv s :=
  ⟨R, mh, mv, s.heap, s.toks, rfl, Go.refl _ _ _, hr, v, q⟩
theorem VPost.grown {Q : MV → MH → Prop} {mv : MV} {rv : Value} {h' : Heap} {tk : Nat} (hr : HRep D R mh s.heap) (k : Kept s.heap h') (v : VRep R mv rv) (q : Q mv mh) : VPost D R s Q rv { s with heap := h', toks := tk } :=
  ⟨R, mh, mv, h', tk, rfl, Go.grow _ _ k, hr.grow k, v, q⟩

theorem EW.mono {e : Expr} {Q Q' : MV → MH → Prop} (h : EW D n si e σ Q mh) (hq : ∀ v mh', Q v mh' → Q' v mh') : EW D n si e σ Q' mh :=
  fun A env R s ok eo hr nm => wpAny_mono (h A env R s ok eo hr nm) (fun _ _ ⟨R', mh', mv, h', tk', e, g, r, v, q⟩ => ⟨R', mh', mv, h', tk', e, g, r, v, hq _ _ q⟩) fun _ _ f => f
theorem CW.mono {f : Value} {args : List MV} {Q Q' : MV → MH → Prop} (h : CW D n f args Q mh) (hq : ∀ v mh', Q v mh' → Q' v mh') : CW D n f args Q' mh :=
  fun A R s rargs ok hr nm => wpAny_mono (h A R s rargs ok hr nm) (fun _ _ ⟨R', mh', mv, h', tk', e, g, r, v, q⟩ => ⟨R', mh', mv, h', tk', e, g, r, v, hq _ _ q⟩) fun _ _ f => f
theorem CW.le {f : Value} {args : List MV} {Q : MV → MH → Prop} {m : Nat} (h : CW D n f args Q mh) (hm : n ≤ m) : CW D m f args Q mh :=
  fun A R s rargs ok hr nm => h A R s rargs (ok.le hm) hr nm

/-! names, constants -/
theorem EW_local {x : Str} {pos : Pos} {Q : MV → MH → Prop} {mv : MV} (h : σ.lookup x = some mv) (q : Q mv mh) (hd : (x == ("__debug__" : Str)) = false := by decide) (hc : (x == ("__classdict__" : Str)) = false := by decide) :
    EW D n si (.Name x pos) σ Q mh := by
  intro A env R s ok eo hr nm
  obtain ⟨m, hm, hv⟩ := nm.ns
  obtain ⟨rv, v, hn⟩ := hv x mv h
  refine wpAny_Name ?_ hd
  rcases hn with ⟨hk, e⟩ | ⟨hk | hk, c, hc', iv⟩
  · exact wpAny_loadName_local eo.kind' hk hm e (VPost.now' hr v q)
  · exact wpAny_loadName_cell eo.kind' hk hc' iv (VPost.now' hr v q)
  · exact wpAny_loadName_free eo.kind' hk hc' iv (VPost.now' hr v q) hc
theorem EW_int {i : Int} {k : Nat} {pos : Pos} {Q : MV → MH → Prop} (q : Q (.int i) mh) : EW D n si (.Constant (.int i) k pos) σ Q mh :=
  fun _ _ _ _ _ _ hr _ => wpAny_Constant_int (VPost.now hr (.int _ _) q)
theorem EW_str {x : Str} {k : Nat} {pos : Pos} {Q : MV → MH → Prop} (q : Q (.str x) mh) : EW D n si (.Constant (.str x) k pos) σ Q mh :=
  fun _ _ _ _ _ _ hr _ => wpAny_Constant_str (VPost.now hr (.str _ _) q)
theorem EW_none {k : Nat} {pos : Pos} {Q : MV → MH → Prop} (q : Q .none mh) : EW D n si (.Constant .none k pos) σ Q mh :=
  fun _ _ _ _ _ _ hr _ => wpAny_Constant_none (VPost.now' hr .none q)
theorem EW_bool {b : Bool} {k : Nat} {pos : Pos} {Q : MV → MH → Prop} (q : Q (.bool b) mh) : EW D n si (.Constant (.bool b) k pos) σ Q mh :=
  fun _ _ _ _ _ _ hr _ => wpAny_Constant_bool (VPost.now' hr (.bool b) q)

/-! two operands -/
theorem EW_bin {l r : Expr} {op : Operator} {pos : Pos} {Q : MV → MH → Prop} (h : EW D n si l σ (fun a mh' => EW D n si r σ (fun b mh'' => OW2 D n (binaryOp op) a b Q mh'') mh') mh) :
    EW D n si (.BinOp l op r pos) σ Q mh := by
  intro A env R s ok eo hr nm
  refine wpAny_BinOp (wpAny_mono (h A env R s ok eo hr nm) (fun ra s1 h1 => ?_) fun _ _ f => f)
  obtain ⟨R1, mh1, va, H1, tk1, rfl, g1, hr1, v1, q1⟩ := h1
  refine wpAny_mono (q1 A env R1 _ ok eo hr1 (nm.go g1)) (fun rb s2 h2 => ?_) fun _ _ f => f
  obtain ⟨R2, mh2, vb, H2, tk2, rfl, g2, hr2, v2, q2⟩ := h2
  exact wpAny_mono (q2 A R2 _ ra rb ok hr2 (v1.mono g2.le) v2) (fun _ _ z => VPost.after g1 (VPost.after g2 z)) fun _ _ f => f
theorem EW_cmp {l r : Expr} {op : CmpOp} {pos : Pos} {Q : MV → MH → Prop} (h : EW D n si l σ (fun a mh' => EW D n si r σ (fun b mh'' => OW2 D n (compareOp op) a b Q mh'') mh') mh)
    (hm : behindInMarks op r = false := by with_unfolding_all rfl) : EW D n si (.Compare l [op] [r] pos) σ Q mh := by
  intro A env R s ok eo hr nm
  refine wpAny_Compare1 (wpAny_mono (h A env R s ok eo hr nm) (fun ra s1 h1 => ?_) fun _ _ f => f) hm
  obtain ⟨R1, mh1, va, H1, tk1, rfl, g1, hr1, v1, q1⟩ := h1
  refine wpAny_mono (q1 A env R1 _ ok eo hr1 (nm.go g1)) (fun rb s2 h2 => ?_) fun _ _ f => f
  obtain ⟨R2, mh2, vb, H2, tk2, rfl, g2, hr2, v2, q2⟩ := h2
  exact wpAny_mono (q2 A R2 _ ra rb ok hr2 (v1.mono g2.le) v2) (fun _ _ z => VPost.after g1 (VPost.after g2 z)) fun _ _ f => f
noncomputable def asBool (Q : Bool → MH → Prop) (v : MV) (mh : MH) : Prop := match v with | .bool b => Q b mh | _ => False
theorem IW_cmp {l r : Expr} {op : CmpOp} {pos : Pos} {Q : Bool → MH → Prop} (h : EW D n si l σ (fun a mh' => EW D n si r σ (fun b mh'' => OW2 D n (compareOp op) a b (asBool Q) mh'') mh') mh)
    (hm : behindInMarks op r = false := by with_unfolding_all rfl) : IW D n si (.Compare l [op] [r] pos) σ Q mh := by
  intro A env R s ok eo hr nm
  refine wpAny_isTrue_Compare1 (wpAny_mono (h A env R s ok eo hr nm) (fun ra s1 h1 => ?_) fun _ _ f => f) hm
  obtain ⟨R1, mh1, va, H1, tk1, rfl, g1, hr1, v1, q1⟩ := h1
  refine wpAny_mono (q1 A env R1 _ ok eo hr1 (nm.go g1)) (fun rb s2 h2 => ?_) fun _ _ f => f
  obtain ⟨R2, mh2, vb, H2, tk2, rfl, g2, hr2, v2, q2⟩ := h2
  refine wpAny_mono (q2 A R2 _ ra rb ok hr2 (v1.mono g2.le) v2) (fun rc s3 z => ?_) fun _ _ f => f
  obtain ⟨R3, mh3, vc, H3, tk3, rfl, g3, hr3, v3, q3⟩ := z
  cases v3 <;> first | exact q3.elim | skip
  exact wpAny_truthy_bool ⟨R3, mh3, H3, tk3, rfl, (g1.trans g2).trans g3, hr3, q3⟩
end
end Mine

namespace Mine
section
variable {D : WD} {n : Nat} {si : SI} {σ : Locals} {mh : MH}

/-! tests -/
theorem IW_not {x : Expr} {pos : Pos} {Q : Bool → MH → Prop} (h : IW D n si x σ (fun b mh' => Q (!b) mh') mh) : IW D n si (.UnaryOp .Not x pos) σ Q mh := by
  intro A env R s ok eo hr nm
  exact wpAny_isTrue_Not (wpAny_mono (h A env R s ok eo hr nm) (fun _ _ z => by cases z with | mk R' m h' t e g hr q => exact ⟨R', m, h', t, e, g, hr, q⟩) fun _ _ f => f)
/-- a test whose value is a bool (or None ..): by truth -/
theorem IW_val {e : Expr} {Q : Bool → MH → Prop} (h : EW D n si e σ (fun v mh' => BW1 D n truthy v Q mh') mh)
    (he : ∀ env whole, isTrue e env whole = (do let v ← whole; standAt e.pos; holding [v] (truthy v)) := by intros; with_unfolding_all rfl) : IW D n si e σ Q mh := by
  intro A env R s ok eo hr nm
  refine wpAny_isTrue_value (wpAny_mono (h A env R s ok eo hr nm) (fun ra s1 h1 => ?_) fun _ _ f => f) (he env _)
  obtain ⟨R1, mh1, va, H1, tk1, rfl, g1, hr1, v1, q1⟩ := h1
  exact wpAny_mono (q1 A R1 _ ra ok hr1 v1) (fun _ _ z => BPost.after g1 z) fun _ _ f => f
theorem BW_bool {b : Bool} {Q : Bool → MH → Prop} (q : Q b mh) : BW1 D n truthy (.bool b) Q mh := by
  intro A R s ra ok hr v
  cases v
  exact wpAny_truthy_bool ⟨R, mh, s.heap, s.toks, rfl, Go.refl _ _ _, hr, q⟩
noncomputable def AW (D : WD) (n : Nat) (si : SI) (op : BoolOp) (es : List Expr) (σ : Locals) (Q : Bool → MH → Prop) (mh : MH) : Prop :=
  ∀ (A : Around) (env : Env) (R : RR) (s : Shared), ROk n A → EnvOk si env → HRep D R mh s.heap → NamesOk D env σ R s.heap →
    wpAny (model Prg D.w) A (allTrue op es env) (BPost D R s Q) (fun _ _ => False) s
theorem IW_boolop {op : BoolOp} {es : List Expr} {pos : Pos} {Q : Bool → MH → Prop} (h : AW D n si op es σ Q mh) : IW D n si (.BoolOp op es pos) σ Q mh :=
  fun A env R s ok eo hr nm => wpAny_isTrue_BoolOp (h A env R s ok eo hr nm)
theorem AW_and_nil {Q : Bool → MH → Prop} (q : Q true mh) : AW D n si .And [] σ Q mh := fun A env R s ok eo hr nm => wpAny_allTrue_And_nil ⟨R, mh, s.heap, s.toks, rfl, Go.refl _ _ _, hr, q⟩
theorem AW_or_nil {Q : Bool → MH → Prop} (q : Q false mh) : AW D n si .Or [] σ Q mh := fun A env R s ok eo hr nm => wpAny_allTrue_Or_nil ⟨R, mh, s.heap, s.toks, rfl, Go.refl _ _ _, hr, q⟩
theorem AW_and {x : Expr} {es : List Expr} {Q : Bool → MH → Prop} (h : IW D n si x σ (fun b mh' => if b = true then AW D n si .And es σ Q mh' else Q false mh') mh) : AW D n si .And (x :: es) σ Q mh := by
  intro A env R s ok eo hr nm
  refine wpAny_allTrue_And_cons (wpAny_mono (h A env R s ok eo hr nm) (fun b s1 h1 => ?_) fun _ _ f => f)
  obtain ⟨R1, mh1, H1, tk1, rfl, g1, hr1, q1⟩ := h1
  cases b with
  | false => exact ⟨R1, mh1, H1, tk1, rfl, g1, hr1, by simpa using q1⟩
  | true =>
    simp only [if_true] at q1 ⊢
    exact wpAny_mono (q1 A env R1 _ ok eo hr1 (nm.go g1)) (fun _ _ z => BPost.after g1 z) fun _ _ f => f
theorem AW_or {x : Expr} {es : List Expr} {Q : Bool → MH → Prop} (h : IW D n si x σ (fun b mh' => if b = true then Q true mh' else AW D n si .Or es σ Q mh') mh) : AW D n si .Or (x :: es) σ Q mh := by
  intro A env R s ok eo hr nm
  refine wpAny_allTrue_Or_cons (wpAny_mono (h A env R s ok eo hr nm) (fun b s1 h1 => ?_) fun _ _ f => f)
  obtain ⟨R1, mh1, H1, tk1, rfl, g1, hr1, q1⟩ := h1
  cases b with
  | true => exact ⟨R1, mh1, H1, tk1, rfl, g1, hr1, by simpa using q1⟩
  | false =>
    simp only [Bool.false_eq_true, if_false] at q1 ⊢
    exact wpAny_mono (q1 A env R1 _ ok eo hr1 (nm.go g1)) (fun _ _ z => BPost.after g1 z) fun _ _ f => f
theorem EW_ifexp {t a b : Expr} {pos : Pos} {Q : MV → MH → Prop} (h : IW D n si t σ (fun c mh' => if c = true then EW D n si a σ Q mh' else EW D n si b σ Q mh') mh) : EW D n si (.IfExp t a b pos) σ Q mh := by
  intro A env R s ok eo hr nm
  refine wpAny_IfExp (wpAny_mono (h A env R s ok eo hr nm) (fun c s1 h1 => ?_) fun _ _ f => f)
  obtain ⟨R1, mh1, H1, tk1, rfl, g1, hr1, q1⟩ := h1
  cases c with
  | true => simp only [if_true] at q1 ⊢; exact wpAny_mono (q1 A env R1 _ ok eo hr1 (nm.go g1)) (fun _ _ z => VPost.after g1 z) fun _ _ f => f
  | false => simp only [Bool.false_eq_true, if_false] at q1 ⊢; exact wpAny_mono (q1 A env R1 _ ok eo hr1 (nm.go g1)) (fun _ _ z => VPost.after g1 z) fun _ _ f => f
theorem EW_not {x : Expr} {pos : Pos} {Q : MV → MH → Prop} (h : EW D n si x σ (fun v mh' => BW1 D n truthy v (fun b mh'' => Q (.bool (!b)) mh'') mh') mh) : EW D n si (.UnaryOp .Not x pos) σ Q mh := by
  intro A env R s ok eo hr nm
  refine wpAny_UnaryOp (wpAny_mono (h A env R s ok eo hr nm) (fun ra s1 h1 => ?_) fun _ _ f => f)
  obtain ⟨R1, mh1, va, H1, tk1, rfl, g1, hr1, v1, q1⟩ := h1
  refine not_value (wpAny_mono (q1 A R1 _ ra ok hr1 v1) (fun b s2 z => ?_) fun _ _ f => f)
  obtain ⟨R2, mh2, H2, tk2, rfl, g2, hr2, q2⟩ := z
  exact ⟨R2, mh2, _, H2, tk2, rfl, g1.trans g2, hr2, .bool _, q2⟩
theorem EW_and2 {x y : Expr} {pos : Pos} {Q : MV → MH → Prop} (h : EW D n si x σ (fun v mh' => BW1 D n truthy v (fun b mh'' => if b = true then EW D n si y σ Q mh'' else Q v mh'') mh') mh) : EW D n si (.BoolOp .And [x, y] pos) σ Q mh := by
  intro A env R s ok eo hr nm
  refine wpAny_And2 (wpAny_mono (h A env R s ok eo hr nm) (fun ra s1 h1 => ?_) fun _ _ f => f)
  obtain ⟨R1, mh1, va, H1, tk1, rfl, g1, hr1, v1, q1⟩ := h1
  refine wpAny_mono (q1 A R1 _ ra ok hr1 v1) (fun b s2 z => ?_) fun _ _ f => f
  obtain ⟨R2, mh2, H2, tk2, rfl, g2, hr2, q2⟩ := z
  cases b with
  | true => simp only [if_true] at q2 ⊢; exact wpAny_mono (q2 A env R2 _ ok eo hr2 (nm.go (g1.trans g2))) (fun _ _ z => VPost.after g1 (VPost.after g2 z)) fun _ _ f => f
  | false => exact ⟨R2, mh2, _, H2, tk2, rfl, g1.trans g2, hr2, v1.mono g2.le, by simpa using q2⟩
theorem EW_or2 {x y : Expr} {pos : Pos} {Q : MV → MH → Prop} (h : EW D n si x σ (fun v mh' => BW1 D n truthy v (fun b mh'' => if b = true then Q v mh'' else EW D n si y σ Q mh'') mh') mh) : EW D n si (.BoolOp .Or [x, y] pos) σ Q mh := by
  intro A env R s ok eo hr nm
  refine wpAny_Or2 (wpAny_mono (h A env R s ok eo hr nm) (fun ra s1 h1 => ?_) fun _ _ f => f)
  obtain ⟨R1, mh1, va, H1, tk1, rfl, g1, hr1, v1, q1⟩ := h1
  refine wpAny_mono (q1 A R1 _ ra ok hr1 v1) (fun b s2 z => ?_) fun _ _ f => f
  obtain ⟨R2, mh2, H2, tk2, rfl, g2, hr2, q2⟩ := z
  cases b with
  | false => simp only [Bool.false_eq_true, if_false] at q2 ⊢; exact wpAny_mono (q2 A env R2 _ ok eo hr2 (nm.go (g1.trans g2))) (fun _ _ z => VPost.after g1 (VPost.after g2 z)) fun _ _ f => f
  | true => exact ⟨R2, mh2, _, H2, tk2, rfl, g1.trans g2, hr2, v1.mono g2.le, by simpa using q2⟩

/-! lists of expressions -/
theorem EsW_nil {Q : List MV → MH → Prop} (q : Q [] mh) : EsW D n si [] σ Q mh :=
  fun _ _ R s _ _ _ hr _ => spliced_nil ⟨R, mh, [], s.heap, s.toks, rfl, Go.refl _ _ _, hr, .nil, q⟩
theorem EsW_cons {e : Expr} {es : List Expr} {Q : List MV → MH → Prop} (h : EW D n si e σ (fun v mh' => EsW D n si es σ (fun vs mh'' => Q (v :: vs) mh'') mh') mh)
    (he : ∀ env, starEach (e :: es) env = (false, eval e env) :: starEach es env := by intro _; with_unfolding_all rfl) : EsW D n si (e :: es) σ Q mh := by
  intro A env R s pos ok eo hr nm
  rw [he]
  refine spliced_cons (wpAny_mono (h A env R s ok eo hr nm) (fun ra s1 h1 => ?_) fun _ _ f => f)
  obtain ⟨R1, mh1, va, H1, tk1, rfl, g1, hr1, v1, q1⟩ := h1
  refine wpAny_mono (q1 A env R1 _ pos ok eo hr1 (nm.go g1)) (fun rvs s2 h2 => ?_) fun _ _ f => f
  obtain ⟨R2, mh2, vs, H2, tk2, rfl, g2, hr2, v2, q2⟩ := h2
  exact ⟨R2, mh2, va :: vs, H2, tk2, rfl, g1.trans g2, hr2, .cons (v1.mono g2.le) v2, q2⟩
theorem EW_tuple {es : List Expr} {k : Nat} {pos : Pos} {Q : MV → MH → Prop} (h : EsW D n si es σ (fun vs mh' => vs.length ≤ 1000 ∧ Q (.tup vs) mh') mh) : EW D n si (.Tuple es k pos) σ Q mh := by
  intro A env R s ok eo hr nm
  refine wpAny_Tuple (wpAny_mono (h A env R s pos ok eo hr nm) (fun rvs s1 h1 => ?_) fun _ _ f => f)
  obtain ⟨R1, mh1, vs, H1, tk1, rfl, g1, hr1, v1, hl, q1⟩ := h1
  have hk := Kept.push H1 (tupObj rvs 0)
  have he : (H1.push (tupObj rvs 0)).get? H1.objs.size = some (tupObj rvs 0) := Heap.get?_push_size _ rfl
  refine ⟨by rw [v1.length, sizeLine_eq]; omega, ⟨R1.ρ, (H1.objs.size, tupObj rvs 0) :: R1.ι⟩, mh1, .tup vs, _, tk1, rfl, g1.trans (Go.fix [] hk (next_none _)), hr1.fix hk (next_none _) he, ?_, q1⟩
  exact .tup List.mem_cons_self (v1.mono (RLe.imm _ _))
theorem EW_list {es : List Expr} {pos : Pos} {Q : MV → MH → Prop} (h : EsW D n si es σ (fun vs mh' => vs.length ≤ 1000 ∧ Q (.ref mh'.length) (mh' ++ [.lst vs])) mh) : EW D n si (.List es pos) σ Q mh := by
  intro A env R s ok eo hr nm
  refine wpAny_List (wpAny_mono (h A env R s pos ok eo hr nm) (fun rvs s1 h1 => ?_) fun _ _ f => f)
  obtain ⟨R1, mh1, vs, H1, tk1, rfl, g1, hr1, v1, hl, q1⟩ := h1
  have hk := Kept.push H1 (lstObj rvs 0)
  have he : (H1.push (lstObj rvs 0)).get? H1.objs.size = some (lstObj rvs 0) := Heap.get?_push_size _ rfl
  refine ⟨by rw [v1.length, sizeLine_eq]; omega, ⟨R1.ρ ++ [H1.objs.size], R1.ι⟩, _, .ref mh1.length, _, tk1, rfl, g1.trans (Go.alloc [] hk (next_none _)), hr1.alloc (o := .lst vs) hk he ⟨rvs, 0, rfl, v1.mono (RLe.snoc _ _)⟩, ?_, q1⟩
  exact .ref (snoc_get R1 _ hr1.len)

/-! statements -/
theorem XsW_nil {QN : Locals → MH → Prop} {QR : MV → MH → Prop} (q : QN σ mh) : XsW D n si [] σ QN QR mh :=
  fun _ _ R s _ _ hr nm => wpAny_execs_nil ⟨R, mh, s.heap, s.toks, rfl, Go.refl _ _ _, hr, σ, nm, q⟩
theorem XsW_cons {st : Stmt} {sts : List Stmt} {QN : Locals → MH → Prop} {QR : MV → MH → Prop} (h : XW D n si st σ (fun σ' mh' => XsW D n si sts σ' QN QR mh') QR mh) : XsW D n si (st :: sts) σ QN QR mh := by
  intro A env R s ok eo hr nm
  refine wpAny_execs_cons (wpAny_mono (h A env R s ok eo hr nm) (fun f s1 h1 => ?_) fun _ _ f => f)
  obtain ⟨R1, mh1, H1, tk1, rfl, g1, hr1, q1⟩ := h1
  cases f with
  | next =>
    obtain ⟨σ', nm', q⟩ := q1
    exact wpAny_mono (q A env R1 _ ok eo hr1 nm') (fun _ _ z => SPost.after g1 z) fun _ _ f => f
  | ret v => exact ⟨R1, mh1, H1, tk1, rfl, g1, hr1, q1⟩
  | brk => exact q1.elim
  | cont => exact q1.elim
theorem XW_return {e : Expr} {pos : Pos} {QN : Locals → MH → Prop} {QR : MV → MH → Prop} (h : EW D n si e σ QR mh) : XW D n si (.Return (some e) pos) σ QN QR mh := by
  intro A env R s ok eo hr nm
  refine wpAny_Return_some (wpAny_mono (h A env R s ok eo hr nm) (fun rv s1 h1 => ?_) fun _ _ f => f)
  obtain ⟨R1, mh1, va, H1, tk1, rfl, g1, hr1, v1, q1⟩ := h1
  exact ⟨R1, mh1, H1, tk1, rfl, g1.weak, hr1, va, v1, q1⟩
theorem XW_if {t : Expr} {a b : List Stmt} {pos : Pos} {QN : Locals → MH → Prop} {QR : MV → MH → Prop} (h : IW D n si t σ (fun c mh' => if c = true then XsW D n si a σ QN QR mh' else XsW D n si b σ QN QR mh') mh) : XW D n si (.If t a b pos) σ QN QR mh := by
  intro A env R s ok eo hr nm
  refine wpAny_If (wpAny_mono (h A env R s ok eo hr nm) (fun c s1 h1 => ?_) fun _ _ f => f)
  obtain ⟨R1, mh1, H1, tk1, rfl, g1, hr1, q1⟩ := h1
  cases c with
  | true => simp only [if_true] at q1 ⊢; exact wpAny_mono (q1 A env R1 _ ok eo hr1 (nm.go g1)) (fun _ _ z => SPost.after g1.weak z) fun _ _ f => f
  | false => simp only [Bool.false_eq_true, if_false] at q1 ⊢; exact wpAny_mono (q1 A env R1 _ ok eo hr1 (nm.go g1)) (fun _ _ z => SPost.after g1.weak z) fun _ _ f => f

noncomputable def put : Locals → Str → MV → Locals
  | [], x, v => [(x, v)]
  | (y, w) :: r, x, v => if x == y then (y, v) :: r else (y, w) :: put r x v
theorem put_lookup (σ : Locals) (x y : Str) (v : MV) : (put σ x v).lookup y = if y = x then some v else σ.lookup y := by
  induction σ with
  | nil =>
    by_cases h : y = x
    · subst h; simp [put, List.lookup]
    · have : (y == x) = false := beq_eq_false_iff_ne.mpr h
      simp [put, List.lookup, this, h]
  | cons p r ih =>
    obtain ⟨z, w⟩ := p
    unfold put
    cases hxz : x == z with
    | true =>
      have := beq_iff_eq.mp hxz; subst this
      by_cases h : y = x
      · subst h; simp [List.lookup]
      · have : (y == x) = false := beq_eq_false_iff_ne.mpr h
        simp [List.lookup, this, h]
    | false =>
      have hne : x ≠ z := beq_eq_false_iff_ne.mp hxz
      simp only [Bool.false_eq_true, if_false, List.lookup_cons]
      cases hyz : y == z with
      | true =>
        have := beq_iff_eq.mp hyz; subst this
        rw [if_neg (Ne.symm hne)]
      | false => exact ih

/-- a store to a name -/
theorem store_name {A : Around} {env : Env} {R : RR} {s : Shared} {x : Str} {mv : MV} {rv : Value} {Q : Unit → Shared → Prop} (eo : EnvOk si env) (hr : HRep D R mh s.heap) (nm : NamesOk D env σ R s.heap) (v : VRep R mv rv)
    (hk : si.scope.names.lookup x = some .local ∨ si.scope.names.lookup x = some .cell)
    (q : ∀ h' tk', Go (nameAddrs env) R R s.heap h' → HRep D R mh h' → NamesOk D env (put σ x mv) R h' → Q () { s with heap := h', toks := tk' }) :
    wpAny (model Prg D.w) A (storeName env x rv) Q (fun _ _ => False) s := by
  obtain ⟨m, hm, hv⟩ := nm.ns
  rcases hk with hk | hk
  · have hL := nm.na env.locals List.mem_cons_self
    refine wpAny_storeName_local (by rw [eo.kindOf]; exact hk) hm (fun h' hn hs => ?_) (by rw [eo.kind']; rfl)
    have kb : ∀ b o, b ≠ env.locals → s.heap.get? b = some o → h'.get? b = some o := fun b o hb e => (hs.2 b hb).trans e
    refine q h' _ (Go.other R kb (by obtain ⟨o, _, _, e, _⟩ := hn; exact ⟨o, e⟩) List.mem_cons_self) (hr.other kb hL.1 hL.2.1 hL.2.2.1 hL.2.2.2) ⟨⟨_, hn, fun y mv' hy => ?_⟩, fun y c hc => ?_, nm.apart, nm.lc, nm.na⟩
    · rw [put_lookup] at hy
      by_cases e : y = x
      · subst e
        rw [if_pos rfl] at hy; cases hy
        exact ⟨rv, v, .inl ⟨by rw [eo.kindOf]; exact hk, if_pos rfl⟩⟩
      · rw [if_neg e] at hy
        obtain ⟨rv', v', hn'⟩ := hv y mv' hy
        refine ⟨rv', v', hn'.imp (fun z => ⟨z.1, (if_neg e).trans z.2⟩) ?_⟩
        rintro ⟨hk', c, hc, iv⟩
        exact ⟨hk', c, hc, iv.sameBut hs (nm.lc y c (mem_of_lookup hc))⟩
    · obtain ⟨v', iv⟩ := nm.cells y c hc
      exact ⟨v', iv.sameBut hs (nm.lc y c hc)⟩
  · obtain ⟨c, hc⟩ := eo.cells x hk
    have hcm := mem_of_lookup hc
    have hca : c ∈ nameAddrs env := List.mem_cons_of_mem _ (List.mem_map.mpr ⟨(x, c), hcm, rfl⟩)
    have hL := nm.na c hca
    obtain ⟨v₀, iv₀⟩ := nm.cells x c hcm
    refine wpAny_storeName_cell eo.kind' (by rw [eo.kindOf]; exact hk) hc iv₀ fun h' iv' hs => ?_
    have kb : ∀ b o, b ≠ c → s.heap.get? b = some o → h'.get? b = some o := fun b o hb e => (hs.2 b hb).trans e
    refine q h' s.toks (Go.other R kb (by obtain ⟨o, e, _⟩ := iv'; exact ⟨o, e⟩) hca) (hr.other kb hL.1 hL.2.1 hL.2.2.1 hL.2.2.2) ⟨⟨m, hm.sameBut hs (Ne.symm (nm.lc x c hcm)), fun y mv' hy => ?_⟩, fun y c' hc' => ?_, nm.apart, nm.lc, nm.na⟩
    · rw [put_lookup] at hy
      by_cases e : y = x
      · subst e
        rw [if_pos rfl] at hy; cases hy
        exact ⟨rv, v, .inr ⟨.inl (by rw [eo.kindOf]; exact hk), c, hc, iv'⟩⟩
      · rw [if_neg e] at hy
        obtain ⟨rv', v', hn'⟩ := hv y mv' hy
        refine ⟨rv', v', hn'.imp id ?_⟩
        rintro ⟨hk', c', hc', iv⟩
        refine ⟨hk', c', hc', iv.sameBut hs fun q => e ?_⟩
        exact name_of_addr nm.apart (mem_of_lookup hc') (q ▸ hcm)
    · obtain ⟨v', iv⟩ := nm.cells y c' hc'
      by_cases e : c' = c
      · subst e; exact ⟨_, iv'⟩
      · exact ⟨v', iv.sameBut hs e⟩
end
end Mine

namespace Mine
section
variable {D : WD} {n : Nat} {si : SI} {σ : Locals} {mh : MH}

theorem XW_assign {x : Str} {p' pos : Pos} {value : Expr} {QN : Locals → MH → Prop} {QR : MV → MH → Prop} (h : EW D n si value σ (fun v mh' => QN (put σ x v) mh') mh)
    (hk : si.scope.names.lookup x = some .local ∨ si.scope.names.lookup x = some .cell := by with_unfolding_all first | exact .inl rfl | exact .inr rfl) (hs : ∀ env : Env, env.scope = si.scope → swapsWith value (some (.Name x p')) pos.line env = pure false := by intros; with_unfolding_all rfl) : XW D n si (.Assign [.Name x p'] value pos) σ QN QR mh := by
  intro A env R s ok eo hr nm
  refine wpAny_Assign_Name (wpAny_mono (h A env R s ok eo hr nm) (fun rv s1 h1 => ?_) fun _ _ f => f) (hs env eo.scope)
  obtain ⟨R1, mh1, va, H1, tk1, rfl, g1, hr1, v1, q1⟩ := h1
  exact store_name eo hr1 (nm.go g1) v1 hk fun h' tk' g' hr' nm' => ⟨R1, mh1, h', tk', rfl, g1.weak.trans g', hr', _, nm', q1⟩
end

section
variable {D : WD} {n : Nat} {si : SI} {σ : Locals} {mh : MH}
theorem VReps.two {R : RR} {vs : List MV} {a b : Value} (h : VReps R vs [a, b]) : ∃ x y, vs = [x, y] ∧ VRep R x a ∧ VRep R y b := by
  cases h with | cons h1 r => cases r with | cons h2 r => cases r; exact ⟨_, _, rfl, h1, h2⟩

/-- a tuple of two unpacked -/
theorem unpack2 {A : Around} {R : RR} {s : Shared} {a b : MV} {rv : Value} {Q : List Value → Shared → Prop} (ok : ROk n A) (hr : HRep D R mh s.heap) (v : VRep R (.tup [a, b]) rv)
    (q : ∀ ra rb h', VRep R a ra → VRep R b rb → Kept s.heap h' → Q [ra, rb] { s with heap := h' }) : wpAny (model Prg D.w) A (unpackItems rv 2 none) Q (fun _ _ => False) s := by
  cases v with
  | @tup a' rvs k vs hm hv =>
    obtain ⟨ra, rb, rfl⟩ : ∃ ra rb, rvs = [ra, rb] := by
      have := hv.length
      match rvs, this with
      | [x, y], _ => exact ⟨x, y, rfl⟩
    have he := hr.imm _ hm
    cases hv with | cons h1 r => cases r with | cons h2 r =>
    exact unpackItems_tuple ok.handled (items := #[ra, rb]) ⟨_, he, rfl, k, rfl⟩ fun h' he' => q ra rb h' h1 h2 fun b o e => he' b o (Nat.ne_of_lt (Heap.lt_size e)) e

theorem bind_two {A : Around} {env : Env} {R : RR} {s : Shared} {x y : Str} {a b : MV} {ra rb : Value} {Q : Unit → Shared → Prop} (eo : EnvOk si env) (hr : HRep D R mh s.heap) (nm : NamesOk D env σ R s.heap) (va : VRep R a ra) (vb : VRep R b rb)
    (hx : si.scope.names.lookup x = some .local ∨ si.scope.names.lookup x = some .cell) (hy : si.scope.names.lookup y = some .local ∨ si.scope.names.lookup y = some .cell)
    (q : ∀ h' tk', Go (nameAddrs env) R R s.heap h' → HRep D R mh h' → NamesOk D env (put (put σ x a) y b) R h' → Q () { s with heap := h', toks := tk' }) :
    wpAny (model Prg D.w) A (storeName env x ra) (fun _ s' => wpAny (model Prg D.w) A (storeName env y rb) Q (fun _ _ => False) s') (fun _ _ => False) s :=
  store_name eo hr nm va hx fun h1 tk1 g1 hr1 nm1 => store_name (s := { s with heap := h1, toks := tk1 }) eo hr1 nm1 vb hy fun h2 tk2 g2 hr2 nm2 => q h2 tk2 (g1.trans g2) hr2 nm2

/-- the names of a pair, swapped as they are stored -/
theorem XW_assign2s {x y : Str} {p1 p2 p3 pos : Pos} {k : Nat} {value : Expr} {QN : Locals → MH → Prop} {QR : MV → MH → Prop}
    (h : EW D n si value σ (fun v mh' => ∃ a b, v = .tup [a, b] ∧ QN (put (put σ x a) y b) mh') mh)
    (hx : si.scope.names.lookup x = some .local := by with_unfolding_all rfl) (hy : si.scope.names.lookup y = some .local := by with_unfolding_all rfl) (hxy : x ≠ y := by decide)
    (hs : ∀ env : Env, env.scope = si.scope → swapsWithSole [.Tuple [.Name x p1, .Name y p2] k p3] value pos.line env = pure false := by intros; with_unfolding_all rfl)
    (hw : ∀ env : Env, env.scope = si.scope → swappedStores [.Tuple [.Name x p1, .Name y p2] k p3] value env = pure (some [x, y]) := by intro e h; cases e; subst h; with_unfolding_all rfl) :
    XW D n si (.Assign [.Tuple [.Name x p1, .Name y p2] k p3] value pos) σ QN QR mh := by
  intro A env R s ok eo hr nm
  refine Assign_Tuple_swapped (names := [x, y]) (wpAny_mono (h A env R s ok eo hr nm) (fun rv s1 h1 => ?_) fun _ _ f => f) (hs env eo.scope) (hw env eo.scope)
  obtain ⟨R1, mh1, va, H1, tk1, rfl, g1, hr1, v1, a, b, rfl, q1⟩ := h1
  refine unpack2 ok hr1 v1 fun ra rb h' v2 v3 k => ?_
  have g2 := Go.grow [] R1 k
  have hr2 := hr1.grow k
  show wpAny _ _ (do holding [ra] (bindName env y rb); holding [] (bindName env x ra); pure ()) _ _ _
  refine wpAny_bind (wpAny_holding (wpAny_bindName (wpAny_mono (bind_two (s := { s with heap := h', toks := tk1 }) (x := y) (y := x) (Q := fun _ s' => SPost D env R s QN QR .next s') eo hr2 ((nm.go g1).go g2) v3 v2 (.inl hy) (.inl hx) fun h3 tk3 g3 hr3 nm3 => ?_) (fun _ s2 z => ?_) fun _ _ f => f)))
  · refine ⟨R1, mh1, h3, tk3, rfl, ((g1.trans g2).weak).trans g3, hr3, _, nm3.sub fun z mv e => ?_, q1⟩
    rw [put_lookup, put_lookup] at e ⊢
    by_cases e1 : z = x
    · subst e1; rw [if_neg hxy, if_pos rfl] at e; rw [if_pos rfl]; exact e
    · by_cases e2 : z = y
      · subst e2; rw [if_pos rfl] at e; rw [if_neg e1, if_pos rfl]; exact e
      · rw [if_neg e2, if_neg e1] at e; rw [if_neg e1, if_neg e2]; exact e
  · refine wpAny_bind (wpAny_holding (wpAny_bindName (wpAny_mono z (fun _ s3 z3 => ?_) fun _ _ f => f)))
    exact wpAny_pure z3
/-- the same in order -/
theorem XW_assign2 {x y : Str} {p1 p2 p3 pos : Pos} {k : Nat} {value : Expr} {QN : Locals → MH → Prop} {QR : MV → MH → Prop}
    (h : EW D n si value σ (fun v mh' => ∃ a b, v = .tup [a, b] ∧ QN (put (put σ x a) y b) mh') mh)
    (hx : si.scope.names.lookup x = some .local ∨ si.scope.names.lookup x = some .cell := by with_unfolding_all first | exact .inl rfl | exact .inr rfl) (hy : si.scope.names.lookup y = some .local ∨ si.scope.names.lookup y = some .cell := by with_unfolding_all first | exact .inl rfl | exact .inr rfl)
    (hs : ∀ env : Env, env.scope = si.scope → swapsWithSole [.Tuple [.Name x p1, .Name y p2] k p3] value pos.line env = pure false := by intros; with_unfolding_all rfl)
    (hw : ∀ env : Env, env.scope = si.scope → swappedStores [.Tuple [.Name x p1, .Name y p2] k p3] value env = pure none := by intro e h; cases e; subst h; with_unfolding_all rfl) :
    XW D n si (.Assign [.Tuple [.Name x p1, .Name y p2] k p3] value pos) σ QN QR mh := by
  intro A env R s ok eo hr nm
  refine Assign_Tuple (wpAny_mono (h A env R s ok eo hr nm) (fun rv s1 h1 => ?_) fun _ _ f => f) (hs env eo.scope) (hw env eo.scope)
  obtain ⟨R1, mh1, va, H1, tk1, rfl, g1, hr1, v1, a, b, rfl, q1⟩ := h1
  show wpAny _ _ (do standAt p3; unpack rv [(false, assign (.Name x p1) env), (false, assign (.Name y p2) env)]) _ _ _
  refine wpAny_bind (wpAny_standAt ?_)
  unfold unpack
  refine wpAny_bind (wpAny_holding ?_)
  refine unpack2 ok hr1 v1 fun ra rb h' v2 v3 k => ?_
  have g2 := Go.grow [] R1 k
  have hr2 := hr1.grow k
  show wpAny _ _ (do holding [rb] (assign (.Name x p1) env ra); holding [] (assign (.Name y p2) env rb); pure ()) _ _ _
  refine wpAny_bind (wpAny_holding (wpAny_assign_Name (wpAny_mono (bind_two (s := { s with heap := h', toks := tk1 }) (Q := fun _ s' => SPost D env R s QN QR .next s') eo hr2 ((nm.go g1).go g2) v2 v3 hx hy fun h3 tk3 g3 hr3 nm3 => ?_) (fun _ s2 z => ?_) fun _ _ f => f)))
  · exact ⟨R1, mh1, h3, tk3, rfl, ((g1.trans g2).weak).trans g3, hr3, _, nm3, q1⟩
  · exact wpAny_bind (wpAny_holding (wpAny_assign_Name (wpAny_mono z (fun _ s3 z3 => wpAny_pure z3) fun _ _ f => f)))

/-- an expression for its effect: its value is None -/
theorem XW_expr {e : Expr} {pos : Pos} {QN : Locals → MH → Prop} {QR : MV → MH → Prop} (h : EW D n si e σ (fun v mh' => v = .none ∧ QN σ mh') mh) (hs : ∀ env, swapsWith e none pos.line env = pure false := by intros; with_unfolding_all rfl)
    (hi : ∀ env : Env, env.scope = si.scope → interactive env = false := by intro e h; cases e; subst h; with_unfolding_all rfl) : XW D n si (.Expr e pos) σ QN QR mh := by
  intro A env R s ok eo hr nm
  refine wpAny_Expr (wpAny_mono (h A env R s ok eo hr nm) (fun rv s1 h1 => ?_) fun _ _ f => f) (hi env eo.scope) (hs env)
  obtain ⟨R1, mh1, va, H1, tk1, rfl, g1, hr1, v1, rfl, q1⟩ := h1
  cases v1
  exact ⟨R1, mh1, H1, tk1, rfl, g1.weak, hr1, σ, nm.go g1, q1⟩
end
end Mine

namespace Mine
/-- a call at the code's own level -/
noncomputable def KW (D : WD) (n : Nat) (f : Value) (args : List MV) (Q : MV → MH → Prop) (mh : MH) : Prop :=
  ∀ (A : Around) (R : RR) (s : Shared) (rargs : List Value), ROk n A → HRep D R mh s.heap → VReps R args rargs →
    codeAny (model Prg D.w) A (.call f ⟨rargs, []⟩) (fun r s' => match r with | .ok (.ret rv) => VPost D R s Q rv s' | _ => False) s

theorem mark_none (A : Around) : A.mark none = A := by
  obtain ⟨h, d, f, g, u⟩ := A
  cases h <;> rfl

section
variable {D : WD} {n : Nat} {si : SI} {σ : Locals} {mh : MH}
theorem CW_of_KW {f : Value} {args : List MV} {Q : MV → MH → Prop} (h : KW D n f args Q mh) : CW D n f args Q mh := by
  intro A R s rargs ok hr v
  refine wpAny_call (codeAny_mono (h A R s rargs ok hr v) fun r s' z => ?_)
  rcases r with e | (v | _ | _ | _) <;> first | exact z | exact z.elim

theorem HRep.X {R : RR} {h : Heap} (x : HRep D R mh h) : (Kf D.w).In h := D.X.keeps x.base
theorem zip_rep {R : RR} : ∀ {xs : List Str} {args : List MV} {rargs : List Value} {x : Str} {mv : MV}, VReps R args rargs → (xs.zip args).lookup x = some mv → ∃ rv, (x, rv) ∈ xs.zip rargs ∧ VRep R mv rv
  | [], _, _, _, _, _, h => by simp at h
  | _ :: _, [], _, _, _, _, h => by simp at h
  | y :: xs, a :: args, rargs, x, mv, v, h => by
    cases v with | cons v1 r =>
    rw [List.zip_cons_cons, List.lookup_cons] at h
    cases q : x == y with
    | true =>
      rw [q] at h; cases h
      exact ⟨_, by rw [beq_iff_eq.mp q]; exact List.mem_cons_self, v1⟩
    | false =>
      rw [q] at h
      obtain ⟨rv, hm, hv⟩ := zip_rep r h
      exact ⟨rv, List.mem_cons_of_mem _ hm, hv⟩
theorem lookup_of_nodup {α : Type} : ∀ {l : List (Str × α)} {x : Str} {v : α}, (l.map (·.1)).Nodup → (x, v) ∈ l → l.lookup x = some v
  | (y, w) :: l, x, v, hn, hm => by
    rw [List.map_cons, List.nodup_cons] at hn
    rcases List.mem_cons.mp hm with e | hm
    · cases e; simp
    · have : (x == y) = false := beq_eq_false_iff_ne.mpr fun q => hn.1 (q ▸ List.mem_map.mpr ⟨(x, v), hm, rfl⟩)
      rw [List.lookup_cons, this]; exact lookup_of_nodup hn.2 hm
theorem zip_fst_nodup {α : Type} : ∀ {xs : List Str} {l : List α}, xs.Nodup → ((xs.zip l).map (·.1)).Nodup
  | [], _, _ => by simp
  | _ :: _, [], _ => by simp
  | x :: xs, a :: l, h => by
    rw [List.nodup_cons] at h
    rw [List.zip_cons_cons, List.map_cons, List.nodup_cons]
    refine ⟨fun hm => ?_, zip_fst_nodup h.2⟩
    obtain ⟨p, hp, e⟩ := List.mem_map.mp hm
    have e' : p.1 = x := e
    exact h.1 (e' ▸ (List.of_mem_zip hp).1)
theorem bindL_off {k : Str → Option NameKind} : ∀ {binds : List (Str × Value)} {m : Str → Option Value} {x : Str}, x ∉ binds.map (·.1) → bindL k binds m x = m x
  | [], _, _, _ => rfl
  | (y, v) :: r, m, x, h => by
    rw [List.map_cons, List.mem_cons, not_or] at h
    unfold bindL
    rw [bindL_off h.2]
    split
    · exact if_neg h.1
    · rfl
theorem bindC_off {k : Str → Option NameKind} : ∀ {binds : List (Str × Value)} {m : Str → Option Value} {x : Str}, x ∉ binds.map (·.1) → bindC k binds m x = m x
  | [], _, _, _ => rfl
  | (y, v) :: r, m, x, h => by
    rw [List.map_cons, List.mem_cons, not_or] at h
    unfold bindC
    rw [bindC_off h.2]
    split
    · rfl
    · exact if_neg h.1
theorem bindL_at {k : Str → Option NameKind} : ∀ {binds : List (Str × Value)} {m : Str → Option Value} {x : Str} {rv : Value}, (binds.map (·.1)).Nodup → (x, rv) ∈ binds → k x = some .local → bindL k binds m x = some rv
  | (y, v) :: r, m, x, rv, hn, hm, hk => by
    rw [List.map_cons, List.nodup_cons] at hn
    unfold bindL
    rcases List.mem_cons.mp hm with e | hm
    · cases e
      rw [bindL_off hn.1, if_pos hk]; exact if_pos rfl
    · exact bindL_at hn.2 hm hk
theorem bindC_at {k : Str → Option NameKind} : ∀ {binds : List (Str × Value)} {m : Str → Option Value} {x : Str} {rv : Value}, (binds.map (·.1)).Nodup → (x, rv) ∈ binds → k x = some .cell → bindC k binds m x = some rv
  | (y, v) :: r, m, x, rv, hn, hm, hk => by
    rw [List.map_cons, List.nodup_cons] at hn
    unfold bindC
    rcases List.mem_cons.mp hm with e | hm
    · cases e
      rw [bindC_off hn.1, if_neg (by rw [hk]; decide)]; exact if_pos rfl
    · exact bindC_at hn.2 hm hk

/-- a def without cells -/
theorem KW_def {f : Addr} {oc : Value} {od : Option Addr} {osl : Array (Option Value)} {name qual : Str} {params : Arguments} {body : List Stmt} {scope : Scope} {dV kV doc pm cdv ct : Value} {an : Option Addr} {args : List MV} {xs : List Str} {Q : MV → MH → Prop}
    (ho : (Kf D.w).lookup f = some ⟨oc, od, .func (fnOf name qual params body scope dV kV doc pm an cdv ct), osl⟩) (hcd : codeIn (Kf D.w) cdv qual = true)
    (hbind : ∀ rargs : List Value, rargs.length = args.length → bindArgs (fnOf name qual params body scope dV kV doc pm an cdv ct) ⟨rargs, []⟩ = pure (xs.zip rargs))
    (hnd : xs.Nodup) (hloc : ∀ x ∈ xs, scope.names.lookup x = some .local) (hcell : ∀ x ∈ scope.names, x.2 ≠ .cell)
    (hcl : ∀ x, scope.names.lookup x ≠ some .cell)
    (hco : scope.isCoroutine = false) (hgen : scope.isGenerator = false) (hk : scope.kind = .function)
    (h : XsW D n ⟨scope, cdv, qual ++ ".<locals>."⟩ body (xs.zip args) (fun _ mh' => Q .none mh') Q mh) : KW D (n + 1) (.ref f) args Q mh := by
  intro A R s rargs ok hr v
  refine codeAny_call_def (fd := fnOf name qual params body scope dV kV doc pm an cdv ct) (body := body) (binds := xs.zip rargs) ok.room (hr.X _ _ ho) rfl hr.lim (codeRec_of hr.X hcd) rfl (BindsTo.of_eq (hbind rargs v.length)) hcell
    (fun x hx => hloc x.1 (List.of_mem_zip hx).1) (fun h₁ hns hkeep => ?_) hco hgen hk
  have nL := hr.newOff (next_none s.heap)
  have nm : NamesOk D (callEnv (fnOf name qual params body scope dV kV doc pm an cdv ct) s.heap.objs.size f) (xs.zip args) R h₁ := by
    refine ⟨⟨_, hns, fun x mv hx => ?_⟩, fun x c hc => (nomatch hc), List.Pairwise.nil, fun x c hc => (nomatch hc), fun a ha => ?_⟩
    · obtain ⟨rv, hm, hv⟩ := zip_rep v hx
      refine ⟨rv, hv, .inl ⟨hloc x (List.of_mem_zip hm).1, ?_⟩⟩
      refine lookup_of_nodup ?_ (List.mem_reverse.mpr hm)
      rw [List.map_reverse]
      exact (List.reverse_perm _).nodup_iff.mpr (zip_fst_nodup hnd)
    · rw [List.mem_singleton.mp ha]; exact nL
  refine wpAny_mono (h (A.deeper _) _ R { s with heap := h₁, toks := s.toks + (xs.zip rargs).length } (ok.deeper _) ⟨rfl, rfl, rfl, rfl, rfl, hk, fun x hx => absurd hx (hcl x)⟩ (hr.grow hkeep) nm) (fun fl s' z => ?_) fun _ _ f => f.elim
  obtain ⟨R', mh', h', tk', rfl, g, hr', q⟩ := z
  have g' : Go [] R R' s.heap h' := Go.leave hkeep g fun a ha => by rw [List.mem_singleton.mp ha]; exact next_none _
  cases fl with
  | next => obtain ⟨σ', _, q⟩ := q; exact ⟨R', mh', .none, h', tk', rfl, g', hr', .none, q⟩
  | ret rv => obtain ⟨mv, v', q⟩ := q; exact ⟨R', mh', mv, h', tk', rfl, g', hr', v', q⟩
  | brk => exact q.elim
  | cont => exact q.elim

/-- a def with cells -/
theorem KW_defC {f : Addr} {oc : Value} {od : Option Addr} {osl : Array (Option Value)} {name qual : Str} {params : Arguments} {body : List Stmt} {scope : Scope} {dV kV doc pm cdv ct : Value} {an : Option Addr} {args : List MV} {xs : List Str} {Q : MV → MH → Prop}
    (ho : (Kf D.w).lookup f = some ⟨oc, od, .func (fnOf name qual params body scope dV kV doc pm an cdv ct), osl⟩) (hcd : codeIn (Kf D.w) cdv qual = true)
    (hbind : ∀ rargs : List Value, rargs.length = args.length → bindArgs (fnOf name qual params body scope dV kV doc pm an cdv ct) ⟨rargs, []⟩ = pure (xs.zip rargs))
    (hnd : xs.Nodup) (hkn : ∀ x ∈ xs, scope.names.lookup x = some .local ∨ scope.names.lookup x = some .cell)
    (hcn : ∀ n x, scope.names.lookup x = some .cell → ((cellsFrom n scope.names []).lookup x).isSome = true) (hcd2 : ((cellsFrom 0 scope.names []).map (·.1)).Nodup)
    (hco : scope.isCoroutine = false) (hgen : scope.isGenerator = false) (hk : scope.kind = .function)
    (h : XsW D n ⟨scope, cdv, qual ++ ".<locals>."⟩ body (xs.zip args) (fun _ mh' => Q .none mh') Q mh) : KW D (n + 1) (.ref f) args Q mh := by
  intro A R s rargs ok hr v
  refine codeAny_call_cells (fd := fnOf name qual params body scope dV kV doc pm an cdv ct) (body := body) (binds := xs.zip rargs) ok.room (hr.X _ _ ho) rfl hr.lim (codeRec_of hr.X hcd) rfl (hbind rargs v.length) rfl
    (fun x hx => (hkn x.1 (List.of_mem_zip hx).1).imp id fun z => ⟨z, hcn _ _ z⟩) (fun s₁ x => ?_) hco hgen hk
  obtain ⟨h₁, tk, rfl, hkeep⟩ := x.done
  have nL := hr.newOff (next_none s.heap)
  have hcs : ∀ y c, (y, c) ∈ cellsFrom (s.heap.objs.size + 1) scope.names [] → (cellsFrom (s.heap.objs.size + 1) scope.names []).lookup y = some c := fun y c hc =>
    lookup_of_mem_nodup (cellsFrom_names scope.names 0 (s.heap.objs.size + 1) [] [] rfl ▸ hcd2) hc
  have cnew : ∀ y c, (y, c) ∈ cellsFrom (s.heap.objs.size + 1) scope.names [] → s.heap.get? c = none := fun y c hc => Heap.get?_none_of_le (Nat.le_of_lt (x.above y c hc))
  have xnew : ∀ a ∈ nameAddrs (callEnvC (fnOf name qual params body scope dV kV doc pm an cdv ct) s.heap.objs.size f), s.heap.get? a = none := fun a ha => by
    rcases List.mem_cons.mp ha with rfl | ha
    · exact next_none _
    · obtain ⟨⟨y, c⟩, hc, rfl⟩ := List.mem_map.mp ha; exact cnew y c hc
  have nm : NamesOk D (callEnvC (fnOf name qual params body scope dV kV doc pm an cdv ct) s.heap.objs.size f) (xs.zip args) R h₁ := by
    refine ⟨⟨_, x.toInCall.ns, fun y mv hy => ?_⟩, fun y c hc => ⟨_, x.cell y c (hcs y c hc)⟩, x.apart, fun y c hc => Nat.ne_of_gt (x.above y c hc), fun a ha => hr.newOff (xnew a ha)⟩
    obtain ⟨rv, hm, hv⟩ := zip_rep v hy
    refine ⟨rv, hv, ?_⟩
    rcases hkn y (List.of_mem_zip hm).1 with hl | hl
    · exact .inl ⟨hl, bindL_at (zip_fst_nodup hnd) hm hl⟩
    · obtain ⟨c, hc⟩ := Option.isSome_iff_exists.mp (hcn (s.heap.objs.size + 1) y hl)
      have hcc := x.cell y c hc
      have hb : bindC (callEnvC (fnOf name qual params body scope dV kV doc pm an cdv ct) s.heap.objs.size f).kindOf (xs.zip rargs) (fun _ => none) y = some rv := bindC_at (zip_fst_nodup hnd) hm hl
      rw [hb] at hcc
      exact .inr ⟨.inl hl, c, hc, hcc⟩
  refine wpAny_mono (h (A.deeper _) _ R { s with heap := h₁, toks := tk } (ok.deeper _) ⟨rfl, rfl, rfl, rfl, rfl, hk, fun y hy => Option.isSome_iff_exists.mp (hcn _ y hy)⟩ (hr.grow hkeep) nm) (fun fl s' z => ?_) fun _ _ f => f.elim
  obtain ⟨R', mh', h', tk', rfl, g, hr', q⟩ := z
  have g' : Go [] R R' s.heap h' := Go.leave hkeep g xnew
  cases fl with
  | next => obtain ⟨σ', _, q⟩ := q; exact ⟨R', mh', .none, h', tk', rfl, g', hr', .none, q⟩
  | ret rv => obtain ⟨mv, v', q⟩ := q; exact ⟨R', mh', mv, h', tk', rfl, g', hr', v', q⟩
  | brk => exact q.elim
  | cont => exact q.elim

noncomputable def AllFor : List MV → (List Value → Prop) → Prop
  | [], P => P []
  | _ :: vs, P => ∀ v, AllFor vs fun l => P (v :: l)
theorem AllFor.at : ∀ {vs : List MV} {P : List Value → Prop}, AllFor vs P → ∀ l : List Value, l.length = vs.length → P l
  | [], _, h, l, e => by cases l with | nil => exact h | cons => cases e
  | _ :: _, _, h, l, e => by cases l with | nil => cases e | cons a l => exact (h a).at l (Nat.succ.inj e)
/-- the same, its side conditions tried -/
theorem KW_defA {f : Addr} {oc : Value} {od : Option Addr} {osl : Array (Option Value)} {name qual : Str} {params : Arguments} {body : List Stmt} {scope : Scope} {dV kV doc pm cdv ct : Value} {an : Option Addr} {args : List MV} {Q : MV → MH → Prop}
    (xs : List Str) (ho : (Kf D.w).lookup f = some ⟨oc, od, .func (fnOf name qual params body scope dV kV doc pm an cdv ct), osl⟩)
    (h : XsW D n ⟨scope, cdv, qual ++ ".<locals>."⟩ body (xs.zip args) (fun _ mh' => Q .none mh') Q mh)
    (hcd : codeIn (Kf D.w) cdv qual = true := by with_unfolding_all rfl)
    (hbind : AllFor args (fun rargs => bindArgs (fnOf name qual params body scope dV kV doc pm an cdv ct) ⟨rargs, []⟩ = pure (xs.zip rargs)) := by repeat (first | exact rfl | intro _))
    (hnd : xs.Nodup := by decide) (hloc : ∀ x ∈ xs, scope.names.lookup x = some .local := by decide) (hcell : ∀ x ∈ scope.names, x.2 ≠ .cell := by decide)
    (hco : scope.isCoroutine = false := by with_unfolding_all rfl) (hgen : scope.isGenerator = false := by with_unfolding_all rfl) (hk : scope.kind = .function := by with_unfolding_all rfl) : KW D (n + 1) (.ref f) args Q mh :=
  KW_def ho hcd hbind.at hnd hloc hcell (fun x hx => hcell (x, .cell) (mem_of_lookup hx) rfl) hco hgen hk h
theorem KW_defB {f : Addr} {oc : Value} {od : Option Addr} {osl : Array (Option Value)} {name qual : Str} {params : Arguments} {body : List Stmt} {scope : Scope} {dV kV doc pm cdv ct : Value} {an : Option Addr} {args : List MV} {Q : MV → MH → Prop}
    (xs : List Str) (ho : (Kf D.w).lookup f = some ⟨oc, od, .func (fnOf name qual params body scope dV kV doc pm an cdv ct), osl⟩)
    (h : XsW D n ⟨scope, cdv, qual ++ ".<locals>."⟩ body (xs.zip args) (fun _ mh' => Q .none mh') Q mh)
    (hcd : codeIn (Kf D.w) cdv qual = true := by with_unfolding_all rfl)
    (hbind : AllFor args (fun rargs => bindArgs (fnOf name qual params body scope dV kV doc pm an cdv ct) ⟨rargs, []⟩ = pure (xs.zip rargs)) := by repeat (first | exact rfl | intro _))
    (hnd : xs.Nodup := by decide) (hkn : ∀ x ∈ xs, scope.names.lookup x = some .local ∨ scope.names.lookup x = some .cell := by decide)
    (hcn : ∀ n, ∀ x ∈ scope.names, x.2 = .cell → ((cellsFrom n scope.names []).lookup x.1).isSome = true) (hcd2 : ((cellsFrom 0 scope.names []).map (·.1)).Nodup := by decide)
    (hco : scope.isCoroutine = false := by with_unfolding_all rfl) (hgen : scope.isGenerator = false := by with_unfolding_all rfl) (hk : scope.kind = .function := by with_unfolding_all rfl) : KW D (n + 1) (.ref f) args Q mh :=
  KW_defC ho hcd hbind.at hnd hkn (fun n x hx => hcn n (x, .cell) (mem_of_lookup hx) rfl) hcd2 hco hgen hk h

/-! the callee by its name -/
theorem EW_callK {f : Str} {a : Addr} {fp pos : Pos} {args : List Expr} {Q : MV → MH → Prop} (h : EsW D n si args σ (fun vs mh' => CW D n (.ref a) vs Q mh') mh)
    (hg : si.scope.names.lookup f = some .globalImplicit := by with_unfolding_all rfl) (hk : nsIn (Kf D.w) mainGlobals f = some (some (.ref a)) := by with_unfolding_all rfl) (hkeep : keepIn (Kf D.w) (.ref a) = true := by with_unfolding_all rfl) (hd : (f == ("__debug__" : Str)) = false := by decide)
    (he : ∀ env, eval (.Call (.Name f fp) args [] pos) env = (do callWith pos (← eval (.Name f fp) env) [] (backTo pos (starEach args env)) (backToKw pos (keywordEach [] env))) := by intros; with_unfolding_all rfl)
    (hpl : ∀ env, (backTo pos (starEach args env)).any (·.1) = false := by intros; with_unfolding_all rfl) : EW D n si (.Call (.Name f fp) args [] pos) σ Q mh := by
  intro A env R s ok eo hr nm
  rw [he]
  refine wpAny_bind (Name_function_global eo.kind' (by rw [eo.kindOf]; exact hg) (loadGlobal_global (by rw [eo.globals]; exact D.T.g.keeps hr.base) (mg_of D.X D.T.g hk) ?_) hd)
  have key : wpAny (model Prg D.w) A (evalArgs (.ref a) true (backTo pos (starEach args env)) []) (fun x s₁ => (Kf D.w).In s₁.heap ∧ wpAny (model Prg D.w) A (call (.ref a) ([] ++ x.pos) x.kw) (VPost D R s Q) (fun _ _ => False) s₁) (fun _ _ => False) s := by
    have hes := h A env R s pos ok eo hr nm
    have fin : ∀ vs s₁, VsPost D R s (fun vs mh' => CW D n (.ref a) vs Q mh') vs s₁ → (Kf D.w).In s₁.heap ∧ wpAny (model Prg D.w) A (call (.ref a) vs []) (VPost D R s Q) (fun _ _ => False) s₁ := by
      rintro vs s₁ ⟨R1, mh1, mvs, H1, tk1, rfl, g1, hr1, v1, q1⟩
      exact ⟨hr1.X, wpAny_mono (q1 A R1 _ vs ok hr1 v1) (fun _ _ z => VPost.after g1 z) fun _ _ f => f⟩
    cases hb : backTo pos (starEach args env) with
    | nil =>
      rw [hb] at hes
      refine evalArgs_nil3 ?_
      have : VsPost D R s (fun vs mh' => CW D n (.ref a) vs Q mh') [] s ∨ True := .inr trivial
      have h0 : wpAny (model Prg D.w) A (pure [] : Sem (List Value)) (fun vs s₁ => (Kf D.w).In s₁.heap ∧ wpAny (model Prg D.w) A (call (.ref a) vs []) (VPost D R s Q) (fun _ _ => False) s₁) (fun _ _ => False) s := wpAny_mono hes fin fun _ _ f => f
      refine ⟨hr.X, ?_⟩
      intro Γ p hΓ
      exact (h0 Γ p hΓ).2 Γ p hΓ
    | cons x rest =>
      rw [hb] at hes
      obtain ⟨st, t⟩ := x
      have hst : st = false := by
        have := hpl env
        rw [hb, List.any_cons, Bool.or_eq_false_iff] at this
        exact this.1
      subst hst
      exact evalArgs_plain (wpAny_mono hes fin fun _ _ f => f)
  exact callWith_of (P := (Kf D.w).In) (by show ((backTo pos (starEach args env)).any (·.1) || false) = false; rw [hpl]; rfl) (keeps_K hkeep) key
end
end Mine

namespace Mine

/-- addresses that stand aside -/
structure Off (D : WD) (R : RR) (X : List Addr) (h : Heap) : Prop where
  off : ∀ a ∈ X, D.H₀.get? a = none ∧ a ∉ R.ρ ∧ a ∉ tabs ∧ ∀ p ∈ R.ι, p.1 ≠ a
  isIn : ∀ a ∈ X, ∃ o, h.get? a = some o
theorem Off.go {D : WD} {R R' : RR} {X Y : List Addr} {h h' : Heap} (x : Off D R X h) (g : Go Y R R' h h') : Off D R' X h' where
  off := fun a ha => by
    obtain ⟨o, e⟩ := x.isIn a ha
    obtain ⟨o1, o2, o3, o4⟩ := x.off a ha
    refine ⟨o1, fun hm => ?_, o3, fun p hp q => ?_⟩
    · rcases g.fresh a hm with q | q
      · exact o2 q
      · rw [e] at q; cases q
    · rcases g.freshi p hp with z | z
      · exact o4 p z q
      · rw [q, e] at z; cases z
  isIn := fun a ha => let ⟨o, e⟩ := x.isIn a ha; g.there a o e
theorem Off.keep {D : WD} {R R' : RR} {X Y : List Addr} {h h' : Heap} (x : Off D R X h) (g : Go Y R R' h h') (d : ∀ a ∈ X, a ∉ Y) : ∀ a ∈ X, ∀ o, h.get? a = some o → h'.get? a = some o :=
  fun a ha o e => g.keep a o (x.off a ha).2.1 (x.off a ha).2.2.1 (d a ha) e
theorem NamesOk.offs {D : WD} {env : Env} {σ : Locals} {R : RR} {h : Heap} (x : NamesOk D env σ R h) : Off D R (nameAddrs env) h := ⟨x.na, x.lt⟩
theorem NamesOk.goX {D : WD} {env : Env} {σ : Locals} {X : List Addr} {R R' : RR} {h h' : Heap} (x : NamesOk D env σ R h) (g : Go X R R' h h') (d : ∀ a ∈ nameAddrs env, a ∉ X) : NamesOk D env σ R' h' := by
  have k := x.offs.keep g d
  have kc : ∀ n c v, (n, c) ∈ env.cells → h.IsCell c v → h'.IsCell c v := fun n c v hc ⟨o, e, d⟩ => ⟨o, k c (List.mem_cons_of_mem _ (List.mem_map.mpr ⟨(n, c), hc, rfl⟩)) o e, d⟩
  refine ⟨?_, fun n c hc => let ⟨v, iv⟩ := x.cells n c hc; ⟨v, kc n c v hc iv⟩, x.apart, x.lc, (x.offs.go g).off⟩
  obtain ⟨m, ⟨o, es, ep, e, r⟩, hm⟩ := x.ns
  refine ⟨m, ⟨o, es, ep, k _ List.mem_cons_self _ e, r⟩, fun y mv hy => ?_⟩
  obtain ⟨rv, hr, hn⟩ := hm y mv hy
  refine ⟨rv, hr.mono g.le, hn.imp id ?_⟩
  rintro ⟨hk, c, hc, iv⟩
  exact ⟨hk, c, hc, kc y c _ (mem_of_lookup hc) iv⟩
theorem Go.wide {X Y : List Addr} {R R' : RR} {h h' : Heap} (g : Go X R R' h h') (s : ∀ a ∈ X, a ∈ Y) : Go Y R R' h h' := ⟨g.le, g.there, fun b o h1 h2 h3 e => g.keep b o h1 h2 (fun q => h3 (s b q)) e, g.fresh, g.freshi⟩
theorem Go.drop {X Y : List Addr} {R R' : RR} {h h' : Heap} (g : Go X R R' h h') (s : ∀ a ∈ X, a ∈ Y ∨ h.get? a = none) : Go Y R R' h h' :=
  ⟨g.le, g.there, fun b o h1 h2 h3 e => g.keep b o h1 h2 (fun q => (s b q).elim h3 fun z => by rw [z] at e; cases e) e, g.fresh, g.freshi⟩

noncomputable def TgtTup : Expr → Prop
  | .Tuple .. => True
  | _ => False
noncomputable def TgtOk : Expr → Prop
  | .Name .. => True
  | .Tuple .. => True
  | _ => False

/-- an iterator -/
inductive ItemP (D : WD) (X : List Addr) (R : RR) (mh : MH) (s : Shared) (v : MV) (Mid : Value → RR → Heap → Prop) (r : Option Value) (s' : Shared) : Prop
  | mk (rv : Value) (R' : RR) (h' : Heap) (tk' : Nat) (e : r = some rv) (e2 : s' = { s with heap := h', toks := tk' }) (g : Go X R R' s.heap h') (hr : HRep D R' mh h') (vr : VRep R' v rv) (m : Mid rv R' h')
inductive GoP (D : WD) (X : List Addr) (R : RR) (mh : MH) (s : Shared) (St : RR → Heap → Prop) (s' : Shared) : Prop
  | mk (h' : Heap) (e : s' = { s with heap := h' }) (g : Go X R R s.heap h') (hr : HRep D R mh h') (st : St R h')
structure It (D : WD) (I : Addr) (X : List Addr) (src : MH → Prop) (items : List MV) (St : Nat → RR → Heap → Prop) (Mid : Nat → Value → RR → Heap → Prop) (tg : Expr → Prop) : Prop where
  frame : ∀ i R R' h h', St i R h → RLe R R' → (∀ b ∈ X, ∀ o, h.get? b = some o → h'.get? b = some o) → St i R' h'
  item : ∀ i R mh A s v, A.handled = none → HRep D R mh s.heap → src mh → St i R s.heap → Off D R X s.heap → items[i]? = some v →
    wpAny (model Prg D.w) A (pyNext (.ref I)) (fun r s' => ItemP D X R mh s v (Mid i) r s') (fun _ _ => False) s
  go : ∀ t i R mh A s v rv, A.handled = none → tg t → HRep D R mh s.heap → src mh → Off D R X s.heap → items[i]? = some v → VRep R v rv → Mid i rv R s.heap →
    wpAny (model Prg D.w) A (letOwnedTupleGo t (.ref I) rv) (fun _ s' => GoP D X R mh s (St (i + 1)) s') (fun _ _ => False) s
  done : ∀ R mh A s, A.handled = none → HRep D R mh s.heap → src mh → St items.length R s.heap → Off D R X s.heap →
    wpAny (model Prg D.w) A (pyNext (.ref I)) (fun r s' => ∃ h' tk', r = none ∧ s' = { s with heap := h', toks := tk' } ∧ ∀ b o, b ∉ X → s.heap.get? b = some o → h'.get? b = some o) (fun _ _ => False) s
  self : ∀ i R A s, St i R s.heap → wpAny (model Prg D.w) A (pyIter (.ref I)) (fun r s' => r = .ref I ∧ s' = s) (fun _ _ => False) s

section
variable {D : WD} {n : Nat} {R : RR} {mh : MH} {h h' : Heap} {I : Addr}
/-- objects aside changed -/
theorem HRep.but {X : List Addr} (hr : HRep D R mh h) (of : Off D R X h) (k : ∀ b o, b ∉ X → h.get? b = some o → h'.get? b = some o) : HRep D R mh h' := by
  have tk : ∀ P ∈ tabs, ∀ o, h.get? P = some o → h'.get? P = some o := fun P hP o e => k P o (fun q => (of.off P q).2.2.1 hP) e
  refine ⟨fun b o e => k b o (fun q => by rw [(of.off b q).1] at e; cases e) (hr.base b o e), hr.len, hr.nd, ?_, fun p hp => k _ _ (fun q => (of.off _ q).2.2.2 p hp rfl) (hr.imm p hp), hr.off, hr.offi, hr.ms,
    hr.t1.mono (RLe.refl R) (tk _ (by decide)), hr.t2.mono (RLe.refl R) (tk _ (by decide)), hr.t3.mono (RLe.refl R) (tk _ (by decide))⟩
  intro j o' b q1 q2
  obtain ⟨ro', e', r'⟩ := hr.obj j o' b q1 q2
  exact ⟨ro', k _ _ (fun q => (of.off b q).2.1 (List.mem_of_getElem? q2)) e', r'⟩
theorem Go.but {X : List Addr} (of : Off D R X h) (k : ∀ b o, b ∉ X → h.get? b = some o → h'.get? b = some o) (hs : ∀ a ∈ X, ∃ o, h'.get? a = some o) : Go X R R h h' :=
  ⟨RLe.refl R, fun b o e => by
    by_cases q : b ∈ X
    · exact hs b q
    · exact ⟨o, k b o q e⟩, fun b o _ _ h3 e => k b o h3 e, fun _ h => .inl h, fun _ h => .inl h⟩
/-- the last step of a walk: what stood aside may be gone -/
theorem Go.last {X Y : List Addr} {R R' : RR} {h h1 h' : Heap} (g : Go (X ++ Y) R R' h h1) (hX : ∀ a ∈ X, h.get? a = none) (k : ∀ b o, b ∉ X → h1.get? b = some o → h'.get? b = some o) : Go Y R R' h h' := by
  have nx : ∀ b o, h.get? b = some o → b ∉ X := fun b o e q => by rw [hX b q] at e; cases e
  refine ⟨g.le, fun b o e => ?_, fun b o h1' h2 h3 e => ?_, g.fresh, g.freshi⟩
  · obtain ⟨o', e'⟩ := g.there b o e
    exact ⟨o', k b o' (nx b o e) e'⟩
  · exact k b o (nx b o e) (g.keep b o h1' h2 (fun q => (List.mem_append.mp q).elim (nx b o e) h3) e)

theorem HRep.list {j : Nat} {vs : List MV} {a : Addr} (hr : HRep D R mh h) (hm : mh[j]? = some (.lst vs)) (ha : R.ρ[j]? = some a) : ∃ rvs k, h.get? a = some (lstObj rvs k) ∧ VReps R vs rvs := by
  obtain ⟨ro, e, rvs, k, rfl, v⟩ := hr.obj j _ a hm ha
  exact ⟨rvs, k, e, v⟩
theorem lst_is {rvs : List Value} {k : Nat} {a : Addr} (e : h.get? a = some (lstObj rvs k)) : h.IsList a rvs.toArray := ⟨_, e, rfl, k, rfl⟩

theorem go_other {t : Expr} {A : Around} {s : Shared} {cls : String} {vs : Array Value} {rv : Value} (ht : TgtOk t) (e : s.heap.get? I = some o) (hc : o.cls = .type cls) (hd : o.data = .fields vs)
    (hn : (["enumerate", "zip", "dict_itemiterator", "dict_reverseitemiterator", "odict_iterator", "itertools.zip_longest", "itertools.pairwise"].contains cls) = false) :
    wpAny (model Prg D.w) A (letOwnedTupleGo t (.ref I) rv) (fun _ s' => s' = s) (fun _ _ => False) s := by
  cases t <;> first | exact ht.elim | skip
  case Name => exact wpAny_pure rfl
  case Tuple =>
    cases rv <;> first | exact wpAny_pure rfl | skip
    unfold letOwnedTupleGo
    refine wpAny_bind (wpAny_load e ?_)
    rw [hc, hd]
    show wpAny _ A (if (_ && _) = true then _ else _) _ _ s
    rw [hn, Bool.false_and]
    exact wpAny_pure rfl

theorem It.list {l : Addr} {j : Nat} {vs : List MV} : It D I [I] (fun mh => mh[j]? = some (.lst vs)) vs (fun i R h => h.IsListIter I l i ∧ R.ρ[j]? = some l) (fun i _ R h => h.IsListIter I l (i + 1) ∧ R.ρ[j]? = some l) TgtOk where
  frame := fun i R R' h h' ⟨a, b⟩ le k => ⟨a.at fun o e => k I List.mem_cons_self o e, le.rho _ _ b⟩
  item := fun i R mh A s v hh hr hs ⟨a, b⟩ of hv => by
    obtain ⟨rvs, k, e, vr⟩ := hr.list hs b
    obtain ⟨rv, hrv, vv⟩ := vr.get hv
    refine wpAny_pyNext_list_item a (lst_is e) (x := rv) (by simpa using hrv) fun h' a' sb => ?_
    have kk : ∀ b o, b ∉ [I] → s.heap.get? b = some o → h'.get? b = some o := fun b o hb e => sb.extBut b o (by simpa using hb) e
    exact ⟨rv, R, h', s.toks, rfl, rfl, Go.but of kk (fun a ha => by rw [List.mem_singleton.mp ha]; obtain ⟨o, e, _⟩ := a'; exact ⟨o, e⟩), hr.but of kk, vv, a', b⟩
  go := fun t i R mh A s v rv hh ht hr hs of hv vr ⟨a, b⟩ => by
    obtain ⟨o, e, hc, hd⟩ := id a
    exact wpAny_mono (go_other ht e hc hd (by decide)) (fun _ s' z => ⟨s.heap, by rw [z], Go.refl _ _ _, hr, a, b⟩) fun _ _ f => f
  done := fun R mh A s hh hr hs ⟨a, b⟩ of => by
    obtain ⟨rvs, k, e, vr⟩ := hr.list hs b
    refine wpAny_pyNext_list_end hh a (lst_is e) (by simp [vr.length]) fun h' x => ?_
    exact ⟨h', s.toks, rfl, rfl, fun b o hb e => x b o (by simpa using hb) e⟩
  self := fun i R A s ⟨a, b⟩ => wpAny_pyIter_listiter a ⟨rfl, rfl⟩

theorem It.tup {t : Addr} {rvs : List Value} {k : Nat} {vs : List MV} : It D I [I] (fun _ => True) vs (fun i R h => h.IsTupleIter I t i ∧ (t, tupObj rvs k) ∈ R.ι ∧ VReps R vs rvs) (fun i _ R h => h.IsTupleIter I t (i + 1) ∧ (t, tupObj rvs k) ∈ R.ι ∧ VReps R vs rvs) TgtOk where
  frame := fun i R R' h h' ⟨⟨o, e, r⟩, b, c⟩ le k => ⟨⟨o, k I List.mem_cons_self _ e, r⟩, le.iota _ b, c.mono le⟩
  item := fun i R mh A s v hh hr hs ⟨a, b, c⟩ of hv => by
    obtain ⟨rv, hrv, vv⟩ := c.get hv
    refine wpAny_pyNext_tuple_item a ⟨_, hr.imm _ b, rfl, k, rfl⟩ (x := rv) (by simpa using hrv) fun h' a' sb => ?_
    have kk : ∀ b o, b ∉ [I] → s.heap.get? b = some o → h'.get? b = some o := fun b o hb e => sb.extBut b o (by simpa using hb) e
    exact ⟨rv, R, h', s.toks, rfl, rfl, Go.but of kk (fun a ha => by rw [List.mem_singleton.mp ha]; obtain ⟨o, e, _⟩ := a'; exact ⟨o, e⟩), hr.but of kk, vv, a', b, c⟩
  go := fun t i R mh A s v rv hh ht hr hs of hv vr ⟨a, b, c⟩ => by
    obtain ⟨o, e, hc, hd⟩ := id a
    exact wpAny_mono (go_other ht e hc hd (by decide)) (fun _ s' z => ⟨s.heap, by rw [z], Go.refl _ _ _, hr, a, b, c⟩) fun _ _ f => f
  done := fun R mh A s hh hr hs ⟨a, b, c⟩ of =>
    wpAny_pyNext_tuple_end hh a ⟨_, hr.imm _ b, rfl, k, rfl⟩ (by simp [c.length]) fun h' x => ⟨h', s.toks, rfl, rfl, fun b o hb e => x b o (by simpa using hb) e⟩
  self := fun i R A s ⟨a, b, c⟩ => wpAny_pyIter_tupleiter a ⟨rfl, rfl⟩

theorem KReps.at {κ : Type} {kvs : List (κ × MV)} {rk : List (κ × Value)} (x : KReps R kvs rk) {i : Nat} {k : κ} {v : MV} (h : kvs[i]? = some (k, v)) : ∃ rv, rk[i]? = some (k, rv) ∧ VRep R v rv := by
  induction x generalizing i with
  | nil => simp at h
  | cons a r ih =>
    cases i with
    | zero => simp at h; obtain ⟨rfl, rfl⟩ := h; exact ⟨_, rfl, a⟩
    | succ i => simp at h; simpa using ih h
theorem KReps.length {κ : Type} {kvs : List (κ × MV)} {rk : List (κ × Value)} (x : KReps R kvs rk) : rk.length = kvs.length := by
  induction x with
  | nil => rfl
  | cons a r ih => simp [ih]

theorem It.dctI {d : Addr} {j ep : Nat} {kvs : List (Int × MV)} : It D I [I] (fun mh => mh[j]? = some (.dctI ep kvs)) (kvs.map fun p => .int p.1) (fun i R h => h.IsKeyIter I d i kvs.length ep ∧ R.ρ[j]? = some d) (fun i _ R h => h.IsKeyIter I d (i + 1) kvs.length ep ∧ R.ρ[j]? = some d) TgtOk where
  frame := fun i R R' h h' ⟨a, b⟩ le k => ⟨a.at fun o e => k I List.mem_cons_self o e, le.rho _ _ b⟩
  item := fun i R mh A s v hh hr hs ⟨a, b⟩ of hv => by
    obtain ⟨ro, e, rk, hd, kr⟩ := hr.obj j _ d hs b
    rw [List.getElem?_map, Option.map_eq_some_iff] at hv
    obtain ⟨⟨k, v'⟩, hk, rfl⟩ := hv
    obtain ⟨rv, hrv, vv⟩ := kr.at hk
    rw [← kr.length] at a
    refine wpAny_pyNext_dict_item a (hd.dictAt e) hrv fun key h' hkey a' sb => ?_
    rw [kr.length] at a'
    obtain ⟨t, rfl⟩ := Value.isInt_shape hkey
    have kk : ∀ b o, b ∉ [I] → s.heap.get? b = some o → h'.get? b = some o := fun b o hb e => sb.extBut b o (by simpa using hb) e
    exact ⟨_, R, h', s.toks, rfl, rfl, Go.but of kk (fun a ha => by rw [List.mem_singleton.mp ha]; obtain ⟨o, e, _⟩ := a'; exact ⟨o, e⟩), hr.but of kk, .int _ _, a', b⟩
  go := fun t i R mh A s v rv hh ht hr hs of hv vr ⟨a, b⟩ => by
    obtain ⟨o, e, hc, hd⟩ := id a
    exact wpAny_mono (go_other ht e hc hd (by decide)) (fun _ s' z => ⟨s.heap, by rw [z], Go.refl _ _ _, hr, a, b⟩) fun _ _ f => f
  done := fun R mh A s hh hr hs ⟨a, b⟩ of => by
    obtain ⟨ro, e, rk, hd, kr⟩ := hr.obj j _ d hs b
    rw [List.length_map] at a
    rw [← kr.length] at a
    exact wpAny_pyNext_dict_end hh a (hd.dictAt e) (by simp) fun h' x => ⟨h', s.toks, rfl, rfl, fun b o hb e => x b o (by simpa using hb) e⟩
  self := fun i R A s ⟨a, b⟩ => wpAny_pyIter_keyiter a ⟨rfl, rfl⟩
theorem It.dctS {d : Addr} {j ep : Nat} {kvs : List (Str × MV)} : It D I [I] (fun mh => mh[j]? = some (.dctS ep kvs)) (kvs.map fun p => .str p.1) (fun i R h => h.IsKeyIter I d i kvs.length ep ∧ R.ρ[j]? = some d) (fun i _ R h => h.IsKeyIter I d (i + 1) kvs.length ep ∧ R.ρ[j]? = some d) TgtOk where
  frame := fun i R R' h h' ⟨a, b⟩ le k => ⟨a.at fun o e => k I List.mem_cons_self o e, le.rho _ _ b⟩
  item := fun i R mh A s v hh hr hs ⟨a, b⟩ of hv => by
    obtain ⟨ro, e, rk, hd, kr⟩ := hr.obj j _ d hs b
    rw [List.getElem?_map, Option.map_eq_some_iff] at hv
    obtain ⟨⟨k, v'⟩, hk, rfl⟩ := hv
    obtain ⟨rv, hrv, vv⟩ := kr.at hk
    rw [← kr.length] at a
    refine wpAny_pyNext_dict_item a (hd.dictAt e) hrv fun key h' hkey a' sb => ?_
    rw [kr.length] at a'
    obtain ⟨t, rfl⟩ := Value.isStrOf_shape hkey
    have kk : ∀ b o, b ∉ [I] → s.heap.get? b = some o → h'.get? b = some o := fun b o hb e => sb.extBut b o (by simpa using hb) e
    exact ⟨_, R, h', s.toks, rfl, rfl, Go.but of kk (fun a ha => by rw [List.mem_singleton.mp ha]; obtain ⟨o, e, _⟩ := a'; exact ⟨o, e⟩), hr.but of kk, .str _ _, a', b⟩
  go := fun t i R mh A s v rv hh ht hr hs of hv vr ⟨a, b⟩ => by
    obtain ⟨o, e, hc, hd⟩ := id a
    exact wpAny_mono (go_other ht e hc hd (by decide)) (fun _ s' z => ⟨s.heap, by rw [z], Go.refl _ _ _, hr, a, b⟩) fun _ _ f => f
  done := fun R mh A s hh hr hs ⟨a, b⟩ of => by
    obtain ⟨ro, e, rk, hd, kr⟩ := hr.obj j _ d hs b
    rw [List.length_map] at a
    rw [← kr.length] at a
    exact wpAny_pyNext_dict_end hh a (hd.dictAt e) (by simp) fun h' x => ⟨h', s.toks, rfl, rfl, fun b o hb e => x b o (by simpa using hb) e⟩
  self := fun i R A s ⟨a, b⟩ => wpAny_pyIter_keyiter a ⟨rfl, rfl⟩

theorem It.rng {a c : Int} {m : Nat} : It D I [I] (fun _ => True) ((List.range m).map fun (i : Nat) => .int (a + (i : Int) * c)) (fun i R h => IsRangeIter h I (a + i * c) (m - i) c) (fun i _ R h => IsRangeIter h I (a + (i + 1 : Nat) * c) (m - (i + 1 : Nat)) c) TgtOk where
  frame := fun i R R' h h' z le k => k I List.mem_cons_self _ z
  item := fun i R mh A s v hh hr hs a' of hv => by
    rw [List.getElem?_map, Option.map_eq_some_iff] at hv
    obtain ⟨q, hq, rfl⟩ := hv
    have hlt : i < m := by
      have := (List.getElem?_eq_some_iff.mp hq).1
      simpa using this
    have : i = q := by
      rw [List.getElem?_range hlt] at hq; cases hq; rfl
    subst this
    refine wpAny_pyNext_range_item a' (by omega) fun h' e' sb => ?_
    have kk : ∀ b o, b ∉ [I] → s.heap.get? b = some o → h'.get? b = some o := fun b o hb e => sb.extBut b o (by simpa using hb) e
    refine ⟨_, R, h', s.toks + 1, rfl, rfl, Go.but of kk (fun a ha => by rw [List.mem_singleton.mp ha]; exact ⟨_, e'⟩), hr.but of kk, .int _ _, ?_⟩
    have e1 : a + (i : Int) * c + c = a + ((i + 1 : Nat) : Int) * c := by push_cast; rw [Int.add_mul]; omega
    have e2 : (m : Int) - (i : Int) - 1 = (m : Int) - ((i + 1 : Nat) : Int) := by push_cast; omega
    rw [← e1, ← e2]; exact e'
  go := fun t i R mh A s v rv hh ht hr hs of hv vr a => by
    exact wpAny_mono (go_other ht a rfl rfl (by decide)) (fun _ s' z => ⟨s.heap, by rw [z], Go.refl _ _ _, hr, a⟩) fun _ _ f => f
  done := fun R mh A s hh hr hs a' of => by
    rw [List.length_map, List.length_range] at a'
    exact wpAny_pyNext_range_end hh a' (by omega) fun h' x => ⟨h', s.toks, rfl, rfl, fun b o hb e => x b o (by simpa using hb) e⟩
  self := fun i R A s a => wpAny_pyIter_rangeiter a ⟨rfl, rfl⟩

theorem It.enum {it l : Addr} {j : Nat} {vs : List MV} (hne : I ≠ it) : It D I [I, it] (fun mh => mh[j]? = some (.lst vs)) (vs.mapIdx fun k v => .tup [.int k, v]) (fun i R h => (∃ old, IsEnum h I it i old) ∧ h.IsListIter it l i ∧ R.ρ[j]? = some l)
    (fun i rv R h => (∃ x T, rv = .ref T ∧ IsEnumOut h I it (i + 1 : Nat) x T) ∧ h.IsListIter it l (i + 1) ∧ R.ρ[j]? = some l) TgtTup where
  frame := fun i R R' h h' ⟨⟨old, a⟩, b, c⟩ le k => ⟨⟨old, k I (by simp) _ a⟩, b.at fun o e => k it (by simp) o e, le.rho _ _ c⟩
  item := fun i R mh A s v hh hr hs ⟨⟨old, a⟩, b, c⟩ of hv => by
    obtain ⟨rvs, k, e, vr⟩ := hr.list hs c
    rw [List.getElem?_mapIdx, Option.map_eq_some_iff] at hv
    obtain ⟨v', hv', rfl⟩ := hv
    obtain ⟨rv, hrv, vv⟩ := vr.get hv'
    refine wpAny_pyNext_enum_item a b (lst_is e) (x := rv) (by simpa using hrv) hne fun h' eo hit hT hsz hk => ?_
    have kk : ∀ b o, b ∉ [I, it] → s.heap.get? b = some o → h'.get? b = some o := fun b o hb e => hk b o (fun q => hb (by simp [q])) (fun q => hb (by simp [q])) e
    have g1 : Go [I, it] R R s.heap h' := Go.but of kk fun a ha => by
      rcases List.mem_cons.mp ha with rfl | ha
      · exact ⟨_, eo⟩
      · rw [List.mem_singleton.mp ha]; obtain ⟨o, e, _⟩ := hit; exact ⟨o, e⟩
    have hr1 := hr.but of kk
    have hTo : h'.get? s.heap.objs.size = some (tupObj [.int (i : Int) s.toks, rv] 0) := hT
    have le := RLe.imm R (s.heap.objs.size, tupObj [.int (i : Int) s.toks, rv] 0)
    have offT := hr.newOff (next_none s.heap)
    have hr2 : HRep D ⟨R.ρ, (s.heap.objs.size, tupObj [.int (i : Int) s.toks, rv] 0) :: R.ι⟩ mh h' := by
      refine ⟨hr1.base, hr1.len, hr1.nd, fun i o b h1 h2 => let ⟨ro, e, r⟩ := hr1.obj i o b h1 h2; ⟨ro, e, r.mono le⟩, ?_, ?_, ?_, hr1.ms, hr1.t1.mono le fun _ e => e, hr1.t2.mono le fun _ e => e, hr1.t3.mono le fun _ e => e⟩
      · intro p hp
        rcases List.mem_cons.mp hp with rfl | hp
        · exact hTo
        · exact hr1.imm p hp
      · intro b hb
        refine ⟨(hr.off b hb).1, (hr.off b hb).2.1, fun p hp => ?_⟩
        rcases List.mem_cons.mp hp with rfl | hp
        · exact fun q => offT.2.1 (by have q' : s.heap.objs.size = b := q; rw [q']; exact hb)
        · exact (hr.off b hb).2.2 p hp
      · intro p hp
        rcases List.mem_cons.mp hp with rfl | hp
        · exact offT.2.2.1
        · exact hr.offi p hp
    have gg : Go [I, it] R ⟨R.ρ, (s.heap.objs.size, tupObj [.int (i : Int) s.toks, rv] 0) :: R.ι⟩ s.heap h' := ⟨le, g1.there, g1.keep, g1.fresh, fun p hp => by
      rcases List.mem_cons.mp hp with rfl | hp
      · exact .inr (next_none _)
      · exact .inl hp⟩
    have vv2 : VRep ⟨R.ρ, (s.heap.objs.size, tupObj [.int (i : Int) s.toks, rv] 0) :: R.ι⟩ (.tup [.int i, v']) (.ref s.heap.objs.size) := .tup List.mem_cons_self (.cons (.int _ _) (.cons (vv.mono le) .nil))
    have md : ∃ x T, Value.ref s.heap.objs.size = .ref T ∧ IsEnumOut h' I it ((i + 1 : Nat) : Int) x T := ⟨rv, s.heap.objs.size, rfl, eo⟩
    exact ⟨.ref s.heap.objs.size, _, h', s.toks + 1, rfl, rfl, gg, hr2, vv2, md, hit, c⟩
  go := fun t i R mh A s v rv hh ht hr hs of hv vr ⟨⟨x, T, q, eo⟩, b, c⟩ => by
    subst q
    cases t <;> first | exact ht.elim | skip
    case Tuple =>
      refine wpAny_letOwnedTupleGo_enum eo fun h' e' sb => ?_
      have kk : ∀ b o, b ∉ [I, it] → s.heap.get? b = some o → h'.get? b = some o := fun b o hb e => sb.extBut b o (fun q => hb (by simp [q])) e
      have hit' : h'.IsListIter it l (i + 1) := b.at fun o e => sb.extBut it o (Ne.symm hne) e
      exact ⟨h', rfl, Go.but of kk (fun a ha => by
        rcases List.mem_cons.mp ha with rfl | ha
        · exact ⟨_, e'⟩
        · rw [List.mem_singleton.mp ha]; obtain ⟨o, e, _⟩ := hit'; exact ⟨o, e⟩), hr.but of kk, ⟨_, e'⟩, hit', c⟩
  done := fun R mh A s hh hr hs ⟨⟨old, a⟩, b, c⟩ of => by
    obtain ⟨rvs, k, e, vr⟩ := hr.list hs c
    rw [List.length_mapIdx] at a b
    exact wpAny_pyNext_enum_end hh a b (lst_is e) (by simp [vr.length]) fun h' x => ⟨h', s.toks, rfl, rfl, fun b o hb e => x b o (fun q => hb (by simp [q])) e⟩
  self := fun i R A s ⟨⟨old, a⟩, b, c⟩ => wpAny_pyIter_enum a ⟨rfl, rfl⟩
end
end Mine

namespace Mine
noncomputable abbrev PP := RR → Shared → Value → Shared → Prop
/-- a call, with any postcondition -/
noncomputable def CWG (D : WD) (n : Nat) (P : PP) (f : Value) (args : List MV) (mh : MH) : Prop :=
  ∀ (A : Around) (R : RR) (s : Shared) (rargs : List Value), ROk n A → HRep D R mh s.heap → VReps R args rargs →
    wpAny (model Prg D.w) A (call f rargs) (P R s) (fun _ _ => False) s
/-- an expression, with any postcondition -/
noncomputable def EWG (D : WD) (n : Nat) (P : PP) (si : SI) (e : Expr) (σ : Locals) (mh : MH) : Prop :=
  ∀ (A : Around) (env : Env) (R : RR) (s : Shared), ROk n A → EnvOk si env → HRep D R mh s.heap → NamesOk D env σ R s.heap →
    wpAny (model Prg D.w) A (eval e env) (P R s) (fun _ _ => False) s
noncomputable def PAft (P : PP) : Prop := ∀ R R₁ s h₁ tk₁ v s', Go [] R R₁ s.heap h₁ → P R₁ { s with heap := h₁, toks := tk₁ } v s' → P R s v s'
theorem VPost.paft {D : WD} {Q : MV → MH → Prop} : PAft (fun R s => VPost D R s Q) := fun _ _ _ _ _ _ _ g x => VPost.after g x

theorem VReps.one' {R : RR} {a : MV} {rs : List Value} (h : VReps R [a] rs) : ∃ ra, rs = [ra] ∧ VRep R a ra := by
  cases h with | cons h1 r => cases r; exact ⟨_, rfl, h1⟩
theorem VReps.two' {R : RR} {a b : MV} {rs : List Value} (h : VReps R [a, b] rs) : ∃ ra rb, rs = [ra, rb] ∧ VRep R a ra ∧ VRep R b rb := by
  cases h with | cons h1 r => obtain ⟨rb, rfl, h2⟩ := r.one'; exact ⟨_, _, rfl, h1, h2⟩
theorem VReps.three' {R : RR} {a b c : MV} {rs : List Value} (h : VReps R [a, b, c] rs) : ∃ ra rb rc, rs = [ra, rb, rc] ∧ VRep R a ra ∧ VRep R b rb ∧ VRep R c rc := by
  cases h with | cons h1 r => obtain ⟨rb, rc, rfl, h2, h3⟩ := r.two'; exact ⟨_, _, _, rfl, h1, h2, h3⟩
section
variable {D : WD} {n : Nat} {si : SI} {σ : Locals} {mh : MH}

theorem evalArgs_of {A : Around} {env : Env} {s : Shared} {f : Value} {args : List Expr} {pos : Pos} {Q : Args → Shared → Prop} (hpl : (backTo pos (starEach args env)).any (·.1) = false)
    (h : wpAny (model Prg D.w) A (spliced (backTo pos (starEach args env))) (fun vs s' => Q { pos := vs } s') (fun _ _ => False) s) :
    wpAny (model Prg D.w) A (evalArgs f true (backTo pos (starEach args env)) []) Q (fun _ _ => False) s := by
  cases hb : backTo pos (starEach args env) with
  | nil =>
    rw [hb] at h
    intro Γ p hΓ
    have h1 : Q {} s := h Γ p hΓ
    exact evalArgs_nil3 (M := model Prg D.w) (A := A) (E := fun _ _ => False) h1 Γ p hΓ
  | cons x rest =>
    rw [hb] at h hpl
    obtain ⟨st, t⟩ := x
    rw [List.any_cons, Bool.or_eq_false_iff] at hpl
    have hst : st = false := hpl.1
    subst hst
    exact evalArgs_plain h

noncomputable def IsB : Value → Prop
  | .type _ => True
  | .builtin _ => True
  | _ => False
theorem callWith_B {A : Around} {s : Shared} {pos : Pos} {f : Value} {first : List Value} {args : List (Bool × Sem Value)} {Q : Value → Shared → Prop} (hB : IsB f) (ha : (args.any fun x => x.fst) = false)
    (h : wpAny (model Prg D.w) A (evalArgs f true args []) (fun a s₁ => wpAny (model Prg D.w) A (call f (first ++ a.pos) a.kw) Q (fun _ _ => False) s₁) (fun _ _ => False) s) :
    wpAny (model Prg D.w) A (callWith pos f first args []) Q (fun _ _ => False) s := by
  cases f <;> first | exact hB.elim | skip
  case type => exact PySem.callWith_type ha h
  case builtin => exact callWith_builtin ha h

/-- a builtin called by its name -/
theorem EWG_callB {P : PP} {f : Str} {v : Value} {fp pos : Pos} {args : List Expr} (pa : PAft P) (h : EsW D n si args σ (fun vs mh' => CWG D n P v vs mh') mh)
    (hB : IsB v := by trivial) (hg : si.scope.names.lookup f = some .globalImplicit := by with_unfolding_all rfl) (hk : nsIn (Kf D.w) mainGlobals f = some none := by with_unfolding_all rfl) (hb : bootBuiltins f = some v := by with_unfolding_all rfl) (hd : (f == ("__debug__" : Str)) = false := by decide) (hd2 : f ≠ ("__name__" : Str) := by decide)
    (he : ∀ env, eval (.Call (.Name f fp) args [] pos) env = (do callWith pos (← eval (.Name f fp) env) [] (backTo pos (starEach args env)) (backToKw pos (keywordEach [] env))) := by intros; with_unfolding_all rfl)
    (hpl : ∀ env, (backTo pos (starEach args env)).any (·.1) = false := by intros; with_unfolding_all rfl) : EWG D n P si (.Call (.Name f fp) args [] pos) σ mh := by
  intro A env R s ok eo hr nm
  rw [he]
  refine wpAny_bind (Name_function_global eo.kind' (by rw [eo.kindOf]; exact hg) (loadGlobal_builtin (v := v) (by rw [eo.globals]; exact D.T.g.keeps hr.base) (mg_none_of D.X D.T.g hk) (by rw [eo.builtins]; exact D.T.b.keeps hr.base) ((D.T.builtins f hd2).trans hb) ?_) hd)
  refine callWith_B (args := backTo pos (starEach args env)) hB (hpl env) (evalArgs_of (hpl env) (wpAny_mono (h A env R s pos ok eo hr nm) (fun vs s₁ z => ?_) fun _ _ f => f))
  obtain ⟨R1, mh1, mvs, H1, tk1, rfl, g1, hr1, v1, q1⟩ := z
  exact wpAny_mono (q1 A R1 _ vs ok hr1 v1) (fun r s' z => pa _ _ _ _ _ _ _ g1 z) fun _ _ f => f
theorem EW_callB {Q : MV → MH → Prop} {f : Str} {v : Value} {fp pos : Pos} {args : List Expr} (h : EsW D n si args σ (fun vs mh' => CW D n v vs Q mh') mh)
    (hB : IsB v := by trivial) (hg : si.scope.names.lookup f = some .globalImplicit := by with_unfolding_all rfl) (hk : nsIn (Kf D.w) mainGlobals f = some none := by with_unfolding_all rfl) (hb : bootBuiltins f = some v := by with_unfolding_all rfl) (hd : (f == ("__debug__" : Str)) = false := by decide) (hd2 : f ≠ ("__name__" : Str) := by decide)
    (he : ∀ env, eval (.Call (.Name f fp) args [] pos) env = (do callWith pos (← eval (.Name f fp) env) [] (backTo pos (starEach args env)) (backToKw pos (keywordEach [] env))) := by intros; with_unfolding_all rfl)
    (hpl : ∀ env, (backTo pos (starEach args env)).any (·.1) = false := by intros; with_unfolding_all rfl) : EW D n si (.Call (.Name f fp) args [] pos) σ Q mh :=
  EWG_callB (P := fun R s => VPost D R s Q) VPost.paft h hB hg hk hb hd hd2 he hpl

/-! what is walked -/
inductive Iterates (D : WD) (tgt : Expr) (Q : List MV → (MH → Prop) → MH → Prop) (R : RR) (s : Shared) (it : Value) (s' : Shared) : Prop
  | mk (I : Addr) (X : List Addr) (items : List MV) (src : MH → Prop) (St : Nat → RR → Heap → Prop) (Mid : Nat → Value → RR → Heap → Prop) (tg : Expr → Prop) (R' : RR) (mh' : MH) (h' : Heap) (tk' : Nat) (e : it = .ref I) (e2 : s' = { s with heap := h', toks := tk' }) (g : Go [] R R' s.heap h') (hr : HRep D R' mh' h') (iT : It D I X src items St Mid tg) (ht : tg tgt) (of : Off D R' X h') (nx : ∀ a ∈ X, s.heap.get? a = none) (st : St 0 R' h') (hs : src mh') (q : Q items src mh')
noncomputable def FW (D : WD) (n : Nat) (si : SI) (e tgt : Expr) (σ : Locals) (Q : List MV → (MH → Prop) → MH → Prop) (mh : MH) : Prop :=
  EWG D n (fun R s x s₁ => ∀ A, A.handled = none → wpAny (model Prg D.w) A (pyIter x) (Iterates D tgt Q R s) (fun _ _ => False) s₁) si e σ mh

theorem Iterates.after {tgt : Expr} {Q : List MV → (MH → Prop) → MH → Prop} {R R₁ : RR} {s : Shared} {h₁ : Heap} {tk₁ : Nat} {it : Value} {s' : Shared} (g : Go [] R R₁ s.heap h₁) (x : Iterates D tgt Q R₁ { s with heap := h₁, toks := tk₁ } it s') : Iterates D tgt Q R s it s' := by
  obtain ⟨I, X, items, src, St, Mid, tg, R', mh', h', tk', rfl, rfl, g', hr, it, ht, of, nx, st, hs, q⟩ := x
  exact ⟨I, X, items, src, St, Mid, tg, R', mh', h', tk', rfl, rfl, g.trans g', hr, it, ht, of, fun a ha => none_of_there g.there (nx a ha), st, hs, q⟩

inductive SrcOf : MV → List MV → (MH → Prop) → Prop
  | lst (i : Nat) (vs : List MV) : SrcOf (.ref i) vs (fun mh => mh[i]? = some (.lst vs))
  | tup (vs : List MV) : SrcOf (.tup vs) vs (fun _ => True)
  | dctI (i ep : Nat) (kvs : List (Int × MV)) : SrcOf (.ref i) (kvs.map fun p => .int p.1) (fun mh => mh[i]? = some (.dctI ep kvs))
  | dctS (i ep : Nat) (kvs : List (Str × MV)) : SrcOf (.ref i) (kvs.map fun p => .str p.1) (fun mh => mh[i]? = some (.dctS ep kvs))
  | rng (a b c : Int) (m : Nat) : Builtin.Range.small a b c = true → Builtin.Range.rangeSize a b c = (m : Int) → SrcOf (.rng a b c) ((List.range m).map fun (i : Nat) => .int (a + (i : Int) * c)) (fun _ => True)

theorem iter_push {tgt : Expr} {Q : List MV → (MH → Prop) → MH → Prop} {R : RR} {s : Shared} {o : Obj} {items : List MV} {src : MH → Prop} {St : Nat → RR → Heap → Prop} {Mid : Nat → Value → RR → Heap → Prop} {tg : Expr → Prop}
    (hr : HRep D R mh s.heap) (it : It D s.heap.objs.size [s.heap.objs.size] src items St Mid tg) (ht : tg tgt) (st : St 0 R (s.heap.push o)) (hs : src mh) (q : Q items src mh) (hI : ∃ o', (s.heap.push o).get? s.heap.objs.size = some o') :
    Iterates D tgt Q R s (.ref s.heap.objs.size) { s with heap := s.heap.push o } := by
  have k := Kept.push s.heap o
  exact ⟨_, _, items, src, St, Mid, tg, R, mh, _, s.toks, rfl, rfl, Go.grow _ _ k, hr.grow k, it, ht, ⟨fun a ha => by rw [List.mem_singleton.mp ha]; exact hr.newOff (next_none _), fun a ha => by rw [List.mem_singleton.mp ha]; exact hI⟩,
    fun a ha => by rw [List.mem_singleton.mp ha]; exact next_none _, st, hs, q⟩

theorem FW_val {e tgt : Expr} {Q : List MV → (MH → Prop) → MH → Prop} (h : EW D n si e σ (fun v mh' => ∃ items src, SrcOf v items src ∧ src mh' ∧ Q items src mh') mh) (ht : TgtOk tgt := by trivial) : FW D n si e tgt σ Q mh := by
  intro A env R s ok eo hr nm
  refine wpAny_mono (h A env R s ok eo hr nm) (fun rv s1 h1 A' hh => ?_) fun _ _ f => f
  obtain ⟨R1, mh1, va, H1, tk1, rfl, g1, hr1, v1, items, src, so, hs, q⟩ := h1
  refine wpAny_mono (Q := Iterates D tgt Q R1 { s with heap := H1, toks := tk1 }) ?_ (fun _ _ z => Iterates.after g1 z) fun _ _ f => f
  cases so with
  | lst i vs =>
    cases v1 with | ref ha =>
    obtain ⟨rvs, k, e, vr⟩ := hr1.list hs ha
    exact wpAny_pyIter_list (lst_is e) (iter_push (s := { s with heap := H1, toks := tk1 }) hr1 It.list ht ⟨⟨_, Heap.get?_push_size _ rfl, rfl, rfl⟩, ha⟩ hs q ⟨_, Heap.get?_push_size _ rfl⟩)
  | tup vs =>
    cases v1 with | @tup a rvs k _ hm hv =>
    exact wpAny_pyIter_tuple ⟨_, hr1.imm _ hm, rfl, k, rfl⟩ (iter_push (s := { s with heap := H1, toks := tk1 }) hr1 (It.tup (t := a) (rvs := rvs) (k := k)) ht ⟨⟨_, Heap.get?_push_size _ rfl, rfl, rfl⟩, hm, hv⟩ hs q ⟨_, Heap.get?_push_size _ rfl⟩)
  | dctI i ep kvs =>
    cases v1 with | @ref _ a ha =>
    obtain ⟨ro, e, rk, hd, kr⟩ := hr1.obj i _ _ hs ha
    refine wpAny_pyIter_dict (hr1.ms a (List.mem_of_getElem? ha)) (hd.dictAt e) (iter_push (s := { s with heap := H1, toks := tk1 }) hr1 (It.dctI (d := a)) ht ⟨⟨_, Heap.get?_push_size _ rfl, rfl, ?_⟩, ha⟩ hs q ⟨_, Heap.get?_push_size _ rfl⟩)
    rw [kr.length]; rfl
  | dctS i ep kvs =>
    cases v1 with | @ref _ a ha =>
    obtain ⟨ro, e, rk, hd, kr⟩ := hr1.obj i _ _ hs ha
    refine wpAny_pyIter_dict (hr1.ms a (List.mem_of_getElem? ha)) (hd.dictAt e) (iter_push (s := { s with heap := H1, toks := tk1 }) hr1 (It.dctS (d := a)) ht ⟨⟨_, Heap.get?_push_size _ rfl, rfl, ?_⟩, ha⟩ hs q ⟨_, Heap.get?_push_size _ rfl⟩)
    rw [kr.length]; rfl
  | rng a b c m hsm hsz =>
    cases v1 with | rng t u v hm =>
    refine wpAny_pyIter_range (hr1.imm _ hm) hsm (iter_push (s := { s with heap := H1, toks := tk1 }) hr1 (It.rng (a := a) (c := c) (m := m)) ht ?_ hs q ⟨_, Heap.get?_push_size _ rfl⟩)
    have := Heap.get?_push_size H1 (o := { cls := .type "range_iterator", data := .fields #[rawInt a, rawInt (Builtin.Range.rangeSize a b c), rawInt c] }) rfl
    show IsRangeIter (H1.push _) H1.objs.size (a + ((0 : Nat) : Int) * c) ((m : Int) - ((0 : Nat) : Int)) c
    rw [show a + ((0 : Nat) : Int) * c = a by simp, show (m : Int) - ((0 : Nat) : Int) = m by simp, ← hsz]
    exact this

/-- enumerate of a list -/
theorem FW_enum {f : Str} {e tgt : Expr} {fp pos : Pos} {Q : List MV → (MH → Prop) → MH → Prop} (h : EW D n si e σ (fun v mh' => ∃ j vs, v = .ref j ∧ mh'[j]? = some (.lst vs) ∧ Q (vs.mapIdx fun k v => .tup [.int k, v]) (fun mh => mh[j]? = some (.lst vs)) mh') mh) (hf : f = ("enumerate" : Str) := by with_unfolding_all rfl) (ht : TgtTup tgt := by trivial)
    (hg : si.scope.names.lookup f = some .globalImplicit := by with_unfolding_all rfl) (hk : nsIn (Kf D.w) mainGlobals f = some none := by with_unfolding_all rfl) (hb : bootBuiltins f = some (.type "enumerate") := by with_unfolding_all rfl)
    (he : ∀ env, eval (.Call (.Name f fp) [e] [] pos) env = (do callWith pos (← eval (.Name f fp) env) [] (backTo pos (starEach [e] env)) (backToKw pos (keywordEach [] env))) := by intros; with_unfolding_all rfl)
    (hst : ∀ env, starEach [e] env = (false, eval e env) :: starEach [] env := by intros; with_unfolding_all rfl)
    (hpl : ∀ env, (backTo pos (starEach [e] env)).any (·.1) = false := by intros; with_unfolding_all rfl) : FW D n si (.Call (.Name f fp) [e] [] pos) tgt σ Q mh := by
  subst hf
  refine EWG_callB (v := .type "enumerate") ?_ (EsW_cons (EW.mono h fun v mh' hq => EsW_nil ?_) hst) trivial hg hk hb (by decide) (by decide) he hpl
  · intro R R₁ s h₁ tk₁ v s' g x A hA
    exact wpAny_mono (x A hA) (fun _ _ z => Iterates.after g z) fun _ _ f => f
  · intro A R s rargs ok hr vr
    obtain ⟨j, vs, rfl, hm, q⟩ := hq
    obtain ⟨ra, rfl, v1⟩ := vr.one'
    cases v1 with | @ref _ l ha =>
    obtain ⟨rvs, k, e, vr⟩ := hr.list hm ha
    refine call_enumerate_1 e fun h' ie hit hsz kk => fun A' hh => ?_
    refine wpAny_pyIter_enum ie ?_
    have kk' : Kept s.heap h' := kk
    have n1 : s.heap.get? (s.heap.objs.size + 1) = none := Heap.get?_none_of_le (Nat.le_succ _)
    refine ⟨_, [s.heap.objs.size + 1, s.heap.objs.size], _, _, _, _, _, R, mh', h', s.toks, rfl, rfl, Go.grow _ _ kk', hr.grow kk', It.enum (l := l) (j := j) (vs := vs) (Nat.succ_ne_self _), ht, ⟨fun a ha => ?_, fun a ha => ?_⟩, fun a ha => ?_, ⟨⟨_, ie⟩, hit, ha⟩, hm, q⟩
    · rcases List.mem_cons.mp ha with rfl | ha
      · exact hr.newOff n1
      · rw [List.mem_singleton.mp ha]; exact hr.newOff (next_none _)
    · rcases List.mem_cons.mp ha with rfl | ha
      · exact ⟨_, ie⟩
      · rw [List.mem_singleton.mp ha]; obtain ⟨o, e, _⟩ := hit; exact ⟨o, e⟩
    · rcases List.mem_cons.mp ha with rfl | ha
      · exact n1
      · rw [List.mem_singleton.mp ha]; exact next_none _
end
end Mine

namespace Mine
/-- what a target takes from an item: the names after it -/
inductive Tgt (si : SI) : Expr → MV → Locals → Locals → Prop
  | name (x : Str) (p : Pos) (v : MV) (σ : Locals) : (si.scope.names.lookup x = some .local ∨ si.scope.names.lookup x = some .cell) → Tgt si (.Name x p) v σ (put σ x v)
  | pair (x y : Str) (p q r : Pos) (k : Nat) (a b : MV) (σ : Locals) : (si.scope.names.lookup x = some .local ∨ si.scope.names.lookup x = some .cell) → (si.scope.names.lookup y = some .local ∨ si.scope.names.lookup y = some .cell) →
      Tgt si (.Tuple [.Name x p, .Name y q] k r) (.tup [a, b]) σ (put (put σ x a) y b)

section
variable {D : WD} {n : Nat} {si : SI} {σ σ' : Locals} {mh : MH}
theorem assign_tgt {A : Around} {env : Env} {R : RR} {s : Shared} {t : Expr} {v : MV} {rv : Value} {Q : Unit → Shared → Prop} (ht : Tgt si t v σ σ') (ok : ROk n A) (eo : EnvOk si env) (hr : HRep D R mh s.heap) (nm : NamesOk D env σ R s.heap) (vr : VRep R v rv)
    (q : ∀ h' tk', Go (nameAddrs env) R R s.heap h' → HRep D R mh h' → NamesOk D env σ' R h' → Q () { s with heap := h', toks := tk' }) :
    wpAny (model Prg D.w) A (assign t env rv) Q (fun _ _ => False) s := by
  cases ht with
  | name x p v σ hk => exact wpAny_assign_Name (store_name eo hr nm vr hk q)
  | pair x y p q' r k a b σ hx hy =>
    show wpAny _ _ (do standAt r; unpack rv [(false, assign (.Name x p) env), (false, assign (.Name y q') env)]) _ _ _
    refine wpAny_bind (wpAny_standAt ?_)
    unfold unpack
    refine wpAny_bind (wpAny_holding ?_)
    refine unpack2 ok hr vr fun ra rb h' v2 v3 k => ?_
    have g2 := Go.grow [] R k
    have hr2 := hr.grow k
    show wpAny _ _ (do holding [rb] (assign (.Name x p) env ra); holding [] (assign (.Name y q') env rb); pure ()) _ _ _
    refine wpAny_bind (wpAny_holding (wpAny_assign_Name (wpAny_mono (bind_two (s := { s with heap := h' }) (Q := Q) eo hr2 (nm.go g2) v2 v3 hx hy fun h3 tk3 g3 hr3 nm3 => ?_) (fun _ s2 z => ?_) fun _ _ f => f)))
    · exact q h3 tk3 (g2.weak.trans g3) hr3 nm3
    · exact wpAny_bind (wpAny_holding (wpAny_assign_Name (wpAny_mono z (fun _ s3 z3 => wpAny_pure z3) fun _ _ f => f)))

theorem XW_for {tgt iter : Expr} {body : List Stmt} {pos : Pos} {QN : Locals → MH → Prop} {QR : MV → MH → Prop}
    (h : FW D n si iter tgt σ (fun items src mh1 => ∃ J : Nat → Locals → MH → Prop, J 0 σ mh1 ∧
      (∀ i σ' mh', J i σ' mh' → src mh') ∧
      (∀ i v σ' mh', items[i]? = some v → J i σ' mh' → ∃ σ'', Tgt si tgt v σ' σ'' ∧ XsW D n si body σ'' (J (i + 1)) QR mh') ∧
      (∀ σ' mh', J items.length σ' mh' → QN σ' mh')) mh)
    (hs : ∀ env x, foldedSetIterable iter env x = pure x := by intros; with_unfolding_all rfl) : XW D n si (.For tgt iter body [] pos) σ QN QR mh := by
  intro A env R s ok eo hr nm
  refine wpAny_For (wpAny_mono (h A env R s ok eo hr nm) (fun x s1 h1 => ?_) fun _ _ f => f) (hs env)
  refine wpAny_mono (h1 A ok.handled) (fun it s2 h2 => ?_) fun _ _ f => f
  obtain ⟨I, X, items, src, St, Mid, tg, R2, mh2, H2, tk2, rfl, rfl, g2, hr2, iT, ht, of2, nx, st2, hs2, J, hJ0, hJs, step, hend⟩ := h2
  have nm2 := nm.go g2
  have dis : ∀ a ∈ nameAddrs env, a ∉ X := fun a ha hx => by obtain ⟨o, e⟩ := nm.lt a ha; rw [nx a hx] at e; cases e
  have dis' : ∀ a ∈ X, a ∉ nameAddrs env := fun a hx ha => dis a ha hx
  refine codeAny_forLoop_any (fun k s' => ∃ i R' mh' h' tk' σ', s' = { s with heap := h', toks := tk' } ∧ i ≤ items.length ∧ k = items.length + 1 - i ∧ Go (X ++ nameAddrs env) R R' s.heap h' ∧ HRep D R' mh' h' ∧ Off D R' X h' ∧ St i R' h' ∧ NamesOk D env σ' R' h' ∧ J i σ' mh') ?_ (items.length + 1)
    ⟨0, R2, mh2, H2, tk2, σ, rfl, Nat.zero_le _, rfl, g2.wide (by simp), hr2, of2, st2, nm2, hJ0⟩
  rintro k s' ⟨i, R3, mh3, H3, tk3, σ3, rfl, hi, rfl, g3, hr3, of3, st3, nm3, hJ⟩
  by_cases hlt : i < items.length
  · have hv : items[i]? = some items[i] := List.getElem?_eq_getElem hlt
    obtain ⟨σ4, htg, hb⟩ := step i _ σ3 mh3 hv hJ
    refine wpAny_mono (iT.item i R3 mh3 A { s with heap := H3, toks := tk3 } _ ok.handled hr3 (hJs _ _ _ hJ) st3 of3 hv) (fun r s4 z => ?_) fun _ _ f => f.elim
    obtain ⟨rv, R4, H4, tk4, rfl, rfl, g4, hr4, v4, md⟩ := z
    have of4 := of3.go g4
    refine wpAny_mono (iT.go tgt i R4 mh3 A { s with heap := H4, toks := tk4 } _ rv ok.handled ht hr4 (hJs _ _ _ hJ) of4 hv v4 md) (fun _ s5 z => ?_) fun _ _ f => f.elim
    obtain ⟨H5, rfl, g5, hr5, st5⟩ := z
    have of5 := of4.go g5
    have g35 : Go X R3 R4 H3 H5 := g4.trans g5
    have nm5 := nm3.goX g35 dis
    refine wpAny_mono (assign_tgt (s := { s with heap := H5, toks := tk4 }) (Q := fun _ s6 => ∃ H6 tk6, s6 = { s with heap := H6, toks := tk6 } ∧ Go (nameAddrs env) R4 R4 H5 H6 ∧ HRep D R4 mh3 H6 ∧ NamesOk D env σ4 R4 H6) htg ok eo hr5 nm5 v4 fun H6 tk6 g6 hr6 nm6 => ⟨H6, tk6, rfl, g6, hr6, nm6⟩) (fun _ s6 z => ?_) fun _ _ f => f.elim
    obtain ⟨H6, tk6, rfl, g6, hr6, nm6⟩ := z
    have of6 := of5.go g6
    have st6 : St (i + 1) R4 H6 := iT.frame _ _ _ _ _ st5 (RLe.refl _) (of5.keep g6 dis')
    refine wpAny_mono (hb A env R4 { s with heap := H6, toks := tk6 } ok eo hr6 nm6) (fun f s7 z => ?_) fun _ _ f => f.elim
    obtain ⟨R7, mh7, H7, tk7, rfl, g7, hr7, q7⟩ := z
    have g27 : Go (X ++ nameAddrs env) R R7 s.heap H7 := ((g3.trans (g35.wide fun a ha => List.mem_append_left _ ha)).trans (g6.wide fun a ha => List.mem_append_right _ ha)).trans (g7.wide fun a ha => List.mem_append_right _ ha)
    cases f with
    | next =>
      obtain ⟨σ7, nm7, hJ7⟩ := q7
      exact ⟨items.length + 1 - (i + 1), by omega, i + 1, R7, mh7, H7, tk7, σ7, rfl, hlt, rfl, g27, hr7, of6.go g7, iT.frame _ _ _ _ _ st6 g7.le (of6.keep g7 dis'), nm7, hJ7⟩
    | ret v => exact ⟨R7, mh7, H7, tk7, rfl, g27.drop fun a ha => (List.mem_append.mp ha).elim (fun q => .inr (nx a q)) .inl, hr7, q7⟩
    | brk => exact q7.elim
    | cont => exact q7.elim
  · obtain rfl : i = items.length := Nat.le_antisymm hi (Nat.not_lt.mp hlt)
    refine wpAny_mono (iT.done R3 mh3 A { s with heap := H3, toks := tk3 } ok.handled hr3 (hJs _ _ _ hJ) st3 of3) (fun r s4 z => ?_) fun _ _ f => f.elim
    obtain ⟨H4, tk4, rfl, rfl, k4⟩ := z
    refine wpAny_execs_nil ⟨R3, mh3, H4, tk4, rfl, g3.last nx k4, hr3.but of3 k4, σ3, ?_, hend _ _ hJ⟩
    have kn : ∀ a ∈ nameAddrs env, ∀ o, H3.get? a = some o → H4.get? a = some o := fun a ha o e => k4 a o (dis a ha) e
    have kc : ∀ n c v, (n, c) ∈ env.cells → H3.IsCell c v → H4.IsCell c v := fun n c v hc ⟨o, e, d⟩ => ⟨o, kn c (List.mem_cons_of_mem _ (List.mem_map.mpr ⟨(n, c), hc, rfl⟩)) o e, d⟩
    refine ⟨?_, fun n c hc => let ⟨v, iv⟩ := nm3.cells n c hc; ⟨v, kc n c v hc iv⟩, nm3.apart, nm3.lc, nm3.na⟩
    obtain ⟨m, ⟨o, es, ep, e, r⟩, hm⟩ := nm3.ns
    refine ⟨m, ⟨o, es, ep, kn _ List.mem_cons_self _ e, r⟩, fun y mv hy => ?_⟩
    obtain ⟨rv, hr, hn⟩ := hm y mv hy
    refine ⟨rv, hr, hn.imp id ?_⟩
    rintro ⟨hk, c, hc, iv⟩
    exact ⟨hk, c, hc, kc y c _ (mem_of_lookup hc) iv⟩

theorem XW_while {test : Expr} {body : List Stmt} {pos : Pos} {QN : Locals → MH → Prop} {QR : MV → MH → Prop} (J : Nat → Locals → MH → Prop) (k : Nat) (h0 : J k σ mh)
    (step : ∀ k σ' mh', J k σ' mh' → IW D n si test σ' (fun b mh'' => if b = true then XsW D n si body σ' (fun σ'' mh3 => ∃ k', k' < k ∧ J k' σ'' mh3) QR mh'' else QN σ' mh'') mh') : XW D n si (.While test body [] pos) σ QN QR mh := by
  intro A env R s ok eo hr nm
  refine wpAny_While (codeAny_whileLoop (fun k s' => ∃ R' mh' h' tk' σ', s' = { s with heap := h', toks := tk' } ∧ Go (nameAddrs env) R R' s.heap h' ∧ HRep D R' mh' h' ∧ NamesOk D env σ' R' h' ∧ J k σ' mh') ?_ k ⟨R, mh, s.heap, s.toks, σ, rfl, Go.refl _ _ _, hr, nm, h0⟩)
  rintro k s' ⟨R3, mh3, H3, tk3, σ3, rfl, g3, hr3, nm3, hJ⟩
  refine wpAny_mono (step k σ3 mh3 hJ A env R3 { s with heap := H3, toks := tk3 } ok eo hr3 nm3) (fun b s4 z => ?_) fun _ _ f => f.elim
  obtain ⟨R4, mh4, H4, tk4, rfl, g4, hr4, q4⟩ := z
  cases b with
  | true =>
    simp only [if_true] at q4 ⊢
    refine wpAny_mono (q4 A env R4 { s with heap := H4, toks := tk4 } ok eo hr4 (nm3.go g4)) (fun f s5 z => ?_) fun _ _ f => f.elim
    obtain ⟨R5, mh5, H5, tk5, rfl, g5, hr5, q5⟩ := z
    have g25 := (g3.trans g4.weak).trans g5
    cases f with
    | next => obtain ⟨σ5, nm5, k', hk', hJ'⟩ := q5; exact ⟨k', hk', R5, mh5, H5, tk5, σ5, rfl, g25, hr5, nm5, hJ'⟩
    | ret v => exact ⟨R5, mh5, H5, tk5, rfl, g25, hr5, q5⟩
    | brk => exact q5.elim
    | cont => exact q5.elim
  | false =>
    simp only [Bool.false_eq_true, if_false] at q4 ⊢
    exact wpAny_execs_nil ⟨R4, mh4, H4, tk4, rfl, g3.trans g4.weak, hr4, σ3, nm3.go g4, q4⟩
end
end Mine

namespace Mine
noncomputable def relS (scope sc : Scope) : Scope :=
  { scope with names := scope.names.map fun (n, k) => if (k == .free && sc.kind == .function && sc.names.lookup n == some .cell) then (n, .cell) else (n, k) }
theorem relabel_relS (scope : Scope) (env : Env) : relabel scope env = relS scope env.scope := rfl

/-- the names that a comprehension takes from around it -/
inductive Cap (si : SI) (cs : Scope) : List Str → Prop
  | nil (h : ∀ env, closureFor cs env = pure []) : Cap si cs []
  | one (x : Str) (h1 : (relS cs si.scope).names.lookup x = some .cell) (h2 : si.scope.names.lookup x = some .cell) (h : ∀ env c, env.cells.lookup x = some c → closureFor cs env = pure [(x, c)]) : Cap si cs [x]
noncomputable def capd (fv : List Str) (σ : Locals) : Locals := fv.filterMap fun x => (σ.lookup x).map fun v => (x, v)
noncomputable def tgtNames : Expr → List Str
  | .Name x _ => [x]
  | .Tuple es _ _ => es.filterMap fun e => match e with | .Name x _ => some x | _ => none
  | _ => []
noncomputable def TW (D : WD) (n : Nat) (si : SI) (ifs : List Expr) (σ : Locals) (Q : Bool → MH → Prop) (mh : MH) : Prop :=
  match ifs with
  | [] => Q true mh
  | [c] => IW D n si c σ Q mh
  | _ => False

/-- targets that are plain locals -/
inductive TgtL (si : SI) : Expr → MV → Locals → Locals → Prop
  | name (x : Str) (p : Pos) (v : MV) (σ : Locals) : si.scope.names.lookup x = some .local → TgtL si (.Name x p) v σ (put σ x v)
  | pair (x y : Str) (p q r : Pos) (k : Nat) (a b : MV) (σ : Locals) : si.scope.names.lookup x = some .local → si.scope.names.lookup y = some .local →
      TgtL si (.Tuple [.Name x p, .Name y q] k r) (.tup [a, b]) σ (put (put σ x a) y b)

section
variable {D : WD} {n : Nat} {si : SI} {σ σ' : Locals} {mh : MH}
theorem store_local {A : Around} {env : Env} {R : RR} {s : Shared} {x : Str} {mv : MV} {rv : Value} {Q : Unit → Shared → Prop} (eo : EnvOk si env) (hr : HRep D R mh s.heap) (nm : NamesOk D env σ R s.heap) (v : VRep R mv rv)
    (hk : si.scope.names.lookup x = some .local)
    (q : ∀ h' tk', Go [env.locals] R R s.heap h' → HRep D R mh h' → NamesOk D env (put σ x mv) R h' → Q () { s with heap := h', toks := tk' }) :
    wpAny (model Prg D.w) A (storeName env x rv) Q (fun _ _ => False) s := by
  obtain ⟨m, hm, hv⟩ := nm.ns
  have hL := nm.na env.locals List.mem_cons_self
  refine wpAny_storeName_local (by rw [eo.kindOf]; exact hk) hm (fun h' hn hs => ?_) (by rw [eo.kind']; rfl)
  have kb : ∀ b o, b ≠ env.locals → s.heap.get? b = some o → h'.get? b = some o := fun b o hb e => (hs.2 b hb).trans e
  refine q h' _ (Go.other R kb (by obtain ⟨o, _, _, e, _⟩ := hn; exact ⟨o, e⟩) List.mem_cons_self) (hr.other kb hL.1 hL.2.1 hL.2.2.1 hL.2.2.2) ⟨⟨_, hn, fun y mv' hy => ?_⟩, fun y c hc => ?_, nm.apart, nm.lc, nm.na⟩
  · rw [put_lookup] at hy
    by_cases e : y = x
    · subst e
      rw [if_pos rfl] at hy; cases hy
      exact ⟨rv, v, .inl ⟨by rw [eo.kindOf]; exact hk, if_pos rfl⟩⟩
    · rw [if_neg e] at hy
      obtain ⟨rv', v', hn'⟩ := hv y mv' hy
      refine ⟨rv', v', hn'.imp (fun z => ⟨z.1, (if_neg e).trans z.2⟩) ?_⟩
      rintro ⟨hk', c, hc, iv⟩
      exact ⟨hk', c, hc, iv.sameBut hs (nm.lc y c (mem_of_lookup hc))⟩
  · obtain ⟨v', iv⟩ := nm.cells y c hc
    exact ⟨v', iv.sameBut hs (nm.lc y c hc)⟩
theorem assign_tgtL {A : Around} {env : Env} {R : RR} {s : Shared} {t : Expr} {v : MV} {rv : Value} {Q : Unit → Shared → Prop} (ht : TgtL si t v σ σ') (ok : ROk n A) (eo : EnvOk si env) (hr : HRep D R mh s.heap) (nm : NamesOk D env σ R s.heap) (vr : VRep R v rv)
    (q : ∀ h' tk', Go [env.locals] R R s.heap h' → HRep D R mh h' → NamesOk D env σ' R h' → Q () { s with heap := h', toks := tk' }) :
    wpAny (model Prg D.w) A (assign t env rv) Q (fun _ _ => False) s := by
  cases ht with
  | name x p v σ hk => exact wpAny_assign_Name (store_local eo hr nm vr hk q)
  | pair x y p q' r k a b σ hx hy =>
    show wpAny _ _ (do standAt r; unpack rv [(false, assign (.Name x p) env), (false, assign (.Name y q') env)]) _ _ _
    refine wpAny_bind (wpAny_standAt ?_)
    unfold unpack
    refine wpAny_bind (wpAny_holding ?_)
    refine unpack2 ok hr vr fun ra rb h' v2 v3 k => ?_
    have g2 := Go.grow [] R k
    have hr2 := hr.grow k
    show wpAny _ _ (do holding [rb] (assign (.Name x p) env ra); holding [] (assign (.Name y q') env rb); pure ()) _ _ _
    refine wpAny_bind (wpAny_holding (wpAny_assign_Name (store_local (s := { s with heap := h' }) eo hr2 (nm.go g2) v2 hx fun h3 tk3 g3 hr3 nm3 => ?_)))
    exact wpAny_bind (wpAny_holding (wpAny_assign_Name (store_local (s := { s with heap := h3, toks := tk3 }) eo hr3 nm3 v3 hy fun h4 tk4 g4 hr4 nm4 => wpAny_pure (q h4 tk4 ((g2.weak.trans g3).trans g4) hr4 nm4))))

theorem NamesOk.but {D : WD} {env : Env} {σ : Locals} {R : RR} {h h' : Heap} (x : NamesOk D env σ R h) (k : ∀ a ∈ nameAddrs env, ∀ o, h.get? a = some o → h'.get? a = some o) : NamesOk D env σ R h' := by
  have kc : ∀ n c v, (n, c) ∈ env.cells → h.IsCell c v → h'.IsCell c v := fun n c v hc ⟨o, e, d⟩ => ⟨o, k c (List.mem_cons_of_mem _ (List.mem_map.mpr ⟨(n, c), hc, rfl⟩)) o e, d⟩
  refine ⟨?_, fun n c hc => let ⟨v, iv⟩ := x.cells n c hc; ⟨v, kc n c v hc iv⟩, x.apart, x.lc, x.na⟩
  obtain ⟨m, ⟨o, es, ep, e, r⟩, hm⟩ := x.ns
  refine ⟨m, ⟨o, es, ep, k _ List.mem_cons_self _ e, r⟩, fun y mv hy => ?_⟩
  obtain ⟨rv, hr, hn⟩ := hm y mv hy
  refine ⟨rv, hr, hn.imp id ?_⟩
  rintro ⟨hk, c, hc, iv⟩
  exact ⟨hk, c, hc, kc y c _ (mem_of_lookup hc) iv⟩
theorem capd_sub {fv : List Str} {σ : Locals} {t : Expr} {v : MV} {σ'' : Locals} {si' : SI} (ht : TgtL si' t v (capd fv σ) σ'') (hd : ∀ y ∈ fv, y ∉ tgtNames t) : ∀ y mv, (capd fv σ).lookup y = some mv → σ''.lookup y = some mv := by
  intro y mv e
  have hy : y ∈ fv := by
    have := mem_of_lookup e
    obtain ⟨z, hz, q⟩ := List.mem_filterMap.mp this
    obtain ⟨v, _, q⟩ := Option.map_eq_some_iff.mp q
    cases q; exact hz
  have hn := hd y hy
  cases ht with
  | name x p v σ hk =>
    rw [put_lookup, if_neg (fun q => hn (by simp [tgtNames, q]))]; exact e
  | pair x y' p q r k a b σ hx hy' =>
    rw [put_lookup, if_neg (fun q => hn (by simp [tgtNames, q])), put_lookup, if_neg (fun q => hn (by simp [tgtNames, q]))]; exact e

theorem ns_sameBut {h h' : Heap} {a C : Addr} {m : Str → Option Value} (x : h.Ns a m) (k : h'.get? a = h.get? a) : h'.Ns a m := by
  obtain ⟨o, es, ep, e, r⟩ := x; exact ⟨o, es, ep, k.trans e, r⟩

/-- the walk of a comprehension -/
theorem comp_core {A : Around} {env : Env} {R : RR} {s s2 : Shared} {elt tgt iter : Expr} {ifs : List Expr} {cs : Scope} {pos : Pos} {fv : List Str} {it : Value} {RRp : Value → Addr → Result → Shared → Prop} {Fin : List MV → MH → Prop}
    (ok : ROk n A) (eo : EnvOk si env) (nm : NamesOk D env σ R s.heap) (cap : Cap si cs fv) {cl : List (Str × Addr)} (hcl1 : cl.map (·.1) = fv) (hcl2 : ∀ p ∈ cl, env.cells.lookup p.1 = some p.2)
    (hkind : cs.kind = .function) (hcell : ∀ y ∈ cs.names, y.2 ≠ .cell) (hcap : ∀ x, (relS cs si.scope).names.lookup x = some .cell → x ∈ fv) (hdis : ∀ y ∈ fv, y ∉ tgtNames tgt)
    (h : Iterates D tgt (fun items src mh1 => items.length ≤ 1000 ∧ ∃ J : Nat → List MV → MH → Prop, J 0 [] mh1 ∧ (∀ i out mh', J i out mh' → src mh') ∧
      (∀ i v out mh', items[i]? = some v → J i out mh' → ∃ σ'', TgtL ⟨relS cs si.scope, si.code, si.qual⟩ tgt v (capd fv σ) σ'' ∧
        TW D n ⟨relS cs si.scope, si.code, si.qual⟩ ifs σ'' (fun b mh2 => if b = true then EW D n ⟨relS cs si.scope, si.code, si.qual⟩ elt σ'' (fun y mh3 => J (i + 1) (out ++ [y]) mh3) mh2 else J (i + 1) out mh2) mh') ∧
      (∀ out mh', J items.length out mh' → Fin out mh')) R s it s2)
    (hfin : ∀ (a C : Addr) R' mh' h' tk' out, Fin out mh' → Go [] R R' s.heap h' → HRep D R' (mh' ++ [.lst out]) h' → VRep R' (.ref mh'.length) (.ref a) → Off D R' [C] h' → s.heap.get? C = none → (∃ m, h'.Ns C m) → RRp (.ref a) C (.ok .next) { s with heap := h', toks := tk' }) :
    wpAny (model Prg D.w) A (newList []) (fun acc s₃ => wpAny (model Prg D.w) A (newFunctionEnv cs env.globals cl [] env.qual none .none (some env)) (fun cenv s₄ =>
      codeAny (model Prg D.w) A (.compStart (.ListComp elt [⟨tgt, iter, ifs, 0⟩] cs pos) 0 it acc { cenv with scope := relabel cs env }) (RRp acc cenv.locals) s₄) (fun _ _ => False) s₃) (fun _ _ => False) s2 := by
  obtain ⟨I, X, items, src, St, Mid, tg, R2, mh2, H2, tk2, rfl, rfl, g2, hr2, iT, ht, of2, nx, st2, hs2, hlen, J, hJ0, hJs, step, hend⟩ := h
  have hz2 : (H2.push (LCg.lst [])).objs.size = H2.objs.size + 1 := Heap.size_push ..
  refine wpAny_newObj_type (wpAny_newFunctionEnv hcell (by intro y hy; simp at hy) (fun h₁ hns₁ hsb₁ => ?_) hkind)
  dsimp only at hns₁ hsb₁ ⊢
  rw [show (H2.push { cls := .type "list", dict := none, data := .seq ([] : List Value).toArray }).objs.size = H2.objs.size + 1 from Heap.size_push ..] at hns₁ hsb₁ ⊢
  have old : Kept H2 h₁ := fun b o e => hsb₁.extBut b o (Nat.ne_of_lt (Nat.lt_succ_of_lt (Heap.lt_size e))) (Heap.get?_push_of_some _ (Heap.get?_push_of_some _ e))
  have hD : h₁.get? H2.objs.size = some (LCg.lst []) := hsb₁.extBut _ _ (Nat.ne_of_lt (Nat.lt_succ_self _)) (Heap.get?_push_of_some _ (Heap.get?_push_size _ rfl))
  have nD : H2.get? H2.objs.size = none := next_none _
  have nC : H2.get? (H2.objs.size + 1) = none := Heap.get?_none_of_le (Nat.le_succ _)
  have sn : ∀ {a}, H2.get? a = none → s.heap.get? a = none := fun e => none_of_there g2.there e
  generalize hCd : H2.objs.size + 1 = C at *
  generalize hDd : H2.objs.size = Dl at *
  have hCD : C ≠ Dl := by omega
  have hmsD : (Dl == sysModules) = false := by rw [← hDd]; exact hr2.msNew
  have hr1 := hr2.grow old
  have nmO := nm.go (g2.trans (Go.grow [] R2 old))
  have hCin : ∃ o, h₁.get? C = some o := by obtain ⟨o, _, _, e, _⟩ := hns₁; exact ⟨o, e⟩
  have ofD : Off D R2 [Dl] h₁ := ⟨fun a ha => by rw [List.mem_singleton.mp ha]; exact hr2.newOff nD, fun a ha => by rw [List.mem_singleton.mp ha]; exact ⟨_, hD⟩⟩
  have of1 : Off D R2 X h₁ := of2.go (Go.grow [] R2 old)
  have xin : ∀ a ∈ X, ∃ o, H2.get? a = some o := of2.isIn
  have hDX : Dl ∉ X := fun q => by obtain ⟨o, e⟩ := xin _ q; rw [nD] at e; cases e
  have hCX : C ∉ X := fun q => by obtain ⟨o, e⟩ := xin _ q; rw [nC] at e; cases e
  -- the environment of the comprehension
  let cenv : Env := compEnvC cs cl C env
  have hclE : ∀ p ∈ cl, (p.1, p.2) ∈ env.cells := fun p hp => mem_of_lookup (hcl2 p hp)
  have cin : ∀ p ∈ cl, ∃ o, s.heap.get? p.2 = some o := fun p hp => nm.lt _ (List.mem_cons_of_mem _ (List.mem_map.mpr ⟨_, hclE p hp, rfl⟩))
  have cenvNA : ∀ a ∈ nameAddrs cenv, a = C ∨ ∃ o, s.heap.get? a = some o := fun a ha => by
    rcases List.mem_cons.mp ha with rfl | ha
    · exact .inl rfl
    · obtain ⟨p, hp, rfl⟩ := List.mem_map.mp ha; exact .inr (cin p hp)
  have inH2 : ∀ a, (∃ o, s.heap.get? a = some o) → ∃ o, H2.get? a = some o := fun a ⟨o, e⟩ => g2.there a o e
  have dX : ∀ a ∈ nameAddrs cenv, a ∉ X := fun a ha q => by
    rcases cenvNA a ha with rfl | ⟨o, e⟩
    · exact hCX q
    · rw [nx a q] at e; cases e
  have dD : Dl ∉ nameAddrs cenv := fun q => by
    rcases cenvNA _ q with e | e
    · exact hCD e.symm
    · obtain ⟨o, e⟩ := inH2 _ e; rw [nD] at e; cases e
  have eo' : EnvOk ⟨relS cs si.scope, si.code, si.qual⟩ cenv := by
    refine ⟨by show relabel cs env = _; rw [relabel_relS, eo.scope], eo.code, eo.qual, eo.globals, eo.builtins, hkind, fun x hx => ?_⟩
    have hx' := hcap x hx
    rw [← hcl1] at hx'
    obtain ⟨p, hp, rfl⟩ := List.mem_map.mp hx'
    show ∃ c, cl.lookup p.1 = some c
    cases hl : cl.lookup p.1 with
    | some c => exact ⟨c, rfl⟩
    | none =>
      have := List.lookup_eq_none_iff.mp hl p hp
      simp at this
  have nm1 : NamesOk D cenv (capd fv σ) R2 h₁ := by
    refine ⟨⟨_, hns₁, fun y mv hy => ?_⟩, fun y c hc => ?_, ?_, fun y c hc => ?_, fun a ha => ?_⟩
    · obtain ⟨m, hm, hv⟩ := nmO.ns
      cases cap with
      | nil => simp [capd] at hy
      | one x h1 h2 h3 =>
        have hyx : y = x ∧ σ.lookup x = some mv := by
          cases hl : σ.lookup x with
          | none => simp [capd, hl] at hy
          | some v0 =>
            simp [capd, hl, List.lookup_cons] at hy
            cases hq : y == x with
            | true => rw [hq] at hy; exact ⟨beq_iff_eq.mp hq, by simpa using hy⟩
            | false => rw [hq] at hy; simp at hy
        obtain ⟨rfl, hl⟩ := hyx
        obtain ⟨rv, vr, hn⟩ := hv y mv hl
        rcases hn with ⟨hk, _⟩ | ⟨_, c, hc, iv⟩
        · rw [eo.kindOf, h2] at hk; cases hk
        · refine ⟨rv, vr, .inr ⟨.inl ?_, c, ?_, iv⟩⟩
          · rw [eo'.kindOf]; exact h1
          · show cl.lookup y = some c
            match cl, hcl1, hcl2 with
            | [p], e1, e2 =>
              simp at e1
              have := e2 p List.mem_cons_self
              rw [e1, hc] at this
              cases this
              obtain ⟨p1, p2⟩ := p
              have e1' : p1 = y := e1
              rw [← e1']
              simp [List.lookup_cons]
    · obtain ⟨v, iv⟩ := nmO.cells y c (hclE (y, c) hc); exact ⟨v, iv⟩
    · show cl.Pairwise _
      cases cap with
      | nil => have : cl = [] := by simpa using hcl1
               rw [this]; exact .nil
      | one x => match cl, hcl1 with
                 | [p], _ => exact List.pairwise_singleton ..
    · show c ≠ C
      rintro rfl
      obtain ⟨o, e⟩ := inH2 _ (cin _ hc)
      rw [nC] at e; cases e
    · rcases List.mem_cons.mp ha with rfl | ha
      · exact hr2.newOff nC
      · obtain ⟨p, hp, rfl⟩ := List.mem_map.mp ha
        exact nmO.na _ (List.mem_cons_of_mem _ (List.mem_map.mpr ⟨_, hclE p hp, rfl⟩))
  have loop : codeAny (model Prg D.w) A (.compLoop (.ListComp elt [⟨tgt, iter, ifs, 0⟩] cs pos) 0 (.ref I) (.ref Dl) cenv) (RRp (.ref Dl) C) { s with heap := h₁, toks := tk2 + ([] : List (Str × Value)).length } := by
    refine codeAny_loop rfl (fun k s' => ∃ i out ys R' mh' h' tk', s' = { s with heap := h', toks := tk' } ∧ i ≤ items.length ∧ k = items.length + 1 - i ∧ ys.length ≤ i ∧ Go (X ++ [C, Dl]) R R' s.heap h' ∧ HRep D R' mh' h' ∧ Off D R' X h' ∧ Off D R' [Dl] h' ∧ St i R' h' ∧
        NamesOk D cenv (capd fv σ) R' h' ∧ h'.get? Dl = some (LCg.lst ys) ∧ VReps R' out ys ∧ J i out mh') ?_ (items.length + 1)
      ⟨0, [], [], R2, mh2, h₁, _, rfl, Nat.zero_le _, rfl, Nat.le_refl _, (g2.trans (Go.grow [] R2 old)).wide (by simp), hr1, of1, ofD, iT.frame _ _ _ _ _ st2 (RLe.refl _) (fun b hb o e => old b o e), nm1, hD, .nil, hJ0⟩
    rintro k s' ⟨i, out, ys, R3, mh3, H3, tk3, rfl, hi, rfl, hyl, g3, hr3, of3, oD3, st3, nm3, hD3, vs3, hJ⟩
    show wpAny _ A ((compTurn (.ListComp elt [⟨tgt, iter, ifs, 0⟩] cs pos) 0 (.ref I) (.ref Dl) cenv).onRaise (fun x => do noteFrame x cenv; theTreesLotGoes x)) _ _ _
    refine wpAny_noted (wpAny_mono (E := fun _ _ => False) ?_ (fun _ _ z => z) fun _ _ f => f.elim)
    rw [compTurn_list]
    by_cases hlt : i < items.length
    · have hv : items[i]? = some items[i] := List.getElem?_eq_getElem hlt
      obtain ⟨σ4, htg, hb⟩ := step i _ out mh3 hv hJ
      refine wpAny_bind (wpAny_standAt (wpAny_bind (wpAny_mono (iT.item i R3 mh3 A { s with heap := H3, toks := tk3 } _ ok.handled hr3 (hJs _ _ _ hJ) st3 of3 hv) (fun r s4 z => ?_) fun _ _ f => f.elim)))
      obtain ⟨rv, R4, H4, tk4, rfl, rfl, g4, hr4, v4, md⟩ := z
      have of4 := of3.go g4
      refine wpAny_bind (wpAny_mono (iT.go tgt i R4 mh3 A { s with heap := H4, toks := tk4 } _ rv ok.handled ht hr4 (hJs _ _ _ hJ) of4 hv v4 md) (fun _ s5 z => ?_) fun _ _ f => f.elim)
      obtain ⟨H5, rfl, g5, hr5, st5⟩ := z
      have of5 := of4.go g5
      have g35 : Go X R3 R4 H3 H5 := g4.trans g5
      have nm5 := nm3.goX g35 dX
      have hD5 : H5.get? Dl = some (LCg.lst ys) := (oD3.keep g35 (fun a ha => by rw [List.mem_singleton.mp ha]; exact hDX)) Dl List.mem_cons_self _ hD3
      have oD5 := oD3.go g35
      refine wpAny_bind (wpAny_mono (assign_tgtL (s := { s with heap := H5, toks := tk4 }) (Q := fun _ s6 => ∃ H6 tk6, s6 = { s with heap := H6, toks := tk6 } ∧ Go [C] R4 R4 H5 H6 ∧ HRep D R4 mh3 H6 ∧ NamesOk D cenv σ4 R4 H6) htg ok eo' hr5 nm5 v4 fun H6 tk6 g6 hr6 nm6 => ⟨H6, tk6, rfl, g6, hr6, nm6⟩) (fun _ s6 z => ?_) fun _ _ f => f.elim)
      obtain ⟨H6, tk6, rfl, g6, hr6, nm6⟩ := z
      have dC : ∀ a ∈ X, a ∉ [C] := fun a ha q => hCX (List.mem_singleton.mp q ▸ ha)
      have dDC : ∀ a ∈ [Dl], a ∉ [C] := fun a ha q => hCD ((List.mem_singleton.mp q).symm.trans (List.mem_singleton.mp ha))
      have of6 := of5.go g6
      have st6 : St (i + 1) R4 H6 := iT.frame _ _ _ _ _ st5 (RLe.refl _) (of5.keep g6 dC)
      have hD6 := oD5.keep g6 dDC Dl List.mem_cons_self _ hD5
      have oD6 := oD5.go g6
      have vs6 := vs3.mono (g35.le.trans g6.le)
      have g06 : Go (X ++ [C, Dl]) R R4 s.heap H6 := (g3.trans (g35.wide fun a ha => List.mem_append_left _ ha)).trans (g6.wide fun a ha => List.mem_append_right _ (by simp at ha; simp [ha]))
      -- tests
      have tests : wpAny (model Prg D.w) A (forIn ifs true fun c r => if r = true then do let ok ← isTrue c cenv (eval c cenv); pure (ForInStep.yield ok) else pure (ForInStep.yield r))
          (BPost D R4 { s with heap := H6, toks := tk6 } (fun b mh2 => if b = true then EW D n ⟨relS cs si.scope, si.code, si.qual⟩ elt σ4 (fun y mh3 => J (i + 1) (out ++ [y]) mh3) mh2 else J (i + 1) out mh2)) (fun _ _ => False) { s with heap := H6, toks := tk6 } := by
        match ifs, hb with
        | [], hb => exact wpAny_tests_nil ⟨R4, mh3, H6, tk6, rfl, Go.refl _ _ _, hr6, hb⟩
        | [c], hb => exact wpAny_tests_one (hb A cenv R4 _ ok eo' hr6 nm6)
        | _ :: _ :: _, hb => exact hb.elim
      refine wpAny_bind (wpAny_mono tests (fun b s7 z => ?_) fun _ _ f => f.elim)
      obtain ⟨R7, mh7, H7, tk7, rfl, g7, hr7, q7⟩ := z
      have nm7 := nm6.go g7
      have of7 := of6.go g7
      have st7 : St (i + 1) R7 H7 := iT.frame _ _ _ _ _ st6 g7.le (of6.keep g7 (by simp))
      have hD7 := oD6.keep g7 (by simp) Dl List.mem_cons_self _ hD6
      have oD7 := oD6.go g7
      have vs7 := vs6.mono g7.le
      have g07 : Go (X ++ [C, Dl]) R R7 s.heap H7 := g06.trans (g7.wide (by simp))
      cases b with
      | false =>
        simp only [Bool.false_eq_true, if_false] at q7
        exact wpAny_pure ⟨rfl, items.length + 1 - (i + 1), by omega, i + 1, out, ys, R7, mh7, H7, tk7, rfl, hlt, rfl, by omega, g07, hr7, of7, oD7, st7, nm7.sub (capd_sub htg hdis), hD7, vs7, q7⟩
      | true =>
        simp only [if_true] at q7
        refine wpAny_bind (wpAny_bind (wpAny_mono (q7 A cenv R7 { s with heap := H7, toks := tk7 } ok eo' hr7 nm7) (fun y s8 z => ?_) fun _ _ f => f.elim))
        obtain ⟨R8, mh8, vy, H8, tk8, rfl, g8, hr8, v8, q8⟩ := z
        have nm8 := nm7.go g8
        have of8 := of7.go g8
        have st8 : St (i + 1) R8 H8 := iT.frame _ _ _ _ _ st7 g8.le (of7.keep g8 (by simp))
        have hD8 := oD7.keep g8 (by simp) Dl List.mem_cons_self _ hD7
        have oD8 := oD7.go g8
        have vs8 := vs7.mono g8.le
        have g08 : Go (X ++ [C, Dl]) R R8 s.heap H8 := g07.trans (g8.wide (by simp))
        refine wpAny_bind (append_at (hsz := by show ys.toArray.size ≤ sizeLine; rw [List.size_toArray, sizeLine_eq]; omega) (s := { s with heap := H8, toks := tk8 }) hD8 fun H9 sb9 hD9 => ?_)
        have k9 : ∀ b o, b ∉ [Dl] → H8.get? b = some o → H9.get? b = some o := fun b o hb e => sb9.extBut b o (by simpa using hb) e
        have g9 : Go [Dl] R8 R8 H8 H9 := Go.but oD8 k9 fun a ha => by rw [List.mem_singleton.mp ha]; exact ⟨_, hD9⟩
        have hr9 := hr8.but oD8 k9
        have dd : ∀ a ∈ nameAddrs cenv, a ∉ [Dl] := fun a ha q => dD (List.mem_singleton.mp q ▸ ha)
        have dx : ∀ a ∈ X, a ∉ [Dl] := fun a ha q => hDX (List.mem_singleton.mp q ▸ ha)
        refine wpAny_pure (wpAny_pure ⟨rfl, items.length + 1 - (i + 1), by omega, i + 1, out ++ [vy], ys ++ [y], R8, mh8, H9, tk8, rfl, hlt, rfl, by rw [List.length_append, List.length_singleton]; omega, g08.trans (g9.wide fun a ha => List.mem_append_right _ (by simp at ha; simp [ha])), hr9, of8.go g9, oD8.go g9, iT.frame _ _ _ _ _ st8 (RLe.refl _) (of8.keep g9 dx),
          (nm8.goX g9 dd).sub (capd_sub htg hdis), hD9.trans (congrArg some (LCg.lst_snoc ys y)), vs8.append (.one v8), q8⟩)
    · obtain rfl : i = items.length := Nat.le_antisymm hi (Nat.not_lt.mp hlt)
      refine wpAny_bind (wpAny_standAt (wpAny_bind (wpAny_mono (iT.done R3 mh3 A { s with heap := H3, toks := tk3 } ok.handled hr3 (hJs _ _ _ hJ) st3 of3) (fun r s4 z => ?_) fun _ _ f => f.elim)))
      obtain ⟨H4, tk4, rfl, rfl, k4⟩ := z
      refine wpAny_pure ?_
      have hr4 := hr3.but of3 k4
      have hD4 := k4 Dl _ hDX hD3
      have oC3 : Off D R3 [C] H3 := ⟨fun a ha => by rw [List.mem_singleton.mp ha]; exact nm3.na C List.mem_cons_self, fun a ha => by rw [List.mem_singleton.mp ha]; exact nm3.lt C List.mem_cons_self⟩
      have gl : Go [C, Dl] R R3 s.heap H4 := g3.last nx k4
      have gl2 : Go [] R R3 s.heap H4 := gl.drop fun a ha => .inr (by
        rcases List.mem_cons.mp ha with rfl | ha
        · exact sn nC
        · rw [List.mem_singleton.mp ha]; exact sn nD)
      have le := RLe.snoc R3 Dl
      have od := oD3.off Dl List.mem_cons_self
      have hr5 : HRep D ⟨R3.ρ ++ [Dl], R3.ι⟩ (mh3 ++ [.lst out]) H4 := hr4.adopt (o := .lst out) od hmsD hD4 ⟨ys, ys.length, rfl, vs3.mono le⟩
      have go5 : Go [] R ⟨R3.ρ ++ [Dl], R3.ι⟩ s.heap H4 := ⟨gl2.le.trans le, gl2.there, gl2.keep, fun a ha => (List.mem_append.mp ha).elim (gl2.fresh a) fun q => .inr (by rw [List.mem_singleton.mp q]; exact sn nD), gl2.freshi⟩
      have nmC : ∃ m, H4.Ns C m := by
        obtain ⟨m, ⟨o, es, ep, e, r⟩, _⟩ := nm3.ns
        exact ⟨m, o, es, ep, k4 _ _ hCX e, r⟩
      refine hfin Dl C ⟨R3.ρ ++ [Dl], R3.ι⟩ mh3 H4 tk4 out (hend out mh3 hJ) go5 hr5 (.ref (snoc_get R3 _ hr3.len)) ⟨fun a ha => ?_, fun a ha => ?_⟩ (sn nC) nmC
      · rw [List.mem_singleton.mp ha]
        obtain ⟨o1, o2, o3, o4⟩ := oC3.off C List.mem_cons_self
        exact ⟨o1, fun q => (List.mem_append.mp q).elim o2 fun q => hCD (List.mem_singleton.mp q), o3, o4⟩
      · rw [List.mem_singleton.mp ha]
        obtain ⟨m, ⟨o, es, ep, e, r⟩⟩ := nmC; exact ⟨o, e⟩
  exact codeAny_compStart_list loop (wpAny_mono (iT.self 0 R2 A _ (iT.frame _ _ _ _ _ st2 (RLe.refl _) (fun b hb o e => old b o e))) (fun r s' ⟨e1, e2⟩ => by rw [e1, e2]; exact loop) fun _ _ f => f.elim)

/-- the step of a comprehension -/
noncomputable def CompW (D : WD) (n : Nat) (si' : SI) (elt tgt : Expr) (ifs : List Expr) (σc : Locals) (Fin : List MV → MH → Prop) (items : List MV) (src : MH → Prop) (mh : MH) : Prop :=
  items.length ≤ 1000 ∧ ∃ J : Nat → List MV → MH → Prop, J 0 [] mh ∧ (∀ i out mh', J i out mh' → src mh') ∧
      (∀ i v out mh', items[i]? = some v → J i out mh' → ∃ σ'', TgtL si' tgt v σc σ'' ∧
        TW D n si' ifs σ'' (fun b mh2 => if b = true then EW D n si' elt σ'' (fun y mh3 => J (i + 1) (out ++ [y]) mh3) mh2 else J (i + 1) out mh2) mh') ∧
      (∀ out mh', J items.length out mh' → Fin out mh')

theorem cells_of {fv : List Str} {cs : Scope} {env : Env} (cap : Cap si cs fv) (eo : EnvOk si env) : ∃ cl : List (Str × Addr), cl.map (·.1) = fv ∧ (∀ p ∈ cl, env.cells.lookup p.1 = some p.2) ∧ closureFor cs env = pure cl := by
  cases cap with
  | nil h => exact ⟨[], rfl, fun p hp => (nomatch hp), h env⟩
  | one x h1 h2 h =>
    obtain ⟨c, hc⟩ := eo.cells x h2
    exact ⟨[(x, c)], rfl, fun p hp => by rw [List.mem_singleton.mp hp]; exact hc, h env c hc⟩

theorem EW_comp {elt tgt iter : Expr} {ifs : List Expr} {cs : Scope} {pos : Pos} {Q : MV → MH → Prop} (fv : List Str) (cap : Cap si cs fv)
    (h : FW D n si iter tgt σ (CompW D n ⟨relS cs si.scope, si.code, si.qual⟩ elt tgt ifs (capd fv σ) (fun out mh' => Q (.ref mh'.length) (mh' ++ [.lst out]))) mh)
    (hkind : cs.kind = .function := by with_unfolding_all rfl) (hcell : ∀ y ∈ cs.names, y.2 ≠ .cell := by decide) (hcap : ∀ y ∈ (relS cs si.scope).names, y.2 = .cell → y.1 ∈ fv := by decide) (hdis : ∀ y ∈ fv, y ∉ tgtNames tgt := by decide)
    (hnames : ∀ y ∈ cs.names, y.2 = .local → cs.names.lookup y.1 = some .local := by decide)
    (hs : ∀ env x, foldedSetIterable iter env x = pure x := by intros; with_unfolding_all rfl) : EW D n si (.ListComp elt [⟨tgt, iter, ifs, 0⟩] cs pos) σ Q mh := by
  intro A env R s ok eo hr nm
  obtain ⟨cl, hcl1, hcl2, hcl3⟩ := cells_of cap eo
  rw [eval_ListComp]
  refine wpAny_comprehension_free (use := none) rfl (hs env) hcl3 hkind hnames (wpAny_mono (h A env R s ok eo hr nm) (fun xv s₁ h₁ => wpAny_mono (h₁ A ok.handled) (fun it s₂ h₂ => ?_) fun _ _ e => e) fun _ _ e => e)
  refine comp_core (RRp := fun acc C => compPost (model Prg D.w) A (fun _ _ => False) none (VPost D R s Q) acc C) ok eo nm cap hcl1 hcl2 hkind hcell (fun x hx => hcap (x, .cell) (mem_of_lookup hx) rfl) hdis h₂ ?_
  rintro a C R' mh' h' tk' out hQ g hr' v ofC hC ⟨m, hm⟩
  refine ⟨m, hm, fun h'' hs'' => ?_⟩
  have k : ∀ b o, b ∉ [C] → h'.get? b = some o → h''.get? b = some o := fun b o hb e => hs''.extBut b o (by simpa using hb) e
  exact ⟨R', _, _, h'', tk', rfl, (g.wide (Y := [C] ++ []) (by simp)).last (fun b hb => by rw [List.mem_singleton.mp hb]; exact hC) k, hr'.but ofC k, v, hQ⟩

/-- a comprehension stored at once to a plain name -/
theorem XW_assign_comp {x : Str} {p' : Pos} {elt tgt iter : Expr} {ifs : List Expr} {cs : Scope} {pos pos' : Pos} {QN : Locals → MH → Prop} {QR : MV → MH → Prop} (fv : List Str) (cap : Cap si cs fv)
    (h : FW D n si iter tgt σ (CompW D n ⟨relS cs si.scope, si.code, si.qual⟩ elt tgt ifs (capd fv σ) (fun out mh' => QN (put σ x (.ref mh'.length)) (mh' ++ [.lst out]))) mh)
    (hk : si.scope.names.lookup x = some .local := by with_unfolding_all rfl)
    (hsw : ∀ env : Env, env.scope = si.scope → swapsWith (.ListComp elt [⟨tgt, iter, ifs, 0⟩] cs pos') (some (.Name x p')) pos.line env = pure true := by intro e h; cases e; subst h; with_unfolding_all rfl)
    (hkind : cs.kind = .function := by with_unfolding_all rfl) (hcell : ∀ y ∈ cs.names, y.2 ≠ .cell := by decide) (hcap : ∀ y ∈ (relS cs si.scope).names, y.2 = .cell → y.1 ∈ fv := by decide) (hdis : ∀ y ∈ fv, y ∉ tgtNames tgt := by decide)
    (hnames : ∀ y ∈ cs.names, y.2 = .local → cs.names.lookup y.1 = some .local := by decide)
    (hs : ∀ env x, foldedSetIterable iter env x = pure x := by intros; with_unfolding_all rfl) : XW D n si (.Assign [.Name x p'] (.ListComp elt [⟨tgt, iter, ifs, 0⟩] cs pos') pos) σ QN QR mh := by
  intro A env R s ok eo hr nm
  obtain ⟨cl, hcl1, hcl2, hcl3⟩ := cells_of cap eo
  rw [exec_Assign_Name_used x p' _ pos (hsw env eo.scope)]
  refine wpAny_bind (wpAny_standAt (wpAny_bind ?_))
  rw [arm_evalThenUse_ListComp]
  refine wpAny_bind ?_
  refine wpAny_mono (Q := fun _ s' => SPost D env R s QN QR .next s') ?_ (fun _ _ z => wpAny_pure (wpAny_pure z)) fun _ _ f => f
  refine wpAny_comprehension_free (use := some (assign (.Name x p') env)) (Q := fun _ s' => SPost D env R s QN QR .next s') (e := .ListComp elt [⟨tgt, iter, ifs, 0⟩] cs pos') (g := ⟨tgt, iter, ifs, 0⟩) (gs := []) rfl (hs env) hcl3 hkind hnames (wpAny_mono (h A env R s ok eo hr nm) (fun xv s₁ h₁ => wpAny_mono (h₁ A ok.handled) (fun it s₂ h₂ => ?_) fun _ _ e => e) fun _ _ e => e)
  refine comp_core (RRp := fun acc C => compPost (model Prg D.w) A (fun _ _ => False) _ (fun _ s' => SPost D env R s QN QR .next s') acc C) ok eo nm cap hcl1 hcl2 hkind hcell (fun x hx => hcap (x, .cell) (mem_of_lookup hx) rfl) hdis h₂ ?_
  rintro a C R' mh' h' tk' out hQ g hr' v ofC hC ⟨m, hm⟩
  have dC : C ∉ nameAddrs env := fun q => by obtain ⟨o, e⟩ := nm.lt C q; rw [hC] at e; cases e
  refine wpAny_assign_Name (store_name (s := { s with heap := h', toks := tk' }) eo hr' (nm.go g) v (.inl hk) fun h2 tk2 g2 hr2 nm2 => ?_)
  have ofC2 := ofC.go g2
  have hm2 : h2.Ns C m := hm.at' fun o e => ofC.keep g2 (fun a ha => by rw [List.mem_singleton.mp ha]; exact dC) C List.mem_cons_self o e
  refine ⟨m, hm2, fun h'' hs'' => ?_⟩
  have k : ∀ b o, b ∉ [C] → h2.get? b = some o → h''.get? b = some o := fun b o hb e => hs''.extBut b o (by simpa using hb) e
  refine ⟨R', _, h'', tk2, rfl, ((g.weak.trans g2).wide (Y := [C] ++ nameAddrs env) (fun a ha => List.mem_append_right _ ha)).last (fun b hb => by rw [List.mem_singleton.mp hb]; exact hC) k, hr2.but ofC2 k, _, nm2.but fun a ha o e => k a o (fun q => dC (List.mem_singleton.mp q ▸ ha)) e, hQ⟩
end
end Mine

namespace Mine
section
variable {D : WD} {n : Nat} {si : SI} {σ : Locals} {mh : MH}

/-! numbers, strings -/
theorem OW_add {a b : Int} {Q : MV → MH → Prop} (q : Q (.int (a + b)) mh) : OW2 D n (binaryOp .Add) (.int a) (.int b) Q mh := by
  intro A R s ra rb ok hr va vb; cases va; cases vb; exact add_int (VPost.now hr (.int _ _) q)
theorem OW_sub {a b : Int} {Q : MV → MH → Prop} (q : Q (.int (a - b)) mh) : OW2 D n (binaryOp .Sub) (.int a) (.int b) Q mh := by
  intro A R s ra rb ok hr va vb; cases va; cases vb; exact sub_int (VPost.now hr (.int _ _) q)
theorem OW_mul {a b : Int} {Q : MV → MH → Prop} (hm : IntMulOk a b) (q : Q (.int (a * b)) mh) : OW2 D n (binaryOp .Mult) (.int a) (.int b) Q mh := by
  intro A R s ra rb ok hr va vb; cases va; cases vb; exact mul_int (VPost.now hr (.int _ _) q) hm
theorem OW_floordiv {a b : Int} {Q : MV → MH → Prop} (hb : b ≠ 0) (hd : Builtin.divisionGoesByPylong a b = false) (q : Q (.int (a.fdiv b)) mh) : OW2 D n (binaryOp .FloorDiv) (.int a) (.int b) Q mh := by
  intro A R s ra rb ok hr va vb; cases va; cases vb; exact floordiv_int hb (VPost.now hr (.int _ _) q) (.inl hd)
theorem OW_mod {a b : Int} {Q : MV → MH → Prop} (hb : b ≠ 0) (q : Q (.int (a.fmod b)) mh) : OW2 D n (binaryOp .Mod) (.int a) (.int b) Q mh := by
  intro A R s ra rb ok hr va vb; cases va; cases vb; exact mod_int' hb (VPost.now hr (.int _ _) q)
theorem EW_neg {e : Expr} {pos : Pos} {Q : MV → MH → Prop} (h : EW D n si e σ (fun v mh' => ∃ a, v = .int a ∧ Q (.int (-a)) mh') mh) : EW D n si (.UnaryOp .USub e pos) σ Q mh := by
  intro A env R s ok eo hr nm
  refine wpAny_UnaryOp (wpAny_mono (h A env R s ok eo hr nm) (fun ra s1 h1 => ?_) fun _ _ f => f)
  obtain ⟨R1, mh1, va, H1, tk1, rfl, g1, hr1, v1, a, rfl, q1⟩ := h1
  cases v1
  exact neg_int (VPost.after g1 (VPost.now (s := { s with heap := H1, toks := tk1 }) hr1 (.int _ _) q1))
theorem OW_add_str {x y : Str} {Q : MV → MH → Prop} (hz : x.length + y.length ≤ sizeLine) (q : Q (.str (x ++ y)) mh) : OW2 D n (binaryOp .Add) (.str x) (.str y) Q mh := by
  intro A R s ra rb ok hr va vb; cases va; cases vb; exact add_str (fun t' tk => VPost.now hr (.str _ _) q) hz

/-! tests -/
theorem OW_lt {a b : Int} {Q : Bool → MH → Prop} (q : Q (decide (a < b)) mh) : OW2 D n (compareOp .Lt) (.int a) (.int b) (asBool Q) mh := by
  intro A R s ra rb ok hr va vb; cases va; cases vb; exact lt_int (VPost.now' hr (.bool _) q)
theorem OW_gt {a b : Int} {Q : Bool → MH → Prop} (q : Q (decide (b < a)) mh) : OW2 D n (compareOp .Gt) (.int a) (.int b) (asBool Q) mh := by
  intro A R s ra rb ok hr va vb; cases va; cases vb; exact gt_int (VPost.now' hr (.bool _) q)
theorem OW_ge {a b : Int} {Q : Bool → MH → Prop} (q : Q (decide (b ≤ a)) mh) : OW2 D n (compareOp .GtE) (.int a) (.int b) (asBool Q) mh := by
  intro A R s ra rb ok hr va vb; cases va; cases vb; exact ge_int (VPost.now' hr (.bool _) q)
theorem OW_eq {a b : Int} {Q : Bool → MH → Prop} (q : Q (a == b) mh) : OW2 D n (compareOp .Eq) (.int a) (.int b) (asBool Q) mh := by
  intro A R s ra rb ok hr va vb; cases va; cases vb; exact eq_int (VPost.now' hr (.bool _) q)
theorem OW_ne {a b : Int} {Q : Bool → MH → Prop} (q : Q (a != b) mh) : OW2 D n (compareOp .NotEq) (.int a) (.int b) (asBool Q) mh := by
  intro A R s ra rb ok hr va vb; cases va; cases vb; exact ne_int (VPost.now' hr (.bool _) q)
theorem OW_eq_str {a b : Str} {Q : Bool → MH → Prop} (q : Q (a == b) mh) : OW2 D n (compareOp .Eq) (.str a) (.str b) (asBool Q) mh := by
  intro A R s ra rb ok hr va vb; cases va; cases vb; exact eq_str (VPost.now' hr (.bool _) q)
theorem OW_ne_str {a b : Str} {Q : Bool → MH → Prop} (q : Q (a != b) mh) : OW2 D n (compareOp .NotEq) (.str a) (.str b) (asBool Q) mh := by
  intro A R s ra rb ok hr va vb; cases va; cases vb; exact ne_str (VPost.now' hr (.bool _) q)
noncomputable def MV.isNone : MV → Bool
  | .none => true
  | _ => false
theorem VRep.none_iff {R : RR} {v : MV} {rv : Value} (h : VRep R v rv) : (rv == Value.none) = v.isNone := by
  cases h <;> rfl
theorem OW_is_none {a : MV} {Q : Bool → MH → Prop} (q : Q a.isNone mh) : OW2 D n (compareOp .Is) a .none (asBool Q) mh := by
  intro A R s ra rb ok hr va vb; cases vb
  exact is_none (by rw [va.none_iff]; exact VPost.now' hr (.bool _) q)
theorem OW_isNot_none {a : MV} {Q : Bool → MH → Prop} (q : Q (!a.isNone) mh) : OW2 D n (compareOp .IsNot) a .none (asBool Q) mh := by
  intro A R s ra rb ok hr va vb; cases vb
  exact isNot_none (by rw [va.none_iff]; exact VPost.now' hr (.bool _) q)
/-- a comparison as a value -/
theorem EW_cmpB {l r : Expr} {op : CmpOp} {pos : Pos} {Q : MV → MH → Prop} (h : EW D n si l σ (fun a mh' => EW D n si r σ (fun b mh'' => OW2 D n (compareOp op) a b (asBool fun b m => Q (.bool b) m) mh'') mh') mh)
    (hm : behindInMarks op r = false := by with_unfolding_all rfl) : EW D n si (.Compare l [op] [r] pos) σ Q mh := by
  refine EW_cmp (EW.mono h fun a mh1 h1 => EW.mono h1 fun b mh2 h2 => ?_) hm
  intro A R s ra rb ok hr va vb
  refine wpAny_mono (h2 A R s ra rb ok hr va vb) (fun rv s' z => ?_) fun _ _ f => f
  obtain ⟨R', mh', mv, h', tk', rfl, g, hr', v, q⟩ := z
  cases mv <;> first | exact q.elim | exact ⟨R', mh', _, h', tk', rfl, g, hr', v, q⟩

/-! lists -/
theorem VReps.size {R : RR} {vs : List MV} {rvs : List Value} (h : VReps R vs rvs) : rvs.toArray.size = vs.length := by rw [List.size_toArray, h.length]
theorem OW_add_list {i j : Nat} {vs ws : List MV} {Q : MV → MH → Prop} (hi : mh[i]? = some (.lst vs)) (hj : mh[j]? = some (.lst ws)) (hz : vs.length + ws.length ≤ 1000) (q : Q (.ref mh.length) (mh ++ [.lst (vs ++ ws)])) : OW2 D n (binaryOp .Add) (.ref i) (.ref j) Q mh := by
  intro A R s ra rb ok hr va vb
  cases va with | ref ha =>
  cases vb with | ref hb =>
  obtain ⟨rvs, k, e, v⟩ := hr.list hi ha
  obtain ⟨rws, k', e', v'⟩ := hr.list hj hb
  refine P.add_list e e' ?_ (by rw [v.size, v'.size, sizeLine_eq]; omega)
  have hk := Kept.push s.heap { cls := .type "list", data := .seq (rvs.toArray ++ rws.toArray) }
  exact ⟨⟨R.ρ ++ [s.heap.objs.size], R.ι⟩, _, _, _, s.toks, rfl, Go.alloc [] hk (next_none _), hr.alloc (o := .lst (vs ++ ws)) hk (Heap.get?_push_size _ rfl) ⟨rvs ++ rws, 0, by simp [lstObj], (v.append v').mono (RLe.snoc _ _)⟩, .ref (snoc_get R _ hr.len), q⟩
theorem OW_getItem {i : Nat} {k : Int} {vs : List MV} {v : MV} {Q : MV → MH → Prop} (hi : mh[i]? = some (.lst vs)) (h0 : 0 ≤ k) (hv : vs[k.toNat]? = some v) (hz : vs.length ≤ 1000) (q : Q v mh) : OW2 D n getItem (.ref i) (.int k) Q mh := by
  intro A R s ra rb ok hr va vb
  cases va with | ref ha =>
  cases vb
  obtain ⟨rvs, c, e, vr⟩ := hr.list hi ha
  obtain ⟨rv, hrv, vv⟩ := vr.get hv
  have hlt := (List.getElem?_eq_some_iff.mp hv).1
  exact wpAny_getItem_list (lst_is e) h0 (by omega) (by simpa using hrv) (VPost.now' hr vv q)
theorem OW_getItem_tup {k : Int} {vs : List MV} {v : MV} {Q : MV → MH → Prop} (h0 : 0 ≤ k) (hv : vs[k.toNat]? = some v) (hz : k ≤ 1000) (q : Q v mh) : OW2 D n getItem (.tup vs) (.int k) Q mh := by
  intro A R s ra rb ok hr va vb
  cases va with | @tup a rvs c _ hm vr =>
  cases vb
  obtain ⟨rv, hrv, vv⟩ := vr.get hv
  have hlt := (List.getElem?_eq_some_iff.mp hrv).1
  refine getItem_tuple (items := rvs.toArray) ⟨_, hr.imm _ hm, rfl, c, rfl⟩ (by omega) (by omega) (j := k.toNat) ?_ (by simpa using hrv) (VPost.now' hr vv q)
  unfold seqIndex?
  rw [List.size_toArray]
  simp only [show ¬ k < 0 from by omega, if_false]
  have hlt' : k < (rvs.length : Int) := by omega
  simp [h0, hlt']

/-! dicts -/
noncomputable def dput {κ : Type} [DecidableEq κ] (kvs : List (κ × MV)) (k : κ) (v : MV) : List (κ × MV) :=
  if kvs.any (fun kv => kv.1 = k) then kvs.map (fun kv => if kv.1 = k then (kv.1, v) else kv) else kvs ++ [(k, v)]
theorem dput_new {κ : Type} [DecidableEq κ] {kvs : List (κ × MV)} {k : κ} {v : MV} (h : k ∉ kvs.map (·.1)) : dput kvs k v = kvs ++ [(k, v)] := by
  unfold dput
  rw [if_neg]
  simp only [List.any_eq_true, decide_eq_true_eq, not_exists, not_and]
  rintro p hp rfl
  exact h (List.mem_map.mpr ⟨p, hp, rfl⟩)
theorem dput_old {κ : Type} [DecidableEq κ] {kvs : List (κ × MV)} {k : κ} {v : MV} (h : k ∈ kvs.map (·.1)) : dput kvs k v = kvs.map (fun kv => if kv.1 = k then (kv.1, v) else kv) := by
  unfold dput
  rw [if_pos]
  simp only [List.any_eq_true, decide_eq_true_eq]
  obtain ⟨p, hp, e⟩ := List.mem_map.mp h
  exact ⟨p, hp, e⟩
noncomputable def dget {κ : Type} [DecidableEq κ] (kvs : List (κ × MV)) (k : κ) : Option MV := (kvs.find? fun kv => kv.1 = k).map (·.2)
theorem dget_none {κ : Type} [DecidableEq κ] {kvs : List (κ × MV)} {k : κ} : dget kvs k = none ↔ k ∉ kvs.map (·.1) := by
  unfold dget
  rw [Option.map_eq_none_iff, List.find?_eq_none]
  simp only [decide_eq_true_eq, List.mem_map, not_exists, not_and]
theorem dget_append {κ : Type} [DecidableEq κ] {kvs : List (κ × MV)} {k y : κ} {v : MV} (h : k ∉ kvs.map (·.1)) : dget (kvs ++ [(k, v)]) y = if y = k then some v else dget kvs y := by
  unfold dget
  rw [List.find?_append]
  by_cases e : y = k
  · subst e
    have : kvs.find? (fun kv => decide (kv.1 = y)) = none := by
      rw [List.find?_eq_none]; intro p hp; simp only [decide_eq_true_eq]; rintro rfl; exact h (List.mem_map.mpr ⟨p, hp, rfl⟩)
    simp [this]
  · rw [if_neg e]
    have : [(k, v)].find? (fun kv => decide (kv.1 = y)) = none := by simp [Ne.symm e]
    rw [this, Option.or_none]
theorem dget_put {κ : Type} [DecidableEq κ] (kvs : List (κ × MV)) (k y : κ) (v : MV) : dget (dput kvs k v) y = if y = k then some v else dget kvs y := by
  by_cases h : k ∈ kvs.map (·.1)
  · rw [dput_old h]
    unfold dget
    induction kvs with
    | nil => simp at h
    | cons p r ih =>
      obtain ⟨a, b⟩ := p
      rw [List.map_cons, List.find?_cons, List.find?_cons]
      by_cases e : a = k
      · subst e
        simp only [if_true]
        by_cases q : y = a
        · subst q; simp
        · have q' : ¬ a = y := fun z => q z.symm
          simp only [if_neg q, decide_eq_false q']
          by_cases hm : a ∈ r.map (·.1)
          · rw [ih hm, if_neg q]
          · congr 2
            have : r.map (fun kv => if kv.1 = a then (kv.1, v) else kv) = r := by
              conv => rhs; rw [← List.map_id r]
              apply List.map_congr_left
              intro p hp
              have : ¬ p.1 = a := fun z => hm (List.mem_map.mpr ⟨p, hp, z⟩)
              simp [this]
            rw [this]
      · simp only [if_neg e]
        have hm : k ∈ r.map (·.1) := by
          rw [List.map_cons, List.mem_cons] at h
          exact h.resolve_left fun z => e z.symm
        by_cases q : a = y
        · subst q; simp [e]
        · simp only [decide_eq_false q]; exact ih hm
  · rw [dput_new h]; exact dget_append h
theorem dput_keys {κ : Type} [DecidableEq κ] (kvs : List (κ × MV)) (k : κ) (v : MV) : (dput kvs k v).map (·.1) = if k ∈ kvs.map (·.1) then kvs.map (·.1) else kvs.map (·.1) ++ [k] := by
  by_cases h : k ∈ kvs.map (·.1)
  · rw [dput_old h, if_pos h, List.map_map]
    apply List.map_congr_left
    intro p hp
    simp only [Function.comp]
    split <;> rfl
  · rw [dput_new h, if_neg h]; simp

section
variable {R : RR} {κ : Type} [DecidableEq κ] {kvs : List (κ × MV)} {rk : List (κ × Value)}
theorem KReps.keys (x : KReps R kvs rk) : rk.map (·.1) = kvs.map (·.1) := by
  induction x with
  | nil => rfl
  | cons a r ih => simp [ih]
theorem KReps.valueAt (x : KReps R kvs rk) (k : κ) : (∃ v rv, dget kvs k = some v ∧ PySem.valueAt rk k = some rv ∧ VRep R v rv) ∨ (dget kvs k = none ∧ PySem.valueAt rk k = none) := by
  unfold dget PySem.valueAt
  induction x with
  | nil => exact .inr ⟨rfl, rfl⟩
  | @cons k' v rv vs rvs a r ih =>
    rw [List.find?_cons, List.find?_cons]
    by_cases e : k' = k
    · simp only [e, decide_true]; exact .inl ⟨v, rv, rfl, rfl, a⟩
    · simp only [e, decide_false]; exact ih
theorem KReps.append {kvs' : List (κ × MV)} {rk' : List (κ × Value)} (x : KReps R kvs rk) (y : KReps R kvs' rk') : KReps R (kvs ++ kvs') (rk ++ rk') := by
  induction x with
  | nil => exact y
  | cons a r ih => exact .cons a ih
theorem KReps.put (x : KReps R kvs rk) (k : κ) {v : MV} {rv : Value} (hv : VRep R v rv) : KReps R (dput kvs k v) (stored rk k rv) := by
  have hk := x.keys
  have hany : (rk.any fun kv => decide (kv.1 = k)) = (kvs.any fun kv => decide (kv.1 = k)) := by
    have e1 : (rk.any fun kv => decide (kv.1 = k)) = (rk.map (·.1)).any (fun a => decide (a = k)) := by rw [List.any_map]; rfl
    have e2 : (kvs.any fun kv => decide (kv.1 = k)) = (kvs.map (·.1)).any (fun a => decide (a = k)) := by rw [List.any_map]; rfl
    rw [e1, e2, hk]
  unfold dput stored
  rw [hany]
  split
  · rename_i hh
    clear hk hany hh
    induction x with
    | nil => exact .nil
    | @cons k' v' rv' vs rvs a r ih =>
      rw [List.map_cons, List.map_cons]
      by_cases e : k' = k
      · rw [if_pos e, if_pos e]
        exact .cons hv ih
      · rw [if_neg e, if_neg e]; exact .cons a ih
  · exact x.append (.cons hv .nil)
end

theorem OW_getItem_I {i ep : Nat} {k : Int} {kvs : List (Int × MV)} {v : MV} {Q : MV → MH → Prop} (hi : mh[i]? = some (.dctI ep kvs)) (hv : dget kvs k = some v) (q : Q v mh) : OW2 D n getItem (.ref i) (.int k) Q mh := by
  intro A R s ra rb ok hr va vb
  cases va with | @ref _ a ha =>
  cases vb
  obtain ⟨ro, e, rk, hd, kr⟩ := hr.obj i _ a hi ha
  rcases kr.valueAt k with ⟨v', rv, e1, e2, vv⟩ | ⟨e1, _⟩
  · rw [hv] at e1; cases e1
    exact wpAny_getItem_of (intKind_is _ _ _ _) (hd.dictAt e).dictOf.mapOf e2 (VPost.now hr vv q)
  · rw [hv] at e1; cases e1
theorem OW_getItem_S {i ep : Nat} {k : Str} {kvs : List (Str × MV)} {v : MV} {Q : MV → MH → Prop} (hi : mh[i]? = some (.dctS ep kvs)) (hv : dget kvs k = some v) (q : Q v mh) : OW2 D n getItem (.ref i) (.str k) Q mh := by
  intro A R s ra rb ok hr va vb
  cases va with | @ref _ a ha =>
  cases vb
  obtain ⟨ro, e, rk, hd, kr⟩ := hr.obj i _ a hi ha
  rcases kr.valueAt k with ⟨v', rv, e1, e2, vv⟩ | ⟨e1, _⟩
  · rw [hv] at e1; cases e1
    exact wpAny_getItem_of (strKind_is _ _ _ _) (hd.dictAt e).dictOf.mapOf e2 (VPost.now hr vv q)
  · rw [hv] at e1; cases e1
theorem OW_in_S {i ep : Nat} {k : Str} {kvs : List (Str × MV)} {Q : Bool → MH → Prop} (hi : mh[i]? = some (.dctS ep kvs)) (q : Q (dget kvs k).isSome mh) : OW2 D n (compareOp .In) (.str k) (.ref i) (asBool Q) mh := by
  intro A R s ra rb ok hr va vb
  cases vb with | @ref _ a ha =>
  cases va
  obtain ⟨ro, e, rk, hd, kr⟩ := hr.obj i _ a hi ha
  refine wpAny_in_of (strKind_is _ _ _ _) (hr.ms a (List.mem_of_getElem? ha)) (hd.dictAt e).dictOf.mapOf ?_
  have : (valueAt rk k).isSome = (dget kvs k).isSome := by rcases kr.valueAt k with ⟨v', rv, e1, e2, vv⟩ | ⟨e1, e2⟩ <;> rw [e1, e2] <;> rfl
  rw [this]
  exact VPost.now hr (.bool _) q
theorem OW_notIn_S {i ep : Nat} {k : Str} {kvs : List (Str × MV)} {Q : Bool → MH → Prop} (hi : mh[i]? = some (.dctS ep kvs)) (q : Q (!(dget kvs k).isSome) mh) : OW2 D n (compareOp .NotIn) (.str k) (.ref i) (asBool Q) mh := by
  intro A R s ra rb ok hr va vb
  cases vb with | @ref _ a ha =>
  cases va
  obtain ⟨ro, e, rk, hd, kr⟩ := hr.obj i _ a hi ha
  refine wpAny_notIn_of (strKind_is _ _ _ _) (hr.ms a (List.mem_of_getElem? ha)) (hd.dictAt e).dictOf.mapOf ?_
  have : (valueAt rk k).isSome = (dget kvs k).isSome := by rcases kr.valueAt k with ⟨v', rv, e1, e2, vv⟩ | ⟨e1, e2⟩ <;> rw [e1, e2] <;> rfl
  rw [this]
  exact VPost.now hr (.bool _) q

/-! subscripts -/
theorem EW_sub {value slice : Expr} {pos : Pos} {Q : MV → MH → Prop} (h : EW D n si value σ (fun a mh' => EW D n si slice σ (fun b mh'' => (∀ R h ra, HRep D R mh'' h → VRep R a ra → ∃ T id, (∀ s : Shared, s.heap = h → s.TypeIs ra T) ∧ typeLookup (.type T) (Str.ofString "__getitem__") = pure (some (.builtin id))) ∧ OW2 D n getItem a b Q mh'') mh') mh)
    (hs : ∀ o i, ∃ ops, subscripted slice false o i = operate ops (getItem o i) := by intro o i; with_unfolding_all exact ⟨_, rfl⟩) : EW D n si (.Subscript value slice pos) σ Q mh := by
  intro A env R s ok eo hr nm
  refine Subscript_ (wpAny_mono (h A env R s ok eo hr nm) (fun ra s1 h1 => ?_) fun _ _ f => f)
  obtain ⟨R1, mh1, va, H1, tk1, rfl, g1, hr1, v1, q1⟩ := h1
  refine wpAny_mono (q1 A env R1 _ ok eo hr1 (nm.go g1)) (fun rb s2 h2 => ?_) fun _ _ f => f
  obtain ⟨R2, mh2, vb, H2, tk2, rfl, g2, hr2, v2, ty, q2⟩ := h2
  obtain ⟨T, id, hT, hl⟩ := ty R2 H2 ra hr2 (v1.mono g2.le)
  obtain ⟨ops, ho⟩ := hs ra rb
  exact tail_any (hT _ rfl) hl (wpAny_mono (q2 A R2 _ ra rb ok hr2 (v1.mono g2.le) v2) (fun _ _ z => VPost.after g1 (VPost.after g2 z)) fun _ _ f => f) ho
theorem ty_list {i : Nat} {vs : List MV} (hi : mh[i]? = some (.lst vs)) : ∀ R h ra, HRep D R mh h → VRep R (.ref i) ra → ∃ T id, (∀ s : Shared, s.heap = h → s.TypeIs ra T) ∧ typeLookup (.type T) (Str.ofString "__getitem__") = pure (some (.builtin id)) := by
  intro R h ra hr v
  cases v with | @ref _ a ha =>
  obtain ⟨rvs, c, e, vr⟩ := hr.list hi ha
  exact ⟨"list", _, fun s hs => ⟨_, by rw [hs]; exact e, rfl⟩, slot_list_getitem.lookup⟩
theorem ty_tup {vs : List MV} : ∀ R h ra, HRep D R mh h → VRep R (.tup vs) ra → ∃ T id, (∀ s : Shared, s.heap = h → s.TypeIs ra T) ∧ typeLookup (.type T) (Str.ofString "__getitem__") = pure (some (.builtin id)) := by
  intro R h ra hr v
  cases v with | @tup a rvs c _ hm vr =>
  exact ⟨"tuple", _, fun s hs => ⟨_, by rw [hs]; exact hr.imm _ hm, rfl⟩, slot_tuple_getitem.lookup⟩
theorem ty_dctI {i ep : Nat} {kvs : List (Int × MV)} (hi : mh[i]? = some (.dctI ep kvs)) : ∀ R h ra, HRep D R mh h → VRep R (.ref i) ra → ∃ T id, (∀ s : Shared, s.heap = h → s.TypeIs ra T) ∧ typeLookup (.type T) (Str.ofString "__getitem__") = pure (some (.builtin id)) := by
  intro R h ra hr v
  cases v with | @ref _ a ha =>
  obtain ⟨ro, e, rk, hd, kr⟩ := hr.obj i _ a hi ha
  exact ⟨"dict", _, fun s hs => (Heap.DictOf.typeIs (by rw [hs]; exact (hd.dictAt e).dictOf) : s.TypeIs (.ref a) "dict"), slot_dict_getitem.lookup⟩
theorem ty_dctS {i ep : Nat} {kvs : List (Str × MV)} (hi : mh[i]? = some (.dctS ep kvs)) : ∀ R h ra, HRep D R mh h → VRep R (.ref i) ra → ∃ T id, (∀ s : Shared, s.heap = h → s.TypeIs ra T) ∧ typeLookup (.type T) (Str.ofString "__getitem__") = pure (some (.builtin id)) := by
  intro R h ra hr v
  cases v with | @ref _ a ha =>
  obtain ⟨ro, e, rk, hd, kr⟩ := hr.obj i _ a hi ha
  exact ⟨"dict", _, fun s hs => (Heap.DictOf.typeIs (by rw [hs]; exact (hd.dictAt e).dictOf) : s.TypeIs (.ref a) "dict"), slot_dict_getitem.lookup⟩
/-- what a subscript gives -/
inductive SubAt (mh : MH) : MV → MV → MV → Prop
  | lst {i : Nat} {k : Int} {vs : List MV} {v : MV} : mh[i]? = some (.lst vs) → 0 ≤ k → vs[k.toNat]? = some v → vs.length ≤ 1000 → SubAt mh (.ref i) (.int k) v
  | tup {k : Int} {vs : List MV} {v : MV} : 0 ≤ k → vs[k.toNat]? = some v → k ≤ 1000 → SubAt mh (.tup vs) (.int k) v
  | dctI {i ep : Nat} {k : Int} {kvs : List (Int × MV)} {v : MV} : mh[i]? = some (.dctI ep kvs) → dget kvs k = some v → SubAt mh (.ref i) (.int k) v
  | dctS {i ep : Nat} {k : Str} {kvs : List (Str × MV)} {v : MV} : mh[i]? = some (.dctS ep kvs) → dget kvs k = some v → SubAt mh (.ref i) (.str k) v
theorem EW_subAt {value slice : Expr} {pos : Pos} {Q : MV → MH → Prop} (h : EW D n si value σ (fun a mh' => EW D n si slice σ (fun b mh'' => ∃ v, SubAt mh'' a b v ∧ Q v mh'') mh') mh)
    (hs : ∀ o i, ∃ ops, subscripted slice false o i = operate ops (getItem o i) := by intro o i; with_unfolding_all exact ⟨_, rfl⟩) : EW D n si (.Subscript value slice pos) σ Q mh := by
  refine EW_sub (EW.mono h fun a mh1 h1 => EW.mono h1 fun b mh2 h2 => ?_) hs
  obtain ⟨v, sa, q⟩ := h2
  cases sa with
  | lst a1 a2 a3 a4 => exact ⟨ty_list a1, OW_getItem a1 a2 a3 a4 q⟩
  | tup a2 a3 a4 => exact ⟨ty_tup, OW_getItem_tup a2 a3 a4 q⟩
  | dctI a1 a2 => exact ⟨ty_dctI a1, OW_getItem_I a1 a2 q⟩
  | dctS a1 a2 => exact ⟨ty_dctS a1, OW_getItem_S a1 a2 q⟩
end
end Mine

namespace Mine
section
variable {D : WD} {n : Nat} {si : SI} {σ : Locals} {mh : MH} {R : RR}

/-! attributes -/
theorem FReps.find {kvs : List (Str × MV)} {es : List DictEntry} (x : FReps R kvs es) (name : Str) : (∃ v rv, kvs.lookup name = some v ∧ getL name es = some (some rv) ∧ VRep R v rv) ∨ (kvs.lookup name = none ∧ getL name es = some none) := by
  unfold getL
  induction x with
  | nil => exact .inr ⟨rfl, rfl⟩
  | @cons k t z v rv vs es a r ih =>
    rw [List.find?_cons, List.lookup_cons]
    by_cases e : name = k
    · subst e
      have h1 : (Value.str name t).isStr name = true := by simp [Value.isStr]
      simp only [h1, beq_self_eq_true]
      exact .inl ⟨v, rv, rfl, rfl, a⟩
    · have h1 : (Value.str k t).isStr name = false := by simp [Value.isStr, Ne.symm e]
      have h2 : (name == k) = false := beq_eq_false_iff_ne.mpr e
      simp only [h1, h2]
      rcases ih with ⟨v', rv', e1, e2, e3⟩ | ⟨e1, e2⟩
      · refine .inl ⟨v', rv', e1, ?_, e3⟩
        cases hf : es.find? (fun x => x.key.isStr name) with
        | some e => rw [hf] at e2; exact e2
        | none => rw [hf] at e2; dsimp only at e2; split at e2 <;> cases e2
      · refine .inr ⟨e1, ?_⟩
        cases hf : es.find? (fun x => x.key.isStr name) with
        | some e => rw [hf] at e2; cases e2
        | none =>
          rw [hf] at e2
          dsimp only at e2 ⊢
          have : (⟨z, Value.str k t, rv⟩ : DictEntry).refKey = false := rfl
          rw [List.any_cons, this, Bool.false_or]
          exact e2
theorem FReps.puts {kvs : List (Str × MV)} {es : List DictEntry} (x : FReps R kvs es) (name : Str) (hsh : Int) (t : Tok) {v : MV} {rv : Value} (hv : VRep R v rv) : FReps R (put kvs name v) (putL name hsh (.str name t) rv es) := by
  induction x with
  | nil => exact .cons hv .nil
  | @cons k t' z v' rv' vs es a r ih =>
    unfold put putL
    by_cases e : name = k
    · subst e
      have h1 : (Value.str name t').isStr name = true := by simp [Value.isStr]
      simp only [h1, beq_self_eq_true, if_true]
      exact .cons hv r
    · have h1 : (Value.str k t').isStr name = false := by simp [Value.isStr, Ne.symm e]
      have h2 : (name == k) = false := beq_eq_false_iff_ne.mpr e
      simp only [h1, h2, Bool.false_eq_true, if_false]
      exact .cons a ih
theorem FReps.len {kvs : List (Str × MV)} {es : List DictEntry} (x : FReps R kvs es) : es.length = kvs.length := by
  induction x with
  | nil => rfl
  | cons a r ih => simp [ih]
theorem VRep.handed {v : MV} {rv : Value} (h : VRep R v rv) : handedIn rv = true := by cases h <;> rfl

theorem HRep.inst {C : Addr} {i : Nat} {rv : Value} {kvs : List (Str × MV)} {h : Heap} (hr : HRep D R mh h) (v : VRep R (.obj C i) rv) (hi : mh[i]? = some (.fld kvs)) :
    ∃ a dx es k, rv = .ref a ∧ R.ρ[i]? = some dx ∧ W.InstAt h a (instObj C dx) C (some (dictOf es k)) ∧ h.get? dx = some (dictOf es k) ∧ FReps R kvs es := by
  cases v with | @obj _ _ a dx hd hm =>
  obtain ⟨ro, e, es, k, rfl, fr⟩ := hr.obj i _ dx hi hd
  exact ⟨a, dx, es, k, rfl, hd, ⟨hr.imm _ hm, rfl, rfl, e⟩, e, fr⟩

theorem EW_attr {value : Expr} {attr : Str} {pos : Pos} {C : Addr} {Q : MV → MH → Prop} (h : EW D n si value σ (fun v mh' => ∃ i kvs x, v = .obj C i ∧ mh'[i]? = some (.fld kvs) ∧ kvs.lookup attr = some x ∧ Q x mh') mh)
    (hg : findIn (Kf D.w) (.ref C) (Str.ofString "__getattribute__") = some (some (.builtin "object.__getattribute__")) := by with_unfolding_all rfl) (hd : hasDictIn (Kf D.w) C = true := by with_unfolding_all rfl) (ha : findIn (Kf D.w) (.ref C) attr = some none := by with_unfolding_all rfl)
    (hng : noGet (Kf D.w) none = true := by with_unfolding_all rfl)
    (he : ∀ env, eval (.Attribute value attr pos) env = (do
        let o ← eval value env
        standAt pos.atName
        let r ← holding [o] (getAttr o attr true)
        letTemporaryGo value o r
        pure r) := by intros; with_unfolding_all rfl) : EW D n si (.Attribute value attr pos) σ Q mh := by
  intro A env R s ok eo hr nm
  refine Attribute_any_ (wpAny_mono (h A env R s ok eo hr nm) (fun ra s1 h1 => ?_) fun _ _ f => f) (he env)
  obtain ⟨R1, mh1, va, H1, tk1, rfl, g1, hr1, v1, i, kvs, x, rfl, hi, hx, q1⟩ := h1
  obtain ⟨a, dx, es, k, rfl, hdx, I, e, fr⟩ := hr1.inst v1 hi
  rcases fr.find attr with ⟨v, rv, e1, e2, vv⟩ | ⟨e1, _⟩
  · rw [hx] at e1; cases e1
    refine get_value (s := { s with heap := H1, toks := tk1 }) hr1.X I hg (findObj_own hd ha hng (by rw [lookIn_dict]; exact e2)) vv.handed ?_
    exact VPost.after g1 (VPost.now (s := { s with heap := H1, toks := tk1 }) hr1 vv q1)
  · rw [hx] at e1; cases e1

theorem putL_len (name : Str) (hsh : Int) (key v : Value) : ∀ es : List DictEntry, (putL name hsh key v es).length ≤ es.length + 1
  | [] => Nat.le_refl _
  | x :: r => by
    have ih := putL_len name hsh key v r
    unfold putL
    split
    · simp
    · rw [List.length_cons, List.length_cons]; omega
theorem setAttr_here {A : Around} {s : Shared} {C a dx : Addr} {es : List DictEntry} {k : Nat} {name : Str} {rv : Value} {Q : Unit → Shared → Prop} (X : (Kf D.w).In s.heap) (I : W.InstAt s.heap a (instObj C dx) C (some (dictOf es k))) (e : s.heap.get? dx = some (dictOf es k))
    (hs : findIn (Kf D.w) (.ref C) (Str.ofString "__setattr__") = some (some (.builtin "object.__setattr__"))) (hp : plainOver (Kf D.w) C = true) (ht : takerIn (Kf D.w) C name = some none) (hh : (clsIn (Kf D.w) C).any (·.hasDict) = true)
    (hl : (getL name es).isSome = true) (hz : es.length ≤ 900)
    (h : ∀ h' tk hsh t k', Heap.SameBut dx s.heap h' → h'.get? dx = some (dictOf (putL name hsh (.str name t) rv es) k') → Q () { s with heap := h', toks := tk }) :
    wpAny (model Prg D.w) A (setAttr (.ref a) name rv) Q (fun _ _ => False) s := by
  refine set_plain (ox := instObj C dx) X I hs ?_
  refine osa_open (s := { s with toks := s.toks + 1 }) X I hp ht fun b => ?_
  have hh' : ∃ cd, clsIn (Kf D.w) C = some cd ∧ cd.hasDict = true := by
    cases q : clsIn (Kf D.w) C with
    | none => rw [q] at hh; cases hh
    | some cd => rw [q] at hh; exact ⟨cd, rfl, hh⟩
  obtain ⟨cd, hc, hd'⟩ := hh'
  refine wpAny_bind (wpAny_pure (wpAny_bind (wpAny_bind (wpAny_loadPart I.at_ (wpAny_bind (Looks.here (s := { s with toks := s.toks + 1 }) (looks_clsIn X hc) ?_))))))
  rw [hd']
  refine wpAny_pure (a := some dx) (wpAny_bind (wpAny_pure (wpAny_bind ?_)))
  unfold nsSet
  refine wpAny_bind (wpAny_bind (wpAny_askSetting (wpAny_pure (wpAny_bind (wpAny_mkText (wpAny_bind (wpAny_loadPart e ?_)))))))
  have c : (!(es.toArray.any (·.key.isStr name)) && es.toArray.any (·.refKey)) = false := by
    rw [List.any_toArray, List.any_toArray]
    unfold getL at hl
    split at hl
    · rename_i en he
      rw [List.any_eq_true.mpr ⟨en, List.mem_of_find?_eq_some he, List.find?_some he⟩]; rfl
    · split at hl
      · cases hl
      · rename_i z; rw [Bool.not_eq_true] at z; rw [z, Bool.and_false]
  dsimp only
  rw [aRefKeyMayBeTheName_at, c]
  have hf : ∀ (f : Obj → Obj), (f (dictOf es k)).isFreed = false → (s.heap.update dx f).get? dx = some (f (dictOf es k)) := fun f hf => Heap.get?_update_self _ e hf
  refine wpAny_updatePart e ?_
  have e2 : (s.heap.update dx (Obj.putName name (PyData.keyHash D.w.params name) (.str name (s.toks + 1)) rv)).get? dx = some (dictOf (putL name (PyData.keyHash D.w.params name) (.str name (s.toks + 1)) rv es) (putN name es k)) := by
    rw [hf _ (by rw [putName_dict]; rfl), putName_dict]
  have hlen : (putL name (PyData.keyHash D.w.params name) (.str name (s.toks + 1)) rv es).length ≤ es.length + 1 := putL_len ..
  refine wpAny_bind (wpAny_lookBehind e2 (pastItsLine_dict (by rw [List.size_toArray, sizeLine_eq]; omega)) ?_)
  exact wpAny_pure (h _ _ _ _ _ (Heap.SameBut.update ..) e2)

theorem XW_setattr {o value : Expr} {attr : Str} {pos pos' : Pos} {C : Addr} {QN : Locals → MH → Prop} {QR : MV → MH → Prop}
    (h : EW D n si value σ (fun v mh' => EW D n si o σ (fun ov mh'' => ∃ i kvs, ov = .obj C i ∧ mh''[i]? = some (.fld kvs) ∧ kvs.length ≤ 900 ∧ QN σ (mh''.set i (.fld (put kvs attr v)))) mh') mh)
    (hs : findIn (Kf D.w) (.ref C) (Str.ofString "__setattr__") = some (some (.builtin "object.__setattr__")) := by with_unfolding_all rfl) (hp : plainOver (Kf D.w) C = true := by with_unfolding_all rfl) (ht : takerIn (Kf D.w) C attr = some none := by with_unfolding_all rfl) (hh : (clsIn (Kf D.w) C).any (·.hasDict) = true := by with_unfolding_all rfl)
    (hw : ∀ env : Env, env.scope = si.scope → swapsWith value (some (.Attribute o attr pos')) pos.line env = pure false := by intros; with_unfolding_all rfl) : XW D n si (.Assign [.Attribute o attr pos'] value pos) σ QN QR mh := by
  intro A env R s ok eo hr nm
  refine plainObj_wpAny_Assign_Attribute (wpAny_mono (h A env R s ok eo hr nm) (fun rv s1 h1 => ?_) fun _ _ f => f) (hw env eo.scope)
  obtain ⟨R1, mh1, va, H1, tk1, rfl, g1, hr1, v1, q1⟩ := h1
  refine wpAny_mono (q1 A env R1 _ ok eo hr1 (nm.go g1)) (fun ro s2 h2 => ?_) fun _ _ f => f
  obtain ⟨R2, mh2, vb, H2, tk2, rfl, g2, hr2, v2, i, kvs, rfl, hi, hz, q2⟩ := h2
  obtain ⟨a, dx, es, k, rfl, hdx, I, e, fr⟩ := hr2.inst v2 hi
  have hl : (getL attr es).isSome = true := by rcases fr.find attr with ⟨_, _, _, e2, _⟩ | ⟨_, e2⟩ <;> rw [e2] <;> rfl
  refine setAttr_here (s := { s with heap := H2, toks := tk2 }) (name := attr) hr2.X I e hs hp ht hh hl (by rw [fr.len]; exact hz) fun h' tk hsh t k' sb e' => ?_
  have kb : ∀ b o, b ≠ dx → H2.get? b = some o → h'.get? b = some o := fun b o hb e => (sb.2 b hb).trans e
  have v1' := v1.mono g2.le
  exact ⟨R2, _, h', tk, rfl, ((g1.trans g2).trans (Go.upd [] hdx kb ⟨_, e'⟩)).weak, hr2.upd (o := .fld (put kvs attr _)) hdx kb e' ⟨_, _, rfl, fr.puts attr hsh t v1'⟩, σ, nm.go ((g1.trans g2).trans (Go.upd [] hdx kb ⟨_, e'⟩)), q2⟩

/-! methods -/
theorem EW_methK {o : Expr} {name : Str} {apos pos : Pos} {args : List Expr} {C f : Addr} {Q : MV → MH → Prop}
    (h : EW D n si o σ (fun v mh' => ∃ i kvs, v = .obj C i ∧ mh'[i]? = some (.fld kvs) ∧ kvs.lookup name = none ∧ EsW D n si args σ (fun vs mh'' => CW D n (.ref f) (v :: vs) Q mh'') mh') mh)
    (hg : findIn (Kf D.w) (.ref C) (Str.ofString "__getattribute__") = some (some (.builtin "object.__getattribute__")) := by with_unfolding_all rfl) (hg2 : findIn (Kf D.w) (.ref C) (Str.ofString "__getattr__") = some none := by with_unfolding_all rfl)
    (hf : findIn (Kf D.w) (.ref C) name = some (some (.ref f)) := by with_unfolding_all rfl) (hty : typeIn (Kf D.w) (.ref f) = some (.type "function") := by with_unfolding_all rfl) (hkeep : keepIn (Kf D.w) (.ref f) = true := by with_unfolding_all rfl)
    (he : ∀ env, eval (.Call (.Attribute o name apos) args [] pos) env = (do
          let ov ← eval o env
          standAt apos.atName
          let __x ← holding [ov] (getMethod ov name (do return (← importBound o env).getD true))
          match __x with
            | (f, first) => callWith pos f first (backTo pos (starEach args env)) (backToKw pos (keywordEach [] env))) := by intros; with_unfolding_all rfl)
    (hpl : ∀ env, (backTo pos (starEach args env)).any (·.1) = false := by intros; with_unfolding_all rfl) : EW D n si (.Call (.Attribute o name apos) args [] pos) σ Q mh := by
  intro A env R s ok eo hr nm
  refine methodCall_KW (pl := do return (← importBound o env).getD true) (wpAny_mono (h A env R s ok eo hr nm) (fun ra s1 h1 => ?_) fun _ _ f => f) (he env)
  obtain ⟨R1, mh1, va, H1, tk1, rfl, g1, hr1, v1, i, kvs, rfl, hi, hno, q1⟩ := h1
  obtain ⟨a, dx, es, k, rfl, hdx, I, e, fr⟩ := hr1.inst v1 hi
  have hsh : shadowIn (some (dictOf es k)) name = some false := by
    show Option.map _ (lookIn name (dictOf es k)) = _
    rw [lookIn_dict]
    rcases fr.find name with ⟨_, _, e1, _⟩ | ⟨_, e2⟩
    · rw [hno] at e1; cases e1
    · rw [e2]; rfl
  refine method_fn (s := { s with heap := H1, toks := tk1 }) hr1.X I hg hg2 hf hty hsh ?_
  refine callWith_of (P := (Kf D.w).In) (args := backTo pos (starEach args env)) (by show ((backTo pos (starEach args env)).any (·.1) || false) = false; rw [hpl]; rfl) (keeps_K hkeep) ?_
  refine evalArgs_of (hpl env) (wpAny_mono (q1 A env R1 _ pos ok eo hr1 (nm.go g1)) (fun vs s₁ z => ?_) fun _ _ f => f)
  obtain ⟨R2, mh2, mvs, H2, tk2, rfl, g2, hr2, v2, q2⟩ := z
  exact ⟨hr2.X, wpAny_mono (q2 A R2 _ (.ref a :: vs) ok hr2 (.cons (v1.mono g2.le) v2)) (fun _ _ z => VPost.after g1 (VPost.after g2 z)) fun _ _ f => f⟩

/-- a builtin method -/
theorem EW_methB {o : Expr} {name : Str} {apos pos : Pos} {args : List Expr} {T id : String} {Q : MV → MH → Prop}
    (hpa : PlainAttrs T) (slot : Slot T name id) (hty : typeOf (.builtin id) = pure (.type "method_descriptor"))
    (h : EW D n si o σ (fun v mh' => (∀ R h rv, HRep D R mh' h → VRep R v rv → ∃ a o, rv = .ref a ∧ h.get? a = some o ∧ o.cls = .type T ∧ o.dict = none) ∧ EsW D n si args σ (fun vs mh'' => CW D n (.builtin id) (v :: vs) Q mh'') mh') mh)
    (he : ∀ env, eval (.Call (.Attribute o name apos) args [] pos) env = (do
          let ov ← eval o env
          standAt apos.atName
          let __x ← holding [ov] (getMethod ov name (do return (← importBound o env).getD true))
          match __x with
            | (f, first) => callWith pos f first (backTo pos (starEach args env)) (backToKw pos (keywordEach [] env))) := by intros; with_unfolding_all rfl)
    (hpl : ∀ env, (backTo pos (starEach args env)).any (·.1) = false := by intros; with_unfolding_all rfl) : EW D n si (.Call (.Attribute o name apos) args [] pos) σ Q mh := by
  intro A env R s ok eo hr nm
  refine methodCall_KW (pl := do return (← importBound o env).getD true) (wpAny_mono (h A env R s ok eo hr nm) (fun ra s1 h1 => ?_) fun _ _ f => f) (he env)
  obtain ⟨R1, mh1, va, H1, tk1, rfl, g1, hr1, v1, ty, q1⟩ := h1
  obtain ⟨a, oo, rfl, ea, hc, hd⟩ := ty R1 H1 ra hr1 v1
  refine getMethod_builtin (s := { s with heap := H1, toks := tk1 }) ⟨_, ea, hc⟩ hpa slot hty (fun a' e => by cases e; exact ⟨_, ea, hd⟩) ?_
  refine callWith_B (args := backTo pos (starEach args env)) (by trivial) (hpl env) (evalArgs_of (hpl env) (wpAny_mono (q1 A env R1 _ pos ok eo hr1 (nm.go g1)) (fun vs s₁ z => ?_) fun _ _ f => f))
  obtain ⟨R2, mh2, mvs, H2, tk2, rfl, g2, hr2, v2, q2⟩ := z
  exact wpAny_mono (q2 A R2 _ (.ref a :: vs) ok hr2 (.cons (v1.mono g2.le) v2)) (fun _ _ z => VPost.after g1 (VPost.after g2 z)) fun _ _ f => f

/-! calls of builtin methods -/
theorem mapSeq_lst {f : Array Value → Array Value} {rvs rws : List Value} {k : Nat} (hf : f rvs.toArray = rws.toArray) : ∃ k', Obj.mapSeq f (lstObj rvs k) = lstObj rws k' := by
  refine ⟨if (f rvs.toArray).size == rvs.toArray.size then k else k + 1, ?_⟩
  show (⟨_, _, .seq (f rvs.toArray) _, _⟩ : Obj) = _
  rw [hf]
theorem list_upd {R : RR} {h h' : Heap} {i : Nat} {a : Addr} {vs : List MV} {rvs : List Value} {k : Nat} (hr : HRep D R mh h) (ha : R.ρ[i]? = some a) (sb : Heap.SameBut a h h') (e : h'.get? a = some (lstObj rvs k)) (v : VReps R vs rvs) :
    Go [] R R h h' ∧ HRep D R (mh.set i (.lst vs)) h' := by
  have kb : ∀ b o, b ≠ a → h.get? b = some o → h'.get? b = some o := fun b o hb e => (sb.2 b hb).trans e
  exact ⟨Go.upd [] ha kb ⟨_, e⟩, hr.upd (o := .lst vs) ha kb e ⟨_, _, rfl, v⟩⟩
theorem CW_append {i : Nat} {vs : List MV} {v : MV} {Q : MV → MH → Prop} (hi : mh[i]? = some (.lst vs)) (hz : vs.length ≤ 1000) (q : Q .none (mh.set i (.lst (vs ++ [v])))) : CW D n (.builtin "list.append") [.ref i, v] Q mh := by
  intro A R s rargs ok hr vr
  obtain ⟨ra, rb, rfl, va, vb⟩ := vr.two'
  cases va with | @ref _ a ha =>
  obtain ⟨rvs, c, e, vv⟩ := hr.list hi ha
  refine append_at (hsz := by rw [vv.size, sizeLine_eq]; omega) e fun h' sb e' => ?_
  obtain ⟨g, hr'⟩ := list_upd (vs := vs ++ [v]) (rvs := rvs ++ [rb]) (k := c + 1) hr ha sb (by rw [e']; simp [lstObj]) (vv.append (.one vb))
  exact ⟨R, _, _, h', s.toks, rfl, g, hr', .none, q⟩
theorem CW_pop {i : Nat} {vs : List MV} {v : MV} {Q : MV → MH → Prop} (hi : mh[i]? = some (.lst (vs ++ [v]))) (hz : vs.length ≤ 1000) (q : Q v (mh.set i (.lst vs))) : CW D n (.builtin "list.pop") [.ref i] Q mh := by
  intro A R s rargs ok hr vr
  obtain ⟨ra, rfl, va⟩ := vr.one'
  cases va with | @ref _ a ha =>
  obtain ⟨rvs, c, e, vv⟩ := hr.list hi ha
  have hl := vv.length
  rw [List.length_append, List.length_singleton] at hl
  obtain ⟨rv, hrv, vvv⟩ := vv.get (k := vs.length) (v := v) (by simp)
  have hvt := vv.take vs.length
  rw [List.take_left'] at hvt
  · refine call_meets PySem.F.slot_list_pop ⟨_, e, rfl⟩ PySem.F.entry_list_pop (PySem.F.args_list_pop_1 _) (MeetsSeq.list_pop_last a rvs.toArray c rv (by rw [List.size_toArray, hl]; simpa using hrv) (by rw [List.size_toArray, sizeLine_eq]; omega)) ⟨e, ?_⟩
    have he : (s.heap.update a (Obj.mapSeq fun xs => xs.eraseIdxIfInBounds (rvs.toArray.size - 1))).get? a = some (Obj.mapSeq (fun xs => xs.eraseIdxIfInBounds (rvs.toArray.size - 1)) (lstObj rvs c)) := Heap.get?_update_self _ e rfl
    have hm : ∃ c', Obj.mapSeq (fun xs => xs.eraseIdxIfInBounds (rvs.toArray.size - 1)) (lstObj rvs c) = lstObj (rvs.take vs.length) c' := by
      refine mapSeq_lst ?_
      have e1 : rvs.toArray.size - 1 = vs.length := by rw [List.size_toArray, hl]; rfl
      rw [e1]
      have e2 : rvs.toArray.eraseIdxIfInBounds vs.length = (rvs.eraseIdx vs.length).toArray := by simp
      rw [e2, List.eraseIdx_eq_take_drop_succ, List.drop_of_length_le (by omega), List.append_nil]
    obtain ⟨c', hm⟩ := hm
    rw [hm] at he
    obtain ⟨g, hr'⟩ := list_upd (vs := vs) hr ha (Heap.SameBut.update ..) he hvt
    exact ⟨R, _, _, _, s.toks, rfl, g, hr', vvv, q⟩
  · rfl
theorem CW_extend {i j : Nat} {vs ws : List MV} {Q : MV → MH → Prop} (hi : mh[i]? = some (.lst vs)) (hj : mh[j]? = some (.lst ws)) (hz : vs.length + ws.length ≤ 1000) (q : Q .none (mh.set i (.lst (vs ++ ws)))) : CW D n (.builtin "list.extend") [.ref i, .ref j] Q mh := by
  intro A R s rargs ok hr vr
  obtain ⟨ra, rb, rfl, va, vb⟩ := vr.two'
  cases va with | @ref _ a ha =>
  cases vb with | @ref _ b hb =>
  obtain ⟨rvs, c, e, vv⟩ := hr.list hi ha
  obtain ⟨rws, c', e', vw⟩ := hr.list hj hb
  have hs : rvs.toArray.size + rws.toArray.size ≤ sizeLine := by rw [vv.size, vw.size, sizeLine_eq]; omega
  refine call_meets PySem.F.slot_list_extend ⟨_, e, rfl⟩ PySem.F.entry_list_extend (PySem.F.args_list_extend_2 _ _) (AutoSeq1.list_extend_list_list_0 a rvs.toArray c b rws.toArray c' (extend_door hs) (by omega) (by omega)) ⟨e, e', ?_⟩
  have he : (s.heap.update a (Obj.mapSeq fun x => x ++ rws.toArray)).get? a = some (Obj.mapSeq (fun x => x ++ rws.toArray) (lstObj rvs c)) := Heap.get?_update_self _ e rfl
  obtain ⟨c2, hm⟩ := mapSeq_lst (f := fun x => x ++ rws.toArray) (rvs := rvs) (rws := rvs ++ rws) (k := c) (by simp)
  rw [hm] at he
  obtain ⟨g, hr'⟩ := list_upd hr ha (Heap.SameBut.update ..) he (vv.append vw)
  exact ⟨R, _, _, _, s.toks, rfl, g, hr', .none, q⟩
end
end Mine

namespace Mine
section
variable {D : WD} {n : Nat} {si : SI} {σ : Locals} {mh : MH} {R : RR}

theorem VPost.push_list {s : Shared} {vs : List MV} {rvs : List Value} {k : Nat} {h' : Heap} {tk : Nat} {Q : MV → MH → Prop} (hr : HRep D R mh s.heap) (kk : Kept s.heap h') (e : h'.get? s.heap.objs.size = some (lstObj rvs k)) (v : VReps R vs rvs) (q : Q (.ref mh.length) (mh ++ [.lst vs])) :
    VPost D R s Q (.ref s.heap.objs.size) { s with heap := h', toks := tk } :=
  ⟨⟨R.ρ ++ [s.heap.objs.size], R.ι⟩, _, _, h', tk, rfl, Go.alloc [] kk (next_none _), hr.alloc (o := .lst vs) kk e ⟨rvs, k, rfl, v.mono (RLe.snoc _ _)⟩, .ref (snoc_get R _ hr.len), q⟩
theorem VPost.fixed {s : Shared} {v : MV} {a : Addr} {ro : Obj} {h' : Heap} {tk : Nat} {Q : MV → MH → Prop} (hr : HRep D R mh s.heap) (kk : Kept s.heap h') (ha : s.heap.get? a = none) (e : h'.get? a = some ro) (vr : ∀ R', RLe R R' → (a, ro) ∈ R'.ι → VRep R' v (.ref a)) (q : Q v mh) :
    VPost D R s Q (.ref a) { s with heap := h', toks := tk } :=
  ⟨⟨R.ρ, (a, ro) :: R.ι⟩, mh, v, h', tk, rfl, Go.fix [] kk ha, hr.fix kk ha e, vr _ (RLe.imm _ _) List.mem_cons_self, q⟩

/-! calls -/
theorem CW_len {i : Nat} {vs : List MV} {Q : MV → MH → Prop} (hi : mh[i]? = some (.lst vs)) (hz : vs.length ≤ 1000) (q : Q (.int vs.length) mh) : CW D n (.builtin "len") [.ref i] Q mh := by
  intro A R s rargs ok hr vr
  obtain ⟨ra, rfl, va⟩ := vr.one'
  cases va with | @ref _ a ha =>
  obtain ⟨rvs, c, e, vv⟩ := hr.list hi ha
  refine call_len_list (lst_is e) (by rw [vv.size]; omega) ?_
  rw [vv.size]
  exact VPost.now hr (.int _ _) q
theorem CW_list {i : Nat} {vs : List MV} {Q : MV → MH → Prop} (hi : mh[i]? = some (.lst vs)) (hz : vs.length ≤ 1000) (q : Q (.ref mh.length) (mh ++ [.lst vs])) : CW D n (.type "list") [.ref i] Q mh := by
  intro A R s rargs ok hr vr
  obtain ⟨ra, rfl, va⟩ := vr.one'
  cases va with | @ref _ a ha =>
  obtain ⟨rvs, c, e, vv⟩ := hr.list hi ha
  exact call_list_seq a (.inl rfl) e rfl rfl (fun h' c' kk e' => VPost.push_list (tk := s.toks) hr kk e' vv q) (by rw [vv.size, sizeLine_eq]; omega)
theorem CW_tuple {i : Nat} {vs : List MV} {Q : MV → MH → Prop} (hi : mh[i]? = some (.lst vs)) (hz : vs.length ≤ 1000) (q : Q (.tup vs) mh) : CW D n (.type "tuple") [.ref i] Q mh := by
  intro A R s rargs ok hr vr
  obtain ⟨ra, rfl, va⟩ := vr.one'
  cases va with | @ref _ a ha =>
  obtain ⟨rvs, c, e, vv⟩ := hr.list hi ha
  refine call_tuple_list (lst_is e) (fun h' kk => ?_) (by rw [vv.size, sizeLine_eq]; omega)
  refine VPost.fixed (tk := s.toks) (v := .tup vs) (ro := tupObj rvs 0) hr (fun b o e => Heap.get?_push_of_some _ (kk b o e)) ?_ (Heap.get?_push_size _ rfl) (fun R' le hm => .tup hm (vv.mono le)) q
  exact none_of_there (fun b o e => ⟨o, kk b o e⟩) (next_none h')
theorem CW_range1 {m : Int} {Q : MV → MH → Prop} (q : Q (.rng 0 m 1) mh) : CW D n (.type "range") [.int m] Q mh := by
  intro A R s rargs ok hr vr
  obtain ⟨ra, rfl, va⟩ := vr.one'
  cases va
  refine call_range_1 ?_
  exact VPost.fixed (v := .rng 0 m 1) hr (Kept.push _ _) (next_none _) (Heap.get?_push_size _ rfl) (fun R' le hm => .rng _ _ _ hm) q
theorem CW_range3 {a b c : Int} {Q : MV → MH → Prop} (hc : c ≠ 0) (hp : Builtin.divisionGoesByPylong (b - a) c = false) (q : Q (.rng a b c) mh) : CW D n (.type "range") [.int a, .int b, .int c] Q mh := by
  intro A R s rargs ok hr vr
  obtain ⟨ra, rb, rc, rfl, va, vb, vc⟩ := vr.three'
  cases va; cases vb; cases vc
  refine call_range_3 hc ?_ (.inl hp)
  exact VPost.fixed (v := .rng a b c) hr (Kept.push _ _) (next_none _) (Heap.get?_push_size _ rfl) (fun R' le hm => .rng _ _ _ hm) q
theorem CW_abs {a : Int} {Q : MV → MH → Prop} (q : Q (.int (if a < 0 then -a else a)) mh) : CW D n (.builtin "abs") [.int a] Q mh := by
  intro A R s rargs ok hr vr
  obtain ⟨ra, rfl, va⟩ := vr.one'
  cases va
  exact call_abs_int fun u tk => VPost.now hr (.int _ _) q
theorem CW_int {a : Int} {Q : MV → MH → Prop} (q : Q (.int a) mh) : CW D n (.type "int") [.int a] Q mh := by
  intro A R s rargs ok hr vr
  obtain ⟨ra, rfl, va⟩ := vr.one'
  cases va
  exact call_int_int (VPost.now' hr (.int _ _) q)
theorem CW_str {a : Int} {Q : MV → MH → Prop} (hz : a.natAbs.log2 < 1920) (q : Q (.str (Str.ofString (toString a))) mh) : CW D n (.type "str") [.int a] Q mh := by
  intro A R s rargs ok hr vr
  obtain ⟨ra, rfl, va⟩ := vr.one'
  cases va
  exact P.str_of_int hz (VPost.now hr (.str _ _) q)
theorem dict_upd {κ : Type} [DecidableEq κ] {h h' : Heap} {i : Nat} {a : Addr} {knd : PySem.KeyKind Prg D.w κ} {mk : Nat → List (κ × MV) → MO} (hmk : ∀ R ep kvs o, ORep D R (mk ep kvs) o ↔ ∃ rk, KdkAt knd o rk ep ∧ KReps R kvs rk) {kvs : List (κ × MV)} {rk : List (κ × Value)} (hr : HRep D R mh h) (ha : R.ρ[i]? = some a) (sb : Heap.SameBut a h h')
    (hd : Heap.DictOf knd h' a rk) (v : KReps R kvs rk) : ∃ ep, Go [] R R h h' ∧ HRep D R (mh.set i (mk ep kvs)) h' := by
  obtain ⟨ep, o, es, e, r⟩ := hd.dictAt
  have kb : ∀ b o, b ≠ a → h.get? b = some o → h'.get? b = some o := fun b o hb e => (sb.2 b hb).trans e
  exact ⟨ep, Go.upd [] ha kb ⟨_, e⟩, hr.upd (o := mk ep kvs) ha kb e ((hmk _ _ _ _).mpr ⟨rk, ⟨es, r⟩, v⟩)⟩
theorem CW_setdefault {i ep : Nat} {k : Int} {kvs : List (Int × MV)} {v : MV} {Q : MV → MH → Prop} (hi : mh[i]? = some (.dctI ep kvs)) (hz : kvs.length ≤ 1000) (hk : dget kvs k = none) (q : ∀ ep', Q v (mh.set i (.dctI ep' (dput kvs k v)))) : CW D n (.builtin "dict.setdefault") [.ref i, .int k, v] Q mh := by
  intro A R s rargs ok hr vr
  obtain ⟨ra, rb, rc, rfl, va, vb, vc⟩ := vr.three'
  cases va with | @ref _ a ha =>
  cases vb
  obtain ⟨ro, e, rk, hd, kr⟩ := hr.obj i _ a hi ha
  have hD := (hd.dictAt e).dictOf
  rcases kr.valueAt k with ⟨v', rv, e1, e2, vv⟩ | ⟨e1, e2⟩
  · rw [hk] at e1; cases e1
  · refine call_meetsIn PySem.F.slot_dict_setdefault hD.typeIs PySem.F.entry_dict_setdefault (PySem.F.args_dict_setdefault_3 _ _ _) (kt_meets_setdefault _ a (intKind_is _ _ _ _) (hr.ms a (List.mem_of_getElem? ha)) rc) ⟨rk, hD, by rw [kr.length, sizeLine_eq]; omega, (fun v hv => by rw [e2] at hv; cases hv), fun _ h' hm sb => ?_⟩
    obtain ⟨ep', g, hr'⟩ := dict_upd (mk := MO.dctI) (fun _ _ _ _ => Iff.rfl) hr ha sb hm (kr.put k vc)
    exact ⟨R, _, _, h', _, rfl, g, hr', vc, q ep'⟩

/-! stores to items -/
inductive SetAt (mh : MH) : MV → MV → MV → (MH → Prop) → Prop
  | lst {i : Nat} {k : Int} {vs : List MV} {v : MV} {Q : MH → Prop} : mh[i]? = some (.lst vs) → 0 ≤ k → k < vs.length → vs.length ≤ 1000 → Q (mh.set i (.lst (vs.set k.toNat v))) → SetAt mh (.ref i) (.int k) v Q
  | dctI {i ep : Nat} {k : Int} {kvs : List (Int × MV)} {v : MV} {Q : MH → Prop} : mh[i]? = some (.dctI ep kvs) → kvs.length ≤ 1000 → (∀ ep', Q (mh.set i (.dctI ep' (dput kvs k v)))) → SetAt mh (.ref i) (.int k) v Q
  | dctS {i ep : Nat} {k : Str} {kvs : List (Str × MV)} {v : MV} {Q : MH → Prop} : mh[i]? = some (.dctS ep kvs) → kvs.length ≤ 1000 → (∀ ep', Q (mh.set i (.dctS ep' (dput kvs k v)))) → SetAt mh (.ref i) (.str k) v Q
theorem setItem_at {A : Around} {s : Shared} {a b c : MV} {ra rb rc : Value} {Q : MH → Prop} {P : Unit → Shared → Prop} (hr : HRep D R mh s.heap) (va : VRep R a ra) (vb : VRep R b rb) (vc : VRep R c rc) (h : SetAt mh a b c Q)
    (q : ∀ mh' h' tk', Go [] R R s.heap h' → HRep D R mh' h' → Q mh' → P () { s with heap := h', toks := tk' }) : wpAny (model Prg D.w) A (setItem ra rb rc) P (fun _ _ => False) s := by
  cases h with
  | @lst i k vs _ _ hi h0 hk hz hq =>
    cases va with | @ref _ a ha =>
    cases vb
    obtain ⟨rvs, c', e, vv⟩ := hr.list hi ha
    refine ki_setAt (s := s) (l := a) (items := rvs.toArray) (n := c') e h0 (by omega) (by rw [vv.size]; exact hk) ?_
    have he := Heap.get?_update_self (Obj.mapSeq fun x => x.setIfInBounds k.toNat rc) e rfl
    obtain ⟨c2, hm⟩ := mapSeq_lst (f := fun x => x.setIfInBounds k.toNat rc) (rvs := rvs) (rws := rvs.set k.toNat rc) (k := c') (by simp)
    rw [hm] at he
    obtain ⟨g, hr'⟩ := list_upd hr ha (Heap.SameBut.update ..) he (vv.set _ vc)
    exact q _ _ s.toks g hr' hq
  | dctI hi hz hq =>
    cases va with | @ref _ a ha =>
    cases vb
    obtain ⟨ro, e, rk, hd, kr⟩ := hr.obj _ _ a hi ha
    refine wpAny_setItem_pairs (hsz := by rw [kr.length, sizeLine_eq]; omega) (intKind_is _ _ _ _) (hd.dictAt e).dictOf fun h' hm sb => ?_
    obtain ⟨ep', g, hr'⟩ := dict_upd (mk := MO.dctI) (fun _ _ _ _ => Iff.rfl) hr ha sb hm (kr.put _ vc)
    exact q _ _ _ g hr' (hq ep')
  | dctS hi hz hq =>
    cases va with | @ref _ a ha =>
    cases vb
    obtain ⟨ro, e, rk, hd, kr⟩ := hr.obj _ _ a hi ha
    refine wpAny_setItem_pairs (hsz := by rw [kr.length, sizeLine_eq]; omega) (strKind_is _ _ _ _) (hd.dictAt e).dictOf fun h' hm sb => ?_
    obtain ⟨ep', g, hr'⟩ := dict_upd (mk := MO.dctS) (fun _ _ _ _ => Iff.rfl) hr ha sb hm (kr.put _ vc)
    exact q _ _ _ g hr' (hq ep')
theorem XW_setitem {o i value : Expr} {pos pos' : Pos} {QN : Locals → MH → Prop} {QR : MV → MH → Prop}
    (h : EW D n si value σ (fun v mh1 => EW D n si o σ (fun ov mh2 => EW D n si i σ (fun iv mh3 => SetAt mh3 ov iv v (QN σ)) mh2) mh1) mh)
    (hw : ∀ env : Env, env.scope = si.scope → swapsWith value (some (.Subscript o i pos')) pos.line env = pure false := by intros; with_unfolding_all rfl) : XW D n si (.Assign [.Subscript o i pos'] value pos) σ QN QR mh := by
  intro A env R s ok eo hr nm
  refine wpAny_Assign_Subscript (wpAny_mono (h A env R s ok eo hr nm) (fun rv s1 h1 => ?_) fun _ _ f => f) (hw env eo.scope)
  obtain ⟨R1, mh1, va, H1, tk1, rfl, g1, hr1, v1, q1⟩ := h1
  refine wpAny_mono (q1 A env R1 _ ok eo hr1 (nm.go g1)) (fun ro s2 h2 => ?_) fun _ _ f => f
  obtain ⟨R2, mh2, vb, H2, tk2, rfl, g2, hr2, v2, q2⟩ := h2
  refine wpAny_mono (q2 A env R2 _ ok eo hr2 ((nm.go g1).go g2)) (fun ri s3 h3 => ?_) fun _ _ f => f
  obtain ⟨R3, mh3, vc, H3, tk3, rfl, g3, hr3, v3, q3⟩ := h3
  refine setItem_at (s := { s with heap := H3, toks := tk3 }) hr3 (v2.mono g3.le) v3 (v1.mono (g2.le.trans g3.le)) q3 fun mh' h' tk' g hr' q => ?_
  have g14 := ((g1.trans g2).trans g3).trans g
  exact ⟨R3, mh', h', tk', rfl, g14.weak, hr', σ, nm.go g14, q⟩

/-! displays -/
theorem EW_dictI {pos : Pos} {Q : MV → MH → Prop} (q : ∀ ep, Q (.ref mh.length) (mh ++ [.dctI ep []])) : EW D n si (.Dict [] [] pos) σ Q mh := by
  intro A env R s ok eo hr nm
  refine wpAny_Dict_empty ?_
  have hk := Kept.push s.heap { cls := .type "dict", data := .dict #[] }
  obtain ⟨ep, o, es, e, r⟩ := (Heap.DictOf.new (knd := intKind Prg D.w) s.heap).dictAt
  exact ⟨⟨R.ρ ++ [s.heap.objs.size], R.ι⟩, _, _, _, s.toks, rfl, Go.alloc [] hk (next_none _), hr.alloc (o := .dctI ep []) hk e ⟨[], ⟨es, r⟩, .nil⟩, .ref (snoc_get R _ hr.len), q ep⟩
theorem EW_dictS {pos : Pos} {Q : MV → MH → Prop} (q : ∀ ep, Q (.ref mh.length) (mh ++ [.dctS ep []])) : EW D n si (.Dict [] [] pos) σ Q mh := by
  intro A env R s ok eo hr nm
  refine wpAny_Dict_empty ?_
  have hk := Kept.push s.heap { cls := .type "dict", data := .dict #[] }
  obtain ⟨ep, o, es, e, r⟩ := (Heap.DictOf.new (knd := strKind Prg D.w) s.heap).dictAt
  exact ⟨⟨R.ρ ++ [s.heap.objs.size], R.ι⟩, _, _, _, s.toks, rfl, Go.alloc [] hk (next_none _), hr.alloc (o := .dctS ep []) hk e ⟨[], ⟨es, r⟩, .nil⟩, .ref (snoc_get R _ hr.len), q ep⟩

/-! slices of lists -/
theorem slice_at {A : Around} {s : Shared} {a : Addr} {rvs rout : List Value} {c : Nat} {vs out : List MV} {l u st : Value} {lo hi stp : Option Int} {tk : Nat} {Q : MV → MH → Prop} (hr : HRep D R mh s.heap) (e : s.heap.get? a = some (lstObj rvs c)) (vv : VReps R vs rvs) (hz : vs.length ≤ 1000)
    (pl : IsPart l lo) (pu : IsPart u hi) (ps : IsPart st stp) (h0 : stp ≠ some 0) (hp : slicePick rvs.toArray lo hi stp = rout.toArray) (vo : VReps R out rout) (q : Q (.ref mh.length) (mh ++ [.lst out])) :
    wpAny (model Prg D.w) A (getItem (.ref a) (.ref s.heap.objs.size)) (VPost D R s Q) (fun _ _ => False) { s with heap := s.heap.push { cls := .type "slice", data := .fields #[l, u, st] }, toks := tk } := by
  have hk := Kept.push s.heap { cls := .type "slice", data := .fields #[l, u, st] }
  refine wpAny_getItem_list_slice (lst_is (hk _ _ e)) ⟨_, Heap.get?_push_size _ rfl, rfl, rfl⟩ pl pu ps h0 ?_ (by rw [vv.size, sizeLine_eq]; omega)
  rw [hp]
  refine VPost.after (tk₁ := tk) (Go.grow [] R hk) ?_
  exact VPost.push_list (s := { s with heap := s.heap.push { cls := .type "slice", data := .fields #[l, u, st] }, toks := tk }) (k := 0) (hr.grow hk) (Kept.push _ _) (Heap.get?_push_size _ rfl) vo q
theorem EW_rev {value : Expr} {k : Nat} {p1 p2 p3 pos : Pos} {Q : MV → MH → Prop} (h : EW D n si value σ (fun v mh' => ∃ i vs, v = .ref i ∧ mh'[i]? = some (.lst vs) ∧ vs.length ≤ 1000 ∧ Q (.ref mh'.length) (mh' ++ [.lst vs.reverse])) mh) :
    EW D n si (.Subscript value (.Slice none none (some (.UnaryOp .USub (.Constant (.int 1) k p1) p2)) p3) pos) σ Q mh := by
  intro A env R s ok eo hr nm
  refine Subscript_ (wpAny_mono (h A env R s ok eo hr nm) (fun ra s1 h1 => ?_) fun _ _ f => f)
  obtain ⟨R1, mh1, va, H1, tk1, rfl, g1, hr1, v1, i, vs, rfl, hi, hz, q1⟩ := h1
  cases v1 with | @ref _ a ha =>
  obtain ⟨rvs, c, e, vv⟩ := hr1.list hi ha
  refine wpAny_Slice (wpAny_pure (wpAny_pure (wpAny_UnaryOp (wpAny_Constant_int (neg_int ?_)))))
  have hk := Kept.push H1 { cls := .type "slice", data := .fields #[.none, .none, .int (-1) (tk1 + 1)] }
  refine tail_any (ops := [.ref a, .ref H1.objs.size]) (T := "list") ⟨_, hk _ _ e, rfl⟩ slot_list_getitem.lookup ?_ rfl
  exact wpAny_mono (slice_at (s := { s with heap := H1, toks := tk1 }) hr1 e vv hz .none .none (.int _ _) (by decide) (krv_pick _) vv.reverse q1) (fun _ _ z => VPost.after g1 z) fun _ _ f => f
theorem EW_upto {value u : Expr} {p3 pos : Pos} {Q : MV → MH → Prop} (h : EW D n si value σ (fun v mh' => EW D n si u σ (fun uv mh'' => ∃ (i : Nat) (vs : List MV) (j : Nat), v = .ref i ∧ uv = .int j ∧ mh''[i]? = some (.lst vs) ∧ vs.length ≤ 1000 ∧ Q (.ref mh''.length) (mh'' ++ [.lst (vs.take j)])) mh') mh) :
    EW D n si (.Subscript value (.Slice none (some u) none p3) pos) σ Q mh := by
  intro A env R s ok eo hr nm
  refine Subscript_ (wpAny_mono (h A env R s ok eo hr nm) (fun ra s1 h1 => ?_) fun _ _ f => f)
  obtain ⟨R1, mh1, va, H1, tk1, rfl, g1, hr1, v1, q1⟩ := h1
  refine wpAny_Slice (wpAny_pure (wpAny_mono (q1 A env R1 _ ok eo hr1 (nm.go g1)) (fun ru s2 h2 => wpAny_pure ?_) fun _ _ f => f))
  obtain ⟨R2, mh2, vb, H2, tk2, rfl, g2, hr2, v2, i, vs, j, rfl, rfl, hi, hz, q2⟩ := h2
  have v1' := v1.mono g2.le
  cases v2 with | int _ t =>
  cases v1' with | @ref _ a ha =>
  obtain ⟨rvs, c, e, vv⟩ := hr2.list hi ha
  have hk := Kept.push H2 { cls := .type "slice", data := .fields #[.none, .int j t, .none] }
  refine tail_any (ops := [.ref H2.objs.size, .ref a]) (T := "list") ⟨_, hk _ _ e, rfl⟩ slot_list_getitem.lookup ?_ rfl
  exact wpAny_mono (slice_at (s := { s with heap := H2, toks := tk2 }) hr2 e vv hz .none (.int _ _) .none (by decide) (by rw [slicePick_upto']) (vv.take j) q2) (fun _ _ z => VPost.after g1 (VPost.after g2 z)) fun _ _ f => f
theorem EW_from {value u : Expr} {p3 pos : Pos} {Q : MV → MH → Prop} (h : EW D n si value σ (fun v mh' => EW D n si u σ (fun uv mh'' => ∃ (i : Nat) (vs : List MV) (j : Nat), v = .ref i ∧ uv = .int j ∧ mh''[i]? = some (.lst vs) ∧ vs.length ≤ 1000 ∧ Q (.ref mh''.length) (mh'' ++ [.lst (vs.drop j)])) mh') mh) :
    EW D n si (.Subscript value (.Slice (some u) none none p3) pos) σ Q mh := by
  intro A env R s ok eo hr nm
  refine Subscript_ (wpAny_mono (h A env R s ok eo hr nm) (fun ra s1 h1 => ?_) fun _ _ f => f)
  obtain ⟨R1, mh1, va, H1, tk1, rfl, g1, hr1, v1, q1⟩ := h1
  refine wpAny_Slice (wpAny_mono (q1 A env R1 _ ok eo hr1 (nm.go g1)) (fun ru s2 h2 => wpAny_pure (wpAny_pure ?_)) fun _ _ f => f)
  obtain ⟨R2, mh2, vb, H2, tk2, rfl, g2, hr2, v2, i, vs, j, rfl, rfl, hi, hz, q2⟩ := h2
  have v1' := v1.mono g2.le
  cases v2 with | int _ t =>
  cases v1' with | @ref _ a ha =>
  obtain ⟨rvs, c, e, vv⟩ := hr2.list hi ha
  have hk := Kept.push H2 { cls := .type "slice", data := .fields #[.int j t, .none, .none] }
  refine tail_any (ops := [.ref H2.objs.size, .ref a]) (T := "list") ⟨_, hk _ _ e, rfl⟩ slot_list_getitem.lookup ?_ rfl
  exact wpAny_mono (slice_at (s := { s with heap := H2, toks := tk2 }) hr2 e vv hz (.int _ _) .none .none (by decide) (by rw [slicePick_from']) (vv.drop j) q2) (fun _ _ z => VPost.after g1 (VPost.after g2 z)) fun _ _ f => f
end
end Mine

namespace Mine
section
variable {D : WD} {n : Nat} {si : SI} {σ : Locals} {mh : MH} {R : RR}

/-! making an object -/
theorem ROk.make {A : Around} (x : ROk (n + 1) A) (C : Addr) (vals : List Value) : ROk n (A.under (.builtin "type.__call__" ⟨.ref C :: vals, []⟩)) :=
  ⟨x.handled, by rw [depth_under_make]; have := x.depth; omega, by rw [units_under_make]; have := x.units; omega⟩
theorem KW_make {C f : Addr} {args : List MV} {Q : MV → MH → Prop} (h : KW D n (.ref f) (.obj C mh.length :: args) (fun v mh' => v = .none ∧ Q (.obj C mh.length) mh') (mh ++ [.fld []]))
    (hm : makesIn (Kf D.w) C = true := by with_unfolding_all rfl) (hi : findIn (Kf D.w) (.ref C) (Str.ofString "__init__") = some (some (.ref f)) := by with_unfolding_all rfl) (hf : typeIn (Kf D.w) (.ref f) = some (.type "function") := by with_unfolding_all rfl) : KW D (n + 1) (.ref C) args Q mh := by
  intro A R s rargs ok hr vr
  obtain ⟨hh, g, d, t, os⟩ := s
  have k1 : Kept hh (hh.push emptyDict) := Kept.push _ _
  have k2 : Kept (hh.push emptyDict) ((hh.push emptyDict).push (instObj C hh.objs.size)) := Kept.push _ _
  have e1 : (hh.push emptyDict).get? hh.objs.size = some emptyDict := Heap.get?_push_size _ rfl
  have hz : (hh.push emptyDict).objs.size = hh.objs.size + 1 := Heap.size_push ..
  have e2 : ((hh.push emptyDict).push (instObj C hh.objs.size)).get? (hh.objs.size + 1) = some (instObj C hh.objs.size) := by
    have := Heap.get?_push_size (hh.push emptyDict) (o := instObj C hh.objs.size) rfl
    rwa [hz] at this
  have hr1 : HRep D ⟨R.ρ ++ [hh.objs.size], R.ι⟩ (mh ++ [.fld []]) (hh.push emptyDict) := hr.alloc (o := .fld []) k1 e1 ⟨[], 0, rfl, .nil⟩
  have na : (hh.push emptyDict).get? (hh.objs.size + 1) = none := Heap.get?_none_of_le (by rw [hz]; exact Nat.le_refl _)
  have hr2 := hr1.fix (ro := instObj C hh.objs.size) k2 na e2
  have g12 : Go [] R ⟨R.ρ ++ [hh.objs.size], (hh.objs.size + 1, instObj C hh.objs.size) :: R.ι⟩ hh ((hh.push emptyDict).push (instObj C hh.objs.size)) :=
    (Go.alloc (R := R) [] k1 (next_none _)).trans (Go.fix (R := ⟨R.ρ ++ [hh.objs.size], R.ι⟩) [] k2 na)
  refine make_core (makes_of hr.X hm) (looks_findIn hr.X hi) (fun self => bind_fn hr.X self hf) (.inl rfl) ?_
  refine codeAny_mono (h _ ⟨R.ρ ++ [hh.objs.size], (hh.objs.size + 1, instObj C hh.objs.size) :: R.ι⟩ ⟨(hh.push emptyDict).push (instObj C hh.objs.size), g, d, t, os⟩ (.ref (hh.objs.size + 1) :: rargs) (ok.make C rargs) hr2 (.cons (.obj (snoc_get R _ hr.len) List.mem_cons_self) (vr.mono g12.le))) fun r s' z => ?_
  rcases r with e | (v | _ | _ | _) <;> first | exact z.elim | skip
  obtain ⟨R', mh', mv, h', tk', rfl, g3, hr', v', rfl, q⟩ := z
  cases v'
  refine ⟨rfl, R', mh', _, h', tk', rfl, g12.trans g3, hr', ?_, q⟩
  exact .obj (g3.le.rho _ _ (snoc_get R _ hr.len)) (g3.le.iota _ List.mem_cons_self)

/-! [None] * n -/
theorem foldl_rep (v : Value) : ∀ (k : Nat) (acc : Array Value), List.foldl (fun x1 x2 => x1 ++ x2) acc (List.replicate k #[v]) = acc ++ (List.replicate k v).toArray
  | 0, acc => by simp
  | k + 1, acc => by
    rw [List.replicate_succ, List.foldl_cons, foldl_rep v k, List.replicate_succ]
    apply Array.toList_inj.mp
    simp
theorem mul_raw {A : Around} {s : Shared} {l : Addr} {items : Array Value} {k : Nat} {x : Int} {u : Tok} {Q : Value → Shared → Prop}
    (hl : s.heap.get? l = some { cls := .type "list", dict := none, data := .seq items k, slots := #[] })
    (hlo : -(2 ^ 63 : Int) ≤ x) (hhi : x < 2 ^ 63) (hsz : items.size * x.toNat ≤ 2 ^ 24)
    (h : Q (.ref s.heap.objs.size) { s with heap := s.heap.push { cls := .type "list", data := .seq (List.foldl (fun x1 x2 => x1 ++ x2) #[] (List.replicate (if items.isEmpty = true then 0 else x.toNat) items)) } }) :
    wpAny (model Prg D.w) A (binaryOp .Mult (.ref l) (.int x u)) Q (fun _ _ => False) s :=
  wpAny_binaryOp_repeat_ref (T := "list") (U := "int") (by decide) ⟨_, hl, rfl⟩ (fun s' => typeIs_int s' x u) noFill_list_mul PySem.F.fills_int_mul PySem.F.slot_int_rmul repeat_list PySem.F.slot_int_index.lookup
    (call_meets PySem.F.slot_int_rmul (typeIs_int s x u) PySem.F.entry_int_rmul (PySem.F.args_int_rmul_2 _ _) (int___rmul___int_list x u l items k)
      ⟨hl, rfl, ⟨_, hl, rfl⟩, call_meets PySem.F.slot_list_mul ⟨_, hl, rfl⟩ PySem.F.entry_list_mul (PySem.F.args_list_mul_2 _ _)
        (AutoListH.list___mul___list_int_3 l items k x u (by simp [Builtin.List.listFitsIndex]; omega) (by omega) (by simp [Builtin.List.listTooLong, sizeLine]; omega))
        ⟨hl, h⟩⟩)
theorem OW_mul_list {i : Nat} {k : Nat} {v : MV} {Q : MV → MH → Prop} (hi : mh[i]? = some (.lst [v])) (hk : k ≤ 1000) (q : Q (.ref mh.length) (mh ++ [.lst (List.replicate k v)])) : OW2 D n (binaryOp .Mult) (.ref i) (.int k) Q mh := by
  intro A R s ra rb ok hr va vb
  cases va with | @ref _ a ha =>
  cases vb with | int _ u =>
  obtain ⟨rvs, c, e, vv⟩ := hr.list hi ha
  obtain ⟨rv, rfl, v1⟩ := vv.one'
  have e1 : List.foldl (fun x1 x2 => x1 ++ x2) #[] (List.replicate (if (#[rv] : Array Value).isEmpty = true then 0 else (k : Int).toNat) #[rv]) = (List.replicate k rv).toArray := by
    rw [foldl_rep]; simp
  refine mul_raw e (x := k) (by omega) (by omega) (by simp; omega) ?_
  rw [e1]
  exact VPost.push_list (k := 0) hr (Kept.push _ _) (Heap.get?_push_size _ rfl) (VReps.replicate v1 k) q

/-! equal data -/
mutual
noncomputable def mvP : MV → PyData
  | .int i => .int i
  | .tup vs => .tuple (mvPs vs)
  | _ => .none
noncomputable def mvPs : List MV → List PyData
  | [] => []
  | v :: vs => mvP v :: mvPs vs
end
mutual
/-- whole numbers and tuples of such, no deeper than so -/
noncomputable def isD : Nat → MV → Bool
  | _, .int _ => true
  | d + 1, .tup vs => isDs d vs
  | _, _ => false
noncomputable def isDs : Nat → List MV → Bool
  | _, [] => true
  | d, v :: vs => isD d v && isDs d vs
end
mutual
theorem mvP_reads {h : Heap} (hr : HRep D R mh h) : ∀ {d : Nat} {v : MV} {rv : Value}, isD d v = true → VRep R v rv → ∃ as, Reads h rv (mvP v) as
  | _, _, _, _, .int i t => ⟨_, .int i t⟩
  | 0, _, _, hd, .tup hm vs => by simp [isD] at hd
  | d + 1, _, _, hd, .tup (a := a) (rvs := rvs) (n := k) hm vs => by
    obtain ⟨as, r⟩ := mvPs_reads hr (d := d) (by simpa [isD] using hd) vs
    exact ⟨_, .tuple (hr.imm _ hm) rfl rfl (by simpa using r)⟩
  | 0, _, _, hd, .none => by simp [isD] at hd
  | _ + 1, _, _, hd, .none => by simp [isD] at hd
  | 0, _, _, hd, .bool _ => by simp [isD] at hd
  | _ + 1, _, _, hd, .bool _ => by simp [isD] at hd
  | 0, _, _, hd, .str _ _ => by simp [isD] at hd
  | _ + 1, _, _, hd, .str _ _ => by simp [isD] at hd
  | 0, _, _, hd, .ref _ => by simp [isD] at hd
  | _ + 1, _, _, hd, .ref _ => by simp [isD] at hd
  | 0, _, _, hd, .obj _ _ => by simp [isD] at hd
  | _ + 1, _, _, hd, .obj _ _ => by simp [isD] at hd
  | 0, _, _, hd, .rng _ _ _ _ => by simp [isD] at hd
  | _ + 1, _, _, hd, .rng _ _ _ _ => by simp [isD] at hd
  | 0, _, _, hd, .ilst _ _ _ _ => by simp [isD] at hd
  | _ + 1, _, _, hd, .ilst _ _ _ _ => by simp [isD] at hd
theorem mvPs_reads {h : Heap} (hr : HRep D R mh h) : ∀ {d : Nat} {vs : List MV} {rvs : List Value}, isDs d vs = true → VReps R vs rvs → ∃ as, ReadsAll h rvs (mvPs vs) as
  | _, _, _, _, .nil => ⟨_, .nil⟩
  | d, _, _, hd, .cons v r => by
    rw [isDs, Bool.and_eq_true] at hd
    obtain ⟨as, x⟩ := mvP_reads hr hd.1 v
    obtain ⟨bs, y⟩ := mvPs_reads hr hd.2 r
    exact ⟨_, .cons x y⟩
end
mutual
theorem mvP_lay : ∀ (d : Nat) (v : MV), isD d v = true → (mvP v).canLay0 = true ∧ (mvP v).depth ≤ d
  | d, .int _, _ => by simp [mvP, PyData.canLay0, PyData.depth]
  | 0, .tup vs, h => by simp [isD] at h
  | d + 1, .tup vs, h => by
    have := mvPs_lay d vs (by simpa [isD] using h)
    simp only [mvP, PyData.canLay0, PyData.depth]
    exact ⟨this.1, by omega⟩
  | 0, .none, h => by simp [isD] at h
  | _ + 1, .none, h => by simp [isD] at h
  | 0, .bool _, h => by simp [isD] at h
  | _ + 1, .bool _, h => by simp [isD] at h
  | 0, .str _, h => by simp [isD] at h
  | _ + 1, .str _, h => by simp [isD] at h
  | 0, .ref _, h => by simp [isD] at h
  | _ + 1, .ref _, h => by simp [isD] at h
  | 0, .obj _ _, h => by simp [isD] at h
  | _ + 1, .obj _ _, h => by simp [isD] at h
  | 0, .rng _ _ _, h => by simp [isD] at h
  | _ + 1, .rng _ _ _, h => by simp [isD] at h
  | 0, .ilst _, h => by simp [isD] at h
  | _ + 1, .ilst _, h => by simp [isD] at h
theorem mvPs_lay : ∀ (d : Nat) (vs : List MV), isDs d vs = true → PyData.canLayAll0 (mvPs vs) = true ∧ PyData.depthAll (mvPs vs) ≤ d
  | d, [], _ => by simp [mvPs, PyData.canLayAll0, PyData.depthAll]
  | d, v :: vs, h => by
    rw [isDs, Bool.and_eq_true] at h
    have h1 := mvP_lay d v h.1
    have h2 := mvPs_lay d vs h.2
    simp only [mvPs, PyData.canLayAll0, PyData.depthAll, h1.1, h2.1, Bool.and_self, true_and]
    omega
end
mutual
theorem mvP_eqv : ∀ (d : Nat) (v : MV), isD d v = true → (mvP v).eqv (mvP v) = true
  | d, .int _, _ => by simp [mvP, PyData.eqv]
  | 0, .tup vs, h => by simp [isD] at h
  | d + 1, .tup vs, h => by
    have := mvPs_eqv d vs (by simpa [isD] using h)
    simpa only [mvP, PyData.eqv] using this
  | 0, .none, h => by simp [isD] at h
  | _ + 1, .none, h => by simp [isD] at h
  | 0, .bool _, h => by simp [isD] at h
  | _ + 1, .bool _, h => by simp [isD] at h
  | 0, .str _, h => by simp [isD] at h
  | _ + 1, .str _, h => by simp [isD] at h
  | 0, .ref _, h => by simp [isD] at h
  | _ + 1, .ref _, h => by simp [isD] at h
  | 0, .obj _ _, h => by simp [isD] at h
  | _ + 1, .obj _ _, h => by simp [isD] at h
  | 0, .rng _ _ _, h => by simp [isD] at h
  | _ + 1, .rng _ _ _, h => by simp [isD] at h
  | 0, .ilst _, h => by simp [isD] at h
  | _ + 1, .ilst _, h => by simp [isD] at h
theorem mvPs_eqv : ∀ (d : Nat) (vs : List MV), isDs d vs = true → PyData.eqvAll (mvPs vs) (mvPs vs) = true
  | d, [], _ => by simp [mvPs, PyData.eqvAll]
  | d, v :: vs, h => by
    rw [isDs, Bool.and_eq_true] at h
    simp only [mvPs, PyData.eqvAll, mvP_eqv d v h.1, mvPs_eqv d vs h.2, Bool.and_self]
end
/-- two tuples of the same data -/
theorem OW_ne_same {v : MV} {d : Nat} {Q : Bool → MH → Prop} (hd : isD d v = true) (hb : d ≤ 60) (q : Q false mh) : OW2 D (n + 10) (compareOp .NotEq) v v (asBool Q) mh := by
  intro A R s ra rb ok hr va vb
  obtain ⟨as, r1⟩ := mvP_reads hr hd va
  obtain ⟨bs, r2⟩ := mvP_reads hr hd vb
  have l := mvP_lay d v hd
  have sh : SeqAt.shaped (mvP v) = true := by unfold SeqAt.shaped; rw [l.1, Bool.true_and]; exact decide_eq_true (by omega)
  refine ne_dataH r1 r2 sh sh (by have := ok.units; omega) ?_
  rw [mvP_eqv d v hd]
  exact VPost.now' hr (.bool _) q
/-- two lists of the same data -/
theorem OW_ne_lists {i j : Nat} {vs : List MV} {d : Nat} {Q : Bool → MH → Prop} (hi : mh[i]? = some (.lst vs)) (hj : mh[j]? = some (.lst vs)) (hd : isDs d vs = true) (hb : d ≤ 60) (q : Q false mh) : OW2 D (n + 10) (compareOp .NotEq) (.ref i) (.ref j) (asBool Q) mh := by
  intro A R s ra rb ok hr va vb
  cases va with | @ref _ a ha =>
  cases vb with | @ref _ b hb' =>
  obtain ⟨rvs, c, e, vv⟩ := hr.list hi ha
  obtain ⟨rws, c', e', vw⟩ := hr.list hj hb'
  obtain ⟨as, r1⟩ := mvPs_reads hr hd vv
  obtain ⟨bs, r2⟩ := mvPs_reads hr hd vw
  have l := mvPs_lay d vs hd
  have sh : SeqAt.shaped (.list (mvPs vs)) = true := by
    unfold SeqAt.shaped
    simp only [PyData.canLay0, PyData.depth, l.1, Bool.true_and]
    exact decide_eq_true (by omega)
  refine ne_dataH (reads_list_at e rfl rfl (by simpa using r1)) (reads_list_at e' rfl rfl (by simpa using r2)) sh sh (by have := ok.units; omega) ?_
  have : PyData.eqv (.list (mvPs vs)) (.list (mvPs vs)) = true := by simp only [PyData.eqv]; exact mvPs_eqv d vs hd
  rw [this]
  exact VPost.now' hr (.bool _) q
/-- a list against the empty one -/
theorem OW_eq_nil {i j : Nat} {vs : List MV} {Q : Bool → MH → Prop} (hi : mh[i]? = some (.lst vs)) (hj : mh[j]? = some (.lst [])) (q : Q vs.isEmpty mh) : OW2 D (n + 10) (compareOp .Eq) (.ref i) (.ref j) (asBool Q) mh := by
  intro A R s ra rb ok hr va vb
  cases va with | @ref _ a ha =>
  cases vb with | @ref _ b hb' =>
  obtain ⟨rvs, c, e, vv⟩ := hr.list hi ha
  obtain ⟨rws, c', e', vw⟩ := hr.list hj hb'
  cases vw
  cases vs with
  | nil =>
    cases vv
    exact ke_eq_ints (lst_is e) (lst_is e') .nil .nil (by have := ok.units; omega) (VPost.now' hr (.bool _) q)
  | cons x xs =>
    have hl := vv.length
    exact SeqAt.eq_list_lengthsAt (lst_is e) (lst_is e') (by simp [hl]) (by have := ok.units; omega) (VPost.now' hr (.bool _) q)
theorem OW_ne_nil {i j : Nat} {vs : List MV} {Q : Bool → MH → Prop} (hi : mh[i]? = some (.lst vs)) (hj : mh[j]? = some (.lst [])) (q : Q (!vs.isEmpty) mh) : OW2 D (n + 10) (compareOp .NotEq) (.ref i) (.ref j) (asBool Q) mh := by
  intro A R s ra rb ok hr va vb
  cases va with | @ref _ a ha =>
  cases vb with | @ref _ b hb' =>
  obtain ⟨rvs, c, e, vv⟩ := hr.list hi ha
  obtain ⟨rws, c', e', vw⟩ := hr.list hj hb'
  cases vw
  cases vs with
  | nil =>
    cases vv
    exact ke_ne_ints (lst_is e) (lst_is e') .nil .nil (by have := ok.units; omega) (VPost.now' hr (.bool _) q)
  | cons x xs =>
    have hl := vv.length
    exact SeqAt.RcNeAt.lists_lengths (lst_is e) (lst_is e') (by simp [hl]) (by have := ok.units; omega) _ _ _ _ (VPost.now' hr (.bool _) q)
/-- a number in a list of numbers -/
theorem OW_in_ints {j : Nat} {k : Int} {ks : List Int} {Q : Bool → MH → Prop} (hj : mh[j]? = some (.lst (ks.map .int))) (q : Q (decide (k ∈ ks)) mh) : OW2 D (n + 10) (compareOp .In) (.int k) (.ref j) (asBool Q) mh := by
  intro A R s ra rb ok hr va vb
  cases va with | int _ t =>
  cases vb with | @ref _ b hb' =>
  obtain ⟨rws, c', e', vw⟩ := hr.list hj hb'
  have hd : isDs 0 (ks.map .int) = true := by
    clear hj vw q
    induction ks with
    | nil => rfl
    | cons x xs ih => rw [List.map_cons, isDs, ih]; rfl
  obtain ⟨as, r1⟩ := mvPs_reads hr hd vw
  have l := mvPs_lay 0 _ hd
  have ea : ((mvPs (ks.map .int)).any fun y => PyData.eqv y (.int k)) = decide (k ∈ ks) := by
    clear hj vw q hd r1 l
    induction ks with
    | nil => simp [mvPs]
    | cons x xs ih =>
      rw [List.map_cons, mvPs, List.any_cons, ih]
      simp only [mvP, PyData.eqv, List.mem_cons]
      by_cases h1 : x = k
      · subst h1; simp
      · simp [h1, Ne.symm h1]
  refine SeqAt.in_list_reads (reads_list_at e' rfl rfl (by simpa using r1)) (.int k t) l.1 rfl ?_ ?_
  · have := ok.units; have := Nat.min_le_left (PyData.depthAll (mvPs (ks.map MV.int))) (PyData.int k).depth; omega
  · rw [ea]; exact VPost.now' hr (.bool _) q
end
end Mine

namespace Mine
theorem keys_miss : typeLookup (.type "list") (Str.ofString "keys") = pure none := am_miss_of_fast (by kernel_rfl)
theorem getAttr?_miss_list {prog : Program} {w : World} {A : Around} {E : Value → Shared → Prop} {s : Shared} {a : Addr} {xs : Array Value} {k : Nat} {Q : Option Value → Shared → Prop}
    (hx : s.heap.get? a = some { cls := .type "list", dict := none, data := .seq xs k, slots := #[] }) (hA : A.handled = none)
    (h : ∀ h' tk, Kept s.heap h' → Q none { s with heap := h', toks := tk }) :
    wpAny (model prog w) A (getAttr? (.ref a) (Str.ofString "keys")) Q E s := by
  obtain ⟨hp, g, d, tk, os⟩ := s
  have hT : ∀ tk', (⟨hp, g, d, tk', os⟩ : Shared).TypeIs (.ref a) "list" := fun _ => ⟨_, hx, rfl⟩
  have f1 := sub_AttributeError
  have f3 := PySem.F.slot_list_getattribute.lookup
  have f4 := PySem.F.slot_list_getattribute.bind (.ref a)
  have f5 := am_list_getattr_none
  unfold getAttr? getAttrBy? getAttrBy
  repeat (any_goals (first | assumption | exact hT _ | ((with_reducible show wpAny _ _ (call (Value.builtin "list.__getattribute__") _ _) _ _ _); refine call_meets PySem.F.slot_list_getattribute (hT _) am_entry_list_getattribute (PySem.F.args_list_getattribute_2 _ _) (meets_getattribute_miss_list a xs k #[] (Str.ofString "keys") _ keys_miss (by decide) (by decide)) ⟨hx, hA, fun h' tk' e hx' => ?_⟩) | wp_step))
  obtain ⟨t', u', he⟩ := hx'.there
  show wpAny _ _ (getattributeRaised _ _ _ _ _ _ _) _ _ _
  unfold getattributeRaised
  repeat (any_goals (first | assumption | wp_step))
  exact h _ _ hx'.keeps
end Mine
namespace Mine
theorem upd_entry : entryFor table "dict.update.loop" = some Builtin.«dict.update.loop» := entryFor_of_fast (by kernel_rfl)
theorem upd_plain : plainId "dict.update.loop" = true := by decide +kernel
section
variable {D : WD} {n : Nat} {mh : MH} {R : RR}
theorem dict_loop {i₀ : Nat} {kvs : List (Int × MV)} (hlen : kvs.length ≤ 900) (hnd : (kvs.map (·.1)).Nodup) (hm : mh[i₀]? = some (.lst (kvs.map fun p => .tup [.int p.1, p.2]))) {d I l : Addr} (hdI : d ≠ I) {s₀ : Shared} {A : Around} (hA : A.handled = none) {P : Result → Shared → Prop}
    (fin : ∀ R' h' tk' rk, (∀ a ∈ [d, I], s₀.heap.get? a = none) → Go [d] R R' s₀.heap h' → HRep D R' mh h' → Off D R' [d] h' → Heap.DictOf (intKind Prg D.w) h' d rk → KReps R' kvs rk → P (.ok (.ret .none)) { s₀ with heap := h', toks := tk' })
    (hfr : ∀ a ∈ [d, I], s₀.heap.get? a = none) :
    ∀ (m i : Nat) (R' : RR) (h' : Heap) (tk' : Nat) (rk : List (Int × Value)), m = kvs.length - i → i ≤ kvs.length → Go [I, d] R R' s₀.heap h' → HRep D R' mh h' → Off D R' [I] h' → Off D R' [d] h' → h'.IsListIter I l i → R'.ρ[i₀]? = some l →
      Heap.DictOf (intKind Prg D.w) h' d rk → KReps R' (kvs.take i) rk →
      codeAny (model Prg D.w) A (.builtin "dict.update.loop" ⟨[.ref d, .ref I, .int i 0, .none], []⟩) P { s₀ with heap := h', toks := tk' } := by
  intro m
  induction m with
  | zero =>
    intro i R' h' tk' rk hmi hi g hr oI od hit hl hd kr
    have hie : i = kvs.length := by omega
    refine codeAny_builtin upd_entry ?_
    rw [Around.under_plainId upd_plain _]
    unfold Builtin.«dict.update.loop»
    have iT := It.list (D := D) (I := I) (l := l) (j := i₀) (vs := kvs.map fun p => .tup [.int p.1, p.2])
    refine wpAny_bind (wpAny_mono (iT.done R' mh A.in1 { s₀ with heap := h', toks := tk' } hA hr hm ⟨by rw [List.length_map, ← hie]; exact hit, hl⟩ oI) (fun r s4 z => ?_) fun _ _ f => f.elim)
    obtain ⟨H4, tk4, rfl, rfl, k4⟩ := z
    have hdn : d ∉ [I] := by simpa using hdI
    refine wpAny_bind (wpAny_pure (wpAny_pure ?_))
    refine fin R' H4 tk4 rk hfr (g.last (X := [I]) (Y := [d]) (fun a ha => hfr a (by simp at ha; simp [ha])) k4) (hr.but oI k4) ⟨od.off, fun a ha => ?_⟩ ?_ ?_
    · obtain ⟨o, e⟩ := od.isIn a ha
      exact ⟨o, k4 a o (by rw [List.mem_singleton.mp ha]; exact hdn) e⟩
    · obtain ⟨o, es, ep, e, r⟩ := hd
      exact ⟨o, es, ep, k4 d o hdn e, r⟩
    · rw [hie, List.take_length] at kr; exact kr
  | succ m ih =>
    intro i R' h' tk' rk hmi hi g hr oI od hit hl hd kr
    have hlt : i < kvs.length := by omega
    have hv : (kvs.map fun p => MV.tup [.int p.1, p.2])[i]? = some (.tup [.int kvs[i].1, kvs[i].2]) := by rw [List.getElem?_map, List.getElem?_eq_getElem hlt]; rfl
    refine codeAny_builtin upd_entry ?_
    rw [Around.under_plainId upd_plain _]
    unfold Builtin.«dict.update.loop»
    have iT := It.list (D := D) (I := I) (l := l) (j := i₀) (vs := kvs.map fun p => .tup [.int p.1, p.2])
    refine wpAny_bind (wpAny_mono (iT.item i R' mh A.in1 { s₀ with heap := h', toks := tk' } _ hA hr hm ⟨hit, hl⟩ oI hv) (fun r s4 z => ?_) fun _ _ f => f.elim)
    obtain ⟨rv, R4, H4, tk4, rfl, rfl, g4, hr4, v4, hit4, hl4⟩ := z
    have oI4 := oI.go g4
    have hdn : ∀ a ∈ [d], a ∉ [I] := fun a ha => by rw [List.mem_singleton.mp ha]; simpa using hdI
    have od4 := od.go g4
    have hd4 : Heap.DictOf (intKind Prg D.w) H4 d rk := by
      obtain ⟨o, es, ep, e, r⟩ := hd
      exact ⟨o, es, ep, od.keep g4 hdn d List.mem_cons_self o e, r⟩
    cases v4 with | @tup a rvs c _ hma vr =>
    obtain ⟨rk1, rv1, rfl, vk, vv⟩ := vr.two'
    cases vk with | int _ t =>
    have ea := hr4.imm _ hma
    refine wpAny_bind (wpAny_holding (wpAny_bind (wpAny_tryCatch ?_)))
    unfold Builtin.Dict.pairItems
    refine wpAny_bind (wpAny_typeOf ⟨_, ea, rfl⟩ ?_)
    rw [if_pos (by decide)]
    refine wpAny_bind (wpAny_seqItems ea rfl (wpAny_pure ?_))
    show wpAny _ _ (holding _ (dictSet d _ rv1)) _ _ _
    refine wpAny_holding (wpAny_dictSet_pairs (hsz := by rw [kr.length, List.length_take, sizeLine_eq]; omega) (intKind_is _ _ _ _) hd4 fun h5 hd5 sb5 => ?_)
    have k5 : ∀ b o, b ∉ [d] → H4.get? b = some o → h5.get? b = some o := fun b o hb e => sb5.extBut b o (by simpa using hb) e
    have hd5in : ∃ o, h5.get? d = some o := by obtain ⟨o, es, ep, e, r⟩ := hd5; exact ⟨o, e⟩
    have g5 : Go [d] R4 R4 H4 h5 := Go.but od4 k5 fun a ha => by rw [List.mem_singleton.mp ha]; exact hd5in
    have hnew : kvs[i].1 ∉ (kvs.take i).map (·.1) := by
      intro hmem
      obtain ⟨p, hp, e⟩ := List.mem_map.mp hmem
      obtain ⟨j, hj, e2⟩ := List.mem_take_iff_getElem.mp hp
      have hji : j < i := by omega
      have := List.pairwise_iff_getElem.mp hnd j i (by rw [List.length_map]; omega) (by rw [List.length_map]; exact hlt) hji
      simp only [List.getElem_map] at this
      rw [e2] at this
      exact this e
    have kr5 : KReps R4 (kvs.take (i + 1)) (stored rk kvs[i].1 rv1) := by
      have := (kr.mono g4.le).put kvs[i].1 vv
      rw [dput_new hnew] at this
      rw [List.take_succ_eq_append_getElem hlt]
      exact this
    refine wpAny_pure ⟨plainId_quiet upd_plain _, ?_⟩
    have hidn : ∀ a ∈ [I], a ∉ [d] := fun a ha => by rw [List.mem_singleton.mp ha]; simpa using hdI.symm
    have := ih (i + 1) R4 h5 (tk4 + 1) _ (by omega) hlt ((g.trans (g4.wide fun a ha => by simp at ha; simp [ha])).trans (g5.wide fun a ha => by simp at ha; simp [ha])) (hr4.but od4 k5) (oI4.go g5) (od4.go g5) (hit4.at fun o e => oI4.keep g5 hidn I List.mem_cons_self o e) hl4 hd5 kr5
    exact this
theorem CW_dictI {i : Nat} {kvs : List (Int × MV)} {Q : MV → MH → Prop} (hi : mh[i]? = some (.lst (kvs.map fun p => .tup [.int p.1, p.2]))) (hlen : kvs.length ≤ 900) (hnd : (kvs.map (·.1)).Nodup) (q : ∀ ep, Q (.ref mh.length) (mh ++ [.dctI ep kvs])) : CW D n (.type "dict") [.ref i] Q mh := by
  intro A R s rargs ok hr vr
  obtain ⟨ra, rfl, va⟩ := vr.one'
  cases va with | @ref _ l ha =>
  obtain ⟨rvs, c, e, vv⟩ := hr.list hi ha
  refine callType_codes (Q₁ := fun obj s₁ => obj = .ref s.heap.objs.size ∧ s₁ = { s with heap := s.heap.push { cls := .type "dict", data := .dict #[] } }) PySem.F.kt_called_dict (PySem.F.kt_typeCall_dict_1 _) PySem.F.entry_dict_init (kt_code_dict_new _ ⟨rfl, rfl⟩) ?_
  rintro obj s₁ ⟨rfl, rfl⟩
  have hnew : (s.heap.push { cls := .type "dict", data := .dict #[] }).DictOf (intKind Prg D.w) s.heap.objs.size [] := Heap.DictOf.new s.heap
  refine ⟨hnew.typeIs, PySem.F.args_dict_init_2 _ _, ?_⟩
  have k1 : Kept s.heap (s.heap.push { cls := .type "dict", data := .dict #[] }) := Kept.push _ _
  have e1 := k1 _ _ e
  unfold Builtin.«dict.__init__»
  refine wpAny_bind ?_
  unfold Builtin.Dict.selfAndRest
  refine wpAny_bind (wpAny_notOrdered_dict hnew.typeIs ?_)
  show wpAny _ _ (pure (s.heap.objs.size, [Value.ref l])) _ _ _
  refine wpAny_pure ?_
  show wpAny _ _ (Builtin.Dict.updateFrom "dict.__init__" s.heap.objs.size (.ref l) [] .none) _ _ _
  unfold Builtin.Dict.updateFrom
  refine wpAny_bind (wpAny_typeOf ⟨_, e1, rfl⟩ ?_)
  rw [if_pos (by decide)]
  refine wpAny_bind (getAttr?_miss_list e1 ok.handled fun h2 tk2 k2 => ?_)
  rw [if_pos (by rfl)]
  refine wpAny_bind (wpAny_rule ?_)
  have e2 := k2 _ _ e1
  refine wpAny_bind (wpAny_pyIter_list (lst_is e2) ?_)
  have k3 : Kept h2 (h2.push { cls := .type "list_iterator", data := .fields #[.ref l, .int 0 0] }) := Kept.push _ _
  refine wpAny_pure ⟨plainId_quiet upd_plain _, ?_⟩
  have kall : Kept s.heap (h2.push { cls := .type "list_iterator", data := .fields #[.ref l, .int 0 0] }) := fun b o e => k3 _ _ (k2 _ _ (k1 _ _ e))
  have hdin : ∃ o, h2.get? s.heap.objs.size = some o := by obtain ⟨o, es, ep, e, r⟩ := hnew; exact ⟨o, k2 _ _ e⟩
  have hdI : s.heap.objs.size ≠ h2.objs.size := by obtain ⟨o, e⟩ := hdin; exact Nat.ne_of_lt (Heap.lt_size e)
  have nI : s.heap.get? h2.objs.size = none := none_of_there (fun b o e => ⟨o, k2 _ _ (k1 _ _ e)⟩) (next_none h2)
  refine dict_loop (D := D) (mh := mh) (R := R) hlen hnd hi (d := s.heap.objs.size) (I := h2.objs.size) (l := l) hdI (s₀ := s) (A := A.in1) ok.handled (P := wants _ _) ?_ ?_ kvs.length 0 R _ tk2 [] rfl (Nat.zero_le _) (Go.grow _ _ kall) (hr.grow kall) ⟨fun a ha => ?_, fun a ha => ?_⟩ ⟨fun a ha => ?_, fun a ha => ?_⟩ ⟨_, Heap.get?_push_size _ rfl, rfl, rfl⟩ ha ?_ .nil
  · intro R' h' tk' rk hfr g hr' od hd kr
    have hmsD := hr.msNew
    obtain ⟨ep, o, es, ed, r⟩ := hd.dictAt
    have le := RLe.snoc R' s.heap.objs.size
    refine ⟨rfl, ⟨R'.ρ ++ [s.heap.objs.size], R'.ι⟩, mh ++ [.dctI ep kvs], .ref mh.length, h', tk', rfl, ?_, hr'.adopt (o := .dctI ep kvs) (od.off _ List.mem_cons_self) hmsD ed ⟨rk, ⟨es, r⟩, kr.mono le⟩, .ref (snoc_get R' _ hr'.len), q ep⟩
    have gl : Go [] R R' s.heap h' := g.drop fun a ha => .inr (hfr a (by simp at ha; simp [ha]))
    exact ⟨gl.le.trans le, gl.there, gl.keep, fun a ha => (List.mem_append.mp ha).elim (gl.fresh a) fun q => .inr (by rw [List.mem_singleton.mp q]; exact next_none _), gl.freshi⟩
  · intro a ha
    rcases List.mem_cons.mp ha with rfl | ha
    · exact next_none _
    · rw [List.mem_singleton.mp ha]; exact nI
  · rw [List.mem_singleton.mp ha]; exact hr.newOff nI
  · rw [List.mem_singleton.mp ha]; exact ⟨_, Heap.get?_push_size _ rfl⟩
  · rw [List.mem_singleton.mp ha]; exact hr.newOff (next_none _)
  · rw [List.mem_singleton.mp ha]; obtain ⟨o, e⟩ := hdin; exact ⟨o, k3 _ _ e⟩
  · obtain ⟨o, es, ep, e, r⟩ := hnew
    exact ⟨o, es, ep, k3 _ _ (k2 _ _ e), r⟩

/-- two dicts of the same -/
theorem OW_ne_dicts {i j ep ep' : Nat} {ka kb : List (Int × Int)} {Q : Bool → MH → Prop} (hi : mh[i]? = some (.dctI ep (ka.map fun p => (p.1, .int p.2)))) (hj : mh[j]? = some (.dctI ep' (kb.map fun p => (p.1, .int p.2)))) (hl : ka.length = kb.length)
    (hs : ∀ p ∈ ka, dget (kb.map fun p => (p.1, MV.int p.2)) p.1 = some (.int p.2)) (q : Q false mh) : OW2 D (n + 10) (compareOp .NotEq) (.ref i) (.ref j) (asBool Q) mh := by
  intro A R s ra rb ok hr va vb
  cases va with | @ref _ a ha =>
  cases vb with | @ref _ b hb =>
  obtain ⟨ra, ea, rka, da, ka'⟩ := hr.obj i _ a hi ha
  obtain ⟨rb, eb, rkb, db, kb'⟩ := hr.obj j _ b hj hb
  have hits : KeqHits A.in1 s rkb rka true := by
    clear da ea hi hl
    induction ka generalizing rka with
    | nil => cases ka'; exact .nil
    | cons p r ih =>
      cases ka' with | cons v1 r' =>
      cases v1 with | int _ t =>
      rcases kb'.valueAt p.1 with ⟨v, rv, e1, e2, vv⟩ | ⟨e1, _⟩
      · rw [hs p List.mem_cons_self] at e1
        cases e1
        cases vv with | int _ u =>
        have hh := KeqHits.hit (A := A.in1) (s := s) (k := p.1) (v := .int p.2 t) e2 (keq_flat (.int p.2 t) (.int p.2 u)) (ih (fun p hp => hs p (List.mem_cons_of_mem _ hp)) _ r')
        have : PyData.eqv (.int p.2) (.int p.2) = true := by simp [PyData.eqv]
        rw [this] at hh
        exact hh
      · rw [hs p List.mem_cons_self] at e1; cases e1
  refine keq_ne (r := true) (hr.ms a (List.mem_of_getElem? ha)) (hr.ms b (List.mem_of_getElem? hb)) (da.dictAt ea).dictOf (db.dictAt eb).dictOf (by have := ok.units; omega) (fun _ => hits) ?_
  have : rka.length = rkb.length := by rw [ka'.length, kb'.length, List.length_map, List.length_map, hl]
  rw [this, beq_self_eq_true]
  exact VPost.now' hr (.bool _) q
end
end Mine

namespace Mine
noncomputable def tOk (n : Nat) (lt : Nat → Nat → Bool) {α : Type} (P : α → Prop) : KasT α → Prop
  | .ret a => P a
  | .ask i j k => i < n ∧ j < n ∧ tOk n lt P (k (lt i j))
section
variable {n : Nat} {lt : Nat → Nat → Bool}
theorem tOk_mono {α : Type} {P Q : α → Prop} (h : ∀ a, P a → Q a) : ∀ {t : KasT α}, tOk n lt P t → tOk n lt Q t
  | .ret a, x => h a x
  | .ask i j k, ⟨a, b, c⟩ => ⟨a, b, tOk_mono h c⟩
theorem tOk_bind {α β : Type} {P : β → Prop} {f : α → KasT β} : ∀ {t : KasT α}, tOk n lt (fun a => tOk n lt P (f a)) t → tOk n lt P (t.bind f)
  | .ret a, x => x
  | .ask i j k, ⟨a, b, c⟩ => ⟨a, b, tOk_bind c⟩
theorem tOk_wp {α : Type} {P : α → Prop} {cmp : Nat → Nat → (Bool → Shared → Prop) → Shared → Prop} {G : α → Shared → Prop} {s : Shared} (hc : ∀ i j C, i < n → j < n → C (lt i j) s → cmp i j C s) (hG : ∀ a, P a → G a s) :
    ∀ {t : KasT α}, tOk n lt P t → t.kasWp cmp G s
  | .ret a, x => hG a x
  | .ask i j k, ⟨a, b, c⟩ => hc i j _ a b (tOk_wp hc hG c)

noncomputable def at0 (p : Array Nat) (k : Nat) : Nat := p.getD k 0
theorem at0_eq (p : Array Nat) (k : Nat) : at0 p k = (p[k]?).getD 0 := by unfold at0; exact Array.getD_eq_getD_getElem? ..
theorem at0_bubble {p : Array Nat} {src d : Nat} (hs : src < p.size) (hd : d ≤ src) (k : Nat) : at0 (bubble p src d) k = if k = src - d then at0 p src else if src - d < k ∧ k ≤ src then at0 p (k - 1) else at0 p k := by
  rw [at0_eq, getElem?_bubble hs d hd k]
  split
  · rw [at0_eq]
  · split <;> rw [at0_eq]
theorem at0_rev {p : Array Nat} {i j : Nat} (hj : j ≤ p.size) (k : Nat) : at0 (kas_rev p i j) k = if i ≤ k ∧ k < j then at0 p (i + j - 1 - k) else at0 p k := by
  unfold kas_rev
  rw [at0_eq, getElem?_mirror_all hj k]
  split <;> rw [at0_eq]

/-- a permutation of the first n numbers -/
structure IsP (n : Nat) (p : Array Nat) : Prop where
  size : p.size = n
  perm : p.toList.Perm (List.range n)
theorem IsP.lo {p : Array Nat} (h : IsP n p) {k : Nat} (hk : k < n) : at0 p k < n := by
  have hs := h.size
  have : at0 p k ∈ p.toList := by
    unfold at0
    rw [Array.getD]
    simp [hs, hk]
  have := h.perm.mem_iff.mp this
  simpa using this
theorem IsP.inj {p : Array Nat} (h : IsP n p) {i j : Nat} (hi : i < n) (hj : j < n) (hij : i ≠ j) : at0 p i ≠ at0 p j := by
  have hs := h.size
  have nd : p.toList.Nodup := h.perm.nodup_iff.mpr List.nodup_range
  have e : ∀ (k : Nat) (hk : k < n), at0 p k = p.toList[k]'(by rw [Array.length_toList, hs]; exact hk) := by
    intro k hk
    unfold at0
    rw [Array.getD]
    simp [hs, hk]
  rw [e i hi, e j hj]
  have pw := List.pairwise_iff_getElem.mp nd
  rcases Nat.lt_or_gt_of_ne hij with q | q
  · exact pw i j _ _ q
  · exact (pw j i _ _ q).symm
theorem IsP.of {p q : Array Nat} (h : IsP n p) (hq : q.Perm p) : IsP n q := ⟨by rw [hq.size_eq]; exact h.size, (Array.perm_iff_toList_perm.mp hq).trans h.perm⟩

structure Strict (n : Nat) (lt : Nat → Nat → Bool) : Prop where
  asymm : ∀ i j, i < n → j < n → lt i j = true → lt j i = false
  trans : ∀ i j k, i < n → j < n → k < n → lt i j = true → lt j k = true → lt i k = true
  total : ∀ i j, i < n → j < n → i ≠ j → lt i j = false → lt j i = true

noncomputable def Asc (lt : Nat → Nat → Bool) (p : Array Nat) (m : Nat) : Prop := ∀ i j, i < j → j < m → lt (at0 p i) (at0 p j) = true
noncomputable def Desc (lt : Nat → Nat → Bool) (p : Array Nat) (m : Nat) : Prop := ∀ i j, i < j → j < m → lt (at0 p j) (at0 p i) = true

theorem asc_ok (S : Strict n lt) {p : Array Nat} (hp : IsP n p) : ∀ (f a : Nat), 1 ≤ a → a + f ≤ n → Asc lt p a → tOk n lt (fun m => a ≤ m ∧ m ≤ a + f ∧ Asc lt p m ∧ (m = a + f ∨ lt (at0 p m) (at0 p (m - 1)) = true)) (kas_asc p f a)
  | 0, a, h1, hn, ha => ⟨Nat.le_refl _, Nat.le_refl _, ha, .inl rfl⟩
  | f + 1, a, h1, hn, ha => by
    have l1 : a < n := by omega
    have l2 : a - 1 < n := by omega
    refine ⟨hp.lo l1, hp.lo l2, ?_⟩
    cases hc : lt (at0 p a) (at0 p (a - 1)) with
    | true =>
      show tOk n lt _ (if lt (at0 p a) (at0 p (a - 1)) = true then _ else _)
      rw [if_pos hc]
      exact ⟨Nat.le_refl _, by omega, ha, .inr hc⟩
    | false =>
      show tOk n lt _ (if lt (at0 p a) (at0 p (a - 1)) = true then _ else _)
      rw [if_neg (by rw [hc]; simp)]
      have h2 : lt (at0 p (a - 1)) (at0 p a) = true := S.total _ _ (hp.lo l1) (hp.lo l2) (hp.inj l1 l2 (by omega)) hc
      have ha' : Asc lt p (a + 1) := by
        intro i j hij hj
        by_cases q : j = a
        · subst q
          by_cases q2 : i = j - 1
          · subst q2; exact h2
          · exact S.trans _ _ _ (hp.lo (by omega)) (hp.lo l2) (hp.lo l1) (ha i (j - 1) (by omega) (by omega)) h2
        · exact ha i j hij (by omega)
      refine tOk_mono (fun m hm => ?_) (asc_ok S hp f (a + 1) (by omega) (by omega) ha')
      exact ⟨by omega, by omega, hm.2.2.1, hm.2.2.2.imp (fun q => by omega) id⟩

theorem desc_ok (S : Strict n lt) {p : Array Nat} (hp : IsP n p) : ∀ (f a : Nat), 1 ≤ a → a + f ≤ n → Desc lt p a → tOk n lt (fun r => ∃ m, r = (p, m, 0) ∧ a ≤ m ∧ m ≤ a + f ∧ Desc lt p m) (kas_desc f p a 0)
  | 0, a, h1, hn, ha => ⟨a, rfl, Nat.le_refl _, Nat.le_refl _, ha⟩
  | f + 1, a, h1, hn, ha => by
    have l1 : a < n := by omega
    have l2 : a - 1 < n := by omega
    refine ⟨hp.lo l1, hp.lo l2, ?_⟩
    cases hc : lt (at0 p a) (at0 p (a - 1)) with
    | true =>
      show tOk n lt _ (if lt (at0 p a) (at0 p (a - 1)) = true then _ else _)
      rw [if_pos hc, if_neg (by omega)]
      have ha' : Desc lt p (a + 1) := by
        intro i j hij hj
        by_cases q : j = a
        · subst q
          by_cases q2 : i = j - 1
          · subst q2; exact hc
          · exact S.trans _ _ _ (hp.lo l1) (hp.lo l2) (hp.lo (by omega)) hc (ha i (j - 1) (by omega) (by omega))
        · exact ha i j hij (by omega)
      refine tOk_mono (fun r hr => ?_) (desc_ok S hp f (a + 1) (by omega) (by omega) ha')
      obtain ⟨m, e, h1, h2, h3⟩ := hr
      exact ⟨m, e, by omega, by omega, h3⟩
    | false =>
      show tOk n lt _ (if lt (at0 p a) (at0 p (a - 1)) = true then _ else _)
      rw [if_neg (by rw [hc]; simp)]
      have h2 : lt (at0 p (a - 1)) (at0 p a) = true := S.total _ _ (hp.lo l1) (hp.lo l2) (hp.inj l1 l2 (by omega)) hc
      refine ⟨hp.lo l2, hp.lo l1, ?_⟩
      show tOk n lt _ (if lt (at0 p (a - 1)) (at0 p a) = true then _ else _)
      rw [if_pos h2]
      exact ⟨a, rfl, Nat.le_refl _, by omega, ha⟩

theorem rev_isP {p : Array Nat} (hp : IsP n p) (i j : Nat) : IsP n (kas_rev p i j) := hp.of (mirror_perm _ _ _ _)

theorem count_ok (S : Strict n lt) {p : Array Nat} (hp : IsP n p) (h1 : 1 ≤ n) : tOk n lt (fun r => IsP n r.2 ∧ 1 ≤ r.1 ∧ r.1 ≤ n ∧ Asc lt r.2 r.1) (kas_count n p) := by
  unfold kas_count
  refine tOk_bind (tOk_mono (fun m hm => ?_) (asc_ok S hp (n - 1) 1 (Nat.le_refl _) (by omega) (fun i j hij hj => by omega)))
  obtain ⟨a1, a2, a3, a4⟩ := hm
  by_cases q : (m == n) = true
  · rw [if_pos q]
    have : m = n := beq_iff_eq.mp q
    exact ⟨hp, a1, by omega, a3⟩
  · rw [if_neg q]
    have hmn : m ≠ n := fun e => q (beq_iff_eq.mpr e)
    have hlt : lt (at0 p m) (at0 p (m - 1)) = true := a4.resolve_left (by omega)
    by_cases q2 : m > 1
    · rw [if_pos q2]
      refine ⟨hp.lo (by omega), hp.lo (by omega), ?_⟩
      have h0 : lt (at0 p 0) (at0 p (m - 1)) = true := a3 0 (m - 1) (by omega) (by omega)
      show tOk n lt _ (if lt (at0 p 0) (at0 p (m - 1)) = true then _ else _)
      rw [if_pos h0]
      exact ⟨hp, a1, by omega, a3⟩
    · rw [if_neg q2]
      have hm1 : m = 1 := by omega
      subst hm1
      unfold kas_descPart
      have hd2 : Desc lt p 2 := by
        intro i j hij hj
        have : i = 0 := by omega
        have : j = 1 := by omega
        subst_vars
        exact hlt
      refine tOk_bind (tOk_mono (fun r hr => ?_) (desc_ok S hp (n - 2) 2 (by omega) (by omega) hd2))
      obtain ⟨m, rfl, b1, b2, b3⟩ := hr
      show tOk n lt _ (if 0 > 0 then _ else _)
      rw [if_neg (by omega)]
      unfold kas_tail3
      have hrev : Asc lt (kas_rev p 0 m) m := by
        intro i j hij hj
        rw [at0_rev (by rw [hp.size]; omega), at0_rev (by rw [hp.size]; omega), if_pos (by omega), if_pos (by omega)]
        exact b3 _ _ (by omega) (by omega)
      refine tOk_bind (tOk_mono (fun m' hm' => ?_) (asc_ok S (rev_isP hp 0 m) (n - m) m (by omega) (by omega) hrev))
      exact ⟨rev_isP hp 0 m, by omega, by omega, hm'.2.2.1⟩

theorem place_ok (S : Strict n lt) {p : Array Nat} (hp : IsP n p) {k : Nat} (hk : k < n) (hA : Asc lt p k) : ∀ (f l r : Nat), r - l ≤ f → l ≤ r → r ≤ k → (∀ i, i < l → lt (at0 p i) (at0 p k) = true) → (∀ i, r ≤ i → i < k → lt (at0 p k) (at0 p i) = true) →
    tOk n lt (fun m => m ≤ k ∧ (∀ i, i < m → lt (at0 p i) (at0 p k) = true) ∧ (∀ i, m ≤ i → i < k → lt (at0 p k) (at0 p i) = true)) (kas_place p k f l r)
  | 0, l, r, hf, hlr, hr, h1, h2 => by
    have : l = r := by omega
    subst this
    exact ⟨hr, h1, h2⟩
  | f + 1, l, r, hf, hlr, hr, h1, h2 => by
    unfold kas_place
    by_cases q : l ≥ r
    · rw [if_pos q]
      have : l = r := by omega
      subst this
      exact ⟨hr, h1, h2⟩
    · rw [if_neg q]
      have lm : (l + r) / 2 < k := by omega
      refine ⟨hp.lo hk, hp.lo (by omega), ?_⟩
      cases hc : lt (at0 p k) (at0 p ((l + r) / 2)) with
      | true =>
        show tOk n lt _ (if lt (at0 p k) (at0 p ((l + r) / 2)) = true then _ else _)
        rw [if_pos hc]
        refine place_ok S hp hk hA f l ((l + r) / 2) (by omega) (by omega) (by omega) h1 fun i hi hik => ?_
        by_cases e : i = (l + r) / 2
        · subst e; exact hc
        · exact S.trans _ _ _ (hp.lo hk) (hp.lo (by omega)) (hp.lo (by omega)) hc (hA _ i (by omega) hik)
      | false =>
        show tOk n lt _ (if lt (at0 p k) (at0 p ((l + r) / 2)) = true then _ else _)
        rw [if_neg (by rw [hc]; simp)]
        have hc2 : lt (at0 p ((l + r) / 2)) (at0 p k) = true := S.total _ _ (hp.lo hk) (hp.lo (by omega)) (hp.inj hk (by omega) (by omega)) hc
        refine place_ok S hp hk hA f ((l + r) / 2 + 1) r (by omega) (by omega) hr (fun i hi => ?_) h2
        by_cases e : i = (l + r) / 2
        · subst e; exact hc2
        · exact S.trans _ _ _ (hp.lo (by omega)) (hp.lo (by omega)) (hp.lo hk) (hA i _ (by omega) lm) hc2

theorem bin_ok (S : Strict n lt) : ∀ (f : Nat) (p : Array Nat) (k : Nat), IsP n p → k + f = n → Asc lt p k → tOk n lt (fun q => IsP n q ∧ Asc lt q n) (kas_bin f p k)
  | 0, p, k, hp, hk, hA => by
    have : k = n := by omega
    subst this
    exact ⟨hp, hA⟩
  | f + 1, p, k, hp, hk, hA => by
    unfold kas_bin
    have hkn : k < n := by omega
    refine tOk_bind (tOk_mono (fun l hl => ?_) (place_ok S hp hkn hA k 0 k (by omega) (Nat.zero_le _) (Nat.le_refl _) (fun i hi => by omega) (fun i hi hik => by omega)))
    obtain ⟨h0, h1, h2⟩ := hl
    refine bin_ok S f _ (k + 1) (hp.of (bubble_perm _ _ _)) (by omega) ?_
    have hs : k < p.size := by rw [hp.size]; exact hkn
    intro i j hij hj
    rw [at0_bubble hs (by omega), at0_bubble hs (by omega)]
    have e : k - (k - l) = l := by omega
    rw [e]
    by_cases c1 : j = l
    · rw [if_neg (by omega), if_neg (by omega), if_pos c1]
      exact h1 i (by omega)
    · rw [if_neg c1]
      by_cases c2 : l < j ∧ j ≤ k
      · rw [if_pos c2]
        by_cases c3 : i = l
        · rw [if_pos c3]; exact h2 (j - 1) (by omega) (by omega)
        · rw [if_neg c3]
          by_cases c4 : l < i ∧ i ≤ k
          · rw [if_pos c4]; exact hA _ _ (by omega) (by omega)
          · rw [if_neg c4]; exact hA _ _ (by omega) (by omega)
      · rw [if_neg c2]
        rw [if_neg (by omega), if_neg (by omega)]
        exact hA _ _ hij (by omega)

theorem sort_ok (S : Strict n lt) (h1 : 1 ≤ n) : tOk n lt (fun p => IsP n p ∧ Asc lt p n) (kas_sort n) := by
  unfold kas_sort
  have hp : IsP n (List.toArray (List.range n)) := ⟨by simp, by simp⟩
  refine tOk_bind (tOk_mono (fun r hr => ?_) (count_ok S hp h1))
  obtain ⟨a1, a2, a3, a4⟩ := hr
  by_cases q : r.1 < n
  · rw [if_pos q]
    have e : max r.1 1 = r.1 := by omega
    rw [e]
    exact bin_ok S _ _ _ a1 (by omega) a4
  · rw [if_neg q]
    have : r.1 = n := by omega
    rw [this] at a4
    exact ⟨a1, a4⟩
end
end Mine

namespace Mine
noncomputable abbrev Key := Int × Int
noncomputable def klt (a b : Key) : Bool := decide (a.1 < b.1) || (a.1 == b.1 && decide (a.2 < b.2))
noncomputable def kmv (k : Key) : MV := .tup [.int k.1, .int k.2]
section
variable {D : WD} {n : Nat} {mh : MH} {R : RR}

/-- a key as it lies in the heap -/
theorem key_at {h : Heap} (hr : HRep D R mh h) {k : Key} {rv : Value} (v : VRep R (kmv k) rv) : ∃ a t u c, rv = .ref a ∧ h.get? a = some (tupObj [.int k.1 t, .int k.2 u] c) := by
  cases v with | @tup a rvs c _ hm vr =>
  obtain ⟨x, y, rfl, v1, v2⟩ := vr.two'
  cases v1 with | int _ t =>
  cases v2 with | int _ u =>
  exact ⟨a, t, u, c, rfl, hr.imm _ hm⟩
theorem key_lt {A : Around} {s : Shared} (hr : HRep D R mh s.heap) {k l : Key} {rk rl : Value} (vk : VRep R (kmv k) rk) (vl : VRep R (kmv l) rl) {C : Bool → Shared → Prop} (h : C (klt k l) s) :
    wpAny (model Prg D.w) A (keyLt' (tuples' true) rk rl) C (fun _ _ => False) s := by
  obtain ⟨a, t, u, c, rfl, e⟩ := key_at hr vk
  obtain ⟨b, t', u', c', rfl, e'⟩ := key_at hr vl
  refine kat_lt e rfl e' rfl (kat_cons (wpAny_eqBool_int ?_))
  by_cases h1 : k.1 = l.1
  · have : (k.1 == l.1) = true := by simp [h1]
    rw [this]
    refine kat_yes (kat_cons (wpAny_eqBool_int ?_))
    by_cases h2 : k.2 = l.2
    · have : (k.2 == l.2) = true := by simp [h2]
      rw [this]
      refine kat_yes (kat_nil ?_)
      have e3 : klt k l = decide ((tupObj [.int k.1 t, .int k.2 u] c).slots.size < 0) := by simp [klt, h1, h2]
      have : klt k l = false := by simp [klt, h1, h2]
      rw [this] at h
      exact h
    · have : (k.2 == l.2) = false := by simp [h2]
      rw [this]
      refine kat_no (kat_one _ _ (lt_int ?_))
      have : klt k l = decide (k.2 < l.2) := by simp [klt, h1]
      rw [this] at h
      exact h
  · have : (k.1 == l.1) = false := by simp [h1]
    rw [this]
    refine kat_no (oneLt_int ?_)
    have : klt k l = decide (k.1 < l.1) := by simp [klt, h1]
    rw [this] at h
    exact h

theorem klt_strict {ks : List Key} (hn : (ks.map (·.2)).Nodup) : Strict ks.length (fun i j => klt (ks.getD i (0, 0)) (ks.getD j (0, 0))) := by
  refine ⟨fun i j hi hj h => ?_, fun i j k hi hj hk h1 h2 => ?_, fun i j hi hj hij h => ?_⟩
  · simp only [klt, Bool.or_eq_true, Bool.and_eq_true, decide_eq_true_eq, beq_iff_eq, Bool.or_eq_false_iff, decide_eq_false_iff_not, Bool.and_eq_false_iff] at h ⊢
    rcases h with h | ⟨h1, h2⟩
    · exact ⟨by omega, .inl (beq_eq_false_iff_ne.mpr (by omega))⟩
    · exact ⟨by omega, .inr (by omega)⟩
  · simp only [klt, Bool.or_eq_true, Bool.and_eq_true, decide_eq_true_eq, beq_iff_eq] at h1 h2 ⊢
    rcases h1 with h1 | ⟨h1, h1'⟩ <;> rcases h2 with h2 | ⟨h2, h2'⟩
    · exact .inl (by omega)
    · exact .inl (by omega)
    · exact .inl (by omega)
    · exact .inr ⟨by omega, by omega⟩
  · simp only [klt, Bool.or_eq_true, Bool.and_eq_true, decide_eq_true_eq, beq_iff_eq, Bool.or_eq_false_iff, decide_eq_false_iff_not, Bool.and_eq_false_iff] at h ⊢
    have ne : (ks.getD i (0, 0)).2 ≠ (ks.getD j (0, 0)).2 := by
      have pw := List.pairwise_iff_getElem.mp hn
      have e : ∀ (q : Nat) (hq : q < ks.length), (ks.getD q (0, 0)).2 = (ks.map (·.2))[q]'(by rw [List.length_map]; exact hq) := by
        intro q hq; simp [hq]
      rw [e i hi, e j hj]
      rcases Nat.lt_or_gt_of_ne hij with q | q
      · exact pw i j _ _ q
      · exact (pw j i _ _ q).symm
    obtain ⟨h1, h2⟩ := h
    by_cases q : (ks.getD i (0, 0)).1 = (ks.getD j (0, 0)).1
    · refine .inr ⟨q.symm, ?_⟩
      rcases h2 with h2 | h2
      · exact absurd q (by simpa using h2)
      · omega
    · exact .inl (by omega)

/-- sorted, plainly -/
noncomputable def Sorted (kf : MV → Key) (vs out : List MV) : Prop := out.Perm vs ∧ out.Pairwise (fun a b => klt (kf a) (kf b) = true)

theorem off_list {h h' : Heap} {a : Addr} {X : List Addr} {rvs rws : List Value} {c : Nat} {f : Array Value → Array Value} (e : h.get? a = some (lstObj rvs c)) (hf : f rvs.toArray = rws.toArray) : ∃ c', (h.update a (Obj.mapSeq f)).get? a = some (lstObj rws c') := by
  obtain ⟨c', hm⟩ := mapSeq_lst (f := f) (rvs := rvs) (rws := rws) (k := c) hf
  refine ⟨c', ?_⟩
  rw [Heap.get?_update_self _ e rfl, hm]

theorem outs_of {kf : MV → Key} {vs : List MV} {rvs : List Value} {p : Array Nat} (vv : VReps R vs rvs) (hp : IsP vs.length p) (hA : Asc (fun i j => klt ((vs.map kf).getD i (0, 0)) ((vs.map kf).getD j (0, 0))) p vs.length) :
    VReps R (p.toList.map fun i => vs.getD i .none) (p.toList.map fun i => rvs.getD i Value.none) ∧ Sorted kf vs (p.toList.map fun i => vs.getD i .none) := by
  have hlt : ∀ i ∈ p.toList, i < vs.length := fun i hi => by simpa using hp.perm.mem_iff.mp hi
  refine ⟨?_, ?_, ?_⟩
  · have : ∀ l : List Nat, (∀ i ∈ l, i < vs.length) → VReps R (l.map fun i => vs.getD i .none) (l.map fun i => rvs.getD i Value.none) := by
      intro l
      induction l with
      | nil => intro _; exact .nil
      | cons i l ih =>
        intro h
        have hi := h i List.mem_cons_self
        obtain ⟨rv, e, v⟩ := vv.get (List.getElem?_eq_getElem hi)
        refine .cons ?_ (ih fun j hj => h j (List.mem_cons_of_mem _ hj))
        show VRep R (vs.getD i .none) (rvs.getD i Value.none)
        rw [List.getD_eq_getElem?_getD, List.getD_eq_getElem?_getD, e, List.getElem?_eq_getElem hi]
        exact v
    exact this _ hlt
  · have h1 := hp.perm.map (fun i => vs.getD i MV.none)
    refine h1.trans ?_
    have : (List.range vs.length).map (fun i => vs.getD i MV.none) = vs := by
      apply List.ext_getElem
      · simp
      · intro i h1 h2
        simp [h2]
    rw [this]
  · rw [List.pairwise_map]
    rw [List.pairwise_iff_getElem]
    intro i j hi hj hij
    have hs := hp.size
    rw [Array.length_toList] at hi hj
    have e : ∀ (q : Nat) (hq : q < p.size), p.toList[q]'(by rw [Array.length_toList]; exact hq) = at0 p q := by
      intro q hq
      unfold at0
      rw [Array.getD]
      simp [hq]
    rw [e i hi, e j hj]
    have := hA i j hij (by omega)
    have g : ∀ q, q < vs.length → (vs.map kf).getD q (0, 0) = kf (vs.getD q .none) := by
      intro q hq; simp [hq]
    dsimp only at this
    rw [g _ (hp.lo (k := i) (by omega)), g _ (hp.lo (k := j) (by omega))] at this
    exact this

theorem tups_of {h' : Heap} {R' : RR} {kf : MV → Key} (hr' : HRep D R' mh h') : ∀ {vs : List MV} {ks : List Value}, VReps R' (vs.map fun v => kmv (kf v)) ks → ∃ fs, KatTups h' ks fs ∧ fs.length = vs.length ∧ ∀ v ∈ fs, ∃ i t, v = Value.int i t
  | [], _, vk => by cases vk; exact ⟨[], .nil, rfl, by simp⟩
  | v :: vs, _, vk => by
    rw [List.map_cons] at vk
    cases vk with | @cons _ rk _ rks v1 r =>
    obtain ⟨fs, a1, a2, a3⟩ := tups_of hr' (vs := vs) r
    obtain ⟨a, t, u, c, rfl, e⟩ := key_at hr' v1
    exact ⟨.int _ t :: fs, .cons e rfl rfl rfl a1, by rw [List.length_cons, List.length_cons, a2], by
      intro w hw
      rcases List.mem_cons.mp hw with rfl | hw
      · exact ⟨_, _, rfl⟩
      · exact a3 w hw⟩
theorem sorted_core {A : Around} {s : Shared} {i : Nat} {l q : Addr} {vs : List MV} {kf : MV → Key} {Q : Value → Shared → Prop} (ok : ROk (n + 1) A) (hr : HRep D R mh s.heap) (hi : mh[i]? = some (.lst vs)) (hl : R.ρ[i]? = some l) (hz : vs.length ≤ 60)
    (hn : ((vs.map kf).map (·.2)).Nodup)
    (hf : ∀ v ∈ vs, ∀ (R' : RR) (s' : Shared) (rv : Value), RLe R R' → HRep D R' mh s'.heap → VRep R' v rv → (∀ b o, s.heap.get? b = some o → b ∉ R.ρ → b ∉ tabs → s'.heap.get? b = some o) → (∀ a o, s.heap.get? a = some o → a ∉ R.ρ → (∀ p ∈ R.ι, p.1 ≠ a) → a ∉ R'.ρ ∧ ∀ p ∈ R'.ι, p.1 ≠ a) → wpAny (model Prg D.w) A.in1.in1 (call (.ref q) [rv]) (VPost D R' s' (fun r m => r = kmv (kf v) ∧ m = mh)) (fun _ _ => False) s')
    (hQ : ∀ (d : Addr) R' h' tk' out rout c, Sorted kf vs out → VReps R' out rout → h'.get? d = some (lstObj rout c) → s.heap.get? d = none → (d == sysModules) = false → Go [] R R' s.heap h' → HRep D R' mh h' → Off D R' [d] h' → Q (.ref d) { s with heap := h', toks := tk' }) :
    wpAny (model Prg D.w) A (call (.builtin "sorted") [.ref l] [(Str.ofString "key", .ref q)]) Q (fun _ _ => False) s := by
  obtain ⟨rvs, c0, e0, vv⟩ := hr.list hi hl
  have hlen := vv.length
  refine call_function_entry_kw kind_sorted plain_sorted entry_sorted (ksk_s1 _ _) ?_
  unfold Builtin.«sorted»
  refine wpAny_bind (m := checkCount "sorted" 1 1 _) (wpAny_pure ?_)
  refine wpAny_bind (collect_list (lst_is e0) ?_ (by rw [hlen, sizeLine_eq]; omega))
  refine wpAny_bind (wpAny_newList ?_ (by rw [hlen, sizeLine_eq]; omega))
  have hsz : ((s.heap.push (seqObj "list" #[] 0)).update s.heap.objs.size (Obj.mapSeq (· ++ rvs.toArray))).objs.size = s.heap.objs.size + 1 := by
    rw [Heap.size_update, size_push']
  show wpAny _ _ _ _ _ { s with heap := ((s.heap.push (seqObj "list" #[] 0)).update s.heap.objs.size (Obj.mapSeq (· ++ rvs.toArray))).push (seqObj "list" rvs.toArray 0) }
  rw [hsz]
  generalize hH1 : ((s.heap.push (seqObj "list" #[] 0)).update s.heap.objs.size (Obj.mapSeq (· ++ rvs.toArray))).push (seqObj "list" rvs.toArray 0) = H1
  have k1 : Kept s.heap H1 := fun b o e => by
    have hlt : b < s.heap.objs.size := Heap.lt_size e
    rw [← hH1, Heap.get?_push_ne _ _ _ (by rw [hsz]; exact Nat.ne_of_lt (Nat.lt_succ_of_lt hlt)), Heap.get?_update_ne _ _ _ _ (Nat.ne_of_lt hlt), Heap.get?_push_ne _ _ _ (Nat.ne_of_lt hlt)]
    exact e
  have eD : H1.get? (s.heap.objs.size + 1) = some (lstObj rvs 0) := by rw [← hH1, ← hsz]; exact Heap.get?_push_size _ rfl
  have nD : s.heap.get? (s.heap.objs.size + 1) = none := Heap.get?_none_of_le (Nat.le_succ _)
  have hmsD : (s.heap.objs.size + 1 == sysModules) = false := by
    have := modules_low hr.lim
    exact beq_eq_false_iff_ne.mpr (Nat.ne_of_gt (Nat.lt_succ_of_lt this))
  generalize hd : s.heap.objs.size + 1 = d at *
  have hr1 := hr.grow k1
  have oD1 : Off D R [d] H1 := ⟨fun a ha => by rw [List.mem_singleton.mp ha]; exact hr.newOff nD, fun a ha => by rw [List.mem_singleton.mp ha]; exact ⟨_, eD⟩⟩
  have g1 : Go [] R R s.heap H1 := Go.grow _ _ k1
  refine wpAny_bind (wpAny_holding (wpAny_call_entry_kw slot_list_sort ⟨_, eD, rfl⟩ entry_list_sort ?body (ksk_l1 _ _)))
  case body =>
    show wpAny (model Prg D.w) A.in1.in1 (Builtin.«list.sort» ⟨[.ref d], [(Str.ofString "key", .ref q)]⟩) _ _ _
    rw [ksk_t1]
    unfold ksk_tree
    refine wpAny_bind (listItems_at eD rfl ?_)
    obtain ⟨c1, eD2⟩ := off_list (h := H1) (h' := H1) (X := []) (f := fun _ => #[]) (rws := []) eD rfl
    refine wpAny_bind (listUpdate_at eD rfl ?_ (by rw [List.size_toArray, hlen, sizeLine_eq]; omega) (Nat.zero_le _))
    generalize hH2 : H1.update d (Obj.mapSeq fun _ => (#[] : Array Value)) = H2 at *
    have k2 : ∀ b o, b ∉ [d] → H1.get? b = some o → H2.get? b = some o := fun b o hb e => by rw [← hH2, Heap.get?_update_ne _ _ _ _ (by simpa using hb)]; exact e
    have g2 : Go [d] R R s.heap H2 := g1.weak.trans (Go.but oD1 k2 fun a ha => by rw [List.mem_singleton.mp ha]; exact ⟨_, eD2⟩)
    have hr2 := hr1.but oD1 k2
    have oD2 : Off D R [d] H2 := ⟨oD1.off, fun a ha => by rw [List.mem_singleton.mp ha]; exact ⟨_, eD2⟩⟩
    refine wpAny_bind (seqEpoch_at eD2 rfl ?_)
    refine wpAny_bind (wpAny_newTuple ?_ (by show rvs.length ≤ _; rw [hlen, sizeLine_eq]; omega))
    refine wpAny_bind (wpAny_newList ?_ (Nat.zero_le _))
    refine wpAny_holding ?_
    generalize hH3 : (H2.push { cls := .type "tuple", data := .seq rvs.toArray.toList.toArray }) = H3
    have k3 : Kept H2 (H3.push { cls := .type "list", data := .seq ([] : List Value).toArray }) := fun b o e => Heap.get?_push_of_some _ (hH3 ▸ Heap.get?_push_of_some _ e)
    have eK : (H3.push { cls := .type "list", data := .seq ([] : List Value).toArray }).get? H3.objs.size = some (lstObj [] 0) := Heap.get?_push_size _ rfl
    have hz3 : H3.objs.size = H2.objs.size + 1 := by rw [← hH3]; exact Heap.size_push ..
    have nK2 : H2.get? H3.objs.size = none := Heap.get?_none_of_le (by rw [hz3]; exact Nat.le_succ _)
    show wpAny (model Prg D.w) A.in1.in1 (ksk_rest d (.ref q) false rvs.toArray c1 (.ref H3.objs.size)) _ _ { s with heap := H3.push { cls := .type "list", data := .seq ([] : List Value).toArray }, toks := s.toks }
    generalize hkS : H3.objs.size = kS at *
    generalize hH4 : H3.push { cls := .type "list", data := .seq ([] : List Value).toArray } = H4 at *
    have hkd : kS ≠ d := fun q => by rw [q, eD2] at nK2; cases nK2
    have hr4 := hr2.grow k3
    have oX4 : Off D R [d, kS] H4 := ⟨fun a ha => by
        rcases List.mem_cons.mp ha with rfl | ha
        · exact oD2.off _ List.mem_cons_self
        · rw [List.mem_singleton.mp ha]; exact hr2.newOff nK2,
      fun a ha => by
        rcases List.mem_cons.mp ha with rfl | ha
        · exact ⟨_, k3 _ _ eD2⟩
        · rw [List.mem_singleton.mp ha]; exact ⟨_, eK⟩⟩
    have g4 : Go [d, kS] R R s.heap H4 := (g2.trans (Go.grow _ _ k3)).wide (by simp)
    have nX : ∀ a ∈ [d, kS], s.heap.get? a = none := fun a ha => by
      rcases List.mem_cons.mp ha with rfl | ha
      · exact nD
      · rw [List.mem_singleton.mp ha]; exact none_of_there g2.there nK2
    unfold ksk_rest
    refine wpAny_bind (wpAny_rule ?_)
    first
      | rw [List.forIn_toArray]
      | (rw [← Array.forIn_toList]; simp only [List.toList_toArray])
      | rw [← Array.forIn_toList]
    refine wpAny_bind (ksk_fold (fun j s' => ∃ R' h' tk' ks e, s' = { s with heap := h', toks := tk' } ∧ Go [d, kS] R R' s.heap h' ∧ HRep D R' mh h' ∧ Off D R' [d, kS] h' ∧ h'.get? d = some (lstObj [] c1) ∧ h'.get? kS = some (lstObj ks e) ∧ VReps R' ((vs.take j).map fun v => kmv (kf v)) ks) rvs 0 _
      ⟨R, H4, s.toks, [], 0, rfl, g4, hr4, oX4, k3 _ _ eD2, eK, by simpa using VReps.nil⟩ ?step ?done)
    case step =>
      rintro j x s' hx ⟨R', h', tk', ks, e, rfl, g', hr', oX', ed', ek', vk'⟩
      simp only [Nat.zero_add] at vk' ⊢
      have hj : j < vs.length := by rw [← hlen]; exact (List.getElem?_eq_some_iff.mp hx).1
      obtain ⟨rv, hrv, vx⟩ := vv.get (List.getElem?_eq_getElem hj)
      rw [hx] at hrv; cases hrv
      have hks : ks.length ≤ vs.length := by have := vk'.length; rw [List.length_map, List.length_take] at this; omega
      refine wpAny_bind (wpAny_attempt (wpAny_mono (hf vs[j] (List.getElem_mem hj) R' { s with heap := h', toks := tk' } x g'.le hr' (vx.mono g'.le) (fun b o e h1 h2 => g'.keep b o h1 h2 (fun q => by rw [nX b q] at e; cases e) e) fun a o e h1 h2 => ⟨fun q => (g'.fresh a q).elim h1 (fun z => by rw [z] at e; exact (nomatch e)), fun p hp q => (g'.freshi p hp).elim (fun z => h2 p z q) (fun z => by rw [q, e] at z; exact (nomatch z))⟩) (fun kv s'' z => ?_) fun _ _ hF => hF.elim))
      obtain ⟨R5, mh5, mv5, h5, tk5, rfl, g5, hr5, v5, rfl, rfl⟩ := z
      have oX5 := oX'.go g5
      have keep5 := oX'.keep g5 (by simp)
      have ed5 := keep5 d (by simp) _ ed'
      have ek5 := keep5 kS (by simp) _ ek'
      obtain ⟨c6, ek6⟩ := off_list (h := h5) (h' := h5) (X := []) (f := (·.push kv)) (rws := ks ++ [kv]) ek5 (by simp)
      try dsimp only
      refine wpAny_bind (listUpdate_at ek5 rfl ?_ (by rw [List.size_toArray, sizeLine_eq]; omega) (Nat.le_trans (Nat.le_of_eq (Array.size_push ..)) (by rw [List.size_toArray, sizeLine_eq]; omega)))
      have k6 : ∀ b o, b ∉ [kS] → h5.get? b = some o → (h5.update kS (Obj.mapSeq (·.push kv))).get? b = some o := fun b o hb e => by rw [Heap.get?_update_ne _ _ _ _ (by simpa using hb)]; exact e
      have oK5 : Off D R5 [kS] h5 := ⟨fun a ha => oX5.off a (by simp at ha; simp [ha]), fun a ha => oX5.isIn a (by simp at ha; simp [ha])⟩
      have g6 : Go [kS] R5 R5 h5 _ := Go.but oK5 k6 fun a ha => by rw [List.mem_singleton.mp ha]; exact ⟨_, ek6⟩
      refine wpAny_pure ⟨rfl, R5, _, tk5, ks ++ [kv], c6, rfl, (g'.trans (g5.wide (by simp))).trans (g6.wide (by simp)), hr5.but oK5 k6, oX5.go g6, k6 _ _ (by simpa using hkd.symm) ed5, ek6, ?_⟩
      rw [List.take_succ_eq_append_getElem hj, List.map_append]
      exact (vk'.mono g5.le).append (.one v5)
    case done =>
      rintro s' ⟨R', h', tk', ks, e, rfl, g', hr', oX', ed', ek', vk'⟩
      have vk : VReps R' (vs.map fun v => kmv (kf v)) ks := by
        rw [Nat.zero_add, hlen, List.take_length] at vk'; exact vk'
      have hks := vk.length
      rw [List.length_map] at hks
      have vv' := vv.mono g'.le
      try dsimp only
      refine wpAny_bind (listItems_at ek' rfl ?_)
      -- the end
      have tail : ∀ (st : SortSt) (out : List MV) (rout : List Value), Sorted kf vs out → VReps R' out rout → (arrOf st).map (·.2) = rout.toArray → failedOf st = none →
          wpAny (model Prg D.w) A.in1.in1 (ksk_tail d false c1 (.ref kS) st) (fun fin s' => ∃ v, fin = .done (.ret v) ∧ wpAny (model Prg D.w) A.in1 (pure (Fin.done (Flow.ret (.ref d)))) (fun fin s' => ∃ v, fin = Fin.done (Flow.ret v) ∧ Q v s') (fun _ _ => False) s') (fun _ _ => False) { s with heap := h', toks := tk' } := by
        intro st out rout hS hv ha hfl
        have hol : rout.length = vs.length := by rw [hv.length]; exact hS.1.length_eq
        unfold ksk_tail
        try dsimp only
        obtain ⟨c7, ek7⟩ := off_list (h := h') (h' := h') (X := []) (f := fun _ => #[]) (rws := []) ek' rfl
        refine wpAny_bind (listUpdate_at ek' rfl ?_ (by rw [List.size_toArray, sizeLine_eq]; omega) (Nat.zero_le _))
        generalize hH7 : h'.update kS (Obj.mapSeq fun _ => (#[] : Array Value)) = H7 at *
        have k7 : ∀ b o, b ∉ [kS] → h'.get? b = some o → H7.get? b = some o := fun b o hb e => by rw [← hH7, Heap.get?_update_ne _ _ _ _ (by simpa using hb)]; exact e
        have ed7 := k7 d _ (by simpa using hkd.symm) ed'
        refine wpAny_bind (wpAny_letGo ?_)
        refine wpAny_bind (seqEpoch_at ed7 rfl ?_)
        simp only [Bool.false_eq_true, if_false]
        rw [ha]
        obtain ⟨c8, ed8⟩ := off_list (h := H7) (h' := H7) (X := []) (f := fun _ => rout.toArray) (rws := rout) ed7 rfl
        refine wpAny_bind (listUpdate_at ed7 rfl ?_ (Nat.zero_le _) (by rw [List.size_toArray, hol, sizeLine_eq]; omega))
        rw [hfl]
        simp only [bne_self_eq_false, Bool.false_eq_true, if_false]
        have k8 : ∀ b o, b ∉ [d, kS] → h'.get? b = some o → (H7.update d (Obj.mapSeq fun _ => rout.toArray)).get? b = some o := fun b o hb e => by
          rw [Heap.get?_update_ne _ _ _ _ (fun q => hb (by simp [q]))]
          exact k7 b o (fun q => hb (by simp at q; simp [q])) e
        refine wpAny_pure ⟨.none, rfl, wpAny_pure ⟨_, rfl, ?_⟩⟩
        refine hQ d R' _ tk' out rout c8 hS hv ed8 (nX d (by simp)) hmsD ?_ (hr'.but oX' k8) ⟨fun a ha => oX'.off a (by simp at ha; simp [ha]), fun a ha => by rw [List.mem_singleton.mp ha]; exact ⟨_, ed8⟩⟩
        exact (g'.wide (Y := [d, kS] ++ []) (by simp)).last nX k8
      unfold ksk_end
      try dsimp only
      simp only [Bool.false_eq_true, if_false]
      by_cases h2 : rvs.toArray.size < 2
      · rw [if_pos h2, if_pos h2]
        refine wpAny_bind (wpAny_pure ?_)
        rw [StateT.run_pure]
        refine wpAny_bind (wpAny_pure ?_)
        try dsimp only
        refine wpAny_mono (tail _ vs rvs ⟨List.Perm.refl _, ?_⟩ vv' ?_ rfl) (fun fin s' z => z) fun _ _ f => f.elim
        · rw [List.size_toArray, hlen] at h2
          match vs, h2 with
          | [], _ => exact .nil
          | [x], _ => exact List.pairwise_singleton ..
        · show ((ks.toArray.zip rvs.toArray).map (·.2)) = _
          apply Array.toList_inj.mp
          simp only [Array.toList_map, Array.toList_zip]
          exact List.map_snd_zip (by omega)
      · rw [if_neg h2, if_neg h2]
        rw [List.size_toArray] at h2
        have tups := tups_of (kf := kf) hr' vk
        obtain ⟨fs, hft, hfl, hfi⟩ := tups
        refine wpAny_bind (kat_kind (T := .type "int") hft (by omega) (fun v hv => ?_) (by decide) ?_)
        · obtain ⟨i, t, rfl⟩ := hfi v hv
          exact .now
        have hT : (Value.type "int" != Value.type "tuple") = true := by decide
        rw [hT]
        have hKl : (vs.map kf).length = vs.length := List.length_map ..
        have S := klt_strict hn
        rw [hKl] at S
        have T := sort_ok S (by omega)
        refine wpAny_bind (wpAny_mono (kat_run (s := { s with heap := h', toks := tk' }) (Q := fun st' s' => s' = { s with heap := h', toks := tk' } ∧ ∃ p : Array Nat, IsP vs.length p ∧ Asc (fun i j => klt ((vs.map kf).getD i (0, 0)) ((vs.map kf).getD j (0, 0))) p vs.length ∧ arrOf st' = p.map (kas_item (ks.toArray.zip rvs.toArray)) ∧ failedOf st' = none)
          (G := fun p s' => s' = { s with heap := h', toks := tk' } ∧ IsP vs.length p ∧ Asc (fun i j => klt ((vs.map kf).getD i (0, 0)) ((vs.map kf).getD j (0, 0))) p vs.length) (by omega) (by omega) (by omega) (fun p st' s' a1 a2 a3 a4 => ⟨a4.1, p, a4.2.1, a4.2.2, a2, a3⟩) ?_) ?_ fun _ _ x => x)
        · rw [hlen]
          refine tOk_wp (fun i j C hi hj hC => ?_) (fun p hp => ⟨rfl, hp⟩) T
          obtain ⟨ri, hri, vi⟩ := vk.get (k := i) (v := kmv (kf vs[i])) (by rw [List.getElem?_map, List.getElem?_eq_getElem hi]; rfl)
          obtain ⟨rj, hrj, vj⟩ := vk.get (k := j) (v := kmv (kf vs[j])) (by rw [List.getElem?_map, List.getElem?_eq_getElem hj]; rfl)
          unfold kas_ask
          rw [List.getD_eq_getElem?_getD, List.getD_eq_getElem?_getD, hri, hrj]
          refine key_lt hr' vi vj ?_
          have : klt (kf vs[i]) (kf vs[j]) = klt ((vs.map kf).getD i (0, 0)) ((vs.map kf).getD j (0, 0)) := by simp [hi, hj]
          rw [this]
          exact hC
        · rintro ⟨⟨⟩, st'⟩ s' ⟨rfl, p, hp, hA, har, hfl2⟩
          try dsimp only
          obtain ⟨o1, o2⟩ := outs_of vv' hp hA
          exact tail st' _ _ o2 o1 (kat_snds (by omega) har) hfl2
end
end Mine

namespace Mine
/-- a table of code objects, by its place in the text -/
structure TabSel (D : WD) (P c : Addr) (line col : Nat) (q : Str) : Prop where
  mem : P ∈ tabs
  code : CodeHd D.H₀ c P
  get : ∀ {R mh h}, HRep D R mh h → TabOk R h P line col q
  set : ∀ {R R' mh h h'}, HRep D R mh h → RLe R R' → (∀ b o, b ≠ P → h.get? b = some o → h'.get? b = some o) → TabOk R' h' P line col q →
    TabOk R' h' 219 162 40 "_law_due.<locals>.<lambda>" ∧ TabOk R' h' 207 145 32 "subject_threads.<locals>.<lambda>" ∧ TabOk R' h' 153 106 29 "in_order.<locals>.<lambda>"
section
variable {D : WD} {n : Nat} {mh : MH} {R : RR} {h h' : Heap}
/-- a new code object noted in a table -/
theorem HRep.tab {P c' : Addr} {oc : Obj} (x : HRep D R mh h) (hP : P ∈ tabs) (k : ∀ b o, b ≠ P → h.get? b = some o → h'.get? b = some o) (nc : h.get? c' = none) (ec : h'.get? c' = some oc)
    (a : TabOk ⟨R.ρ, (c', oc) :: R.ι⟩ h' 219 162 40 "_law_due.<locals>.<lambda>" ∧ TabOk ⟨R.ρ, (c', oc) :: R.ι⟩ h' 207 145 32 "subject_threads.<locals>.<lambda>" ∧ TabOk ⟨R.ρ, (c', oc) :: R.ι⟩ h' 153 106 29 "in_order.<locals>.<lambda>") : HRep D ⟨R.ρ, (c', oc) :: R.ι⟩ mh h' := by
  have offc := x.newOff nc
  have le := RLe.imm R (c', oc)
  refine ⟨fun b o e => k b o (fun q => by rw [q, HRep.base_tab hP] at e; cases e) (x.base b o e), x.len, x.nd, fun i o a h1 h2 => let ⟨ro, e, r⟩ := x.obj i o a h1 h2; ⟨ro, k _ _ (fun q => (x.off a (List.mem_of_getElem? h2)).2.1 (q ▸ hP)) e, r.mono le⟩,
    fun p hp => ?_, fun b hb => ?_, fun p hp => ?_, x.ms, a.1, a.2.1, a.2.2⟩
  · rcases List.mem_cons.mp hp with rfl | hp
    · exact ec
    · exact k _ _ (fun q => x.offi p hp (q ▸ hP)) (x.imm p hp)
  · refine ⟨(x.off b hb).1, (x.off b hb).2.1, fun p hp => ?_⟩
    rcases List.mem_cons.mp hp with rfl | hp
    · exact fun q => offc.2.1 (by have q' : c' = b := q; rw [q']; exact hb)
    · exact (x.off b hb).2.2 p hp
  · rcases List.mem_cons.mp hp with rfl | hp
    · exact offc.2.2.1
    · exact x.offi p hp
theorem sel1 : TabSel D 219 221 162 40 "_law_due.<locals>.<lambda>" :=
  ⟨by decide, D.c1, fun x => x.t1, fun x le k t => ⟨t, x.t2.mono le fun o e => k 207 o (by decide) e, x.t3.mono le fun o e => k 153 o (by decide) e⟩⟩
theorem sel2 : TabSel D 207 209 145 32 "subject_threads.<locals>.<lambda>" :=
  ⟨by decide, D.c2, fun x => x.t2, fun x le k t => ⟨x.t1.mono le fun o e => k 219 o (by decide) e, t, x.t3.mono le fun o e => k 153 o (by decide) e⟩⟩
theorem sel3 : TabSel D 153 157 106 29 "in_order.<locals>.<lambda>" :=
  ⟨by decide, D.c3, fun x => x.t3, fun x le k t => ⟨x.t1.mono le fun o e => k 219 o (by decide) e, x.t2.mono le fun o e => k 207 o (by decide) e, t⟩⟩

inductive CapL (si : SI) (ls : Scope) : List Str → Prop
  | nil (h : ∀ env, closureFor ls env = pure []) : CapL si ls []
  | one (x : Str) (h1 : ls.names.lookup x = some .free) (h2 : si.scope.names.lookup x = some .cell) (h : ∀ env c, env.cells.lookup x = some c → closureFor ls env = pure [(x, c)]) : CapL si ls [x]
theorem cellsL {si : SI} {fv : List Str} {ls : Scope} {env : Env} (cap : CapL si ls fv) (eo : EnvOk si env) : ∃ cl : List (Str × Addr), cl.map (·.1) = fv ∧ (∀ p ∈ cl, env.cells.lookup p.1 = some p.2) ∧ closureFor ls env = pure cl := by
  cases cap with
  | nil h => exact ⟨[], rfl, fun p hp => (nomatch hp), h env⟩
  | one x h1 h2 h =>
    obtain ⟨c, hc⟩ := eo.cells x h2
    exact ⟨[(x, c)], rfl, fun p hp => by rw [List.mem_singleton.mp hp]; exact hc, h env c hc⟩

/-- the builtins module of the top -/
theorem bmainAt {P : Addr} (hr : HRep D R mh h) (hP : P ∈ tabs) : h.Ns mainGlobals D.mg ∧ mainGlobals ≠ P ∧ h.BuiltinsAt D.mg P := by
  have hn := HRep.base_tab (D := D) hP
  have hgs := D.T.g
  obtain ⟨bm, ob, b1, b2, b3, b4, b5, b6⟩ := D.T.bmain
  refine ⟨hgs.keeps hr.base, fun q => ?_, bm, ob, b1, b2, fun q => ?_, fun q => ?_, hr.base _ _ b3, b4, b5, b6⟩
  · obtain ⟨o, es, ep, e, _⟩ := hgs; rw [q, hn] at e; cases e
  · obtain ⟨o, es, ep, e, hd, _⟩ := hgs; rw [← q, b3] at e; cases e; rw [hd] at b6; cases b6
  · rw [q, hn] at b3; cases b3

/-- two immutable objects at once -/
theorem make_lambda {si : SI} {A : Around} {env : Env} {s : Shared} {P c : Addr} {line col : Nat} {q : Str} {params : Arguments} {body : Expr} {ls : Scope} {lp : Pos} {cl : List (Str × Addr)} {Q : Value → Shared → Prop}
    (sel : TabSel D P c line col q) (eo : EnvOk si env) (hr : HRep D R mh s.heap) (hcl : closureFor ls env = pure cl) (hq : si.qual ++ "<lambda>" = q) (hcode : si.code = .ref c) (hl : lp.line = line) (hc : lp.col = col) (hdef : ∀ env, defaultsOf params env = ([], []))
    (h : ∀ R' f pm c' ctv oc vs t h' tk', Go [] R R' s.heap h' → HRep D R' mh h' → (f, kla_obj "<lambda>" q params body ls cl pm c' ctv) ∈ R'.ι → (c', oc) ∈ R'.ι → oc.data = .fields vs → vs[1]? = some (.str q t) → Q (.ref f) { s with heap := h', toks := tk' }) :
    wpAny (model Prg D.w) A (eval (.Lambda params body ls lp) env) Q (fun _ _ => False) s := by
  refine kla_eval (hdef env) ?_
  rw [eo.qual, hq]
  obtain ⟨hg, hgP, hb⟩ := bmainAt hr sel.mem
  have C : CodeHd s.heap c P := sel.code.keeps hr.base
  obtain ⟨ps, hP, hps⟩ := sel.get hr
  rcases hps with rfl | ⟨c', oc, vs, t, rfl, hoc, hdd, hv⟩
  · refine kla_makeFunction (mg := D.mg) hcl (by rw [eo.globals]) hg (by rw [eo.code, hcode]) C hP trivial rfl hgP hb fun c' ctv h1 tk hx hge hlt hrec htb => ?_
    obtain ⟨c2, oc, vs, t, e2, hoc, hdd, hv⟩ := hrec
    cases e2
    have kP : ∀ b o, b ≠ P → s.heap.get? b = some o → h1.get? b = some o := hx
    have kk := Kept.push h1 (kla_obj "<lambda>" q params body ls cl ((D.mg "__name__").getD .none) c' ctv)
    have nc : s.heap.get? c' = none := Heap.get?_none_of_le hge
    have hPlt : P < s.heap.objs.size := Heap.lt_size hP
    have offc := hr.newOff nc
    have le := RLe.imm R (c', oc)
    -- with the code object
    have hr1 : HRep D ⟨R.ρ, (c', oc) :: R.ι⟩ mh h1 := by
      have t9 : TabOk ⟨R.ρ, (c', oc) :: R.ι⟩ h1 P line col q := ⟨_, htb, .inr ⟨c', oc, vs, t, by simp [hl, hc], List.mem_cons_self, hdd, hv⟩⟩
      exact hr.tab sel.mem kP nc hoc (sel.set hr le kP t9)
    have g1 : Go [] R ⟨R.ρ, (c', oc) :: R.ι⟩ s.heap h1 := by
      refine ⟨le, fun b o e => ?_, fun b o _ h2 _ e => kP b o (fun q => h2 (q ▸ sel.mem)) e, fun _ h => .inl h, fun p hp => ?_⟩
      · by_cases q : b = P
        · rw [q]; exact ⟨_, htb⟩
        · exact ⟨o, kP b o q e⟩
      · rcases List.mem_cons.mp hp with rfl | hp
        · exact .inr nc
        · exact .inl hp
    have ef : (h1.push (kla_obj "<lambda>" q params body ls cl ((D.mg "__name__").getD .none) c' ctv)).get? h1.objs.size = some _ := Heap.get?_push_size _ rfl
    exact h _ _ _ c' ctv oc vs t _ tk (g1.trans (Go.fix [] kk (next_none _))) (hr1.fix kk (next_none _) ef) List.mem_cons_self (List.mem_cons_of_mem _ List.mem_cons_self) hdd hv
  · refine kla_makeFunctionHit (mg := D.mg) (cv := .ref c') hcl (by rw [eo.globals]) hg (by rw [eo.code, hcode]) C hP (by simp [TriplesOk, rawInt]) (by simp [codeAmong, rawInt, hl, hc]) hb fun ctv h1 tk hk hsz => ?_
    have kk := Kept.push h1 (kla_obj "<lambda>" q params body ls cl ((D.mg "__name__").getD .none) c' ctv)
    have ef : (h1.push (kla_obj "<lambda>" q params body ls cl ((D.mg "__name__").getD .none) c' ctv)).get? h1.objs.size = some _ := Heap.get?_push_size _ rfl
    exact h _ _ _ c' ctv oc vs t _ tk ((Go.grow [] R hk).trans (Go.fix [] kk (next_none _))) ((hr.grow hk).fix kk (next_none _) ef) List.mem_cons_self (List.mem_cons_of_mem _ hoc) hdd hv

theorem ROk.call2 {A : Around} (x : ROk (n + 1) A) (env : Env) : ROk n (A.in1.in1.deeper env) :=
  ⟨x.handled, by show A.depth + 1 + 3 * n < _; have := x.depth; omega, by show A.units + 1 + 1 + 3 + 20 * n < _; have := x.units; omega⟩

theorem EW_sortedK {si : SI} {σ : Locals} {fp pos kp lp : Pos} {e1 body : Expr} {params : Arguments} {ls : Scope} {x : Str} {P c : Addr} {line col : Nat} {q : Str} {Q : MV → MH → Prop} (sel : TabSel D P c line col q) (fv : List Str) (cap : CapL si ls fv)
    (h : EW D (n + 1) si e1 σ (fun v mh' => ∃ i vs kf, v = .ref i ∧ mh'[i]? = some (.lst vs) ∧ vs.length ≤ 60 ∧ ((vs.map kf).map (·.2)).Nodup ∧
      (∀ v ∈ vs, ∀ cdv, EW D n ⟨ls, cdv, q ++ ".<locals>."⟩ body ((x, v) :: capd fv σ) (fun r m => r = kmv (kf v) ∧ m = mh') mh') ∧ ∀ out, Sorted kf vs out → Q (.ref mh'.length) (mh' ++ [.lst out])) mh)
    (hq : si.qual ++ "<lambda>" = q := by with_unfolding_all rfl) (hcode : si.code = .ref c := by with_unfolding_all rfl) (hl : lp.line = line := by with_unfolding_all rfl) (hc : lp.col = col := by with_unfolding_all rfl) (hdef : ∀ env, defaultsOf params env = ([], []) := by intros; with_unfolding_all rfl)
    (hkl : ls.kind = .function := by with_unfolding_all rfl) (hco : ls.isCoroutine = false := by with_unfolding_all rfl) (hgen : ls.isGenerator = false := by with_unfolding_all rfl) (hx : ls.names.lookup x = some .local := by with_unfolding_all rfl) (hcell : ∀ y ∈ ls.names, y.2 ≠ .cell := by decide) (hxf : ∀ y ∈ fv, y ≠ x := by decide)
    (hbind : ∀ rv cl pm cdv ct, bindArgs (kla_fn "<lambda>" q params body ls cl pm cdv ct) ⟨[rv], []⟩ = pure [(x, rv)] := by intros; with_unfolding_all rfl)
    (hg : si.scope.names.lookup (Str.ofString "sorted") = some NameKind.globalImplicit := by with_unfolding_all rfl) (hk : nsIn (Kf D.w) mainGlobals "sorted" = some none := by with_unfolding_all rfl) (hb : bootBuiltins "sorted" = some (.builtin "sorted") := by with_unfolding_all rfl)
    (he : ∀ env, eval (.Call (.Name "sorted" fp) [e1] [⟨some "key", .Lambda params body ls lp, kp⟩] pos) env = (do callWith pos (← eval (.Name "sorted" fp) env) [] (backTo pos (starEach [e1] env)) (backToKw pos (keywordEach [⟨some "key", .Lambda params body ls lp, kp⟩] env))) := by intros; with_unfolding_all rfl)
    (hst : ∀ env, starEach [e1] env = [(false, eval e1 env)] := by intros; with_unfolding_all rfl) (hkw : ∀ env, keywordEach [⟨some "key", .Lambda params body ls lp, kp⟩] env = [(some (Str.ofString "key"), eval (.Lambda params body ls lp) env)] := by intros; with_unfolding_all rfl) :
    EW D (n + 1) si (.Call (.Name "sorted" fp) [e1] [⟨some "key", .Lambda params body ls lp, kp⟩] pos) σ Q mh := by
  intro A env R s ok eo hr nm
  rw [he]
  refine wpAny_bind (Name_function_global eo.kind' (by rw [eo.kindOf]; exact hg) (loadGlobal_builtin (v := .builtin "sorted") (by rw [eo.globals]; exact D.T.g.keeps hr.base) (mg_none_of D.X D.T.g hk) (by rw [eo.builtins]; exact D.T.b.keeps hr.base) ((D.T.builtins _ (by decide)).trans hb) ?_) (by decide))
  rw [hst, hkw]
  refine callWith_of (P := fun _ => True) (args := backTo pos [(false, eval e1 env)]) (by rfl) (fun _ _ => ⟨.machine, .inr (.inl rfl), .now⟩) ?_
  show wpAny _ _ (evalArgs (.builtin "sorted") true [(false, eval e1 env)] [(some (Str.ofString "key"), do let v ← eval (.Lambda params body ls lp) env; standAt pos; pure v)]) _ _ _
  refine evalArgs_kw (x := eval e1 env) (rest := []) (keywords := [(some "key", do let v ← eval (.Lambda params body ls lp) env; standAt pos; pure v)]) (by rfl) ?_
  refine spliced_cons (wpAny_mono (h A env R s ok eo hr nm) (fun ra s1 h1 => spliced_nil ?_) fun _ _ f => f)
  obtain ⟨R1, mh1, va, H1, tk1, rfl, g1, hr1, v1, i, vs, kf, rfl, hi, hz, hn, hbody, hQ⟩ := h1
  have nm1 := nm.go g1
  cases v1 with | @ref _ l hl1 =>
  obtain ⟨cl, hcl1, hcl2, hcl3⟩ := cellsL cap eo
  refine wpAny_evalAll_cons (wpAny_bind (make_lambda (s := { s with heap := H1, toks := tk1 }) sel eo hr1 hcl3 hq hcode hl hc hdef fun R2 f pm c' ctv oc vs' t h2 tk2 g2 hr2 hf hoc hdd hv => wpAny_bind (wpAny_standAt (wpAny_pure (wpAny_evalAll_nil ⟨trivial, ?_⟩)))))
  have nm2 := nm1.go g2
  have ef := hr2.imm _ hf
  have hl2 := g2.le.rho _ _ hl1
  refine sorted_core (n := n) (s := { s with heap := h2, toks := tk2 }) (kf := kf) ok hr2 hi hl2 hz hn (fun v hv' R' s' rv le hr' vr keep noff => ?_) ?_
  · -- the key of one item
    have ef' := hr'.imm _ (le.iota _ hf)
    have eoc' := hr'.imm _ (le.iota _ hoc)
    refine wpAny_call (kla_callFunE (fd := kla_fn "<lambda>" q params body ls cl pm (.ref c') ctv) (body := body) (by have := ok.room; exact this) ef' rfl hco hgen rfl ⟨c', oc, vs', t, rfl, eoc', hdd, hv⟩ ?_)
    rw [hbind]
    refine wpAny_pure (wpAny_newFunctionEnv hcell (by intro y hy; rw [List.mem_singleton.mp hy]; exact hx) (fun h₁ hns hsb => ⟨(hr'.lim).fresh _ hsb, ?_⟩) hkl)
    have k1 : Kept s'.heap h₁ := fun b o e => hsb.extBut b o (Nat.ne_of_lt (Heap.lt_size e)) (Heap.get?_push_of_some _ e)
    have nL := hr'.newOff (next_none s'.heap)
    show codeAny _ _ (.expr body (envX q ls s'.heap.objs.size f (.ref c') cl)) _ _
    have eo2 : EnvOk ⟨ls, .ref c', q ++ ".<locals>."⟩ (envX q ls s'.heap.objs.size f (.ref c') cl) := ⟨rfl, rfl, rfl, rfl, rfl, hkl, fun y hy => absurd rfl (hcell (y, .cell) (mem_of_lookup hy))⟩
    have hclE : ∀ p ∈ cl, (p.1, p.2) ∈ env.cells := fun p hp => mem_of_lookup (hcl2 p hp)
    have kcell : ∀ p ∈ cl, ∀ v, h2.IsCell p.2 v → h₁.IsCell p.2 v := fun p hp v ⟨o, e, d⟩ => by
      have na := nm2.na p.2 (List.mem_cons_of_mem _ (List.mem_map.mpr ⟨_, hclE p hp, rfl⟩))
      exact ⟨o, k1 _ _ (keep _ _ e na.2.1 na.2.2.1), d⟩
    have cin : ∀ p ∈ cl, ∃ o, h2.get? p.2 = some o := fun p hp => nm2.lt _ (List.mem_cons_of_mem _ (List.mem_map.mpr ⟨_, hclE p hp, rfl⟩))
    have cin' : ∀ p ∈ cl, ∃ o, s'.heap.get? p.2 = some o := fun p hp => by
      obtain ⟨o, e⟩ := cin p hp
      have na := nm2.na p.2 (List.mem_cons_of_mem _ (List.mem_map.mpr ⟨_, hclE p hp, rfl⟩))
      exact ⟨o, keep _ _ e na.2.1 na.2.2.1⟩
    have nmL : NamesOk D (envX q ls s'.heap.objs.size f (.ref c') cl) ((x, v) :: capd fv σ) R' h₁ := by
      refine ⟨⟨_, hns, fun y mv hy => ?_⟩, fun y cc hc' => ?_, ?_, fun y cc hc' => ?_, fun a ha => ?_⟩
      · rw [List.lookup_cons] at hy
        cases hyx : y == x with
        | true =>
          rw [hyx] at hy; cases hy
          have := beq_iff_eq.mp hyx; subst this
          exact ⟨rv, vr, .inl ⟨hx, by simp⟩⟩
        | false =>
          rw [hyx] at hy
          cases cap with
          | nil => simp [capd] at hy
          | one z h1 h2' h3 =>
            have hyz : y = z ∧ σ.lookup z = some mv := by
              cases hl : σ.lookup z with
              | none => simp [capd, hl] at hy
              | some v0 =>
                simp [capd, hl, List.lookup_cons] at hy
                cases hq : y == z with
                | true => rw [hq] at hy; exact ⟨beq_iff_eq.mp hq, by simpa using hy⟩
                | false => rw [hq] at hy; simp at hy
            obtain ⟨rfl, hlk⟩ := hyz
            obtain ⟨m, hm, hv9⟩ := nm2.ns
            obtain ⟨rv9, vr9, hn9⟩ := hv9 y mv hlk
            rcases hn9 with ⟨hk9, _⟩ | ⟨_, cc, hcc, iv⟩
            · rw [eo.kindOf, h2'] at hk9; cases hk9
            · match cl, hcl1, hcl2, kcell with
              | [p], e1, e2, kc =>
                obtain ⟨p1, p2⟩ := p
                have e1' : p1 = y := by simpa using e1
                subst e1'
                have := e2 (p1, p2) List.mem_cons_self
                rw [hcc] at this
                cases this
                exact ⟨rv9, vr9.mono le, .inr ⟨.inr h1, p2, by simp [List.lookup_cons], kc _ List.mem_cons_self _ iv⟩⟩
      · obtain ⟨v9, iv⟩ := nm2.cells y cc (hclE (y, cc) hc'); exact ⟨v9, kcell _ hc' _ iv⟩
      · cases cap with
        | nil => have : cl = [] := by simpa using hcl1
                 rw [this]; exact .nil
        | one z => match cl, hcl1 with
                   | [p], _ => exact List.pairwise_singleton ..
      · obtain ⟨o, e⟩ := cin' _ hc'
        exact Nat.ne_of_lt (Heap.lt_size e)
      · rcases List.mem_cons.mp ha with rfl | ha
        · exact nL
        · obtain ⟨p, hp, rfl⟩ := List.mem_map.mp ha
          obtain ⟨o, e⟩ := cin p hp
          have na := nm2.na p.2 (List.mem_cons_of_mem _ (List.mem_map.mpr ⟨_, hclE p hp, rfl⟩))
          obtain ⟨f1, f2⟩ := noff _ _ e na.2.1 na.2.2.2
          exact ⟨na.1, f1, na.2.2.1, f2⟩
    refine kla_codeExpr (wpAny_mono (hbody v hv' (.ref c') (A.in1.in1.deeper _) _ R' { s' with heap := h₁, toks := s'.toks + [(x, rv)].length } (ok.call2 _) eo2 (hr'.grow k1) nmL) (fun r s9 z => ?_) fun _ _ f => f.elim)
    exact VPost.after (Go.grow _ _ k1) z
  · intro d R' h' tk' out rout c9 hS hv9 ed nd hms g9 hr9 od
    have le := RLe.snoc R' d
    have go := (g1.trans g2).trans g9
    have nd0 : s.heap.get? d = none := none_of_there (g1.trans g2).there nd
    exact ⟨⟨R'.ρ ++ [d], R'.ι⟩, _, _, h', tk', rfl, ⟨go.le.trans le, go.there, go.keep, fun a ha => (List.mem_append.mp ha).elim (go.fresh a) fun q => .inr (by rw [List.mem_singleton.mp q]; exact nd0), go.freshi⟩,
      hr9.adopt (o := .lst out) (od.off d List.mem_cons_self) hms ed ⟨rout, c9, rfl, hv9.mono le⟩, .ref (snoc_get R' _ hr9.len), hQ out hS⟩
end
end Mine

namespace Mine
noncomputable def ACls (C : Addr) : Prop := C = 36 ∨ C = 123
noncomputable def AttrIs (mh : MH) (v : MV) (attr : Str) (x : MV) : Prop := ∃ C i kvs, v = .obj C i ∧ ACls C ∧ mh[i]? = some (.fld kvs) ∧ kvs.lookup attr = some x
section
variable {D : WD} {n : Nat} {si : SI} {σ : Locals} {mh : MH} {R : RR}
theorem EW_at {value : Expr} {attr : Str} {pos : Pos} {Q : MV → MH → Prop} (h : EW D n si value σ (fun v mh' => ∃ x, AttrIs mh' v attr x ∧ Q x mh') mh)
    (ha : findIn (Kf D.w) (.ref 36) attr = some none := by with_unfolding_all rfl) (ha2 : findIn (Kf D.w) (.ref 123) attr = some none := by with_unfolding_all rfl)
    (he : ∀ env, eval (.Attribute value attr pos) env = (do
        let o ← eval value env
        standAt pos.atName
        let r ← holding [o] (getAttr o attr true)
        letTemporaryGo value o r
        pure r) := by intros; with_unfolding_all rfl) : EW D n si (.Attribute value attr pos) σ Q mh := by
  intro A env R s ok eo hr nm
  refine Attribute_any_ (wpAny_mono (h A env R s ok eo hr nm) (fun ra s1 h1 => ?_) fun _ _ f => f) (he env)
  obtain ⟨R1, mh1, va, H1, tk1, rfl, g1, hr1, v1, x, ⟨C, i, kvs, rfl, hC, hi, hx⟩, q1⟩ := h1
  obtain ⟨a, dx, es, k, rfl, hdx, I, e, fr⟩ := hr1.inst v1 hi
  rcases fr.find attr with ⟨v, rv, e1, e2, vv⟩ | ⟨e1, _⟩
  · rw [hx] at e1; cases e1
    rcases hC with rfl | rfl
    · refine get_value (s := { s with heap := H1, toks := tk1 }) hr1.X I (by rfl) (findObj_own (by rfl) ha (by rfl) (by rw [lookIn_dict]; exact e2)) vv.handed ?_
      exact VPost.after g1 (VPost.now (s := { s with heap := H1, toks := tk1 }) hr1 vv q1)
    · refine get_value (s := { s with heap := H1, toks := tk1 }) hr1.X I (by rfl) (findObj_own (by rfl) ha2 (by rfl) (by rw [lookIn_dict]; exact e2)) vv.handed ?_
      exact VPost.after g1 (VPost.now (s := { s with heap := H1, toks := tk1 }) hr1 vv q1)
  · rw [hx] at e1; cases e1
theorem XW_setat {o value : Expr} {attr : Str} {pos pos' : Pos} {QN : Locals → MH → Prop} {QR : MV → MH → Prop}
    (h : EW D n si value σ (fun v mh' => EW D n si o σ (fun ov mh'' => ∃ C i kvs, ov = .obj C i ∧ ACls C ∧ mh''[i]? = some (.fld kvs) ∧ kvs.length ≤ 900 ∧ QN σ (mh''.set i (.fld (put kvs attr v)))) mh') mh)
    (ht : takerIn (Kf D.w) 36 attr = some none := by with_unfolding_all rfl) (ht2 : takerIn (Kf D.w) 123 attr = some none := by with_unfolding_all rfl)
    (hw : ∀ env : Env, env.scope = si.scope → swapsWith value (some (.Attribute o attr pos')) pos.line env = pure false := by intros; with_unfolding_all rfl) : XW D n si (.Assign [.Attribute o attr pos'] value pos) σ QN QR mh := by
  intro A env R s ok eo hr nm
  refine plainObj_wpAny_Assign_Attribute (wpAny_mono (h A env R s ok eo hr nm) (fun rv s1 h1 => ?_) fun _ _ f => f) (hw env eo.scope)
  obtain ⟨R1, mh1, va, H1, tk1, rfl, g1, hr1, v1, q1⟩ := h1
  refine wpAny_mono (q1 A env R1 _ ok eo hr1 (nm.go g1)) (fun ro s2 h2 => ?_) fun _ _ f => f
  obtain ⟨R2, mh2, vb, H2, tk2, rfl, g2, hr2, v2, C, i, kvs, rfl, hC, hi, hz, q2⟩ := h2
  obtain ⟨a, dx, es, k, rfl, hdx, I, e, fr⟩ := hr2.inst v2 hi
  have hl : (getL attr es).isSome = true := by rcases fr.find attr with ⟨_, _, _, e2, _⟩ | ⟨_, e2⟩ <;> rw [e2] <;> rfl
  have fin : ∀ h' tk hsh t k', Heap.SameBut dx H2 h' → h'.get? dx = some (dictOf (putL attr hsh (.str attr t) rv es) k') → SPost D env R s QN QR .next { s with heap := h', toks := tk } := by
    intro h' tk hsh t k' sb e'
    have kb : ∀ b o, b ≠ dx → H2.get? b = some o → h'.get? b = some o := fun b o hb e => (sb.2 b hb).trans e
    have v1' := v1.mono g2.le
    exact ⟨R2, _, h', tk, rfl, ((g1.trans g2).trans (Go.upd [] hdx kb ⟨_, e'⟩)).weak, hr2.upd (o := .fld (put kvs attr _)) hdx kb e' ⟨_, _, rfl, fr.puts attr hsh t v1'⟩, σ, nm.go ((g1.trans g2).trans (Go.upd [] hdx kb ⟨_, e'⟩)), q2⟩
  rcases hC with rfl | rfl
  · exact setAttr_here (s := { s with heap := H2, toks := tk2 }) (name := attr) hr2.X I e (by rfl) (by rfl) ht (by rfl) hl (by rw [fr.len]; exact hz) fin
  · exact setAttr_here (s := { s with heap := H2, toks := tk2 }) (name := attr) hr2.X I e (by rfl) (by rfl) ht2 (by rfl) hl (by rw [fr.len]; exact hz) fin
end
end Mine

namespace Mine
section
variable {D : WD} {n : Nat} {si : SI} {σ : Locals} {mh : MH} {R : RR}
theorem EW_call1 {Q : MV → MH → Prop} {f : Str} {v : Value} {fp pos : Pos} {e : Expr} (h : EW D n si e σ (fun a mh' => CW D n v [a] Q mh') mh)
    (hB : IsB v) (hb : bootBuiltins f = some v) (hd : (f == ("__debug__" : Str)) = false) (hd2 : f ≠ ("__name__" : Str)) (hk : nsIn (Kf D.w) mainGlobals f = some none)
    (hg : si.scope.names.lookup f = some .globalImplicit)
    (he : ∀ env, eval (.Call (.Name f fp) [e] [] pos) env = (do callWith pos (← eval (.Name f fp) env) [] (backTo pos (starEach [e] env)) (backToKw pos (keywordEach [] env))))
    (hst : ∀ env, starEach [e] env = (false, eval e env) :: starEach [] env) (hpl : ∀ env, (backTo pos (starEach [e] env)).any (·.1) = false) : EW D n si (.Call (.Name f fp) [e] [] pos) σ Q mh :=
  EW_callB (v := v) (EsW_cons (EW.mono h fun a mh' hq => EsW_nil hq) hst) hB hg hk hb hd hd2 he hpl
theorem EW_len {fp pos : Pos} {e : Expr} {Q : MV → MH → Prop} (h : EW D n si e σ (fun v mh' => ∃ i vs, v = .ref i ∧ mh'[i]? = some (.lst vs) ∧ vs.length ≤ 1000 ∧ Q (.int vs.length) mh') mh)
    (hg : si.scope.names.lookup (Str.ofString "len") = some .globalImplicit := by with_unfolding_all rfl)
    (he : ∀ env, eval (.Call (.Name (Str.ofString "len") fp) [e] [] pos) env = (do callWith pos (← eval (.Name (Str.ofString "len") fp) env) [] (backTo pos (starEach [e] env)) (backToKw pos (keywordEach [] env))) := by intros; with_unfolding_all rfl)
    (hst : ∀ env, starEach [e] env = (false, eval e env) :: starEach [] env := by intros; with_unfolding_all rfl) (hpl : ∀ env, (backTo pos (starEach [e] env)).any (·.1) = false := by intros; with_unfolding_all rfl) : EW D n si (.Call (.Name (Str.ofString "len") fp) [e] [] pos) σ Q mh :=
  EW_call1 (v := .builtin "len") (EW.mono h fun v mh' ⟨i, vs, e1, e2, e3, q⟩ => by rw [e1]; exact CW_len e2 e3 q) trivial (by rfl) (by decide) (by decide) (by rfl) hg he hst hpl
theorem EW_listc {fp pos : Pos} {e : Expr} {Q : MV → MH → Prop} (h : EW D n si e σ (fun v mh' => ∃ i vs, v = .ref i ∧ mh'[i]? = some (.lst vs) ∧ vs.length ≤ 1000 ∧ Q (.ref mh'.length) (mh' ++ [.lst vs])) mh)
    (hg : si.scope.names.lookup (Str.ofString "list") = some .globalImplicit := by with_unfolding_all rfl)
    (he : ∀ env, eval (.Call (.Name (Str.ofString "list") fp) [e] [] pos) env = (do callWith pos (← eval (.Name (Str.ofString "list") fp) env) [] (backTo pos (starEach [e] env)) (backToKw pos (keywordEach [] env))) := by intros; with_unfolding_all rfl)
    (hst : ∀ env, starEach [e] env = (false, eval e env) :: starEach [] env := by intros; with_unfolding_all rfl) (hpl : ∀ env, (backTo pos (starEach [e] env)).any (·.1) = false := by intros; with_unfolding_all rfl) : EW D n si (.Call (.Name (Str.ofString "list") fp) [e] [] pos) σ Q mh :=
  EW_call1 (v := .type "list") (EW.mono h fun v mh' ⟨i, vs, e1, e2, e3, q⟩ => by rw [e1]; exact CW_list e2 e3 q) trivial (by rfl) (by decide) (by decide) (by rfl) hg he hst hpl
theorem EW_tuplec {fp pos : Pos} {e : Expr} {Q : MV → MH → Prop} (h : EW D n si e σ (fun v mh' => ∃ i vs, v = .ref i ∧ mh'[i]? = some (.lst vs) ∧ vs.length ≤ 1000 ∧ Q (.tup vs) mh') mh)
    (hg : si.scope.names.lookup (Str.ofString "tuple") = some .globalImplicit := by with_unfolding_all rfl)
    (he : ∀ env, eval (.Call (.Name (Str.ofString "tuple") fp) [e] [] pos) env = (do callWith pos (← eval (.Name (Str.ofString "tuple") fp) env) [] (backTo pos (starEach [e] env)) (backToKw pos (keywordEach [] env))) := by intros; with_unfolding_all rfl)
    (hst : ∀ env, starEach [e] env = (false, eval e env) :: starEach [] env := by intros; with_unfolding_all rfl) (hpl : ∀ env, (backTo pos (starEach [e] env)).any (·.1) = false := by intros; with_unfolding_all rfl) : EW D n si (.Call (.Name (Str.ofString "tuple") fp) [e] [] pos) σ Q mh :=
  EW_call1 (v := .type "tuple") (EW.mono h fun v mh' ⟨i, vs, e1, e2, e3, q⟩ => by rw [e1]; exact CW_tuple e2 e3 q) trivial (by rfl) (by decide) (by decide) (by rfl) hg he hst hpl
theorem EW_dictc {fp pos : Pos} {e : Expr} {Q : MV → MH → Prop} (h : EW D n si e σ (fun v mh' => ∃ (i : Nat) (kvs : List (Int × MV)), v = .ref i ∧ mh'[i]? = some (.lst (kvs.map fun p => .tup [.int p.1, p.2])) ∧ kvs.length ≤ 900 ∧ (kvs.map (·.1)).Nodup ∧ ∀ ep, Q (.ref mh'.length) (mh' ++ [.dctI ep kvs])) mh)
    (hg : si.scope.names.lookup (Str.ofString "dict") = some .globalImplicit := by with_unfolding_all rfl)
    (he : ∀ env, eval (.Call (.Name (Str.ofString "dict") fp) [e] [] pos) env = (do callWith pos (← eval (.Name (Str.ofString "dict") fp) env) [] (backTo pos (starEach [e] env)) (backToKw pos (keywordEach [] env))) := by intros; with_unfolding_all rfl)
    (hst : ∀ env, starEach [e] env = (false, eval e env) :: starEach [] env := by intros; with_unfolding_all rfl) (hpl : ∀ env, (backTo pos (starEach [e] env)).any (·.1) = false := by intros; with_unfolding_all rfl) : EW D n si (.Call (.Name (Str.ofString "dict") fp) [e] [] pos) σ Q mh :=
  EW_call1 (v := .type "dict") (EW.mono h fun v mh' ⟨i, kvs, e1, e2, e3, e4, q⟩ => by rw [e1]; exact CW_dictI e2 e3 e4 q) trivial (by rfl) (by decide) (by decide) (by rfl) hg he hst hpl
theorem EW_range1 {fp pos : Pos} {e : Expr} {Q : MV → MH → Prop} (h : EW D n si e σ (fun v mh' => ∃ a, v = .int a ∧ Q (.rng 0 a 1) mh') mh)
    (hg : si.scope.names.lookup (Str.ofString "range") = some .globalImplicit := by with_unfolding_all rfl)
    (he : ∀ env, eval (.Call (.Name (Str.ofString "range") fp) [e] [] pos) env = (do callWith pos (← eval (.Name (Str.ofString "range") fp) env) [] (backTo pos (starEach [e] env)) (backToKw pos (keywordEach [] env))) := by intros; with_unfolding_all rfl)
    (hst : ∀ env, starEach [e] env = (false, eval e env) :: starEach [] env := by intros; with_unfolding_all rfl) (hpl : ∀ env, (backTo pos (starEach [e] env)).any (·.1) = false := by intros; with_unfolding_all rfl) : EW D n si (.Call (.Name (Str.ofString "range") fp) [e] [] pos) σ Q mh :=
  EW_call1 (v := .type "range") (EW.mono h fun v mh' ⟨a, e1, q⟩ => by rw [e1]; exact CW_range1 q) trivial (by rfl) (by decide) (by decide) (by rfl) hg he hst hpl
theorem EW_abs {fp pos : Pos} {e : Expr} {Q : MV → MH → Prop} (h : EW D n si e σ (fun v mh' => ∃ a, v = .int a ∧ Q (.int (if a < 0 then -a else a)) mh') mh)
    (hg : si.scope.names.lookup (Str.ofString "abs") = some .globalImplicit := by with_unfolding_all rfl)
    (he : ∀ env, eval (.Call (.Name (Str.ofString "abs") fp) [e] [] pos) env = (do callWith pos (← eval (.Name (Str.ofString "abs") fp) env) [] (backTo pos (starEach [e] env)) (backToKw pos (keywordEach [] env))) := by intros; with_unfolding_all rfl)
    (hst : ∀ env, starEach [e] env = (false, eval e env) :: starEach [] env := by intros; with_unfolding_all rfl) (hpl : ∀ env, (backTo pos (starEach [e] env)).any (·.1) = false := by intros; with_unfolding_all rfl) : EW D n si (.Call (.Name (Str.ofString "abs") fp) [e] [] pos) σ Q mh :=
  EW_call1 (v := .builtin "abs") (EW.mono h fun v mh' ⟨a, e1, q⟩ => by rw [e1]; exact CW_abs q) trivial (by rfl) (by decide) (by decide) (by rfl) hg he hst hpl
theorem EW_intc {fp pos : Pos} {e : Expr} {Q : MV → MH → Prop} (h : EW D n si e σ (fun v mh' => ∃ a, v = .int a ∧ Q (.int a) mh') mh)
    (hg : si.scope.names.lookup (Str.ofString "int") = some .globalImplicit := by with_unfolding_all rfl)
    (he : ∀ env, eval (.Call (.Name (Str.ofString "int") fp) [e] [] pos) env = (do callWith pos (← eval (.Name (Str.ofString "int") fp) env) [] (backTo pos (starEach [e] env)) (backToKw pos (keywordEach [] env))) := by intros; with_unfolding_all rfl)
    (hst : ∀ env, starEach [e] env = (false, eval e env) :: starEach [] env := by intros; with_unfolding_all rfl) (hpl : ∀ env, (backTo pos (starEach [e] env)).any (·.1) = false := by intros; with_unfolding_all rfl) : EW D n si (.Call (.Name (Str.ofString "int") fp) [e] [] pos) σ Q mh :=
  EW_call1 (v := .type "int") (EW.mono h fun v mh' ⟨a, e1, q⟩ => by rw [e1]; exact CW_int q) trivial (by rfl) (by decide) (by decide) (by rfl) hg he hst hpl
theorem EW_strc {fp pos : Pos} {e : Expr} {Q : MV → MH → Prop} (h : EW D n si e σ (fun v mh' => ∃ a, v = .int a ∧ a.natAbs.log2 < 1920 ∧ Q (.str (Str.ofString (toString a))) mh') mh)
    (hg : si.scope.names.lookup (Str.ofString "str") = some .globalImplicit := by with_unfolding_all rfl)
    (he : ∀ env, eval (.Call (.Name (Str.ofString "str") fp) [e] [] pos) env = (do callWith pos (← eval (.Name (Str.ofString "str") fp) env) [] (backTo pos (starEach [e] env)) (backToKw pos (keywordEach [] env))) := by intros; with_unfolding_all rfl)
    (hst : ∀ env, starEach [e] env = (false, eval e env) :: starEach [] env := by intros; with_unfolding_all rfl) (hpl : ∀ env, (backTo pos (starEach [e] env)).any (·.1) = false := by intros; with_unfolding_all rfl) : EW D n si (.Call (.Name (Str.ofString "str") fp) [e] [] pos) σ Q mh :=
  EW_call1 (v := .type "str") (EW.mono h fun v mh' ⟨a, e1, e2, q⟩ => by rw [e1]; exact CW_str e2 q) trivial (by rfl) (by decide) (by decide) (by rfl) hg he hst hpl

theorem EW_range3 {fp pos : Pos} {e1 e2 e3 : Expr} {Q : MV → MH → Prop} (h : EW D n si e1 σ (fun v1 m1 => EW D n si e2 σ (fun v2 m2 => EW D n si e3 σ (fun v3 m3 => ∃ a b c, v1 = .int a ∧ v2 = .int b ∧ v3 = .int c ∧ c ≠ 0 ∧ Builtin.divisionGoesByPylong (b - a) c = false ∧ Q (.rng a b c) m3) m2) m1) mh)
    (hg : si.scope.names.lookup (Str.ofString "range") = some .globalImplicit := by with_unfolding_all rfl)
    (he : ∀ env, eval (.Call (.Name (Str.ofString "range") fp) [e1, e2, e3] [] pos) env = (do callWith pos (← eval (.Name (Str.ofString "range") fp) env) [] (backTo pos (starEach [e1, e2, e3] env)) (backToKw pos (keywordEach [] env))) := by intros; with_unfolding_all rfl)
    (h1 : ∀ env, starEach [e1, e2, e3] env = (false, eval e1 env) :: starEach [e2, e3] env := by intros; with_unfolding_all rfl) (h2 : ∀ env, starEach [e2, e3] env = (false, eval e2 env) :: starEach [e3] env := by intros; with_unfolding_all rfl) (h3 : ∀ env, starEach [e3] env = (false, eval e3 env) :: starEach [] env := by intros; with_unfolding_all rfl)
    (hpl : ∀ env, (backTo pos (starEach [e1, e2, e3] env)).any (·.1) = false := by intros; with_unfolding_all rfl) : EW D n si (.Call (.Name (Str.ofString "range") fp) [e1, e2, e3] [] pos) σ Q mh :=
  EW_callB (v := .type "range") (EsW_cons (EW.mono h fun v1 m1 q1 => EsW_cons (EW.mono q1 fun v2 m2 q2 => EsW_cons (EW.mono q2 fun v3 m3 ⟨a, b, c, x1, x2, x3, hc, hp, q⟩ => EsW_nil (by rw [x1, x2, x3]; exact CW_range3 hc hp q)) h3) h2) h1) trivial hg (by rfl) (by rfl) (by decide) (by decide) he hpl

theorem EW_negc {i : Int} {k : Nat} {p1 p2 : Pos} {Q : MV → MH → Prop} (q : Q (.int (-i)) mh) : EW D n si (.UnaryOp .USub (.Constant (.int i) k p1) p2) σ Q mh := EW_neg (EW_int ⟨i, rfl, q⟩)

/-! methods of lists -/
theorem list_obj {i : Nat} {vs : List MV} (hi : mh[i]? = some (.lst vs)) : ∀ R h rv, HRep D R mh h → VRep R (.ref i) rv → ∃ a o, rv = .ref a ∧ h.get? a = some o ∧ o.cls = .type "list" ∧ o.dict = none := by
  intro R h rv hr v
  cases v with | @ref _ a ha =>
  obtain ⟨rvs, c, e, vr⟩ := hr.list hi ha
  exact ⟨a, _, rfl, e, rfl, rfl⟩
theorem dict_obj {i ep : Nat} {kvs : List (Int × MV)} (hi : mh[i]? = some (.dctI ep kvs)) : ∀ R h rv, HRep D R mh h → VRep R (.ref i) rv → ∃ a o, rv = .ref a ∧ h.get? a = some o ∧ o.cls = .type "dict" ∧ o.dict = none := by
  intro R h rv hr v
  cases v with | @ref _ a ha =>
  obtain ⟨ro, e, rk, hd, kr⟩ := hr.obj i _ a hi ha
  obtain ⟨es, hx, r⟩ := hd
  exact ⟨a, _, rfl, e, hx.1, hx.2.1⟩
/-- o.append(e), o.pop(), o.extend(e), o.setdefault(e, d) -/
theorem EW_append {o e : Expr} {apos pos : Pos} {Q : MV → MH → Prop}
    (h : EW D n si o σ (fun v mh1 => ∃ i vs, v = .ref i ∧ mh1[i]? = some (.lst vs) ∧ EW D n si e σ (fun w mh2 => ∃ ws, mh2[i]? = some (.lst ws) ∧ ws.length ≤ 1000 ∧ Q .none (mh2.set i (.lst (ws ++ [w])))) mh1) mh)
    (he : ∀ env, eval (.Call (.Attribute o (Str.ofString "append") apos) [e] [] pos) env = (do
          let ov ← eval o env
          standAt apos.atName
          let __x ← holding [ov] (getMethod ov (Str.ofString "append") (do return (← importBound o env).getD true))
          match __x with
            | (f, first) => callWith pos f first (backTo pos (starEach [e] env)) (backToKw pos (keywordEach [] env))) := by intros; with_unfolding_all rfl)
    (hst : ∀ env, starEach [e] env = (false, eval e env) :: starEach [] env := by intros; with_unfolding_all rfl)
    (hpl : ∀ env, (backTo pos (starEach [e] env)).any (·.1) = false := by intros; with_unfolding_all rfl) : EW D n si (.Call (.Attribute o (Str.ofString "append") apos) [e] [] pos) σ Q mh := by
  refine EW_methB PySem.F.plainAttrs_list PySem.F.slot_list_append PySem.F.type_list_append (EW.mono h fun v mh1 hq => ?_) he hpl
  obtain ⟨i, vs, rfl, hi, hq⟩ := hq
  exact ⟨list_obj hi, EsW_cons (EW.mono hq fun w mh2 ⟨ws, a1, a2, a3⟩ => EsW_nil (CW_append a1 a2 a3)) hst⟩
theorem EW_extend {o e : Expr} {apos pos : Pos} {Q : MV → MH → Prop}
    (h : EW D n si o σ (fun v mh1 => ∃ i vs, v = .ref i ∧ mh1[i]? = some (.lst vs) ∧ EW D n si e σ (fun w mh2 => ∃ j ws us, w = .ref j ∧ mh2[i]? = some (.lst ws) ∧ mh2[j]? = some (.lst us) ∧ ws.length + us.length ≤ 1000 ∧ Q .none (mh2.set i (.lst (ws ++ us)))) mh1) mh)
    (he : ∀ env, eval (.Call (.Attribute o (Str.ofString "extend") apos) [e] [] pos) env = (do
          let ov ← eval o env
          standAt apos.atName
          let __x ← holding [ov] (getMethod ov (Str.ofString "extend") (do return (← importBound o env).getD true))
          match __x with
            | (f, first) => callWith pos f first (backTo pos (starEach [e] env)) (backToKw pos (keywordEach [] env))) := by intros; with_unfolding_all rfl)
    (hst : ∀ env, starEach [e] env = (false, eval e env) :: starEach [] env := by intros; with_unfolding_all rfl)
    (hpl : ∀ env, (backTo pos (starEach [e] env)).any (·.1) = false := by intros; with_unfolding_all rfl) : EW D n si (.Call (.Attribute o (Str.ofString "extend") apos) [e] [] pos) σ Q mh := by
  refine EW_methB PySem.F.plainAttrs_list PySem.F.slot_list_extend PySem.F.type_list_extend (EW.mono h fun v mh1 hq => ?_) he hpl
  obtain ⟨i, vs, rfl, hi, hq⟩ := hq
  exact ⟨list_obj hi, EsW_cons (EW.mono hq fun w mh2 ⟨j, ws, us, e1, a1, a2, a3, a4⟩ => EsW_nil (by rw [e1]; exact CW_extend a1 a2 a3 a4)) hst⟩
theorem EW_pop {o : Expr} {apos pos : Pos} {Q : MV → MH → Prop}
    (h : EW D n si o σ (fun v mh1 => ∃ i vs w, v = .ref i ∧ mh1[i]? = some (.lst (vs ++ [w])) ∧ vs.length ≤ 1000 ∧ Q w (mh1.set i (.lst vs))) mh)
    (he : ∀ env, eval (.Call (.Attribute o (Str.ofString "pop") apos) [] [] pos) env = (do
          let ov ← eval o env
          standAt apos.atName
          let __x ← holding [ov] (getMethod ov (Str.ofString "pop") (do return (← importBound o env).getD true))
          match __x with
            | (f, first) => callWith pos f first (backTo pos (starEach [] env)) (backToKw pos (keywordEach [] env))) := by intros; with_unfolding_all rfl)
    (hpl : ∀ env, (backTo pos (starEach [] env)).any (·.1) = false := by intros; with_unfolding_all rfl) : EW D n si (.Call (.Attribute o (Str.ofString "pop") apos) [] [] pos) σ Q mh := by
  refine EW_methB PySem.F.plainAttrs_list PySem.F.slot_list_pop PySem.F.type_list_pop (EW.mono h fun v mh1 hq => ?_) he hpl
  obtain ⟨i, vs, w, rfl, hi, hz, hq⟩ := hq
  exact ⟨list_obj hi, EsW_nil (CW_pop hi hz hq)⟩
theorem EW_setdefault {o e d : Expr} {apos pos : Pos} {Q : MV → MH → Prop}
    (h : EW D n si o σ (fun v mh1 => ∃ i ep kvs, v = .ref i ∧ mh1[i]? = some (.dctI ep kvs) ∧ EW D n si e σ (fun w mh2 => EW D n si d σ (fun x mh3 => ∃ k ep' kvs', w = .int k ∧ mh3[i]? = some (.dctI ep' kvs') ∧ kvs'.length ≤ 1000 ∧ dget kvs' k = none ∧ ∀ ep2, Q x (mh3.set i (.dctI ep2 (dput kvs' k x)))) mh2) mh1) mh)
    (he : ∀ env, eval (.Call (.Attribute o (Str.ofString "setdefault") apos) [e, d] [] pos) env = (do
          let ov ← eval o env
          standAt apos.atName
          let __x ← holding [ov] (getMethod ov (Str.ofString "setdefault") (do return (← importBound o env).getD true))
          match __x with
            | (f, first) => callWith pos f first (backTo pos (starEach [e, d] env)) (backToKw pos (keywordEach [] env))) := by intros; with_unfolding_all rfl)
    (hst : ∀ env, starEach [e, d] env = (false, eval e env) :: starEach [d] env := by intros; with_unfolding_all rfl) (hst2 : ∀ env, starEach [d] env = (false, eval d env) :: starEach [] env := by intros; with_unfolding_all rfl)
    (hpl : ∀ env, (backTo pos (starEach [e, d] env)).any (·.1) = false := by intros; with_unfolding_all rfl) : EW D n si (.Call (.Attribute o (Str.ofString "setdefault") apos) [e, d] [] pos) σ Q mh := by
  refine EW_methB PySem.F.plainAttrs_dict PySem.F.slot_dict_setdefault PySem.F.type_dict_setdefault (EW.mono h fun v mh1 hq => ?_) he hpl
  obtain ⟨i, ep, kvs, rfl, hi, hq⟩ := hq
  exact ⟨dict_obj hi, EsW_cons (EW.mono hq fun w mh2 hq2 => EsW_cons (EW.mono hq2 fun x mh3 ⟨k, ep', kvs', e1, a1, a2, a3, a4⟩ => EsW_nil (by rw [e1]; exact CW_setdefault a1 a2 a3 a4)) hst2) hst⟩
end
end Mine

set_option Elab.async false
set_option hygiene false
set_option maxRecDepth 100000
set_option maxHeartbeats 4000000
set_option linter.unusedVariables false
set_option linter.unusedSimpArgs false
local macro_rules | `(tactic| walk_at "MS") => `(tactic| with_reducible first
  | refine Mine.EW_local (by with_unfolding_all rfl) ?_
  | refine Mine.XsW_nil ?_
  | refine Mine.XsW_cons ?_
  | refine Mine.EsW_nil ?_
  | refine Mine.EsW_cons ?_
  | refine Mine.EW_int ?_
  | refine Mine.EW_str ?_
  | refine Mine.EW_none ?_
  | refine Mine.EW_bool ?_
  | refine Mine.EW_at ?_
  | refine Mine.EW_rev ?_
  | refine Mine.EW_upto ?_
  | refine Mine.EW_from ?_
  | refine Mine.EW_subAt ?_
  | refine Mine.EW_bin ?_
  | refine Mine.EW_cmpB ?_
  | refine Mine.EW_negc ?_
  | refine Mine.EW_neg ?_
  | refine Mine.EW_tuple ?_
  | refine Mine.EW_list ?_
  | refine Mine.EW_ifexp ?_
  | refine Mine.EW_len ?_
  | refine Mine.EW_listc ?_
  | refine Mine.EW_tuplec ?_
  | refine Mine.EW_dictc ?_
  | refine Mine.EW_range1 ?_
  | refine Mine.EW_range3 ?_
  | refine Mine.EW_abs ?_
  | refine Mine.EW_intc ?_
  | refine Mine.EW_strc ?_
  | refine Mine.EW_append ?_
  | refine Mine.EW_extend ?_
  | refine Mine.EW_pop ?_
  | refine Mine.EW_setdefault ?_
  | refine Mine.IW_cmp ?_
  | refine Mine.IW_not ?_
  | refine Mine.IW_boolop ?_
  | refine Mine.AW_and_nil ?_
  | refine Mine.AW_and ?_
  | refine Mine.AW_or_nil ?_
  | refine Mine.AW_or ?_
  | refine Mine.OW_add ?_
  | refine Mine.OW_sub ?_
  | refine Mine.OW_lt ?_
  | refine Mine.OW_gt ?_
  | refine Mine.OW_ge ?_
  | refine Mine.OW_eq ?_
  | refine Mine.OW_ne ?_
  | refine Mine.OW_eq_str ?_
  | refine Mine.OW_ne_str ?_
  | refine Mine.OW_is_none ?_
  | refine Mine.OW_isNot_none ?_
  | refine Mine.XW_return ?_
  | refine Mine.XW_if ?_
  | refine Mine.XW_setat ?_
  | refine Mine.XW_setitem ?_
  | refine Mine.XW_assign2s ?_
  | refine Mine.XW_assign2 ?_
  | refine Mine.XW_assign ?_
  | refine Mine.XW_expr ?_)
local macro_rules | `(tactic| walk_at "MH") => `(tactic| repeat (first | exact Mine.Has.nil | refine Mine.Has.cons (by rfl) ?_))
local macro_rules | `(tactic| walk_at "MR") => `(tactic| repeat (walk_at "MS"; try dsimp only))

namespace Mine
section
variable {D : WD} {n : Nat} {mh : MH}

theorem get_snoc {α : Type} {l : List α} {a : α} : (l ++ [a])[l.length]? = some a := by simp
theorem get_ext {α : Type} {l m : List α} {i : Nat} {a : α} (h : l[i]? = some a) : (l ++ m)[i]? = some a := by
  rw [List.getElem?_append_left (List.getElem?_eq_some_iff.mp h).1]; exact h

theorem KW_node_init {i : Nat} {v : Int} {j : Nat} {Q : MV → MH → Prop} (hi : mh[i]? = some (.fld [])) (q : Q .none (mh.set i (.fld [("number", .int v), ("kids", .ref j)]))) : KW D (n + 1) (.ref 28) [.obj 36 i, .int v, .ref j] Q mh := by
  refine KW_defA ["self", "number", "kids"] rfl ?_
  have hl := (List.getElem?_eq_some_iff.mp hi).1
  walk_at "MR"
  refine ⟨36, i, [], rfl, .inl rfl, hi, by simp [put], ?_⟩
  walk_at "MR"
  refine ⟨36, i, _, rfl, .inl rfl, List.getElem?_set_self hl, by simp [put], ?_⟩
  walk_at "MR"
  rw [List.set_set]
  exact q
/-- Node(k, kids) -/
theorem CW_node {v : Int} {j : Nat} {Q : MV → MH → Prop} (q : Q (.obj 36 mh.length) (mh ++ [.fld [("number", .int v), ("kids", .ref j)]])) : CW D (n + 2) (.ref 36) [.int v, .ref j] Q mh := by
  refine CW_of_KW (KW_make (f := 28) (KW_node_init get_snoc ⟨rfl, ?_⟩))
  have : (mh ++ [MO.fld []]).set mh.length (.fld [("number", .int v), ("kids", .ref j)]) = mh ++ [.fld [("number", .int v), ("kids", .ref j)]] := by simp
  rw [this]; exact q
end
end Mine

namespace Mine
/-- a thread: the index of its node, of its list of kids, its number, its kids -/
inductive Tr where
  | mk (i j : Nat) (k : Int) (ts : List Tr)
noncomputable def Tr.i : Tr → Nat | .mk i _ _ _ => i
noncomputable def Tr.j : Tr → Nat | .mk _ j _ _ => j
noncomputable def Tr.k : Tr → Int | .mk _ _ k _ => k
noncomputable def Tr.ts : Tr → List Tr | .mk _ _ _ ts => ts
noncomputable def Tr.v (t : Tr) : MV := .obj 36 t.i
mutual
noncomputable def Tr.sz : Tr → Nat | .mk _ _ _ ts => Tr.szs ts + 1
noncomputable def Tr.szs : List Tr → Nat | [] => 0 | t :: ts => t.sz + Tr.szs ts
end
mutual
noncomputable def Tr.told : Tr → MV | .mk _ _ k ts => .tup [.int k, .tup (Tr.tolds ts)]
noncomputable def Tr.tolds : List Tr → List MV | [] => [] | t :: ts => t.told :: Tr.tolds ts
end
mutual
noncomputable def Tr.pre : Tr → List Tr | .mk i j k ts => .mk i j k ts :: Tr.pres ts
noncomputable def Tr.pres : List Tr → List Tr | [] => [] | t :: ts => t.pre ++ Tr.pres ts
end
theorem tolds_map (ts : List Tr) : Tr.tolds ts = ts.map Tr.told := by
  induction ts with
  | nil => rfl
  | cons t ts ih => rw [Tr.tolds, List.map_cons, ih]
theorem pres_flat (ts : List Tr) : Tr.pres ts = ts.flatMap Tr.pre := by
  induction ts with
  | nil => rfl
  | cons t ts ih => rw [Tr.pres, List.flatMap_cons, ih]
theorem szs_append (a b : List Tr) : Tr.szs (a ++ b) = Tr.szs a + Tr.szs b := by
  induction a with
  | nil => simp [Tr.szs]
  | cons t ts ih => rw [List.cons_append, Tr.szs, Tr.szs, ih]; omega
theorem pres_append (a b : List Tr) : Tr.pres (a ++ b) = Tr.pres a ++ Tr.pres b := by rw [pres_flat, pres_flat, pres_flat, List.flatMap_append]
theorem sz_pos (t : Tr) : 1 ≤ t.sz := by cases t; rw [Tr.sz]; omega
theorem len_szs (ts : List Tr) : ts.length ≤ Tr.szs ts := by
  induction ts with
  | nil => exact Nat.le_refl _
  | cons t ts ih => rw [List.length_cons, Tr.szs]; have := sz_pos t; omega
theorem sz_eq (t : Tr) : t.sz = Tr.szs t.ts + 1 := by cases t; rfl
theorem told_eq (t : Tr) : t.told = .tup [.int t.k, .tup (t.ts.map Tr.told)] := by cases t; rw [Tr.told, tolds_map]; rfl
theorem pre_eq (t : Tr) : t.pre = t :: Tr.pres t.ts := by cases t; rfl
mutual
theorem pre_len : ∀ t : Tr, t.pre.length = t.sz
  | .mk i j k ts => by rw [Tr.pre, Tr.sz, List.length_cons, pres_len ts]
theorem pres_len : ∀ ts : List Tr, (Tr.pres ts).length = Tr.szs ts
  | [] => rfl
  | t :: ts => by rw [Tr.pres, Tr.szs, List.length_append, pre_len t, pres_len ts]
end

noncomputable abbrev nodeO (k : Int) (j : Nat) : MO := .fld [("number", .int k), ("kids", .ref j)]
/-- a node lies in the heap -/
noncomputable def NK (mh : MH) (i j : Nat) (k : Int) (vs : List MV) : Prop := mh[i]? = some (nodeO k j) ∧ mh[j]? = some (.lst vs)
mutual
noncomputable def TreeAt (mh : MH) : Tr → Prop | .mk i j k ts => NK mh i j k (ts.map Tr.v) ∧ TreesAt mh ts
noncomputable def TreesAt (mh : MH) : List Tr → Prop | [] => True | t :: ts => TreeAt mh t ∧ TreesAt mh ts
end
theorem TreesAt.mem {mh : MH} : ∀ {ts : List Tr}, TreesAt mh ts → ∀ t ∈ ts, TreeAt mh t
  | [], _, t, h => nomatch h
  | s :: ts, x, t, h => by
    rw [TreesAt] at x
    rcases List.mem_cons.mp h with rfl | h
    · exact x.1
    · exact TreesAt.mem x.2 t h
theorem treesAt_iff {mh : MH} {ts : List Tr} : TreesAt mh ts ↔ ∀ t ∈ ts, TreeAt mh t := by
  refine ⟨fun x => x.mem, fun h => ?_⟩
  induction ts with
  | nil => trivial
  | cons t ts ih => exact ⟨h t List.mem_cons_self, ih fun s hs => h s (List.mem_cons_of_mem _ hs)⟩
theorem TreeAt.nk {mh : MH} {t : Tr} (h : TreeAt mh t) : NK mh t.i t.j t.k (t.ts.map Tr.v) := by cases t; rw [TreeAt] at h; exact h.1
theorem TreeAt.kids {mh : MH} {t : Tr} (h : TreeAt mh t) : TreesAt mh t.ts := by cases t; rw [TreeAt] at h; exact h.2
/-- the heap grew -/
noncomputable def Ext (mh mh' : MH) : Prop := ∀ (i : Nat) (o : MO), mh[i]? = some o → mh'[i]? = some o
theorem Ext.refl (mh : MH) : Ext mh mh := fun _ _ h => h
theorem Ext.trans {a b c : MH} (x : Ext a b) (y : Ext b c) : Ext a c := fun i o h => y i o (x i o h)
theorem Ext.app (mh : MH) (l : List MO) : Ext mh (mh ++ l) := fun i o h => by rw [List.getElem?_append_left (List.getElem?_eq_some_iff.mp h).1]; exact h
theorem Ext.set {mh mh' : MH} (x : Ext mh mh') {i : Nat} {o : MO} (hi : mh.length ≤ i) : Ext mh (mh'.set i o) := fun j p h => by
  have hj := (List.getElem?_eq_some_iff.mp h).1
  rw [List.getElem?_set_ne (by omega)]; exact x j p h
theorem Ext.len {mh mh' : MH} (x : Ext mh mh') : mh.length ≤ mh'.length := by
  rcases Nat.eq_zero_or_pos mh.length with h | h
  · omega
  · have h1 : mh.length - 1 < mh.length := by omega
    have := x (mh.length - 1) _ (List.getElem?_eq_getElem h1)
    have := (List.getElem?_eq_some_iff.mp this).1
    omega
theorem Ext.snoc {mh mh' : MH} (x : Ext mh mh') (o : MO) : Ext mh (mh' ++ [o]) := x.trans (Ext.app _ _)
mutual
theorem TreeAt.ext {mh mh' : MH} (x : Ext mh mh') : ∀ {t : Tr}, TreeAt mh t → TreeAt mh' t
  | .mk i j k ts, h => by rw [TreeAt] at h ⊢; exact ⟨⟨x _ _ h.1.1, x _ _ h.1.2⟩, TreesAt.ext x h.2⟩
theorem TreesAt.ext {mh mh' : MH} (x : Ext mh mh') : ∀ {ts : List Tr}, TreesAt mh ts → TreesAt mh' ts
  | [], _ => trivial
  | t :: ts, h => by rw [TreesAt] at h ⊢; exact ⟨TreeAt.ext x h.1, TreesAt.ext x h.2⟩
end
theorem TreesAt.append {mh : MH} {a b : List Tr} (x : TreesAt mh a) (y : TreesAt mh b) : TreesAt mh (a ++ b) := by
  rw [treesAt_iff] at *
  intro t ht
  rcases List.mem_append.mp ht with h | h
  · exact x t h
  · exact y t h
mutual
theorem TreeAt.pre {mh : MH} : ∀ {t : Tr}, TreeAt mh t → ∀ s ∈ t.pre, TreeAt mh s
  | .mk i j k ts, h, s, hs => by
    rw [Tr.pre] at hs
    rcases List.mem_cons.mp hs with rfl | hs
    · exact h
    · rw [TreeAt] at h; exact TreesAt.pres h.2 s hs
theorem TreesAt.pres {mh : MH} : ∀ {ts : List Tr}, TreesAt mh ts → ∀ s ∈ Tr.pres ts, TreeAt mh s
  | [], _, s, hs => by rw [Tr.pres] at hs; exact nomatch hs
  | t :: ts, h, s, hs => by
    rw [Tr.pres] at hs
    rw [TreesAt] at h
    rcases List.mem_append.mp hs with hs | hs
    · exact TreeAt.pre h.1 s hs
    · exact TreesAt.pres h.2 s hs
end
theorem attr_number {mh : MH} {i j : Nat} {k : Int} {vs : List MV} (h : NK mh i j k vs) : AttrIs mh (.obj 36 i) "number" (.int k) := ⟨36, i, _, rfl, .inl rfl, h.1, rfl⟩
theorem attr_kids {mh : MH} {i j : Nat} {k : Int} {vs : List MV} (h : NK mh i j k vs) : AttrIs mh (.obj 36 i) "kids" (.ref j) := ⟨36, i, _, rfl, .inl rfl, h.1, rfl⟩
/-- the names that are known -/
noncomputable def Has (σ l : Locals) : Prop := ∀ p ∈ l, σ.lookup p.1 = some p.2
theorem Has.nil {σ : Locals} : Has σ [] := fun _ h => nomatch h
theorem Has.cons {σ l : Locals} {x : Str} {v : MV} (h : σ.lookup x = some v) (r : Has σ l) : Has σ ((x, v) :: l) := fun p hp => by
  rcases List.mem_cons.mp hp with rfl | hp
  · exact h
  · exact r p hp
theorem Has.sub {σ l : Locals} (h : Has σ l) : ∀ y mv, l.lookup y = some mv → σ.lookup y = some mv := fun y mv e => h (y, mv) (mem_of_lookup e)
section
variable {D : WD} {n : Nat} {si : SI} {σ l : Locals} {mh : MH}
theorem XsW_has {sts : List Stmt} {QN : Locals → MH → Prop} {QR : MV → MH → Prop} (h : Has σ l) (x : XsW D n si sts l QN QR mh) : XsW D n si sts σ QN QR mh :=
  fun A env R s ok eo hr nm => x A env R s ok eo hr (nm.sub h.sub)
theorem IW_has {e : Expr} {Q : Bool → MH → Prop} (h : Has σ l) (x : IW D n si e l Q mh) : IW D n si e σ Q mh :=
  fun A env R s ok eo hr nm => x A env R s ok eo hr (nm.sub h.sub)
theorem EW_has {e : Expr} {Q : MV → MH → Prop} (h : Has σ l) (x : EW D n si e l Q mh) : EW D n si e σ Q mh :=
  fun A env R s ok eo hr nm => x A env R s ok eo hr (nm.sub h.sub)
end
end Mine
namespace Mine
theorem rng_up : ∀ m : Nat, m ≤ 120 → Builtin.Range.small 0 m 1 = true ∧ Builtin.Range.rangeSize 0 m 1 = m := by
  intro m hm
  have : ∀ m : Fin 121, Builtin.Range.small 0 (m.val : Int) 1 = true ∧ Builtin.Range.rangeSize 0 (m.val : Int) 1 = (m.val : Int) := by decide +kernel
  exact this ⟨m, by omega⟩
theorem rng_down : ∀ m : Nat, m ≤ 120 → Builtin.Range.small ((m : Int) - 1) (-1) (-1) = true ∧ Builtin.Range.rangeSize ((m : Int) - 1) (-1) (-1) = m := by
  intro m hm
  have : ∀ m : Fin 121, Builtin.Range.small ((m.val : Int) - 1) (-1) (-1) = true ∧ Builtin.Range.rangeSize ((m.val : Int) - 1) (-1) (-1) = (m.val : Int) := by decide +kernel
  exact this ⟨m, by omega⟩
theorem rng_div : ∀ m : Nat, m ≤ 120 → Builtin.divisionGoesByPylong (-1 - ((m : Int) - 1)) (-1) = false := by
  intro m hm
  have : ∀ m : Fin 121, Builtin.divisionGoesByPylong (-1 - ((m.val : Int) - 1)) (-1) = false := by decide +kernel
  exact this ⟨m, by omega⟩
end Mine

local macro_rules | `(tactic| walk_at "MH") => `(tactic| repeat (first | exact Mine.Has.nil | refine Mine.Has.cons (by rfl) ?_))
namespace Mine
section
variable {D : WD} {n : Nat} {mh : MH}
theorem get_set_eq {l : MH} {i : Nat} {o : MO} (h : i < l.length) : (l.set i o)[i]? = some o := List.getElem?_set_self h
theorem get_set_ne {l : MH} {i j : Nat} {o p : MO} (h : i ≠ j) (e : l[j]? = some p) : (l.set i o)[j]? = some p := by rw [List.getElem?_set_ne h]; exact e
theorem get_lt {l : MH} {i : Nat} {o : MO} (h : l[i]? = some o) : i < l.length := (List.getElem?_eq_some_iff.mp h).1

theorem CW_all_nodes {l : Nat} {ts : List Tr} {Q : MV → MH → Prop} (hl : mh[l]? = some (.lst (ts.map Tr.v))) (ht : TreesAt mh ts) (hz : Tr.szs ts ≤ 60)
    (q : ∀ mh' r, Ext mh mh' → mh.length ≤ r → mh'[r]? = some (.lst ((Tr.pres ts).map Tr.v)) → Q (.ref r) mh') : CW D (n + 11) (.ref 47) [.ref l] Q mh := by
  refine CW_of_KW (KW_defA ["nodes"] rfl ?_)
  have hlen := len_szs ts
  walk_at "MR"
  refine ⟨by decide, ?_⟩
  walk_at "MR"
  refine ⟨l, _, rfl, get_ext hl, by simp; omega, ?_⟩
  refine ⟨_, _, rfl, get_snoc, by simp; omega, ?_⟩
  walk_at "MR"
  refine ⟨by simp, _, _, rfl, ?_⟩
  refine XsW_cons (XW_while (fun k σ' m => ∃ out rest r0, Has σ' [("found", .ref mh.length), ("todo", .ref r0)] ∧ mh.length < r0 ∧ Ext mh m ∧ m[mh.length]? = some (.lst (out.map Tr.v)) ∧ m[r0]? = some (.lst (rest.map Tr.v).reverse) ∧
      TreesAt mh rest ∧ out ++ Tr.pres rest = Tr.pres ts ∧ k = Tr.szs rest) (Tr.szs ts) ?_ ?_)
  · refine ⟨[], ts, _, by walk_at "MH", ?_, ?_, ?_, get_snoc, ht, rfl, rfl⟩
    · simp
    · exact ((Ext.refl mh).snoc _ |>.snoc _).snoc _
    · simp
  · rintro k σ' m ⟨out, rest, r0, hσ, hr0, hx, hmf, hmt, hrest, hpre, rfl⟩
    have hol : out.length + Tr.szs rest = Tr.szs ts := by
      have := congrArg List.length hpre
      rw [List.length_append, pres_len, pres_len] at this; exact this
    have hrl := len_szs rest
    refine IW_has hσ ?_
    walk_at "MR"
    refine ⟨by decide, OW_ne_nil (get_ext hmt) get_snoc ?_⟩
    cases rest with
    | nil =>
      simp only [List.map_nil, List.reverse_nil, List.isEmpty_nil, Bool.not_true, Bool.false_eq_true, if_false]
      refine XsW_has hσ ?_
      walk_at "MR"
      refine q _ _ (hx.snoc _) (Nat.le_refl _) ?_
      rw [Tr.pres, List.append_nil] at hpre
      rw [← hpre]; exact get_ext hmf
    | cons t rest =>
      have hne : (!(List.map Tr.v (t :: rest)).reverse.isEmpty) = true := by simp
      rw [hne, if_pos rfl]
      rw [TreesAt] at hrest
      have hnk := hrest.1.nk
      have hk1 := hx _ _ hnk.1
      have hk2 := hx _ _ hnk.2
      have hm1 : mh.length < m.length := get_lt hmf
      have hm2 : r0 < m.length := get_lt hmt
      refine XsW_has hσ ?_
      walk_at "MR"
      refine ⟨r0, (rest.map Tr.v).reverse, t.v, rfl, ?_, ?_, ?_⟩
      · rw [get_ext hmt, List.map_cons, List.reverse_cons]
      · rw [List.length_reverse, List.length_map]
        rw [Tr.szs] at hol hrl
        have := len_szs rest
        omega
      have hi1 := get_lt hnk.1
      have hi2 := get_lt hnk.2
      walk_at "MR"
      refine ⟨mh.length, _, rfl, get_set_ne (by omega) (get_ext hmf), ?_⟩
      walk_at "MR"
      refine ⟨_, get_set_ne (by omega) (get_ext hmf), by rw [List.length_map]; omega, rfl, ?_⟩
      walk_at "MR"
      refine ⟨r0, _, rfl, get_set_ne (by omega) (get_set_eq (by simp; omega)), ?_⟩
      walk_at "MR"
      refine ⟨.ref t.j, ⟨36, t.i, _, rfl, .inl rfl, get_set_ne (by omega) (get_set_ne (by omega) (get_ext hk1)), rfl⟩, t.j, _, rfl, get_set_ne (by omega) (get_set_ne (by omega) (get_ext hk2)), ?_, ?_⟩
      · rw [List.length_map]; have := len_szs t.ts; rw [Tr.szs, sz_eq] at hol; omega
      · refine ⟨_, _, _, rfl, get_ext (get_set_ne (by omega) (get_set_eq (by simp; omega))), get_snoc, ?_, rfl, ?_⟩
        · rw [List.length_reverse, List.length_reverse, List.length_map, List.length_map]
          rw [Tr.szs, sz_eq] at hol; have := len_szs t.ts; have := len_szs rest; omega
        · refine XsW_nil ⟨Tr.szs (t.ts ++ rest), by rw [szs_append, Tr.szs, sz_eq]; omega, out ++ [t], t.ts ++ rest, r0, by walk_at "MH", hr0, ?_, ?_, ?_, hrest.1.kids.append hrest.2, ?_, rfl⟩
          · exact (((((hx.snoc _).set (by omega)).set (by omega)).snoc _).set (by omega))
          · refine get_set_ne (by omega) (get_ext ?_)
            rw [List.map_append]
            exact get_set_eq (by simp; omega)
          · rw [List.map_append, List.reverse_append]
            exact get_set_eq (by simp; omega)
          · rw [pres_append, ← hpre, Tr.pres, pre_eq]; simp
end
end Mine

namespace Mine
theorem Has.put {σ l : Locals} {x : Str} {v : MV} (h : Has σ l) (hn : x ∉ l.map (·.1) := by simp only [List.map_cons, List.map_nil]; decide) : Has (put σ x v) ((x, v) :: l) := by
  refine Has.cons (by rw [put_lookup, if_pos rfl]) fun p hp => ?_
  rw [put_lookup, if_neg fun e => hn (List.mem_map.mpr ⟨p, hp, e⟩)]
  exact h p hp
theorem szs_mem {s : Tr} : ∀ {l : List Tr}, s ∈ l → s.sz ≤ Tr.szs l
  | w :: l, h => by
    rw [Tr.szs]
    rcases List.mem_cons.mp h with rfl | h
    · omega
    · have := szs_mem h; omega
section
variable {D : WD} {n : Nat} {si : SI} {mh : MH}
/-- a comprehension whose parts keep what lies in the heap -/
theorem compE {elt tgt : Expr} {ifs : List Expr} {σc : Locals} {Fin : List MV → MH → Prop} {items : List MV} {src : MH → Prop} (f : MV → MV) (p : MV → Bool) (hl : items.length ≤ 1000) (hsrc : ∀ m, Ext mh m → src m)
    (step : ∀ v m, v ∈ items → Ext mh m → ∃ σ'', TgtL si tgt v σc σ'' ∧ TW D n si ifs σ'' (fun b m1 => b = p v ∧ Ext mh m1 ∧ (p v = true → EW D n si elt σ'' (fun y m2 => y = f v ∧ Ext mh m2) m1)) m)
    (fin : ∀ m, Ext mh m → Fin ((items.filter p).map f) m) : CompW D n si elt tgt ifs σc Fin items src mh := by
  refine ⟨hl, fun i out m => out = ((items.take i).filter p).map f ∧ Ext mh m, ⟨by simp, Ext.refl _⟩, fun i out m h => hsrc m h.2, ?_, ?_⟩
  · rintro i v out m hv ⟨rfl, hx⟩
    obtain ⟨σ'', ht, hw⟩ := step v m (List.mem_of_getElem? hv) hx
    have htk : items.take (i + 1) = items.take i ++ [v] := by rw [List.take_add_one, hv]; rfl
    refine ⟨σ'', ht, ?_⟩
    have key : ∀ b m1, (b = p v ∧ Ext mh m1 ∧ (p v = true → EW D n si elt σ'' (fun y m2 => y = f v ∧ Ext mh m2) m1)) → (if b = true then EW D n si elt σ'' (fun y m2 => (List.map f (List.filter p (items.take i)) ++ [y]) = List.map f (List.filter p (items.take (i + 1))) ∧ Ext mh m2) m1 else
        List.map f (List.filter p (items.take i)) = List.map f (List.filter p (items.take (i + 1))) ∧ Ext mh m1) := by
      rintro b m1 ⟨rfl, h1, h2⟩
      cases hp : p v with
      | true =>
        rw [if_pos rfl]
        refine EW.mono (h2 hp) fun y m2 hy => ⟨?_, hy.2⟩
        rw [hy.1, htk, List.filter_append, List.map_append]; simp [hp]
      | false =>
        rw [if_neg (by decide)]
        refine ⟨?_, h1⟩
        rw [htk, List.filter_append]; simp [hp]
    match ifs, hw with
    | [], hw => exact key _ _ hw
    | [c], hw =>
      intro A env R s ok eo hr nm
      refine wpAny_mono (hw A env R s ok eo hr nm) (fun b s' z => ?_) fun _ _ f => f
      obtain ⟨R', mh', h', tk', e, g, hr', q⟩ := z
      exact ⟨R', mh', h', tk', e, g, hr', key _ _ q⟩
    | _ :: _ :: _, hw => exact hw.elim
  · rintro out m ⟨rfl, hx⟩
    rw [List.take_length]
    exact fin m hx
/-- the same over a list of other things -/
theorem compM {α : Type} {elt tgt : Expr} {ifs : List Expr} {σc : Locals} {Fin : List MV → MH → Prop} {xs : List α} {g : α → MV} {src : MH → Prop} (f : α → MV) (p : α → Bool) (hl : xs.length ≤ 1000) (hsrc : ∀ m, Ext mh m → src m)
    (step : ∀ x m, x ∈ xs → Ext mh m → ∃ σ'', TgtL si tgt (g x) σc σ'' ∧ TW D n si ifs σ'' (fun b m1 => b = p x ∧ Ext mh m1 ∧ (p x = true → EW D n si elt σ'' (fun y m2 => y = f x ∧ Ext mh m2) m1)) m)
    (fin : ∀ m, Ext mh m → Fin ((xs.filter p).map f) m) : CompW D n si elt tgt ifs σc Fin (xs.map g) src mh := by
  refine ⟨by rw [List.length_map]; exact hl, fun i out m => out = ((xs.take i).filter p).map f ∧ Ext mh m, ⟨by simp, Ext.refl _⟩, fun i out m h => hsrc m h.2, ?_, ?_⟩
  · rintro i v out m hv ⟨rfl, hx⟩
    rw [List.getElem?_map, Option.map_eq_some_iff] at hv
    obtain ⟨x, hv, rfl⟩ := hv
    obtain ⟨σ'', ht, hw⟩ := step x m (List.mem_of_getElem? hv) hx
    have htk : xs.take (i + 1) = xs.take i ++ [x] := by rw [List.take_add_one, hv]; rfl
    refine ⟨σ'', ht, ?_⟩
    have key : ∀ b m1, (b = p x ∧ Ext mh m1 ∧ (p x = true → EW D n si elt σ'' (fun y m2 => y = f x ∧ Ext mh m2) m1)) → (if b = true then EW D n si elt σ'' (fun y m2 => (List.map f (List.filter p (xs.take i)) ++ [y]) = List.map f (List.filter p (xs.take (i + 1))) ∧ Ext mh m2) m1 else
        List.map f (List.filter p (xs.take i)) = List.map f (List.filter p (xs.take (i + 1))) ∧ Ext mh m1) := by
      rintro b m1 ⟨rfl, h1, h2⟩
      cases hp : p x with
      | true =>
        rw [if_pos rfl]
        refine EW.mono (h2 hp) fun y m2 hy => ⟨?_, hy.2⟩
        rw [hy.1, htk, List.filter_append, List.map_append]; simp [hp]
      | false =>
        rw [if_neg (by decide)]
        refine ⟨?_, h1⟩
        rw [htk, List.filter_append]; simp [hp]
    match ifs, hw with
    | [], hw => exact key _ _ hw
    | [c], hw =>
      intro A env R s ok eo hr nm
      refine wpAny_mono (hw A env R s ok eo hr nm) (fun b s' z => ?_) fun _ _ f => f
      obtain ⟨R', mh', h', tk', e, g, hr', q⟩ := z
      exact ⟨R', mh', h', tk', e, g, hr', key _ _ q⟩
    | _ :: _ :: _, hw => exact hw.elim
  · rintro out m ⟨rfl, hx⟩
    rw [List.length_map, List.take_length]
    exact fin m hx
theorem capOne {si : SI} {cs : Scope} (x : Str) (h1 : (relS cs si.scope).names.lookup x = some .cell := by rfl) (h2 : si.scope.names.lookup x = some .cell := by rfl) (h : ∀ env c, env.cells.lookup x = some c → closureFor cs env = pure [(x, c)] := by intro env c h; simp [closureFor, cellOf, h]) : Cap si cs [x] := .one x h1 h2 h
theorem capNil {si : SI} {cs : Scope} (h : ∀ env, closureFor cs env = pure [] := by intro env; simp [closureFor]) : Cap si cs [] := .nil h
end
end Mine

namespace Mine
section
variable {D : WD} {n : Nat} {mh : MH}
/-- links that lie in the heap: where the kids of the first p nodes stand -/
noncomputable def LinksAt (m : MH) (T : List Tr) (Ls : List MV) : Prop := ∀ (a : Nat) (s : Tr), a < Ls.length → T[a]? = some s → ∃ (lq : Nat) (js : List Nat), Ls[a]? = some (MV.ref lq) ∧ m[lq]? = some (MO.lst (js.map fun (j : Nat) => MV.int j)) ∧ (∀ j ∈ js, a < j) ∧ js.map (fun j => T[j]?) = s.ts.map some
theorem LinksAt.ext {m m' : MH} {T : List Tr} {Ls : List MV} (x : LinksAt m T Ls) (h : ∀ (i : Nat) vs, m[i]? = some (MO.lst vs) → (∃ a : Nat, Ls[a]? = some (MV.ref i)) → m'[i]? = some (.lst vs)) : LinksAt m' T Ls := by
  intro a s ha hs
  obtain ⟨lq, js, h1, h2, h3, h4⟩ := x a s ha hs
  exact ⟨lq, js, h1, h _ _ h2 ⟨a, h1⟩, h3, h4⟩

theorem CW_told {t : Tr} {Q : MV → MH → Prop} (ht : TreeAt mh t) (hz : t.sz ≤ 60)
    (q : ∀ mh', Ext mh mh' → Q t.told mh') : CW D (n + 11) (.ref 33) [t.v] Q mh := by
  refine CW_of_KW (KW_defB ["self"] rfl ?_ (hcn := by intro n; simp [cellsFrom]))
  walk_at "MR"
  refine ⟨by simp, ?_⟩
  walk_at "MR"
  refine ⟨by simp, ?_⟩
  walk_at "MR"
  refine ⟨by simp, _, _, rfl, ?_⟩
  have hl1 : (mh ++ [MO.lst [t.v]]).length = mh.length + 1 := by simp
  rw [hl1]
  refine XsW_cons (XW_while (fun k σ' m => ∃ T Ls ln, Has σ' [("line", .ref ln), ("links", .ref (mh.length + 1))] ∧ mh.length ≤ ln ∧ ln ≠ mh.length + 1 ∧ Ext mh m ∧ m[ln]? = some (.lst (T.map Tr.v)) ∧ m[mh.length + 1]? = some (.lst Ls) ∧
      TreesAt mh T ∧ (∀ s ∈ T, s.sz ≤ 60) ∧ T[0]? = some t ∧ Ls.length ≤ T.length ∧ LinksAt m T Ls ∧ (∀ a i : Nat, Ls[a]? = some (.ref i) → mh.length + 1 < i) ∧ Ls.length + Tr.szs (T.drop Ls.length) = t.sz ∧ k = Tr.szs (T.drop Ls.length)) t.sz ?_ ?_)
  · refine ⟨[t], [], mh.length, by walk_at "MH", Nat.le_refl _, by omega, ?_, ?_, ?_, ⟨ht, trivial⟩, by intro s hs; rw [List.mem_singleton.mp hs]; exact hz, rfl, Nat.zero_le _, ?_, ?_, ?_, ?_⟩
    · exact ((Ext.refl mh).snoc _).snoc _
    · exact get_ext get_snoc
    · rw [← hl1]; exact get_snoc
    · intro a s ha; simp at ha
    · intro a i ha; simp at ha
    · simp [Tr.szs]
    · simp [Tr.szs]
  · rintro k σ' m ⟨T, Ls, ln, hσ, hln, hne, hx, hmT, hmL, hT, hTz, hT0, hle, hLk, hLi, hsz, rfl⟩
    have hTl : T.length ≤ 60 := by
      have := len_szs (T.drop Ls.length)
      rw [List.length_drop] at this; omega
    refine IW_has hσ ?_
    walk_at "MR"
    refine ⟨_, _, rfl, hmL, by omega, ?_⟩
    walk_at "MR"
    refine ⟨_, _, rfl, hmT, by rw [List.length_map]; omega, ?_⟩
    walk_at "MR"
    rw [List.length_map]
    by_cases hlt : Ls.length < T.length
    · rw [if_pos (decide_eq_true (by omega))]
      have hTp : T[Ls.length]? = some T[Ls.length] := List.getElem?_eq_getElem hlt
      generalize hs : T[Ls.length] = s at hTp
      have hsT : s ∈ T := List.mem_of_getElem? hTp
      have hdrop : T.drop Ls.length = s :: T.drop (Ls.length + 1) := by rw [List.drop_eq_getElem_cons hlt, hs]
      have hsA := hT.mem s hsT
      have hsnk := hsA.nk
      have hkl := len_szs s.ts
      have hssz : s.sz = Tr.szs s.ts + 1 := sz_eq s
      rw [hdrop, Tr.szs] at hsz
      refine XsW_has hσ ?_
      walk_at "MR"
      refine ⟨_, _, rfl, hmL, by omega, _, .lst hmT (by omega) (v := s.v) ?_ (by rw [List.length_map]; omega), ?_⟩
      · rw [Int.toNat_natCast, List.getElem?_map, hTp]; rfl
      walk_at "MR"
      refine ⟨_, _, rfl, hmL, ?_⟩
      refine EW_comp ["line"] (capOne "line") (FW_val ?_)
      walk_at "MR"
      refine ⟨_, ⟨36, s.i, _, rfl, .inl rfl, hx _ _ hsnk.1, rfl⟩, s.j, _, rfl, hx _ _ hsnk.2, by rw [List.length_map]; omega, _, rfl, ?_⟩
      have hr := rng_up s.ts.length (by omega)
      rw [List.length_map]
      refine ⟨_, _, .rng 0 s.ts.length 1 s.ts.length hr.1 hr.2, trivial, ?_⟩
      refine compE (fun v => match v with | .int a => .int (T.length + a) | v => v) (fun _ => true) (by simp; omega) (fun _ _ => trivial) ?_ ?_
      · intro v m1 hv hx1
        obtain ⟨a, ha, rfl⟩ := List.mem_map.mp hv
        refine ⟨_, .name _ _ _ _ (by rfl), rfl, hx1, fun _ => ?_⟩
        walk_at "MR"
        refine ⟨_, _, rfl, hx1 _ _ hmT, by rw [List.length_map]; omega, ?_⟩
        walk_at "MR"
        exact ⟨by rw [List.length_map], hx1⟩
      · intro m1 hx1
        have hlinks : (List.filter (fun _ => true) ((List.range s.ts.length).map fun (i : Nat) => MV.int (0 + (i : Int) * 1))).map (fun v => match v with | .int a => .int (T.length + a) | v => v) = ((List.range s.ts.length).map (fun i => T.length + i)).map fun (j : Nat) => MV.int j := by
          rw [List.filter_eq_self.mpr (by simp), List.map_map, List.map_map]
          apply List.map_congr_left
          intro i _
          simp
        rw [hlinks]
        refine ⟨_, get_ext (hx1 _ _ hmL), by omega, rfl, ?_⟩
        have hm1 := hx1.len
        have hL1 := get_lt hmL
        walk_at "MR"
        refine ⟨.ref s.j, ⟨36, s.i, _, rfl, .inl rfl, get_set_ne ?_ (get_ext (hx1 _ _ (hx _ _ hsnk.1))), rfl⟩, ?_⟩
        · have := get_lt hsnk.1; omega
        refine OW_add_list (vs := T.map Tr.v) (ws := s.ts.map Tr.v) (get_set_ne (by omega) (get_ext (hx1 _ _ hmT))) (get_set_ne ?_ (get_ext (hx1 _ _ (hx _ _ hsnk.2)))) (by rw [List.length_map, List.length_map]; omega) ?_
        · have := get_lt hsnk.2; omega
        refine XsW_nil ⟨Tr.szs ((T ++ s.ts).drop (Ls ++ [MV.ref m1.length]).length), ?_, T ++ s.ts, Ls ++ [MV.ref m1.length], _, by walk_at "MH", ?_, ?_, ?_, ?_, ?_, hT.append hsA.kids, ?_, ?_, ?_, ?_, ?_, ?_, rfl⟩
        · rw [hdrop, List.length_append, List.length_singleton, List.drop_append_of_le_length (by omega), szs_append, Tr.szs]; omega
        · simp; omega
        · simp; omega
        · exact ((((hx.trans hx1).snoc _).set (by omega)).snoc _)
        · rw [List.map_append]; exact get_snoc
        · exact get_ext (get_set_eq (by simp; omega))
        · intro w hw
          rcases List.mem_append.mp hw with hw | hw
          · exact hTz w hw
          · have := szs_mem hw; have := hTz s hsT; omega
        · rw [List.getElem?_append_left (by omega)]; exact hT0
        · rw [List.length_append, List.length_append, List.length_singleton]; omega
        · -- the links
          intro a s' ha hs'
          rw [List.length_append, List.length_singleton] at ha
          by_cases hap : a < Ls.length
          · rw [List.getElem?_append_left (by omega)] at hs'
            obtain ⟨lq, js, h1, h2, h3, h4⟩ := hLk a s' hap hs'
            refine ⟨lq, js, by rw [List.getElem?_append_left hap]; exact h1, get_ext (get_set_ne ?_ (get_ext (hx1 _ _ h2))), h3, ?_⟩
            · have := hLi a lq h1; omega
            · rw [← h4]
              apply List.map_congr_left
              intro j hj
              have : some (T[j]?) = some (T[j]?) := rfl
              have hjl : j < T.length := by
                have hmem : T[j]? ∈ s'.ts.map some := by rw [← h4]; exact List.mem_map.mpr ⟨j, hj, rfl⟩
                obtain ⟨w, _, hw⟩ := List.mem_map.mp hmem
                exact (List.getElem?_eq_some_iff.mp hw.symm).1
              rw [List.getElem?_append_left hjl]
          · have hae : a = Ls.length := by omega
            subst hae
            rw [List.getElem?_append_left hlt, hTp] at hs'
            cases hs'
            refine ⟨m1.length, (List.range s.ts.length).map (fun i => T.length + i), by simp, get_ext (get_set_ne (by omega) get_snoc), ?_, ?_⟩
            · intro j hj
              obtain ⟨i, _, rfl⟩ := List.mem_map.mp hj
              omega
            · rw [List.map_map]
              apply List.ext_getElem
              · simp
              · intro i h1 h2
                simp at h1 h2
                simp [h1]
        · intro a i ha
          by_cases hap : a < Ls.length
          · rw [List.getElem?_append_left hap] at ha; exact hLi a i ha
          · rw [List.getElem?_append_right (by omega)] at ha
            have : a - Ls.length = 0 := by
              have := (List.getElem?_eq_some_iff.mp ha).1
              simp at this; omega
            rw [this] at ha
            simp at ha
            omega
        · rw [List.length_append, List.length_singleton, List.drop_append_of_le_length (by omega), szs_append]; omega
    · rw [if_neg (by simp; omega)]
      have hLT : Ls.length = T.length := by omega
      refine XsW_has hσ ?_
      walk_at "MR"
      refine ⟨by simp, ?_⟩
      walk_at "MR"
      refine ⟨_, _, rfl, get_ext hmT, by rw [List.length_map]; omega, ?_⟩
      rw [List.length_map]
      refine OW_mul_list get_snoc (by omega) ?_
      have hmT2 : ∀ l : List MO, ((m ++ [MO.lst [MV.none]]) ++ l)[ln]? = some (.lst (T.map Tr.v)) := fun l => get_ext (get_ext hmT)
      generalize hN : T.length = N at *
      -- the rows
      refine XsW_cons (XW_for (FW_val ?_))
      walk_at "MR"
      refine ⟨_, _, rfl, get_ext (get_ext hmT), by rw [List.length_map]; omega, ?_⟩
      walk_at "MR"
      rw [List.length_map, hN]
      refine ⟨_, _, _, rfl, rfl, rfl, by decide, rng_div N (by omega), ?_⟩
      have hr := rng_down N (by omega)
      refine ⟨_, _, .rng _ _ _ N hr.1 hr.2, trivial, ?_⟩
      have hrw : (m ++ [MO.lst [MV.none]]).length = m.length + 1 := by simp
      have hmxl := hx.len
      refine ⟨fun i σ' m' => Has σ' [("line", .ref ln), ("links", .ref (mh.length + 1)), ("rows", .ref (m ++ [MO.lst [MV.none]]).length)] ∧ Ext m m' ∧ ∃ rws : List MV, m'[(m ++ [MO.lst [MV.none]]).length]? = some (.lst rws) ∧ rws.length = N ∧ ∀ a, N - i ≤ a → a < N → rws[a]? = (T[a]?).map Tr.told, ?_, ?_, ?_, ?_⟩
      · refine ⟨by walk_at "MH", ((Ext.refl m).snoc _).snoc _, _, get_snoc, by simp, ?_⟩
        intro a h1 h2; omega
      · intro _ _ _ _; trivial
      · rintro i v σ2 m2 hv ⟨hσ2, hx2, rws, hmR, hRl, hrows⟩
        rw [List.getElem?_map, Option.map_eq_some_iff] at hv
        obtain ⟨i', hi', rfl⟩ := hv
        have hiN : i < N := by have := (List.getElem?_eq_some_iff.mp hi').1; simpa using this
        have : i = i' := by rw [List.getElem?_range hiN] at hi'; cases hi'; rfl
        subst this
        have hpl : ((N : Int) - 1 + (i : Int) * -1) = ((N - 1 - i : Nat) : Int) := by omega
        rw [hpl]
        generalize hP : N - 1 - i = pl at *
        have hplN : pl < N := by omega
        have hTp : T[pl]? = some T[pl] := List.getElem?_eq_getElem (by omega)
        generalize hs : T[pl] = s at hTp
        have hsT : s ∈ T := List.mem_of_getElem? hTp
        have hsA := hT.mem s hsT
        have hsnk := hsA.nk
        obtain ⟨lq, js, hj1, hj2, hj3, hj4⟩ := hLk pl s (by omega) hTp
        have hjl : js.length ≤ 60 := by
          have e1 := congrArg List.length hj4
          rw [List.length_map, List.length_map] at e1
          have h1 := hTz s hsT
          have h2 := len_szs s.ts
          rw [sz_eq] at h1
          omega
        refine ⟨_, .name _ _ _ _ (.inl rfl), XsW_has hσ2.put ?_⟩
        walk_at "MR"
        refine ⟨s.v, .lst (hx2 _ _ hmT) (by omega) (by rw [Int.toNat_natCast, List.getElem?_map, hTp]; rfl) (by rw [List.length_map]; omega), .int s.k, ⟨36, s.i, _, rfl, .inl rfl, hx2 _ _ (hx _ _ hsnk.1), rfl⟩, ?_⟩
        walk_at "MR"
        refine EW_comp ["rows"] (capOne "rows") (FW_val ?_)
        walk_at "MR"
        refine ⟨_, .lst (hx2 _ _ hmL) (by omega) (by rw [Int.toNat_natCast]; exact hj1) (by omega), _, _, .lst lq _, hx2 _ _ hj2, ?_⟩
        refine compE (fun v => match v with | .int a => ((T[a.toNat]?).map Tr.told).getD .none | v => v) (fun _ => true) (by rw [List.length_map]; omega) (fun m' hx' => hx' _ _ (hx2 _ _ hj2)) ?_ ?_
        · intro v m3 hv hx3
          obtain ⟨a, ha, rfl⟩ := List.mem_map.mp hv
          refine ⟨_, .name _ _ _ _ (by rfl), rfl, hx3, fun _ => ?_⟩
          have hap := hj3 a ha
          have haN : a < N := by
            have hmem : T[a]? ∈ s.ts.map some := by rw [← hj4]; exact List.mem_map.mpr ⟨a, ha, rfl⟩
            obtain ⟨w, _, hw⟩ := List.mem_map.mp hmem
            rw [← hN]; exact (List.getElem?_eq_some_iff.mp hw.symm).1
          walk_at "MR"
          have hra := hrows a (by omega) haN
          have hTa : T[a]? = some T[a] := List.getElem?_eq_getElem (by omega)
          rw [hTa, Option.map_some] at hra
          refine ⟨_, .lst (hx3 _ _ hmR) (by omega) (by rw [Int.toNat_natCast]; exact hra) (by omega), ?_, hx3⟩
          rw [Int.toNat_natCast, hTa]; rfl
        · intro m3 hx3
          have hout : (List.filter (fun _ => true) (js.map fun (j : Nat) => MV.int j)).map (fun v => match v with | .int a => ((T[a.toNat]?).map Tr.told).getD .none | v => v) = s.ts.map Tr.told := by
            rw [List.filter_eq_self.mpr (by simp), List.map_map]
            have e1 : js.map ((fun v => match v with | .int a => ((T[a.toNat]?).map Tr.told).getD .none | v => v) ∘ fun (j : Nat) => MV.int j) = (js.map fun j => T[j]?).map fun o => (o.map Tr.told).getD .none := by
              rw [List.map_map]
              apply List.map_congr_left
              intro j _
              simp
            rw [e1, hj4, List.map_map]
            apply List.map_congr_left
            intro w _
            rfl
          rw [hout]
          have hkl : s.ts.length ≤ 60 := by
            have e1 := congrArg List.length hj4
            rw [List.length_map, List.length_map] at e1; omega
          refine ⟨_, _, rfl, get_snoc, by rw [List.length_map]; omega, ?_⟩
          walk_at "MR"
          refine ⟨by simp, ?_⟩
          walk_at "MR"
          refine .lst (get_ext (hx3 _ _ hmR)) (by omega) (by omega) (by omega) ?_
          refine XsW_nil ⟨by walk_at "MH", ((hx2.trans hx3).snoc _).set (by omega), rws.set pl (.tup [.int s.k, .tup (s.ts.map Tr.told)]), ?_, by rw [List.length_set]; exact hRl, ?_⟩
          · rw [Int.toNat_natCast]; exact get_set_eq (by have := get_lt (hx3 _ _ hmR); simp; omega)
          · intro a h1 h2
            by_cases hap : a = pl
            · subst hap
              rw [List.getElem?_set_self (by omega), hTp, Option.map_some, told_eq]
            · rw [List.getElem?_set_ne (by omega)]; exact hrows a (by omega) h2
      · rintro σ2 m2 ⟨hσ2, hx2, rws, hmR, hRl, hrows⟩
        rw [List.length_map, List.length_range] at hrows
        have hN0 : 0 < N := by rw [← hN]; exact (List.getElem?_eq_some_iff.mp hT0).1
        have h0 := hrows 0 (by omega) hN0
        rw [hT0, Option.map_some] at h0
        refine XsW_has hσ2 ?_
        walk_at "MR"
        refine ⟨_, .lst hmR (by decide) (by simpa using h0) (by omega), q _ (hx.trans hx2)⟩
end
end Mine

namespace Mine
mutual
noncomputable def Tr.pairs : Tr → Int → List (Int × Int) | .mk _ _ k ts, a => (k, a) :: Tr.pairss ts k
noncomputable def Tr.pairss : List Tr → Int → List (Int × Int) | [], _ => [] | t :: ts, a => t.pairs a ++ Tr.pairss ts a
end
theorem pairs_eq (t : Tr) (a : Int) : t.pairs a = (t.k, a) :: Tr.pairss t.ts t.k := by cases t; rfl
theorem pairss_append (a b : List Tr) (x : Int) : Tr.pairss (a ++ b) x = Tr.pairss a x ++ Tr.pairss b x := by
  induction a with
  | nil => rfl
  | cons t ts ih => rw [List.cons_append, Tr.pairss, Tr.pairss, ih, List.append_assoc]
mutual
theorem pairs_len : ∀ (t : Tr) (a : Int), (t.pairs a).length = t.sz
  | .mk i j k ts, a => by rw [Tr.pairs, Tr.sz, List.length_cons, pairss_len ts k]
theorem pairss_len : ∀ (ts : List Tr) (a : Int), (Tr.pairss ts a).length = Tr.szs ts
  | [], _ => rfl
  | t :: ts, a => by rw [Tr.pairss, Tr.szs, List.length_append, pairs_len t a, pairss_len ts a]
end
mutual
theorem pairs_fst : ∀ (t : Tr) (a : Int), (t.pairs a).map (·.1) = t.pre.map Tr.k
  | .mk i j k ts, a => by rw [Tr.pairs, Tr.pre, List.map_cons, List.map_cons, pairss_fst ts k]; rfl
theorem pairss_fst : ∀ (ts : List Tr) (a : Int), (Tr.pairss ts a).map (·.1) = (Tr.pres ts).map Tr.k
  | [], _ => rfl
  | t :: ts, a => by rw [Tr.pairss, Tr.pres, List.map_append, List.map_append, pairs_fst t a, pairss_fst ts a]
end
noncomputable def kidPairs (s : Tr) : List (Int × Int) := s.ts.map fun c => (c.k, s.k)
mutual
theorem pairs_perm : ∀ (t : Tr) (a : Int), (t.pairs a).Perm ((t.k, a) :: t.pre.flatMap kidPairs)
  | .mk i j k ts, a => by
    rw [Tr.pairs, Tr.pre, List.flatMap_cons]
    refine List.Perm.cons _ ?_
    exact pairss_perm ts k
theorem pairss_perm : ∀ (ts : List Tr) (a : Int), (Tr.pairss ts a).Perm (ts.map (fun c => (c.k, a)) ++ (Tr.pres ts).flatMap kidPairs)
  | [], _ => List.Perm.refl _
  | t :: ts, a => by
    rw [Tr.pairss, Tr.pres, List.map_cons, List.flatMap_append]
    refine ((pairs_perm t a).append (pairss_perm ts a)).trans ?_
    rw [List.cons_append, List.cons_append]
    refine List.Perm.cons _ ?_
    rw [← List.append_assoc, ← List.append_assoc]
    exact List.Perm.append_right _ List.perm_append_comm
end
noncomputable def pmv (p : Int × Int) : MV := .tup [.int p.1, .int p.2]
section
variable {D : WD} {n : Nat} {mh : MH}

theorem CW_numbers_told {l : Nat} {ts : List Tr} {Q : MV → MH → Prop} (hl : mh[l]? = some (.lst (ts.map Tr.v))) (ht : TreesAt mh ts) (hz : Tr.szs ts ≤ 60)
    (q : ∀ mh' r, Ext mh mh' → mh.length ≤ r → mh'[r]? = some (.lst ((((Tr.pres ts).map Tr.k).filter (fun k => decide (0 < k))).map .int)) → Q (.ref r) mh') : CW D (n + 12) (.ref 52) [.ref l] Q mh := by
  refine CW_of_KW (KW_defA ["nodes"] rfl ?_)
  walk_at "MR"
  refine EW_comp [] capNil (FW_val ?_)
  refine EW_callK (a := 47) ?_
  walk_at "MR"
  refine CW_all_nodes hl ht hz fun m r hx hr hm => ?_
  refine ⟨_, _, .lst r _, hm, ?_⟩
  refine compM (fun s => .int s.k) (fun s => decide (0 < s.k)) ?_ (fun m' hx' => hx' _ _ hm) ?_ ?_
  · rw [pres_len]; omega
  · intro s m1 hs hx1
    have hn1 := ((ht.ext (hx.trans hx1)).pres s hs).nk
    refine ⟨_, .name _ _ _ _ (by rfl), ?_⟩
    refine IW_cmp (EW_at (EW_local (by rfl) ⟨.int s.k, attr_number hn1, ?_⟩))
    walk_at "MR"
    refine ⟨rfl, hx1, fun _ => ?_⟩
    walk_at "MR"
    exact ⟨.int s.k, attr_number hn1, rfl, hx1⟩
  · intro m1 hx1
    refine q _ _ ((hx.trans hx1).snoc _) (by have := hx.len; have := hx1.len; omega) ?_
    have : List.map (fun s => MV.int s.k) (List.filter (fun s => decide (0 < s.k)) (Tr.pres ts)) = (((Tr.pres ts).map Tr.k).filter (fun k => decide (0 < k))).map .int := by
      rw [List.filter_map, List.map_map]; rfl
    rw [← this]
    exact get_snoc

theorem CW_thread_with {l : Nat} {ts : List Tr} {x : Int} {Q : MV → MH → Prop} (hl : mh[l]? = some (.lst (ts.map Tr.v))) (ht : TreesAt mh ts) (hz : Tr.szs ts ≤ 60)
    (q : ∀ mh', Ext mh mh' → Q (match ts.find? (fun t => decide (x ∈ (t.pre.map Tr.k).filter (fun k => decide (0 < k)))) with | some t => t.v | none => .none) mh') : CW D (n + 14) (.ref 64) [.ref l, .int x] Q mh := by
  refine CW_of_KW (KW_defA ["nodes", "number"] rfl ?_)
  have hlen := len_szs ts
  refine XsW_cons (XW_for (FW_val ?_))
  walk_at "MR"
  refine ⟨_, _, .lst l _, hl, ?_⟩
  refine ⟨fun i σ' m => Has σ' [("nodes", .ref l), ("number", .int x)] ∧ Ext mh m ∧ ∀ t ∈ ts.take i, ¬ x ∈ (t.pre.map Tr.k).filter (fun k => decide (0 < k)), ⟨by walk_at "MH", Ext.refl _, by simp⟩, fun i σ' m h => h.2.1 _ _ hl, ?_, ?_⟩
  · rintro i v σ' m hv ⟨hσ, hx, hno⟩
    rw [List.getElem?_map, Option.map_eq_some_iff] at hv
    obtain ⟨t, hv, rfl⟩ := hv
    have htm := List.mem_of_getElem? hv
    have htA := ht.mem t htm
    refine ⟨_, .name _ _ _ _ (.inl rfl), XsW_has hσ.put ?_⟩
    refine XsW_cons (XW_if (IW_cmp ?_))
    walk_at "MR"
    refine EW_callK (a := 52) ?_
    walk_at "MR"
    refine ⟨by simp, ?_⟩
    walk_at "MR"
    have htz : t.sz ≤ 60 := by have := szs_mem htm; omega
    refine CW_numbers_told (n := n + 1) (ts := [t]) get_snoc ⟨htA.ext (hx.snoc _), trivial⟩ (by simp [Tr.szs]; exact htz) fun m1 r hx1 hr hm1 => ?_
    refine OW_in_ints hm1 ?_
    have hpre : Tr.pres [t] = t.pre := by rw [Tr.pres, Tr.pres, List.append_nil]
    rw [hpre]
    by_cases hin : x ∈ (t.pre.map Tr.k).filter (fun k => decide (0 < k))
    · rw [decide_eq_true hin, if_pos rfl]
      walk_at "MR"
      have hf : ts.find? (fun t => decide (x ∈ (t.pre.map Tr.k).filter (fun k => decide (0 < k)))) = some t := by
        have hi := (List.getElem?_eq_some_iff.mp hv)
        have hsplit : ts = ts.take i ++ t :: ts.drop (i + 1) := by
          rw [← hi.2, ← List.drop_eq_getElem_cons hi.1, List.take_append_drop]
        rw [hsplit, List.find?_append, List.find?_eq_none.mpr (fun w hw => by simpa using hno w hw)]
        rw [List.find?_cons, decide_eq_true hin]; rfl
      have := q m1 ((hx.snoc _).trans hx1)
      rw [hf] at this
      exact this
    · rw [decide_eq_false hin, if_neg (by decide)]
      refine XsW_nil (XsW_nil ⟨?_, (hx.snoc _).trans hx1, ?_⟩)
      · exact Has.cons (by rfl) (Has.cons (by rfl) Has.nil)
      · intro w hw
        rw [List.take_add_one, hv] at hw
        rcases List.mem_append.mp hw with hw | hw
        · exact hno w hw
        · simp at hw; subst hw; exact hin
  · rintro σ' m ⟨hσ, hx, hno⟩
    rw [List.length_map, List.take_length] at hno
    walk_at "MR"
    have hf : ts.find? (fun t => decide (x ∈ (t.pre.map Tr.k).filter (fun k => decide (0 < k)))) = none := List.find?_eq_none.mpr fun w hw => by simpa using hno w hw
    have := q m hx
    rw [hf] at this
    exact this
end
end Mine

namespace Mine
section
variable {D : WD} {n : Nat} {mh : MH}
theorem told_tree {t : Tr} {Q : MV → Prop} (h : Q (.tup [.int t.k, .tup (t.ts.map Tr.told)])) : Q t.told := by rw [told_eq]; exact h

theorem CW_law_pairs : ∀ (N : Nat) (t : Tr) (a : Int) (mh : MH) (Q : MV → MH → Prop), t.sz ≤ N → N ≤ 60 →
    (∀ mh' r, Ext mh mh' → mh.length ≤ r → mh'[r]? = some (.lst ((t.pairs a).map pmv)) → Q (.ref r) mh') → CW D (n + N + 1) (.ref 229) [t.told, .int a] Q mh := by
  intro N
  induction N with
  | zero => intro t a mh Q h; have := sz_pos t; omega
  | succ N ih =>
    intro t a mh Q hz hN q
    refine CW_of_KW (KW_defA ["tree", "above"] rfl ?_)
    have hks := len_szs t.ts
    have htz : t.sz = Tr.szs t.ts + 1 := sz_eq t
    rw [told_eq]
    walk_at "MR"
    refine ⟨.int t.k, .tup (by decide) (by rfl) (by decide), ?_⟩
    walk_at "MR"
    refine ⟨by simp, ?_⟩
    walk_at "MR"
    refine ⟨by simp, ?_⟩
    refine XsW_cons (XW_for (FW_val ?_))
    walk_at "MR"
    refine ⟨.tup (t.ts.map Tr.told), .tup (by decide) (by rfl) (by decide), _, _, .tup _, trivial, ?_⟩
    refine ⟨fun i σ' m => ∃ r, Has σ' [("tree", .tup [.int t.k, .tup (t.ts.map Tr.told)]), ("above", .int a), ("found", .ref r)] ∧ Ext mh m ∧ mh.length ≤ r ∧ m[r]? = some (.lst (((t.k, a) :: Tr.pairss (t.ts.take i) t.k).map pmv)),
      ⟨mh.length, by walk_at "MH", (Ext.refl mh).snoc _, Nat.le_refl _, get_snoc⟩, fun _ _ _ _ => trivial, ?_, ?_⟩
    · rintro i v σ' m hv ⟨r, hσ, hx, hr, hm⟩
      rw [List.getElem?_map, Option.map_eq_some_iff] at hv
      obtain ⟨s, hv, rfl⟩ := hv
      have hsz := szs_mem (List.mem_of_getElem? hv)
      refine ⟨_, .name _ _ _ _ (.inl rfl), XsW_has hσ.put ?_⟩
      walk_at "MR"
      refine EW_callK (a := 229) ?_
      walk_at "MR"
      refine ⟨.int t.k, .tup (by decide) (by rfl) (by decide), ?_⟩
      walk_at "MR"
      refine ih s t.k m _ (by omega) (by omega) fun m1 r1 hx1 hr1 hm1 => ?_
      have hpl := pairss_len (t.ts.take i) t.k
      have htk : Tr.szs (t.ts.take i) + s.sz ≤ Tr.szs t.ts := by
        have hi := List.getElem?_eq_some_iff.mp hv
        have e1 : t.ts = t.ts.take i ++ s :: t.ts.drop (i + 1) := by rw [← hi.2, ← List.drop_eq_getElem_cons hi.1, List.take_append_drop]
        have e2 := congrArg Tr.szs e1
        rw [szs_append, Tr.szs] at e2
        omega
      refine OW_add_list (hx1 _ _ hm) hm1 (by simp only [List.length_map, List.length_cons, pairs_len, hpl]; omega) ?_
      refine XsW_nil ⟨m1.length, Has.cons (by rfl) (Has.cons (by rfl) (Has.cons (by rfl) Has.nil)), (hx.trans hx1).snoc _, by have := hx.len; have := hx1.len; omega, ?_⟩
      have e : (((t.k, a) :: Tr.pairss (t.ts.take i) t.k).map pmv) ++ (s.pairs t.k).map pmv = ((t.k, a) :: Tr.pairss (t.ts.take (i + 1)) t.k).map pmv := by
        rw [← List.map_append, List.cons_append, List.take_add_one, hv, pairss_append]
        simp [Tr.pairss]
      rw [← e]; exact get_snoc
    · rintro σ' m ⟨r, hσ, hx, hr, hm⟩
      rw [List.length_map, List.take_length] at hm
      refine XsW_has hσ ?_
      walk_at "MR"
      exact q m r hx hr (by rw [pairs_eq]; exact hm)

/-- how a good set of threads looks -/
structure Good (ts : List Tr) : Prop where
  sz : Tr.szs ts ≤ 40
  kid : ∀ s ∈ Tr.pres ts, ∀ c ∈ s.ts, 0 < c.k
  nd : (((Tr.pres ts).map Tr.k).filter (fun k => decide (0 < k))).Nodup

theorem mem_pres_kid {ts : List Tr} : ∀ {s c : Tr}, s ∈ Tr.pres ts → c ∈ s.ts → c ∈ Tr.pres ts := by
  have h1 : ∀ (N : Nat) (t s c : Tr), t.sz ≤ N → s ∈ t.pre → c ∈ s.ts → c ∈ t.pre := by
    intro N
    induction N with
    | zero => intro t s c h; have := sz_pos t; omega
    | succ N ih =>
      intro t s c hz hs hc
      rw [pre_eq] at hs ⊢
      rcases List.mem_cons.mp hs with rfl | hs
      · refine List.mem_cons_of_mem _ ?_
        rw [pres_flat, List.mem_flatMap]
        exact ⟨c, hc, by rw [pre_eq]; exact List.mem_cons_self⟩
      · refine List.mem_cons_of_mem _ ?_
        rw [pres_flat, List.mem_flatMap] at hs ⊢
        obtain ⟨w, hw, hs⟩ := hs
        have := szs_mem hw
        rw [sz_eq] at hz
        exact ⟨w, hw, ih w s c (by omega) hs hc⟩
  intro s c hs hc
  rw [pres_flat, List.mem_flatMap] at hs ⊢
  obtain ⟨w, hw, hs⟩ := hs
  exact ⟨w, hw, h1 w.sz w s c (Nat.le_refl _) hs hc⟩

/-- what parent_numbers gives -/
noncomputable def parentL (ts : List Tr) : List (Int × Int) := (ts.filter (fun t => decide (0 < t.k))).map (fun c => (c.k, 0)) ++ (Tr.pres ts).flatMap kidPairs
theorem parentL_perm {ts : List Tr} (g : Good ts) : ((Tr.pairss ts 0).filter (fun p => decide (0 < p.1))).Perm (parentL ts) := by
  refine ((pairss_perm ts 0).filter _).trans ?_
  rw [List.filter_append]
  have e1 : (ts.map fun c => (c.k, (0 : Int))).filter (fun p => decide (0 < p.1)) = (ts.filter (fun t => decide (0 < t.k))).map (fun c => (c.k, 0)) := by rw [List.filter_map]; rfl
  have e2 : ((Tr.pres ts).flatMap kidPairs).filter (fun p => decide (0 < p.1)) = (Tr.pres ts).flatMap kidPairs := by
    rw [List.filter_eq_self]
    intro p hp
    obtain ⟨s, hs, hp⟩ := List.mem_flatMap.mp hp
    obtain ⟨c, hc, rfl⟩ := List.mem_map.mp hp
    exact decide_eq_true (g.kid s hs c hc)
  rw [e1, e2]
  exact List.Perm.refl _
theorem pairs_nodup {ts : List Tr} (g : Good ts) : (((Tr.pairss ts 0).filter (fun p => decide (0 < p.1))).map (·.1)).Nodup := by
  have e : ((Tr.pairss ts 0).filter (fun p => decide (0 < p.1))).map (·.1) = ((Tr.pres ts).map Tr.k).filter (fun k => decide (0 < k)) := by
    rw [← pairss_fst ts 0, List.filter_map]; rfl
  rw [e]; exact g.nd
theorem parentL_nodup {ts : List Tr} (g : Good ts) : ((parentL ts).map (·.1)).Nodup := (((parentL_perm g).map (·.1)).nodup_iff).mp (pairs_nodup g)
noncomputable def imv (p : Int × Int) : Int × MV := (p.1, .int p.2)

theorem CW_parent_numbers {l : Nat} {ts : List Tr} {Q : MV → MH → Prop} (g : Good ts) (hl : mh[l]? = some (.lst (ts.map Tr.v))) (ht : TreesAt mh ts)
    (q : ∀ mh' r ep, Ext mh mh' → mh.length ≤ r → mh'[r]? = some (.dctI ep ((parentL ts).map imv)) → Q (.ref r) mh') : CW D (n + 13) (.ref 57) [.ref l] Q mh := by
  refine CW_of_KW (KW_defA ["nodes"] rfl ?_)
  have hz := g.sz
  have hlen := len_szs ts
  have hnd := parentL_nodup g
  have hpl : (parentL ts).length ≤ 40 := by
    have h1 := (parentL_perm g).length_eq
    have h2 := List.length_filter_le (fun p : Int × Int => decide (0 < p.1)) (Tr.pairss ts 0)
    rw [pairss_len] at h2
    omega
  walk_at "MR"
  refine EW_comp [] capNil (FW_val ?_)
  walk_at "MR"
  refine ⟨_, _, .lst l _, hl, ?_⟩
  refine compM (fun s => .tup [.int s.k, .int 0]) (fun s => decide (0 < s.k)) (by omega) (fun m' hx' => hx' _ _ hl) ?_ ?_
  · intro s m1 hs hx1
    have hnk := (ht.mem s hs |>.ext hx1).nk
    refine ⟨_, .name _ _ _ _ (by rfl), ?_⟩
    refine IW_cmp (EW_at (EW_local (by rfl) ⟨.int s.k, attr_number hnk, ?_⟩))
    walk_at "MR"
    refine ⟨rfl, hx1, fun _ => ?_⟩
    walk_at "MR"
    refine ⟨.int s.k, attr_number hnk, ?_⟩
    walk_at "MR"
    exact ⟨by simp, rfl, hx1⟩
  · intro m1 hx1
    refine ⟨_, ((ts.filter (fun t => decide (0 < t.k))).map (fun c => (c.k, (0 : Int)))).map imv, rfl, ?_, ?_, ?_, fun ep => ?_⟩
    · rw [get_snoc, List.map_map, List.map_map]; rfl
    · rw [List.length_map, List.length_map]; have := List.length_filter_le (fun t : Tr => decide (0 < t.k)) ts; omega
    · rw [parentL, List.map_append, List.nodup_append] at hnd
      have e : ((List.map imv (List.map (fun c => (c.k, (0 : Int))) (List.filter (fun t => decide (0 < t.k)) ts))).map (·.1)) = (List.map (fun c => (c.k, (0 : Int))) (List.filter (fun t => decide (0 < t.k)) ts)).map (·.1) := by rw [List.map_map]; rfl
      rw [e]; exact hnd.1
    have hb : (m1 ++ [MO.lst ((ts.filter (fun t => decide (0 < t.k))).map fun s => MV.tup [.int s.k, .int 0])]).length = m1.length + 1 := by simp
    have hm1l := hx1.len
    refine XsW_cons (XW_for (FW_val ?_))
    refine EW_callK (a := 47) ?_
    walk_at "MR"
    refine CW_all_nodes (n := n + 1) (get_ext (get_ext (hx1 _ _ hl))) (ht.ext ((hx1.snoc _).snoc _)) (by omega) fun m2 r hx2 hr hm2 => ?_
    have hdm : ∀ d, (m1 ++ [MO.lst ((ts.filter (fun t => decide (0 < t.k))).map fun s => MV.tup [.int s.k, .int 0])]).length = d → d < r := by
      intro d hd
      rw [List.length_append, List.length_singleton] at hr
      omega
    refine ⟨_, _, .lst r _, hm2, ?_⟩
    have hd0 := hx2 _ _ (get_snoc (l := m1 ++ [MO.lst ((ts.filter (fun t => decide (0 < t.k))).map fun s => MV.tup [.int s.k, .int 0])]))
    generalize hdd : (m1 ++ [MO.lst ((ts.filter (fun t => decide (0 < t.k))).map fun s => MV.tup [.int s.k, .int 0])]).length = d at *
    have hdr := hdm d rfl
    have hx02 : Ext mh m2 := ((hx1.snoc _).snoc _).trans hx2
    refine ⟨fun i σ' m => Has σ' [("found", .ref d)] ∧ Ext mh m ∧ m[r]? = some (.lst ((Tr.pres ts).map Tr.v)) ∧ ∃ ep, m[d]? = some (.dctI ep (((ts.filter (fun t => decide (0 < t.k))).map (fun c => (c.k, (0 : Int))) ++ ((Tr.pres ts).take i).flatMap kidPairs).map imv)),
      ⟨by walk_at "MH", hx02, hm2, ep, ?_⟩, fun _ _ _ h => h.2.2.1, ?_, ?_⟩
    · rw [List.take_zero, List.flatMap_nil, List.append_nil]; exact hd0
    · rintro i v σ' m hv ⟨hσ, hx, hmr, ep3, hmd⟩
      rw [List.getElem?_map, Option.map_eq_some_iff] at hv
      obtain ⟨s, hv, rfl⟩ := hv
      have hsm := List.mem_of_getElem? hv
      have hsA := (ht.ext hx).pres s hsm
      have hnk := hsA.nk
      have hi := List.getElem?_eq_some_iff.mp hv
      have hsplit : Tr.pres ts = (Tr.pres ts).take i ++ s :: (Tr.pres ts).drop (i + 1) := by rw [← hi.2, ← List.drop_eq_getElem_cons hi.1, List.take_append_drop]
      refine ⟨_, .name _ _ _ _ (.inl rfl), XsW_has hσ.put ?_⟩
      refine XsW_cons (XW_for (FW_val ?_))
      walk_at "MR"
      refine ⟨_, attr_kids hnk, _, _, .lst s.j _, hnk.2, ?_⟩
      refine ⟨fun i2 σ2 m3 => Has σ2 [("node", s.v), ("found", .ref d)] ∧ Ext mh m3 ∧ m3[r]? = some (.lst ((Tr.pres ts).map Tr.v)) ∧ ∃ ep, m3[d]? = some (.dctI ep (((ts.filter (fun t => decide (0 < t.k))).map (fun c => (c.k, (0 : Int))) ++ ((Tr.pres ts).take i).flatMap kidPairs ++ (s.ts.take i2).map (fun c => (c.k, s.k))).map imv)),
        ⟨Has.cons (by rfl) (Has.cons (by rfl) Has.nil), hx, hmr, ep3, ?_⟩, fun _ _ m3 h => ?_, ?_, ?_⟩
      · rw [List.take_zero, List.map_nil, List.append_nil]; exact hmd
      · exact ((ht.ext h.2.1).pres s hsm).nk.2
      · rintro i2 v σ2 m3 hv2 ⟨hσ2, hx3, hmr3, ep4, hmd3⟩
        rw [List.getElem?_map, Option.map_eq_some_iff] at hv2
        obtain ⟨c, hv2, rfl⟩ := hv2
        have hcm := List.mem_of_getElem? hv2
        have hsA3 := (ht.ext hx3).pres s hsm
        have hcA := hsA3.kids.mem c hcm
        have hi2 := List.getElem?_eq_some_iff.mp hv2
        have hsplit2 : s.ts = s.ts.take i2 ++ c :: s.ts.drop (i2 + 1) := by rw [← hi2.2, ← List.drop_eq_getElem_cons hi2.1, List.take_append_drop]
        refine ⟨_, .name _ _ _ _ (.inl rfl), XsW_has hσ2.put ?_⟩
        walk_at "MR"
        refine ⟨_, attr_number hsA3.nk, ?_⟩
        walk_at "MR"
        refine ⟨_, attr_number hcA.nk, ?_⟩
        have hpar : parentL ts = ((ts.filter (fun t => decide (0 < t.k))).map (fun c => (c.k, (0 : Int))) ++ ((Tr.pres ts).take i).flatMap kidPairs ++ (s.ts.take i2).map (fun c => (c.k, s.k))) ++ (c.k, s.k) :: ((s.ts.drop (i2 + 1)).map (fun c => (c.k, s.k)) ++ ((Tr.pres ts).drop (i + 1)).flatMap kidPairs) := by
          unfold parentL
          conv => lhs; rw [hsplit]
          rw [List.flatMap_append, List.flatMap_cons]
          have : kidPairs s = (s.ts.take i2).map (fun c => (c.k, s.k)) ++ (c.k, s.k) :: (s.ts.drop (i2 + 1)).map (fun c => (c.k, s.k)) := by
            unfold kidPairs
            conv => lhs; rw [hsplit2]
            rw [List.map_append, List.map_cons]
          rw [this]
          simp [List.append_assoc]
        have hnew : c.k ∉ ((((ts.filter (fun t => decide (0 < t.k))).map (fun c => (c.k, (0 : Int))) ++ ((Tr.pres ts).take i).flatMap kidPairs ++ (s.ts.take i2).map (fun c => (c.k, s.k))).map imv).map (·.1)) := by
          rw [hpar, List.map_append, List.map_cons, List.nodup_append] at hnd
          intro hm
          have e : ((((ts.filter (fun t => decide (0 < t.k))).map (fun c => (c.k, (0 : Int))) ++ ((Tr.pres ts).take i).flatMap kidPairs ++ (s.ts.take i2).map (fun c => (c.k, s.k))).map imv).map (·.1)) = ((ts.filter (fun t => decide (0 < t.k))).map (fun c => (c.k, (0 : Int))) ++ ((Tr.pres ts).take i).flatMap kidPairs ++ (s.ts.take i2).map (fun c => (c.k, s.k))).map (·.1) := by rw [List.map_map]; rfl
          rw [e] at hm
          exact hnd.2.2 _ hm c.k List.mem_cons_self rfl
        have hlen3 : ((((ts.filter (fun t => decide (0 < t.k))).map (fun c => (c.k, (0 : Int))) ++ ((Tr.pres ts).take i).flatMap kidPairs ++ (s.ts.take i2).map (fun c => (c.k, s.k))).map imv)).length ≤ 1000 := by
          have := congrArg List.length hpar
          rw [List.length_append] at this
          rw [List.length_map]; omega
        refine .dctI hmd3 hlen3 fun ep5 => XsW_nil ⟨Has.cons (by rfl) (Has.cons (by rfl) Has.nil), hx3.set (by omega), get_set_ne (by omega) hmr3, ep5, ?_⟩
        rw [dput_new hnew]
        have e : (((ts.filter (fun t => decide (0 < t.k))).map (fun c => (c.k, (0 : Int))) ++ ((Tr.pres ts).take i).flatMap kidPairs ++ (s.ts.take i2).map (fun c => (c.k, s.k))).map imv) ++ [(c.k, MV.int s.k)] = (((ts.filter (fun t => decide (0 < t.k))).map (fun c => (c.k, (0 : Int))) ++ ((Tr.pres ts).take i).flatMap kidPairs ++ (s.ts.take (i2 + 1)).map (fun c => (c.k, s.k))).map imv) := by
          rw [List.take_add_one, hv2]
          simp [List.map_append, imv]
        rw [← e]
        exact get_set_eq (get_lt hmd3)
      · rintro σ2 m3 ⟨hσ2, hx3, hmr3, ep4, hmd3⟩
        rw [List.length_map, List.take_length] at hmd3
        refine XsW_nil ⟨?_, hx3, hmr3, ep4, ?_⟩
        · exact Has.cons (hσ2 (_, _) (List.mem_cons_of_mem _ List.mem_cons_self)) Has.nil
        · rw [List.take_add_one, hv, List.flatMap_append, ← List.append_assoc]
          simp only [Option.toList_some, List.flatMap_cons, List.flatMap_nil, List.append_nil]
          exact hmd3
    · rintro σ' m ⟨hσ, hx, hmr, ep3, hmd⟩
      rw [List.length_map, List.take_length] at hmd
      refine XsW_has hσ ?_
      walk_at "MR"
      exact q m d ep3 hx (by omega) hmd
end
end Mine

namespace Mine
section
variable {D : WD} {n : Nat} {mh : MH}
theorem OW_ne_bool {a b : Bool} {Q : Bool → MH → Prop} (q : Q (a != b) mh) : OW2 D (n + 10) (compareOp .NotEq) (.bool a) (.bool b) (asBool Q) mh := by
  intro A R s ra rb ok hr va vb
  cases va; cases vb
  refine ne_dataH (.bool a) (.bool b) (by cases a <;> decide) (by cases b <;> decide) (by have := ok.units; omega) ?_
  have : (!PyData.eqv (.bool a) (.bool b)) = (a != b) := by cases a <;> cases b <;> simp [PyData.eqv]
  rw [this]
  exact VPost.now' hr (.bool _) q
theorem isDs_ints : ∀ (ks : List Int) (d : Nat), isDs d (ks.map .int) = true
  | [], d => by cases d <;> rfl
  | k :: ks, d => by rw [List.map_cons, isDs, isDs_ints ks d]; cases d <;> rfl
mutual
theorem isD_mono : ∀ (d e : Nat) (v : MV), d ≤ e → isD d v = true → isD e v = true
  | d, e, .int _, _, _ => by cases e <;> rfl
  | 0, e, .tup vs, _, h => by simp [isD] at h
  | d + 1, e, .tup vs, hde, h => by
    obtain ⟨e', rfl⟩ : ∃ e', e = e' + 1 := ⟨e - 1, by omega⟩
    simp only [isD] at h ⊢
    exact isDs_mono d e' vs (by omega) h
  | 0, e, .none, _, h => by simp [isD] at h
  | _ + 1, e, .none, _, h => by simp [isD] at h
  | 0, e, .bool _, _, h => by simp [isD] at h
  | _ + 1, e, .bool _, _, h => by simp [isD] at h
  | 0, e, .str _, _, h => by simp [isD] at h
  | _ + 1, e, .str _, _, h => by simp [isD] at h
  | 0, e, .ref _, _, h => by simp [isD] at h
  | _ + 1, e, .ref _, _, h => by simp [isD] at h
  | 0, e, .obj _ _, _, h => by simp [isD] at h
  | _ + 1, e, .obj _ _, _, h => by simp [isD] at h
  | 0, e, .rng _ _ _, _, h => by simp [isD] at h
  | _ + 1, e, .rng _ _ _, _, h => by simp [isD] at h
  | 0, e, .ilst _, _, h => by simp [isD] at h
  | _ + 1, e, .ilst _, _, h => by simp [isD] at h
theorem isDs_mono : ∀ (d e : Nat) (vs : List MV), d ≤ e → isDs d vs = true → isDs e vs = true
  | d, e, [], _, _ => by cases e <;> rfl
  | d, e, v :: vs, hde, h => by
    rw [isDs, Bool.and_eq_true] at h ⊢
    exact ⟨isD_mono d e v hde h.1, isDs_mono d e vs hde h.2⟩
end
mutual
/-- how deep a thread goes -/
noncomputable def Tr.dep : Tr → Nat | .mk _ _ _ ts => Tr.deps ts + 1
noncomputable def Tr.deps : List Tr → Nat | [] => 0 | t :: ts => max t.dep (Tr.deps ts)
end
mutual
theorem told_isD : ∀ t : Tr, isD (2 * t.dep) t.told = true
  | .mk i j k ts => by
    have h := tolds_isD ts
    rw [Tr.told, Tr.dep]
    have e : 2 * (Tr.deps ts + 1) = (2 * Tr.deps ts + 1) + 1 := by omega
    rw [e]
    simp only [isD, isDs, Bool.and_true, Bool.true_and]
    exact h
theorem tolds_isD : ∀ ts : List Tr, isDs (2 * Tr.deps ts) (Tr.tolds ts) = true
  | [] => rfl
  | t :: ts => by
    rw [Tr.tolds, isDs, Bool.and_eq_true, Tr.deps]
    exact ⟨isD_mono _ _ _ (by omega) (told_isD t), isDs_mono _ _ _ (by omega) (tolds_isD ts)⟩
end
mutual
theorem dep_sz : ∀ t : Tr, t.dep ≤ t.sz
  | .mk i j k ts => by rw [Tr.dep, Tr.sz]; have := deps_szs ts; omega
theorem deps_szs : ∀ ts : List Tr, Tr.deps ts ≤ Tr.szs ts
  | [] => Nat.le_refl _
  | t :: ts => by rw [Tr.deps, Tr.szs]; have := dep_sz t; have := deps_szs ts; omega
end

theorem CW_tools {l : Nat} {ts : List Tr} {many : Nat} {Q : MV → MH → Prop} (g : Good ts) (hs30 : Tr.szs ts ≤ 30) (hmany : many ≤ 100) (hl : mh[l]? = some (.lst (ts.map Tr.v))) (ht : TreesAt mh ts)
    (q : ∀ mh', Ext mh mh' → Q (.bool true) mh') : CW D (n + 65) (.ref 234) [.ref l, .int many] Q mh := by
  refine CW_of_KW (KW_defB ["nodes", "many"] rfl ?_ (hcn := by intro n; simp [cellsFrom]))
  have hlen := len_szs ts
  walk_at "MR"
  refine EW_comp [] capNil (FW_val ?_)
  walk_at "MR"
  refine ⟨_, _, .lst l _, hl, ?_⟩
  refine compM Tr.told (fun _ => true) (by omega) (fun m' hx' => hx' _ _ hl) ?_ ?_
  · intro s m1 hs hx1
    have hsA := (ht.mem s hs).ext hx1
    have hsz := szs_mem hs
    refine ⟨_, .name _ _ _ _ (by rfl), rfl, hx1, fun _ => ?_⟩
    refine EW_methK (C := 36) (f := 33) ?_
    walk_at "MR"
    refine ⟨s.i, _, rfl, hsA.nk.1, by rfl, ?_⟩
    walk_at "MR"
    exact CW_told (n := n + 53) hsA (by omega) fun m2 hx2 => ⟨rfl, hx1.trans hx2⟩
  intro m1 hx1
  rw [List.filter_eq_self.mpr (by simp)]
  walk_at "MR"
  refine ⟨by simp, ?_⟩
  walk_at "MR"
  refine ⟨by simp, _, _, rfl, ?_⟩
  have hm1l := hx1.len
  -- pairs
  have htr : ∀ l2 : List MO, ((m1 ++ [MO.lst (ts.map Tr.told)]) ++ l2)[m1.length]? = some (.lst (ts.map Tr.told)) := fun l2 => get_ext get_snoc
  refine XsW_cons (XW_for (FW_val ?_))
  walk_at "MR"
  refine ⟨_, _, .lst m1.length _, htr _, ?_⟩
  have hx1' : Ext mh ((m1 ++ [MO.lst (ts.map Tr.told)]) ++ [MO.lst []]) := (hx1.snoc _).snoc _
  generalize htrees : m1.length = tr at *
  refine ⟨fun i σ' m => ∃ r, Has σ' [("nodes", .ref l), ("many", .int many), ("trees", .ref tr), ("pairs", .ref r)] ∧ Ext mh m ∧ m[tr]? = some (.lst (ts.map Tr.told)) ∧ m[r]? = some (.lst ((Tr.pairss (ts.take i) 0).map pmv)),
    ⟨_, Has.cons (by rfl) (Has.cons (by rfl) (Has.cons (by rfl) (Has.cons (by rfl) Has.nil))), hx1', htr _, get_snoc⟩, fun _ _ _ ⟨_, _, _, h, _⟩ => h, ?_, ?_⟩
  · rintro i v σ' m hv ⟨r, hσ, hx, hmt, hmr⟩
    rw [List.getElem?_map, Option.map_eq_some_iff] at hv
    obtain ⟨s, hv, rfl⟩ := hv
    have hsz := szs_mem (List.mem_of_getElem? hv)
    refine ⟨_, .name _ _ _ _ (.inl rfl), XsW_has hσ.put ?_⟩
    walk_at "MR"
    refine EW_callK (a := 229) ?_
    walk_at "MR"
    refine CW_law_pairs (n := n + 23) 40 s 0 m _ (by omega) (by omega) fun m2 r2 hx2 hr2 hm2 => ?_
    have hpl := pairss_len (ts.take i) 0
    have htk : Tr.szs (ts.take i) ≤ Tr.szs ts := by
      have e2 := congrArg Tr.szs (List.take_append_drop i ts)
      rw [szs_append] at e2; omega
    refine OW_add_list (hx2 _ _ hmr) hm2 (by simp only [List.length_map, pairs_len, hpl]; omega) ?_
    refine XsW_nil ⟨_, Has.cons (by rfl) (Has.cons (by rfl) (Has.cons (by rfl) (Has.cons (by rfl) Has.nil))), (hx.trans hx2).snoc _, get_ext (hx2 _ _ hmt), ?_⟩
    have e : (Tr.pairss (ts.take i) 0).map pmv ++ (s.pairs 0).map pmv = (Tr.pairss (ts.take (i + 1)) 0).map pmv := by
      rw [← List.map_append, List.take_add_one, hv, pairss_append]
      simp [Tr.pairss]
    rw [← e]; exact get_snoc
  rintro σ' m ⟨r, hσ, hx, hmt, hmr⟩
  rw [List.length_map, List.take_length] at hmr
  refine XsW_has hσ ?_
  have hplen := pairss_len ts 0
  -- the numbers
  refine XsW_cons (XW_if (IW_cmp ?_))
  refine EW_callK (a := 52) ?_
  walk_at "MR"
  refine CW_numbers_told (n := n + 52) (hx _ _ hl) (ht.ext hx) (by omega) fun m2 r2 hx2 hr2 hm2 => ?_
  refine EW_comp [] capNil (FW_val ?_)
  walk_at "MR"
  refine ⟨_, _, .lst r _, hx2 _ _ hmr, ?_⟩
  refine compM (fun p => .int p.1) (fun p => decide (0 < p.1)) (by omega) (fun m' hx' => hx' _ _ (hx2 _ _ hmr)) ?_ ?_
  · intro p m3 hp hx3
    refine ⟨_, .pair _ _ _ _ _ _ _ _ _ (by rfl) (by rfl), ?_⟩
    refine IW_cmp ?_
    walk_at "MR"
    refine ⟨rfl, hx3, fun _ => ?_⟩
    walk_at "MR"
    exact ⟨rfl, hx3⟩
  intro m3 hx3
  have en : List.map (fun p : Int × Int => MV.int p.1) (List.filter (fun p => decide (0 < p.1)) (Tr.pairss ts 0)) = (((Tr.pres ts).map Tr.k).filter (fun k => decide (0 < k))).map .int := by
    rw [← pairss_fst ts 0, List.filter_map, List.map_map]; rfl
  rw [en]
  refine OW_ne_lists (n := n + 54) (d := 0) (get_ext (hx3 _ _ hm2)) get_snoc (isDs_ints _ _) (by omega) ?_
  rw [if_neg (by decide)]
  refine XsW_nil ?_
  have hx4 : Ext m (m3 ++ [MO.lst ((((Tr.pres ts).map Tr.k).filter (fun k => decide (0 < k))).map .int)]) := (hx2.trans hx3).snoc _
  generalize hm4 : m3 ++ [MO.lst ((((Tr.pres ts).map Tr.k).filter (fun k => decide (0 < k))).map .int)] = m4 at hx4
  clear hm4 hx3 m3 hm2 hx2 hr2 m2
  -- all numbers
  refine XsW_cons (XW_if (IW_cmp ?_))
  refine EW_comp [] capNil (FW_val ?_)
  refine EW_callK (a := 47) ?_
  walk_at "MR"
  refine CW_all_nodes (n := n + 53) (hx4 _ _ (hx _ _ hl)) (ht.ext (hx.trans hx4)) (by omega) fun m5 r5 hx5 hr5 hm5 => ?_
  refine ⟨_, _, .lst r5 _, hm5, ?_⟩
  refine compM (fun s => .int s.k) (fun _ => true) (by rw [pres_len]; omega) (fun m' hx' => hx' _ _ hm5) ?_ ?_
  · intro s m6 hs hx6
    have hnk := ((ht.ext (((hx.trans hx4).trans hx5).trans hx6)).pres s hs).nk
    refine ⟨_, .name _ _ _ _ (by rfl), rfl, hx6, fun _ => ?_⟩
    walk_at "MR"
    exact ⟨_, attr_number hnk, rfl, hx6⟩
  intro m6 hx6
  refine EW_comp [] capNil (FW_val ?_)
  walk_at "MR"
  have hx46 : Ext m m6 := (hx4.trans hx5).trans hx6
  refine ⟨_, _, .lst r _, get_ext (hx46 _ _ hmr), ?_⟩
  refine compM (fun p => .int p.1) (fun _ => true) (by omega) (fun m' hx' => hx' _ _ (get_ext (hx46 _ _ hmr))) ?_ ?_
  · intro p m7 hp hx7
    refine ⟨_, .pair _ _ _ _ _ _ _ _ _ (by rfl) (by rfl), rfl, hx7, fun _ => ?_⟩
    walk_at "MR"
    exact ⟨rfl, hx7⟩
  intro m7 hx7
  have en2 : List.map (fun p : Int × Int => MV.int p.1) (List.filter (fun _ => true) (Tr.pairss ts 0)) = List.map (fun s => MV.int s.k) (List.filter (fun _ => true) (Tr.pres ts)) := by
    rw [List.filter_eq_self.mpr (by simp), List.filter_eq_self.mpr (by simp)]
    have := congrArg (List.map MV.int) (pairss_fst ts 0)
    rw [List.map_map, List.map_map] at this
    exact this
  rw [en2]
  have hds : isDs 0 (List.map (fun s => MV.int s.k) (List.filter (fun _ => true) (Tr.pres ts))) = true := by
    have := isDs_ints ((List.filter (fun _ => true) (Tr.pres ts)).map Tr.k) 0
    rw [List.map_map] at this
    exact this
  refine OW_ne_lists (n := n + 54) (d := 0) (get_ext (hx7 _ _ get_snoc)) get_snoc hds (by omega) ?_
  rw [if_neg (by decide)]
  refine XsW_nil ?_
  have hx8 : Ext m (m7 ++ [MO.lst (List.map (fun s => MV.int s.k) (List.filter (fun _ => true) (Tr.pres ts)))]) := ((hx46.snoc _).trans hx7).snoc _
  generalize hm8 : m7 ++ [MO.lst (List.map (fun s => MV.int s.k) (List.filter (fun _ => true) (Tr.pres ts)))] = m8 at hx8
  clear hm8 hx7 m7 hx46 hx6 m6 hm5 hx5 hr5 m5 hx4 m4
  -- the parents
  refine XsW_cons (XW_if (IW_cmp ?_))
  refine EW_callK (a := 57) ?_
  walk_at "MR"
  refine CW_parent_numbers (n := n + 51) g (hx8 _ _ (hx _ _ hl)) (ht.ext (hx.trans hx8)) fun m9 r9 ep9 hx9 hr9 hm9 => ?_
  walk_at "MR"
  refine EW_comp [] capNil (FW_val ?_)
  walk_at "MR"
  refine ⟨_, _, .lst r _, hx9 _ _ (hx8 _ _ hmr), ?_⟩
  refine compM pmv (fun p => decide (0 < p.1)) (by omega) (fun m' hx' => hx' _ _ (hx9 _ _ (hx8 _ _ hmr))) ?_ ?_
  · intro p m10 hp hx10
    refine ⟨_, .pair _ _ _ _ _ _ _ _ _ (by rfl) (by rfl), ?_⟩
    refine IW_cmp ?_
    walk_at "MR"
    refine ⟨rfl, hx10, fun _ => ?_⟩
    walk_at "MR"
    exact ⟨by simp, rfl, hx10⟩
  intro m10 hx10
  refine ⟨_, ((Tr.pairss ts 0).filter (fun p => decide (0 < p.1))).map imv, rfl, ?_, ?_, ?_, fun ep11 => ?_⟩
  · rw [get_snoc, List.map_map]; rfl
  · rw [List.length_map]; have := List.length_filter_le (fun p : Int × Int => decide (0 < p.1)) (Tr.pairss ts 0); omega
  · rw [List.map_map]; exact pairs_nodup g
  have hperm := parentL_perm g
  refine OW_ne_dicts (n := n + 54) (ka := parentL ts) (kb := (Tr.pairss ts 0).filter (fun p => decide (0 < p.1))) (get_ext (get_ext (hx10 _ _ hm9))) get_snoc hperm.length_eq.symm ?_ ?_
  · intro p hp
    have hp' := hperm.mem_iff.mpr hp
    have hnd := pairs_nodup g
    generalize (Tr.pairss ts 0).filter (fun p => decide (0 < p.1)) = L at hp' hnd
    clear hperm
    induction L with
    | nil => exact nomatch hp'
    | cons w L ih =>
      rw [List.map_cons, List.nodup_cons] at hnd
      unfold dget
      rw [List.map_cons, List.find?_cons]
      rcases List.mem_cons.mp hp' with rfl | hp'
      · simp
      · have : ¬ w.1 = p.1 := fun e => hnd.1 (e ▸ List.mem_map.mpr ⟨p, hp', rfl⟩)
        simp only [this, decide_false]
        exact ih hp' hnd.2
  rw [if_neg (by decide)]
  refine XsW_nil ?_
  have hx12 : Ext m ((m10 ++ [MO.lst ((List.filter (fun p => decide (0 < p.1)) (Tr.pairss ts 0)).map pmv)]) ++ [MO.dctI ep11 (List.map imv (List.filter (fun p => decide (0 < p.1)) (Tr.pairss ts 0)))]) := (((hx8.trans hx9).trans hx10).snoc _).snoc _
  generalize hm12 : (m10 ++ [MO.lst ((List.filter (fun p => decide (0 < p.1)) (Tr.pairss ts 0)).map pmv)]) ++ [MO.dctI ep11 (List.map imv (List.filter (fun p => decide (0 < p.1)) (Tr.pairss ts 0)))] = m12 at hx12
  clear hm12 hx10 m10 hm9 hx9 hr9 m9 hx8 m8
  -- one number after the other
  refine XsW_cons (XW_for (FW_val ?_))
  walk_at "MR"
  rw [show ((many : Int) + 2) = ((many + 2 : Nat) : Int) by push_cast; rfl]
  have hru := rng_up (many + 2) (by omega)
  refine ⟨_, rfl, _, _, .rng _ _ _ (many + 2) hru.1 hru.2, trivial, ?_⟩
  refine ⟨fun i σ' m' => Has σ' [("nodes", .ref l), ("trees", .ref tr)] ∧ Ext m m', ⟨Has.cons (by rfl) (Has.cons (by rfl) Has.nil), hx12⟩, fun _ _ _ _ => trivial, ?_, ?_⟩
  · rintro i v σ2 m13 hv ⟨hσ2, hx13⟩
    rw [List.getElem?_map, Option.map_eq_some_iff] at hv
    obtain ⟨i', hi', rfl⟩ := hv
    generalize hx0 : (0 : Int) + (i' : Int) * 1 = x
    refine ⟨_, .name _ _ _ _ (.inr rfl), XsW_has hσ2.put ?_⟩
    let P : Tr → Bool := fun t => decide (x ∈ (t.pre.map Tr.k).filter (fun k => decide (0 < k)))
    have hP : ∀ t : Tr, P t = (decide (0 < x) && decide (x ∈ (t.pairs 0).map (·.1))) := by
      intro t
      show decide _ = _
      rw [pairs_fst]
      have e : decide (x ∈ (t.pre.map Tr.k).filter (fun k => decide (0 < k))) = decide (x ∈ t.pre.map Tr.k ∧ 0 < x) := decide_eq_decide.mpr (by rw [List.mem_filter, decide_eq_true_eq])
      rw [e]
      by_cases h1 : 0 < x
      · rw [decide_eq_true h1, Bool.true_and]; exact decide_eq_decide.mpr ⟨fun h => h.1, fun h => ⟨h, h1⟩⟩
      · rw [decide_eq_false h1, Bool.false_and]; exact decide_eq_false fun h => h1 h.2
    -- due
    refine XsW_cons (XW_assign_comp ["number"] (capOne "number") (FW_val ?_))
    walk_at "MR"
    refine ⟨_, _, .lst tr _, hx13 _ _ hmt, ?_⟩
    refine compM Tr.told P (by omega) (fun m' hx' => hx' _ _ (hx13 _ _ hmt)) ?_ ?_
    · intro t m14 htm hx14
      have hsz := szs_mem htm
      refine ⟨_, .name _ _ _ _ (by rfl), ?_⟩
      rw [hP]
      refine IW_boolop (AW_and (IW_cmp ?_))
      walk_at "MR"
      by_cases hx0' : 0 < x
      · rw [if_pos (decide_eq_true hx0'), decide_eq_true hx0', Bool.true_and]
        refine AW_and (IW_cmp ?_)
        walk_at "MR"
        refine EW_comp [] capNil (FW_val ?_)
        refine EW_callK (a := 229) ?_
        walk_at "MR"
        refine CW_law_pairs (n := n + 23) 40 t 0 m14 _ (by omega) (by omega) fun m15 r15 hx15 hr15 hm15 => ?_
        refine ⟨_, _, .lst r15 _, hm15, ?_⟩
        refine compM (fun p => .int p.1) (fun _ => true) (by rw [pairs_len]; omega) (fun m' hx' => hx' _ _ hm15) ?_ ?_
        · intro p m16 hp hx16
          refine ⟨_, .name _ _ _ _ (by rfl), rfl, hx16, fun _ => ?_⟩
          walk_at "MR"
          exact ⟨_, .tup (by decide) (by rfl) (by decide), rfl, hx16⟩
        · intro m16 hx16
          have e3 : List.map (fun p : Int × Int => MV.int p.1) (List.filter (fun _ => true) (t.pairs 0)) = ((t.pairs 0).map (·.1)).map .int := by
            rw [List.filter_eq_self.mpr (by simp), List.map_map]; rfl
          rw [e3]
          refine OW_in_ints (n := n + 54) get_snoc ?_
          have hx17 := ((hx14.trans hx15).trans hx16).snoc (MO.lst (((t.pairs 0).map (·.1)).map MV.int))
          by_cases hin : x ∈ (t.pairs 0).map (·.1)
          · rw [if_pos (decide_eq_true hin)]
            exact AW_and_nil ⟨(decide_eq_true hin).symm, hx17, fun _ => EW_local (by rfl) ⟨rfl, hx17⟩⟩
          · rw [if_neg (by simpa using hin)]
            exact ⟨(decide_eq_false hin).symm, hx17, fun _ => EW_local (by rfl) ⟨rfl, hx17⟩⟩
      · rw [if_neg (by simpa using hx0'), decide_eq_false hx0', Bool.false_and]
        exact ⟨rfl, hx14, fun _ => EW_local (by rfl) ⟨rfl, hx14⟩⟩
    intro m14 hx14
    -- found
    refine XsW_cons (XW_assign ?_)
    refine EW_callK (a := 64) ?_
    walk_at "MR"
    have hx14' : Ext m m14 := hx13.trans hx14
    refine CW_thread_with (n := n + 50) (get_ext (hx14' _ _ (hx _ _ hl))) (ht.ext ((hx.trans hx14').snoc _)) (by omega) fun m15 hx15 => ?_
    have hdue := hx15 _ _ (get_snoc (l := m14) (a := MO.lst (List.map Tr.told (List.filter P ts))))
    have hx15' : Ext m m15 := (hx14'.snoc _).trans hx15
    have hfd : (List.filter P ts).head? = ts.find? P := by rw [List.head?_filter]
    cases hf : ts.find? P with
    | none =>
      rw [hf, List.head?_eq_none_iff] at hfd
      have hf' : ts.find? (fun t => decide (x ∈ (t.pre.map Tr.k).filter (fun k => decide (0 < k)))) = none := hf
      try rw [hf']
      rw [hfd] at hdue
      dsimp only
      refine XsW_cons (XW_if (IW_boolop (AW_or (IW_cmp ?_))))
      walk_at "MR"
      refine ⟨by simp, OW_eq_nil (n := n + 54) (get_ext hdue) get_snoc ?_⟩
      refine OW_ne_bool (n := n + 54) ?_
      rw [if_neg (by decide)]
      refine AW_or (IW_boolop (AW_and (IW_cmp ?_)))
      walk_at "MR"
      rw [if_neg (by decide), if_neg (by decide)]
      refine AW_or_nil ?_
      rw [if_neg (by decide)]
      refine XsW_nil (XsW_nil ⟨Has.cons (by rfl) (Has.cons (by rfl) Has.nil), hx15'.snoc _⟩)
    | some t =>
      rw [hf] at hfd
      have hf' : ts.find? (fun t => decide (x ∈ (t.pre.map Tr.k).filter (fun k => decide (0 < k)))) = some t := hf
      try rw [hf']
      have htm : t ∈ ts := List.mem_of_find?_eq_some hf
      have hsz := szs_mem htm
      obtain ⟨rest, hfl⟩ : ∃ rest, List.filter P ts = t :: rest := by
        cases hq : List.filter P ts with
        | nil => rw [hq] at hfd; cases hfd
        | cons w rest => rw [hq] at hfd; simp at hfd; exact ⟨rest, by rw [hfd]⟩
      have hfln : (List.filter P ts).length ≤ ts.length := List.length_filter_le _ _
      rw [hfl] at hdue hfln
      dsimp only
      refine XsW_cons (XW_if (IW_boolop (AW_or (IW_cmp ?_))))
      walk_at "MR"
      refine ⟨by simp, OW_eq_nil (n := n + 54) (get_ext hdue) get_snoc ?_⟩
      refine OW_ne_bool (n := n + 54) ?_
      rw [if_neg (by simp [Tr.v, MV.isNone])]
      refine AW_or (IW_boolop (AW_and (IW_cmp ?_)))
      walk_at "MR"
      rw [if_pos (by simp [Tr.v, MV.isNone])]
      refine AW_and (IW_cmp ?_)
      refine EW_methK (C := 36) (f := 33) ?_
      walk_at "MR"
      have htA := (ht.ext ((hx.trans hx15').snoc (MO.lst []))).mem t htm
      refine ⟨t.i, _, rfl, htA.nk.1, by rfl, ?_⟩
      walk_at "MR"
      refine CW_told (n := n + 53) htA (by omega) fun m16 hx16 => ?_
      walk_at "MR"
      refine ⟨_, .lst (hx16 _ _ (get_ext hdue)) (by decide) (by rw [List.map_cons]; rfl) (by rw [List.length_map]; omega), ?_⟩
      refine OW_ne_same (n := n + 54) (d := 2 * t.dep) (told_isD t) (by have := dep_sz t; omega) ?_
      rw [if_neg (by decide), if_neg (by decide)]
      refine AW_or_nil ?_
      rw [if_neg (by decide)]
      refine XsW_nil (XsW_nil ⟨Has.cons (by rfl) (Has.cons (by rfl) Has.nil), (hx15'.snoc _).trans hx16⟩)
  · rintro σ2 m13 ⟨hσ2, hx13⟩
    refine XsW_has hσ2 ?_
    walk_at "MR"
    exact q _ (hx.trans hx13)
end
end Mine

namespace Mine
/-- a letter's row -/
structure Rw where
  num : Nat
  rl : Nat
  ab : Nat
  day : Int
  base : Str
  fl : Bool
noncomputable def nmS (i : Int) : Str := Str.ofString (toString i) ++ Str.ofString "@x"
noncomputable def Rw.mv (r : Rw) : MV := .tup [.int r.num, .str (nmS r.num), .ref r.rl, .int r.day, .str r.base, .bool r.fl]
noncomputable def rowKv (r : Rw) : Int × MV := ((r.num : Int), r.mv)
structure RowsOk (rows : List Rw) : Prop where
  len : rows.length ≤ 9
  pos : 2 ≤ rows.length
  num : ∀ (k : Nat) (r : Rw), rows[k]? = some r → r.num = k + 1
  ab : ∀ r ∈ rows, r.ab < r.num
theorem RowsOk.nums {rows : List Rw} (h : RowsOk rows) : rows.map Rw.num = (List.range rows.length).map (· + 1) := by
  apply List.ext_getElem
  · simp
  · intro k h1 h2
    rw [List.length_map] at h1
    simp only [List.getElem_map, List.getElem_range]
    exact h.num k _ (List.getElem?_eq_getElem h1)
theorem RowsOk.nodup {rows : List Rw} (h : RowsOk rows) : ((rows.map rowKv).map (·.1)).Nodup := by
  have e : (rows.map rowKv).map (·.1) = (rows.map Rw.num).map (fun k : Nat => (k : Int)) := by rw [List.map_map, List.map_map]; rfl
  rw [e, h.nums, List.map_map]
  rw [List.Nodup, List.pairwise_map]
  exact List.nodup_range.imp (fun {a b} hab q => hab (by simp at q; omega))
theorem RowsOk.mem {rows : List Rw} (h : RowsOk rows) {r : Rw} (hr : r ∈ rows) : 1 ≤ r.num ∧ r.num ≤ rows.length := by
  obtain ⟨k, hk⟩ := List.mem_iff_getElem?.mp hr
  have := h.num k r hk
  have := (List.getElem?_eq_some_iff.mp hk).1
  omega
theorem RowsOk.inj {rows : List Rw} (h : RowsOk rows) {r s : Rw} (hr : r ∈ rows) (hs : s ∈ rows) (e : r.num = s.num) : r = s := by
  obtain ⟨k, hk⟩ := List.mem_iff_getElem?.mp hr
  obtain ⟨j, hj⟩ := List.mem_iff_getElem?.mp hs
  have h1 := h.num k r hk
  have h2 := h.num j s hj
  have : k = j := by omega
  subst this
  rw [hk] at hj; cases hj; rfl
noncomputable def Tab (mh : MH) (tb : Nat) (rows : List Rw) : Prop := ∃ ep, mh[tb]? = some (.dctI ep (rows.map rowKv))
theorem dget_mem {κ : Type} [DecidableEq κ] {kvs : List (κ × MV)} {p : κ × MV} (hn : (kvs.map (·.1)).Nodup) (hp : p ∈ kvs) : dget kvs p.1 = some p.2 := by
  unfold dget
  induction kvs with
  | nil => exact nomatch hp
  | cons w L ih =>
    rw [List.map_cons, List.nodup_cons] at hn
    rw [List.find?_cons]
    rcases List.mem_cons.mp hp with rfl | hp
    · simp
    · have : ¬ w.1 = p.1 := fun e => hn.1 (e ▸ List.mem_map.mpr ⟨p, hp, rfl⟩)
      simp only [this, decide_false]
      exact ih hn.2 hp
theorem dget_row {rows : List Rw} (h : RowsOk rows) {r : Rw} (hr : r ∈ rows) : dget (rows.map rowKv) (r.num : Int) = some r.mv := dget_mem (p := rowKv r) h.nodup (List.mem_map.mpr ⟨r, hr, rfl⟩)

section
variable {D : WD} {n : Nat} {mh : MH}
theorem CW_row_table {l : Nat} {rows : List Rw} {Q : MV → MH → Prop} (ok : RowsOk rows) (hl : mh[l]? = some (.lst (rows.map Rw.mv)))
    (q2 : ∀ m ep, Ext mh m → Q (.ref m.length) (m ++ [.dctI ep (rows.map rowKv)])) : CW D (n + 1) (.ref 144) [.ref l] Q mh := by
  refine CW_of_KW (KW_defA ["rows"] rfl ?_)
  have := ok.len
  walk_at "MR"
  refine EW_comp [] capNil (FW_val ?_)
  walk_at "MR"
  refine ⟨_, _, .lst l _, hl, ?_⟩
  refine compM (fun r => .tup [.int r.num, r.mv]) (fun _ => true) (by omega) (fun m' hx' => hx' _ _ hl) ?_ ?_
  · intro r m1 hr hx1
    refine ⟨_, .name _ _ _ _ (by rfl), rfl, hx1, fun _ => ?_⟩
    walk_at "MR"
    refine ⟨_, .tup (by decide) (by rfl) (by decide), ?_⟩
    walk_at "MR"
    exact ⟨by simp, rfl, hx1⟩
  · intro m1 hx1
    rw [List.filter_eq_self.mpr (by simp)]
    refine ⟨_, rows.map rowKv, rfl, ?_, by rw [List.length_map]; omega, ok.nodup, fun ep => q2 _ ep (hx1.snoc _)⟩
    rw [get_snoc, List.map_map]; rfl

/-- by what number a node is ordered -/
noncomputable def KeyAt (mh : MH) (v : MV) (x : Int) : Prop := ∃ i j k vs, v = .obj 36 i ∧ NK mh i j k vs ∧ vs.length ≤ 1000 ∧ ((0 < k ∧ x = k) ∨ (k ≤ 0 ∧ ∃ c, vs[0]? = some c ∧ AttrIs mh c "number" (.int x)))

theorem CW_node_key {v : MV} {tb : Nat} {rows : List Rw} {r : Rw} (ok : RowsOk rows) (hr : r ∈ rows) (hk : KeyAt mh v r.num) (ht : Tab mh tb rows) : CW D (n + 1) (.ref 151) [v, .ref tb] (fun w m => w = kmv (r.day, r.num) ∧ m = mh) mh := by
  refine CW_of_KW (KW_defA ["node", "table"] rfl ?_)
  obtain ⟨i, j, k, vs, rfl, hnk, hz, hc⟩ := hk
  obtain ⟨ep, ht⟩ := ht
  refine XsW_cons (XW_assign (EW.mono (Q := fun v m => v = .int r.num ∧ m = mh) ?_ ?_))
  · refine EW_ifexp (IW_cmp (EW_at (EW_local (by rfl) ⟨.int k, attr_number hnk, ?_⟩)))
    walk_at "MR"
    rcases hc with ⟨h1, h2⟩ | ⟨h1, c, h2, h3⟩
    · rw [if_pos (decide_eq_true h1)]
      walk_at "MR"
      exact ⟨.int k, attr_number hnk, by rw [h2], rfl⟩
    · rw [if_neg (by simpa using h1)]
      walk_at "MR"
      refine ⟨_, attr_kids hnk, ?_⟩
      walk_at "MR"
      exact ⟨c, .lst hnk.2 (by decide) (by simpa using h2) hz, _, h3, rfl, rfl⟩
  · rintro v m ⟨rfl, rfl⟩
    walk_at "MR"
    refine ⟨r.mv, .dctI ht (dget_row ok hr), ?_⟩
    walk_at "MR"
    refine ⟨.int r.day, .tup (by decide) (by rfl) (by decide), ?_⟩
    walk_at "MR"
    exact ⟨by simp, rfl, rfl⟩

theorem capLOne {si : SI} {ls : Scope} (x : Str) (h1 : ls.names.lookup x = some .free := by rfl) (h2 : si.scope.names.lookup x = some .cell := by rfl) (h : ∀ env c, env.cells.lookup x = some c → closureFor ls env = pure [(x, c)] := by intro env c h; simp [closureFor, cellOf, h]) : CapL si ls [x] := .one x h1 h2 h
theorem capLNil {si : SI} {ls : Scope} (h : ∀ env, closureFor ls env = pure [] := by intro env; simp [closureFor]) : CapL si ls [] := .nil h

theorem CW_in_order {l tb : Nat} {vs : List MV} {rows : List Rw} {Q : MV → MH → Prop} (ok : RowsOk rows) (kf : MV → Key) (hl : mh[l]? = some (.lst vs)) (hz : vs.length ≤ 60) (hn : ((vs.map kf).map (·.2)).Nodup)
    (hk : ∀ v ∈ vs, ∃ r ∈ rows, kf v = (r.day, (r.num : Int)) ∧ KeyAt mh v r.num) (ht : Tab mh tb rows) (q : ∀ out, Sorted kf vs out → Q (.ref mh.length) (mh ++ [.lst out])) : CW D (n + 3) (.ref 158) [.ref l, .ref tb] Q mh := by
  refine CW_of_KW (KW_defB ["nodes", "table"] rfl ?_ (hcn := by intro n; simp [cellsFrom]))
  walk_at "MR"
  refine EW_sortedK (n := n + 1) (x := "node") sel3 ["table"] (capLOne "table") ?_
  walk_at "MR"
  refine ⟨l, vs, kf, rfl, hl, hz, hn, fun v hv cdv => ?_, q⟩
  obtain ⟨r, hr, e, ka⟩ := hk v hv
  refine EW_callK (a := 151) ?_
  walk_at "MR"
  rw [e]
  exact CW_node_key ok hr ka ht
end
end Mine

namespace Mine
theorem perm_lift {α β : Type} {g : α → β} : ∀ {vs ws : List β}, vs.Perm ws → ∀ L : List α, ws = L.map g → ∃ L' : List α, L'.Perm L ∧ L'.map g = vs := by
  intro vs ws h
  induction h with
  | nil => intro L e; cases L with | nil => exact ⟨[], .refl _, rfl⟩ | cons _ _ => simp at e
  | cons x h ih =>
    intro L e
    cases L with
    | nil => simp at e
    | cons a L =>
      rw [List.map_cons] at e
      cases e
      obtain ⟨L', h1, h2⟩ := ih L rfl
      exact ⟨a :: L', h1.cons a, by rw [List.map_cons, h2]⟩
  | swap x y l =>
    intro L e
    match L, e with
    | a :: b :: L, e =>
      simp only [List.map_cons, List.cons.injEq] at e
      obtain ⟨e1, e2, e3⟩ := e
      exact ⟨b :: a :: L, List.Perm.swap a b L, by rw [List.map_cons, List.map_cons, ← e1, ← e2, ← e3]⟩
    | [_], e => simp at e
    | [], e => simp at e
  | trans _ _ ih1 ih2 =>
    intro L e
    obtain ⟨L2, h1, h2⟩ := ih2 L e
    obtain ⟨L1, h3, h4⟩ := ih1 L2 h2.symm
    exact ⟨L1, h3.trans h1, h4⟩
theorem nodup_len : ∀ (n : Nat) (l : List Nat), l.Nodup → (∀ x ∈ l, x < n) → l.length ≤ n
  | 0, l, _, h => by cases l with | nil => exact Nat.le_refl _ | cons a l => exact absurd (h a List.mem_cons_self) (Nat.not_lt_zero _)
  | n + 1, l, hn, h => by
    by_cases hm : n ∈ l
    · have h1 := nodup_len n (l.erase n) (hn.erase n) fun x hx => by
        have := h x (List.mem_of_mem_erase hx)
        have hne : x ≠ n := (hn.mem_erase_iff.mp hx).1
        omega
      rw [List.length_erase_of_mem hm] at h1
      omega
    · have h1 := nodup_len n l hn fun x hx => by
        have := h x hx
        have hne : x ≠ n := fun e => hm (e ▸ hx)
        omega
      omega

/-- a forest in the heap -/
structure Fst (mh : MH) (rows : List Rw) (ts : List Tr) : Prop where
  at_ : TreesAt mh ts
  ids : ((Tr.pres ts).map Tr.i).Nodup
  kid : ∀ s ∈ Tr.pres ts, ∀ c ∈ s.ts, 0 < c.k
  root : ∀ t ∈ ts, 0 < t.k ∨ (t.k = 0 ∧ t.ts ≠ [])
  nd : (((Tr.pres ts).map Tr.k).filter (fun k => decide (0 < k))).Nodup
  rng : ∀ s ∈ Tr.pres ts, 0 < s.k → ∃ r ∈ rows, (r.num : Int) = s.k
noncomputable def posL (l : List Tr) : List Int := (l.map Tr.k).filter (fun k => decide (0 < k))
theorem posL_append (a b : List Tr) : posL (a ++ b) = posL a ++ posL b := by unfold posL; rw [List.map_append, List.filter_append]
theorem pres_pos {ts : List Tr} (h : ∀ t ∈ ts, 0 < t.k) (hk : ∀ s ∈ Tr.pres ts, ∀ c ∈ s.ts, 0 < c.k) : ∀ s ∈ Tr.pres ts, 0 < s.k := by
  have h1 : ∀ (N : Nat) (t s : Tr), t.sz ≤ N → 0 < t.k → (∀ s ∈ t.pre, ∀ c ∈ s.ts, 0 < c.k) → s ∈ t.pre → 0 < s.k := by
    intro N
    induction N with
    | zero => intro t s h; have := sz_pos t; omega
    | succ N ih =>
      intro t s hz ht hk hs
      rw [pre_eq] at hs hk
      rcases List.mem_cons.mp hs with rfl | hs
      · exact ht
      · rw [pres_flat, List.mem_flatMap] at hs
        obtain ⟨w, hw, hs⟩ := hs
        have := szs_mem hw
        rw [sz_eq] at hz
        refine ih w s (by omega) (hk t List.mem_cons_self w hw) (fun x hx => hk x (List.mem_cons_of_mem _ ?_)) hs
        rw [pres_flat, List.mem_flatMap]; exact ⟨w, hw, hx⟩
  intro s hs
  have hs' := hs
  rw [pres_flat, List.mem_flatMap] at hs
  obtain ⟨t, ht, hs⟩ := hs
  refine h1 t.sz t s (Nat.le_refl _) (h t ht) (fun x hx => hk x ?_) hs
  rw [pres_flat, List.mem_flatMap]; exact ⟨t, ht, hx⟩
theorem posL_all {l : List Tr} (h : ∀ s ∈ l, 0 < s.k) : (posL l).length = l.length := by
  unfold posL
  rw [List.filter_eq_self.mpr, List.length_map]
  intro k hk
  obtain ⟨s, hs, rfl⟩ := List.mem_map.mp hk
  exact decide_eq_true (h s hs)
/-- how many nodes there are at most -/
theorem Fst.sz {mh : MH} {rows : List Rw} {ts : List Tr} (f : Fst mh rows ts) (ok : RowsOk rows) : Tr.szs ts ≤ 18 := by
  have h1 : Tr.szs ts ≤ 2 * (posL (Tr.pres ts)).length := by
    have hr := f.root
    have hk := f.kid
    clear f
    induction ts with
    | nil => simp [Tr.szs]
    | cons t ts ih =>
      have ih' := ih (fun w hw => hr w (List.mem_cons_of_mem _ hw)) (fun s hs => hk s (by rw [Tr.pres]; exact List.mem_append_right _ hs))
      rw [Tr.szs, Tr.pres, posL_append, List.length_append]
      have hkt : ∀ s ∈ t.pre, ∀ c ∈ s.ts, 0 < c.k := fun s hs => hk s (by rw [Tr.pres]; exact List.mem_append_left _ hs)
      have hkp : ∀ s ∈ Tr.pres t.ts, 0 < s.k := pres_pos (hkt t (by rw [pre_eq]; exact List.mem_cons_self)) (fun s hs => hkt s (by rw [pre_eq]; exact List.mem_cons_of_mem _ hs))
      have h2 := posL_all hkp
      rw [pres_len] at h2
      have h3 : (posL t.pre).length = (if 0 < t.k then 1 else 0) + (posL (Tr.pres t.ts)).length := by
        rw [pre_eq]
        unfold posL
        rw [List.map_cons, List.filter_cons]
        by_cases hp : 0 < t.k
        · rw [if_pos (decide_eq_true hp), if_pos hp, List.length_cons]; omega
        · rw [if_neg (by simpa using hp), if_neg hp]; omega
      rw [sz_eq]
      rcases hr t List.mem_cons_self with hp | ⟨hp, hne⟩
      · rw [if_pos hp] at h3; omega
      · have := len_szs t.ts
        have : 0 < t.ts.length := List.length_pos_iff.mpr hne
        rw [if_neg (by omega)] at h3; omega
  have h2 : (posL (Tr.pres ts)).length ≤ rows.length := by
    have h3 : ((posL (Tr.pres ts)).map fun k => k.toNat - 1).Nodup := by
      rw [List.Nodup, List.pairwise_map]
      refine List.Pairwise.imp_of_mem (fun {a b} ha hb hab => ?_) f.nd
      have pa : 0 < a := by have := (List.mem_filter.mp ha).2; simpa using this
      have pb : 0 < b := by have := (List.mem_filter.mp hb).2; simpa using this
      omega
    have := nodup_len rows.length _ h3 (fun x hx => by
      obtain ⟨k, hk, rfl⟩ := List.mem_map.mp hx
      obtain ⟨hk1, hk2⟩ := List.mem_filter.mp hk
      obtain ⟨s, hs, rfl⟩ := List.mem_map.mp hk1
      obtain ⟨r, hr, e⟩ := f.rng s hs (by simpa using hk2)
      have := ok.mem hr
      omega)
    rw [List.length_map] at this; exact this
  have := ok.len
  omega
theorem Fst.good {mh : MH} {rows : List Rw} {ts : List Tr} (f : Fst mh rows ts) (ok : RowsOk rows) : Good ts := ⟨by have := f.sz ok; omega, f.kid, f.nd⟩

noncomputable def ik (s : Tr) : Nat × Int := (s.i, s.k)
/-- a thread whose kids were put in another order -/
theorem perm_tree {m : MH} : ∀ (N : Nat) (t : Tr), t.sz ≤ N → (∀ s ∈ t.pre, ∃ j' vs', NK m s.i j' s.k vs' ∧ vs'.Perm (s.ts.map Tr.v)) →
    ∃ t' : Tr, ik t' = ik t ∧ TreeAt m t' ∧ (t'.pre.map ik).Perm (t.pre.map ik) ∧ (t'.ts.map ik).Perm (t.ts.map ik) ∧ (∀ s' ∈ t'.pre, ∃ s ∈ t.pre, ik s' = ik s ∧ (s'.ts.map ik).Perm (s.ts.map ik)) := by
  intro N
  induction N with
  | zero => intro t h; have := sz_pos t; omega
  | succ N ih =>
    intro t hz h
    have hself := h t (by rw [pre_eq]; exact List.mem_cons_self)
    obtain ⟨j', vs', hnk, hperm⟩ := hself
    -- the kids, each
    have hkids : ∃ f : List Tr, f.map ik = t.ts.map ik ∧ TreesAt m f ∧ ((Tr.pres f).map ik).Perm ((Tr.pres t.ts).map ik) ∧ (∀ s' ∈ Tr.pres f, ∃ s ∈ Tr.pres t.ts, ik s' = ik s ∧ (s'.ts.map ik).Perm (s.ts.map ik)) := by
      have hz' : Tr.szs t.ts ≤ N := by rw [sz_eq] at hz; omega
      have h' : ∀ s ∈ Tr.pres t.ts, ∃ j' vs', NK m s.i j' s.k vs' ∧ vs'.Perm (s.ts.map Tr.v) := fun s hs => h s (by rw [pre_eq]; exact List.mem_cons_of_mem _ hs)
      generalize t.ts = l at hz' h'
      clear hperm hnk hz h
      induction l with
      | nil => exact ⟨[], rfl, trivial, .refl _, fun s' hs' => by rw [Tr.pres] at hs'; exact nomatch hs'⟩
      | cons c l ih2 =>
        rw [Tr.szs] at hz'
        rw [Tr.pres] at h'
        obtain ⟨c', a1, a2, a3, _, a5⟩ := ih c (by omega) (fun s hs => h' s (List.mem_append_left _ hs))
        obtain ⟨f, b1, b2, b3, b4⟩ := ih2 (by omega) (fun s hs => h' s (List.mem_append_right _ hs))
        refine ⟨c' :: f, by rw [List.map_cons, List.map_cons, a1, b1], ⟨a2, b2⟩, ?_, ?_⟩
        · rw [Tr.pres, Tr.pres, List.map_append, List.map_append]; exact a3.append b3
        · intro s' hs'
          rw [Tr.pres] at hs' ⊢
          rcases List.mem_append.mp hs' with hs' | hs'
          · obtain ⟨s, hs, x⟩ := a5 s' hs'; exact ⟨s, List.mem_append_left _ hs, x⟩
          · obtain ⟨s, hs, x⟩ := b4 s' hs'; exact ⟨s, List.mem_append_right _ hs, x⟩
    obtain ⟨f, b1, b2, b3, b4⟩ := hkids
    have hv : t.ts.map Tr.v = f.map Tr.v := by
      have e : ∀ l : List Tr, l.map Tr.v = (l.map ik).map (fun p => MV.obj 36 p.1) := fun l => by rw [List.map_map]; rfl
      rw [e, e, b1]
    obtain ⟨L, l1, l2⟩ := perm_lift hperm f hv
    have hpp : (Tr.pres L).Perm (Tr.pres f) := by rw [pres_flat, pres_flat]; exact l1.flatMap_right _
    refine ⟨.mk t.i j' t.k L, rfl, ?_, ?_, ?_, ?_⟩
    · rw [TreeAt]
      refine ⟨by rw [l2]; exact hnk, ?_⟩
      rw [treesAt_iff] at b2 ⊢
      intro w hw
      exact b2 w (l1.mem_iff.mp hw)
    · rw [Tr.pre, pre_eq, List.map_cons, List.map_cons]
      exact ((hpp.map ik).trans b3).cons _
    · show (L.map ik).Perm _
      rw [← b1]; exact l1.map ik
    · intro s' hs'
      rw [Tr.pre] at hs'
      rcases List.mem_cons.mp hs' with rfl | hs'
      · refine ⟨t, by rw [pre_eq]; exact List.mem_cons_self, rfl, ?_⟩
        show (L.map ik).Perm _
        rw [← b1]; exact l1.map ik
      · obtain ⟨s, hs, x⟩ := b4 s' (hpp.mem_iff.mp hs')
        exact ⟨s, by rw [pre_eq]; exact List.mem_cons_of_mem _ hs, x⟩
theorem perm_trees {m : MH} : ∀ (ts : List Tr), (∀ s ∈ Tr.pres ts, ∃ j' vs', NK m s.i j' s.k vs' ∧ vs'.Perm (s.ts.map Tr.v)) →
    ∃ f : List Tr, f.map ik = ts.map ik ∧ TreesAt m f ∧ ((Tr.pres f).map ik).Perm ((Tr.pres ts).map ik) ∧ (∀ s' ∈ Tr.pres f, ∃ s ∈ Tr.pres ts, ik s' = ik s ∧ (s'.ts.map ik).Perm (s.ts.map ik)) ∧ (∀ t' ∈ f, ∃ t ∈ ts, ik t' = ik t ∧ (t'.ts.map ik).Perm (t.ts.map ik))
  | [], _ => ⟨[], rfl, trivial, .refl _, fun s' hs' => by rw [Tr.pres] at hs'; exact (nomatch hs'), fun _ h => nomatch h⟩
  | c :: l, h' => by
    rw [Tr.pres] at h'
    obtain ⟨c', a1, a2, a3, a4, a5⟩ := perm_tree c.sz c (Nat.le_refl _) (fun s hs => h' s (List.mem_append_left _ hs))
    obtain ⟨f, b1, b2, b3, b4, b5⟩ := perm_trees l (fun s hs => h' s (List.mem_append_right _ hs))
    refine ⟨c' :: f, by rw [List.map_cons, List.map_cons, a1, b1], ⟨a2, b2⟩, ?_, ?_, ?_⟩
    · rw [Tr.pres, Tr.pres, List.map_append, List.map_append]; exact a3.append b3
    · intro s' hs'
      rw [Tr.pres] at hs' ⊢
      rcases List.mem_append.mp hs' with hs' | hs'
      · obtain ⟨s, hs, x⟩ := a5 s' hs'; exact ⟨s, List.mem_append_left _ hs, x⟩
      · obtain ⟨s, hs, x⟩ := b4 s' hs'; exact ⟨s, List.mem_append_right _ hs, x⟩
    · intro t' ht'
      rcases List.mem_cons.mp ht' with rfl | ht'
      · exact ⟨c, List.mem_cons_self, a1, a4⟩
      · obtain ⟨t, ht, x⟩ := b5 t' ht'; exact ⟨t, List.mem_cons_of_mem _ ht, x⟩
/-- the forest after kids, and threads, were put in order -/
theorem Fst.permuted {mh m : MH} {rows : List Rw} {ts : List Tr} (f : Fst mh rows ts) (h : ∀ s ∈ Tr.pres ts, ∃ j' vs', NK m s.i j' s.k vs' ∧ vs'.Perm (s.ts.map Tr.v)) :
    ∃ ts', ts'.map Tr.v = ts.map Tr.v ∧ Fst m rows ts' := by
  obtain ⟨F, b1, b2, b3, b4, b5⟩ := perm_trees ts h
  have hv : F.map Tr.v = ts.map Tr.v := by
    have e : ∀ l : List Tr, l.map Tr.v = (l.map ik).map (fun p => MV.obj 36 p.1) := fun l => by rw [List.map_map]; rfl
    rw [e, e, b1]
  have hkm : ∀ {a b : List Tr}, (a.map ik).Perm (b.map ik) → ∀ c ∈ a, ∃ d ∈ b, ik c = ik d := fun {a b} hp c hc => by
    obtain ⟨d, hd, e⟩ := List.mem_map.mp (hp.mem_iff.mp (List.mem_map.mpr ⟨c, hc, rfl⟩))
    exact ⟨d, hd, e.symm⟩
  refine ⟨F, hv, b2, ?_, ?_, ?_, ?_, ?_⟩
  · have := (b3.map (·.1)).nodup_iff.mpr (by rw [List.map_map]; exact f.ids)
    rw [List.map_map] at this; exact this
  · intro s' hs' c hc
    obtain ⟨s, hs, e, hp⟩ := b4 s' hs'
    obtain ⟨d, hd, e2⟩ := hkm hp c hc
    have := f.kid s hs d hd
    have e3 : c.k = d.k := (Prod.mk.inj e2).2
    omega
  · intro t' ht'
    obtain ⟨t, ht, e, hp⟩ := b5 t' ht'
    have e3 : t'.k = t.k := (Prod.mk.inj e).2
    rw [e3]
    refine (f.root t ht).imp id fun h => ⟨h.1, fun hnil => h.2 ?_⟩
    rw [hnil, List.map_nil] at hp
    have := hp.symm.eq_nil
    simpa using this
  · have hp2 := b3.map (·.2)
    rw [List.map_map, List.map_map] at hp2
    exact (hp2.filter _).nodup_iff.mpr f.nd
  · intro s' hs' hk
    obtain ⟨s, hs, e, _⟩ := b4 s' hs'
    have e3 : s'.k = s.k := (Prod.mk.inj e).2
    rw [e3] at hk ⊢
    exact f.rng s hs hk
theorem Fst.perm {m : MH} {rows : List Rw} {ts ts' : List Tr} (f : Fst m rows ts) (h : ts'.Perm ts) : Fst m rows ts' := by
  have hp : (Tr.pres ts').Perm (Tr.pres ts) := by rw [pres_flat, pres_flat]; exact h.flatMap_right _
  refine ⟨?_, ((hp.map Tr.i).nodup_iff).mpr f.ids, fun s hs => f.kid s (hp.mem_iff.mp hs), fun t ht => f.root t (h.mem_iff.mp ht), (((hp.map Tr.k).filter _).nodup_iff).mpr f.nd, fun s hs => f.rng s (hp.mem_iff.mp hs)⟩
  have := f.at_
  rw [treesAt_iff] at this ⊢
  exact fun t ht => this t (h.mem_iff.mp ht)
end Mine

namespace Mine
noncomputable def dayOf (rows : List Rw) (x : Int) : Int := ((rows.find? fun r => decide ((r.num : Int) = x)).map Rw.day).getD 0
theorem dayOf_mem {rows : List Rw} (ok : RowsOk rows) {r : Rw} (hr : r ∈ rows) : dayOf rows r.num = r.day := by
  unfold dayOf
  cases hf : rows.find? fun q => decide ((q.num : Int) = r.num) with
  | none => have := List.find?_eq_none.mp hf r hr; simp at this
  | some q =>
    have h1 := List.mem_of_find?_eq_some hf
    have h2 := List.find?_some hf
    have h3 : (q.num : Int) = r.num := by simpa using h2
    have : q = r := ok.inj h1 hr (by omega)
    rw [this]; rfl
theorem map_inj_of_nodup {α β : Type} {f : α → β} : ∀ {l : List α}, (l.map f).Nodup → ∀ {a b : α}, a ∈ l → b ∈ l → f a = f b → a = b
  | x :: l, h, a, b, ha, hb, e => by
    rw [List.map_cons, List.nodup_cons] at h
    rcases List.mem_cons.mp ha with ha | ha
    · rcases List.mem_cons.mp hb with hb | hb
      · rw [ha, hb]
      · exact absurd (List.mem_map.mpr ⟨b, hb, by rw [← e, ha]⟩) h.1
    · rcases List.mem_cons.mp hb with hb | hb
      · exact absurd (List.mem_map.mpr ⟨a, ha, by rw [e, hb]⟩) h.1
      · exact map_inj_of_nodup h.2 ha hb e
noncomputable def kfT (rows : List Rw) (kn : Tr → Int) (L : List Tr) (v : MV) : Key :=
  match v with | .obj _ i => (match L.find? (fun t => decide (t.i = i)) with | some t => (dayOf rows (kn t), kn t) | none => (0, 0)) | _ => (0, 0)
theorem kfT_v {rows : List Rw} {kn : Tr → Int} {L : List Tr} (hi : (L.map Tr.i).Nodup) {t : Tr} (ht : t ∈ L) : kfT rows kn L t.v = (dayOf rows (kn t), kn t) := by
  unfold kfT Tr.v
  dsimp only
  cases hf : L.find? fun q => decide (q.i = t.i) with
  | none => have := List.find?_eq_none.mp hf t ht; simp at this
  | some q =>
    have h1 := List.mem_of_find?_eq_some hf
    have h2 := List.find?_some hf
    have h3 : q.i = t.i := by simpa using h2
    rw [map_inj_of_nodup hi h1 ht h3]
section
variable {D : WD} {n : Nat} {mh : MH}
theorem CW_in_orderT {l tb : Nat} {L : List Tr} {rows : List Rw} {Q : MV → MH → Prop} (ok : RowsOk rows) (kn : Tr → Int) (hl : mh[l]? = some (.lst (L.map Tr.v))) (hz : L.length ≤ 60) (hi : (L.map Tr.i).Nodup) (hn : (L.map kn).Nodup)
    (hk : ∀ t ∈ L, (∃ r ∈ rows, (r.num : Int) = kn t) ∧ KeyAt mh t.v (kn t)) (ht : Tab mh tb rows)
    (q : ∀ L' : List Tr, L'.Perm L → L'.Pairwise (fun a b => klt (dayOf rows (kn a), kn a) (dayOf rows (kn b), kn b) = true) → Q (.ref mh.length) (mh ++ [.lst (L'.map Tr.v)])) : CW D (n + 3) (.ref 158) [.ref l, .ref tb] Q mh := by
  refine CW_in_order ok (kfT rows kn L) hl (by rw [List.length_map]; exact hz) ?_ ?_ ht ?_
  · have : ((L.map Tr.v).map (kfT rows kn L)).map (·.2) = L.map kn := by
      rw [List.map_map, List.map_map]
      apply List.map_congr_left
      intro t ht
      show (kfT rows kn L t.v).2 = _
      rw [kfT_v hi ht]
    rw [this]; exact hn
  · intro v hv
    obtain ⟨t, ht, rfl⟩ := List.mem_map.mp hv
    obtain ⟨⟨r, hr, e⟩, hka⟩ := hk t ht
    refine ⟨r, hr, ?_, by rw [e]; exact hka⟩
    rw [kfT_v hi ht, ← e, dayOf_mem ok hr]
  · rintro out ⟨hp, hs⟩
    obtain ⟨L', h1, h2⟩ := perm_lift hp L rfl
    rw [← h2]
    refine q L' h1 ?_
    rw [← h2, List.pairwise_map] at hs
    refine hs.imp_of_mem fun {a b} ha hb hab => ?_
    rw [kfT_v hi (h1.mem_iff.mp ha), kfT_v hi (h1.mem_iff.mp hb)] at hab
    exact hab
end
noncomputable def MO.isFld : MO → Bool | .fld _ => true | _ => false
/-- what is no object with attributes was left alone -/
noncomputable def Keep (a b : MH) : Prop := ∀ (i : Nat) (o : MO), a[i]? = some o → o.isFld = false → b[i]? = some o
theorem Keep.refl (a : MH) : Keep a a := fun _ _ h _ => h
theorem Keep.trans {a b c : MH} (x : Keep a b) (y : Keep b c) : Keep a c := fun i o h e => y i o (x i o h e) e
theorem Ext.keep {a b : MH} (x : Ext a b) : Keep a b := fun i o h _ => x i o h
theorem Keep.snoc {a b : MH} (x : Keep a b) (o : MO) : Keep a (b ++ [o]) := fun i p h e => get_ext (x i p h e)
theorem Keep.setFld {a b : MH} (x : Keep a b) {i : Nat} {o p : MO} (h : b[i]? = some o) (e : o.isFld = true) : Keep a (b.set i p) := fun j w hw hn => by
  have h2 := x j w hw hn
  by_cases hij : i = j
  · subst hij; rw [h] at h2; cases h2; rw [e] at hn; cases hn
  · exact get_set_ne hij h2
theorem Keep.tab {a b : MH} {tb : Nat} {rows : List Rw} (x : Keep a b) (h : Tab a tb rows) : Tab b tb rows := by
  obtain ⟨ep, h⟩ := h; exact ⟨ep, x _ _ h rfl⟩

theorem pre_self (t : Tr) : t ∈ t.pre := by rw [pre_eq]; exact List.mem_cons_self
theorem sub_pres : ∀ ts : List Tr, ts.Sublist (Tr.pres ts)
  | [] => by rw [Tr.pres]; exact List.Sublist.refl _
  | t :: ts => by
    rw [Tr.pres, pre_eq]
    exact ((sub_pres ts).trans (List.sublist_append_right _ _)).cons_cons t
theorem kid_sub_pre : ∀ (N : Nat) (t : Tr), t.sz ≤ N → ∀ s ∈ t.pre, s.pre.Sublist t.pre := by
  intro N
  induction N with
  | zero => intro t h; have := sz_pos t; omega
  | succ N ih =>
    intro t hz s hs
    rw [pre_eq] at hs
    rcases List.mem_cons.mp hs with rfl | hs
    · exact List.Sublist.refl _
    · rw [pre_eq t]
      refine List.Sublist.cons _ ?_
      rw [sz_eq] at hz
      have : ∀ l : List Tr, Tr.szs l ≤ N → s ∈ Tr.pres l → s.pre.Sublist (Tr.pres l) := by
        intro l
        induction l with
        | nil => intro _ h; rw [Tr.pres] at h; exact nomatch h
        | cons c l ih2 =>
          intro hz h
          rw [Tr.szs] at hz
          rw [Tr.pres] at h ⊢
          rcases List.mem_append.mp h with h | h
          · exact (ih c (by omega) s h).trans (List.sublist_append_left _ _)
          · exact (ih2 (by omega) h).trans (List.sublist_append_right _ _)
      exact this _ (by omega) hs
theorem pre_sub_pres : ∀ {ts : List Tr} {s : Tr}, s ∈ Tr.pres ts → s.pre.Sublist (Tr.pres ts)
  | [], s, h => by rw [Tr.pres] at h; exact nomatch h
  | t :: ts, s, h => by
    rw [Tr.pres] at h ⊢
    rcases List.mem_append.mp h with h | h
    · exact (kid_sub_pre _ t (Nat.le_refl _) s h).trans (List.sublist_append_left _ _)
    · exact (pre_sub_pres h).trans (List.sublist_append_right _ _)
theorem kids_sub {ts : List Tr} {s : Tr} (h : s ∈ Tr.pres ts) : s.ts.Sublist (Tr.pres ts) := by
  refine List.Sublist.trans ?_ (pre_sub_pres h)
  rw [pre_eq]
  exact (sub_pres s.ts).cons _
theorem pos_nodup {l m : List Tr} (h : l.Sublist m) (hp : ∀ s ∈ l, 0 < s.k) (hn : ((m.map Tr.k).filter (fun k => decide (0 < k))).Nodup) : (l.map Tr.k).Nodup := by
  have : l.map Tr.k = (l.map Tr.k).filter (fun k => decide (0 < k)) := by
    rw [List.filter_eq_self.mpr]
    intro k hk
    obtain ⟨s, hs, rfl⟩ := List.mem_map.mp hk
    exact decide_eq_true (hp s hs)
  rw [this]
  exact hn.sublist ((h.map Tr.k).filter _)
/-- the node that says where a thread belongs -/
noncomputable def Tr.hd (t : Tr) : Tr := if 0 < t.k then t else t.ts.headD t
theorem Fst.hd_pos {mh : MH} {rows : List Rw} {ts : List Tr} (f : Fst mh rows ts) {t : Tr} (ht : t ∈ ts) : 0 < t.hd.k ∧ t.hd ∈ t.pre := by
  unfold Tr.hd
  rcases f.root t ht with h | ⟨h, hne⟩
  · rw [if_pos h]; exact ⟨h, pre_self t⟩
  · rw [if_neg (by omega)]
    have htp : t ∈ Tr.pres ts := (sub_pres ts).subset ht
    cases hts : t.ts with
    | nil => exact absurd hts hne
    | cons c cs =>
      refine ⟨f.kid t htp c (by rw [hts]; exact List.mem_cons_self), ?_⟩
      rw [pre_eq, hts, Tr.pres]
      exact List.mem_cons_of_mem _ (List.mem_append_left _ (pre_self c))
theorem hd_sub : ∀ {ts : List Tr}, (∀ t ∈ ts, t.hd ∈ t.pre) → (ts.map Tr.hd).Sublist (Tr.pres ts)
  | [], _ => by rw [Tr.pres]; exact List.Sublist.refl _
  | t :: ts, h => by
    rw [Tr.pres, List.map_cons]
    have h1 : [t.hd].Sublist t.pre := List.singleton_sublist.mpr (h t List.mem_cons_self)
    exact List.Sublist.append h1 (hd_sub fun s hs => h s (List.mem_cons_of_mem _ hs))
theorem Fst.keys {mh : MH} {rows : List Rw} {ts : List Tr} (f : Fst mh rows ts) : (ts.map fun t => t.hd.k).Nodup := by
  have := pos_nodup (hd_sub fun t ht => (f.hd_pos ht).2) (fun s hs => by obtain ⟨t, ht, rfl⟩ := List.mem_map.mp hs; exact (f.hd_pos ht).1) f.nd
  rw [List.map_map] at this; exact this
theorem Fst.keyAt {mh : MH} {rows : List Rw} {ts : List Tr} (f : Fst mh rows ts) (ok : RowsOk rows) {t : Tr} (ht : t ∈ ts) : (∃ r ∈ rows, (r.num : Int) = t.hd.k) ∧ KeyAt mh t.v t.hd.k := by
  have hp := f.hd_pos ht
  have htp : t ∈ Tr.pres ts := (sub_pres ts).subset ht
  have hA := f.at_.mem t ht
  have hsz := f.sz ok
  have h1 := szs_mem ht
  have h2 := len_szs t.ts
  rw [sz_eq] at h1
  refine ⟨f.rng _ ((pre_sub_pres htp).subset hp.2) hp.1, t.i, t.j, t.k, _, rfl, hA.nk, by rw [List.length_map]; omega, ?_⟩
  unfold Tr.hd
  by_cases hk : 0 < t.k
  · rw [if_pos hk]; exact .inl ⟨hk, rfl⟩
  · rw [if_neg hk]
    rcases f.root t ht with h | ⟨h, hne⟩
    · exact absurd h hk
    refine .inr ⟨by omega, ?_⟩
    cases hts : t.ts with
    | nil => exact absurd hts hne
    | cons c cs =>
      exact ⟨c.v, rfl, attr_number (hA.kids.mem c (by rw [hts]; exact List.mem_cons_self)).nk⟩
theorem Fst.rootIds {mh : MH} {rows : List Rw} {ts : List Tr} (f : Fst mh rows ts) : (ts.map Tr.i).Nodup := f.ids.sublist ((sub_pres ts).map _)
section
variable {D : WD} {n : Nat} {mh : MH}
theorem CW_order_all {l tb : Nat} {ts : List Tr} {rows : List Rw} {Q : MV → MH → Prop} (ok : RowsOk rows) (f : Fst mh rows ts) (hl : mh[l]? = some (.lst (ts.map Tr.v))) (ht : Tab mh tb rows)
    (q : ∀ m' r ts', m'[r]? = some (.lst (ts'.map Tr.v)) → Fst m' rows ts' → Keep mh m' → Q (.ref r) m') : CW D (n + 12) (.ref 165) [.ref l, .ref tb] Q mh := by
  refine CW_of_KW (KW_defA ["nodes", "table"] rfl ?_)
  have hsz := f.sz ok
  refine XsW_cons (XW_for (FW_val ?_))
  refine EW_callK (a := 47) ?_
  walk_at "MR"
  refine CW_all_nodes (n := n) hl f.at_ (by omega) fun m1 r1 hx1 hr1 hm1 => ?_
  refine ⟨_, _, .lst r1 _, hm1, ?_⟩
  refine ⟨fun i σ' m => Has σ' [("nodes", .ref l), ("table", .ref tb)] ∧ Keep mh m ∧ m[r1]? = some (.lst ((Tr.pres ts).map Tr.v)) ∧ ∀ s ∈ Tr.pres ts, ∃ j' vs', NK m s.i j' s.k vs' ∧ vs'.Perm (s.ts.map Tr.v),
    ⟨by walk_at "MH", hx1.keep, hm1, fun s hs => ⟨_, _, (((f.at_.ext hx1).pres s hs).nk), .refl _⟩⟩, fun _ _ _ h => h.2.2.1, ?_, ?_⟩
  · rintro i v σ' m hv ⟨hσ, hkp, hmr, hI⟩
    rw [List.getElem?_map, Option.map_eq_some_iff] at hv
    obtain ⟨s, hv, rfl⟩ := hv
    have hs := List.mem_of_getElem? hv
    refine ⟨_, .name _ _ _ _ (.inl rfl), XsW_has hσ.put ?_⟩
    obtain ⟨j', vs', hnk, hperm⟩ := hI s hs
    obtain ⟨L, hL, rfl⟩ := perm_lift hperm s.ts rfl
    have hsub := kids_sub hs
    have hLs : ∀ c ∈ L, c ∈ Tr.pres ts ∧ 0 < c.k := fun c hc => ⟨hsub.subset (hL.mem_iff.mp hc), f.kid s hs c (hL.mem_iff.mp hc)⟩
    have hLl : L.length ≤ 18 := by
      have := hsub.length_le; rw [pres_len] at this; have := hL.length_eq; omega
    refine XsW_cons (XW_setat ?_)
    refine EW_callK (a := 158) ?_
    walk_at "MR"
    refine ⟨.ref j', attr_kids hnk, ?_⟩
    walk_at "MR"
    refine CW_in_orderT (n := n + 8) ok Tr.k hnk.2 (by omega) ?_ ?_ ?_ (hkp.tab ht) fun L' hL' _ => ?_
    · exact ((hL.map Tr.i).nodup_iff).mpr (f.ids.sublist (hsub.map _))
    · exact ((hL.map Tr.k).nodup_iff).mpr (pos_nodup hsub (fun c hc => f.kid s hs c hc) f.nd)
    · intro c hc
      obtain ⟨hcp, hcz⟩ := hLs c hc
      obtain ⟨jc, vc, hcn, hcpm⟩ := hI c hcp
      refine ⟨f.rng c hcp hcz, c.i, jc, c.k, vc, rfl, hcn, ?_, .inl ⟨hcz, rfl⟩⟩
      have h1 := (kids_sub hcp).length_le
      rw [pres_len] at h1
      have h2 := hcpm.length_eq
      rw [List.length_map] at h2
      omega
    walk_at "MR"
    have hgn := get_ext (m := [MO.lst (L'.map Tr.v)]) hnk.1
    refine ⟨36, s.i, _, rfl, .inl rfl, hgn, by simp, ?_⟩
    refine XsW_nil ⟨by walk_at "MH", (hkp.snoc _).setFld hgn rfl, get_set_ne ?_ (get_ext hmr), ?_⟩
    · intro e; have h1 := hnk.1; rw [e, hmr] at h1; cases h1
    intro w hw
    by_cases hwi : w.i = s.i
    · have : w = s := map_inj_of_nodup f.ids hw hs hwi
      subst this
      refine ⟨m.length, L'.map Tr.v, ⟨get_set_eq (get_lt hgn), get_set_ne ?_ get_snoc⟩, (hL'.map _).trans (hL.map _)⟩
      have := get_lt hnk.1; omega
    · obtain ⟨jw, vw, hwn, hwp⟩ := hI w hw
      refine ⟨jw, vw, ⟨get_set_ne (fun e => hwi e.symm) (get_ext hwn.1), get_set_ne ?_ (get_ext hwn.2)⟩, hwp⟩
      intro e; have h1 := hnk.1; rw [e, hwn.2] at h1; cases h1
  · rintro σ' m ⟨hσ, hkp, hmr, hI⟩
    obtain ⟨ts', hv, f'⟩ := f.permuted hI
    have hsz' := f'.sz ok
    have := len_szs ts'
    refine XsW_has hσ ?_
    walk_at "MR"
    refine EW_callK (a := 158) ?_
    walk_at "MR"
    refine CW_in_orderT (n := n + 8) (L := ts') ok (fun t => t.hd.k) (by rw [hv]; exact hkp _ _ hl rfl) (by omega) f'.rootIds f'.keys (fun t ht => f'.keyAt ok ht) (hkp.tab ht) fun L' hL' _ => ?_
    have f2 := f'.perm hL'
    exact q _ _ L' get_snoc { f2 with at_ := f2.at_.ext (Ext.app _ _) } (hkp.snoc _)
end
end Mine

namespace Mine
noncomputable def baseOf (rows : List Rw) (x : Int) : Str := ((rows.find? fun r => decide ((r.num : Int) = x)).map Rw.base).getD (Str.ofString "")
theorem baseOf_mem {rows : List Rw} (ok : RowsOk rows) {r : Rw} (hr : r ∈ rows) : baseOf rows r.num = r.base := by
  unfold baseOf
  cases hf : rows.find? fun q => decide ((q.num : Int) = r.num) with
  | none => have := List.find?_eq_none.mp hf r hr; simp at this
  | some q =>
    have h1 := List.mem_of_find?_eq_some hf
    have h2 := List.find?_some hf
    have h3 : (q.num : Int) = r.num := by simpa using h2
    have : q = r := ok.inj h1 hr (by omega)
    rw [this]; rfl
noncomputable def bsT (rows : List Rw) (t : Tr) : Str := baseOf rows t.hd.k
/-- a number of a letter, or none -/
noncomputable def Num0 (rows : List Rw) (k : Int) : Prop := k = 0 ∨ (0 < k ∧ ∃ r ∈ rows, (r.num : Int) = k)
theorem Fst.num0 {mh : MH} {rows : List Rw} {ts : List Tr} (f : Fst mh rows ts) {t : Tr} (ht : t ∈ ts) : Num0 rows t.k := by
  rcases f.root t ht with h | h
  · exact .inr ⟨h, f.rng t ((sub_pres ts).subset ht) h⟩
  · exact .inl h.1
section
variable {D : WD} {n : Nat} {mh : MH}
theorem CW_base_under {v : MV} {tb : Nat} {rows : List Rw} {r : Rw} (ok : RowsOk rows) (hr : r ∈ rows) (hk : KeyAt mh v r.num) (ht : Tab mh tb rows) : CW D (n + 1) (.ref 172) [v, .ref tb] (fun w m => w = .str r.base ∧ m = mh) mh := by
  refine CW_of_KW (KW_defA ["node", "table"] rfl ?_)
  obtain ⟨i, j, k, vs, rfl, hnk, hz, hc⟩ := hk
  obtain ⟨ep, ht⟩ := ht
  refine XsW_cons (XW_return (EW_subAt (EW_subAt (EW_local (by rfl) ?_))))
  refine EW.mono (Q := fun v m => v = .int r.num ∧ m = mh) ?_ ?_
  · refine EW_ifexp (IW_cmp (EW_at (EW_local (by rfl) ⟨.int k, attr_number hnk, ?_⟩)))
    walk_at "MR"
    rcases hc with ⟨h1, h2⟩ | ⟨h1, c, h2, h3⟩
    · rw [if_pos (decide_eq_true h1)]
      walk_at "MR"
      exact ⟨.int k, attr_number hnk, by rw [h2], rfl⟩
    · rw [if_neg (by simpa using h1)]
      walk_at "MR"
      refine ⟨_, attr_kids hnk, ?_⟩
      walk_at "MR"
      exact ⟨c, .lst hnk.2 (by decide) (by simpa using h2) hz, _, h3, rfl, rfl⟩
  · rintro v m ⟨rfl, rfl⟩
    refine ⟨r.mv, .dctI ht (dget_row ok hr), ?_⟩
    walk_at "MR"
    exact ⟨.str r.base, .tup (by decide) (by rfl) (by decide), rfl, rfl⟩
theorem CW_base_t {tb : Nat} {rows : List Rw} {ts : List Tr} {t : Tr} {m : MH} {Q : MV → MH → Prop} (ok : RowsOk rows) (f : Fst m rows ts) (h : t ∈ ts) (hx : Ext m mh) (ht : Tab mh tb rows) (q : Q (.str (bsT rows t)) mh) : CW D (n + 1) (.ref 172) [t.v, .ref tb] Q mh := by
  obtain ⟨⟨r, hr, e⟩, hk⟩ := ({ f with at_ := f.at_.ext hx } : Fst mh rows ts).keyAt ok h
  rw [← e] at hk
  refine CW.mono (CW_base_under ok hr hk ht) ?_
  rintro w m' ⟨rfl, rfl⟩
  have : bsT rows t = r.base := by unfold bsT; rw [← e]; exact baseOf_mem ok hr
  rw [← this]; exact q

theorem CW_is_better {tb i j i' j' : Nat} {k k' : Int} {vs vs' : List MV} {rows : List Rw} {Q : MV → MH → Prop} (ok : RowsOk rows) (hn : NK mh i j k vs) (hh : NK mh i' j' k' vs') (rn : Num0 rows k) (rh : Num0 rows k') (ht : Tab mh tb rows)
    (q : ∀ b : Bool, (b = true → k' ≠ 0) → (b = false → k' = 0 ∨ k ≠ 0) → Q (.bool b) mh) : CW D (n + 1) (.ref 179) [.obj 36 i, .obj 36 i', .ref tb] Q mh := by
  refine CW_of_KW (KW_defA ["node", "held", "table"] rfl ?_)
  obtain ⟨ep, ht⟩ := ht
  walk_at "MR"
  refine ⟨_, attr_number hh, ?_⟩
  walk_at "MR"
  rcases rh with rfl | ⟨hp', r', hr', e'⟩
  · rw [if_pos (by decide)]
    walk_at "MR"
    exact q false (fun h => nomatch h) (fun _ => .inl rfl)
  have hne' : k' ≠ 0 := by omega
  rw [if_neg (by simpa using hne')]
  walk_at "MR"
  refine EW_or2 ?_
  walk_at "MR"
  refine ⟨_, attr_number hn, ?_⟩
  walk_at "MR"
  refine BW_bool ?_
  rcases rn with rfl | ⟨hp, r, hr, e⟩
  · rw [if_pos (by decide)]
    exact q true (fun _ => hne') (fun h => nomatch h)
  have hne : k ≠ 0 := by omega
  rw [if_neg (by simpa using hne)]
  refine EW_and2 ?_
  walk_at "MR"
  refine ⟨_, attr_number hh, r'.mv, .dctI ht (by rw [← e']; exact dget_row ok hr'), ?_⟩
  walk_at "MR"
  refine ⟨.bool r'.fl, .tup (by decide) (by rfl) (by decide), ?_⟩
  refine BW_bool ?_
  cases hb : r'.fl with
  | false => rw [if_neg (by decide)]; exact q false (fun h => nomatch h) (fun _ => .inr hne)
  | true =>
    rw [if_pos rfl]
    refine EW_not ?_
    walk_at "MR"
    refine ⟨_, attr_number hn, r.mv, .dctI ht (by rw [← e]; exact dget_row ok hr), ?_⟩
    walk_at "MR"
    refine ⟨.bool r.fl, .tup (by decide) (by rfl) (by decide), ?_⟩
    refine BW_bool ?_
    exact q _ (fun _ => hne') (fun _ => .inr hne)

/-- where threads with the same base subject are gathered, as far as seen -/
noncomputable def Places (rows : List Rw) (ts : List Tr) (i : Nat) (kvs : List (Str × MV)) : Prop :=
  (∀ (p : Nat) (t : Tr), p < i → ts[p]? = some t → bsT rows t ≠ Str.ofString "" → (dget kvs (bsT rows t)).isSome) ∧
  (∀ (b : Str) (v : MV), dget kvs b = some v → ∃ (p0 : Nat) (t0 : Tr), v = .int p0 ∧ p0 < i ∧ ts[p0]? = some t0 ∧ bsT rows t0 = b ∧ b ≠ Str.ofString "" ∧
    (t0.k = 0 ∨ ∀ (p : Nat) (t : Tr), p < i → ts[p]? = some t → bsT rows t = b → t.k ≠ 0)) ∧ kvs.length ≤ i

theorem CW_subject_places {l tb : Nat} {ts : List Tr} {rows : List Rw} {Q : MV → MH → Prop} (ok : RowsOk rows) (f : Fst mh rows ts) (hl : mh[l]? = some (.lst (ts.map Tr.v))) (ht : Tab mh tb rows)
    (q : ∀ m' r ep kvs, m'[r]? = some (.dctS ep kvs) → Places rows ts ts.length kvs → Ext mh m' → Q (.ref r) m') : CW D (n + 12) (.ref 186) [.ref l, .ref tb] Q mh := by
  refine CW_of_KW (KW_defA ["nodes", "table"] rfl ?_)
  have hsz := f.sz ok
  have hlen := len_szs ts
  refine XsW_cons (XW_assign (EW_dictS fun ep0 => ?_))
  refine XsW_cons (XW_for (FW_enum ?_))
  walk_at "MR"
  refine ⟨l, _, rfl, get_ext hl, ?_⟩
  refine ⟨fun i σ' m => Has σ' [("nodes", .ref l), ("table", .ref tb), ("found", .ref mh.length)] ∧ Ext mh m ∧ ∃ ep kvs, m[mh.length]? = some (.dctS ep kvs) ∧ Places rows ts i kvs,
    ⟨by walk_at "MH", Ext.app _ _, ep0, [], get_snoc, ⟨fun p t h => absurd h (Nat.not_lt_zero _), fun b v h => by simp [dget] at h, Nat.le_refl _⟩⟩, fun _ _ _ h => h.2.1 _ _ hl, ?_, ?_⟩
  · rintro i v σ' m hv ⟨hσ, hx, ep, kvs, hmd, hP⟩
    rw [List.getElem?_mapIdx, Option.map_eq_some_iff] at hv
    obtain ⟨tv, hv, rfl⟩ := hv
    rw [List.getElem?_map, Option.map_eq_some_iff] at hv
    obtain ⟨t, hv, rfl⟩ := hv
    have htm := List.mem_of_getElem? hv
    have htb : Tab m tb rows := hx.keep.tab ht
    refine ⟨_, .pair _ _ _ _ _ _ _ _ _ (.inl rfl) (.inl rfl), XsW_has (hσ.put.put) ?_⟩
    have hnkt := ((f.at_.ext hx).mem t htm).nk
    have hil : i < ts.length := (List.getElem?_eq_some_iff.mp hv).1
    refine XsW_cons (XW_assign (EW_callK (a := 172) ?_))
    walk_at "MR"
    refine CW_base_t (n := n + 10) ok f htm hx htb ?_
    -- what the step leaves
    have key : ∀ (kvs' : List (Str × MV)) (m' : MH), Ext mh m' → (∃ ep', m'[mh.length]? = some (.dctS ep' kvs')) → Places rows ts (i + 1) kvs' → ∀ σ'', Has σ'' [("nodes", .ref l), ("table", .ref tb), ("found", .ref mh.length)] →
        (Has σ'' [("nodes", .ref l), ("table", .ref tb), ("found", .ref mh.length)] ∧ Ext mh m' ∧ ∃ ep kvs, m'[mh.length]? = some (.dctS ep kvs) ∧ Places rows ts (i + 1) kvs) :=
      fun kvs' m' h1 h2 h3 σ'' h4 => ⟨h4, h1, h2.choose, kvs', h2.choose_spec, h3⟩
    obtain ⟨P1, P2, P3⟩ := hP
    -- not stored
    have keyN : (bsT rows t ≠ Str.ofString "" → ∃ (p0 : Nat) (t0 : Tr), dget kvs (bsT rows t) = some (.int p0) ∧ ts[p0]? = some t0 ∧ (t0.k = 0 ∨ t.k ≠ 0)) → Places rows ts (i + 1) kvs := by
      intro h
      refine ⟨?_, ?_, by omega⟩
      · intro p w hp hw hb
        by_cases hpi : p < i
        · exact P1 p w hpi hw hb
        · have : p = i := by omega
          subst this
          rw [hv] at hw; cases hw
          obtain ⟨p0, t0, h1, _⟩ := h hb
          rw [h1]; rfl
      · intro b v hb
        obtain ⟨p0, t0, e1, e2, e3, e4, e5, e6⟩ := P2 b v hb
        refine ⟨p0, t0, e1, by omega, e3, e4, e5, ?_⟩
        rcases e6 with e6 | e6
        · exact .inl e6
        by_cases htk : bsT rows t = b
        · obtain ⟨p1, t1, f1, f2, f3⟩ := h (by rw [htk]; exact e5)
          rw [htk, hb] at f1
          have e1' := e1; rw [Option.some.inj f1] at e1'
          have e7 : (p1 : Int) = p0 := MV.int.inj e1'
          have : p1 = p0 := by omega
          subst this
          rw [e3] at f2; cases f2
          rcases f3 with f3 | f3
          · exact .inl f3
          · refine .inr fun p w hp hw hwb => ?_
            by_cases hpi : p < i
            · exact e6 p w hpi hw hwb
            · have : p = i := by omega
              subst this
              rw [hv] at hw; cases hw
              exact f3
        · refine .inr fun p w hp hw hwb => ?_
          by_cases hpi : p < i
          · exact e6 p w hpi hw hwb
          · have : p = i := by omega
            subst this
            rw [hv] at hw; cases hw
            exact absurd hwb htk
    -- stored
    have keyS : bsT rows t ≠ Str.ofString "" → (t.k = 0 ∨ ∀ (p : Nat) (w : Tr), p < i → ts[p]? = some w → bsT rows w = bsT rows t → w.k ≠ 0) → Places rows ts (i + 1) (dput kvs (bsT rows t) (.int i)) := by
      intro hb hall
      refine ⟨?_, ?_, ?_⟩
      · intro p w hp hw hb2
        rw [dget_put]
        by_cases he : bsT rows w = bsT rows t
        · rw [if_pos he]; rfl
        · rw [if_neg he]
          by_cases hpi : p < i
          · exact P1 p w hpi hw hb2
          · have : p = i := by omega
            subst this
            rw [hv] at hw; cases hw
            exact absurd rfl he
      · intro b v hbv
        rw [dget_put] at hbv
        by_cases he : b = bsT rows t
        · rw [if_pos he] at hbv
          subst he
          refine ⟨i, t, (Option.some.inj hbv).symm, by omega, hv, rfl, hb, ?_⟩
          rcases hall with h0 | hall
          · exact .inl h0
          by_cases h0 : t.k = 0
          · exact .inl h0
          refine .inr fun p w hp hw hwb => ?_
          by_cases hpi : p < i
          · exact hall p w hpi hw hwb
          · have : p = i := by omega
            subst this
            rw [hv] at hw; cases hw
            exact h0
        · rw [if_neg he] at hbv
          obtain ⟨p0, t0, e1, e2, e3, e4, e5, e6⟩ := P2 b v hbv
          refine ⟨p0, t0, e1, by omega, e3, e4, e5, e6.imp id fun e6 p w hp hw hwb => ?_⟩
          by_cases hpi : p < i
          · exact e6 p w hpi hw hwb
          · have : p = i := by omega
            subst this
            rw [hv] at hw; cases hw
            exact absurd hwb.symm he
      · have := congrArg List.length (dput_keys kvs (bsT rows t) (.int i))
        rw [List.length_map] at this
        split at this <;> simp at this <;> omega
    walk_at "MR"
    by_cases hb : bsT rows t = Str.ofString ""
    · rw [if_neg (by simp [hb]), if_neg (by decide)]
      exact XsW_nil (XsW_nil (key kvs m hx ⟨ep, hmd⟩ (keyN fun h => absurd hb h) _ (by walk_at "MH")))
    rw [if_pos (by simp [hb])]
    refine AW_and (IW_boolop (AW_or (IW_cmp ?_)))
    walk_at "MR"
    refine OW_notIn_S hmd ?_
    have store : ∀ σ'' : Locals, Has σ'' [("nodes", .ref l), ("table", .ref tb), ("found", .ref mh.length), ("place", .int i), ("base", .str (bsT rows t))] → True := fun _ _ => trivial
    cases hg : dget kvs (bsT rows t) with
    | none =>
      rw [if_pos (by rfl), if_pos rfl]
      refine AW_and_nil ?_
      rw [if_pos rfl]
      walk_at "MR"
      refine .dctS hmd (by omega) fun ep' => XsW_nil (XsW_nil (key _ _ (hx.set (Nat.le_refl _)) ⟨ep', get_set_eq (get_lt hmd)⟩ (keyS hb (.inr fun p w hp hw hwb => ?_)) _ (by walk_at "MH")))
      have := P1 p w hp hw (by rw [hwb]; exact hb)
      rw [hwb, hg] at this; cases this
    | some v0 =>
      obtain ⟨p0, t0, rfl, e2, e3, e4, e5, e6⟩ := P2 _ _ hg
      rw [if_neg (by simp)]
      refine AW_or (IW_val ?_)
      refine EW_callK (a := 179) ?_
      walk_at "MR"
      have ht0 := List.mem_of_getElem? e3
      refine ⟨.int p0, .dctS hmd hg, t0.v, .lst (hx _ _ hl) (by omega) (by rw [Int.toNat_natCast, List.getElem?_map, e3]; rfl) (by rw [List.length_map]; omega), ?_⟩
      walk_at "MR"
      have hnk0 := ((f.at_.ext hx).mem t0 ht0).nk
      refine CW_is_better (n := n + 10) ok hnkt hnk0 (f.num0 htm) (f.num0 ht0) htb fun b hb1 hb2 => BW_bool ?_
      cases b with
      | true =>
        rw [if_pos rfl, if_pos rfl]
        refine AW_and_nil ?_
        rw [if_pos rfl]
        walk_at "MR"
        refine .dctS hmd (by omega) fun ep' => XsW_nil (XsW_nil (key _ _ (hx.set (Nat.le_refl _)) ⟨ep', get_set_eq (get_lt hmd)⟩ (keyS hb ?_) _ (by walk_at "MH")))
        rcases e6 with e6 | e6
        · exact absurd e6 (hb1 rfl)
        · exact .inr e6
      | false =>
        rw [if_neg (by decide)]
        refine AW_or_nil ?_
        rw [if_neg (by decide), if_neg (by decide)]
        exact XsW_nil (XsW_nil (key kvs m hx ⟨ep, hmd⟩ (keyN fun _ => ⟨p0, t0, hg, e3, hb2 rfl⟩) _ (by walk_at "MH")))
  · rintro σ' m ⟨hσ, hx, ep, kvs, hmd, hP⟩
    rw [List.length_mapIdx, List.length_map] at hP
    refine XsW_has hσ ?_
    walk_at "MR"
    exact q m _ ep kvs hmd hP hx
end
end Mine

namespace Mine
mutual
theorem treeAt_of_pre {m : MH} : ∀ t : Tr, (∀ s ∈ t.pre, NK m s.i s.j s.k (s.ts.map Tr.v)) → TreeAt m t
  | .mk i j k ts, h => by
    rw [TreeAt]
    rw [Tr.pre] at h
    exact ⟨h _ List.mem_cons_self, treesAt_of_pres ts fun s hs => h s (List.mem_cons_of_mem _ hs)⟩
theorem treesAt_of_pres {m : MH} : ∀ ts : List Tr, (∀ s ∈ Tr.pres ts, NK m s.i s.j s.k (s.ts.map Tr.v)) → TreesAt m ts
  | [], _ => trivial
  | t :: ts, h => by
    rw [TreesAt]
    rw [Tr.pres] at h
    exact ⟨treeAt_of_pre t fun s hs => h s (List.mem_append_left _ hs), treesAt_of_pres ts fun s hs => h s (List.mem_append_right _ hs)⟩
end
theorem TreesAt.nks {m : MH} {ts : List Tr} (h : TreesAt m ts) : ∀ s ∈ Tr.pres ts, NK m s.i s.j s.k (s.ts.map Tr.v) := fun s hs => (h.pres s hs).nk
theorem pres_cons (t : Tr) (ts : List Tr) : Tr.pres (t :: ts) = t :: (Tr.pres t.ts ++ Tr.pres ts) := by rw [Tr.pres, pre_eq, List.cons_append]

/-- what stands when a thread took in another -/
theorem Fst.joinA {m m' : MH} {rows : List Rw} {h nd : Tr} {rest add : List Tr} {j' : Nat} (f : Fst m rows (h :: nd :: rest)) (ha : (add = nd.ts ∧ h.k = 0) ∨ (add = [nd] ∧ 0 < nd.k))
    (hm : NK m' h.i j' h.k ((h.ts ++ add).map Tr.v)) (hx : ∀ (i : Nat) (o : MO), m[i]? = some o → i ≠ h.i → m'[i]? = some o) :
    Fst m' rows (.mk h.i j' h.k (h.ts ++ add) :: rest) ∧ ∀ s ∈ Tr.pres (.mk h.i j' h.k (h.ts ++ add) :: rest), s.j = j' ∨ ∃ s0 ∈ Tr.pres (h :: nd :: rest), s.j = s0.j := by
  have hsub : (Tr.pres add).Sublist nd.pre := by
    rcases ha with ⟨rfl, _⟩ | ⟨rfl, _⟩
    · rw [pre_eq]; exact (List.Sublist.refl _).cons _
    · rw [Tr.pres, Tr.pres, List.append_nil]; exact List.Sublist.refl _
  have hXY : (Tr.pres (h.ts ++ add) ++ Tr.pres rest).Sublist (Tr.pres h.ts ++ Tr.pres (nd :: rest)) := by
    rw [pres_append, List.append_assoc, Tr.pres]
    exact List.Sublist.append (List.Sublist.refl _) (List.Sublist.append hsub (List.Sublist.refl _))
  have eN : Tr.pres (.mk h.i j' h.k (h.ts ++ add) :: rest) = .mk h.i j' h.k (h.ts ++ add) :: (Tr.pres (h.ts ++ add) ++ Tr.pres rest) := pres_cons _ _
  have eO : Tr.pres (h :: nd :: rest) = h :: (Tr.pres h.ts ++ Tr.pres (nd :: rest)) := pres_cons _ _
  have hin : ∀ s ∈ Tr.pres (h.ts ++ add) ++ Tr.pres rest, s ∈ Tr.pres (h :: nd :: rest) := fun s hs => by rw [eO]; exact List.mem_cons_of_mem _ (hXY.subset hs)
  have hhm : h ∈ Tr.pres (h :: nd :: rest) := by rw [eO]; exact List.mem_cons_self
  have hnm : nd ∈ Tr.pres (h :: nd :: rest) := (sub_pres _).subset (List.mem_cons_of_mem _ List.mem_cons_self)
  have hids := f.ids
  rw [eO, List.map_cons] at hids
  have hhi := (List.nodup_cons.mp hids).1
  have hmh := (f.at_.nks h hhm).1
  refine ⟨⟨?_, ?_, ?_, ?_, ?_, ?_⟩, ?_⟩
  · refine treesAt_of_pres _ fun s hs => ?_
    rw [eN] at hs
    rcases List.mem_cons.mp hs with rfl | hs
    · exact hm
    · have h1 := f.at_.nks s (hin s hs)
      refine ⟨hx _ _ h1.1 fun e => hhi (e ▸ List.mem_map.mpr ⟨s, hXY.subset hs, rfl⟩), hx _ _ h1.2 fun e => ?_⟩
      have h2 := h1.2
      rw [e, hmh] at h2; cases h2
  · rw [eN, List.map_cons]
    exact hids.sublist ((hXY.map Tr.i).cons_cons _)
  · intro s hs c hc
    rw [eN] at hs
    rcases List.mem_cons.mp hs with rfl | hs
    · rcases List.mem_append.mp hc with hc | hc
      · exact f.kid h hhm c hc
      · rcases ha with ⟨rfl, _⟩ | ⟨rfl, hp⟩
        · exact f.kid nd hnm c hc
        · rw [List.mem_singleton.mp hc]; exact hp
    · exact f.kid s (hin s hs) c hc
  · intro t ht
    rcases List.mem_cons.mp ht with rfl | ht
    · rcases f.root h List.mem_cons_self with hp | ⟨hp, hne⟩
      · exact .inl hp
      · exact .inr ⟨hp, fun e => hne (List.append_eq_nil_iff.mp e).1⟩
    · exact f.root t (List.mem_cons_of_mem _ (List.mem_cons_of_mem _ ht))
  · rw [eN, List.map_cons]
    have := f.nd
    rw [eO, List.map_cons] at this
    exact this.sublist (((hXY.map Tr.k).cons_cons _).filter _)
  · intro s hs hk
    rw [eN] at hs
    rcases List.mem_cons.mp hs with rfl | hs
    · exact f.rng h hhm hk
    · exact f.rng s (hin s hs) hk
  · intro s hs
    rw [eN] at hs
    rcases List.mem_cons.mp hs with rfl | hs
    · exact .inl rfl
    · exact .inr ⟨s, hin s hs, rfl⟩
theorem Fst.joinB {m m' : MH} {rows : List Rw} {h nd : Tr} {rest : List Tr} {i' j' : Nat} (f : Fst m rows (h :: nd :: rest)) (hh : 0 < h.k) (hn : 0 < nd.k)
    (hm : NK m' i' j' 0 [h.v, nd.v]) (hx : Ext m m') (hi : m.length ≤ i') :
    Fst m' rows (.mk i' j' 0 [h, nd] :: rest) ∧ ∀ s ∈ Tr.pres (.mk i' j' 0 [h, nd] :: rest), s.j = j' ∨ ∃ s0 ∈ Tr.pres (h :: nd :: rest), s.j = s0.j := by
  have eN : Tr.pres (.mk i' j' 0 [h, nd] :: rest) = .mk i' j' 0 [h, nd] :: Tr.pres (h :: nd :: rest) := by
    rw [pres_cons]
    show _ :: (Tr.pres [h, nd] ++ _) = _
    rw [← pres_append]; rfl
  have hT := f.at_.ext hx
  refine ⟨⟨?_, ?_, ?_, ?_, ?_, ?_⟩, ?_⟩
  · refine treesAt_of_pres _ fun s hs => ?_
    rw [eN] at hs
    rcases List.mem_cons.mp hs with rfl | hs
    · exact hm
    · exact hT.nks s hs
  · rw [eN, List.map_cons, List.nodup_cons]
    refine ⟨fun hm => ?_, f.ids⟩
    obtain ⟨s, hs, e⟩ := List.mem_map.mp hm
    have := get_lt (f.at_.nks s hs).1
    have e' : s.i = i' := e
    omega
  · intro s hs c hc
    rw [eN] at hs
    rcases List.mem_cons.mp hs with rfl | hs
    · have : c ∈ [h, nd] := hc
      rcases List.mem_cons.mp this with rfl | this
      · exact hh
      · rw [List.mem_singleton.mp this]; exact hn
    · exact f.kid s hs c hc
  · intro t ht
    rcases List.mem_cons.mp ht with rfl | ht
    · exact .inr ⟨rfl, fun e => nomatch e⟩
    · exact f.root t (List.mem_cons_of_mem _ (List.mem_cons_of_mem _ ht))
  · rw [eN, List.map_cons]
    exact f.nd
  · intro s hs hk
    rw [eN] at hs
    rcases List.mem_cons.mp hs with rfl | hs
    · exact absurd hk (Int.lt_irrefl _)
    · exact f.rng s hs hk
  · intro s hs
    rw [eN] at hs
    rcases List.mem_cons.mp hs with rfl | hs
    · exact .inl rfl
    · exact .inr ⟨s, hs, rfl⟩

/-- nodes keep their numbers, and their kids stay at their places -/
noncomputable def Grow (sl : Nat) (m m' : MH) : Prop := ∀ (i j : Nat) (k : Int) (vs : List MV), NK m i j k vs → j ≠ sl → vs.length ≤ 1000 → ∃ (j' : Nat) (ws : List MV), NK m' i j' k (vs ++ ws) ∧ j' ≠ sl ∧ (vs ++ ws).length ≤ 1000
theorem Ext.grow {m m' : MH} (x : Ext m m') (sl : Nat) : Grow sl m m' := fun i j k vs h h1 h2 => ⟨j, [], by rw [List.append_nil]; exact ⟨x _ _ h.1, x _ _ h.2⟩, h1, by rw [List.append_nil]; exact h2⟩
theorem Grow.trans {sl : Nat} {a b c : MH} (x : Grow sl a b) (y : Grow sl b c) : Grow sl a c := fun i j k vs h h1 h2 => by
  obtain ⟨j', ws, a1, a2, a3⟩ := x i j k vs h h1 h2
  obtain ⟨j'', ws', b1, b2, b3⟩ := y i j' k _ a1 a2 a3
  exact ⟨j'', ws ++ ws', by rw [← List.append_assoc]; exact b1, b2, by rw [← List.append_assoc]; exact b3⟩
theorem Grow.setSl {sl : Nat} {m : MH} {vs : List MV} {o : MO} (h : m[sl]? = some (.lst vs)) : Grow sl m (m.set sl o) := fun i j k ws hn h1 h2 => by
  have hN : NK (m.set sl o) i j k ws := by
    refine ⟨get_set_ne (fun e => ?_) hn.1, get_set_ne (fun e => h1 e.symm) hn.2⟩
    have h3 := hn.1
    rw [← e, h] at h3; cases h3
  exact ⟨j, [], by rw [List.append_nil]; exact hN, h1, by rw [List.append_nil]; exact h2⟩
noncomputable def KA (sl : Nat) (mh : MH) (v : MV) (x : Int) : Prop := ∃ i j k vs, v = .obj 36 i ∧ NK mh i j k vs ∧ j ≠ sl ∧ vs.length ≤ 1000 ∧ ((0 < k ∧ x = k) ∨ (k ≤ 0 ∧ ∃ ic jc vc, vs[0]? = some (.obj 36 ic) ∧ NK mh ic jc x vc ∧ jc ≠ sl ∧ vc.length ≤ 1000))
theorem KA.keyAt {sl : Nat} {mh : MH} {v : MV} {x : Int} (h : KA sl mh v x) : KeyAt mh v x := by
  obtain ⟨i, j, k, vs, e, hn, _, hl, hc⟩ := h
  exact ⟨i, j, k, vs, e, hn, hl, hc.imp id fun ⟨h1, ic, jc, vc, h2, h3, _⟩ => ⟨h1, _, h2, attr_number h3⟩⟩
theorem KA.grow {sl : Nat} {m m' : MH} {v : MV} {x : Int} (h : KA sl m v x) (g : Grow sl m m') : KA sl m' v x := by
  obtain ⟨i, j, k, vs, e, hn, hj, hl, hc⟩ := h
  obtain ⟨j', ws, a1, a2, a3⟩ := g i j k vs hn hj hl
  refine ⟨i, j', k, _, e, a1, a2, a3, hc.imp id fun ⟨h1, ic, jc, vc, h2, h3, h4, h5⟩ => ?_⟩
  obtain ⟨jc', wc, b1, b2, b3⟩ := g ic jc x vc h3 h4 h5
  exact ⟨h1, ic, jc', _, get_ext h2, b1, b2, b3⟩
theorem Fst.ka {mh : MH} {rows : List Rw} {ts : List Tr} (f : Fst mh rows ts) (ok : RowsOk rows) {t : Tr} (ht : t ∈ ts) {sl : Nat} (hs : ∀ s ∈ Tr.pres ts, s.j ≠ sl) : KA sl mh t.v t.hd.k := by
  have htp : t ∈ Tr.pres ts := (sub_pres ts).subset ht
  have hA := f.at_.mem t ht
  have hsz := f.sz ok
  have hl : ∀ s ∈ Tr.pres ts, (s.ts.map Tr.v).length ≤ 1000 := fun s hs => by
    have := (kids_sub hs).length_le
    rw [pres_len] at this
    rw [List.length_map]; omega
  refine ⟨t.i, t.j, t.k, _, rfl, hA.nk, hs t htp, hl t htp, ?_⟩
  unfold Tr.hd
  by_cases hk : 0 < t.k
  · rw [if_pos hk]; exact .inl ⟨hk, rfl⟩
  · rw [if_neg hk]
    rcases f.root t ht with h | ⟨h, hne⟩
    · exact absurd h hk
    refine .inr ⟨by omega, ?_⟩
    have hks := kids_sub htp
    cases hts : t.ts with
    | nil => exact absurd hts hne
    | cons c cs =>
      have hcp : c ∈ Tr.pres ts := hks.subset (by rw [hts]; exact List.mem_cons_self)
      exact ⟨c.i, c.j, _, rfl, f.at_.nks c hcp, hs c hcp, hl c hcp⟩
section
variable {D : WD} {n : Nat} {mh : MH}
theorem CW_joined {tb : Nat} {h nd : Tr} {rest : List Tr} {rows : List Rw} {Q : MV → MH → Prop} (ok : RowsOk rows) (f : Fst mh rows (h :: nd :: rest)) (ht : Tab mh tb rows) (hn : h.k ≠ 0 → nd.k ≠ 0)
    (q : ∀ m' h', Fst m' rows (h' :: rest) → (h.k = 0 → h'.k = 0) → Keep mh m' → (∀ s ∈ Tr.pres (h' :: rest), mh.length ≤ s.j ∨ ∃ s0 ∈ Tr.pres (h :: nd :: rest), s.j = s0.j) → (∀ sl, sl < mh.length → Grow sl mh m') → Q h'.v m') : CW D (n + 3) (.ref 193) [h.v, nd.v, .ref tb] Q mh := by
  refine CW_of_KW (KW_defA ["held", "node", "table"] rfl ?_)
  have ht' := ht
  obtain ⟨ep, ht'⟩ := ht'
  have hsz := f.sz ok
  rw [Tr.szs, Tr.szs, sz_eq h, sz_eq nd] at hsz
  have hh := (f.at_.mem h List.mem_cons_self).nk
  have hd := (f.at_.mem nd (List.mem_cons_of_mem _ List.mem_cons_self)).nk
  have l1 := len_szs h.ts
  have l2 := len_szs nd.ts
  -- the held one takes in
  have took : ∀ (m1 : MH) (add : List Tr), Ext mh m1 → ((add = nd.ts ∧ h.k = 0) ∨ (add = [nd] ∧ 0 < nd.k)) → Q h.v ((m1 ++ [MO.lst ((h.ts ++ add).map Tr.v)]).set h.i (nodeO h.k m1.length)) := by
    intro m1 add hx1 ha
    have hx2 : Ext mh (m1 ++ [MO.lst ((h.ts ++ add).map Tr.v)]) := hx1.snoc _
    have hlt := hx1.len
    have hil := get_lt hh.1
    have hal : add.length ≤ 18 := by
      rcases ha with ⟨rfl, _⟩ | ⟨rfl, _⟩
      · omega
      · simp
    have hnew : NK ((m1 ++ [MO.lst ((h.ts ++ add).map Tr.v)]).set h.i (nodeO h.k m1.length)) h.i m1.length h.k ((h.ts ++ add).map Tr.v) := ⟨get_set_eq (by simp; omega), get_set_ne (by omega) get_snoc⟩
    have hoth : ∀ (i : Nat) (o : MO), mh[i]? = some o → i ≠ h.i → ((m1 ++ [MO.lst ((h.ts ++ add).map Tr.v)]).set h.i (nodeO h.k m1.length))[i]? = some o := fun i o hi hne => get_set_ne (fun e => hne e.symm) (hx2 _ _ hi)
    obtain ⟨f', hj⟩ := f.joinA ha hnew hoth
    refine q _ (.mk h.i m1.length h.k (h.ts ++ add)) f' (fun e => e) (hx2.keep.setFld (hx2 _ _ hh.1) rfl) (fun s hs => ?_) (fun sl hsl => ?_)
    · rcases hj s hs with e | e
      · exact .inl (by omega)
      · exact .inr e
    · intro i j k vs hnk hj1 hj2
      by_cases hi : i = h.i
      · subst hi
        have e1 := hnk.1
        rw [hh.1] at e1
        have e2 : nodeO h.k h.j = nodeO k j := Option.some.inj e1
        simp only [nodeO, MO.fld.injEq, List.cons.injEq, Prod.mk.injEq, MV.int.injEq, MV.ref.injEq, true_and, and_true] at e2
        obtain ⟨rfl, rfl⟩ := e2
        have e3 := hnk.2
        rw [hh.2] at e3
        cases e3
        exact ⟨m1.length, add.map Tr.v, by rw [← List.map_append]; exact hnew, by omega, by rw [← List.map_append, List.length_map, List.length_append]; omega⟩
      · have hN : NK ((m1 ++ [MO.lst ((h.ts ++ add).map Tr.v)]).set h.i (nodeO h.k m1.length)) i j k vs := by
          refine ⟨hoth _ _ hnk.1 hi, hoth _ _ hnk.2 fun e => ?_⟩
          have e1 := hnk.2
          rw [e, hh.1] at e1; cases e1
        exact ⟨j, [], by rw [List.append_nil]; exact hN, hj1, by rw [List.append_nil]; exact hj2⟩
  refine XsW_cons (XW_if (IW_cmp ?_))
  walk_at "MR"
  refine ⟨_, attr_number hh, ?_⟩
  walk_at "MR"
  by_cases hk : h.k = 0
  · rw [if_pos (by simp [hk])]
    refine XsW_cons (XW_setat ?_)
    walk_at "MR"
    refine ⟨_, attr_kids hh, ?_⟩
    refine EW_ifexp (IW_cmp ?_)
    walk_at "MR"
    refine ⟨_, attr_number hd, ?_⟩
    walk_at "MR"
    by_cases hkn : nd.k = 0
    · rw [if_pos (by simp [hkn])]
      walk_at "MR"
      refine ⟨_, attr_kids hd, ?_⟩
      refine OW_add_list hh.2 hd.2 (by rw [List.length_map, List.length_map]; omega) ?_
      walk_at "MR"
      rw [← List.map_append]
      refine ⟨36, h.i, _, rfl, .inl rfl, get_ext hh.1, by simp, ?_⟩
      walk_at "MR"
      exact took mh nd.ts (Ext.refl _) (.inl ⟨rfl, hk⟩)
    · have hpos : 0 < nd.k := by
        rcases f.root nd (List.mem_cons_of_mem _ List.mem_cons_self) with h | h
        · exact h
        · exact absurd h.1 hkn
      rw [if_neg (by simpa using hkn)]
      walk_at "MR"
      refine ⟨by simp, ?_⟩
      refine OW_add_list (ws := [nd.v]) (get_ext hh.2) get_snoc (by simp; omega) ?_
      walk_at "MR"
      have e : h.ts.map Tr.v ++ [nd.v] = (h.ts ++ [nd]).map Tr.v := by rw [List.map_append]; rfl
      rw [e]
      refine ⟨36, h.i, _, rfl, .inl rfl, get_ext (get_ext hh.1), by simp, ?_⟩
      walk_at "MR"
      exact took (mh ++ [.lst [nd.v]]) [nd] (Ext.app _ _) (.inr ⟨rfl, hpos⟩)
  rw [if_neg (by simpa using hk)]
  have hposh : 0 < h.k := by
    rcases f.root h List.mem_cons_self with h | h
    · exact h
    · exact absurd h.1 hk
  have hpos : 0 < nd.k := by
    rcases f.root nd (List.mem_cons_of_mem _ List.mem_cons_self) with h | h
    · exact h
    · exact absurd h.1 (hn hk)
  obtain ⟨rh, hrh, eh⟩ := f.rng h ((sub_pres _).subset List.mem_cons_self) hposh
  obtain ⟨rn, hrn, en⟩ := f.rng nd ((sub_pres _).subset (List.mem_cons_of_mem _ List.mem_cons_self)) hpos
  have give3 : Q (.obj 36 (mh.length + 1)) ((mh ++ [MO.lst [h.v, nd.v]]) ++ [nodeO 0 mh.length]) := by
    have hx : Ext mh ((mh ++ [MO.lst [h.v, nd.v]]) ++ [nodeO 0 mh.length]) := ((Ext.refl _).snoc _).snoc _
    have hl : (mh ++ [MO.lst [h.v, nd.v]]).length = mh.length + 1 := by simp
    have hnew : NK ((mh ++ [MO.lst [h.v, nd.v]]) ++ [nodeO 0 mh.length]) (mh.length + 1) mh.length 0 [h.v, nd.v] := ⟨by rw [← hl]; exact get_snoc, get_ext get_snoc⟩
    obtain ⟨f', hj⟩ := f.joinB hposh hpos hnew hx (by omega)
    refine q _ (.mk (mh.length + 1) mh.length 0 [h, nd]) f' (fun _ => rfl) hx.keep (fun s hs => ?_) fun sl _ => hx.grow sl
    rcases hj s hs with e | e
    · exact .inl (by omega)
    · exact .inr e
  refine XsW_nil ?_
  refine XsW_cons (XW_if (IW_boolop (AW_and (IW_val ?_))))
  walk_at "MR"
  refine ⟨_, attr_number hd, rn.mv, .dctI ht' (by rw [← en]; exact dget_row ok hrn), ?_⟩
  walk_at "MR"
  refine ⟨.bool rn.fl, .tup (by decide) (by rfl) (by decide), BW_bool ?_⟩
  cases hf1 : rn.fl with
  | false =>
    rw [if_neg (by decide), if_neg (by decide)]
    walk_at "MR"
    refine EW_callK (a := 36) ?_
    walk_at "MR"
    refine ⟨by simp, ?_⟩
    refine EsW_nil (CW_node (n := n) ?_)
    have hl : (mh ++ [MO.lst [h.v, nd.v]]).length = mh.length + 1 := by simp
    rw [hl]
    exact give3
  | true =>
    rw [if_pos rfl]
    refine AW_and (IW_not (IW_val ?_))
    walk_at "MR"
    refine ⟨_, attr_number hh, rh.mv, .dctI ht' (by rw [← eh]; exact dget_row ok hrh), ?_⟩
    walk_at "MR"
    refine ⟨.bool rh.fl, .tup (by decide) (by rfl) (by decide), BW_bool ?_⟩
    cases hf2 : rh.fl with
    | true =>
      rw [if_neg (by decide), if_neg (by decide)]
      walk_at "MR"
      refine EW_callK (a := 36) ?_
      walk_at "MR"
      refine ⟨by simp, ?_⟩
      refine EsW_nil (CW_node (n := n) ?_)
      have hl : (mh ++ [MO.lst [h.v, nd.v]]).length = mh.length + 1 := by simp
      rw [hl]
      exact give3
    | false =>
      rw [if_pos (by decide)]
      refine AW_and_nil ?_
      rw [if_pos rfl]
      refine XsW_cons (XW_setat ?_)
      walk_at "MR"
      refine ⟨_, attr_kids hh, ?_⟩
      walk_at "MR"
      refine ⟨by simp, ?_⟩
      refine OW_add_list (ws := [nd.v]) (get_ext hh.2) get_snoc (by simp; omega) ?_
      walk_at "MR"
      have e : h.ts.map Tr.v ++ [nd.v] = (h.ts ++ [nd]).map Tr.v := by rw [List.map_append]; rfl
      rw [e]
      refine ⟨36, h.i, _, rfl, .inl rfl, get_ext (get_ext hh.1), by simp, ?_⟩
      walk_at "MR"
      exact took (mh ++ [.lst [nd.v]]) [nd] (Ext.app _ _) (.inr ⟨rfl, hpos⟩)
end
end Mine

namespace Mine
theorem fm_take : ∀ {S : List (Option Tr)} {p : Nat} {t : Tr}, S[p]? = some (some t) → (S.filterMap id).Perm (t :: (S.set p none).filterMap id)
  | x :: S, 0, t, h => by
    have : x = some t := by simpa using h
    subst this
    simp
  | x :: S, p + 1, t, h => by
    have ih := fm_take (S := S) (p := p) (t := t) (by simpa using h)
    rw [List.set_cons_succ, List.filterMap_cons, List.filterMap_cons]
    cases x with
    | none => simpa using ih
    | some w =>
      simp only [id_eq]
      exact (ih.cons w).trans (List.Perm.swap _ _ _)
theorem fm_put {S : List (Option Tr)} {p : Nat} {t : Tr} (h : S[p]? = some none) : ((S.set p (some t)).filterMap id).Perm (t :: S.filterMap id) := by
  have hl := (List.getElem?_eq_some_iff.mp h).1
  have := fm_take (S := S.set p (some t)) (p := p) (t := t) (List.getElem?_set_self hl)
  rw [List.set_set] at this
  have e : S.set p none = S := by
    have := (List.getElem?_eq_some_iff.mp h).2
    rw [← this]; exact List.set_getElem_self hl
  rw [e] at this; exact this
noncomputable def ov : Option Tr → MV | some t => t.v | none => .none
noncomputable def Kpr (rows : List Rw) (kvs : List (Str × MV)) (p : Nat) (t : Tr) : Prop := bsT rows t ≠ Str.ofString "" ∧ dget kvs (bsT rows t) = some (.int p)
theorem Fst.mv {m m' : MH} {rows : List Rw} {ts : List Tr} (f : Fst m rows ts) (h : ∀ s ∈ Tr.pres ts, NK m' s.i s.j s.k (s.ts.map Tr.v)) : Fst m' rows ts := { f with at_ := treesAt_of_pres _ h }
section
variable {D : WD} {n : Nat} {mh : MH}
theorem CW_gathered {l tb : Nat} {ts : List Tr} {rows : List Rw} {Q : MV → MH → Prop} (ok : RowsOk rows) (f : Fst mh rows ts) (hl : mh[l]? = some (.lst (ts.map Tr.v))) (ht : Tab mh tb rows)
    (q : ∀ m' r ts', m'[r]? = some (.lst (ts'.map Tr.v)) → Fst m' rows ts' → Keep mh m' → Q (.ref r) m') : CW D (n + 13) (.ref 198) [.ref l, .ref tb] Q mh := by
  refine CW_of_KW (KW_defA ["nodes", "table"] rfl ?_)
  have hsz := f.sz ok
  have hlen := len_szs ts
  refine XsW_cons (XW_assign2s (EW_tuple ?_))
  refine EsW_cons (EW_callK (a := 186) ?_)
  walk_at "MR"
  refine CW_subject_places (n := n) ok f hl ht fun m1 pl ep kvs hpl hP hx1 => ?_
  walk_at "MR"
  refine ⟨l, _, rfl, hx1 _ _ hl, by rw [List.length_map]; omega, ?_⟩
  walk_at "MR"
  refine ⟨by simp, _, _, rfl, ?_⟩
  generalize hsl : m1.length = sl
  have hsl1 : mh.length ≤ sl := by have := hx1.len; omega
  have hjs : ∀ s ∈ Tr.pres ts, s.j ≠ sl := fun s hs => by have := get_lt (f.at_.nks s hs).2; omega
  have hx2 : Ext mh (m1 ++ [MO.lst (ts.map Tr.v)]) := hx1.snoc _
  have f1 : Fst (m1 ++ [MO.lst (ts.map Tr.v)]) rows ts := { f with at_ := f.at_.ext hx2 }
  have hpsl : pl ≠ sl := by have := get_lt hpl; omega
  refine XsW_cons (XW_for (FW_enum ?_))
  walk_at "MR"
  refine ⟨l, _, rfl, hx2 _ _ hl, ?_⟩
  have hS0 : (ts.map some).filterMap id = ts := by rw [List.filterMap_map]; simp
  refine ⟨fun i σ' m => Has σ' [("nodes", .ref l), ("table", .ref tb), ("places", .ref pl), ("slots", .ref sl)] ∧ Keep mh m ∧ m[pl]? = some (.dctS ep kvs) ∧ ∃ S : List (Option Tr), m[sl]? = some (.lst (S.map ov)) ∧ S.length = ts.length ∧
      Fst m rows (S.filterMap id) ∧ (∀ s ∈ Tr.pres (S.filterMap id), s.j ≠ sl) ∧ (∀ (p : Nat) (t : Tr), i ≤ p → ts[p]? = some t → ¬ Kpr rows kvs p t → S[p]? = some (some t)) ∧
      (∀ (p : Nat) (t : Tr), ts[p]? = some t → Kpr rows kvs p t → ∃ t', S[p]? = some (some t') ∧ (t.k = 0 → t'.k = 0)) ∧ (∀ t ∈ ts, KA sl m t.v t.hd.k),
    ⟨by walk_at "MH", hx2.keep, get_ext hpl, ts.map some, ?_, by rw [List.length_map], by rw [hS0]; exact f1, by rw [hS0]; exact hjs, ?_, ?_, ?_⟩, fun _ _ _ h => h.2.1 _ _ hl rfl, ?_, ?_⟩
  · rw [← hsl, get_snoc, List.map_map]; rfl
  · intro p t _ hp _; rw [List.getElem?_map, hp]; rfl
  · intro p t hp _; exact ⟨t, by rw [List.getElem?_map, hp]; rfl, id⟩
  · intro t htm; exact f1.ka ok htm hjs
  · rintro i v σ' m hv ⟨hσ, hkp, hmp, S, hms, hSl, fS, hjS, hU, hK, hA⟩
    rw [List.getElem?_mapIdx, Option.map_eq_some_iff] at hv
    obtain ⟨tv, hv, rfl⟩ := hv
    rw [List.getElem?_map, Option.map_eq_some_iff] at hv
    obtain ⟨t, hv, rfl⟩ := hv
    have htm := List.mem_of_getElem? hv
    have htb : Tab m tb rows := hkp.tab ht
    refine ⟨_, .pair _ _ _ _ _ _ _ _ _ (.inl rfl) (.inl rfl), XsW_has (hσ.put.put) ?_⟩
    have hil : i < ts.length := (List.getElem?_eq_some_iff.mp hv).1
    refine XsW_cons (XW_assign (EW_callK (a := 172) ?_))
    walk_at "MR"
    obtain ⟨⟨r, hr, er⟩, _⟩ := f.keyAt ok htm
    have hka := (hA t htm).keyAt
    rw [← er] at hka
    refine CW.mono (CW_base_under (n := n + 11) ok hr hka htb) ?_
    rintro w m' ⟨rfl, rfl⟩
    have hbr : bsT rows t = r.base := by unfold bsT; rw [← er]; exact baseOf_mem ok hr
    rw [← hbr]
    -- nothing to do
    have skip : Kpr rows kvs i t ∨ bsT rows t = Str.ofString "" → ∀ σ'' : Locals, Has σ'' [("nodes", .ref l), ("table", .ref tb), ("places", .ref pl), ("slots", .ref sl)] →
        (Has σ'' [("nodes", .ref l), ("table", .ref tb), ("places", .ref pl), ("slots", .ref sl)] ∧ Keep mh m' ∧ m'[pl]? = some (.dctS ep kvs) ∧ ∃ S : List (Option Tr), m'[sl]? = some (.lst (S.map ov)) ∧ S.length = ts.length ∧
      Fst m' rows (S.filterMap id) ∧ (∀ s ∈ Tr.pres (S.filterMap id), s.j ≠ sl) ∧ (∀ (p : Nat) (t : Tr), i + 1 ≤ p → ts[p]? = some t → ¬ Kpr rows kvs p t → S[p]? = some (some t)) ∧
      (∀ (p : Nat) (t : Tr), ts[p]? = some t → Kpr rows kvs p t → ∃ t', S[p]? = some (some t') ∧ (t.k = 0 → t'.k = 0)) ∧ (∀ t ∈ ts, KA sl m' t.v t.hd.k)) :=
      fun _ σ'' h => ⟨h, hkp, hmp, S, hms, hSl, fS, hjS, fun p t hp => hU p t (by omega), hK, hA⟩
    walk_at "MR"
    by_cases hb : bsT rows t = Str.ofString ""
    · rw [if_neg (by simp [hb]), if_neg (by decide)]
      exact XsW_nil (XsW_nil (skip (.inr hb) _ (by walk_at "MH")))
    rw [if_pos (by simp [hb])]
    refine AW_and (IW_cmp ?_)
    walk_at "MR"
    have hsome := hP.1 i t hil hv hb
    obtain ⟨v0, hg⟩ := Option.isSome_iff_exists.mp hsome
    obtain ⟨p0, t0, rfl, e2, e3, e4, e5, e6⟩ := hP.2.1 _ _ hg
    refine ⟨.int p0, .dctS hmp hg, ?_⟩
    walk_at "MR"
    by_cases hpi : p0 = i
    · subst hpi
      rw [if_neg (by simp), if_neg (by decide)]
      exact XsW_nil (XsW_nil (skip (.inl ⟨hb, hg⟩) _ (by walk_at "MH")))
    rw [if_pos (by simp; omega)]
    refine AW_and_nil ?_
    rw [if_pos rfl]
    -- the two
    have hK0 : Kpr rows kvs p0 t0 := ⟨by rw [e4]; exact e5, by rw [e4]; exact hg⟩
    obtain ⟨h, hSp, hk0⟩ := hK p0 t0 e3 hK0
    have hnk : ¬ Kpr rows kvs i t := fun x => by
      have h1 := x.2
      rw [hg] at h1
      have h2 : (p0 : Int) = i := MV.int.inj (Option.some.inj h1)
      omega
    have hSi := hU i t (Nat.le_refl _) hv hnk
    let rest := ((S.set p0 none).set i none).filterMap id
    have hperm : (h :: t :: rest).Perm (S.filterMap id) := by
      have h1 := fm_take hSp
      have h2 := fm_take (S := S.set p0 none) (p := i) (t := t) (by rw [List.getElem?_set_ne hpi]; exact hSi)
      exact ((h1.trans (h2.cons h))).symm
    have f2 := fS.perm hperm
    have hpp : ∀ s ∈ Tr.pres (h :: t :: rest), s.j ≠ sl := fun s hs => hjS s ((show (Tr.pres (h :: t :: rest)).Perm (Tr.pres (S.filterMap id)) from by rw [pres_flat, pres_flat]; exact hperm.flatMap_right _).mem_iff.mp hs)
    have hkn : h.k ≠ 0 → t.k ≠ 0 := fun hh => by
      rcases e6 with e6 | e6
      · exact absurd (hk0 e6) hh
      · exact e6 i t hil hv rfl
    have hmsl := get_lt hms
    refine XsW_cons (XW_setitem ?_)
    refine EW_callK (a := 193) ?_
    walk_at "MR"
    refine ⟨.int p0, .dctS hmp hg, h.v, .lst hms (by omega) (by rw [Int.toNat_natCast, List.getElem?_map, hSp]; rfl) (by rw [List.length_map]; omega), ?_⟩
    walk_at "MR"
    refine CW_joined (n := n + 9) ok f2 htb hkn fun m2 h' f3 hk' hkp2 hj2 hgr => ?_
    walk_at "MR"
    have hms2 := hkp2 _ _ hms rfl
    have hmp2 := hkp2 _ _ hmp rfl
    refine ⟨.int p0, .dctS hmp2 hg, ?_⟩
    refine .lst hms2 (by omega) (by rw [List.length_map]; omega) (by rw [List.length_map]; omega) ?_
    walk_at "MR"
    refine .lst (get_set_eq (get_lt hms2)) (by omega) (by rw [List.length_set, List.length_map]; omega) (by rw [List.length_set, List.length_map]; omega) ?_
    rw [List.set_set, Int.toNat_natCast, Int.toNat_natCast]
    have eS : ((S.map ov).set p0 h'.v).set i .none = ((S.set p0 (some h')).set i none).map ov := by rw [List.map_set, List.map_set]; rfl
    rw [eS]
    have hjn : ∀ s ∈ Tr.pres (h' :: rest), s.j ≠ sl := fun s hs => by
      rcases hj2 s hs with e | ⟨s0, hs0, e⟩
      · omega
      · rw [e]; exact hpp s0 hs0
    have hpermN : (((S.set p0 (some h')).set i none).filterMap id).Perm (h' :: rest) := by
      have e : ((S.set p0 (some h')).set i none) = (((S.set p0 none).set i none).set p0 (some h')) := by
        rw [List.set_comm _ _ (fun e => hpi e.symm), List.set_set, List.set_comm _ _ hpi]
      rw [e]
      refine fm_put ?_
      rw [List.getElem?_set_ne (fun e => hpi e.symm)]
      exact List.getElem?_set_self (by omega)
    have fN : Fst (m2.set sl (.lst (((S.set p0 (some h')).set i none).map ov))) rows (h' :: rest) := by
      refine f3.mv fun s hs => ?_
      have h1 := f3.at_.nks s hs
      refine ⟨get_set_ne (fun e => ?_) h1.1, get_set_ne (fun e => hjn s hs e.symm) h1.2⟩
      have h2 := h1.1
      rw [← e, hms2] at h2; cases h2
    have hkpN : Keep mh (m2.set sl (.lst (((S.set p0 (some h')).set i none).map ov))) := fun a o ha ho => get_set_ne (by have := get_lt ha; omega) ((hkp.trans hkp2) a o ha ho)
    refine XsW_nil (XsW_nil ⟨by walk_at "MH", hkpN, get_set_ne (fun e => hpsl e.symm) hmp2, (S.set p0 (some h')).set i none, get_set_eq (get_lt hms2), by simp [hSl], fN.perm hpermN, ?_, ?_, ?_, ?_⟩)
    · intro s hs
      refine hjn s ((show (Tr.pres (((S.set p0 (some h')).set i none).filterMap id)).Perm (Tr.pres (h' :: rest)) from ?_).mem_iff.mp hs)
      rw [pres_flat, pres_flat]; exact hpermN.flatMap_right _
    · intro p w hp hw hwk
      have hpp0 : p ≠ p0 := fun e => by
        subst e
        rw [e3] at hw; cases hw
        exact hwk hK0
      rw [List.getElem?_set_ne (by omega), List.getElem?_set_ne (fun e => hpp0 e.symm)]
      exact hU p w (by omega) hw hwk
    · intro p w hw hwk
      have hne : i ≠ p := fun e => by
        subst e
        rw [hv] at hw; cases hw
        exact hnk hwk
      rw [List.getElem?_set_ne hne]
      by_cases hpp0 : p0 = p
      · subst hpp0
        rw [e3] at hw; cases hw
        exact ⟨h', List.getElem?_set_self (by omega), fun e => hk' (hk0 e)⟩
      · rw [List.getElem?_set_ne hpp0]
        exact hK p w hw hwk
    · intro w hw
      exact (hA w hw).grow ((hgr sl hmsl).trans (Grow.setSl hms2))
  · rintro σ' m ⟨hσ, hkp, hmp, S, hms, hSl, fS, hjS, hU, hK, hA⟩
    refine XsW_has hσ ?_
    walk_at "MR"
    refine EW_comp [] capNil (FW_val ?_)
    walk_at "MR"
    refine ⟨_, _, .lst sl _, hms, ?_⟩
    refine compM ov Option.isSome (by omega) (fun m' hx' => hx' _ _ hms) ?_ ?_
    · intro x m3 hx hx3
      refine ⟨_, .name _ _ _ _ (by rfl), ?_⟩
      refine IW_cmp ?_
      walk_at "MR"
      refine ⟨by cases x <;> rfl, hx3, fun _ => ?_⟩
      walk_at "MR"
      exact ⟨rfl, hx3⟩
    · intro m3 hx3
      have e : (S.filter Option.isSome).map ov = (S.filterMap id).map Tr.v := by
        clear hms hSl fS hjS hU hK
        induction S with
        | nil => rfl
        | cons x S ih =>
          cases x with
          | none => simpa using ih
          | some t => simpa [ov] using ih
      rw [e]
      exact q _ _ _ get_snoc { fS with at_ := fS.at_.ext (hx3.snoc _) } (hkp.trans (hx3.snoc _).keep)
end
end Mine

namespace Mine
noncomputable def Fam (m : MH) (fi d ln lp : Nat) (pl : List (Str × MV)) (ns ps : List Int) : Prop :=
  m[fi]? = some (.fld [("places", .ref d), ("numbers", .ref ln), ("parents", .ref lp)]) ∧ (∃ ep, m[d]? = some (.dctS ep pl)) ∧ m[ln]? = some (.lst (ns.map .int)) ∧ m[lp]? = some (.lst (ps.map .int)) ∧ ln ≠ lp
/-- but for some places, all was kept -/
noncomputable def Chg (a b : MH) (l : List Nat) : Prop := ∀ (i : Nat) (o : MO), a[i]? = some o → i ∉ l → b[i]? = some o
theorem Chg.refl (a : MH) (l : List Nat) : Chg a a l := fun _ _ h _ => h
theorem Chg.trans {a b c : MH} {l : List Nat} (x : Chg a b l) (y : Chg b c l) : Chg a c l := fun i o h e => y i o (x i o h e) e
theorem Chg.set {a b : MH} {l : List Nat} (x : Chg a b l) {i : Nat} {o : MO} (hi : i ∈ l) : Chg a (b.set i o) l := fun j p h e => get_set_ne (fun q => e (q ▸ hi)) (x j p h e)
theorem Chg.ext {a b c : MH} {l : List Nat} (x : Ext a b) (y : Chg b c l) (h : ∀ i ∈ l, a.length ≤ i) : Ext a c := fun i o e => y i o (x i o e) fun hi => by have := h i hi; have := get_lt e; omega
theorem Fam.at {m : MH} {fi d ln lp : Nat} {pl : List (Str × MV)} {ns ps : List Int} (h : Fam m fi d ln lp pl ns ps) {a : Str} {x : MV} (hx : ([((("places" : Str)), MV.ref d), ("numbers", .ref ln), ("parents", .ref lp)] : Locals).lookup a = some x) : AttrIs m (.obj 123 fi) a x := ⟨123, fi, _, rfl, .inr rfl, h.1, hx⟩
section
variable {D : WD} {n : Nat} {mh : MH} {fi d ln lp : Nat} {pl : List (Str × MV)} {ns ps : List Int}
theorem CW_family {Q : MV → MH → Prop} (q : ∀ m' fi d ln lp, Ext mh m' → Fam m' fi d ln lp [] [] [] → mh.length ≤ d → mh.length ≤ ln → mh.length ≤ lp → Q (.obj 123 fi) m') : CW D (n + 2) (.ref 123) [] Q mh := by
  refine CW_of_KW (KW_make (f := 78) ?_)
  refine KW_defA ["self"] rfl ?_
  refine XsW_cons (XW_setat (EW_dictS fun ep => ?_))
  walk_at "MR"
  refine ⟨123, mh.length, [], rfl, .inr rfl, get_ext get_snoc, by simp [put], ?_⟩
  walk_at "MR"
  refine ⟨by simp, ?_⟩
  walk_at "MR"
  refine ⟨123, mh.length, _, rfl, .inr rfl, get_ext (get_set_eq (by simp)), Nat.le_of_ble_eq_true rfl, ?_⟩
  walk_at "MR"
  refine ⟨by simp, ?_⟩
  walk_at "MR"
  refine ⟨123, mh.length, _, rfl, .inr rfl, get_ext (get_set_eq (by simp)), Nat.le_of_ble_eq_true rfl, ?_⟩
  refine XsW_nil ⟨rfl, q _ mh.length (mh.length + 1) (mh.length + 2) (mh.length + 3) ?_ ?_ (by omega) (by omega) (by omega)⟩
  · exact (((((((Ext.app mh _).snoc _).set (Nat.le_refl _)).snoc _).set (Nat.le_refl _)).snoc _).set (Nat.le_refl _))
  · have e1 : ((mh ++ [MO.fld []] ++ [MO.dctS ep []])).length = mh.length + 2 := by simp
    have e2 : ∀ (m : MH) (o : MO), m.length = mh.length + 2 → (m ++ [MO.lst []])[mh.length + 2]? = some (MO.lst []) := fun m o h => by rw [← h]; exact get_snoc
    refine ⟨?_, ⟨ep, ?_⟩, ?_, ?_, by omega⟩
    · rw [get_set_eq (by simp)]
      simp only [List.length_append, List.length_set, List.length_singleton]
      rfl
    · refine get_set_ne (by omega) (get_ext (get_set_ne (by omega) (get_ext (get_set_ne (by omega) ?_))))
      have : (mh ++ [MO.fld []]).length = mh.length + 1 := by simp
      rw [← this]; exact get_snoc
    · refine get_set_ne (by omega) (get_ext (get_set_ne (by omega) ?_))
      have : ((mh ++ [MO.fld []] ++ [MO.dctS ep []]).set mh.length (.fld (put [] (Str.ofString "places") (.ref (mh ++ [MO.fld []]).length)))).length = mh.length + 2 := by simp
      rw [← this]; exact get_snoc
    · refine get_set_ne (by omega) ?_
      rw [List.getElem?_append_right (by simp)]
      simp
theorem CW_place_of {name : Str} {p : Int} {Q : MV → MH → Prop} (h : Fam mh fi d ln lp pl ns ps) (hg : dget pl name = some (.int p)) (q : Q (.int p) mh) : CW D (n + 1) (.ref 85) [.obj 123 fi, .str name] Q mh := by
  refine CW_of_KW (KW_defA ["self", "name"] rfl ?_)
  obtain ⟨ep, hd⟩ := h.2.1
  walk_at "MR"
  refine ⟨.ref d, h.at rfl, OW_notIn_S hd ?_⟩
  rw [hg, if_neg (by simp)]
  refine XsW_nil ?_
  walk_at "MR"
  refine ⟨.ref d, h.at rfl, ?_⟩
  walk_at "MR"
  exact ⟨.int p, .dctS hd hg, q⟩
theorem CW_place_new {name : Str} {Q : MV → MH → Prop} (h : Fam mh fi d ln lp pl ns ps) (hg : dget pl name = none) (hz : pl.length ≤ 900 ∧ ns.length ≤ 900 ∧ ps.length ≤ 900)
    (q : ∀ m', Fam m' fi d ln lp (pl ++ [(name, .int ns.length)]) (ns ++ [0]) (ps ++ [-1]) → Chg mh m' [d, ln, lp] → Q (.int ns.length) m') : CW D (n + 1) (.ref 85) [.obj 123 fi, .str name] Q mh := by
  refine CW_of_KW (KW_defA ["self", "name"] rfl ?_)
  have h' := h
  obtain ⟨h1, ⟨ep, hd⟩, h3, h4, h5⟩ := h
  have d1 : fi ≠ d := fun e => by rw [e, hd] at h1; cases h1
  have d2 : fi ≠ ln := fun e => by rw [e, h3] at h1; cases h1
  have d3 : fi ≠ lp := fun e => by rw [e, h4] at h1; cases h1
  have d4 : d ≠ ln := fun e => by rw [e, h3] at hd; cases hd
  have d5 : d ≠ lp := fun e => by rw [e, h4] at hd; cases hd
  have hg' := dget_none.mp hg
  walk_at "MR"
  refine ⟨.ref d, h'.at rfl, OW_notIn_S hd ?_⟩
  rw [hg, if_pos (by simp)]
  walk_at "MR"
  refine ⟨.ref ln, h'.at rfl, ln, _, rfl, h3, by rw [List.length_map]; omega, ?_⟩
  walk_at "MR"
  refine ⟨.ref d, h'.at rfl, ?_⟩
  walk_at "MR"
  refine .dctS hd (by omega) fun ep2 => ?_
  rw [dput_new hg', List.length_map]
  have F1 : Fam (mh.set d (.dctS ep2 (pl ++ [(name, .int ns.length)]))) fi d ln lp (pl ++ [(name, .int ns.length)]) ns ps :=
    ⟨get_set_ne d1.symm h1, ⟨ep2, get_set_eq (get_lt hd)⟩, get_set_ne d4 h3, get_set_ne d5 h4, h5⟩
  have c1 : Chg mh (mh.set d (.dctS ep2 (pl ++ [(name, .int ns.length)]))) [d, ln, lp] := (Chg.refl _ _).set (by simp)
  generalize mh.set d (.dctS ep2 (pl ++ [(name, .int ns.length)])) = m1 at F1 c1
  walk_at "MR"
  refine ⟨.ref ln, F1.at rfl, ln, _, rfl, F1.2.2.1, ?_⟩
  walk_at "MR"
  refine ⟨_, F1.2.2.1, by rw [List.length_map]; omega, rfl, ?_⟩
  have F2 : Fam (m1.set ln (.lst (ns.map .int ++ [.int 0]))) fi d ln lp (pl ++ [(name, .int ns.length)]) (ns ++ [0]) ps :=
    ⟨get_set_ne d2.symm F1.1, ⟨F1.2.1.choose, get_set_ne d4.symm F1.2.1.choose_spec⟩, by rw [List.map_append]; exact get_set_eq (get_lt F1.2.2.1), get_set_ne h5 F1.2.2.2.1, h5⟩
  have c2 : Chg mh (m1.set ln (.lst (ns.map .int ++ [.int 0]))) [d, ln, lp] := c1.set (by simp)
  generalize m1.set ln (.lst (ns.map .int ++ [.int 0])) = m2 at F2 c2
  walk_at "MR"
  refine ⟨.ref lp, F2.at rfl, lp, _, rfl, F2.2.2.2.1, ?_⟩
  walk_at "MR"
  refine ⟨_, F2.2.2.2.1, by rw [List.length_map]; omega, rfl, ?_⟩
  have F3 : Fam (m2.set lp (.lst (ps.map .int ++ [.int (-1)]))) fi d ln lp (pl ++ [(name, .int ns.length)]) (ns ++ [0]) (ps ++ [-1]) :=
    ⟨get_set_ne d3.symm F2.1, ⟨F2.2.1.choose, get_set_ne d5.symm F2.2.1.choose_spec⟩, get_set_ne h5.symm F2.2.2.1, by rw [List.map_append]; exact get_set_eq (get_lt F2.2.2.2.1), h5⟩
  have c3 : Chg mh (m2.set lp (.lst (ps.map .int ++ [.int (-1)]))) [d, ln, lp] := c2.set (by simp)
  generalize hm3 : m2.set lp (.lst (ps.map .int ++ [.int (-1)])) = m3 at F3 c3
  have hm3' : m2.set lp (.lst (ps.map .int ++ [.int (-1)])) = m3 := hm3
  try rw [hm3']
  refine XsW_nil ?_
  walk_at "MR"
  obtain ⟨ep3, hd3⟩ := F3.2.1
  refine ⟨.ref d, F3.at rfl, ?_⟩
  walk_at "MR"
  refine ⟨.int ns.length, .dctS hd3 ?_, q _ F3 c3⟩
  rw [dget_append hg', if_pos rfl]
theorem CW_own_place {name : Str} {k : Int} {Q : MV → MH → Prop} (h : Fam mh fi d ln lp pl ns ps) (hg : dget pl name = none) (hne : name ≠ Str.ofString "") (hz : pl.length ≤ 900 ∧ ns.length ≤ 900 ∧ ps.length ≤ 900)
    (q : ∀ m', Fam m' fi d ln lp (pl ++ [(name, .int ns.length)]) (ns ++ [k]) (ps ++ [-1]) → Chg mh m' [d, ln, lp] → Q (.int ns.length) m') : CW D (n + 2) (.ref 92) [.obj 123 fi, .int k, .str name] Q mh := by
  refine CW_of_KW (KW_defA ["self", "number", "name"] rfl ?_)
  obtain ⟨ep, hd⟩ := h.2.1
  walk_at "MR"
  rw [if_neg (by simpa using hne)]
  refine AW_or (IW_boolop (AW_and (IW_cmp ?_)))
  walk_at "MR"
  refine ⟨.ref d, h.at rfl, OW_in_S hd ?_⟩
  rw [hg, if_neg (by simp), if_neg (by decide)]
  refine AW_or_nil ?_
  rw [if_neg (by decide)]
  refine XsW_nil (XsW_cons (XW_assign ?_))
  refine EW_methK (C := 123) (f := 85) ?_
  walk_at "MR"
  refine ⟨fi, _, rfl, h.1, rfl, ?_⟩
  walk_at "MR"
  refine CW_place_new (n := n) h hg hz fun m1 F1 c1 => ?_
  walk_at "MR"
  refine ⟨.ref ln, F1.at rfl, ?_⟩
  walk_at "MR"
  refine .lst F1.2.2.1 (by omega) (by rw [List.length_map, List.length_append, List.length_singleton]; omega) (by rw [List.length_map, List.length_append, List.length_singleton]; omega) ?_
  have e : ((ns ++ [0]).map MV.int).set (Int.toNat (ns.length : Int)) (.int k) = (ns ++ [k]).map MV.int := by
    rw [Int.toNat_natCast, List.map_append, List.map_append, List.set_append_right _ _ (by rw [List.length_map]; exact Nat.le_refl _)]
    simp
  rw [e]
  refine XsW_cons (XW_return (EW_local (by rfl) (q _ ?_ (c1.set (by simp)))))
  have d2 : fi ≠ ln := fun e => by have h1 := F1.1; rw [e, F1.2.2.1] at h1; cases h1
  obtain ⟨ep1, hd1⟩ := F1.2.1
  have d4 : d ≠ ln := fun e => by have h1 := hd1; rw [e, F1.2.2.1] at h1; cases h1
  exact ⟨get_set_ne d2.symm F1.1, ⟨ep1, get_set_ne d4.symm hd1⟩, get_set_eq (get_lt F1.2.2.1), get_set_ne F1.2.2.2.2 F1.2.2.2.1, F1.2.2.2.2⟩
/-- parents stand before their kids -/
theorem CW_is_above {own : Nat} {b : Int} {Q : MV → MH → Prop} (h : Fam mh fi d ln lp pl ns ps) (hz : ps.length ≤ 900) (ho : own ≤ ps.length) (hb : b < own) (hp : ∀ (i : Nat) (x : Int), ps[i]? = some x → i < own → x < i)
    (q : Q (.bool false) mh) : CW D (n + 1) (.ref 99) [.obj 123 fi, .int own, .int b] Q mh := by
  refine CW_of_KW (KW_defA ["self", "one", "other"] rfl ?_)
  refine XsW_cons (XW_while (fun k σ' m => ∃ o : Int, Has σ' [("self", .obj 123 fi), ("one", .int own), ("other", .int o)] ∧ m = mh ∧ o < own ∧ k = (o + 1).toNat) (b + 1).toNat ⟨b, by walk_at "MH", rfl, hb, rfl⟩ ?_)
  rintro k σ' m ⟨o, hσ, rfl, ho2, rfl⟩
  refine IW_has hσ ?_
  refine IW_boolop (AW_and (IW_cmp ?_))
  walk_at "MR"
  by_cases h0 : 0 ≤ o
  · rw [if_pos (by simpa using h0)]
    refine AW_and (IW_cmp ?_)
    walk_at "MR"
    have hne : o ≠ (own : Int) := by omega
    rw [if_pos (by simpa using hne)]
    refine AW_and_nil ?_
    rw [if_pos rfl]
    have hlt : o.toNat < ps.length := by omega
    have hx := List.getElem?_eq_getElem hlt
    generalize ps[o.toNat] = x at hx
    have hxo := hp _ _ hx (by omega)
    refine XsW_has hσ ?_
    walk_at "MR"
    refine ⟨.ref lp, h.at rfl, ?_⟩
    walk_at "MR"
    refine ⟨.int x, .lst h.2.2.2.1 h0 (by rw [List.getElem?_map, hx]; rfl) (by rw [List.length_map]; omega), ?_⟩
    exact XsW_nil ⟨(x + 1).toNat, by omega, x, by walk_at "MH", rfl, by omega, rfl⟩
  · rw [if_neg (by simpa using h0), if_neg (by decide)]
    refine XsW_has hσ ?_
    walk_at "MR"
    have hne : o ≠ (own : Int) := by omega
    have : (o == (own : Int)) = false := by simpa using hne
    rw [this]; exact q
end
end Mine

namespace Mine
theorem nmS_inj10 : ∀ a b : Fin 10, nmS (a.val : Int) = nmS (b.val : Int) → a = b := by decide +kernel
theorem nmS_ne10 : ∀ a : Fin 10, nmS (a.val : Int) ≠ Str.ofString "" := by decide +kernel
theorem nmS_inj {a b : Nat} (ha : a ≤ 9) (hb : b ≤ 9) (h : nmS (a : Int) = nmS (b : Int)) : a = b := by
  have := nmS_inj10 ⟨a, by omega⟩ ⟨b, by omega⟩ h
  simpa using this
theorem nmS_ne {a : Nat} (ha : a ≤ 9) : nmS (a : Int) ≠ Str.ofString "" := nmS_ne10 ⟨a, by omega⟩
noncomputable def refsV (r : Rw) : List MV := if r.ab = 0 then [] else [.str (nmS r.ab)]
noncomputable def plK (l : List Rw) : List (Str × MV) := l.map fun r => (nmS r.num, .int ((r.num : Int) - 1))
noncomputable def nsK (l : List Rw) : List Int := l.map fun r => (r.num : Int)
noncomputable def psK (l : List Rw) : List Int := l.map fun r => (r.ab : Int) - 1
theorem take_succ' {rows : List Rw} {k : Nat} {r : Rw} (h : rows[k]? = some r) : rows.take (k + 1) = rows.take k ++ [r] := by rw [List.take_add_one, h]; rfl
theorem plK_keys {rows : List Rw} (ok : RowsOk rows) (k : Nat) : ((plK (rows.take k)).map (·.1)).Nodup := by
  have e : (plK (rows.take k)).map (·.1) = ((rows.map Rw.num).take k).map fun a : Nat => nmS (a : Int) := by unfold plK; rw [List.map_map, ← List.map_take, List.map_map]; rfl
  rw [e, ok.nums, List.Nodup, List.pairwise_map]
  refine List.Pairwise.imp_of_mem (R := fun a b => a ≠ b) (fun {a b} ha hb hab q => ?_) ?_
  · have h1 := List.mem_of_mem_take ha
    have h2 := List.mem_of_mem_take hb
    simp only [List.mem_map, List.mem_range] at h1 h2
    obtain ⟨a', h1, rfl⟩ := h1
    obtain ⟨b', h2, rfl⟩ := h2
    have := ok.len
    exact hab (nmS_inj (by omega) (by omega) q)
  · refine List.Pairwise.sublist (List.take_sublist _ _) ?_
    rw [List.pairwise_map]
    exact List.nodup_range.imp (fun {a b} hab q => hab (by omega))
theorem plK_new {rows : List Rw} (ok : RowsOk rows) {k : Nat} {r : Rw} (h : rows[k]? = some r) : dget (plK (rows.take k)) (nmS r.num) = none := by
  rw [dget_none]
  have := plK_keys ok (k + 1)
  rw [take_succ' h] at this
  unfold plK at this ⊢
  rw [List.map_append, List.map_append, List.nodup_append] at this
  intro hm
  exact this.2.2 _ hm _ List.mem_cons_self rfl
theorem plK_old {rows : List Rw} (ok : RowsOk rows) {k a : Nat} (h1 : 1 ≤ a) (h2 : a ≤ k) (hk : k ≤ rows.length) : dget (plK (rows.take k)) (nmS a) = some (.int ((a : Int) - 1)) := by
  have hl : a - 1 < rows.length := by omega
  have hr := List.getElem?_eq_getElem hl
  generalize rows[a - 1] = r at hr
  have hn := ok.num _ _ hr
  have hm : r ∈ rows.take k := by
    refine List.mem_of_getElem? (i := a - 1) ?_
    rw [List.getElem?_take_of_lt (by omega)]; exact hr
  have := dget_mem (p := (nmS r.num, MV.int ((r.num : Int) - 1))) (plK_keys ok k) (List.mem_map.mpr ⟨r, hm, rfl⟩)
  have e : r.num = a := by omega
  rw [e] at this; exact this
section
variable {D : WD} {n : Nat} {mh : MH} {fi d ln lp : Nat} {pl : List (Str × MV)} {ns ps : List Int}
theorem Fam.ne {m : MH} (h : Fam m fi d ln lp pl ns ps) : fi ≠ d ∧ fi ≠ ln ∧ fi ≠ lp ∧ d ≠ ln ∧ d ≠ lp := by
  obtain ⟨h1, ⟨ep, hd⟩, h3, h4, h5⟩ := h
  refine ⟨fun e => ?_, fun e => ?_, fun e => ?_, fun e => ?_, fun e => ?_⟩
  · rw [e, hd] at h1; cases h1
  · rw [e, h3] at h1; cases h1
  · rw [e, h4] at h1; cases h1
  · rw [e, h3] at hd; cases hd
  · rw [e, h4] at hd; cases hd
theorem Fam.setP {m : MH} (h : Fam m fi d ln lp pl ns ps) (ps' : List Int) : Fam (m.set lp (.lst (ps'.map .int))) fi d ln lp pl ns ps' := by
  have ⟨a1, a2, a3, a4, a5⟩ := h.ne
  obtain ⟨h1, ⟨ep, hd⟩, h3, h4, h5⟩ := h
  exact ⟨get_set_ne a3.symm h1, ⟨ep, get_set_ne a5.symm hd⟩, get_set_ne h5.symm h3, get_set_eq (get_lt h4), h5⟩
theorem CW_join {own : Nat} {b : Int} {Q : MV → MH → Prop} (h : Fam mh fi d ln lp pl ns ps) (hz : ps.length ≤ 900) (ho : own < ps.length) (hb : b < own) (hp : ∀ (i : Nat) (x : Int), ps[i]? = some x → i < own → x < i)
    (q : Q .none (mh.set lp (.lst ((ps.set own b).map .int)))) : CW D (n + 2) (.ref 106) [.obj 123 fi, .int b, .int own] Q mh := by
  refine CW_of_KW (KW_defA ["self", "parent", "kid"] rfl ?_)
  refine XsW_cons (XW_if (IW_not (IW_val ?_)))
  refine EW_methK (C := 123) (f := 99) ?_
  walk_at "MR"
  refine ⟨fi, _, rfl, h.1, rfl, ?_⟩
  walk_at "MR"
  refine CW_is_above (n := n) h hz (by omega) hb hp ?_
  refine BW_bool ?_
  rw [if_pos (by rfl)]
  walk_at "MR"
  refine ⟨.ref lp, h.at rfl, ?_⟩
  walk_at "MR"
  refine .lst h.2.2.2.1 (by omega) (by rw [List.length_map]; omega) (by rw [List.length_map]; omega) ?_
  rw [Int.toNat_natCast, show (ps.map MV.int).set own (.int b) = (ps.set own b).map MV.int from by rw [List.map_set]]
  exact XsW_nil (XsW_nil q)
theorem CW_add {rows : List Rw} {k : Nat} {r : Rw} {Q : MV → MH → Prop} (ok : RowsOk rows) (hr : rows[k]? = some r) (h : Fam mh fi d ln lp (plK (rows.take k)) (nsK (rows.take k)) (psK (rows.take k))) (hl : mh[r.rl]? = some (.lst (refsV r))) (hrl : r.rl ∉ [d, ln, lp])
    (q : ∀ m', Fam m' fi d ln lp (plK (rows.take (k + 1))) (nsK (rows.take (k + 1))) (psK (rows.take (k + 1))) → Chg mh m' [d, ln, lp] → Q .none m') : CW D (n + 3) (.ref 113) [.obj 123 fi, .int r.num, .str (nmS r.num), .ref r.rl] Q mh := by
  refine CW_of_KW (KW_defA ["self", "number", "name", "references"] rfl ?_)
  have hlen := ok.len
  have hk := (List.getElem?_eq_some_iff.mp hr).1
  have hnum := ok.num k r hr
  have hab := ok.ab r (List.mem_of_getElem? hr)
  have htl : (rows.take k).length = k := by rw [List.length_take]; omega
  refine XsW_cons (XW_assign2s (EW_tuple ?_))
  refine EsW_cons (EW_methK (C := 123) (f := 92) ?_)
  walk_at "MR"
  refine ⟨fi, _, rfl, h.1, rfl, ?_⟩
  walk_at "MR"
  refine CW_own_place (n := n) h (plK_new ok hr) (nmS_ne (by omega)) (by unfold plK nsK psK; simp only [List.length_map, htl]; omega) fun m1 F1 c1 => ?_
  have e1 : plK (rows.take k) ++ [(nmS r.num, MV.int (nsK (rows.take k)).length)] = plK (rows.take (k + 1)) := by
    rw [take_succ' hr]; unfold plK nsK
    have hc : (k : Int) = (r.num : Int) - 1 := by omega
    rw [List.map_append, List.length_map, htl, hc]
    rfl
  have e2 : nsK (rows.take k) ++ [(r.num : Int)] = nsK (rows.take (k + 1)) := by rw [take_succ' hr]; unfold nsK; rw [List.map_append]; rfl
  have e3 : (nsK (rows.take k)).length = k := by unfold nsK; rw [List.length_map, htl]
  rw [e1, e2] at F1
  rw [e3]
  have hpl : (psK (rows.take k)).length = k := by unfold psK; rw [List.length_map, htl]
  walk_at "MR"
  refine ⟨by simp, _, _, rfl, ?_⟩
  have hl1 := c1 _ _ hl hrl
  refine XsW_cons (XW_for (FW_val ?_))
  walk_at "MR"
  refine ⟨_, _, .lst r.rl _, hl1, ?_⟩
  refine ⟨fun i σ' m => m = m1 ∧ Has σ' [("self", .obj 123 fi), ("own", .int k), ("before", .int (if i = 0 then -1 else (r.ab : Int) - 1))], ⟨rfl, by walk_at "MH"⟩, fun _ _ m h => by rw [h.1]; exact hl1, ?_, ?_⟩
  · rintro i v σ' m hv ⟨rfl, hσ⟩
    have hi : r.ab ≠ 0 ∧ i = 0 ∧ v = .str (nmS r.ab) := by
      unfold refsV at hv
      by_cases h0 : r.ab = 0
      · rw [if_pos h0] at hv; simp at hv
      · rw [if_neg h0] at hv
        cases i with
        | zero => simp at hv; exact ⟨h0, rfl, hv.symm⟩
        | succ i => simp at hv
    obtain ⟨h0, rfl, rfl⟩ := hi
    refine ⟨_, .name _ _ _ _ (.inl rfl), XsW_has hσ.put ?_⟩
    refine XsW_cons (XW_assign (EW_methK (C := 123) (f := 85) ?_))
    walk_at "MR"
    refine ⟨fi, _, rfl, F1.1, rfl, ?_⟩
    walk_at "MR"
    refine CW_place_of (n := n + 1) F1 (plK_old ok (by omega) (by omega) (by omega)) ?_
    walk_at "MR"
    rw [if_neg (by simp), if_neg (by decide)]
    refine XsW_nil ?_
    walk_at "MR"
    exact ⟨rfl, by walk_at "MH"⟩
  · rintro σ' m ⟨rfl, hσ⟩
    have hbf : (if (refsV r).length = 0 then (-1 : Int) else (r.ab : Int) - 1) = (r.ab : Int) - 1 := by
      unfold refsV
      by_cases h0 : r.ab = 0
      · rw [if_pos h0, h0]; rfl
      · rw [if_neg h0]; rfl
    rw [hbf] at hσ
    refine XsW_has hσ ?_
    walk_at "MR"
    refine ⟨.ref lp, F1.at rfl, ?_⟩
    walk_at "MR"
    refine .lst F1.2.2.2.1 (by omega) (by rw [List.length_map, List.length_append, hpl, List.length_singleton]; omega) (by rw [List.length_map, List.length_append, hpl, List.length_singleton]; omega) ?_
    have e4 : ((psK (rows.take k) ++ [-1]).map MV.int).set (Int.toNat (k : Int)) (.int (-1)) = (psK (rows.take k) ++ [-1]).map MV.int := by
      rw [Int.toNat_natCast, List.map_append, List.set_append_right _ _ (by rw [List.length_map, hpl]; exact Nat.le_refl _)]
      simp [hpl]
    rw [e4]
    have F2 := F1.setP (psK (rows.take k) ++ [-1])
    have c2 : Chg mh (m.set lp (.lst ((psK (rows.take k) ++ [-1]).map .int))) [d, ln, lp] := c1.set (by simp)
    generalize m.set lp (.lst ((psK (rows.take k) ++ [-1]).map .int)) = m2 at F2 c2
    have e5 : psK (rows.take (k + 1)) = psK (rows.take k) ++ [(r.ab : Int) - 1] := by rw [take_succ' hr]; unfold psK; rw [List.map_append]; rfl
    walk_at "MR"
    by_cases h0 : r.ab = 0
    · rw [if_neg (by simp; omega)]
      refine XsW_nil (XsW_nil (q _ ?_ c2))
      rw [e5, h0]; exact F2
    · rw [if_pos (by simp; omega)]
      refine XsW_cons (XW_expr (EW_methK (C := 123) (f := 106) ?_))
      walk_at "MR"
      refine ⟨fi, _, rfl, F2.1, rfl, ?_⟩
      walk_at "MR"
      refine CW_join (n := n) F2 (by rw [List.length_append, hpl, List.length_singleton]; omega) (by rw [List.length_append, hpl, List.length_singleton]; omega) (by omega) ?_ ?_
      · intro i x hx hi
        rw [List.getElem?_append_left (by omega)] at hx
        unfold psK at hx
        rw [List.getElem?_map, Option.map_eq_some_iff] at hx
        obtain ⟨w, hw, rfl⟩ := hx
        rw [List.getElem?_take_of_lt (by omega)] at hw
        have h1 := ok.num i w hw
        have h2 := ok.ab w (List.mem_of_getElem? hw)
        omega
      · refine ⟨rfl, XsW_nil (XsW_nil (q _ ?_ (c2.set (by simp))))⟩
        have e6 : (psK (rows.take k) ++ [-1]).set k ((r.ab : Int) - 1) = psK (rows.take (k + 1)) := by
          rw [e5, List.set_append_right _ _ (by rw [hpl]; exact Nat.le_refl _)]
          simp [hpl]
        rw [e6]
        exact F2.setP _
theorem CW_nearest {rows : List Rw} {k : Nat} {r : Rw} {Q : MV → MH → Prop} (ok : RowsOk rows) (hr : rows[k]? = some r) (h : Fam mh fi d ln lp pl (nsK rows) (psK rows)) (q : Q (.tup [.int r.ab, .int k]) mh) : CW D (n + 2) (.ref 120) [.obj 123 fi, .int k] Q mh := by
  refine CW_of_KW (KW_defA ["self", "place"] rfl ?_)
  have hlen := ok.len
  have hk := (List.getElem?_eq_some_iff.mp hr).1
  have hnum := ok.num k r hr
  have hab := ok.ab r (List.mem_of_getElem? hr)
  refine XsW_cons (XW_assign2s (EW_tuple ?_))
  walk_at "MR"
  refine ⟨.ref lp, h.at rfl, ?_⟩
  walk_at "MR"
  refine ⟨.int ((r.ab : Int) - 1), .lst h.2.2.2.1 (by omega) (by unfold psK; rw [Int.toNat_natCast, List.map_map, List.getElem?_map, hr]; rfl) (by unfold psK; rw [List.length_map, List.length_map]; omega), ?_⟩
  walk_at "MR"
  refine ⟨by simp, _, _, rfl, ?_⟩
  have hget : 0 < r.ab → SubAt mh (.ref ln) (.int ((r.ab : Int) - 1)) (.int r.ab) := fun h0 => by
    have hl : r.ab - 1 < rows.length := by omega
    have hw := List.getElem?_eq_getElem hl
    generalize rows[r.ab - 1] = w at hw
    have hwn := ok.num _ _ hw
    refine .lst h.2.2.1 (by omega) ?_ (by unfold nsK; rw [List.length_map, List.length_map]; omega)
    have e : ((r.ab : Int) - 1).toNat = r.ab - 1 := by omega
    have e2 : w.num = r.ab := by omega
    unfold nsK
    rw [e, List.map_map, List.getElem?_map, hw]
    simp [e2]
  refine XsW_cons (XW_while (fun k' σ' m => Has σ' [("self", .obj 123 fi), ("last", .int k), ("above", .int ((r.ab : Int) - 1))] ∧ m = mh) 0 ⟨by walk_at "MH", rfl⟩ ?_)
  rintro k' σ' m ⟨hσ, rfl⟩
  refine IW_has hσ ?_
  refine IW_boolop (AW_and (IW_cmp ?_))
  walk_at "MR"
  by_cases h0 : r.ab = 0
  · rw [if_neg (by simp; omega), if_neg (by decide)]
    refine XsW_has hσ ?_
    refine XsW_cons (XW_return (EW_tuple (EsW_cons (EW_ifexp (IW_cmp ?_)))))
    walk_at "MR"
    rw [if_neg (by simp; omega)]
    walk_at "MR"
    refine ⟨by simp, ?_⟩
    rw [h0] at q; exact q
  · rw [if_pos (by simp; omega)]
    refine AW_and (IW_cmp ?_)
    walk_at "MR"
    refine ⟨.ref ln, h.at rfl, ?_⟩
    walk_at "MR"
    refine ⟨_, hget (by omega), ?_⟩
    walk_at "MR"
    rw [if_neg (by simp; omega), if_neg (by decide)]
    refine XsW_has hσ ?_
    refine XsW_cons (XW_return (EW_tuple (EsW_cons (EW_ifexp (IW_cmp ?_)))))
    walk_at "MR"
    rw [if_pos (by simp; omega)]
    walk_at "MR"
    refine ⟨.ref ln, h.at rfl, ?_⟩
    walk_at "MR"
    refine ⟨_, hget (by omega), ?_⟩
    walk_at "MR"
    refine ⟨by simp, q⟩
theorem CW_family_of {l : Nat} {rows : List Rw} {Q : MV → MH → Prop} (ok : RowsOk rows) (hl : mh[l]? = some (.lst (rows.map Rw.mv))) (hrl : ∀ r ∈ rows, mh[r.rl]? = some (.lst (refsV r)))
    (q : ∀ m' fi d ln lp pl, Ext mh m' → Fam m' fi d ln lp pl (nsK rows) (psK rows) → Q (.obj 123 fi) m') : CW D (n + 4) (.ref 134) [.ref l] Q mh := by
  refine CW_of_KW (KW_defA ["rows"] rfl ?_)
  refine XsW_cons (XW_assign (EW_callK (a := 123) ?_))
  refine EsW_nil ?_
  refine CW_family (n := n + 1) fun m1 fi d ln lp hx1 F1 g1 g2 g3 => ?_
  refine XsW_cons (XW_for (FW_val ?_))
  walk_at "MR"
  refine ⟨_, _, .lst l _, hx1 _ _ hl, ?_⟩
  refine ⟨fun i σ' m => Has σ' [("family", .obj 123 fi)] ∧ Ext mh m ∧ Fam m fi d ln lp (plK (rows.take i)) (nsK (rows.take i)) (psK (rows.take i)), ⟨by walk_at "MH", hx1, by rw [List.take_zero]; exact F1⟩, fun _ _ _ h => h.2.1 _ _ hl, ?_, ?_⟩
  · rintro i v σ' m hv ⟨hσ, hx, F⟩
    rw [List.getElem?_map, Option.map_eq_some_iff] at hv
    obtain ⟨r, hr, rfl⟩ := hv
    have hrm := List.mem_of_getElem? hr
    have hrl' := hrl r hrm
    refine ⟨_, .name _ _ _ _ (.inl rfl), XsW_has hσ.put ?_⟩
    refine XsW_cons (XW_expr (EW_methK (C := 123) (f := 113) ?_))
    walk_at "MR"
    refine ⟨fi, _, rfl, F.1, rfl, ?_⟩
    walk_at "MR"
    refine ⟨.int r.num, .tup (by decide) (by rfl) (by decide), ?_⟩
    walk_at "MR"
    refine ⟨.str (nmS r.num), .tup (by decide) (by rfl) (by decide), ?_⟩
    walk_at "MR"
    refine ⟨.ref r.rl, .tup (by decide) (by rfl) (by decide), ?_⟩
    walk_at "MR"
    have hlt := get_lt hrl'
    refine CW_add (n := n) ok hr F (hx _ _ hrl') (by simp; omega) fun m2 F2 c2 => ?_
    exact ⟨rfl, XsW_nil ⟨by walk_at "MH", Chg.ext hx c2 (by intro i hi; simp at hi; omega), F2⟩⟩
  · rintro σ' m ⟨hσ, hx, F⟩
    rw [List.length_map, List.take_length] at F
    refine XsW_has hσ ?_
    walk_at "MR"
    exact q m fi d ln lp _ hx F
end
end Mine

namespace Mine
noncomputable def ljB (B : Nat) (r : Rw) : Nat := B + 2 * (r.num - 1)
noncomputable def niB (B : Nat) (r : Rw) : Nat := B + 2 * (r.num - 1) + 1
noncomputable def vN (B : Nat) (r : Rw) : MV := .obj 36 (niB B r)
/-- the threads that rows make: later rows hang under earlier ones -/
noncomputable def build (B : Nat) : List Rw → List (Rw × Tr)
  | [] => []
  | r :: rs => (r, .mk (niB B r) (ljB B r) r.num (((build B rs).filter fun p => decide (p.1.ab = r.num)).map (·.2))) :: (build B rs).filter fun p => !decide (p.1.ab = r.num)
structure Srt (rs : List Rw) : Prop where
  lt : rs.Pairwise fun a b => a.num < b.num
  ab : ∀ r ∈ rs, r.ab < r.num
theorem Srt.tail {r : Rw} {rs : List Rw} (h : Srt (r :: rs)) : Srt rs := ⟨(List.pairwise_cons.mp h.lt).2, fun x hx => h.ab x (List.mem_cons_of_mem _ hx)⟩
theorem RowsOk.srt {rows : List Rw} (ok : RowsOk rows) : Srt rows := by
  refine ⟨?_, ok.ab⟩
  have : (rows.map Rw.num).Pairwise (· < ·) := by
    rw [ok.nums, List.pairwise_map]
    exact List.pairwise_lt_range.imp (fun h => by omega)
  rw [List.pairwise_map] at this; exact this
theorem build_v (B : Nat) : ∀ (rs : List Rw), ∀ p ∈ build B rs, p.2.v = vN B p.1
  | r :: rs, p, hp => by
    rw [build] at hp
    rcases List.mem_cons.mp hp with rfl | hp
    · rfl
    · exact build_v B rs p (List.mem_filter.mp hp).1
noncomputable def free (rs : List Rw) (x : Rw) : Bool := rs.all fun q => !decide (q.num = x.ab)
theorem build_fst (B : Nat) : ∀ (rs : List Rw), Srt rs → (build B rs).map (·.1) = rs.filter (free rs)
  | [], _ => rfl
  | r :: rs, h => by
    have ih := build_fst B rs h.tail
    rw [build, List.map_cons]
    have hr : free (r :: rs) r = true := by
      unfold free
      rw [List.all_eq_true]
      intro q hq
      have h1 := h.ab r List.mem_cons_self
      rcases List.mem_cons.mp hq with rfl | hq
      · simp; omega
      · have := (List.pairwise_cons.mp h.lt).1 q hq
        simp; omega
    rw [List.filter_cons, hr, if_pos rfl]
    congr 1
    have e : ((build B rs).filter fun p => !decide (p.1.ab = r.num)).map (·.1) = ((build B rs).map (·.1)).filter fun x => !decide (x.ab = r.num) := by rw [List.filter_map]; rfl
    rw [e, ih, List.filter_filter]
    apply List.filter_congr
    intro x _
    show (!decide (x.ab = r.num) && free rs x) = ((!decide (r.num = x.ab)) && free rs x)
    rw [show decide (r.num = x.ab) = decide (x.ab = r.num) from decide_eq_decide.mpr eq_comm]
theorem build_kids (B : Nat) {r : Rw} {rs : List Rw} (h : Srt (r :: rs)) : (((build B rs).filter fun p => decide (p.1.ab = r.num)).map (·.2)).map Tr.v = (rs.filter fun x => decide (x.ab = r.num)).map (vN B) := by
  have e1 : (((build B rs).filter fun p => decide (p.1.ab = r.num)).map (·.2)).map Tr.v = (((build B rs).filter fun p => decide (p.1.ab = r.num)).map (·.1)).map (vN B) := by
    rw [List.map_map, List.map_map]
    apply List.map_congr_left
    intro p hp
    exact build_v B rs p (List.mem_filter.mp hp).1
  have e2 : ((build B rs).filter fun p => decide (p.1.ab = r.num)).map (·.1) = ((build B rs).map (·.1)).filter fun x => decide (x.ab = r.num) := by rw [List.filter_map]; rfl
  rw [e1, e2, build_fst B rs h.tail, List.filter_filter]
  congr 1
  apply List.filter_congr
  intro x _
  by_cases hx : x.ab = r.num
  · rw [decide_eq_true hx, Bool.true_and]
    unfold free
    rw [List.all_eq_true]
    intro q hq
    have := (List.pairwise_cons.mp h.lt).1 q hq
    simp; omega
  · rw [decide_eq_false hx, Bool.false_and]
noncomputable def trip (s : Tr) : Nat × Nat × Int := (s.i, s.j, s.k)
theorem build_pres (B : Nat) : ∀ (rs : List Rw), ((Tr.pres ((build B rs).map (·.2))).map trip).Perm (rs.map fun r => (niB B r, ljB B r, (r.num : Int)))
  | [] => by rw [build]; exact List.Perm.refl _
  | r :: rs => by
    have ih := build_pres B rs
    rw [build, List.map_cons, pres_cons, List.map_cons, List.map_cons]
    refine List.Perm.cons _ (List.Perm.trans ?_ ih)
    rw [← pres_append]
    refine List.Perm.map trip ?_
    show (Tr.pres (((build B rs).filter _).map _ ++ ((build B rs).filter _).map _)).Perm _
    rw [← List.map_append, pres_flat, pres_flat]
    exact ((List.filter_append_perm _ _).map _).flatMap_right _
theorem filter_skip {r : Rw} {rs : List Rw} (h : Srt (r :: rs)) {x : Rw} (hx : x ∈ r :: rs) : (r :: rs).filter (fun y => decide (y.ab = x.num)) = rs.filter fun y => decide (y.ab = x.num) := by
  rw [List.filter_cons, if_neg]
  have h1 := h.ab r List.mem_cons_self
  rcases List.mem_cons.mp hx with rfl | hx
  · simp; omega
  · have := (List.pairwise_cons.mp h.lt).1 x hx
    simp; omega
theorem build_at {m : MH} (B : Nat) : ∀ (rs : List Rw), Srt rs → (∀ r ∈ rs, NK m (niB B r) (ljB B r) r.num ((rs.filter fun x => decide (x.ab = r.num)).map (vN B))) → TreesAt m ((build B rs).map (·.2))
  | [], _, _ => trivial
  | r :: rs, h, hN => by
    have ih := build_at B rs h.tail fun x hx => by
      have := hN x (List.mem_cons_of_mem _ hx)
      rw [filter_skip h (List.mem_cons_of_mem _ hx)] at this; exact this
    rw [treesAt_iff] at ih
    rw [build, List.map_cons, TreesAt]
    refine ⟨?_, ?_⟩
    · rw [TreeAt]
      refine ⟨?_, ?_⟩
      · have := hN r List.mem_cons_self
        rw [filter_skip h List.mem_cons_self, ← build_kids B h] at this; exact this
      · rw [treesAt_iff]
        intro t ht
        obtain ⟨p, hp, rfl⟩ := List.mem_map.mp ht
        exact ih _ (List.mem_map.mpr ⟨p, (List.mem_filter.mp hp).1, rfl⟩)
    · rw [treesAt_iff]
      intro t ht
      obtain ⟨p, hp, rfl⟩ := List.mem_map.mp ht
      exact ih _ (List.mem_map.mpr ⟨p, (List.mem_filter.mp hp).1, rfl⟩)
theorem build_Fst {m : MH} (B : Nat) {rows : List Rw} (ok : RowsOk rows) (hN : ∀ r ∈ rows, NK m (niB B r) (ljB B r) r.num ((rows.filter fun x => decide (x.ab = r.num)).map (vN B))) :
    Fst m rows ((build B rows).map (·.2)) ∧ ((build B rows).map (·.2)).map Tr.v = (rows.filter fun r => decide (r.ab = 0)).map (vN B) := by
  have hp := build_pres B rows
  have hall : ∀ s ∈ Tr.pres ((build B rows).map (·.2)), ∃ r ∈ rows, (r.num : Int) = s.k := fun s hs => by
    have := hp.mem_iff.mp (List.mem_map.mpr ⟨s, hs, rfl⟩)
    obtain ⟨r, hr, e⟩ := List.mem_map.mp this
    exact ⟨r, hr, (Prod.mk.inj (Prod.mk.inj e).2).2⟩
  have hpos : ∀ s ∈ Tr.pres ((build B rows).map (·.2)), 0 < s.k := fun s hs => by
    obtain ⟨r, hr, e⟩ := hall s hs
    have := ok.mem hr; omega
  have hnn : (rows.map Rw.num).Nodup := by
    rw [ok.nums, List.Nodup, List.pairwise_map]
    exact List.nodup_range.imp (fun {a b} hab q => hab (by omega))
  refine ⟨⟨build_at B rows ok.srt hN, ?_, fun s hs c hc => hpos c ((kids_sub hs).subset hc), fun t ht => .inl (hpos t ((sub_pres _).subset ht)), ?_, fun s hs _ => hall s hs⟩, ?_⟩
  · have h1 := (hp.map (·.1)).nodup_iff
    rw [List.map_map, List.map_map] at h1
    refine h1.mpr ?_
    rw [List.Nodup, List.pairwise_map] at hnn ⊢
    refine List.Pairwise.imp_of_mem (fun {a b} ha hb hab q => hab ?_) hnn
    have q' : niB B a = niB B b := q
    have := ok.mem ha
    have := ok.mem hb
    unfold niB at q'; omega
  · have h1 := (hp.map (fun x => x.2.2)).nodup_iff
    rw [List.map_map, List.map_map] at h1
    have h2 : ((Tr.pres ((build B rows).map (·.2))).map Tr.k).Nodup := by
      refine h1.mpr ?_
      rw [List.Nodup, List.pairwise_map] at hnn ⊢
      exact hnn.imp (fun {a b} hab q => hab (by have q' : (a.num : Int) = b.num := q; omega))
    exact h2.sublist List.filter_sublist
  · have e1 : ((build B rows).map (·.2)).map Tr.v = ((build B rows).map (·.1)).map (vN B) := by
      rw [List.map_map, List.map_map]
      apply List.map_congr_left
      intro p hp
      exact build_v B rows p hp
    rw [e1, build_fst B rows ok.srt]
    congr 1
    apply List.filter_congr
    intro x hx
    unfold free
    by_cases h0 : x.ab = 0
    · rw [decide_eq_true h0, List.all_eq_true]
      intro q hq
      have := ok.mem hq
      simp; omega
    · rw [decide_eq_false h0]
      have hab := ok.ab x hx
      have hxm := ok.mem hx
      have hl : x.ab - 1 < rows.length := by omega
      have hw := List.getElem?_eq_getElem hl
      have hwn := ok.num _ _ hw
      rw [List.all_eq_false]
      exact ⟨_, List.mem_of_getElem? hw, by simp; omega⟩
end Mine

namespace Mine
section
variable {D : WD} {n : Nat} {mh : MH} {fi d ln lp : Nat} {pl : List (Str × MV)}
theorem get_snocN {α : Type} {l : List α} {a : α} {k : Nat} (h : k = l.length) : (l ++ [a])[k]? = some a := by rw [h]; exact get_snoc
theorem CW_pruned {rows : List Rw} {Q : MV → MH → Prop} (ok : RowsOk rows) (h : Fam mh fi d ln lp pl (nsK rows) (psK rows))
    (q : ∀ m' r ts, m'[r]? = some (.lst (ts.map Tr.v)) → Fst m' rows ts → Ext mh m' → Q (.ref r) m') : CW D (n + 4) (.ref 139) [.obj 123 fi] Q mh := by
  refine CW_of_KW (KW_defB ["family"] rfl ?_ (hcn := by intro n; simp [cellsFrom]))
  have hlen := ok.len
  have hln := h.2.2.1
  have hlnL := get_lt hln
  walk_at "MR"
  refine EW_comp [] capNil (FW_val ?_)
  walk_at "MR"
  refine ⟨.ref ln, h.at rfl, _, _, .lst ln _, hln, ?_⟩
  -- the nodes
  generalize hB : mh.length = B at *
  refine ⟨by unfold nsK; rw [List.length_map, List.length_map]; omega, fun i out m => m.length = B + 2 * i ∧ Ext mh m ∧ out = (rows.take i).map (fun r => MV.tup [.int r.num, vN B r]) ∧ ∀ r ∈ rows.take i, NK m (niB B r) (ljB B r) r.num [],
    ⟨by omega, Ext.refl _, by simp, fun r hr => by simp at hr⟩, fun _ _ _ h => h.2.1 _ _ hln, ?_, ?_⟩
  · rintro i v out m hv ⟨hml, hx, rfl, hN⟩
    unfold nsK at hv
    rw [List.map_map, List.getElem?_map, Option.map_eq_some_iff] at hv
    obtain ⟨r, hr, e⟩ := hv
    have e : v = MV.int r.num := e.symm
    subst e
    have hrm := ok.mem (List.mem_of_getElem? hr)
    have hnum := ok.num _ _ hr
    refine ⟨_, .name _ _ _ _ (by rfl), ?_⟩
    refine IW_cmp ?_
    walk_at "MR"
    rw [if_pos (by simp; omega)]
    walk_at "MR"
    refine EW_callK (a := 36) ?_
    walk_at "MR"
    refine ⟨by simp, EsW_nil (CW_node (n := n + 1) ?_)⟩
    walk_at "MR"
    refine ⟨by simp, ?_⟩
    have hlj : m.length = ljB B r := by unfold ljB; omega
    have hni : (m ++ [MO.lst []]).length = niB B r := by rw [List.length_append, List.length_singleton]; unfold niB; omega
    have hv : MV.obj 36 (m ++ [MO.lst []]).length = vN B r := by rw [hni]; rfl
    refine ⟨by simp; omega, (hx.snoc _).snoc _, ?_, ?_⟩
    · rw [hv, take_succ' hr, List.map_append]; rfl
    · intro w hw
      rw [take_succ' hr] at hw
      rcases List.mem_append.mp hw with hw | hw
      · have := hN w hw
        exact ⟨get_ext (get_ext this.1), get_ext (get_ext this.2)⟩
      · rw [List.mem_singleton.mp hw]
        refine ⟨?_, get_ext (get_snocN hlj.symm)⟩
        rw [get_snocN hni.symm, hlj]
  rintro out m ⟨hml, hx, rfl, hN⟩
  have hnl : ((nsK rows).map MV.int).length = rows.length := by unfold nsK; rw [List.length_map, List.length_map]
  rw [hnl] at hml hN
  rw [hnl, List.take_length]
  rw [List.take_length] at hN
  refine ⟨m.length, rows.map fun r => ((r.num : Int), vN B r), rfl, by rw [get_snoc, List.map_map]; rfl, by rw [List.length_map]; omega, ?_, fun ep => ?_⟩
  · have := ok.nodup
    rw [List.map_map] at this ⊢
    exact this
  have hdn : ((rows.map fun r => ((r.num : Int), vN B r)).map (·.1)).Nodup := by
    have := ok.nodup
    rw [List.map_map] at this ⊢
    exact this
  have hdg : ∀ r ∈ rows, dget (rows.map fun r => ((r.num : Int), vN B r)) r.num = some (vN B r) := fun r hr => dget_mem (p := ((r.num : Int), vN B r)) hdn (List.mem_map.mpr ⟨r, hr, rfl⟩)
  have hnd : (m ++ [MO.lst (rows.map fun r => MV.tup [.int r.num, vN B r])]).length = m.length + 1 := by simp
  rw [hnd]
  have hnd1 := get_snocN (a := MO.dctI ep (rows.map fun r => ((r.num : Int), vN B r))) hnd.symm
  have hx1 : Ext m ((m ++ [MO.lst (rows.map fun r => MV.tup [.int r.num, vN B r])]) ++ [MO.dctI ep (rows.map fun r => ((r.num : Int), vN B r))]) := (Ext.app _ _).snoc _
  have hl1 : ((m ++ [MO.lst (rows.map fun r => MV.tup [.int r.num, vN B r])]) ++ [MO.dctI ep (rows.map fun r => ((r.num : Int), vN B r))]).length = m.length + 2 := by simp
  generalize ((m ++ [MO.lst (rows.map fun r => MV.tup [.int r.num, vN B r])]) ++ [MO.dctI ep (rows.map fun r => ((r.num : Int), vN B r))]) = m1 at hnd1 hx1 hl1
  refine XsW_cons (XW_assign (EW_dictI fun ep0 => ?_))
  rw [hl1]
  have htp : (m1 ++ [MO.dctI ep0 []])[m.length + 2]? = some (MO.dctI ep0 []) := get_snocN hl1.symm
  have hx2 : Ext mh (m1 ++ [MO.dctI ep0 []]) := (hx.trans hx1).snoc _
  refine XsW_cons (XW_for (FW_enum ?_))
  walk_at "MR"
  have F2 : Fam (m1 ++ [MO.dctI ep0 []]) fi d ln lp pl (nsK rows) (psK rows) := ⟨hx2 _ _ h.1, ⟨h.2.1.choose, hx2 _ _ h.2.1.choose_spec⟩, hx2 _ _ hln, hx2 _ _ h.2.2.2.1, h.2.2.2.2⟩
  refine ⟨.ref ln, F2.at rfl, ln, _, rfl, hx2 _ _ hln, ?_⟩
  generalize htpd : m.length + 2 = tp at *
  have hkinds : ∀ r ∈ rows, niB B r < m.length ∧ ljB B r < m.length ∧ B ≤ ljB B r := fun r hr => by
    have := ok.mem hr
    unfold niB ljB; omega
  refine ⟨fun i σ' m' => Has σ' [("family", .obj 123 fi), ("nodes", .ref (m.length + 1)), ("tops", .ref tp)] ∧ Ext mh m' ∧ m'[m.length + 1]? = some (.dctI ep (rows.map fun r => ((r.num : Int), vN B r))) ∧
      (∀ r ∈ rows, NK m' (niB B r) (ljB B r) r.num (((rows.take i).filter fun x => decide (x.ab = r.num)).map (vN B))) ∧
      ∃ (ep2 : Nat) (Tq : List (Rw × Nat)), m'[tp]? = some (.dctI ep2 (Tq.map fun p => ((p.1.num : Int) - 1, MV.ref p.2))) ∧ Tq.map (·.1) = (rows.take i).filter (fun x => decide (x.ab = 0)) ∧ ∀ p ∈ Tq, m'[p.2]? = some (.lst [vN B p.1]) ∧ tp < p.2,
    ⟨by walk_at "MH", hx2, get_ext hnd1, fun r hr => ?_, ep0, [], htp, by simp, fun p hp => nomatch hp⟩, fun _ _ _ h => h.2.1 _ _ hln, ?_, ?_⟩
  · have := hN r hr
    rw [List.take_zero]
    exact ⟨get_ext (hx1 _ _ this.1), get_ext (hx1 _ _ this.2)⟩
  · rintro i v σ' m2 hv ⟨hσ, hx3, hnd3, hN3, ep2, Tq, htp3, hTq, hTl⟩
    rw [List.getElem?_mapIdx, Option.map_eq_some_iff] at hv
    obtain ⟨tv, hv, rfl⟩ := hv
    unfold nsK at hv
    rw [List.map_map, List.getElem?_map, Option.map_eq_some_iff] at hv
    obtain ⟨r, hr, e⟩ := hv
    have e : tv = MV.int r.num := e.symm
    subst e
    have hrm := List.mem_of_getElem? hr
    have hrn := ok.mem hrm
    have hnum := ok.num _ _ hr
    have hab := ok.ab r hrm
    have F3 : Fam m2 fi d ln lp pl (nsK rows) (psK rows) := ⟨hx3 _ _ h.1, ⟨h.2.1.choose, hx3 _ _ h.2.1.choose_spec⟩, hx3 _ _ hln, hx3 _ _ h.2.2.2.1, h.2.2.2.2⟩
    have hil := (List.getElem?_eq_some_iff.mp hr).1
    refine ⟨_, .pair _ _ _ _ _ _ _ _ _ (.inl rfl) (.inl rfl), XsW_has (hσ.put.put) ?_⟩
    refine XsW_cons (XW_if (IW_cmp ?_))
    walk_at "MR"
    rw [if_pos (by simp; omega)]
    refine XsW_cons (XW_assign2 (EW_methK (C := 123) (f := 120) ?_))
    walk_at "MR"
    refine ⟨fi, _, rfl, F3.1, rfl, ?_⟩
    walk_at "MR"
    refine CW_nearest (n := n + 1) ok hr F3 ⟨_, _, rfl, ?_⟩
    walk_at "MR"
    by_cases h0 : r.ab = 0
    · rw [if_neg (by simp; omega)]
      refine XsW_cons (XW_expr (EW_append (EW_setdefault ?_)))
      walk_at "MR"
      refine ⟨tp, ep2, _, rfl, htp3, ?_⟩
      walk_at "MR"
      refine ⟨by simp, ?_⟩
      have hlk : (Tq.map fun p => ((p.1.num : Int) - 1, MV.ref p.2)).map (·.1) = ((rows.take i).filter fun x => decide (x.ab = 0)).map fun r => (r.num : Int) - 1 := by
        rw [← hTq, List.map_map, List.map_map]; rfl
      have hnew : (i : Int) ∉ (Tq.map fun p => ((p.1.num : Int) - 1, MV.ref p.2)).map (·.1) := by
        rw [hlk]
        intro hm
        obtain ⟨w, hw, e⟩ := List.mem_map.mp hm
        obtain ⟨k, hk⟩ := List.mem_iff_getElem?.mp (List.mem_filter.mp hw).1
        have hki : k < i := by
          have := (List.getElem?_eq_some_iff.mp hk).1
          rw [List.length_take] at this; omega
        rw [List.getElem?_take_of_lt hki] at hk
        have := ok.num _ _ hk
        omega
      have hTz : Tq.length ≤ 9 := by
        have h1 := congrArg List.length hTq
        rw [List.length_map] at h1
        have h2 := List.length_filter_le (fun x : Rw => decide (x.ab = 0)) (rows.take i)
        rw [List.length_take] at h2; omega
      have htpl := get_lt htp3
      refine ⟨i, ep2, _, rfl, get_ext htp3, by rw [List.length_map]; omega, dget_none.mpr hnew, fun ep3 => ?_⟩
      rw [dput_new hnew]
      have hq : (List.set (m2 ++ [MO.lst []]) tp (MO.dctI ep3 ((Tq.map fun p => ((p.1.num : Int) - 1, MV.ref p.2)) ++ [((i : Int), MV.ref m2.length)])))[m2.length]? = some (MO.lst []) := get_set_ne (by omega) get_snoc
      refine ⟨m2.length, [], rfl, hq, ?_⟩
      walk_at "MR"
      have hm1n : m.length + 1 ≠ tp := by omega
      refine ⟨vN B r, .dctI (get_set_ne (fun e => hm1n e.symm) (get_ext hnd3)) (hdg r hrm), [], hq, by simp, rfl, ?_⟩
      rw [List.nil_append]
      have hnn : ∀ {a : Nat} {o : MO}, m2[a]? = some o → a ≠ tp → ((List.set (m2 ++ [MO.lst []]) tp (MO.dctI ep3 ((Tq.map fun p => ((p.1.num : Int) - 1, MV.ref p.2)) ++ [((i : Int), MV.ref m2.length)]))).set m2.length (.lst [vN B r]))[a]? = some o := fun {a o} ha hne =>
        get_set_ne (by have := get_lt ha; omega) (get_set_ne (fun e => hne e.symm) (get_ext ha))
      refine XsW_nil (XsW_nil (XsW_nil ⟨by walk_at "MH", ?_, hnn hnd3 hm1n, fun w hw => ?_, ep3, Tq ++ [(r, m2.length)], ?_, ?_, ?_⟩))
      · refine ((hx3.snoc _).set ?_).set ?_
        · omega
        · have := hx3.len; omega
      · have h1 := hN3 w hw
        have h2 := hkinds w hw
        have h3 := ok.mem hw
        rw [take_succ' hr, List.filter_append, show [r].filter (fun x => decide (x.ab = w.num)) = [] from by simp; omega, List.append_nil]
        exact ⟨hnn h1.1 (by omega), hnn h1.2 (by omega)⟩
      · rw [List.map_append, List.map_singleton]
        have e : (r.num : Int) - 1 = i := by omega
        dsimp only
        rw [e]
        exact get_set_ne (by omega) (get_set_eq (by simp; omega))
      · rw [List.map_append, hTq, take_succ' hr, List.filter_append, show [r].filter (fun x => decide (x.ab = 0)) = [r] from by simp [h0]]; rfl
      · intro p hp
        rcases List.mem_append.mp hp with hp | hp
        · obtain ⟨a1, a2⟩ := hTl p hp
          exact ⟨hnn a1 (by omega), a2⟩
        · rw [List.mem_singleton.mp hp]
          exact ⟨get_set_eq (by simp), by omega⟩
    · rw [if_pos (by simp; omega)]
      have hwl : r.ab - 1 < rows.length := by omega
      have hw := List.getElem?_eq_getElem hwl
      generalize rows[r.ab - 1] = w at hw
      have hwn := ok.num _ _ hw
      have hwm := List.mem_of_getElem? hw
      have hwe : (w.num : Int) = r.ab := by omega
      have hNw := hN3 w hwm
      refine XsW_cons (XW_expr (EW_append ?_))
      walk_at "MR"
      refine ⟨vN B w, .dctI hnd3 (by rw [← hwe]; exact hdg w hwm), ?_⟩
      refine ⟨.ref (ljB B w), attr_kids hNw, ljB B w, _, rfl, hNw.2, ?_⟩
      walk_at "MR"
      refine ⟨vN B r, .dctI hnd3 (hdg r hrm), _, hNw.2, ?_, rfl, ?_⟩
      · rw [List.length_map]
        have h2 := List.length_filter_le (fun x : Rw => decide (x.ab = w.num)) (rows.take i)
        rw [List.length_take] at h2; omega
      have hkw := hkinds w hwm
      refine XsW_nil (XsW_nil (XsW_nil ⟨by walk_at "MH", hx3.set (by omega), get_set_ne (by omega) hnd3, fun x hxm => ?_, ep2, Tq, get_set_ne (by omega) htp3, ?_, ?_⟩))
      · have h1 := hN3 x hxm
        have h2 := hkinds x hxm
        have h3 := ok.mem hxm
        have h4 := ok.mem hwm
        rw [take_succ' hr, List.filter_append]
        by_cases hxw : x.num = w.num
        · have : x = w := ok.inj hxm hwm hxw
          subst this
          rw [show [r].filter (fun y => decide (y.ab = x.num)) = [r] from by simp; omega, List.map_append]
          exact ⟨get_set_ne (by unfold niB ljB; omega) h1.1, get_set_eq (get_lt h1.2)⟩
        · rw [show [r].filter (fun y => decide (y.ab = x.num)) = [] from by simp; omega, List.append_nil]
          exact ⟨get_set_ne (by unfold niB ljB; omega) h1.1, get_set_ne (by unfold ljB; omega) h1.2⟩
      · rw [hTq, take_succ' hr, List.filter_append, show [r].filter (fun x => decide (x.ab = 0)) = [] from by simp [h0], List.append_nil]
      · intro p hp
        obtain ⟨a1, a2⟩ := hTl p hp
        exact ⟨get_set_ne (by omega) a1, a2⟩
  · rintro σ' m2 ⟨hσ, hx3, hnd3, hN3, ep2, Tq, htp3, hTq, hTl⟩
    rw [List.length_mapIdx, hnl, List.take_length] at hTq
    simp only [List.length_mapIdx, hnl, List.take_length] at hN3
    obtain ⟨fF, hvF⟩ := build_Fst B ok hN3
    have hTz : Tq.length ≤ 9 := by
      have h1 := congrArg List.length hTq
      rw [List.length_map] at h1
      have h2 := List.length_filter_le (fun x : Rw => decide (x.ab = 0)) rows
      omega
    refine XsW_has hσ ?_
    walk_at "MR"
    refine EW_comp ["tops"] (capOne "tops") (FW_val ?_)
    walk_at "MR"
    refine ⟨_, _, .dctI tp ep2 _, htp3, ?_⟩
    rw [List.map_map]
    have hkn : ((Tq.map fun p => ((p.1.num : Int) - 1, MV.ref p.2)).map (·.1)).Nodup := by
      have e : (Tq.map fun p => ((p.1.num : Int) - 1, MV.ref p.2)).map (·.1) = (Tq.map (·.1)).map fun r => (r.num : Int) - 1 := by rw [List.map_map, List.map_map]; rfl
      rw [e, hTq]
      have h1 := ok.nodup
      rw [List.map_map] at h1
      rw [List.Nodup, List.pairwise_map] at h1 ⊢
      exact (h1.sublist List.filter_sublist).imp (fun {a b} hab q => hab (by show (a.num : Int) = b.num; omega))
    refine compM (fun p => vN B p.1) (fun _ => true) (by omega) (fun m' hx' => hx' _ _ htp3) ?_ ?_
    · intro p m3 hp hx4
      have hgp : SubAt m3 (.ref tp) (.int ((p.1.num : Int) - 1)) (.ref p.2) := .dctI (hx4 _ _ htp3) (dget_mem (p := ((p.1.num : Int) - 1, MV.ref p.2)) hkn (List.mem_map.mpr ⟨p, hp, rfl⟩))
      refine ⟨_, .name _ _ _ _ (by rfl), rfl, hx4, fun _ => ?_⟩
      refine EW_ifexp (IW_cmp ?_)
      walk_at "MR"
      refine ⟨_, hgp, p.2, _, rfl, hx4 _ _ (hTl p hp).1, by simp, ?_⟩
      walk_at "MR"
      rw [if_pos (by rfl)]
      walk_at "MR"
      refine ⟨_, hgp, ?_⟩
      walk_at "MR"
      exact ⟨_, .lst (hx4 _ _ (hTl p hp).1) (by omega) (by rfl) (by simp), rfl, hx4⟩
    · intro m3 hx4
      have e : ((Tq.filter fun _ => true).map fun p => vN B p.1) = ((build B rows).map (·.2)).map Tr.v := by
        rw [hvF, ← hTq, List.filter_eq_self.mpr (by simp), List.map_map]; rfl
      rw [e]
      exact q _ _ _ get_snoc { fF with at_ := fF.at_.ext (hx4.snoc _) } ((hx3.trans hx4).snoc _)
end
end Mine

namespace Mine
noncomputable def RowsAt (mh : MH) (l : Nat) (rows : List Rw) : Prop := mh[l]? = some (.lst (rows.map Rw.mv)) ∧ ∀ r ∈ rows, mh[r.rl]? = some (.lst (refsV r))
theorem RowsAt.ext {a b : MH} {l : Nat} {rows : List Rw} (h : RowsAt a l rows) (x : Ext a b) : RowsAt b l rows := ⟨x _ _ h.1, fun r hr => x _ _ (h.2 r hr)⟩
section
variable {D : WD} {n : Nat} {mh : MH}
theorem CW_reference_threads {l : Nat} {rows : List Rw} {Q : MV → MH → Prop} (ok : RowsOk rows) (hl : RowsAt mh l rows)
    (q : ∀ m' r ts, m'[r]? = some (.lst (ts.map Tr.v)) → Fst m' rows ts → Keep mh m' → Q (.ref r) m') : CW D (n + 14) (.ref 205) [.ref l] Q mh := by
  refine CW_of_KW (KW_defA ["rows"] rfl ?_)
  refine XsW_cons (XW_assign (EW_callK (a := 144) ?_))
  walk_at "MR"
  refine CW_row_table (n := n + 12) ok hl.1 fun m1 ep1 hx1 => ?_
  have hx1' : Ext mh (m1 ++ [MO.dctI ep1 (rows.map rowKv)]) := hx1.snoc _
  have ht1 : Tab (m1 ++ [MO.dctI ep1 (rows.map rowKv)]) m1.length rows := ⟨ep1, get_snoc⟩
  generalize m1 ++ [MO.dctI ep1 (rows.map rowKv)] = m2 at hx1' ht1
  generalize m1.length = tb at *
  refine XsW_cons (XW_return (EW_callK (a := 165) ?_))
  refine EsW_cons (EW_callK (a := 198) ?_)
  refine EsW_cons (EW_callK (a := 165) ?_)
  refine EsW_cons (EW_callK (a := 139) ?_)
  refine EsW_cons (EW_callK (a := 134) ?_)
  walk_at "MR"
  refine CW_family_of (n := n + 9) ok (hl.ext hx1').1 (hl.ext hx1').2 fun m3 fi d ln lp pl hx3 F => ?_
  walk_at "MR"
  refine CW_pruned (n := n + 9) ok F fun m4 r4 ts4 h4 f4 hx4 => ?_
  walk_at "MR"
  have ht4 : Tab m4 tb rows := (hx3.trans hx4).keep.tab ht1
  refine CW_order_all (n := n + 1) ok f4 h4 ht4 fun m5 r5 ts5 h5 f5 k5 => ?_
  walk_at "MR"
  refine CW_gathered (n := n) ok f5 h5 (k5.tab ht4) fun m6 r6 ts6 h6 f6 k6 => ?_
  walk_at "MR"
  refine CW_order_all (n := n + 1) ok f6 h6 (k6.tab (k5.tab ht4)) fun m7 r7 ts7 h7 f7 k7 => ?_
  exact q m7 r7 ts7 h7 f7 (((((hx1'.trans hx3).trans hx4).keep.trans k5).trans k6).trans k7)
end
/-! the subjects' groups -/
noncomputable def kr (r : Rw) : Key := (r.day, (r.num : Int))
structure Line (rows line : List Rw) : Prop where
  perm : line.Perm rows
  lt : line.Pairwise fun a b => klt (kr a) (kr b) = true
theorem klt_asymm {a b : Key} (h1 : klt a b = true) (h2 : klt b a = true) : False := by
  simp only [klt, Bool.or_eq_true, Bool.and_eq_true, decide_eq_true_eq, beq_iff_eq] at h1 h2
  omega
theorem Line.uniq {rows a b : List Rw} (x : Line rows a) (y : Line rows b) : a = b :=
  List.Perm.eq_of_pairwise (fun _ _ _ _ h1 h2 => (klt_asymm h1 h2).elim) x.lt y.lt (x.perm.trans y.perm.symm)
noncomputable def kfR (v : MV) : Key := match v with | .tup (.int a :: _ :: _ :: .int d :: _) => (d, a) | _ => (0, 0)
theorem kfR_mv (r : Rw) : kfR r.mv = kr r := rfl
theorem Line.of {rows : List Rw} {out : List MV} (h : Sorted kfR (rows.map Rw.mv) out) : ∃ line, out = line.map Rw.mv ∧ Line rows line := by
  obtain ⟨line, h1, h2⟩ := perm_lift h.1 rows rfl
  refine ⟨line, h2.symm, h1, ?_⟩
  have := h.2
  rw [← h2, List.pairwise_map] at this
  exact this
noncomputable abbrev Grp := Rw × List Rw
noncomputable def stepG (G : List Grp) (r : Rw) : List Grp :=
  if G.any (fun g => decide (g.1.base = r.base)) then G.map (fun g => if g.1.base = r.base then (g.1, g.2 ++ [r]) else g) else G ++ [(r, [])]
noncomputable def dAt (line : List Rw) (i : Nat) : Option Grp :=
  match line[i]? with
  | some r => if (line.take i).any (fun x => decide (x.base = r.base)) then none else some (r, (line.drop (i + 1)).filter fun x => decide (x.base = r.base))
  | none => none
noncomputable def dueG (line : List Rw) : List Grp := (List.range line.length).filterMap (dAt line)
theorem dAt_snoc {line : List Rw} {r : Rw} {i : Nat} (h : i < line.length) : dAt (line ++ [r]) i = (dAt line i).map fun g => if g.1.base = r.base then (g.1, g.2 ++ [r]) else g := by
  unfold dAt
  rw [List.getElem?_append_left h]
  have hx := List.getElem?_eq_getElem h
  generalize line[i] = x at hx
  rw [hx]
  dsimp only
  rw [List.take_append_of_le_length (by omega), List.drop_append_of_le_length (by omega)]
  by_cases ha : (line.take i).any (fun y => decide (y.base = x.base)) = true
  · rw [if_pos ha, if_pos ha]; rfl
  · rw [if_neg ha, if_neg ha, Option.map_some, List.filter_append]
    by_cases hb : x.base = r.base
    · rw [if_pos hb]
      simp [hb]
    · rw [if_neg hb]
      have : ¬ r.base = x.base := fun e => hb e.symm
      simp [this]
theorem dAt_last (line : List Rw) (r : Rw) : dAt (line ++ [r]) line.length = if line.any (fun x => decide (x.base = r.base)) then none else some (r, []) := by
  unfold dAt
  rw [get_snoc]
  dsimp only
  rw [List.take_left, List.drop_eq_nil_of_le (by simp)]
  rfl
theorem snoc_ind {α : Type} {P : List α → Prop} (h0 : P []) (h1 : ∀ l a, P l → P (l ++ [a])) (l : List α) : P l := by
  have : ∀ k, ∀ l : List α, l.length = k → P l := by
    intro k
    induction k with
    | zero => intro l h; rw [List.eq_nil_of_length_eq_zero h]; exact h0
    | succ k ih =>
      intro l h
      have hne : l ≠ [] := fun e => by rw [e] at h; cases h
      rw [← List.dropLast_concat_getLast hne]
      exact h1 _ _ (ih _ (by rw [List.length_dropLast]; omega))
  exact this _ l rfl
theorem filterMap_congr' {α β : Type} {f g : α → Option β} : ∀ {l : List α}, (∀ a ∈ l, f a = g a) → l.filterMap f = l.filterMap g
  | [], _ => rfl
  | a :: l, h => by
    rw [List.filterMap_cons, List.filterMap_cons, h a List.mem_cons_self, filterMap_congr' fun b hb => h b (List.mem_cons_of_mem _ hb)]
theorem dueG_snoc0 (line : List Rw) (r : Rw) : dueG (line ++ [r]) = (dueG line).map (fun g => if g.1.base = r.base then (g.1, g.2 ++ [r]) else g) ++ (if line.any (fun x => decide (x.base = r.base)) then [] else [(r, [])]) := by
  unfold dueG
  rw [List.length_append, List.length_singleton, List.range_succ, List.filterMap_append]
  congr 1
  · rw [List.map_filterMap]
    exact filterMap_congr' fun i hi => dAt_snoc (List.mem_range.mp hi)
  · rw [List.filterMap_cons, dAt_last]
    split <;> simp_all
theorem dueG_any (b : Str) (line : List Rw) : (dueG line).any (fun g => decide (g.1.base = b)) = line.any fun x => decide (x.base = b) := by
  induction line using snoc_ind with
  | h0 => rfl
  | h1 l a ih =>
    rw [dueG_snoc0, List.any_append, List.any_append, List.any_map]
    have e : ((fun g : Grp => decide (g.1.base = b)) ∘ fun g => if g.1.base = a.base then (g.1, g.2 ++ [a]) else g) = fun g : Grp => decide (g.1.base = b) := by
      funext g
      show decide ((if g.1.base = a.base then (g.1, g.2 ++ [a]) else g).1.base = b) = _
      split <;> rfl
    rw [e, ih]
    by_cases ha : l.any (fun x => decide (x.base = a.base)) = true
    · rw [if_pos ha]
      by_cases hb : a.base = b
      · subst hb; rw [ha]; rfl
      · simp [hb]
    · rw [if_neg ha]
      simp
theorem dueG_snoc (line : List Rw) (r : Rw) : dueG (line ++ [r]) = stepG (dueG line) r := by
  rw [dueG_snoc0]
  unfold stepG
  rw [dueG_any]
  by_cases ha : line.any (fun x => decide (x.base = r.base)) = true
  · rw [if_pos ha, if_pos ha, List.append_nil]
  · rw [if_neg ha, if_neg ha]
    congr 1
    have hn : ∀ g ∈ dueG line, ¬ g.1.base = r.base := fun g hg e => ha (by rw [← dueG_any, List.any_eq_true]; exact ⟨g, hg, decide_eq_true e⟩)
    conv => rhs; rw [← List.map_id (dueG line)]
    apply List.map_congr_left
    intro g hg
    rw [if_neg (hn g hg)]; rfl
theorem dueG_fst (line : List Rw) : ((dueG line).map (·.1)).Sublist line := by
  induction line using snoc_ind with
  | h0 => exact List.Sublist.refl _
  | h1 l a ih =>
    rw [dueG_snoc0, List.map_append, List.map_map]
    have e : ((fun g : Grp => g.1) ∘ fun g => if g.1.base = a.base then (g.1, g.2 ++ [a]) else g) = fun g : Grp => g.1 := by
      funext g
      show (if g.1.base = a.base then (g.1, g.2 ++ [a]) else g).1 = _
      split <;> rfl
    rw [e]
    refine List.Sublist.append ih ?_
    split
    · exact List.nil_sublist _
    · exact List.Sublist.refl _
theorem dueG_bases (line : List Rw) : ((dueG line).map fun g => g.1.base).Nodup := by
  induction line using snoc_ind with
  | h0 => exact List.nodup_nil
  | h1 l a ih =>
    rw [dueG_snoc0, List.map_append, List.map_map]
    have e : ((fun g : Grp => g.1.base) ∘ fun g => if g.1.base = a.base then (g.1, g.2 ++ [a]) else g) = fun g : Grp => g.1.base := by
      funext g
      show (if g.1.base = a.base then (g.1, g.2 ++ [a]) else g).1.base = _
      split <;> rfl
    rw [e]
    by_cases ha : l.any (fun x => decide (x.base = a.base)) = true
    · rw [if_pos ha, List.map_nil, List.append_nil]; exact ih
    · rw [if_neg ha, List.nodup_append]
      refine ⟨ih, by simp, fun x hx y hy q => ha ?_⟩
      obtain ⟨g, hg, rfl⟩ := List.mem_map.mp hx
      rw [List.mem_singleton.mp hy] at q
      rw [← dueG_any, List.any_eq_true]
      exact ⟨g, hg, decide_eq_true q⟩
/-- a group, told -/
noncomputable def leaf (r : Rw) : MV := .tup [.int r.num, .tup []]
noncomputable def toldG (g : Grp) : MV := .tup [.int g.1.num, .tup (g.2.map leaf)]
end Mine

namespace Mine
structure Sub (m : MH) (li : Nat) (done : List Rw) (P : List (Grp × Tr)) : Prop where
  gs : P.map (·.1) = dueG done
  at_ : TreesAt m (P.map (·.2))
  ks : ((Tr.pres (P.map (·.2))).map Tr.k).Perm (done.map fun r => (r.num : Int))
  ids : ((Tr.pres (P.map (·.2))).map Tr.i).Nodup
  js : ((Tr.pres (P.map (·.2))).map Tr.j).Nodup
  lo : ∀ s ∈ Tr.pres (P.map (·.2)), li < s.j
  told : ∀ p ∈ P, p.2.told = toldG p.1
noncomputable abbrev twoO (m : MH) (r : Rw) : MH := (m ++ [MO.lst []]) ++ [nodeO r.num m.length]
noncomputable def newT (m : MH) (r : Rw) : Tr := .mk (m.length + 1) m.length r.num []
theorem newT_nk (m : MH) (r : Rw) : NK (twoO m r) (newT m r).i (newT m r).j r.num [] := by
  have hl : (m ++ [MO.lst []]).length = m.length + 1 := by simp
  exact ⟨by show ((m ++ [MO.lst []]) ++ [nodeO r.num m.length])[m.length + 1]? = _; exact get_snocN hl.symm, get_ext get_snoc⟩
theorem two_ext (m : MH) (r : Rw) : Ext m (twoO m r) := (Ext.app _ _).snoc _
theorem newT_told (m : MH) (r : Rw) : (newT m r).told = leaf r := by unfold newT leaf; rw [told_eq]; rfl
theorem newT_pre (m : MH) (r : Rw) : (newT m r).pre = [newT m r] := by rw [pre_eq]; rfl
theorem Sub.lt {m : MH} {li : Nat} {done : List Rw} {P : List (Grp × Tr)} (h : Sub m li done P) {s : Tr} (hs : s ∈ Tr.pres (P.map (·.2))) : s.i < m.length ∧ s.j < m.length := ⟨get_lt (h.at_.nks s hs).1, get_lt (h.at_.nks s hs).2⟩
theorem Sub.new {m : MH} {li : Nat} {done : List Rw} {P : List (Grp × Tr)} {r : Rw} (h : Sub m li done P) (hli : li < m.length) (hr : ∀ p ∈ P, p.1.1.base ≠ r.base) :
    Sub (twoO m r) li (done ++ [r]) (P ++ [((r, []), newT m r)]) := by
  have eP : (P ++ [((r, []), newT m r)]).map (fun x : Grp × Tr => x.2) = P.map (·.2) ++ [newT m r] := by rw [List.map_append]; rfl
  have ep : Tr.pres (P.map (·.2) ++ [newT m r]) = Tr.pres (P.map (·.2)) ++ [newT m r] := by rw [pres_append, Tr.pres, Tr.pres, newT_pre]; rfl
  refine ⟨?_, ?_, ?_, ?_, ?_, ?_, ?_⟩
  · rw [List.map_append, h.gs, dueG_snoc]
    unfold stepG
    rw [if_neg]
    · rfl
    · rw [List.any_eq_true]
      rintro ⟨g, hg, hb⟩
      rw [← h.gs] at hg
      obtain ⟨p, hp, rfl⟩ := List.mem_map.mp hg
      exact hr p hp (of_decide_eq_true hb)
  · rw [eP]
    refine (h.at_.ext (two_ext m r)).append ?_
    rw [TreesAt]
    exact ⟨treeAt_of_pre _ fun s hs => by rw [newT_pre] at hs; rw [List.mem_singleton.mp hs]; exact newT_nk m r, trivial⟩
  · rw [eP, ep, List.map_append, List.map_append]
    exact h.ks.append (List.Perm.refl _)
  · rw [eP, ep, List.map_append, List.nodup_append]
    refine ⟨h.ids, by simp, fun x hx y hy q => ?_⟩
    obtain ⟨s, hs, rfl⟩ := List.mem_map.mp hx
    have := (h.lt hs).1
    rw [List.map_singleton, List.mem_singleton] at hy
    rw [hy] at q
    have q' : s.i = m.length + 1 := q
    omega
  · rw [eP, ep, List.map_append, List.nodup_append]
    refine ⟨h.js, by simp, fun x hx y hy q => ?_⟩
    obtain ⟨s, hs, rfl⟩ := List.mem_map.mp hx
    have := (h.lt hs).2
    rw [List.map_singleton, List.mem_singleton] at hy
    rw [hy] at q
    have q' : s.j = m.length := q
    omega
  · intro s hs
    rw [eP, ep] at hs
    rcases List.mem_append.mp hs with hs | hs
    · exact h.lo s hs
    · rw [List.mem_singleton.mp hs]; exact hli
  · intro p hp
    rcases List.mem_append.mp hp with hp | hp
    · exact h.told p hp
    · rw [List.mem_singleton.mp hp]
      show (newT m r).told = _
      rw [newT_told]; rfl
theorem Sub.mv {m m' : MH} {li : Nat} {done : List Rw} {P : List (Grp × Tr)} (h : Sub m li done P) (hm : ∀ s ∈ Tr.pres (P.map (·.2)), NK m' s.i s.j s.k (s.ts.map Tr.v)) : Sub m' li done P := { h with at_ := treesAt_of_pres _ hm }
noncomputable def grown (t c : Tr) : Tr := .mk t.i t.j t.k (t.ts ++ [c])
theorem Sub.add {m : MH} {li : Nat} {done : List Rw} {A B : List (Grp × Tr)} {p : Grp × Tr} {r : Rw} (h : Sub m li done (A ++ p :: B)) (hli : li < m.length) (hb : p.1.1.base = r.base) :
    Sub ((twoO m r).set p.2.j (.lst (p.2.ts.map Tr.v ++ [(newT m r).v]))) li (done ++ [r]) (A ++ ((p.1.1, p.1.2 ++ [r]), grown p.2 (newT m r)) :: B) := by
  let c := newT m r
  have eO : (A ++ p :: B).map (fun x : Grp × Tr => x.2) = A.map (fun x : Grp × Tr => x.2) ++ p.2 :: B.map (fun x : Grp × Tr => x.2) := by rw [List.map_append]; rfl
  have eP : (A ++ ((p.1.1, p.1.2 ++ [r]), grown p.2 c) :: B).map (fun x : Grp × Tr => x.2) = A.map (fun x : Grp × Tr => x.2) ++ grown p.2 c :: B.map (fun x : Grp × Tr => x.2) := by rw [List.map_append]; rfl
  have epO : Tr.pres ((A ++ p :: B).map (fun x : Grp × Tr => x.2)) = Tr.pres (A.map (fun x : Grp × Tr => x.2)) ++ p.2 :: (Tr.pres p.2.ts ++ Tr.pres (B.map (fun x : Grp × Tr => x.2))) := by rw [eO, pres_append, pres_cons]
  have epN : Tr.pres ((A ++ ((p.1.1, p.1.2 ++ [r]), grown p.2 c) :: B).map (fun x : Grp × Tr => x.2)) = Tr.pres (A.map (fun x : Grp × Tr => x.2)) ++ grown p.2 c :: ((Tr.pres p.2.ts ++ [c]) ++ Tr.pres (B.map (fun x : Grp × Tr => x.2))) := by
    rw [eP, pres_append, pres_cons]
    show _ ++ _ :: (Tr.pres (p.2.ts ++ [c]) ++ _) = _
    rw [pres_append, show Tr.pres [c] = [c] from by rw [Tr.pres, Tr.pres, newT_pre]; rfl]
  have hperm : ∀ {β : Type} (f : Tr → β), f (grown p.2 c) = f p.2 → ((Tr.pres ((A ++ ((p.1.1, p.1.2 ++ [r]), grown p.2 c) :: B).map (fun x : Grp × Tr => x.2))).map f).Perm (f c :: (Tr.pres ((A ++ p :: B).map (fun x : Grp × Tr => x.2))).map f) := by
    intro β f hf
    rw [epN, epO]
    simp only [List.map_append, List.map_cons, List.map_nil, hf]
    have h1 : (f p.2 :: (List.map f (Tr.pres p.2.ts) ++ [f c] ++ List.map f (Tr.pres (B.map (fun x : Grp × Tr => x.2))))).Perm (f c :: f p.2 :: (List.map f (Tr.pres p.2.ts) ++ List.map f (Tr.pres (B.map (fun x : Grp × Tr => x.2))))) := by
      refine List.Perm.trans (List.Perm.cons _ ?_) (List.Perm.swap _ _ _)
      rw [List.append_assoc, List.singleton_append]
      exact List.perm_middle
    exact (h1.append_left _).trans List.perm_middle
  have hmem : ∀ s ∈ Tr.pres ((A ++ ((p.1.1, p.1.2 ++ [r]), grown p.2 c) :: B).map (fun x : Grp × Tr => x.2)), s = grown p.2 c ∨ s = c ∨ (s ∈ Tr.pres ((A ++ p :: B).map (fun x : Grp × Tr => x.2)) ∧ s.j ≠ p.2.j) := by
    have hj := h.js
    rw [epO, List.map_append, List.map_cons, List.nodup_append] at hj
    obtain ⟨_, hj2, hj3⟩ := hj
    rw [List.nodup_cons] at hj2
    intro s hs
    rw [epN] at hs
    rw [epO]
    rcases List.mem_append.mp hs with hs | hs
    · exact .inr (.inr ⟨List.mem_append_left _ hs, fun e => hj3 _ (List.mem_map.mpr ⟨s, hs, rfl⟩) _ List.mem_cons_self e⟩)
    rcases List.mem_cons.mp hs with rfl | hs
    · exact .inl rfl
    rcases List.mem_append.mp hs with hs | hs
    · rcases List.mem_append.mp hs with hs | hs
      · exact .inr (.inr ⟨List.mem_append_right _ (List.mem_cons_of_mem _ (List.mem_append_left _ hs)), fun e => hj2.1 (e ▸ List.mem_map.mpr ⟨s, List.mem_append_left _ hs, rfl⟩)⟩)
      · exact .inr (.inl (List.mem_singleton.mp hs))
    · exact .inr (.inr ⟨List.mem_append_right _ (List.mem_cons_of_mem _ (List.mem_append_right _ hs)), fun e => hj2.1 (e ▸ List.mem_map.mpr ⟨s, List.mem_append_right _ hs, rfl⟩)⟩)
  have hpm : p.2 ∈ Tr.pres ((A ++ p :: B).map (fun x : Grp × Tr => x.2)) := by rw [epO]; exact List.mem_append_right _ List.mem_cons_self
  have hpk := h.at_.nks _ hpm
  have hplt := h.lt hpm
  have hij : ∀ s ∈ Tr.pres ((A ++ p :: B).map (fun x : Grp × Tr => x.2)), s.i ≠ p.2.j := fun s hs e => by
    have h1 := (h.at_.nks s hs).1
    rw [e, hpk.2] at h1; cases h1
  refine ⟨?_, ?_, ?_, ?_, ?_, ?_, ?_⟩
  · have hg := h.gs
    rw [List.map_append, List.map_cons] at hg
    rw [dueG_snoc, ← hg, List.map_append, List.map_cons]
    have hbs := dueG_bases done
    rw [← hg, List.map_append, List.map_cons, List.nodup_append] at hbs
    obtain ⟨_, hb2, hb3⟩ := hbs
    rw [List.nodup_cons] at hb2
    have hA : ∀ g ∈ A.map (·.1), g.1.base ≠ r.base := fun g hg e => hb3 _ (List.mem_map.mpr ⟨g, hg, rfl⟩) _ List.mem_cons_self (by rw [e, hb])
    have hB : ∀ g ∈ B.map (·.1), g.1.base ≠ r.base := fun g hg e => hb2.1 (by rw [hb, ← e]; exact List.mem_map.mpr ⟨g, hg, rfl⟩)
    have hid : ∀ l : List Grp, (∀ g ∈ l, g.1.base ≠ r.base) → l.map (fun g => if g.1.base = r.base then (g.1, g.2 ++ [r]) else g) = l := fun l hl => by
      conv => rhs; rw [← List.map_id l]
      apply List.map_congr_left
      intro g hg
      rw [if_neg (hl g hg)]; rfl
    unfold stepG
    rw [if_pos, List.map_append, List.map_cons, hid _ hA, hid _ hB, if_pos hb]
    rw [List.any_eq_true]
    exact ⟨p.1, List.mem_append_right _ List.mem_cons_self, decide_eq_true hb⟩
  · refine treesAt_of_pres _ fun s hs => ?_
    rcases hmem s hs with rfl | rfl | ⟨hs, hne⟩
    · refine ⟨get_set_ne (fun e => hij _ hpm e.symm) (two_ext m r _ _ hpk.1), ?_⟩
      show ((twoO m r).set p.2.j _)[p.2.j]? = some (.lst ((p.2.ts ++ [c]).map Tr.v))
      rw [List.map_append]
      exact get_set_eq (get_lt (two_ext m r _ _ hpk.2))
    · have h1 := newT_nk m r
      refine ⟨get_set_ne ?_ h1.1, get_set_ne ?_ h1.2⟩
      · show p.2.j ≠ m.length + 1; omega
      · show p.2.j ≠ m.length; omega
    · have h1 := h.at_.nks s hs
      exact ⟨get_set_ne (fun e => hij s hs e.symm) (two_ext m r _ _ h1.1), get_set_ne (fun e => hne e.symm) (two_ext m r _ _ h1.2)⟩
  · refine (hperm Tr.k rfl).trans ?_
    rw [show (done ++ [r]).map (fun r => (r.num : Int)) = done.map (fun r => (r.num : Int)) ++ [(r.num : Int)] from by rw [List.map_append]; rfl]
    exact (List.Perm.cons _ h.ks).trans (List.perm_append_singleton _ _).symm
  · refine (hperm Tr.i rfl).nodup_iff.mpr (List.nodup_cons.mpr ⟨fun hm => ?_, h.ids⟩)
    obtain ⟨s, hs, e⟩ := List.mem_map.mp hm
    have := (h.lt hs).1
    have e' : s.i = m.length + 1 := e
    omega
  · refine (hperm Tr.j rfl).nodup_iff.mpr (List.nodup_cons.mpr ⟨fun hm => ?_, h.js⟩)
    obtain ⟨s, hs, e⟩ := List.mem_map.mp hm
    have := (h.lt hs).2
    have e' : s.j = m.length := e
    omega
  · intro s hs
    rcases hmem s hs with rfl | rfl | ⟨hs, _⟩
    · exact h.lo p.2 hpm
    · exact hli
    · exact h.lo s hs
  · intro w hw
    rcases List.mem_append.mp hw with hw | hw
    · exact h.told w (List.mem_append_left _ hw)
    rcases List.mem_cons.mp hw with rfl | hw
    · have h1 := h.told p (List.mem_append_right _ List.mem_cons_self)
      show (grown p.2 c).told = toldG (p.1.1, p.1.2 ++ [r])
      rw [told_eq] at h1 ⊢
      unfold toldG at h1 ⊢
      simp only [MV.tup.injEq, List.cons.injEq, MV.int.injEq, and_true] at h1
      show MV.tup [.int p.2.k, .tup ((p.2.ts ++ [c]).map Tr.told)] = _
      rw [List.map_append, h1.1, h1.2, List.map_append]
      show MV.tup [_, .tup (_ ++ [c.told])] = _
      rw [newT_told]; rfl
    · exact h.told w (List.mem_append_right _ (List.mem_cons_of_mem _ hw))
theorem Sub.fst {m : MH} {li : Nat} {rows line : List Rw} {P : List (Grp × Tr)} (ok : RowsOk rows) (L : Line rows line) (h : Sub m li line P) : Fst m rows (P.map (·.2)) := by
  have hall : ∀ s ∈ Tr.pres (P.map (·.2)), ∃ r ∈ rows, (r.num : Int) = s.k := fun s hs => by
    have := h.ks.mem_iff.mp (List.mem_map.mpr ⟨s, hs, rfl⟩)
    obtain ⟨r, hr, e⟩ := List.mem_map.mp this
    exact ⟨r, L.perm.mem_iff.mp hr, e⟩
  have hpos : ∀ s ∈ Tr.pres (P.map (·.2)), 0 < s.k := fun s hs => by
    obtain ⟨r, hr, e⟩ := hall s hs
    have := ok.mem hr; omega
  refine ⟨h.at_, h.ids, fun s hs c hc => hpos c ((kids_sub hs).subset hc), fun t ht => .inl (hpos t ((sub_pres _).subset ht)), ?_, fun s hs _ => hall s hs⟩
  have h1 : (rows.map fun r => (r.num : Int)).Nodup := by
    have := ok.nodup
    rw [List.map_map] at this; exact this
  have h2 := ((h.ks.trans (L.perm.map _)).nodup_iff).mpr h1
  exact h2.sublist List.filter_sublist
end Mine

namespace Mine
section
variable {D : WD} {n : Nat} {mh : MH}
theorem RowsOk.keys {rows : List Rw} (ok : RowsOk rows) : (((rows.map Rw.mv).map kfR).map (·.2)).Nodup := by
  have h1 := ok.nodup
  rw [List.map_map] at h1
  rw [List.map_map, List.map_map]
  exact h1
theorem CW_subject_threads {l : Nat} {rows : List Rw} {Q : MV → MH → Prop} (ok : RowsOk rows) (hl : RowsAt mh l rows)
    (q : ∀ m' r ts line, Line rows line → m'[r]? = some (.lst (ts.map Tr.v)) → Fst m' rows ts → ts.map Tr.told = (dueG line).map toldG → Ext mh m' → Q (.ref r) m') : CW D (n + 14) (.ref 210) [.ref l] Q mh := by
  refine CW_of_KW (KW_defB ["rows"] rfl ?_ (hcn := by intro n; simp [cellsFrom]))
  have hlen := ok.len
  refine XsW_cons (XW_assign (EW_dictS fun ep0 => ?_))
  refine XsW_cons (XW_for (FW_val ?_))
  refine EW_sortedK (n := n + 12) (x := "row") sel2 [] capLNil ?_
  walk_at "MR"
  refine ⟨l, _, kfR, rfl, get_ext hl.1, by rw [List.length_map]; omega, ok.keys, fun v hv cdv => ?_, fun out hs => ?_⟩
  · obtain ⟨r, hr, rfl⟩ := List.mem_map.mp hv
    walk_at "MR"
    refine ⟨.int r.day, .tup (by decide) (by rfl) (by decide), ?_⟩
    walk_at "MR"
    refine ⟨.int r.num, .tup (by decide) (by rfl) (by decide), ?_⟩
    walk_at "MR"
    exact ⟨by simp, rfl, rfl⟩
  obtain ⟨line, rfl, L⟩ := Line.of hs
  have hll := L.perm.length_eq
  have hm1 : (mh ++ [MO.dctS ep0 []]).length = mh.length + 1 := by simp
  rw [hm1]
  refine ⟨_, _, .lst (mh.length + 1) _, get_snocN hm1.symm, ?_⟩
  refine ⟨fun i σ' m => Has σ' [("rows", .ref l), ("found", .ref mh.length)] ∧ Ext mh m ∧ m[mh.length + 1]? = some (.lst (line.map Rw.mv)) ∧ ∃ (ep : Nat) (P : List (Grp × Tr)), m[mh.length]? = some (.dctS ep (P.map fun p => (p.1.1.base, p.2.v))) ∧ Sub m (mh.length + 1) (line.take i) P,
    ⟨by walk_at "MH", (Ext.app _ _).snoc _, get_snocN hm1.symm, ep0, [], get_ext get_snoc, ⟨rfl, trivial, List.Perm.refl _, List.nodup_nil, List.nodup_nil, fun s hs => by (rw [List.map_nil, Tr.pres] at hs; exact (nomatch hs)), fun p hp => (nomatch hp)⟩⟩, fun _ _ _ h => h.2.2.1, ?_, ?_⟩
  · rintro i v σ' m hv ⟨hσ, hx, hml, ep, P, hmd, S⟩
    rw [List.getElem?_map, Option.map_eq_some_iff] at hv
    obtain ⟨r, hr, rfl⟩ := hv
    have hil := (List.getElem?_eq_some_iff.mp hr).1
    refine ⟨_, .name _ _ _ _ (.inl rfl), XsW_has hσ.put ?_⟩
    have hbs : (P.map fun p => p.1.1.base).Nodup := by
      have := dueG_bases (line.take i)
      rw [← S.gs, List.map_map] at this; exact this
    have hkn : ((P.map fun p => (p.1.1.base, p.2.v)).map (·.1)).Nodup := by rw [List.map_map]; exact hbs
    have hPl : P.length ≤ 9 := by
      have h1 := congrArg List.length S.gs
      have h2 := (dueG_fst (line.take i)).length_le
      rw [List.length_map] at h1 h2
      rw [List.length_take] at h2
      omega
    have hmlt := get_lt hml
    have hmdl := get_lt hmd
    refine XsW_cons (XW_if (IW_cmp ?_))
    walk_at "MR"
    refine ⟨.str r.base, .tup (by decide) (by rfl) (by decide), ?_⟩
    walk_at "MR"
    refine OW_in_S hmd ?_
    by_cases hin : r.base ∈ (P.map fun p => (p.1.1.base, p.2.v)).map (·.1)
    · rw [List.map_map, List.mem_map] at hin
      obtain ⟨p, hp, hpb⟩ := hin
      have hpb : p.1.1.base = r.base := hpb
      have hg : dget (P.map fun p => (p.1.1.base, p.2.v)) r.base = some p.2.v := by
        have := dget_mem (p := (p.1.1.base, p.2.v)) hkn (List.mem_map.mpr ⟨p, hp, rfl⟩)
        rw [← hpb]; exact this
      rw [hg, if_pos (by rfl)]
      obtain ⟨A, B, rfl⟩ := List.append_of_mem hp
      have hpm : p.2 ∈ Tr.pres ((A ++ p :: B).map (fun x : Grp × Tr => x.2)) := (sub_pres _).subset (List.mem_map.mpr ⟨p, hp, rfl⟩)
      have hpk := S.at_.nks _ hpm
      have hplo := S.lo _ hpm
      have hplt := S.lt hpm
      refine XsW_cons (XW_expr (EW_append ?_))
      walk_at "MR"
      refine ⟨.str r.base, .tup (by decide) (by rfl) (by decide), p.2.v, .dctS hmd hg, ?_⟩
      refine ⟨.ref p.2.j, attr_kids hpk, p.2.j, _, rfl, hpk.2, ?_⟩
      refine EW_callK (a := 36) ?_
      walk_at "MR"
      refine ⟨.int r.num, .tup (by decide) (by rfl) (by decide), ?_⟩
      walk_at "MR"
      refine ⟨by simp, EsW_nil (CW_node (n := n + 11) ?_)⟩
      have hl2 : (m ++ [MO.lst []]).length = m.length + 1 := by simp
      rw [hl2]
      refine ⟨_, get_ext (get_ext hpk.2), ?_, rfl, ?_⟩
      · rw [List.length_map]
        have h1 := (kids_sub hpm).length_le
        have h2 := S.ks.length_eq
        rw [List.length_map, List.length_map, List.length_take] at h2
        omega
      have S' := S.add (r := r) hmlt hpb
      refine XsW_nil (XsW_nil ⟨by walk_at "MH", ?_, get_set_ne (by omega) (get_ext (get_ext hml)), ep, _, ?_, by rw [take_succ' hr]; exact S'⟩)
      · exact ((hx.trans (two_ext m r)).set (by omega))
      · have e : (A ++ p :: B).map (fun p => (p.1.1.base, p.2.v)) = (A ++ ((p.1.1, p.1.2 ++ [r]), grown p.2 (newT m r)) :: B).map (fun p => (p.1.1.base, p.2.v)) := by rw [List.map_append, List.map_append]; rfl
        rw [← e]
        exact get_set_ne (by omega) (get_ext (get_ext hmd))
    · have hg := dget_none.mpr hin
      rw [hg, if_neg (by simp)]
      refine XsW_cons (XW_setitem ?_)
      refine EW_callK (a := 36) ?_
      walk_at "MR"
      refine ⟨.int r.num, .tup (by decide) (by rfl) (by decide), ?_⟩
      walk_at "MR"
      refine ⟨by simp, EsW_nil (CW_node (n := n + 11) ?_)⟩
      have hl2 : (m ++ [MO.lst []]).length = m.length + 1 := by simp
      rw [hl2]
      walk_at "MR"
      refine ⟨.str r.base, .tup (by decide) (by rfl) (by decide), ?_⟩
      refine .dctS (get_ext (get_ext hmd)) (by rw [List.length_map]; omega) fun ep' => ?_
      rw [dput_new hin]
      have hnb : ∀ p ∈ P, p.1.1.base ≠ r.base := fun p hp e => hin (by rw [List.map_map]; exact List.mem_map.mpr ⟨p, hp, e⟩)
      have S' := S.new (r := r) hmlt hnb
      have hmd2 := two_ext m r _ _ hmd
      refine XsW_nil (XsW_nil ⟨by walk_at "MH", ?_, get_set_ne (by omega) (get_ext (get_ext hml)), ep', P ++ [((r, []), newT m r)], ?_, ?_⟩)
      · exact ((hx.trans (two_ext m r)).set (Nat.le_refl _))
      · have e : (P.map fun p => (p.1.1.base, p.2.v)) ++ [(r.base, MV.obj 36 (m.length + 1))] = (P ++ [((r, []), newT m r)]).map (fun p : Grp × Tr => (p.1.1.base, p.2.v)) := by rw [List.map_append]; rfl
        rw [e]
        exact get_set_eq (get_lt hmd2)
      · rw [take_succ' hr]
        refine S'.mv fun s hs => ?_
        have h1 := S'.at_.nks s hs
        refine ⟨get_set_ne (fun e => ?_) h1.1, get_set_ne (fun e => ?_) h1.2⟩
        · have h2 := h1.1; rw [← e, hmd2] at h2; cases h2
        · have h2 := h1.2; rw [← e, hmd2] at h2; cases h2
  · rintro σ' m ⟨hσ, hx, hml, ep, P, hmd, S⟩
    rw [List.length_map, List.take_length] at S
    have hbs : (P.map fun p => p.1.1.base).Nodup := by
      have := dueG_bases line
      rw [← S.gs, List.map_map] at this; exact this
    have hkn : ((P.map fun p => (p.1.1.base, p.2.v)).map (·.1)).Nodup := by rw [List.map_map]; exact hbs
    have hPl : P.length ≤ 9 := by
      have h1 := congrArg List.length S.gs
      have h2 := (dueG_fst line).length_le
      rw [List.length_map] at h1 h2
      omega
    have f := S.fst ok L
    refine XsW_has hσ ?_
    refine XsW_cons (XW_return (EW_callK (a := 158) ?_))
    refine EsW_cons (EW_comp ["found"] (capOne "found") (FW_val ?_))
    walk_at "MR"
    refine ⟨_, _, .dctS mh.length ep _, hmd, ?_⟩
    rw [List.map_map]
    refine compM (fun p => p.2.v) (fun _ => true) (by omega) (fun m' hx' => hx' _ _ hmd) ?_ ?_
    · intro p m3 hp hx4
      refine ⟨_, .name _ _ _ _ (by rfl), rfl, hx4, fun _ => ?_⟩
      walk_at "MR"
      exact ⟨_, .dctS (hx4 _ _ hmd) (dget_mem (p := (p.1.1.base, p.2.v)) hkn (List.mem_map.mpr ⟨p, hp, rfl⟩)), rfl, hx4⟩
    intro m3 hx4
    have e : ((P.filter fun _ => true).map fun p => p.2.v) = (P.map (fun x : Grp × Tr => x.2)).map Tr.v := by rw [List.filter_eq_self.mpr (by simp), List.map_map]; rfl
    rw [e]
    have hxA : Ext m (m3 ++ [MO.lst ((P.map (fun x : Grp × Tr => x.2)).map Tr.v)]) := hx4.snoc _
    have hrl := get_snoc (l := m3) (a := MO.lst ((P.map (fun x : Grp × Tr => x.2)).map Tr.v))
    generalize m3 ++ [MO.lst ((P.map (fun x : Grp × Tr => x.2)).map Tr.v)] = m4 at hxA hrl
    generalize m3.length = rl at hrl
    refine EsW_cons (EW_callK (a := 144) ?_)
    walk_at "MR"
    refine CW_row_table (n := n + 12) ok (hxA _ _ (hx _ _ hl.1)) fun m5 ep5 hx5 => ?_
    walk_at "MR"
    have hx6 : Ext m4 (m5 ++ [MO.dctI ep5 (rows.map rowKv)]) := hx5.snoc _
    have f6 : Fst (m5 ++ [MO.dctI ep5 (rows.map rowKv)]) rows (P.map (fun x : Grp × Tr => x.2)) := { f with at_ := f.at_.ext (hxA.trans hx6) }
    refine CW_in_orderT (n := n + 10) ok (fun t => t.hd.k) (hx6 _ _ hrl) (by rw [List.length_map]; omega) f6.rootIds f6.keys (fun t ht => f6.keyAt ok ht) ⟨ep5, get_snoc⟩ fun L' hL' hp' => ?_
    have hkey : ∀ p ∈ P, p.2.hd.k = (p.1.1.num : Int) ∧ p.1.1 ∈ rows := fun p hp => by
      have hg : p.1 ∈ dueG line := by rw [← S.gs]; exact List.mem_map.mpr ⟨p, hp, rfl⟩
      have hm : p.1.1 ∈ rows := L.perm.mem_iff.mp ((dueG_fst line).subset (List.mem_map.mpr ⟨p.1, hg, rfl⟩))
      have h1 := S.told p hp
      rw [told_eq] at h1
      unfold toldG at h1
      simp only [MV.tup.injEq, List.cons.injEq, MV.int.injEq, and_true] at h1
      have := ok.mem hm
      refine ⟨?_, hm⟩
      unfold Tr.hd
      rw [if_pos (by omega)]; exact h1.1
    have hpT : (P.map (fun x : Grp × Tr => x.2)).Pairwise (fun a b => klt (dayOf rows a.hd.k, a.hd.k) (dayOf rows b.hd.k, b.hd.k) = true) := by
      rw [List.pairwise_map]
      have h1 : ((dueG line).map (·.1)).Pairwise (fun a b => klt (kr a) (kr b) = true) := L.lt.sublist (dueG_fst line)
      rw [← S.gs, List.map_map, List.pairwise_map] at h1
      refine h1.imp_of_mem fun {a b} ha hb hab => ?_
      obtain ⟨a1, a2⟩ := hkey a ha
      obtain ⟨b1, b2⟩ := hkey b hb
      rw [a1, b1, dayOf_mem ok a2, dayOf_mem ok b2]
      exact hab
    have hLe : L' = P.map (fun x : Grp × Tr => x.2) := List.Perm.eq_of_pairwise (fun _ _ _ _ h1 h2 => (klt_asymm h1 h2).elim) hp' hpT hL'
    subst hLe
    refine q _ _ (P.map (fun x : Grp × Tr => x.2)) line L get_snoc { f6 with at_ := f6.at_.ext (Ext.app _ _) } ?_ (((hx.trans hxA).trans hx6).snoc _)
    rw [← S.gs, List.map_map, List.map_map]
    apply List.map_congr_left
    intro p hp
    exact S.told p hp
end
end Mine

namespace Mine
section
variable {D : WD} {n : Nat} {mh : MH} {si : SI} {σ : Locals} {R : RR}
theorem slice_atI {A : Around} {s : Shared} {a : Addr} {rvs rout : List Value} {vs out : List MV} {l u st : Value} {lo hi stp : Option Int} {tk : Nat} {Q : MV → MH → Prop} (hr : HRep D R mh s.heap) (e : s.heap.IsList a rvs.toArray) (vv : VReps R vs rvs) (hz : vs.length ≤ 1000)
    (pl : IsPart l lo) (pu : IsPart u hi) (ps : IsPart st stp) (h0 : stp ≠ some 0) (hp : slicePick rvs.toArray lo hi stp = rout.toArray) (vo : VReps R out rout) (q : Q (.ref mh.length) (mh ++ [.lst out])) :
    wpAny (model Prg D.w) A (getItem (.ref a) (.ref s.heap.objs.size)) (VPost D R s Q) (fun _ _ => False) { s with heap := s.heap.push { cls := .type "slice", data := .fields #[l, u, st] }, toks := tk } := by
  have hk := Kept.push s.heap { cls := .type "slice", data := .fields #[l, u, st] }
  refine wpAny_getItem_list_slice (Heap.IsList.push e _) ⟨_, Heap.get?_push_size _ rfl, rfl, rfl⟩ pl pu ps h0 ?_ (by rw [vv.size, sizeLine_eq]; omega)
  rw [hp]
  refine VPost.after (tk₁ := tk) (Go.grow [] R hk) ?_
  exact VPost.push_list (s := { s with heap := s.heap.push { cls := .type "slice", data := .fields #[l, u, st] }, toks := tk }) (k := 0) (hr.grow hk) (Kept.push _ _) (Heap.get?_push_size _ rfl) vo q
theorem CW_lenI {vs : List MV} {Q : MV → MH → Prop} (hz : vs.length ≤ 1000) (q : Q (.int vs.length) mh) : CW D n (.builtin "len") [.ilst vs] Q mh := by
  intro A R s rargs ok hr vr
  obtain ⟨ra, rfl, va⟩ := vr.one'
  cases va with | @ilst a o rvs c _ hm hcl hda vv =>
  have e := hr.imm _ hm
  refine call_len_list ⟨o, e, hcl, c, hda⟩ (by rw [vv.size]; omega) ?_
  rw [vv.size]
  exact VPost.now hr (.int _ _) q
theorem EW_lenI {fp pos : Pos} {e : Expr} {Q : MV → MH → Prop} (h : EW D n si e σ (fun v mh' => ∃ vs, v = .ilst vs ∧ vs.length ≤ 1000 ∧ Q (.int vs.length) mh') mh)
    (hg : si.scope.names.lookup (Str.ofString "len") = some .globalImplicit := by rfl)
    (he : ∀ env, eval (.Call (.Name (Str.ofString "len") fp) [e] [] pos) env = (do callWith pos (← eval (.Name (Str.ofString "len") fp) env) [] (backTo pos (starEach [e] env)) (backToKw pos (keywordEach [] env))) := by intros; rfl)
    (hst : ∀ env, starEach [e] env = (false, eval e env) :: starEach [] env := by intros; rfl) (hpl : ∀ env, (backTo pos (starEach [e] env)).any (·.1) = false := by intros; rfl) : EW D n si (.Call (.Name (Str.ofString "len") fp) [e] [] pos) σ Q mh :=
  EW_call1 (v := .builtin "len") (EW.mono h fun v mh' ⟨vs, e1, e3, q⟩ => by rw [e1]; exact CW_lenI e3 q) trivial (by rfl) (by decide) (by decide) (by rfl) hg he hst hpl
theorem EW_uptoI {value u : Expr} {p3 pos : Pos} {Q : MV → MH → Prop} (h : EW D n si value σ (fun v mh' => EW D n si u σ (fun uv mh'' => ∃ (vs : List MV) (j : Nat), v = .ilst vs ∧ uv = .int j ∧ vs.length ≤ 1000 ∧ Q (.ref mh''.length) (mh'' ++ [.lst (vs.take j)])) mh') mh) :
    EW D n si (.Subscript value (.Slice none (some u) none p3) pos) σ Q mh := by
  intro A env R s ok eo hr nm
  refine Subscript_ (wpAny_mono (h A env R s ok eo hr nm) (fun ra s1 h1 => ?_) fun _ _ f => f)
  obtain ⟨R1, mh1, va, H1, tk1, rfl, g1, hr1, v1, q1⟩ := h1
  refine wpAny_Slice (wpAny_pure (wpAny_mono (q1 A env R1 _ ok eo hr1 (nm.go g1)) (fun ru s2 h2 => wpAny_pure ?_) fun _ _ f => f))
  obtain ⟨R2, mh2, vb, H2, tk2, rfl, g2, hr2, v2, vs, j, rfl, rfl, hz, q2⟩ := h2
  have v1' := v1.mono g2.le
  cases v2 with | int _ t =>
  cases v1' with | @ilst a o rvs c _ hm hcl hda vv =>
  have e := hr2.imm _ hm
  have hk := Kept.push H2 { cls := .type "slice", data := .fields #[.none, .int j t, .none] }
  refine tail_any (ops := [.ref H2.objs.size, .ref a]) (T := "list") ⟨_, hk _ _ e, hcl⟩ slot_list_getitem.lookup ?_ rfl
  exact wpAny_mono (slice_atI (s := { s with heap := H2, toks := tk2 }) hr2 ⟨o, e, hcl, c, hda⟩ vv hz .none (.int _ _) .none (by decide) (by rw [slicePick_upto']) (vv.take j) q2) (fun _ _ z => VPost.after g1 (VPost.after g2 z)) fun _ _ f => f
end
section
variable {D : WD} {n : Nat} {mh : MH}
theorem CW_law_due {l : Nat} {rows : List Rw} {Q : MV → MH → Prop} (ok : RowsOk rows) (hl : mh[l]? = some (.lst (rows.map Rw.mv)))
    (q : ∀ m' r line, Line rows line → m'[r]? = some (.lst ((dueG line).map toldG)) → Ext mh m' → Q (.ref r) m') : CW D (n + 12) (.ref 222) [.ref l] Q mh := by
  refine CW_of_KW (KW_defB ["rows"] rfl ?_ (hcn := by intro n; simp [cellsFrom]))
  have hlen := ok.len
  refine XsW_cons (XW_assign2s (EW_tuple ?_))
  walk_at "MR"
  refine ⟨by simp, ?_⟩
  refine EsW_cons (EW_sortedK (n := n + 10) (x := "row") sel1 [] capLNil ?_)
  walk_at "MR"
  refine ⟨l, _, kfR, rfl, get_ext hl, by rw [List.length_map]; omega, ok.keys, fun v hv cdv => ?_, fun out hs => ?_⟩
  · obtain ⟨r, hr, rfl⟩ := List.mem_map.mp hv
    walk_at "MR"
    refine ⟨.int r.day, .tup (by decide) (by rfl) (by decide), ?_⟩
    walk_at "MR"
    refine ⟨.int r.num, .tup (by decide) (by rfl) (by decide), ?_⟩
    walk_at "MR"
    exact ⟨by simp, rfl, rfl⟩
  obtain ⟨line, rfl, L⟩ := Line.of hs
  have hll := L.perm.length_eq
  have hm1 : (mh ++ [MO.lst []]).length = mh.length + 1 := by simp
  rw [hm1]
  walk_at "MR"
  refine ⟨by simp, _, _, rfl, ?_⟩
  refine XsW_cons (XW_for (FW_enum ?_))
  walk_at "MR"
  refine ⟨mh.length + 1, _, rfl, get_snocN hm1.symm, ?_⟩
  refine ⟨fun i σ' m => Has σ' [("line", .ref (mh.length + 1)), ("found", .ref mh.length)] ∧ Ext mh m ∧ m[mh.length + 1]? = some (.lst (line.map Rw.mv)) ∧ m[mh.length]? = some (.lst (((List.range i).filterMap (dAt line)).map toldG)),
    ⟨by walk_at "MH", (Ext.app _ _).snoc _, get_snocN hm1.symm, get_ext get_snoc⟩, fun _ _ _ h => h.2.2.1, ?_, ?_⟩
  · rintro i v σ' m hv ⟨hσ, hx, hml, hmf⟩
    rw [List.getElem?_mapIdx, Option.map_eq_some_iff] at hv
    obtain ⟨tv, hv, rfl⟩ := hv
    rw [List.getElem?_map, Option.map_eq_some_iff] at hv
    obtain ⟨r, hr, rfl⟩ := hv
    have hil := (List.getElem?_eq_some_iff.mp hr).1
    have hmlt := get_lt hml
    refine ⟨_, .pair _ _ _ _ _ _ _ _ _ (.inl rfl) (.inr rfl), XsW_has (hσ.put.put) ?_⟩
    have hrange : List.range (i + 1) = List.range i ++ [i] := List.range_succ
    refine XsW_cons (XW_if (IW_cmp ?_))
    refine EW_comp ["row"] (capOne "row") (FW_val ?_)
    walk_at "MR"
    refine ⟨mh.length + 1, _, i, rfl, rfl, hml, by rw [List.length_map]; omega, ?_⟩
    rw [← List.map_take]
    refine ⟨_, _, .lst m.length _, get_snoc, ?_⟩
    refine compM Rw.mv (fun x => decide (x.base = r.base)) (by rw [List.length_take]; omega) (fun m' hx' => hx' _ _ get_snoc) ?_ ?_
    · intro x m1 hxm hx1
      refine ⟨_, .name _ _ _ _ (by rfl), ?_⟩
      refine IW_cmp ?_
      walk_at "MR"
      refine ⟨.str x.base, .tup (by decide) (by rfl) (by decide), ?_⟩
      walk_at "MR"
      refine ⟨.str r.base, .tup (by decide) (by rfl) (by decide), ?_⟩
      walk_at "MR"
      refine ⟨by by_cases h : x.base = r.base <;> simp [h], hx1, fun _ => ?_⟩
      walk_at "MR"
      exact ⟨rfl, hx1⟩
    intro m1 hx1
    walk_at "MR"
    refine ⟨by simp, OW_eq_nil (n := n + 1) (get_ext get_snoc) get_snoc ?_⟩
    have hx2 : Ext m (((m1 ++ [MO.lst (((line.take i).filter fun x => decide (x.base = r.base)).map Rw.mv)]) ++ [MO.lst []])) := ((((Ext.app m _).trans hx1).snoc _).snoc _)
    generalize ((m1 ++ [MO.lst (((line.take i).filter fun x => decide (x.base = r.base)).map Rw.mv)]) ++ [MO.lst []]) = m2 at hx2
    have hany : (((line.take i).filter fun x => decide (x.base = r.base)).map Rw.mv).isEmpty = !(line.take i).any (fun x => decide (x.base = r.base)) := by
      generalize line.take i = T
      induction T with
      | nil => rfl
      | cons a T ih =>
        rw [List.filter_cons, List.any_cons]
        by_cases ha : a.base = r.base
        · simp [ha]
        · simp only [ha, decide_false, Bool.false_eq_true, if_false, Bool.false_or]; exact ih
    rw [hany]
    have hdi : dAt line i = if (line.take i).any (fun x => decide (x.base = r.base)) then none else some (r, (line.drop (i + 1)).filter fun x => decide (x.base = r.base)) := by unfold dAt; rw [hr]
    by_cases ha : (line.take i).any (fun x => decide (x.base = r.base)) = true
    · rw [ha, if_neg (by decide)]
      rw [if_pos ha] at hdi
      refine XsW_nil (XsW_nil ⟨by walk_at "MH", hx.trans hx2, hx2 _ _ hml, ?_⟩)
      rw [hrange, List.filterMap_append, List.filterMap_cons, hdi]
      simpa using hx2 _ _ hmf
    · rw [Bool.eq_false_iff.mpr ha, if_pos (by decide)]
      rw [if_neg ha] at hdi
      refine XsW_cons (XW_assign_comp ["row"] (capOne "row") (FW_val ?_))
      walk_at "MR"
      refine ⟨mh.length + 1, _, i + 1, rfl, rfl, hx2 _ _ hml, by rw [List.length_map]; omega, ?_⟩
      rw [← List.map_drop]
      refine ⟨_, _, .lst m2.length _, get_snoc, ?_⟩
      refine compM leaf (fun x => decide (x.base = r.base)) (by rw [List.length_drop]; omega) (fun m' hx' => hx' _ _ get_snoc) ?_ ?_
      · intro x m3 hxm hx3
        refine ⟨_, .name _ _ _ _ (by rfl), ?_⟩
        refine IW_cmp ?_
        walk_at "MR"
        refine ⟨.str x.base, .tup (by decide) (by rfl) (by decide), ?_⟩
        walk_at "MR"
        refine ⟨.str r.base, .tup (by decide) (by rfl) (by decide), ?_⟩
        walk_at "MR"
        refine ⟨by by_cases h : x.base = r.base <;> simp [h], hx3, fun _ => ?_⟩
        walk_at "MR"
        refine ⟨.int x.num, .tup (by decide) (by rfl) (by decide), ?_⟩
        walk_at "MR"
        refine ⟨by simp, ?_⟩
        walk_at "MR"
        exact ⟨by simp, rfl, hx3⟩
      intro m3 hx3
      have hx4 : Ext m2 (m3 ++ [MO.lst (((line.drop (i + 1)).filter fun x => decide (x.base = r.base)).map leaf)]) := ((Ext.app m2 _).trans hx3).snoc _
      have hk4 := get_snoc (l := m3) (a := MO.lst (((line.drop (i + 1)).filter fun x => decide (x.base = r.base)).map leaf))
      generalize m3 ++ [MO.lst (((line.drop (i + 1)).filter fun x => decide (x.base = r.base)).map leaf)] = m4 at hx4 hk4
      generalize m3.length = kl at hk4
      have hx24 : Ext m m4 := hx2.trans hx4
      walk_at "MR"
      refine ⟨mh.length, _, rfl, hx24 _ _ hmf, ?_⟩
      walk_at "MR"
      refine ⟨.int r.num, .tup (by decide) (by rfl) (by decide), ?_⟩
      walk_at "MR"
      refine ⟨kl, _, rfl, hk4, ?_, ?_⟩
      · rw [List.length_map]
        have := List.length_filter_le (fun x : Rw => decide (x.base = r.base)) (line.drop (i + 1))
        rw [List.length_drop] at this; omega
      walk_at "MR"
      refine ⟨by simp, _, hx24 _ _ hmf, ?_, rfl, ?_⟩
      · rw [List.length_map]
        have := List.length_filterMap_le (dAt line) (List.range i)
        rw [List.length_range] at this; omega
      refine XsW_nil (XsW_nil ⟨by walk_at "MH", (hx.trans hx24).set (Nat.le_refl _), get_set_ne (by omega) (hx24 _ _ hml), ?_⟩)
      rw [hrange, List.filterMap_append, List.filterMap_cons, hdi, List.map_append]
      exact get_set_eq (get_lt (hx24 _ _ hmf))
  · rintro σ' m ⟨hσ, hx, hml, hmf⟩
    rw [List.length_mapIdx, List.length_map] at hmf
    refine XsW_has hσ ?_
    walk_at "MR"
    exact q m _ line L hmf hx
end
end Mine

namespace Mine
theorem str_small : ∀ a : Fin 10, (Str.ofString (toString (a.val : Int))).length + (Str.ofString "@x").length ≤ 100 ∧ (a.val : Int).natAbs.log2 < 1920 := by decide +kernel
theorem str_small' {a : Nat} (h : a ≤ 9) : (Str.ofString (toString (a : Int))).length + (Str.ofString "@x").length ≤ sizeLine ∧ (a : Int).natAbs.log2 < 1920 := by
  have := str_small ⟨a, by omega⟩
  rw [sizeLine_eq]
  refine ⟨?_, this.2⟩
  have h1 := this.1
  simp only at h1
  omega
/-- rows as far as made -/
structure Made (m : MH) (ro : Nat) (R : List Rw) : Prop where
  num : ∀ (k : Nat) (r : Rw), R[k]? = some r → r.num = k + 1
  ab : ∀ r ∈ R, r.ab < r.num
  rl : ∀ r ∈ R, m[r.rl]? = some (.lst (refsV r)) ∧ ro < r.rl
section
variable {D : WD} {n : Nat} {mh : MH}
theorem CW_law_rows {l : Nat} {cs : List Int} {Q : MV → MH → Prop} (hl : mh[l]? = some (.lst (cs.map .int))) (h1 : 2 ≤ cs.length) (h2 : cs.length ≤ 9)
    (q : ∀ m' r rows, RowsOk rows → RowsAt m' r rows → Ext mh m' → Q (.ref r) m') : CW D (n + 12) (.ref 217) [.ref l] Q mh := by
  refine CW_of_KW (KW_defA ["cells"] rfl ?_)
  walk_at "MR"
  refine ⟨by simp, ?_⟩
  refine XsW_cons (XW_for (FW_enum ?_))
  walk_at "MR"
  refine ⟨l, _, rfl, get_ext hl, ?_⟩
  refine ⟨fun i σ' m => Has σ' [("rows", .ref mh.length)] ∧ Ext mh m ∧ ∃ R : List Rw, R.length = i ∧ m[mh.length]? = some (.lst (R.map Rw.mv)) ∧ Made m mh.length R,
    ⟨by walk_at "MH", Ext.app _ _, [], rfl, get_snoc, fun k r h => by simp at h, fun r h => (nomatch h), fun r h => (nomatch h)⟩, fun _ _ _ h => h.2.1 _ _ hl, ?_, ?_⟩
  · rintro i v σ' m hv ⟨hσ, hx, R, hRl, hmr, hM⟩
    rw [List.getElem?_mapIdx, Option.map_eq_some_iff] at hv
    obtain ⟨tv, hv, rfl⟩ := hv
    rw [List.getElem?_map, Option.map_eq_some_iff] at hv
    obtain ⟨c, hc, rfl⟩ := hv
    have hil := (List.getElem?_eq_some_iff.mp hc).1
    have hmrl := get_lt hmr
    refine ⟨_, .pair _ _ _ _ _ _ _ _ _ (.inl rfl) (.inl rfl), XsW_has (hσ.put.put) ?_⟩
    have hi1 : (i : Int) + 1 = ((i + 1 : Nat) : Int) := by push_cast; rfl
    have hss := str_small' (a := i + 1) (by omega)
    walk_at "MR"
    refine ⟨c, rfl, ?_⟩
    generalize (if c < 0 then -c else c) = a0
    -- the day
    refine XsW_cons (XW_assign2s (EW_tuple (EsW_cons (EW_intc (EW_bin ?_)))))
    walk_at "MR"
    refine OW_mod (by decide) ⟨_, rfl, ?_⟩
    refine EsW_cons (EW_bin ?_)
    walk_at "MR"
    refine OW_floordiv (by decide) (PyProof.noPylong_small (by decide)) ?_
    walk_at "MR"
    refine ⟨by simp, _, _, rfl, ?_⟩
    generalize a0.fmod 3 = day
    generalize a0.fdiv 3 = a1
    -- the base
    refine XsW_cons (XW_assign2s (EW_tuple (EsW_cons (EW_subAt ?_))))
    walk_at "MR"
    refine ⟨by simp, ?_⟩
    refine EW_intc (EW_bin ?_)
    walk_at "MR"
    refine OW_mod (by decide) ⟨_, rfl, ?_⟩
    have hk0 : 0 ≤ a1.fmod 4 := Int.fmod_nonneg_of_pos a1 (by decide)
    have hk1 : a1.fmod 4 < 4 := Int.fmod_lt_of_pos a1 (by decide)
    obtain ⟨b, hb⟩ : ∃ b : Str, ([MV.str (Str.ofString "TEA"), .str (Str.ofString ""), .str (Str.ofString "BOAT"), .str (Str.ofString "PLAN")] : List MV)[(a1.fmod 4).toNat]? = some (.str b) := by
      have : (a1.fmod 4).toNat = 0 ∨ (a1.fmod 4).toNat = 1 ∨ (a1.fmod 4).toNat = 2 ∨ (a1.fmod 4).toNat = 3 := by omega
      rcases this with e | e | e | e <;> rw [e] <;> exact ⟨_, rfl⟩
    refine ⟨.str b, .lst get_snoc hk0 hb (by decide), ?_⟩
    refine EsW_cons (EW_bin ?_)
    walk_at "MR"
    refine OW_floordiv (by decide) (PyProof.noPylong_small (by decide)) ?_
    walk_at "MR"
    refine ⟨by simp, _, _, rfl, ?_⟩
    have hx1 : Ext m (m ++ [MO.lst [MV.str (Str.ofString "TEA"), .str (Str.ofString ""), .str (Str.ofString "BOAT"), .str (Str.ofString "PLAN")]]) := Ext.app _ _
    generalize (m ++ [MO.lst [MV.str (Str.ofString "TEA"), .str (Str.ofString ""), .str (Str.ofString "BOAT"), .str (Str.ofString "PLAN")]]) = m1 at hx1
    generalize a1.fdiv 4 = a2
    -- the one above
    refine XsW_cons (XW_assign2s (EW_tuple (EsW_cons (EW_intc (EW_bin ?_)))))
    walk_at "MR"
    rw [hi1]
    refine OW_mod (by omega) ⟨_, rfl, ?_⟩
    have hp0 : (0 : Int) < ((i + 1 : Nat) : Int) := by omega
    have hk2 : 0 ≤ a2.fmod ((i + 1 : Nat) : Int) := Int.fmod_nonneg_of_pos a2 hp0
    have hk3 : a2.fmod ((i + 1 : Nat) : Int) < ((i + 1 : Nat) : Int) := Int.fmod_lt_of_pos a2 hp0
    obtain ⟨ab, hab⟩ : ∃ ab : Nat, a2.fmod ((i + 1 : Nat) : Int) = ab := ⟨(a2.fmod ((i + 1 : Nat) : Int)).toNat, by omega⟩
    rw [hab] at hk3 ⊢
    refine EsW_cons (EW_bin ?_)
    walk_at "MR"
    rw [hi1]
    refine OW_floordiv (by omega) (PyProof.noPylong_small (by omega)) ?_
    walk_at "MR"
    refine ⟨by simp, _, _, rfl, ?_⟩
    generalize a2.fdiv ((i + 1 : Nat) : Int) = a3
    -- the row
    refine XsW_cons (XW_expr (EW_append ?_))
    walk_at "MR"
    refine ⟨mh.length, _, rfl, hx1 _ _ hmr, ?_⟩
    walk_at "MR"
    rw [hi1]
    refine ⟨_, rfl, hss.2, ?_⟩
    walk_at "MR"
    refine OW_add_str hss.1 ?_
    have hs2 := str_small' (a := ab) (by omega)
    have fin : ∀ m2, Ext m1 m2 → m2[m1.length]? = some (.lst (refsV ⟨i + 1, m1.length, ab, day, b, decide (a3.fmod 2 = 1)⟩)) →
        (∃ ws, m2[mh.length]? = some (.lst ws) ∧ ws.length ≤ 1000 ∧ Ext mh (m2.set mh.length (.lst (ws ++ [Rw.mv ⟨i + 1, m1.length, ab, day, b, decide (a3.fmod 2 = 1)⟩]))) ∧ ∃ R' : List Rw, R'.length = i + 1 ∧
          (m2.set mh.length (.lst (ws ++ [Rw.mv ⟨i + 1, m1.length, ab, day, b, decide (a3.fmod 2 = 1)⟩])))[mh.length]? = some (.lst (R'.map Rw.mv)) ∧ Made (m2.set mh.length (.lst (ws ++ [Rw.mv ⟨i + 1, m1.length, ab, day, b, decide (a3.fmod 2 = 1)⟩]))) mh.length R') := by
      intro m2 hx2 hrl
      have hx12 := hx1.trans hx2
      have hm2 := hx12 _ _ hmr
      have hml := hx1.len
      refine ⟨_, hm2, by rw [List.length_map]; omega, (hx.trans hx12).set (Nat.le_refl _), R ++ [⟨i + 1, m1.length, ab, day, b, decide (a3.fmod 2 = 1)⟩], by rw [List.length_append, hRl]; rfl, ?_, ?_, ?_, ?_⟩
      · rw [List.map_append]; exact get_set_eq (get_lt hm2)
      · intro k r hk
        by_cases hkl : k < R.length
        · rw [List.getElem?_append_left hkl] at hk
          exact hM.num k r hk
        · rw [List.getElem?_append_right (by omega)] at hk
          have h0 : k - R.length = 0 := by
            have := (List.getElem?_eq_some_iff.mp hk).1
            simp at this; omega
          rw [h0] at hk
          have : r = ⟨i + 1, m1.length, ab, day, b, decide (a3.fmod 2 = 1)⟩ := by simpa using hk.symm
          rw [this]; show i + 1 = k + 1; omega
      · intro r hr
        rcases List.mem_append.mp hr with hr | hr
        · exact hM.ab r hr
        · rw [List.mem_singleton.mp hr]; show ab < i + 1; omega
      · intro r hr
        rcases List.mem_append.mp hr with hr | hr
        · obtain ⟨a1, a2⟩ := hM.rl r hr
          exact ⟨get_set_ne (by omega) (hx12 _ _ a1), a2⟩
        · rw [List.mem_singleton.mp hr]
          exact ⟨get_set_ne (by show mh.length ≠ m1.length; omega) hrl, by show mh.length < m1.length; omega⟩
    have hfl : (a3.fmod 2 == 1) = decide (a3.fmod 2 = 1) := by by_cases h : a3.fmod 2 = 1 <;> simp [h]
    refine EsW_cons (EW_ifexp (IW_cmp ?_))
    walk_at "MR"
    by_cases h0 : ab = 0
    · rw [if_neg (by simp; omega)]
      walk_at "MR"
      refine ⟨by simp, ?_⟩
      walk_at "MR"
      refine OW_mod (by decide) ⟨_, rfl, ?_⟩
      walk_at "MR"
      rw [hfl]
      refine ⟨by simp, ?_⟩
      obtain ⟨ws, f1, f2, f3, R', f4, f5, f6⟩ := fin (m1 ++ [.lst []]) (Ext.app _ _) (by rw [get_snoc]; unfold refsV; rw [if_pos h0])
      exact ⟨ws, f1, f2, rfl, XsW_nil ⟨by walk_at "MH", f3, R', f4, f5, f6⟩⟩
    · rw [if_pos (by simp; omega)]
      walk_at "MR"
      refine ⟨_, rfl, hs2.2, ?_⟩
      walk_at "MR"
      refine OW_add_str hs2.1 ?_
      walk_at "MR"
      refine ⟨by simp, ?_⟩
      walk_at "MR"
      refine OW_mod (by decide) ⟨_, rfl, ?_⟩
      walk_at "MR"
      rw [hfl]
      refine ⟨by simp, ?_⟩
      obtain ⟨ws, f1, f2, f3, R', f4, f5, f6⟩ := fin (m1 ++ [.lst [.str (nmS ab)]]) (Ext.app _ _) (by rw [get_snoc]; unfold refsV; rw [if_neg h0])
      exact ⟨ws, f1, f2, rfl, XsW_nil ⟨by walk_at "MH", f3, R', f4, f5, f6⟩⟩
  · rintro σ' m ⟨hσ, hx, R, hRl, hmr, hM⟩
    rw [List.length_mapIdx, List.length_map] at hRl
    refine XsW_has hσ ?_
    walk_at "MR"
    exact q m _ R ⟨by omega, by omega, hM.num, hM.ab⟩ ⟨hmr, fun r hr => (hM.rl r hr).1⟩ hx
end
end Mine

namespace Mine
theorem noMul (a : Int) : IntMulOk a 7919 ∧ IntMulOk a 104729 := ⟨.of_right (by decide +kernel), .of_right (by decide +kernel)⟩
theorem told_deps (ts : List Tr) : isDs (2 * Tr.deps ts) (ts.map Tr.told) = true := by rw [← tolds_map]; exact tolds_isD ts
section
variable {D : WD} {n : Nat}
theorem KW_law {ns : List Int} (hz : ns.length ≤ 63) : KW D 90 (.ref 239) [.ilst (ns.map .int)] (fun v _ => v = .bool true) [] := by
  refine KW_defA ["script"] rfl ?_
  refine XsW_cons (XW_assign (EW_callK (a := 217) ?_))
  refine EsW_cons (EW_bin (EW_listc (EW_uptoI ?_)))
  walk_at "MR"
  refine ⟨_, 7, rfl, rfl, by rw [List.length_map]; omega, ?_⟩
  refine ⟨_, _, rfl, get_snoc, by rw [List.length_take]; omega, ?_⟩
  refine EW_list (EsW_cons (EW_bin (EW_lenI ?_)))
  walk_at "MR"
  refine ⟨_, rfl, by rw [List.length_map]; omega, ?_⟩
  walk_at "MR"
  refine OW_mul (noMul _).1 ?_
  refine EsW_cons (EW_bin (EW_bin (EW_lenI ?_)))
  walk_at "MR"
  refine ⟨_, rfl, by rw [List.length_map]; omega, ?_⟩
  walk_at "MR"
  refine OW_mul (noMul _).2 ?_
  walk_at "MR"
  refine ⟨by simp, ?_⟩
  refine OW_add_list (get_ext get_snoc) get_snoc (by rw [List.length_take]; simp; omega) ?_
  have e : (ns.map MV.int).take 7 ++ [MV.int (((ns.map MV.int).length : Int) * 7919), MV.int (((ns.map MV.int).length : Int) * 104729 + 30)] =
      (ns.take 7 ++ [((ns.map MV.int).length : Int) * 7919, ((ns.map MV.int).length : Int) * 104729 + 30]).map MV.int := by rw [List.map_append, List.map_take]; rfl
  rw [e]
  walk_at "MR"
  refine CW_law_rows (n := 77) get_snoc (by simp) (by rw [List.length_append, List.length_take]; simp; omega) fun m1 l rows ok hl1 _ => ?_
  have hlen := ok.len
  have hrz : (rows.map Rw.mv).length ≤ 1000 := by rw [List.length_map]; omega
  refine XsW_cons (XW_assign (EW_callK (a := 210) ?_))
  walk_at "MR"
  refine CW_subject_threads (n := 75) ok hl1 fun m2 r2 ts line L h2 f2 htold hx2 => ?_
  have hl2 := hl1.ext hx2
  have hsz := f2.sz ok
  have hts := len_szs ts
  have hdp := deps_szs ts
  refine XsW_cons (XW_if (IW_boolop (AW_or (IW_cmp ?_))))
  refine EW_comp [] capNil (FW_val ?_)
  walk_at "MR"
  refine ⟨_, _, .lst r2 _, h2, ?_⟩
  refine compM Tr.told (fun _ => true) (by omega) (fun m' hx' => hx' _ _ h2) ?_ ?_
  · intro s m3 hs hx3
    have hsA := (f2.at_.mem s hs).ext hx3
    have hss := szs_mem hs
    refine ⟨_, .name _ _ _ _ (by rfl), rfl, hx3, fun _ => ?_⟩
    refine EW_methK (C := 36) (f := 33) ?_
    walk_at "MR"
    refine ⟨s.i, _, rfl, hsA.nk.1, by rfl, ?_⟩
    walk_at "MR"
    exact CW_told (n := 78) hsA (by omega) fun m4 hx4 => ⟨rfl, hx3.trans hx4⟩
  intro m3 hx3
  rw [List.filter_eq_self.mpr (by simp)]
  have hk3 := get_snoc (l := m3) (a := MO.lst (ts.map Tr.told))
  have hx3' := hx3.snoc (MO.lst (ts.map Tr.told))
  generalize m3 ++ [MO.lst (ts.map Tr.told)] = m4 at hk3 hx3'
  generalize m3.length = k3 at hk3
  refine EW_callK (a := 222) ?_
  walk_at "MR"
  refine CW_law_due (n := 77) ok (hx3' _ _ hl2.1) fun m5 r5 line5 L5 h5 hx5 => ?_
  have hll : line5 = line := L5.uniq L
  rw [hll, ← htold] at h5
  refine OW_ne_lists (n := 79) (d := 2 * Tr.deps ts) (hx5 _ _ hk3) h5 (told_deps ts) (by omega) ?_
  rw [if_neg (by decide)]
  have hx25 : Ext m2 m5 := hx3'.trans hx5
  refine AW_or (IW_not (IW_val ?_))
  refine EW_callK (a := 234) ?_
  walk_at "MR"
  refine ⟨l, _, rfl, hx25 _ _ hl2.1, hrz, ?_⟩
  walk_at "MR"
  rw [List.length_map]
  refine CW_tools (n := 24) (f2.good ok) (by omega) (by omega) (hx25 _ _ h2) (f2.at_.ext hx25) fun m6 hx6 => ?_
  refine BW_bool ?_
  rw [if_neg (by decide)]
  refine AW_or_nil ?_
  rw [if_neg (by decide)]
  refine XsW_nil ?_
  refine XsW_cons (XW_return (EW_callK (a := 234) ?_))
  refine EsW_cons (EW_callK (a := 205) ?_)
  walk_at "MR"
  have hl6 := hl2.ext (hx25.trans hx6)
  refine CW_reference_threads (n := 75) ok hl6 fun m7 r7 ts7 h7 f7 k7 => ?_
  have hl7 := k7 _ _ hl6.1 rfl
  walk_at "MR"
  refine ⟨l, _, rfl, hl7, hrz, ?_⟩
  walk_at "MR"
  rw [List.length_map]
  have hsz7 := f7.sz ok
  exact CW_tools (n := 24) (f7.good ok) (by omega) (by omega) h7 f7.at_ fun m8 hx8 => rfl
end
end Mine

namespace Mine
theorem ints_rep {R : RR} : ∀ {vs : List Value} {ns : List Int}, IntsAre vs ns → VReps R (ns.map .int) vs
  | _, _, .nil => .nil
  | _, _, .cons n t h => .cons (.int n t) (ints_rep h)
theorem join_rep {D : WD} {h : Heap} {l : Addr} {lo : Obj} (hb : ∀ b o, D.H₀.get? b = some o → h.get? b = some o) (hl : D.H₀.get? l = some lo) (t1 : h.get? 219 = some (tabObj #[])) (t2 : h.get? 207 = some (tabObj #[])) (t3 : h.get? 153 = some (tabObj #[])) : HRep D ⟨[], [(l, lo)]⟩ [] h where
  base := hb
  len := rfl
  nd := List.nodup_nil
  obj := fun i o a h => by simp at h
  imm := fun p hp => by rw [List.mem_singleton.mp hp]; exact hb _ _ hl
  off := fun a ha => (nomatch ha)
  offi := fun p hp ht => by
    rw [List.mem_singleton.mp hp] at ht
    have := HRep.base_tab (D := D) ht
    rw [hl] at this; cases this
  ms := fun a ha => (nomatch ha)
  t1 := ⟨#[], t1, .inl rfl⟩
  t2 := ⟨#[], t2, .inl rfl⟩
  t3 := ⟨#[], t3, .inl rfl⟩
theorem join_names {D : WD} {env : Env} {h : Heap} {l : Addr} {lo : Obj} {m : Str → Option Value} {vs : List Value} {ns : List Int} {n : Nat} (hns : h.Ns env.locals m) (hm : m (Str.ofString "script") = some (.ref l)) (hk : env.kindOf (Str.ofString "script") = some .local) (hc : env.cells = [])
    (hL : D.H₀.get? env.locals = none) (hLt : env.locals ∉ tabs) (hl : D.H₀.get? l = some lo) (h2 : lo.cls = .type "list") (h3 : lo.data = .seq vs.toArray n) (hI : IntsAre vs ns) :
    NamesOk D env [(Str.ofString "script", .ilst (ns.map .int))] ⟨[], [(l, lo)]⟩ h where
  ns := by
    refine ⟨m, hns, fun x mv hx => ?_⟩
    have hp := mem_of_lookup hx
    rw [List.mem_singleton] at hp
    cases hp
    exact ⟨.ref l, .ilst List.mem_cons_self h2 h3 (ints_rep hI), .inl ⟨hk, hm⟩⟩
  cells := fun x c h => by rw [hc] at h; exact (nomatch h)
  apart := by rw [hc]; exact List.Pairwise.nil
  lc := fun x c h => by rw [hc] at h; exact (nomatch h)
  na := fun a ha => by
    unfold nameAddrs at ha
    rw [hc] at ha
    rw [List.map_nil, List.mem_singleton] at ha
    subst ha
    refine ⟨hL, fun h => (nomatch h), hLt, fun p hp e => ?_⟩
    rw [List.mem_singleton.mp hp] at e
    have e' : l = env.locals := e
    rw [← e', hl] at hL; cases hL
theorem join_go {D : WD} {si : SI} {body : List Stmt} {σ : Locals} {A : Around} {env : Env} {R : RR} {s : Shared} (hW : XsW D 89 si body σ (fun _ _ => False) (fun v _ => v = .bool true) []) (ok : ROk 89 A) (eo : EnvOk si env) (hr : HRep D R [] s.heap) (nm : NamesOk D env σ R s.heap) :
    wpAny (model Prg D.w) A (execs body env) (fun f s' => f = .ret (.bool true) ∧ (∀ b o, D.H₀.get? b = some o → s'.heap.get? b = some o) ∧ s'.os = s.os ∧ s'.gens = s.gens ∧ GrownAt 219 s'.heap ∧ GrownAt 207 s'.heap ∧ GrownAt 153 s'.heap) (fun _ _ => False) s := by
  refine wpAny_mono (hW A env R s ok eo hr nm) (fun f s' z => ?_) fun _ _ f => f
  obtain ⟨R', mh', h', tk', rfl, g, hr', q⟩ := z
  have g1 : GrownAt 219 h' := by obtain ⟨ps, e, _⟩ := hr'.t1; exact ⟨ps, e⟩
  have g2 : GrownAt 207 h' := by obtain ⟨ps, e, _⟩ := hr'.t2; exact ⟨ps, e⟩
  have g3 : GrownAt 153 h' := by obtain ⟨ps, e, _⟩ := hr'.t3; exact ⟨ps, e⟩
  cases f with
  | next => obtain ⟨_, _, q⟩ := q; exact q.elim
  | ret rv =>
    obtain ⟨mv, v, rfl⟩ := q
    cases v
    exact ⟨rfl, hr'.base, rfl, rfl, g1, g2, g3⟩
  | brk => exact q.elim
  | cont => exact q.elim
theorem no_cell {names : List (Str × NameKind)} {P : Addr → Prop} (h : names.all (fun y => !decide (y.2 = .cell)) = true) {x : Str} (hx : names.lookup x = some .cell) : ∃ c, P c := by
  have h1 := List.all_eq_true.mp h _ (mem_of_lookup hx)
  simp at h1
theorem above_none {h₀ h : Heap} {L : Addr} {m : Str → Option Value} (F : Fr h₀ L h m) : h₀.get? L = none := by
  cases he : h₀.get? L with
  | none => rfl
  | some o => exact absurd (Heap.lt_size he) (Nat.not_lt.mpr F.above)
theorem not_tab {L : Addr} (h1 : (219 : Addr) ≠ L) (h2 : (207 : Addr) ≠ L) (h3 : (153 : Addr) ≠ L) : L ∉ tabs := by
  intro h
  simp only [tabs, List.mem_cons, List.not_mem_nil, or_false] at h
  rcases h with e | e | e
  · exact h1 e.symm
  · exact h2 e.symm
  · exact h3 e.symm
end Mine
open Mine in
set_option maxHeartbeats 16000000 in
theorem PySem.Challenge.cw_or0045_01_holds : PySem.Challenge.rw_or0045_01.Holds := by
 exact hd (by
  k_go0
  rename (IntsAre _ _) => hI
  rename (Heap.IsList (ghostOf _ _) _ _) => hLst
  rename (Frag.In _ (ghostOf _ _)) => hX
  rename (Top _ _ _ _ _ (ghostOf _ _)) => hT
  rename (Fr _ _ _ _) => hF
  rename (News _ _ _ _) => hN
  rename (_ = (#[] : Array _)) => hgens
  rename (¬ _ < _) => hlen
  rename (List Int) => ns
  have hN1 := hN (219, tabObj #[]) (by simp)
  have hN2 := hN (207, tabObj #[]) (by simp)
  have hN3 := hN (153, tabObj #[]) (by simp)
  obtain ⟨lo, hl1, hl2, ln, hl3⟩ := hLst
  let D : WD := ⟨_, _, _, _, _, _, _, hT, hX, by assumption, by assumption, by assumption, hN1.2.2, hN2.2.2, hN3.2.2⟩
  have hHR := join_rep (D := D) hF.keep hl1 hN1.1 hN2.1 hN3.1
  refine wpAny_mono (join_go (D := D) (si := ⟨_, _, _⟩) ?W ⟨rfl, ?ok1, ?ok2⟩ ⟨rfl, rfl, rfl, rfl, rfl, rfl, ?cells⟩ hHR (join_names hF.ns rfl rfl rfl ?nL ?nT hl1 hl2 hl3 hI)) ?post (fun _ _ f => f.elim)
  case W =>
    clear_value D
    dsimp only [envOf]
    have hz : ns.length ≤ 63 := by omega
    refine XsW_cons (XW_assign (EW_callK (a := 217) ?_))
    refine EsW_cons (EW_bin (EW_listc (EW_uptoI ?_)))
    walk_at "MR"
    refine ⟨_, 7, rfl, rfl, by rw [List.length_map]; omega, ?_⟩
    refine ⟨_, _, rfl, get_snoc, by rw [List.length_take]; omega, ?_⟩
    refine EW_list (EsW_cons (EW_bin (EW_lenI ?_)))
    walk_at "MR"
    refine ⟨_, rfl, by rw [List.length_map]; omega, ?_⟩
    walk_at "MR"
    refine OW_mul (noMul _).1 ?_
    refine EsW_cons (EW_bin (EW_bin (EW_lenI ?_)))
    walk_at "MR"
    refine ⟨_, rfl, by rw [List.length_map]; omega, ?_⟩
    walk_at "MR"
    refine OW_mul (noMul _).2 ?_
    walk_at "MR"
    refine ⟨by simp, ?_⟩
    refine OW_add_list (get_ext get_snoc) get_snoc (by rw [List.length_take]; simp; omega) ?_
    have e : (ns.map MV.int).take 7 ++ [MV.int (((ns.map MV.int).length : Int) * 7919), MV.int (((ns.map MV.int).length : Int) * 104729 + 30)] =
        (ns.take 7 ++ [((ns.map MV.int).length : Int) * 7919, ((ns.map MV.int).length : Int) * 104729 + 30]).map MV.int := by rw [List.map_append, List.map_take]; rfl
    rw [e]
    walk_at "MR"
    refine CW_law_rows (n := 77) get_snoc (by simp) (by rw [List.length_append, List.length_take]; simp; omega) fun m1 l rows ok hl1 _ => ?_
    have hlen := ok.len
    have hrz : (rows.map Rw.mv).length ≤ 1000 := by rw [List.length_map]; omega
    refine XsW_cons (XW_assign (EW_callK (a := 210) ?_))
    walk_at "MR"
    refine CW_subject_threads (n := 75) ok hl1 fun m2 r2 ts line L h2 f2 htold hx2 => ?_
    have hl2 := hl1.ext hx2
    have hsz := f2.sz ok
    have hts := len_szs ts
    have hdp := deps_szs ts
    refine XsW_cons (XW_if (IW_boolop (AW_or (IW_cmp ?_))))
    refine EW_comp [] capNil (FW_val ?_) (hcap := by dsimp only; decide)
    walk_at "MR"
    refine ⟨_, _, .lst r2 _, h2, ?_⟩
    refine compM Tr.told (fun _ => true) (by omega) (fun m' hx' => hx' _ _ h2) ?_ ?_
    · intro s m3 hs hx3
      have hsA := (f2.at_.mem s hs).ext hx3
      have hss := szs_mem hs
      refine ⟨_, .name _ _ _ _ (by rfl), rfl, hx3, fun _ => ?_⟩
      refine EW_methK (C := 36) (f := 33) ?_
      walk_at "MR"
      refine ⟨s.i, _, rfl, hsA.nk.1, by rfl, ?_⟩
      walk_at "MR"
      exact CW_told (n := 78) hsA (by omega) fun m4 hx4 => ⟨rfl, hx3.trans hx4⟩
    intro m3 hx3
    rw [List.filter_eq_self.mpr (by simp)]
    have hk3 := get_snoc (l := m3) (a := MO.lst (ts.map Tr.told))
    have hx3' := hx3.snoc (MO.lst (ts.map Tr.told))
    generalize m3 ++ [MO.lst (ts.map Tr.told)] = m4 at hk3 hx3'
    generalize m3.length = k3 at hk3
    refine EW_callK (a := 222) ?_
    walk_at "MR"
    refine CW_law_due (n := 77) ok (hx3' _ _ hl2.1) fun m5 r5 line5 L5 h5 hx5 => ?_
    have hll : line5 = line := L5.uniq L
    rw [hll, ← htold] at h5
    refine OW_ne_lists (n := 79) (d := 2 * Tr.deps ts) (hx5 _ _ hk3) h5 (told_deps ts) (by omega) ?_
    rw [if_neg (by decide)]
    have hx25 : Ext m2 m5 := hx3'.trans hx5
    refine AW_or (IW_not (IW_val ?_))
    refine EW_callK (a := 234) ?_
    walk_at "MR"
    refine ⟨l, _, rfl, hx25 _ _ hl2.1, hrz, ?_⟩
    walk_at "MR"
    rw [List.length_map]
    refine CW_tools (n := 24) (f2.good ok) (by omega) (by omega) (hx25 _ _ h2) (f2.at_.ext hx25) fun m6 hx6 => ?_
    refine BW_bool ?_
    rw [if_neg (by decide)]
    refine AW_or_nil ?_
    rw [if_neg (by decide)]
    refine XsW_nil ?_
    refine XsW_cons (XW_return (EW_callK (a := 234) ?_))
    refine EsW_cons (EW_callK (a := 205) ?_)
    walk_at "MR"
    have hl6 := hl2.ext (hx25.trans hx6)
    refine CW_reference_threads (n := 75) ok hl6 fun m7 r7 ts7 h7 f7 k7 => ?_
    have hl7 := k7 _ _ hl6.1 rfl
    walk_at "MR"
    refine ⟨l, _, rfl, hl7, hrz, ?_⟩
    walk_at "MR"
    rw [List.length_map]
    have hsz7 := f7.sz ok
    exact CW_tools (n := 24) (f7.good ok) (by omega) (by omega) h7 f7.at_ fun m8 hx8 => rfl

  case ok1 => show callerA.depth + 1 + 3 * 89 < recursionLimit; decide
  case ok2 => show callerA.units + 3 + 20 * 89 < cLine; decide
  case cells => intro x hx; exact no_cell (by rfl) hx
  case nL => exact above_none hF
  case nT => exact not_tab hN1.2.1 hN2.2.1 hN3.2.1
  case post =>
    rintro f s' ⟨hf, hb, hos, hg, g1, g2, g3⟩
    subst hf
    exact ⟨⟨.inl ⟨.bool true, .bool true, [], rfl, fun _ => rfl, .bool true, by first | kc_post | wrow_post, fun _ => ⟨List.nodup_nil, fun a ha => (nomatch ha)⟩⟩, hb, hos, hg.trans hgens⟩, g1, g2, g3, trivial⟩)
