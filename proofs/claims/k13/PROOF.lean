import PyProof.Rows.All
import Wide.All
import OpenK.AllK
import Wide.FinOn
import HandS.AnyAll
import HandS.GenOver
import HandS.GenList
import HandS.ForMost
import HandS.ForExc
import HandS.DictComp
import HandS.FStr
import HandS.Style
import HandS.Wide
import HandS.IsInst
import HandS.ExcInit
import HandS.ExcField
import HandS.ExcIs
import HandS.TupAny
import HandS.ReplaceLit
import HandS.EndTab
import HandS.CallSlots
import HandS.Flow
import HandS.Deep
import KE.KStar
import KE.KAssignIn
import PyProof.CollectStr
import PySem.Challenge.RW_deepcalls_k13_whole_texts
import HandS.HeadHook4
import KE.IntTextLaws
import PyProof.NeKinds
import KE.KExcIs
import HandS.ReplaceDef
import KE.KStateDown
import HandS.Head0
import HandS.Head1
import HandS.Head2
import HandS.HeadWalk
set_option Elab.async false
set_option linter.all false
set_option maxRecDepth 100000
set_option maxHeartbeats 4000000
/-! all(elt for target in iter), the element any expression: a generator that is drawn by all at once. -/
namespace DcG
open PySem PySem.Spec PyProof.Rows L2 GenW

/-- a code object whose table stands at P -/
abbrev CodeK (c P : Addr) : HO := .ext fun h => PySem.W.CodeHd h c P
/-- a table of code objects -/
def Tab0 (H : Hp) (P : Addr) : Prop := ∃ ps : Array Value, H P = some (.tbl ps) ∧ TriplesOk ps.toList
/-- a table of code objects; n: whether the tables of the codes in it are known -/
def TabK : Bool → Hp → Addr → Prop
  | false, H, P => Tab0 H P
  | true, H, P => ∃ ps : Array Value, H P = some (.tbl ps) ∧ TriplesOk ps.toList ∧
      ∀ pos cv, codeAmong pos ps.toList = some cv → ∃ c' P', cv = .ref c' ∧ P' ≠ P ∧ H c' = some (CodeK c' P') ∧ Tab0 H P'
theorem TabK.tbl : ∀ {n : Bool} {H : Hp} {P : Addr}, TabK n H P → ∃ ps : Array Value, H P = some (.tbl ps) ∧ TriplesOk ps.toList
  | false, _, _, h => h
  | true, _, _, ⟨ps, h1, h2, _⟩ => ⟨ps, h1, h2⟩
theorem TabK.zero {n : Bool} {H : Hp} {P : Addr} (h : TabK n H P) : Tab0 H P := h.tbl
theorem TabK.new {H : Hp} {P : Addr} (h : H P = some (.tbl #[])) : ∀ n, TabK n H P
  | false => ⟨#[], h, trivial⟩
  | true => ⟨#[], h, trivial, fun _ _ e => by cases e⟩
theorem codeAmong_add {pos pos' : Pos} {c cv : Value} (l : List Value) (h : TriplesOk l) (e : codeAmong pos' (l ++ [rawInt pos.line, rawInt pos.col, c]) = some cv) : codeAmong pos' l = some cv ∨ cv = c := by
  fun_induction TriplesOk l with
  | case1 =>
    simp only [List.nil_append, rawInt, codeAmong] at e
    split at e
    · exact .inr (Option.some.inj e).symm
    · cases e
  | case2 a t b u x rest ih =>
    simp only [List.cons_append, codeAmong] at e ⊢
    split at e
    · rename_i hc
      rw [if_pos hc]
      exact .inl e
    · rename_i hc
      rw [if_neg hc]
      exact ih h e
  | case3 l h1 h2 => exact h.elim

/-- what H1 tells stays but for the table at P; the code of the generator expression is cv -/
structure Grown (n : Bool) (P : Addr) (H1 H2 : Hp) (cv : Value) : Prop where
  tab : TabK n H2 P
  keep : ∀ b o, b ≠ P → H1 b = some o → H2 b = some o
  code : n = true → ∃ c' P', cv = .ref c' ∧ P' ≠ P ∧ H2 c' = some (CodeK c' P') ∧ Tab0 H2 P'
theorem Grown.tab0 {n : Bool} {P Q : Addr} {H1 H2 : Hp} {cv : Value} (g : Grown n P H1 H2 cv) (h : Tab0 H1 Q) : Tab0 H2 Q := by
  by_cases e : Q = P
  · subst e
    exact g.tab.zero
  · obtain ⟨ps, h1, h2⟩ := h
    exact ⟨ps, g.keep _ _ e h1, h2⟩

section
variable {X : Cx} {pins : List (Addr × Obj)} {σ : L2.St} {H : Hp} {s : Shared}
/-- the table at P has grown by a code at c' with its table at P', both new -/
theorem inv_tab2 {P c' P' : Addr} {ps more : Array Value} {h' : Heap} {g' : Array GenState} {d' : Drawn} {t' : Nat} (I : Inv X pins σ H s) (hP : H P = some (.tbl ps)) (k : ∀ b o, b ≠ P → s.heap.get? b = some o → h'.get? b = some o)
    (hm : h'.get? P = some { cls := .none, data := .fields (ps ++ more) }) (hc : s.heap.objs.size ≤ c') (hP' : s.heap.objs.size ≤ P') (hne : c' ≠ P') (hcode : PySem.W.CodeHd h' c' P') (htab : h'.get? P' = some { cls := .none, data := .fields #[] }) (hg : AllBare g') :
    Inv X pins σ (upd (upd (upd H P (.tbl (ps ++ more))) c' (CodeK c' P')) P' (.tbl #[])) { s with heap := h', gens := g', drawn := d', toks := t' } := by
  have old : ∀ {b u}, H b = some u → b ≠ c' ∧ b ≠ P' := fun {b u} e => by
    have := I.hok.lt e
    exact ⟨Nat.ne_of_lt (Nat.lt_of_lt_of_le this hc), Nat.ne_of_lt (Nat.lt_of_lt_of_le this hP')⟩
  have oldh : ∀ {b o}, s.heap.get? b = some o → b ≠ c' ∧ b ≠ P' := fun {b o} e => by
    have := Heap.lt_size e
    exact ⟨Nat.ne_of_lt (Nat.lt_of_lt_of_le this hc), Nat.ne_of_lt (Nat.lt_of_lt_of_le this hP')⟩
  have at_ : ∀ b, b ≠ P → b ≠ c' → b ≠ P' → (upd (upd (upd H P (.tbl (ps ++ more))) c' (CodeK c' P')) P' (.tbl #[])) b = H b := fun b h1 h2 h3 => by
    rw [upd_ne h3, upd_ne h2, upd_ne h1]
  have nP : ∀ b u, H b = some u → (∀ q, u ≠ .tbl q) → b ≠ P := fun b u e q z => by
    rw [z, hP] at e
    exact q ps (Option.some.inj e).symm
  have nN : ∀ b, H b = none → b ≠ P := fun b e z => by
    rw [z, hP] at e
    cases e
  have ePc : P ≠ c' ∧ P ≠ P' := old hP
  have hPv : (upd (upd (upd H P (.tbl (ps ++ more))) c' (CodeK c' P')) P' (.tbl #[])) P = some (.tbl (ps ++ more)) := by
    rw [upd_ne ePc.2, upd_ne ePc.1, upd_same]
  refine I.step (g' := g') (d' := d') (t' := t') (ch := []) (fun b hb => absurd hb (by simp)) (fun b o _ _ _ e n => k b o (nN b n) e) (fun b o _ _ _ e n => ⟨o.slots, k b o (nN b n) e⟩)
    (fun b o _ e n => by rw [at_ b (nN b n) (oldh e).1 (oldh e).2]; exact n) (fun b o _ e => ?_) (fun b xs e => by rw [at_ b (nP b _ e (fun q z => by cases z)) (old e).1 (old e).2]; exact e)
    (fun b o u e => by rw [at_ b (nP b _ e (fun q z => by cases z)) (old e).1 (old e).2]; exact e) (fun b qs e => ?_) (fun m hn => ?_) (fun b u e => ?_) hg
  · by_cases hb : b = P
    · rw [hb]
      exact ⟨_, hm⟩
    · exact ⟨o, k b o hb e⟩
  · by_cases hb : b = P
    · rw [hb, hP] at e
      cases e
      rw [hb, hPv]
      exact ⟨more, rfl⟩
    · rw [at_ b hb (old e).1 (old e).2, e]
      exact ⟨#[], by simp⟩
  · obtain ⟨ob, es, ep, ho, r⟩ := hn
    exact ⟨ob, es, ep, k _ ob (nN _ I.free) ho, r⟩
  · by_cases hb3 : b = P'
    · subst hb3
      rw [upd_same] at e
      cases e
      exact htab
    · by_cases hb2 : b = c'
      · subst hb2
        rw [upd_ne hb3, upd_same] at e
        cases e
        refine ⟨hcode, ?_, fun h1 h2 q kk => ?_⟩
        · obtain ⟨o, _, _, _, _, _, _, _, _, e1, _⟩ := hcode
          exact ⟨o, e1⟩
        · obtain ⟨o, vs, file, tf, flags, tg, inF, text, tt, e1, r⟩ := q
          exact ⟨o, vs, file, tf, flags, tg, inF, text, tt, kk _ e1, r⟩
      · by_cases hb1 : b = P
        · subst hb1
          rw [hPv] at e
          cases e
          exact hm
        · rw [at_ b hb1 hb2 hb3] at e
          refine (I.hok b u e).stay (fun d v hd q => k d v ?_ q) (fun d q => by rw [at_ d (nP d _ q (fun q z => by cases z)) (old q).1 (old q).2]; exact q) fun d xs q => by rw [at_ d (nP d _ q (fun q z => by cases z)) (old q).1 (old q).2]; exact q
          rcases hd with z | z
          · rw [z]
            exact hb1
          · exact nP d _ z (fun q z => by cases z)
theorem inv_gens {g' : Array GenState} (I : Inv X pins σ H s) (hg : AllBare g') : Inv X pins σ H { s with gens := g' } :=
  ⟨I.ok, I.os, hg, I.base, I.loc, I.cell, I.free, I.freeC, I.pin, I.hok, I.len⟩
/-- another state with the same heap -/
theorem inv_as {s' : Shared} (I : Inv X pins σ H s) (h1 : s'.heap = s.heap) (h2 : s'.os = s.os) (hg : AllBare s'.gens) : Inv X pins σ H s' := by
  obtain ⟨h', g', d', t', o'⟩ := s'
  obtain rfl : h' = s.heap := h1
  obtain rfl : o' = s.os := h2
  exact ⟨I.ok, I.os, hg, I.base, I.loc, I.cell, I.free, I.freeC, I.pin, I.hok, I.len⟩
end

/-- the context of a generator expression's frame, made at s, its iterator's objects at fp -/
abbrev gen (X : Cx) (A' : Around) (s : Shared) (H : Hp) (cenv : Env) (fp : List Addr) : Cx :=
  { X with A := A', s_0 := s, H_0 := H, env := cenv, outer := X.stack, stack := cenv :: X.stack, ex := fp, fn := fun _ => false, calm := true, pn := [], xe := fun _ _ => False }
abbrev gEnv (X : Cx) (scope : Scope) (C : Addr) (code : Value) : Env := genEnv scope (cloFrom X.env.cells scope.names []) C code builtinsNs X.env

section
variable {X : Cx} {pins : List (Addr × Obj)} {σ : L2.St} {H : Hp} {s : Shared}
theorem gen_start {scope : Scope} {own : List (Str × Nat)} {fp : List Addr} {A' : Around} {code : Value} {s' : Shared} {m : Str → Option Value}
    (I : Inv X pins σ H s) (ok : BlkOk X.N X.env.scope scope own) (hN : X.N.Nodup) (hcell : ∀ y ∈ scope.names, y.2 ≠ .cell) (hfp : ∀ b ∈ fp, FpOk X pins H b ∧ b < s.heap.objs.size)
    (hA : A'.handled = none) (hF : A'.frames = some (gEnv X scope s.heap.objs.size code :: X.stack)) (hns : s'.heap.Ns s.heap.objs.size m) (kp : ∀ b o, s.heap.get? b = some o → s'.heap.get? b = some o)
    (hos : s'.os = s.os) (hbare : AllBare s'.gens) : Inv (gen X A' s H (gEnv X scope s.heap.objs.size code) fp) [] (wipe σ (own.map (·.2))) H s' := by
  have hfree : ∀ y ∈ scope.names, y.2 = .free → ∃ c, X.env.cells.lookup y.1 = some c := fun y hy e => by
    rcases ok.free y hy e with k | k
    · exact I.ok.has _ (.inl k)
    · exact I.ok.has _ (.inr k)
  have cm : ∀ {y c}, (y, c) ∈ cloFrom X.env.cells scope.names [] → X.env.cells.lookup y = some c ∧ c < s.heap.objs.size := fun {y c} hm => by
    rcases cloFrom_mem hm with hm | ⟨h1, rfl⟩
    · cases hm
    · obtain ⟨c, hc⟩ := hfree _ h1 rfl
      rw [hc]
      obtain ⟨w, z⟩ := I.cell _ _ hc
      exact ⟨rfl, z.lt⟩
  generalize hcenv : gEnv X scope s.heap.objs.size code = cenv at hF ⊢
  have hL : cenv.locals = s.heap.objs.size := by rw [← hcenv]; rfl
  have hcl : cenv.cells = cloFrom X.env.cells scope.names [] := by rw [← hcenv]; rfl
  have hsc : cenv.scope = scope := by rw [← hcenv]; rfl
  have hfr : cenv.frame = some cenv.locals := by rw [← hcenv]; rfl
  have mem : ∀ {y c}, cenv.cells.lookup y = some c → X.env.cells.lookup y = some c ∧ c < s.heap.objs.size := fun {y c} e => by
    rw [hcl] at e
    exact cm (PySem.mem_of_lookup e)
  have look : ∀ {y}, scope.names.lookup y = some .free → ∃ c, cenv.cells.lookup y = some c ∧ X.env.cells.lookup y = some c := fun {y} hl => by
    have hy : (y, NameKind.free) ∈ scope.names := PySem.mem_of_lookup hl
    obtain ⟨c', e'⟩ := mem_lookup (cloFrom_has (cells := X.env.cells) (acc := []) hy)
    rw [← hcl] at e'
    exact ⟨c', e', (mem e').1⟩
  have noCell : ∀ {y}, scope.names.lookup y ≠ some .cell := fun {y} e => hcell _ (PySem.mem_of_lookup e) rfl
  have okB : (gen X A' s H cenv fp).Ok := by
    refine ⟨I.ok.mod, by show cenv.scope.kind = _; rw [hsc]; exact ok.kind, by show cenv.globals = _; rw [← hcenv]; exact I.ok.glob, by show cenv.builtins = _; rw [← hcenv]; rfl, by show s.heap.objs.size ≤ cenv.locals; rw [hL]; exact Nat.le_refl _,
      fun y z c e1 e2 => ?_, fun y hy => ?_, fun y c z e => ?_, fun _ => hA, hF, .inr ⟨rfl, hfr⟩, fun b hb => ⟨?_, fun y c e z => ?_⟩, I.bs, Nat.le_trans I.ok.bsz I.sz, fun b o e hb => ?_, fun b hb z => ?_, I.stack, I.stkFree⟩
    · exact I.ok.inj y z c (mem (show cenv.cells.lookup y = some c from e1)).1 (mem (show cenv.cells.lookup z = some c from e2)).1
    · show ∃ c, cenv.cells.lookup y = some c
      have hy : cenv.scope.names.lookup y = some .cell ∨ cenv.scope.names.lookup y = some .free := hy
      rw [hsc] at hy
      rcases hy with hy | hy
      · exact absurd hy noCell
      · obtain ⟨c, h1, _⟩ := look hy
        exact ⟨c, h1⟩
    · cases z
    · show b ≠ cenv.locals
      rw [hL]; exact Nat.ne_of_lt (hfp b hb).2
    · exact (hfp b hb).1.2.2.2.2.1 y c (mem (show cenv.cells.lookup y = some c from e)).1 z
    · rcases (hfp b hb).1.2.2.2.1 with z | z
      · exact I.ok.noex b o e z
      · exact absurd (Nat.lt_of_lt_of_le (Heap.lt_size e) (Nat.le_trans I.ok.bsz z)) (Nat.lt_irrefl _)
    · rcases List.mem_cons.mp (I.stkSub b z) with z | z
      · exact (hfp b hb).1.2.1 z
      · exact (hfp b hb).1.2.2.1 z
  refine ⟨okB, hos, hbare, Un.kept kp, ⟨m, ?_, fun i y av e1 e2 e3 => ?_⟩, fun y c e => ?_, ?_, fun y c e => ?_, fun p hp => ?_, I.hok.kept kp, by rw [wipe_length]; exact I.len⟩
  · show Heap.Ns _ cenv.locals _
    rw [hL]
    exact hns
  · obtain ⟨e2, hne⟩ := wipe_some e2
    have no : ∀ k, scope.names.lookup y = some k → ¬ (k = .local ∨ k = .cell) := fun k e hh => by
      rcases ok.own _ (PySem.mem_of_lookup e) hh with e' | e'
      · obtain ⟨p, hp, hpy⟩ := List.mem_map.mp e'
        have e3 := ok.ix p hp
        have : p.1 = y := hpy
        rw [this] at e3
        exact hne (List.mem_map.mpr ⟨p, hp, nodup_ix hN e3 e1⟩)
      · exact e' (List.mem_of_getElem? e1)
    have e3 : Vis cenv.scope y := e3
    rw [hsc] at e3
    have hfr : scope.names.lookup y = some .free := by
      rcases e3 with e3 | e3 | e3
      · exact absurd (.inl rfl) (no _ e3)
      · exact absurd (.inr rfl) (no _ e3)
      · exact e3
    obtain ⟨m, hn, hl⟩ := I.loc
    have hvis : Vis X.env.scope y := (ok.free _ (PySem.mem_of_lookup hfr) rfl).elim (fun k => .inr (.inl k)) (fun k => .inr (.inr k))
    obtain ⟨w, r, q⟩ := hl i y av e1 e2 hvis
    refine ⟨w, r, .inr ⟨.inr (show cenv.scope.names.lookup y = some .free by rw [hsc]; exact hfr), ?_⟩⟩
    obtain ⟨c, h1, h2⟩ := look hfr
    rcases q with ⟨k, _⟩ | ⟨_, c', e', z⟩
    · have k : X.env.scope.names.lookup y = some .local := k
      rcases ok.free _ (PySem.mem_of_lookup hfr) rfl with k' | k' <;> rw [show X.env.scope.names.lookup y = _ from k'] at k <;> cases k
    · rw [h2] at e'; cases e'
      exact ⟨c, h1, z.keeps kp⟩
  · obtain ⟨w, z⟩ := I.cell y c (mem (show cenv.cells.lookup y = some c from e)).1
    exact ⟨w, z.keeps kp⟩
  · show H cenv.locals = none
    rw [hL]; exact I.hok.fresh (Nat.le_refl _)
  · exact I.freeC y c (mem (show cenv.cells.lookup y = some c from e)).1
  · exact absurd (show p ∈ ([] : List (Addr × Obj)) ++ [] from hp) (by simp)
end

/-- what the turns of a generator expression under all(..) ask: W the invariant, by the turn and a measure -/
def GTurns (J : It) (g : TG) (te : TE) (vs : List Nat) (σ : L2.St) (Q : VK) (H2 : Hp) : Prop :=
  ∃ W : Nat → Nat → Hp → Prop, (∃ m, W 0 m H2) ∧ ∀ i m H, W i m H →
    (J.stop i H ∧ Q (.bl true) H) ∨ (J.go i H ∧ ∃ Nx : Hp → Prop, (∀ H', Nx H' → ∃ m', m' < m ∧ W (i + 1) m' H') ∧ ∀ x H', J.yld i H x H' → g x (wipe σ vs) H' fun σ2 H3 => wipe σ2 vs = wipe σ vs ∧
      te σ2 H3 fun y H4 => ∃ b : Bool, y = .bl b ∧ if b = true then Nx H4 else Q (.bl false) H4)

/-! ### the generator's run -/
/-- how it hands out a truth value, and goes on -/
def GY (Xg : Cx) (pins : List (Addr × Obj)) (σw : L2.St) (Q : VK) : Protocol := fun _ _ v s kap =>
  ∃ (b : Bool) (H : Hp), v = .bool b ∧ Inv Xg pins σw H s ∧ if b = true then (∀ s' : Shared, s'.heap = s.heap → s'.os = s.os → AllBare s'.gens → kap (.send .none) s') else Q (.bl false) H
def GR (Xg : Cx) (pins : List (Addr × Obj)) (σw : L2.St) (Q : VK) : GenEnd := fun _ _ r s => r = .ok .next ∧ ∃ H, Inv Xg pins σw H s ∧ Q (.bl true) H

section
variable {Xg : Cx} {A2 : Around} {elt tg iter : Expr} {scope : Scope} {gpos : Pos} {fp : List Addr} {it a : Addr} {tn : Nat → Heap → Prop} {J : It} {go : Obj} {σ : L2.St} {vs : List Nat} {Q : VK} {g : TG} {te : TE} {W : Nat → Nat → Hp → Prop}
theorem seg_gen (hA : A2.over (.compLoop (.GeneratorExp elt [⟨tg, iter, [], 0⟩] scope gpos) 0 (.ref it) .none Xg.env) [] = Xg.A) (hxe : Xg.xe = fun _ _ => False) (hcalm : Xg.calm = true) (hco : Xg.env.scope.isCoroutine = false)
    (T : Turn Xg.prog Xg.w Xg.K tg J fp it tn) (pg : PG Xg tg g) (pe : PE Xg elt te) (stat : ∀ {H : Hp}, (∀ b ∈ fp, H b = none) → ∀ b ∈ fp, FpOk Xg [(a, go)] H b)
    (turn : ∀ i m H, W i m H → (J.stop i H ∧ Q (.bl true) H) ∨ (J.go i H ∧ ∃ Nx : Hp → Prop, (∀ H', Nx H' → ∃ m', m' < m ∧ W (i + 1) m' H') ∧ ∀ x H', J.yld i H x H' → g x (wipe σ vs) H' fun σ2 H3 => wipe σ2 vs = wipe σ vs ∧
      te σ2 H3 fun y H4 => ∃ b : Bool, y = .bl b ∧ if b = true then Nx H4 else Q (.bl false) H4)) :
    ∀ (m n i : Nat) (H : Hp) (s s₀ : Shared), m < n → W i m H → Inv Xg [(a, go)] (wipe σ vs) H s → tn i s.heap → (∀ b ∈ fp, H b = none) →
      Seg (model Xg.prog Xg.w) A2 (GR Xg [(a, go)] (wipe σ vs) Q) (GY Xg [(a, go)] (wipe σ vs) Q) n s₀ (.compLoop (.GeneratorExp elt [⟨tg, iter, [], 0⟩] scope gpos) 0 (.ref it) .none Xg.env)
        ((model Xg.prog Xg.w).den (.compLoop (.GeneratorExp elt [⟨tg, iter, [], 0⟩] scope gpos) 0 (.ref it) .none Xg.env)) [] s := by
  intro m
  induction m using Nat.strongRecOn with
  | ind m ih =>
    intro n i H s s₀ hmn w I st nf
    obtain ⟨n, rfl⟩ : ∃ n', n = n' + 1 := ⟨n - 1, by omega⟩
    show Seg _ A2 _ _ _ s₀ _ ((compTurn (.GeneratorExp elt [⟨tg, iter, [], 0⟩] scope gpos) 0 (.ref it) .none Xg.env).onRaise (leaving Xg.env)) [] s
    rw [compTurn_gen, Sem.onRaise_eq_wrap]
    refine seg_bind_wrap (wpAny_standAt ?_)
    refine seg_bind_wrap ?_
    rw [hA]
    rcases turn i m H w with ⟨stop, q⟩ | ⟨go1, Nx, hNx, step⟩
    · refine thnF (T.done Xg rfl rfl rfl hcalm i _ s _ H (fun _ _ => False) I (stat nf) st stop) fun r s1 ⟨hr, I1⟩ => ?_
      subst hr
      exact seg_end (.ok .next) ⟨rfl, H, I1, q⟩
    · refine thnF (T.item Xg rfl rfl rfl hcalm i _ s _ H (fun _ _ => False) I (stat nf) st go1) fun r s1 ⟨u, hr, h1⟩ => ?_
      subst hr
      refine seg_bind_wrap ?_
      rw [hA]
      refine thnF h1 fun _ s2 ⟨x, H2, I2, r2, y2, st2, nf2⟩ => ?_
      have I2' := I2.pinned (stat nf2) (T.obj _ _ st2)
      refine seg_bind_wrap ?_
      rw [hA]
      have hpg := pg.run _ s2 _ H2 x u _ I2' r2 (step x H2 y2)
      rw [hxe] at hpg
      refine thnF hpg fun _ s3 ⟨σ3, H3, I3, hw3, q3⟩ => ?_
      refine seg_bind_wrap (wpAny_tests_nil ?_)
      simp only [if_true]
      have hy : ∀ v, yieldOut Xg.env v = yieldValue v := fun v => by simp only [yieldOut, hco, Bool.false_eq_true, if_false]
      simp only [hy]
      rw [Sem.bind_eq_wrap', Sem.bind_eq_wrap', Sem.wrap_wrap, Sem.wrap_wrap]
      refine seg_wrap ?_
      rw [hA]
      have hpe := pe.run _ s3 σ3 H3 _ I3 q3
      rw [hxe] at hpe
      refine thnF hpe fun v s4 ⟨y, H4, I4, r4, b, eb, q4⟩ => ?_
      subst eb
      obtain rfl : v = Value.bool b := r4
      have pin' : ∀ b ∈ fp, ∀ o, s2.heap.get? b = some o → s4.heap.get? b = some o ∧ H4 b = none := fun b hb o e =>
        let z := I4.pin (b, o) (List.mem_append_right _ (List.mem_append_right _ (mem_pinsAt hb e)))
        ⟨z.1, z.2.1⟩
      have hl : (wipe σ vs).length = σ3.length := by rw [← hw3, wipe_length]
      have I5 : Inv Xg [(a, go)] (wipe σ vs) H4 s4 := (I4.unpinned (pins := [(a, go)])).weak hl fun j v e => by
        rw [← hw3] at e
        exact (wipe_some e).1
      refine seg_at (seg_yield rfl rfl rfl ⟨b, H4, rfl, I5, ?_⟩)
      cases b with
      | false =>
        simp only [Bool.false_eq_true, if_false] at q4 ⊢
        exact q4
      | true =>
        simp only [if_true] at q4 ⊢
        intro s' e1 e2 e3
        obtain ⟨m', hm, w'⟩ := hNx H4 q4
        refine seg_again rfl (ih m' hm n (i + 1) H4 s' s' (by omega) w' (inv_as I5 e1 e2 e3) ?_ fun b hb => ?_)
        · rw [e1]
          exact T.keep _ _ _ st2 fun b hb o e => (pin' b hb o e).1
        · obtain ⟨o, e, _⟩ := T.obj _ _ st2 b hb
          exact (pin' b hb o e).2

theorem seg_gen0 (hA : A2.over (.compLoop (.GeneratorExp elt [⟨tg, iter, [], 0⟩] scope gpos) 0 (.ref it) .none Xg.env) [] = Xg.A) (hxe : Xg.xe = fun _ _ => False) (hcalm : Xg.calm = true) (hco : Xg.env.scope.isCoroutine = false)
    (T : Turn Xg.prog Xg.w Xg.K tg J fp it tn) (pg : PG Xg tg g) (pe : PE Xg elt te) (stat : ∀ {H : Hp}, (∀ b ∈ fp, H b = none) → ∀ b ∈ fp, FpOk Xg [(a, go)] H b)
    (turn : ∀ i m H, W i m H → (J.stop i H ∧ Q (.bl true) H) ∨ (J.go i H ∧ ∃ Nx : Hp → Prop, (∀ H', Nx H' → ∃ m', m' < m ∧ W (i + 1) m' H') ∧ ∀ x H', J.yld i H x H' → g x (wipe σ vs) H' fun σ2 H3 => wipe σ2 vs = wipe σ vs ∧
      te σ2 H3 fun y H4 => ∃ b : Bool, y = .bl b ∧ if b = true then Nx H4 else Q (.bl false) H4))
    (m n i : Nat) (H : Hp) (s s₀ : Shared) (hmn : m < n) (w : W i m H) (I : Inv Xg [(a, go)] (wipe σ vs) H s) (st : tn i s.heap) (nf : ∀ b ∈ fp, H b = none) :
      Seg (model Xg.prog Xg.w) A2 (GR Xg [(a, go)] (wipe σ vs) Q) (GY Xg [(a, go)] (wipe σ vs) Q) n s₀ (.compStart (.GeneratorExp elt [⟨tg, iter, [], 0⟩] scope gpos) 0 (.ref it) .none Xg.env)
        ((model Xg.prog Xg.w).den (.compStart (.GeneratorExp elt [⟨tg, iter, [], 0⟩] scope gpos) 0 (.ref it) .none Xg.env)) [] s := by
  have loop := seg_gen hA hxe hcalm hco T pg pe stat turn m n i H s s₀ hmn w I st nf
  show Seg _ A2 _ _ _ s₀ _ ((compStart (.GeneratorExp elt [⟨tg, iter, [], 0⟩] scope gpos) 0 (.ref it) .none Xg.env).onRaise (leaving Xg.env)) [] s
  unfold compStart
  rw [Sem.onRaise_eq_wrap]
  show Seg _ A2 _ _ _ s₀ _ ((ask >>= _).wrap _ _ _ _) [] s
  refine seg_bind_wrap (wpAny_askSetting ?_)
  split
  · exact seg_again rfl loop
  · first
      | exact seg_bind_wrap (wpAny_rule (seg_bind_wrap (wpAny_standAt (seg_bind_wrap (T.self _ i s _ _ st (seg_again rfl loop))))))
      | (refine seg_bind_wrap (wpAny_rule ?_); show Seg _ A2 _ _ _ s₀ _ ((standAt iter.pos >>= _).wrap _ _ _ _) [] s; exact seg_bind_wrap (wpAny_standAt (seg_bind_wrap (T.self _ i s _ _ st (seg_again rfl loop)))))
end

/-! ### all's own loop -/
theorem all_loop {Xg : Cx} {A : Around} {a : Addr} {go : Obj} {gn : Nat} {nm qn : Value} {σw : L2.St} {Q : VK} {Rr : Result → Shared → Prop} (hgc : go.cls = .type "generator") (hgd : go.data = .fields #[.int gn 0, nm, qn]) (hgs : go.slots = #[])
    (hh : A.handled = none) (hroom : A.depth < recursionLimit)
    (hT : ∀ H s', Inv Xg [(a, go)] σw H s' → Q (.bl true) H → Rr (.ok (.ret (.bool true))) s') (hF : ∀ H s', Inv Xg [(a, go)] σw H s' → Q (.bl false) H → Rr (.ok (.ret (.bool false))) s') :
    ∀ (n : Nat) (s : Shared) (H : Hp), Inv Xg [(a, go)] σw H s → (∃ gs, s.gens[gn]? = some gs ∧ ∀ s' : Shared, s'.heap = s.heap → s'.os = s.os → AllBare s'.gens →
        gs.Goes (model Xg.prog Xg.w) A.in1.in1 (GR Xg [(a, go)] σw Q) (GY Xg [(a, go)] σw Q) n (.send .none) s') → codeAny (model Xg.prog Xg.w) A (.builtin "all.loop" ⟨[.ref a], []⟩) Rr s := by
  have isg : ∀ {H : Hp} {s : Shared}, Inv Xg [(a, go)] σw H s → s.heap.IsGen a gn := fun {H s} I =>
    ⟨go, nm, qn, (I.pin (a, go) (List.mem_append_right _ List.mem_cons_self)).1, hgc, hgd, hgs⟩
  intro n
  induction n with
  | zero =>
    intro s H I ⟨gs, hgs', hgo⟩
    have hgl : gn < s.gens.size := (Array.getElem?_eq_some_iff.mp hgs').1
    refine codeAny_builtin F.entry_all_loop ?_
    rw [Around.under_plainId F.plain_all_loop _]
    show wpAny _ A.in1 (pyNext (.ref a) >>= _) _ _ s
    refine wpAny_bind (wpAny_pyNext_genexpQ (A := A.in1) (P := fun _ _ s₁ => ∃ H, Inv Xg [(a, go)] σw H s₁ ∧ Q (.bl true) H) hh I.nolimit hroom (isg I) hgs' (hgo (s.setGen gn .running) rfl rfl (allBare_setGen I.bare rfl)) (fun v s₁ gs' hb hv => ?_) fun s₁ hp h' hk => ?_)
    · obtain ⟨b, H1, rfl, I1, hb1⟩ := hv
      cases b with
      | true =>
        simp only [if_true] at hb1
        exact (hb1 s₁ rfl rfl I1.bare).elim
      | false =>
        simp only [Bool.false_eq_true, if_false] at hb1
        refine wpAny_bind (wpAny_holding (wpAny_truthy_bool ?_))
        refine wpAny_bind (wpAny_letGo ?_)
        simp only [Bool.false_eq_true, if_false]
        refine wpAny_bind (wpAny_rule (wpAny_pure ?_))
        exact hF H1 _ (inv_as I1 rfl rfl (allBare_setGen I1.bare hb)) hb1
    · obtain ⟨H1, I1, q⟩ := hp
      refine wpAny_bind (wpAny_rule (wpAny_pure ?_))
      exact hT H1 _ ((inv_as (s' := s₁.setGen gn .finished) I1 rfl rfl (allBare_setGen I1.bare rfl)).kept (h' := h') (t' := s₁.toks) hk) q
  | succ n ih =>
    intro s H I ⟨gs, hgs', hgo⟩
    have hgl : gn < s.gens.size := (Array.getElem?_eq_some_iff.mp hgs').1
    refine codeAny_builtin F.entry_all_loop ?_
    rw [Around.under_plainId F.plain_all_loop _]
    show wpAny _ A.in1 (pyNext (.ref a) >>= _) _ _ s
    refine wpAny_bind (wpAny_gsz (n := gn + 1) hgl (wpAny_pyNext_genexpQ (A := A.in1) (P := fun _ _ s₁ => ∃ H, Inv Xg [(a, go)] σw H s₁ ∧ Q (.bl true) H) hh I.nolimit hroom (isg I) hgs' (hgo (s.setGen gn .running) rfl rfl (allBare_setGen I.bare rfl)) (fun v s₁ gs' hb hv => ?_) fun s₁ hp h' hk => ?_))
    · intro hsz
      obtain ⟨b, H1, rfl, I1, hb1⟩ := hv
      cases b with
      | true =>
        simp only [if_true] at hb1
        have hsz1 : gn < s₁.gens.size := by
          have q : (s₁.setGen gn gs').gens.size = s₁.gens.size := setGen_size _ _ _
          have hsz' : gn + 1 ≤ (s₁.setGen gn gs').gens.size := hsz
          omega
        refine wpAny_bind (wpAny_holding (wpAny_truthy_bool ?_))
        refine wpAny_bind (wpAny_letGo ?_)
        simp only [if_true]
        refine wpAny_pure ⟨plainId_quiet F.plain_all_loop _, ih _ H1 (inv_as I1 rfl rfl (allBare_setGen I1.bare hb)) ⟨gs', setGen_at hsz1, fun s' e1 e2 e3 => ?_⟩⟩
        exact hb1 s' e1 e2 e3
      | false =>
        simp only [Bool.false_eq_true, if_false] at hb1
        refine wpAny_bind (wpAny_holding (wpAny_truthy_bool ?_))
        refine wpAny_bind (wpAny_letGo ?_)
        simp only [Bool.false_eq_true, if_false]
        refine wpAny_bind (wpAny_rule (wpAny_pure ?_))
        exact hF H1 _ (inv_as I1 rfl rfl (allBare_setGen I1.bare hb)) hb1
    · intro hsz
      obtain ⟨H1, I1, q⟩ := hp
      refine wpAny_bind (wpAny_rule (wpAny_pure ?_))
      exact hT H1 _ ((inv_as (s' := s₁.setGen gn .finished) I1 rfl rfl (allBare_setGen I1.bare rfl)).kept (h' := h') (t' := s₁.toks) hk) q

/-! ### the rule -/
/-- the module's builtins, as the base has them -/
def BMod0 (X : Cx) : Prop := ∃ (bm : Addr) (ob : Obj), X.mg "__builtins__" = some (.ref bm) ∧ bm ≠ builtinsNs ∧ X.base.get? bm = some ob ∧ ob.cls = .type "module" ∧ ob.dict = some builtinsNs ∧ ob.data = .plain
/-- all(elt for target in iter); n: how deep the tables are known -/
def tAllX (base : Heap) (code : Value) (n : Bool) (wi : TI) (g : TG) (te : Value → TE) (vs : List Nat) : TE := fun σ H Q => wi σ H fun J H1 =>
  ∃ c P : Addr, code = .ref c ∧ (PySem.W.CodeHd base c P ∨ H1 c = some (CodeK c P)) ∧ TabK n H1 P ∧ ∀ H2 cv, Grown n P H1 H2 cv → GTurns J g (te cv) vs σ Q H2

section
variable {X : Cx}
theorem pe_allX {n : Bool} {k : Nat} {elt tg iter : Expr} {scope : Scope} {own : List (Str × Nat)} {wi : TI} {g : TG} {te : Value → TE} {p pos gpos : Pos}
    (hN : X.N.Nodup) (hr : Room (k + 3) X.A) (hgl : Gl X "all") (hm : X.mg "all" = none) (hb : bootBuiltins "all" = some (.builtin "all")) (BM : BMod0 X)
    (hco : scope.isCoroutine = false) (hcell : ∀ y ∈ scope.names, y.2 ≠ .cell) (h0 : scope.names.lookup (".0" : Str) = some NameKind.local) (hi : PI X tg iter wi) (ok : BlkOk X.N X.env.scope scope own)
    (hg : ∀ (A' : Around) (s : Shared) (H : Hp) (C : Addr) (cv : Value) (fp : List Addr), PG (gen X A' s H (gEnv X scope C cv) fp) tg g)
    (he : ∀ (A' : Around) (s : Shared) (H : Hp) (C : Addr) (cv : Value) (fp : List Addr), Room k A' → PE (gen X A' s H (gEnv X scope C cv) fp) elt (te cv))
    (hs : ∀ v, genFold iter X.env v = pure v)
    (hst : starEach [.GeneratorExp elt [⟨tg, iter, [], 0⟩] scope gpos] X.env = (false, eval (.GeneratorExp elt [⟨tg, iter, [], 0⟩] scope gpos) X.env) :: starEach [] X.env := by rfl) :
    PE X (.Call (.Name "all" p) [.GeneratorExp elt [⟨tg, iter, [], 0⟩] scope gpos] [] pos) (tAllX X.base X.env.code n wi g te (own.map (·.2))) := by
  refine ⟨fun pins s σ H Q I h => ?_⟩
  have hfree : ∀ y ∈ scope.names, y.2 = .free → ∃ c, X.env.cells.lookup y.1 = some c := fun y hy e => by
    rcases ok.free y hy e with k | k
    · exact I.ok.has _ (.inl k)
    · exact I.ok.has _ (.inr k)
  refine wpAny_Call_Name_kw (ld_blt I hgl hm hb ?_)
  refine PyProof.Rows.callWith_builtin1 ?_ hst (by rfl)
  rw [hst]
  show wpAny _ _ (spliced ((false, eval (.GeneratorExp elt [⟨tg, iter, [], 0⟩] scope gpos) X.env) :: backTo pos (starEach [] X.env))) _ _ s
  refine Calls.spliced_cons ?_
  refine wpAny_GeneratorExp_make hco (closure_ok hfree) hcell h0 ok.kind (by have := hr.dp; omega) ?_ hs
  refine thn (hi.run pins s σ H _ I h) fun xv s1 hx => thn hx fun itv s2 h2 => ?_
  obtain ⟨it, fp, tn, J, H2, e, I2, T, st2, f2, c, P, hcode, hcd, hTab, q⟩ := h2
  subst e
  refine ⟨I2.nolimit, ?_⟩
  obtain ⟨ps, hP, ht⟩ := hTab.tbl
  have hPs : s2.heap.get? P = some { cls := .none, data := .fields ps } := I2.hok P _ hP
  have cd : PySem.W.CodeHd s2.heap c P := by
    rcases hcd with z | z
    · exact z.keeps I2.bk
    · exact (I2.hok c _ z).1
  -- behind the code: a state s3 with H3, the iterator as it stood
  have cont : ∀ (cv : Value) (s3 : Shared) (H3 : Hp), Inv X pins σ H3 s3 → (∀ b o, b ≠ P → s2.heap.get? b = some o → s3.heap.get? b = some o) → (∀ b, s2.heap.get? b ≠ none → H2 b = none → H3 b = none) → Grown n P H2 H3 cv →
      wpAny (model X.prog X.w) X.A (builtinsFor X.env.globals X.env.builtins) (fun bi s₄ =>
        ∀ h', h'.Ns s₄.heap.objs.size (fun y => if y = ".0" then some (.ref it) else none) → Heap.SameBut s₄.heap.objs.size (s₄.heap.push { cls := .type "frame", data := .dict #[] }) h' →
          wpAny (model X.prog X.w) X.A (spliced (backTo pos (starEach [] X.env))) (fun us s5 => wpAny (model X.prog X.w) X.A (call (.builtin "all") (.ref h'.objs.size :: us)) (EP X pins σ Q) X.xe s5) X.xe { s₄ with
            gens := s₄.gens.push (.fresh (.compStart (.GeneratorExp elt [⟨tg, iter, [], 0⟩] scope gpos) 0 (.ref it) .none (genEnv scope (cloFrom X.env.cells scope.names []) s₄.heap.objs.size cv bi X.env))),
            toks := s₄.toks + 1 + 1 + 1,
            heap := h'.push { cls := .type "generator", data := .fields #[.int s₄.gens.size 0, .str "<genexpr>" (s₄.toks + 1), .str (X.env.qual ++ "<genexpr>") (s₄.toks + 1 + 1)] } }) X.xe s3 := by
    intro cv s3 H3 I3 k3 hn3 G3
    obtain ⟨bm, ob, e1, e2, e3, e4, e5, e6⟩ := BM
    refine wpAny_builtinsFor (m := X.mg) (by rw [I3.ok.glob]; exact I3.mod.glob.keeps I3.bk) e1 e2 (I3.bk _ _ e3) e4 e5 e6 ?_
    intro h' hns hsb
    have hsz : h'.objs.size = s3.heap.objs.size + 1 := by rw [hsb.1, Heap.size_push]
    have keep' : ∀ b o, s3.heap.get? b = some o → h'.get? b = some o := fun b o e => hsb.extBut b o (Nat.ne_of_lt (Heap.lt_size e)) (Heap.get?_push_of_some _ e)
    generalize hgo : ({ cls := .type "generator", data := .fields #[.int s3.gens.size 0, .str "<genexpr>" (s3.toks + 1), .str (X.env.qual ++ "<genexpr>") (s3.toks + 1 + 1)] } : Obj) = go
    have ha : (h'.push go).get? h'.objs.size = some go := by rw [← hgo]; exact Heap.get?_push_size _ rfl
    generalize hs6 : ({ s3 with
            gens := s3.gens.push (.fresh (.compStart (.GeneratorExp elt [⟨tg, iter, [], 0⟩] scope gpos) 0 (.ref it) .none (genEnv scope (cloFrom X.env.cells scope.names []) s3.heap.objs.size cv builtinsNs X.env))),
            toks := s3.toks + 1 + 1 + 1, heap := h'.push go } : Shared) = s6
    have h6 : s6.heap = h'.push go := by rw [← hs6]
    have g6 : s6.gens = s3.gens.push (.fresh (.compStart (.GeneratorExp elt [⟨tg, iter, [], 0⟩] scope gpos) 0 (.ref it) .none (gEnv X scope s3.heap.objs.size cv))) := by rw [← hs6]
    have os6 : s6.os = s3.os := by rw [← hs6]
    have bare6 : AllBare s6.gens := by rw [g6]; exact I3.bare.push rfl
    have k6 : ∀ b o, s3.heap.get? b = some o → s6.heap.get? b = some o := fun b o e => by rw [h6]; exact Heap.get?_push_of_some _ (keep' b o e)
    -- the iterator's objects
    have obj2 : ∀ b ∈ fp, ∃ o, s2.heap.get? b = some o ∧ ∀ v, o.data ≠ .cell v := T.obj _ _ st2
    have fne : ∀ b ∈ fp, b ≠ P := fun b hb z => by
      have := (f2 b hb).1
      rw [z, hP] at this; cases this
    have f3 : ∀ b ∈ fp, FpOk X pins H3 b ∧ b < s3.heap.objs.size := fun b hb => by
      obtain ⟨o, eo, _⟩ := obj2 b hb
      exact ⟨⟨hn3 b (by rw [eo]; simp) (f2 b hb).1, (f2 b hb).2⟩, Heap.lt_size (k3 b o (fne b hb) eo)⟩
    have st3 : tn 0 s3.heap := T.keep _ _ _ st2 fun b hb o e => k3 b o (fne b hb) e
    have st6 : tn 0 s6.heap := T.keep _ _ _ st3 fun b _ o e => k6 b o e
    have nfp : ∀ b ∈ fp, H3 b = none := fun b hb => (f3 b hb).1.1
    have hdX : X.A.handled = none := hr.hd
    have hF : (X.A.in1.in1.deeper (gEnv X scope s3.heap.objs.size cv)).frames = some (gEnv X scope s3.heap.objs.size cv :: X.stack) := by
      show X.A.frames.map _ = _
      rw [I3.ok.frames]; rfl
    have I6 := gen_start (code := cv) (s' := s6) (A' := X.A.in1.in1.deeper (gEnv X scope s3.heap.objs.size cv)) I3 ok hN hcell f3 hdX hF (by rw [h6]; exact hns.push _) k6 os6 bare6
    have hroom : Room k (X.A.in1.in1.deeper (gEnv X scope s3.heap.objs.size cv)) := by
      refine ⟨hdX, ?_, ?_⟩
      · have := hr.dp
        show X.A.depth + 1 + 3 * k + 5 < _
        omega
      · have := hr.un
        show X.A.units + 1 + 1 + 3 + 16 * k + 200 < _
        omega
    have pg := hg (X.A.in1.in1.deeper (gEnv X scope s3.heap.objs.size cv)) s3 H3 s3.heap.objs.size cv fp
    have pe := he (X.A.in1.in1.deeper (gEnv X scope s3.heap.objs.size cv)) s3 H3 s3.heap.objs.size cv fp hroom
    have hover : X.A.in1.in1.over (.compLoop (.GeneratorExp elt [⟨tg, iter, [], 0⟩] scope gpos) 0 (.ref it) .none (gEnv X scope s3.heap.objs.size cv)) [] = X.A.in1.in1.deeper (gEnv X scope s3.heap.objs.size cv) := by
      first
        | rfl
        | simp [Around.over, Around.deeper, marksOver, frameCount, unitsOf, envsOf, guardsOf, pushEnvs, pushGuards, Code.envs, Code.env?, Code.isFrame, Code.guards, Code.isGuard, Code.weight, Code.frames, Code.isCreation, Code.isCaller, Code.cUnits]
    have nsz : h'.objs.size < s6.heap.objs.size := by rw [h6, Heap.size_push]; exact Nat.lt_succ_self _
    have eC : (gEnv X scope s3.heap.objs.size cv).locals = s3.heap.objs.size := rfl
    have eCl : (gEnv X scope s3.heap.objs.size cv).cells = cloFrom X.env.cells scope.names [] := rfl
    generalize hce : gEnv X scope s3.heap.objs.size cv = ce at I6 hroom pg pe hover hF g6 eC eCl
    have haN : H3 h'.objs.size = none := I3.hok.fresh (by omega)
    have I7 : Inv (gen X (X.A.in1.in1.deeper ce) s3 H3 ce fp) [(h'.objs.size, go)] (wipe σ (own.map (·.2))) H3 s6 := I6.pins_of fun p hp => by
      rw [List.mem_singleton.mp hp]
      refine ⟨by rw [h6]; exact ha, haN, ?_, fun z => ?_, fun v z => ?_⟩
      · show h'.objs.size ≠ ce.locals
        rw [eC, hsz]; exact Nat.succ_ne_self _
      · have := I3.stkFree h'.objs.size z
        obtain ⟨_, o, ho, _⟩ := I3.stack.mem z
        have q : h'.objs.size < s3.heap.objs.size := Heap.lt_size ho
        rw [hsz] at q
        exact absurd q (Nat.not_lt.mpr (Nat.le_succ _))
      · rw [← hgo] at z; cases z
    have stat : ∀ {H' : Hp}, (∀ b ∈ fp, H' b = none) → ∀ b ∈ fp, FpOk (gen X (X.A.in1.in1.deeper ce) s3 H3 ce fp) [(h'.objs.size, go)] H' b := fun {H'} hn b hb =>
      ⟨hn b hb, (I7.ok.exf b hb).1, I7.ok.exfs b hb, .inl hb, fun x c e => (I7.ok.exf b hb).2 x c e, fun p hp z => by
        have hp : p ∈ ([] : List (Addr × Obj)) ++ [(h'.objs.size, go)] := hp
        rw [List.nil_append, List.mem_singleton] at hp
        rw [hp] at z
        have q : b < s3.heap.objs.size := (f3 b hb).2
        have z : h'.objs.size = b := z
        rw [← z, hsz] at q
        exact absurd q (Nat.not_lt.mpr (Nat.le_succ _))⟩
    obtain ⟨W, ⟨m0, w0⟩, turn⟩ := q H3 cv G3
    have seg : ∀ s' : Shared, s'.heap = s6.heap → s'.os = s6.os → AllBare s'.gens → Seg (model X.prog X.w) X.A.in1.in1 (GR (gen X (X.A.in1.in1.deeper ce) s3 H3 ce fp) [(h'.objs.size, go)] (wipe σ (own.map (·.2))) Q) (GY (gen X (X.A.in1.in1.deeper ce) s3 H3 ce fp) [(h'.objs.size, go)] (wipe σ (own.map (·.2))) Q) (m0 + 1) s'
        (.compStart (.GeneratorExp elt [⟨tg, iter, [], 0⟩] scope gpos) 0 (.ref it) .none ce) ((model X.prog X.w).den (.compStart (.GeneratorExp elt [⟨tg, iter, [], 0⟩] scope gpos) 0 (.ref it) .none ce)) [] s' := fun s' q1 q2 q3 =>
      seg_gen0 (Xg := gen X (X.A.in1.in1.deeper ce) s3 H3 ce fp) hover rfl rfl (by rw [← hce]; exact hco) T pg pe stat turn m0 (m0 + 1) 0 H3 s' s' (Nat.lt_succ_self _) w0 (inv_as I7 q1 q2 q3) (by rw [q1]; exact st6) nfp
    refine Calls.spliced_nil ?_
    -- back in the def
    have back : ∀ (b : Bool) (H' : Hp) (s' : Shared), Inv (gen X (X.A.in1.in1.deeper ce) s3 H3 ce fp) [(h'.objs.size, go)] (wipe σ (own.map (·.2))) H' s' → Q (.bl b) H' → EP X pins σ Q (.bool b) s' := fun b H' s' I' q' =>
      ⟨.bl b, H', I3.call' (ch := fp) I'.os I'.base I'.hok I'.bare fun b hb => ⟨(f3 b hb).1.2.2.2.1, (f3 b hb).1.2.1, (f3 b hb).1.2.2.2.2.1, (f3 b hb).1.2.2.2.2.2⟩, rfl, q'⟩
    refine call_function_tree F.kind_all F.plain_all F.entry_all (F.args_all1 _) ?_
    unfold Builtin.«all»
    refine wpAny_bind (m := oneArg "all" _) (wpAny_pure ?_)
    have hig : s6.heap.IsGen h'.objs.size s3.gens.size := ⟨go, _, _, by rw [h6]; exact ha, by rw [← hgo], by rw [← hgo], by rw [← hgo]⟩
    refine wpAny_bind (wpAny_pyIter_gen hig ?_)
    refine wpAny_pure ⟨plainId_quiet F.plain_all_loop _, ?_⟩
    refine all_loop (Xg := gen X (X.A.in1.in1.deeper ce) s3 H3 ce fp) (gn := s3.gens.size) (go := go) (Q := Q) (by rw [← hgo]) (by rw [← hgo]) (by rw [← hgo]) hdX (by have := hr.dp; omega) (fun H' s' I' q' => back true H' s' I' q') (fun H' s' I' q' => back false H' s' I' q') (m0 + 1) s6 H3 I7 ⟨.fresh (.compStart (.GeneratorExp elt [⟨tg, iter, [], 0⟩] scope gpos) 0 (.ref it) .none ce), by rw [g6]; exact Array.getElem?_push_size .., fun s' q1 q2 q3 => ⟨rfl, seg s' q1 q2 q3⟩⟩
  cases hf : codeAmong gpos ps.toList with
  | none =>
    refine wpAny_genexprCodeX hcode (cd.code hPs ht) (cd.tab hPs) hf fun c' h' tk hx hge hlt hco' _ htab' hP' => ?_
    obtain ⟨P', hge', hcodeP, htabP⟩ := hP'
    have hcd' : PySem.W.CodeHd h' c' P' := .of hcodeP htabP
    have ne' : c' ≠ P' := by
      obtain ⟨_, _, _, _, _, _, _, _, _, _, _, _, _, _, _, _, _, _, hne⟩ := hcd'
      exact hne
    have hPlt : P < s2.heap.objs.size := Heap.lt_size hPs
    have cPc : c' ≠ P := Nat.ne_of_gt (Nat.lt_of_lt_of_le hPlt hge)
    have cPP : P' ≠ P := Nat.ne_of_gt (Nat.lt_of_lt_of_le hPlt hge')
    have I3 := inv_tab2 (more := #[rawInt gpos.line, rawInt gpos.col, .ref c']) (g' := s2.gens) (d' := s2.drawn) (t' := tk) I2 hP (fun b o hb e => hx b o hb e) htab'.2 hge hge' ne' hcd' htabP.2 I2.bare
    have hlook : ∀ b, b ≠ P → b < s2.heap.objs.size → (upd (upd (upd H2 P (.tbl (ps ++ #[rawInt gpos.line, rawInt gpos.col, .ref c']))) c' (CodeK c' P')) P' (.tbl #[])) b = H2 b := fun b h1 h2 => by
      rw [upd_ne (Nat.ne_of_lt (Nat.lt_of_lt_of_le h2 hge')), upd_ne (Nat.ne_of_lt (Nat.lt_of_lt_of_le h2 hge)), upd_ne h1]
    have hkeep : ∀ b o, b ≠ P → H2 b = some o → (upd (upd (upd H2 P (.tbl (ps ++ #[rawInt gpos.line, rawInt gpos.col, .ref c']))) c' (CodeK c' P')) P' (.tbl #[])) b = some o := fun b o h1 e => by
      rw [hlook b h1 (I2.hok.lt e)]; exact e
    have hPv : (upd (upd (upd H2 P (.tbl (ps ++ #[rawInt gpos.line, rawInt gpos.col, .ref c']))) c' (CodeK c' P')) P' (.tbl #[])) P = some (.tbl (ps ++ #[rawInt gpos.line, rawInt gpos.col, .ref c'])) := by
      rw [upd_ne cPP.symm, upd_ne cPc.symm, upd_same]
    have hcv : (upd (upd (upd H2 P (.tbl (ps ++ #[rawInt gpos.line, rawInt gpos.col, .ref c']))) c' (CodeK c' P')) P' (.tbl #[])) c' = some (CodeK c' P') := by
      rw [upd_ne ne', upd_same]
    have hl : (ps ++ #[rawInt gpos.line, rawInt gpos.col, Value.ref c']).toList = ps.toList ++ [rawInt gpos.line, rawInt gpos.col, .ref c'] := by simp
    have tr : TriplesOk (ps ++ #[rawInt gpos.line, rawInt gpos.col, Value.ref c']).toList := by rw [hl]; exact TriplesOk_snoc _ _ _ _ ht
    generalize hH3 : (upd (upd (upd H2 P (.tbl (ps ++ #[rawInt gpos.line, rawInt gpos.col, .ref c']))) c' (CodeK c' P')) P' (.tbl #[])) = H3 at I3 hlook hkeep hPv hcv
    have hnew : Tab0 H3 P' := TabK.new (by rw [← hH3, upd_same]) false
    refine cont (.ref c') _ H3 I3 (fun b o hb e => hx b o hb e) (fun b hb hn => ?_) ⟨?_, hkeep, fun _ => ⟨c', P', rfl, cPP, hcv, hnew⟩⟩
    · cases eb : s2.heap.get? b with
      | none => exact absurd eb hb
      | some o =>
        have hbP : b ≠ P := fun z => by rw [z, hP] at hn; cases hn
        rw [hlook b hbP (Heap.lt_size eb)]; exact hn
    · cases n with
      | false => exact ⟨_, hPv, tr⟩
      | true =>
        obtain ⟨ps', e1, e2, e3⟩ := hTab
        rw [hP] at e1
        cases e1
        refine ⟨_, hPv, tr, fun pos' cv e => ?_⟩
        rw [hl] at e
        rcases codeAmong_add _ ht e with e | e
        · obtain ⟨d, Q', r1, r2, r3, qs, r4, r5⟩ := e3 pos' cv e
          have hd : d ≠ P := fun z => by rw [z, hP] at r3; cases r3
          exact ⟨d, Q', r1, r2, hkeep _ _ hd r3, qs, hkeep _ _ r2 r4, r5⟩
        · exact ⟨c', P', e, cPP, hcv, hnew⟩
  | some cv =>
    refine wpAny_genexprCode_hit hcode (cd.code hPs ht) hf ?_
    refine cont cv s2 H2 I2 (fun _ _ _ e => e) (fun _ _ e => e) ⟨hTab, fun _ _ _ e => e, fun hn => ?_⟩
    cases n with
    | false => cases hn
    | true =>
      obtain ⟨ps', e1, e2, e3⟩ := hTab
      rw [hP] at e1
      cases e1
      exact e3 gpos cv hf
end
end DcG
set_option Elab.async false
set_option linter.all false
set_option maxRecDepth 100000
set_option maxHeartbeats 4000000
/-! rules: stars over texts in displays, an attribute among the targets -/
namespace DcG
open PySem PySem.Spec PyProof.Rows L2

/-- a text's signs -/
def signsV (z : Str) : List V := z.cps.toList.map fun c => V.str ⟨#[c]⟩
/-- *e, e a text, then the others -/
def tStarS (te : TE) (t : TA) : TA := fun σ H Q => te σ H fun x H1 => ∃ z : Str, x = .str z ∧ z.length ≤ sizeLine ∧ t σ H1 fun xs H2 => Q (signsV z ++ xs) H2
/-- o.f among the targets -/
def gFld (K : PySem.W.Frag) (ta : TE) (f : Str) : TG := fun y σ H Q => ta σ H fun x H2 => ∃ a C dx fs, x = .ref a ∧ H2 a = some (.ins C dx fs) ∧ Cls K C ∧ NoAttr K C f ∧ fs.length < 1000 ∧
  Q σ (upd H2 a (.ins C dx (putF f y fs)))
theorem vals_signs {x : Str} {acc : Array Value} (h : ItemsOf (SignAt x) acc x.cps.size) : Vals (signsV x) acc.toList := by
  obtain ⟨h1, h2⟩ := h
  have key : ∀ (l : List Nat) (us : List Value), l.length = us.length → (∀ (j : Nat) (v : Value), us[j]? = some v → ∃ c u, l[j]? = some c ∧ v = .str ⟨#[c]⟩ u) → Vals (l.map fun c => V.str ⟨#[c]⟩) us := by
    intro l
    induction l with
    | nil =>
      intro us hl _
      cases us with
      | nil => exact .nil
      | cons _ _ => cases hl
    | cons c l ih =>
      intro us hl h
      cases us with
      | nil => cases hl
      | cons u us =>
        obtain ⟨c', t, e1, e2⟩ := h 0 u rfl
        cases e1
        exact .cons ⟨t, e2⟩ (ih us (by simpa using hl) fun j v e => h (j + 1) v e)
  refine key x.cps.toList acc.toList (by simp [h1]) fun j v e => ?_
  obtain ⟨c, u, e1, e2⟩ := h2 j v (by simpa using e)
  exact ⟨c, u, by simpa using e1, e2⟩
section
variable {X : Cx} {e o : Expr} {es : List Expr} {te ta : TE} {t : TA} {p pos : Pos} {f : Str}
theorem pa_starS (hc : X.calm = true) (he : PE X e te) (hr : PA X es t) (hs : starEach (.Starred e p :: es) X.env = (true, eval e X.env) :: starEach es X.env := by rfl) : PA X (.Starred e p :: es) (tStarS te t) := by
  refine ⟨fun pos pins s σ H Q I h => ?_⟩
  refine PySem.W.items_star (thn (he.run pins s σ H _ I h) fun u s1 ⟨x, H1, I1, r1, z, ex, hz, q1⟩ => ?_) hs
  subst ex
  obtain ⟨tk, rfl⟩ := (show ∃ tk, u = Value.str z tk from r1)
  unfold PySem.W.StarOf notIterableAtAll
  refine wpAny_bind (wpAny_specialOf (T := "str") (typeIs_str s1 z tk) PySem.F.slot_str_iter.lookup (wpAny_pure ⟨rfl, ?_⟩))
  refine wpAny_collect_str (I1.ok.hd hc) z tk (fun s2 acc hk hg hd ho hi => ?_) hz
  have I2 : Inv X pins σ H1 s2 := I1.call' (ch := []) ho (Un.kept hk) (I1.hok.kept hk) (by rw [hg]; exact I1.bare) fun b z => absurd z (by simp)
  exact thn (hr.run pos pins s2 σ H1 _ I2 q1) fun us s3 ⟨xs, H2, I3, r3, q3⟩ => ⟨signsV z ++ xs, H2, I3, (vals_signs hi).append r3, q3⟩
theorem pg_fld (ho : PE X o ta) : PG X (.Attribute o f pos) (gFld X.K ta f) := by
  refine ⟨fun pins s σ H v u Q I r h => ?_⟩
  refine PySem.W.kas_attr (thn (ho.run pins s σ H _ I h) fun ov s1 ⟨x, H2, I2, rx, a, C, dx, fs, ex, ea, c, n, l, q2⟩ => ?_)
  subst ex
  obtain rfl : ov = Value.ref a := rx
  exact setattr_ok I2 ea c n l r fun s3 I3 => ⟨σ, _, I3, q2⟩
end
end DcG
set_option Elab.async false
set_option linter.all false
set_option maxRecDepth 100000
set_option maxHeartbeats 4000000
/-! printed by gen_tp.py: the text by places -/
namespace Dc
open PySem PySem.Spec PyProof.Rows L2
def top (i : Nat) : Stmt := PySem.Challenge.pw_deepcalls_k13_whole_texts.main.body.getD i (.Pass ⟨0, 0, 0, 0⟩)
abbrev FnP (K : PySem.W.Frag) (x q : Str) (st : Stmt) (f : Addr) (fd : FuncData) : Prop := FunD K x q (defArgs st) (defBody st) (defScope st) [] [] f fd
abbrev sIsIn : Stmt := top 16
def dIsIn : He.DefD := ⟨("is_in", none), "is_in", "is_in", defArgs sIsIn, defBody sIsIn, defScope sIsIn, [], []⟩
abbrev sIsName : Stmt := top 17
def dIsName : He.DefD := ⟨("is_name", none), "is_name", "is_name", defArgs sIsName, defBody sIsName, defScope sIsName, [], []⟩
abbrev sIsTuple : Stmt := top 18
def dIsTuple : He.DefD := ⟨("is_tuple", none), "is_tuple", "is_tuple", defArgs sIsTuple, defBody sIsTuple, defScope sIsTuple, [], []⟩
abbrev sIsGuard : Stmt := top 19
def dIsGuard : He.DefD := ⟨("is_guard", none), "is_guard", "is_guard", defArgs sIsGuard, defBody sIsGuard, defScope sIsGuard, [], []⟩
abbrev sIsMove : Stmt := top 20
def dIsMove : He.DefD := ⟨("is_move", none), "is_move", "is_move", defArgs sIsMove, defBody sIsMove, defScope sIsMove, [], []⟩
abbrev sIsRow : Stmt := top 21
def dIsRow : He.DefD := ⟨("is_row", none), "is_row", "is_row", defArgs sIsRow, defBody sIsRow, defScope sIsRow, [], []⟩
abbrev sIsFunction : Stmt := top 22
def dIsFunction : He.DefD := ⟨("is_function", none), "is_function", "is_function", defArgs sIsFunction, defBody sIsFunction, defScope sIsFunction, [], []⟩
abbrev sIsBook : Stmt := top 23
def dIsBook : He.DefD := ⟨("is_book", none), "is_book", "is_book", defArgs sIsBook, defBody sIsBook, defScope sIsBook, [], []⟩
abbrev sNeedBook : Stmt := top 24
def dNeedBook : He.DefD := ⟨("need_book", none), "need_book", "need_book", defArgs sNeedBook, defBody sNeedBook, defScope sNeedBook, [], []⟩
abbrev sReadBook : Stmt := top 28
def dReadBook : He.DefD := ⟨("read_book", none), "read_book", "read_book", defArgs sReadBook, defBody sReadBook, defScope sReadBook, [], []⟩
abbrev sWriteGuard : Stmt := top 30
def dWriteGuard : He.DefD := ⟨("write_guard", none), "write_guard", "write_guard", defArgs sWriteGuard, defBody sWriteGuard, defScope sWriteGuard, [], []⟩
abbrev sWriteRow : Stmt := top 31
def dWriteRow : He.DefD := ⟨("write_row", none), "write_row", "write_row", defArgs sWriteRow, defBody sWriteRow, defScope sWriteRow, [], []⟩
abbrev sWriteBook : Stmt := top 32
def dWriteBook : He.DefD := ⟨("write_book", none), "write_book", "write_book", defArgs sWriteBook, defBody sWriteBook, defScope sWriteBook, [], []⟩
abbrev sLawTaken : Stmt := top 34
def dLawTaken : He.DefD := ⟨("_law_taken", none), "_law_taken", "_law_taken", defArgs sLawTaken, defBody sLawTaken, defScope sLawTaken, [], []⟩
abbrev sLawPick : Stmt := top 35
def dLawPick : He.DefD := ⟨("_law_pick", none), "_law_pick", "_law_pick", defArgs sLawPick, defBody sLawPick, defScope sLawPick, [], []⟩
abbrev sLawAlike : Stmt := top 36
def dLawAlike : He.DefD := ⟨("_law_alike", none), "_law_alike", "_law_alike", defArgs sLawAlike, defBody sLawAlike, defScope sLawAlike, [], []⟩
abbrev sLawBook : Stmt := top 37
def dLawBook : He.DefD := ⟨("_law_book", none), "_law_book", "_law_book", defArgs sLawBook, defBody sLawBook, defScope sLawBook, [], []⟩
abbrev sLawGuard : Stmt := top 38
def dLawGuard : He.DefD := ⟨("_law_guard", none), "_law_guard", "_law_guard", defArgs sLawGuard, defBody sLawGuard, defScope sLawGuard, [], []⟩
abbrev sLawText : Stmt := top 47
def dLawText : He.DefD := ⟨("_law_text", none), "_law_text", "_law_text", defArgs sLawText, defBody sLawText, defScope sLawText, [], []⟩
abbrev sLawRun : Stmt := top 48
def dLawRun : He.DefD := ⟨("_law_run", none), "_law_run", "_law_run", defArgs sLawRun, defBody sLawRun, defScope sLawRun, [], []⟩
abbrev sLawStep : Stmt := top 49
def dLawStep : He.DefD := ⟨("_law_step", none), "_law_step", "_law_step", defArgs sLawStep, defBody sLawStep, defScope sLawStep, [], []⟩
abbrev sLawGuardDue : Stmt := top 50
def dLawGuardDue : He.DefD := ⟨("_law_guard_due", none), "_law_guard_due", "_law_guard_due", defArgs sLawGuardDue, defBody sLawGuardDue, defScope sLawGuardDue, [], []⟩
abbrev sLawRowDue : Stmt := top 51
def dLawRowDue : He.DefD := ⟨("_law_row_due", none), "_law_row_due", "_law_row_due", defArgs sLawRowDue, defBody sLawRowDue, defScope sLawRowDue, [], []⟩
abbrev sLawDue : Stmt := top 52
def dLawDue : He.DefD := ⟨("_law_due", none), "_law_due", "_law_due", defArgs sLawDue, defBody sLawDue, defScope sLawDue, [], []⟩
abbrev sLawTold : Stmt := top 53
def dLawTold : He.DefD := ⟨("_law_told", none), "_law_told", "_law_told", defArgs sLawTold, defBody sLawTold, defScope sLawTold, [], []⟩
abbrev sLaw : Stmt := top 54
def dLaw : He.DefD := ⟨("law", none), "law", "law", defArgs sLaw, defBody sLaw, defScope sLaw, [], []⟩
abbrev sItInit : Stmt := inClass (top 4) 0
def dItInit : He.DefD := ⟨("InvalidText", some "__init__"), "__init__", "InvalidText.__init__", defArgs sItInit, defBody sItInit, defScope sItInit, [], []⟩
abbrev sRInit : Stmt := inClass (top 27) 0
def dRInit : He.DefD := ⟨("Reading", some "__init__"), "__init__", "Reading.__init__", defArgs sRInit, defBody sRInit, defScope sRInit, [], []⟩
abbrev sRSkip : Stmt := inClass (top 27) 1
def dRSkip : He.DefD := ⟨("Reading", some "skip"), "skip", "Reading.skip", defArgs sRSkip, defBody sRSkip, defScope sRSkip, [], []⟩
abbrev sRRowOf : Stmt := inClass (top 27) 2
def dRRowOf : He.DefD := ⟨("Reading", some "row_of"), "row_of", "Reading.row_of", defArgs sRRowOf, defBody sRRowOf, defScope sRRowOf, [], []⟩
abbrev sRLook : Stmt := inClass (top 27) 3
def dRLook : He.DefD := ⟨("Reading", some "look"), "look", "Reading.look", defArgs sRLook, defBody sRLook, defScope sRLook, [], []⟩
abbrev sRNeed : Stmt := inClass (top 27) 4
def dRNeed : He.DefD := ⟨("Reading", some "need"), "need", "Reading.need", defArgs sRNeed, defBody sRNeed, defScope sRNeed, [], []⟩
abbrev sRWord : Stmt := inClass (top 27) 5
def dRWord : He.DefD := ⟨("Reading", some "word"), "word", "Reading.word", defArgs sRWord, defBody sRWord, defScope sRWord, [], []⟩
abbrev sRKnown : Stmt := inClass (top 27) 6
def dRKnown : He.DefD := ⟨("Reading", some "known"), "known", "Reading.known", defArgs sRKnown, defBody sRKnown, defScope sRKnown, [], []⟩
abbrev sRNumber : Stmt := inClass (top 27) 7
def dRNumber : He.DefD := ⟨("Reading", some "number"), "number", "Reading.number", defArgs sRNumber, defBody sRNumber, defScope sRNumber, [], []⟩
abbrev sRGuard : Stmt := inClass (top 27) 8
def dRGuard : He.DefD := ⟨("Reading", some "guard"), "guard", "Reading.guard", defArgs sRGuard, defBody sRGuard, defScope sRGuard, [], []⟩
abbrev sRRow : Stmt := inClass (top 27) 9
def dRRow : He.DefD := ⟨("Reading", some "row"), "row", "Reading.row", defArgs sRRow, defBody sRRow, defScope sRRow, [], []⟩
abbrev sRFunction : Stmt := inClass (top 27) 10
def dRFunction : He.DefD := ⟨("Reading", some "function"), "function", "Reading.function", defArgs sRFunction, defBody sRFunction, defScope sRFunction, [], []⟩
abbrev sRBook : Stmt := inClass (top 27) 11
def dRBook : He.DefD := ⟨("Reading", some "book"), "book", "Reading.book", defArgs sRBook, defBody sRBook, defScope sRBook, [], []⟩
def fn : List He.DefD := [dIsIn, dIsName, dIsTuple, dIsGuard, dIsMove, dIsRow, dIsFunction, dIsBook, dNeedBook, dReadBook, dWriteGuard, dWriteRow, dWriteBook, dLawTaken, dLawPick, dLawAlike, dLawBook, dLawGuard, dLawText, dLawRun, dLawStep, dLawGuardDue, dLawRowDue, dLawDue, dLawTold, dLaw, dItInit, dRInit, dRSkip, dRRowOf, dRLook, dRNeed, dRWord, dRKnown, dRNumber, dRGuard, dRRow, dRFunction, dRBook]
def fa : List He.Fa := [
  .glo "is_in",
  .glo "is_name",
  .glo "is_tuple",
  .glo "is_guard",
  .glo "is_move",
  .glo "is_row",
  .glo "is_function",
  .glo "is_book",
  .glo "need_book",
  .glo "read_book",
  .glo "write_guard",
  .glo "write_row",
  .glo "write_book",
  .glo "_law_taken",
  .glo "_law_pick",
  .glo "_law_alike",
  .glo "_law_book",
  .glo "_law_guard",
  .glo "_law_text",
  .glo "_law_run",
  .glo "_law_step",
  .glo "_law_guard_due",
  .glo "_law_row_due",
  .glo "_law_due",
  .glo "_law_told",
  .glo "law",
  .free "isinstance",
  .free "int",
  .free "bool",
  .free "str",
  .free "tuple",
  .free "list",
  .free "len",
  .free "all",
  .free "range",
  .int "MOST_LETTERS" 8,
  .int "MOST_BOUND" 60,
  .int "MOST_REST" 4,
  .int "MOST_DOWN" 4,
  .int "MOST_GUARDS" 3,
  .int "MOST_SIZE" 20,
  .int "MOST_ROWS" 6,
  .int "MOST_FUNCTIONS" 4,
  .str "LETTERS" "abcdefghijklmnopqrstuvwxyz",
  .str "DIGITS" "0123456789",
  .glo "TAKEN",
  .glo "RoomError",
  .glo "InvalidText",
  .glo "Reading",
  .cls "Reading",
  .noat "Reading" "text",
  .noat "Reading" "at",
  .mkr "Reading",
  .meth "Reading" "skip",
  .meth "Reading" "row_of",
  .meth "Reading" "look",
  .meth "Reading" "need",
  .meth "Reading" "word",
  .meth "Reading" "known",
  .meth "Reading" "number",
  .meth "Reading" "guard",
  .meth "Reading" "row",
  .meth "Reading" "function",
  .meth "Reading" "book",
  .noat "InvalidText" "place",
  .exm "InvalidText" "RoomError" true,
  .keep "InvalidText",
  .keep "is_in",
  .keep "is_name",
  .keep "is_tuple",
  .keep "is_guard",
  .keep "is_move",
  .keep "is_row",
  .keep "is_function",
  .keep "is_book",
  .keep "need_book",
  .keep "read_book",
  .keep "write_guard",
  .keep "write_row",
  .keep "write_book",
  .keep "_law_taken",
  .keep "_law_pick",
  .keep "_law_alike",
  .keep "_law_book",
  .keep "_law_guard",
  .keep "_law_text",
  .keep "_law_run",
  .keep "_law_step",
  .keep "_law_guard_due",
  .keep "_law_row_due",
  .keep "_law_due",
  .keep "_law_told",
  .keep "law"]
def tf : List He.Defn := [("is_name", none), ("is_row", none), ("is_function", none), ("is_book", none)]
/-- what an own exception class must be: its first member's chain leads to ValueError -/
def oexB (K : PySem.W.Frag) (C : Addr) : Bool := match K.lookup C with
  | some ⟨.type "type", _, .cls cd, sl⟩ => (match cd.mro, sl.toList with
    | .ref C' :: bm, [_, _, _, _, some (.builtin n), _] => C' == C && n == "ValueError.__new__" && !cd.hasDel && cd.hasDict && PySem.HandSPX.refsVE bm
    | _, _ => false)
  | _ => false
theorem oexB_ok {K : PySem.W.Frag} {C : Addr} (q : oexB K C = true) : ∃ nm q N bs bm sn sub ab col dd k0 k1 k2 k3 k5, K.lookup C = some (excClassObj nm q C N bs bm true sn sub ab col dd k0 k1 k2 k3 k5 "ValueError.__new__") ∧ PySem.HandSPX.refsVE bm = true := by
  unfold oexB at q
  split at q
  · rename_i dd cd sl ho
    split at q
    · rename_i C' bm k0 k1 k2 k3 n k5 hm hs
      simp only [Bool.and_eq_true, beq_iff_eq, Bool.not_eq_true'] at q
      obtain ⟨⟨⟨⟨rfl, rfl⟩, hdel⟩, hdict⟩, ht⟩ := q
      obtain ⟨nm, bs, mro, ns, qn, hd, sn, sub, ab, col, del⟩ := cd
      dsimp only at hm hdel hdict
      subst hm hdel hdict
      have hsl : sl = #[k0, k1, k2, k3, some (.builtin "ValueError.__new__"), k5] := by
        obtain ⟨l⟩ := sl
        simp only at hs
        rw [hs]
      subst hsl
      exact ⟨nm, qn, ns, bs, bm, sn, sub, ab, col, dd, k0, k1, k2, k3, k5, ho, ht⟩
    · cases q
  · cases q
/-- the further facts: the error's class, TAKEN, the defs' tables apart -/
def exIT (K : PySem.W.Frag) (C : Addr) : Bool :=
  oexB K C && (He.eqO (PySem.W.findIn K (.ref C) "__setattr__") (some (some (.builtin "object.__setattr__"))) && (decide (PySem.W.subIn K (.ref C) (.type "BaseException") = some true) && (decide (PySem.W.typeIn K (.ref C) = some (.type "type")) &&
  (PySem.W.keepIn K (.ref C) && (xfB K C && (He.eqO (PySem.W.findIn K (.ref C) "__class__") (some (some (.builtin "object.__class__"))) && (decide (PySem.W.mroIn K C (.type "object") = some true) &&
  (He.eqO (PySem.W.findIn K (.ref C) "__init__") (some (some (.ref (He.ma K C "__init__")))) && (decide (PySem.W.typeIn K (.ref (He.ma K C "__init__")) = some (.type "function")) &&
  (He.eqO (PySem.W.specialIn K (.builtin "object.__class__") "__get__") (some (some (.builtin "getset_descriptor.__get__"))) && (decide (PySem.W.takesIn K (.builtin "object.__class__") = some true) && decide (PySem.W.kitOne K (.ref C) (.ref C) = some true))))))))))))
def exRE (K : PySem.W.Frag) (C : Addr) : Bool := decide (PySem.W.subIn K (.ref C) (.type "BaseException") = some true)
def apart4 (a b c d : Addr) : Bool := a != b && a != c && a != d && b != c && b != d && c != d
def ex (K : PySem.W.Frag) : Bool := exIT K (He.ga K "InvalidText") && (He.lstB K "TAKEN" [.str "call", .str "tail", .str "if", .str "and"] &&
  apart4 (He.cT K ("is_name", none)).2 (He.cT K ("is_row", none)).2 (He.cT K ("is_function", none)).2 (He.cT K ("is_book", none)).2)
end Dc
set_option Elab.async false
set_option linter.all false
set_option maxRecDepth 100000
set_option maxHeartbeats 4000000
/-! the mirror: what the program computes, over a text's code points -/
namespace Dc
open PySem

/-! ### signs, rows of signs -/
def isL (c : Nat) : Bool := Nat.ble 97 c && Nat.ble c 122
def isD (c : Nat) : Bool := Nat.ble 48 c && Nat.ble c 57
def isS (c : Nat) : Bool := Nat.beq c 32
def isLD (c : Nat) : Bool := isL c || isD c
/-- a sign of a kind stands at i -/
def atB (p : Nat → Bool) (l : List Nat) (i : Nat) : Bool := match l[i]? with
  | some c => p c
  | none => false
/-- the end of the longest row of a kind from i on -/
def runE (p : Nat → Bool) (l : List Nat) (i : Nat) : Nat := i + ((l.drop i).takeWhile p).length
def wrd (l : List Nat) (i j : Nat) : Str := ⟨((l.drop i).take (j - i)).toArray⟩
def skipE (l : List Nat) (i : Nat) : Nat := runE isS l i
def hasAt (s l : List Nat) (i : Nat) : Bool := decide ((l.drop i).take s.length = s)

abbrev Rs (α : Type) := Except Nat (α × Nat)
def rowOf (p : Nat → Bool) (l : List Nat) (i : Nat) : Rs Str :=
  if atB isLD l (runE p l i) = true then .error (runE p l i) else .ok (wrd l i (runE p l i), skipE l (runE p l i))
def wordM (l : List Nat) (i : Nat) : Rs Str := if atB isL l i = true then rowOf isL l i else .error i
def badNum (s : Str) : Bool := (decide (1 < s.length) && decide (s.cps.toList[0]? = some 48)) || decide (6 < s.length)
def val (s : Str) : Int := (PySem.intText? s).getD 0
def numM (l : List Nat) (i : Nat) : Rs Int :=
  if atB isD l i = true then
    match rowOf isD l i with
    | .error e => .error e
    | .ok (w, j) => if badNum w = true then .error i else .ok (val w, j)
  else .error i
def signM (s l : List Nat) (i : Nat) : Except Nat Nat := if hasAt s l i = true then .ok (skipE l (i + s.length)) else .error i
def knownM (ws : List Str) (l : List Nat) (i : Nat) : Rs Str :=
  match wordM l i with
  | .error e => .error e
  | .ok (w, j) => if w ∈ ws then .ok (w, j) else .error i

/-! ### books -/
inductive G where
  | below (c : Int) | frm (c : Int) | rest (m r : Int)
structure Row where
  gs : List G
  kind : Str
  name : Str
  dn : Bool
  mv : Int
structure Fn where
  name : Str
  size : Int
  rows : List Row

def guardM (l : List Nat) (i : Nat) : Rs G :=
  match knownM ["n"] l i with
  | .error e => .error e
  | .ok (_, j) =>
    if hasAt [60] l j = true then
      match numM l (skipE l (j + 1)) with
      | .error e => .error e
      | .ok (d, k) => .ok (.below d, k)
    else if hasAt [62] l j = true then
      if hasAt [62, 61] l j = true then
        match numM l (skipE l (j + 2)) with
        | .error e => .error e
        | .ok (d, k) => .ok (.frm d, k)
      else .error (j + 1)
    else
      match knownM ["mod"] l j with
      | .error e => .error e
      | .ok (_, k) =>
        match numM l k with
        | .error e => .error e
        | .ok (d1, k1) =>
          match signM [61] l k1 with
          | .error e => .error e
          | .ok k2 =>
            match numM l k2 with
            | .error e => .error e
            | .ok (d2, k3) => .ok (.rest d1 d2, k3)
def gWord (acc : List G) : Str := if acc.isEmpty then "if" else "and"
def rSign (acc : List Row) : Nat := if acc.isEmpty then 58 else 44
def guardsM (l : List Nat) : Nat → Nat → List G → Rs (List G)
  | 0, _, _ => .error 0
  | f + 1, i, acc =>
    if atB isL l i = true then
      match knownM [gWord acc] l i with
      | .error e => .error e
      | .ok (_, j) =>
        match guardM l j with
        | .error e => .error e
        | .ok (g, k) => guardsM l f k (acc ++ [g])
    else .ok (acc, i)
def moveM (l : List Nat) (k : Nat) : Rs (Bool × Int) :=
  if hasAt [45] l k = true then
    match numM l (skipE l (k + 1)) with
    | .error e => .error e
    | .ok (d, e) => .ok ((true, d), e)
  else
    match numM l k with
    | .error e => .error e
    | .ok (d, e) => .ok ((false, d), e)
def rowM (l : List Nat) (i : Nat) : Rs Row :=
  match knownM ["call", "tail"] l i with
  | .error e => .error e
  | .ok (kd, j) =>
    match wordM l j with
    | .error e => .error e
    | .ok (nm, k) =>
      match moveM l k with
      | .error e => .error e
      | .ok ((dn, d), e) =>
        match guardsM l (l.length + 1) e [] with
        | .error e => .error e
        | .ok (gs, e2) => .ok (⟨gs, kd, nm, dn, d⟩, e2)
def rowsM (l : List Nat) : Nat → Nat → List Row → Rs (List Row)
  | 0, _, _ => .error 0
  | f + 1, i, acc =>
    if hasAt [rSign acc] l i = true then
      match rowM l (skipE l (i + 1)) with
      | .error e => .error e
      | .ok (r, k) => rowsM l f k (acc ++ [r])
    else .ok (acc, i)
def fnM (l : List Nat) (i : Nat) : Rs Fn :=
  match wordM l i with
  | .error e => .error e
  | .ok (nm, j) =>
    match numM l j with
    | .error e => .error e
    | .ok (d, k) =>
      match rowsM l (l.length + 1) k [] with
      | .error e => .error e
      | .ok (rs, e2) => .ok (⟨nm, d, rs⟩, e2)
def fnsM (l : List Nat) : Nat → Nat → List Fn → Except Nat (List Fn)
  | 0, _, _ => .error 0
  | f + 1, i, acc =>
    if i < l.length then
      match signM [59] l i with
      | .error e => .error e
      | .ok j =>
        match fnM l j with
        | .error e => .error e
        | .ok (g, k) => fnsM l f k (acc ++ [g])
    else .ok acc
def bookM (l : List Nat) : Except Nat (List Fn) :=
  match fnM l (skipE l 0) with
  | .error e => .error e
  | .ok (g, k) => fnsM l (l.length + 1) k [g]

/-! ### is_book -/
def inR (n lo hi : Int) : Bool := decide (lo ≤ n) && decide (n ≤ hi)
def taken : List Str := ["call", "tail", "if", "and"]
def isName (s : Str) : Bool := if (decide (1 ≤ (s.length : Int)) && decide ((s.length : Int) ≤ 8)) = true then (if s ∈ taken then false else s.cps.toList.all isL) else false
def isG : G → Bool
  | .below c => inR c 0 60
  | .frm c => inR c 0 60
  | .rest m r => if inR m 2 4 = true then inR r 0 (m - 1) else false
def isMv (dn : Bool) (c : Int) : Bool := if dn then inR c 0 4 else inR c 0 60
def isRow (r : Row) : Bool := if r.gs.length ≤ 3 then (if r.gs.all isG = true then (if r.kind ∈ (["call", "tail"] : List Str) then (isName r.name && isMv r.dn r.mv) else false) else false) else false
def isFn (f : Fn) : Bool := if isName f.name = true then (if inR f.size 0 20 = true then (decide (f.rows.length ≤ 6) && f.rows.all isRow) else false) else false
def names (fs : List Fn) : List Str := fs.map (·.name)
def isBook (fs : List Fn) : Bool :=
  if (decide (1 ≤ fs.length) && decide (fs.length ≤ 4)) = true then
    (if fs.all isFn = true then (decide (names fs).Nodup && fs.all fun f => f.rows.all fun r => decide (r.name ∈ names fs)) else false)
  else false
def readM (l : List Nat) : Except Nat (List Fn) :=
  match bookM l with
  | .error e => .error e
  | .ok fs => if isBook fs = true then .ok fs else .error l.length

/-! ### rows of signs: bounds -/
theorem atB_lt {p : Nat → Bool} {l : List Nat} {i : Nat} (h : atB p l i = true) : i < l.length := by
  unfold atB at h
  cases e : l[i]? with
  | none => rw [e] at h; cases h
  | some c => exact (List.getElem?_eq_some_iff.mp e).1
theorem drop_at {l : List Nat} {i c : Nat} (e : l[i]? = some c) : l.drop i = c :: l.drop (i + 1) := by
  obtain ⟨h, e⟩ := List.getElem?_eq_some_iff.mp e
  rw [List.drop_eq_getElem_cons h, e]
theorem runE_yes {p : Nat → Bool} {l : List Nat} {i : Nat} (h : atB p l i = true) : runE p l i = runE p l (i + 1) := by
  unfold atB at h
  cases e : l[i]? with
  | none => rw [e] at h; cases h
  | some c =>
    rw [e] at h
    have h : p c = true := h
    unfold runE
    rw [drop_at e, List.takeWhile_cons_of_pos h, List.length_cons]
    omega
theorem runE_no {p : Nat → Bool} {l : List Nat} {i : Nat} (h : atB p l i = false) : runE p l i = i := by
  unfold atB at h
  unfold runE
  cases e : l[i]? with
  | none => rw [List.drop_of_length_le (List.getElem?_eq_none_iff.mp e)]; rfl
  | some c =>
    rw [e] at h
    have h : p c = false := h
    rw [drop_at e, List.takeWhile_cons_of_neg (by simp [h])]
    rfl
theorem runE_ge (p : Nat → Bool) (l : List Nat) (i : Nat) : i ≤ runE p l i := Nat.le_add_right _ _
theorem runE_le {p : Nat → Bool} {l : List Nat} {i : Nat} (h : i ≤ l.length) : runE p l i ≤ l.length := by
  unfold runE
  have h1 : ((l.drop i).takeWhile p).length ≤ (l.drop i).length := (List.takeWhile_sublist p).length_le
  rw [List.length_drop] at h1
  omega
theorem runE_gt {p : Nat → Bool} {l : List Nat} {i : Nat} (h : atB p l i = true) : i < runE p l i := by
  rw [runE_yes h]
  exact runE_ge p l (i + 1)
theorem skipE_ge (l : List Nat) (i : Nat) : i ≤ skipE l i := runE_ge _ _ _
theorem skipE_le {l : List Nat} {i : Nat} (h : i ≤ l.length) : skipE l i ≤ l.length := runE_le h
theorem hasAt_le {s l : List Nat} {i : Nat} (h : hasAt s l i = true) (hs : s ≠ []) : i + s.length ≤ l.length := by
  have e := of_decide_eq_true h
  have h1 : ((l.drop i).take s.length).length = s.length := by rw [e]
  rw [List.length_take, List.length_drop] at h1
  have h2 : 0 < s.length := List.length_pos_iff.mpr hs
  omega
theorem hasAt1 (c : Nat) (l : List Nat) (i : Nat) : hasAt [c] l i = decide (l[i]? = some c) := by
  unfold hasAt
  cases e : l[i]? with
  | none =>
    rw [List.drop_of_length_le (List.getElem?_eq_none_iff.mp e)]
    simp
  | some d =>
    rw [drop_at e]
    simp

/-! ### what was read lies within the text -/
theorem rowOf_ok {p : Nat → Bool} {l : List Nat} {i j : Nat} {w : Str} (hi : i ≤ l.length) (h : rowOf p l i = .ok (w, j)) : runE p l i ≤ j ∧ j ≤ l.length ∧ w = wrd l i (runE p l i) := by
  unfold rowOf at h
  split at h
  · cases h
  · cases h
    exact ⟨skipE_ge _ _, skipE_le (runE_le hi), rfl⟩
theorem rowOf_err {p : Nat → Bool} {l : List Nat} {i e : Nat} (hi : i ≤ l.length) (h : rowOf p l i = .error e) : i ≤ e ∧ e ≤ l.length := by
  unfold rowOf at h
  split at h
  · cases h
    exact ⟨runE_ge _ _ _, runE_le hi⟩
  · cases h
theorem wordM_ok {l : List Nat} {i j : Nat} {w : Str} (h : wordM l i = .ok (w, j)) : i < j ∧ j ≤ l.length := by
  unfold wordM at h
  split at h
  · rename_i ha
    obtain ⟨h1, h2, _⟩ := rowOf_ok (Nat.le_of_lt (atB_lt ha)) h
    exact ⟨Nat.lt_of_lt_of_le (runE_gt ha) h1, h2⟩
  · cases h
theorem numM_ok {l : List Nat} {i j : Nat} {n : Int} (h : numM l i = .ok (n, j)) : i < j ∧ j ≤ l.length := by
  unfold numM at h
  split at h
  · rename_i ha
    split at h
    · cases h
    · rename_i w k hw
      obtain ⟨h1, h2, _⟩ := rowOf_ok (Nat.le_of_lt (atB_lt ha)) hw
      split at h
      · cases h
      · cases h
        exact ⟨Nat.lt_of_lt_of_le (runE_gt ha) h1, h2⟩
  · cases h
theorem signM_ok {s l : List Nat} {i j : Nat} (hs : s ≠ []) (h : signM s l i = .ok j) : i < j ∧ j ≤ l.length := by
  unfold signM at h
  split at h
  · rename_i ha
    cases h
    have h1 := hasAt_le ha hs
    have h2 : 0 < s.length := List.length_pos_iff.mpr hs
    have h3 := skipE_ge l (i + s.length)
    exact ⟨by omega, skipE_le h1⟩
  · cases h
theorem knownM_ok {ws : List Str} {l : List Nat} {i j : Nat} {w : Str} (h : knownM ws l i = .ok (w, j)) : i < j ∧ j ≤ l.length ∧ w ∈ ws := by
  unfold knownM at h
  split at h
  · cases h
  · rename_i w' k hw
    split at h
    · rename_i hm
      cases h
      exact ⟨(wordM_ok hw).1, (wordM_ok hw).2, hm⟩
    · cases h
theorem guardM_ok {l : List Nat} {i j : Nat} {g : G} (h : guardM l i = .ok (g, j)) : i < j ∧ j ≤ l.length := by
  unfold guardM at h
  split at h
  · cases h
  · rename_i w k hw
    have h0 := (knownM_ok hw).1
    split at h
    · rename_i ha
      split at h
      · cases h
      · rename_i d k1 hn
        cases h
        have h1 := numM_ok hn
        have h2 := skipE_ge l (k + 1)
        exact ⟨by omega, h1.2⟩
    · split at h
      · split at h
        · split at h
          · cases h
          · rename_i d k1 hn
            cases h
            have h1 := numM_ok hn
            have h2 := skipE_ge l (k + 2)
            exact ⟨by omega, h1.2⟩
        · cases h
      · split at h
        · cases h
        · rename_i w2 k1 hw2
          have h1 := (knownM_ok hw2).1
          split at h
          · cases h
          · rename_i d1 k2 hn1
            have h2 := (numM_ok hn1).1
            split at h
            · cases h
            · rename_i k3 hs
              have h3 := (signM_ok (by simp) hs).1
              split at h
              · cases h
              · rename_i d2 k4 hn2
                have h4 := numM_ok hn2
                cases h
                exact ⟨by omega, h4.2⟩
theorem guardsM_ok {l : List Nat} : ∀ {f i j : Nat} {acc gs : List G}, i ≤ l.length → guardsM l f i acc = .ok (gs, j) → i ≤ j ∧ j ≤ l.length
  | 0, _, _, _, _, _, h => by cases h
  | f + 1, i, j, acc, gs, hi, h => by
    unfold guardsM at h
    split at h
    · split at h
      · cases h
      · rename_i w k hw
        split at h
        · cases h
        · rename_i g k2 hg
          have h1 := knownM_ok hw
          have h2 := guardM_ok hg
          have h3 := guardsM_ok h2.2 h
          exact ⟨by omega, h3.2⟩
    · cases h
      exact ⟨Nat.le_refl _, hi⟩
theorem moveM_ok {l : List Nat} {i j : Nat} {m : Bool × Int} (h : moveM l i = .ok (m, j)) : i < j ∧ j ≤ l.length := by
  unfold moveM at h
  split at h
  · split at h
    · cases h
    · rename_i d k hn
      cases h
      have h1 := numM_ok hn
      have h2 := skipE_ge l (i + 1)
      exact ⟨by omega, h1.2⟩
  · split at h
    · cases h
    · rename_i d k hn
      cases h
      exact numM_ok hn
theorem rowM_ok {l : List Nat} {i j : Nat} {r : Row} (h : rowM l i = .ok (r, j)) : i < j ∧ j ≤ l.length := by
  unfold rowM at h
  split at h
  · cases h
  · rename_i kd k hk
    split at h
    · cases h
    · rename_i nm k1 hn
      split at h
      · cases h
      · rename_i dn d k2 hm
        split at h
        · cases h
        · rename_i gs k3 hg
          cases h
          have h1 := knownM_ok hk
          have h2 := wordM_ok hn
          have h3 := moveM_ok hm
          have h4 := guardsM_ok h3.2 hg
          exact ⟨by omega, h4.2⟩
theorem rowsM_ok {l : List Nat} : ∀ {f i j : Nat} {acc rs : List Row}, i ≤ l.length → rowsM l f i acc = .ok (rs, j) → i ≤ j ∧ j ≤ l.length
  | 0, _, _, _, _, _, h => by cases h
  | f + 1, i, j, acc, rs, hi, h => by
    unfold rowsM at h
    split at h
    · split at h
      · cases h
      · rename_i r k hr
        have h1 := rowM_ok hr
        have h2 := rowsM_ok h1.2 h
        have h3 := skipE_ge l (i + 1)
        exact ⟨by omega, h2.2⟩
    · cases h
      exact ⟨Nat.le_refl _, hi⟩
theorem fnM_ok {l : List Nat} {i j : Nat} {g : Fn} (h : fnM l i = .ok (g, j)) : i < j ∧ j ≤ l.length := by
  unfold fnM at h
  split at h
  · cases h
  · rename_i nm k hn
    split at h
    · cases h
    · rename_i d k1 hd
      split at h
      · cases h
      · rename_i rs k2 hr
        cases h
        have h1 := wordM_ok hn
        have h2 := numM_ok hd
        have h3 := rowsM_ok h2.2 hr
        exact ⟨by omega, h3.2⟩

/-! ### any fuel that is enough is alike -/
theorem guardsM_fuel {l : List Nat} : ∀ {f f' i : Nat} {acc : List G}, i ≤ l.length → l.length < f + i → l.length < f' + i → guardsM l f i acc = guardsM l f' i acc
  | 0, f', i, acc, hi, h, h' => by omega
  | f + 1, 0, i, acc, hi, h, h' => by omega
  | f + 1, f' + 1, i, acc, hi, h, h' => by
    unfold guardsM
    split
    · split
      · rfl
      · rename_i w j hw
        split
        · rfl
        · rename_i g k hg
          have h1 := knownM_ok hw
          have h2 := guardM_ok hg
          exact guardsM_fuel h2.2 (by omega) (by omega)
    · rfl
theorem rowsM_fuel {l : List Nat} : ∀ {f f' i : Nat} {acc : List Row}, i ≤ l.length → l.length < f + i → l.length < f' + i → rowsM l f i acc = rowsM l f' i acc
  | 0, f', i, acc, hi, h, h' => by omega
  | f + 1, 0, i, acc, hi, h, h' => by omega
  | f + 1, f' + 1, i, acc, hi, h, h' => by
    unfold rowsM
    split
    · split
      · rfl
      · rename_i r k hr
        have h1 := rowM_ok hr
        have h3 := skipE_ge l (i + 1)
        exact rowsM_fuel h1.2 (by omega) (by omega)
    · rfl
theorem fnsM_fuel {l : List Nat} : ∀ {f f' i : Nat} {acc : List Fn}, i ≤ l.length → l.length < f + i → l.length < f' + i → fnsM l f i acc = fnsM l f' i acc
  | 0, f', i, acc, hi, h, h' => by omega
  | f + 1, 0, i, acc, hi, h, h' => by omega
  | f + 1, f' + 1, i, acc, hi, h, h' => by
    unfold fnsM
    split
    · split
      · rfl
      · rename_i j hs
        split
        · rfl
        · rename_i g k hg
          have h1 := signM_ok (by simp) hs
          have h2 := fnM_ok hg
          exact fnsM_fuel h2.2 (by omega) (by omega)
    · rfl

/-! ### the law's order of a number: the row of digits, then what is wrong with it -/
theorem wrd_len {l : List Nat} {i j : Nat} (h : j ≤ l.length) : (wrd l i j).length = j - i := by
  show ((l.drop i).take (j - i)).toArray.size = _
  rw [List.size_toArray, List.length_take, List.length_drop]
  omega
theorem wrd_list (l : List Nat) (i j : Nat) : (wrd l i j).cps.toList = (l.drop i).take (j - i) := by
  simp [wrd]
theorem wrd_runE {p : Nat → Bool} {l : List Nat} {i : Nat} : (wrd l i (runE p l i)).cps.toList = (l.drop i).takeWhile p := by
  rw [wrd_list]
  unfold runE
  rw [Nat.add_sub_cancel_left]
  have h : (l.drop i).takeWhile p <+: l.drop i := List.takeWhile_prefix p
  exact (List.prefix_iff_eq_take.mp h).symm
end Dc
set_option Elab.async false
set_option linter.all false
set_option maxRecDepth 100000
set_option maxHeartbeats 4000000
/-! what the walks share: how the heap may change, the facts of the text, data in the heap, short rules -/
namespace Dc
open PySem PySem.Spec PyProof.Rows L2 DcG

/-! ### the heap -/
/-- the tables of the defs that hold generator expressions -/
structure TT where
  n : Addr
  r : Addr
  f : Addr
  b : Addr
def isTbl : HO → Bool
  | .tbl _ => true
  | _ => false
def isMut : HO → Bool
  | .lst _ => true
  | .ins _ _ _ => true
  | .dK _ => true
  | _ => false
def Tabs (T : TT) (H : Hp) : Prop := Tab0 H T.n ∧ Tab0 H T.r ∧ Tab0 H T.f ∧ TabK true H T.b
/-- what was tracked stays but for the tables (which stay tables) and the objects at ex -/
structure Up (T : TT) (ex : List Addr) (H H' : Hp) : Prop where
  keep : ∀ b o, b ∉ ex → H b = some o → isTbl o = false → H' b = some o
  tabs : Tabs T H → Tabs T H'
section
variable {T : TT} {ex ex' : List Addr} {H H1 H2 : Hp} {p q : Addr} {o u : HO}
theorem Up.refl : Up T ex H H := ⟨fun _ _ _ e _ => e, fun t => t⟩
theorem Up.trans (a : Up T ex H H1) (b : Up T ex H1 H2) : Up T ex H H2 := ⟨fun c o hc e t => b.keep c o hc (a.keep c o hc e t) t, fun t => b.tabs (a.tabs t)⟩
theorem Up.mono (a : Up T ex H H1) (h : ∀ b ∈ ex, b ∈ ex') : Up T ex' H H1 := ⟨fun c o hc e t => a.keep c o (fun z => hc (h c z)) e t, a.tabs⟩
theorem Up.wide (a : Up T [] H H1) : Up T ex H H1 := a.mono fun b h => by cases h
theorem tab0_up {P : Addr} (h : ∀ b o, H b = some o → H1 b = some o) (t : Tab0 H P) : Tab0 H1 P := by
  obtain ⟨ps, e, r⟩ := t
  exact ⟨ps, h _ _ e, r⟩
theorem tabs_up (h : ∀ b o, H b = some o → (isTbl o = true ∨ ∃ φ, o = .ext φ) → H1 b = some o) (t : Tabs T H) : Tabs T H1 := by
  obtain ⟨⟨p1, e1, r1⟩, ⟨p2, e2, r2⟩, ⟨p3, e3, r3⟩, p4, e4, r4, k⟩ := t
  refine ⟨⟨p1, h _ _ e1 (.inl rfl), r1⟩, ⟨p2, h _ _ e2 (.inl rfl), r2⟩, ⟨p3, h _ _ e3 (.inl rfl), r3⟩, p4, h _ _ e4 (.inl rfl), r4, fun pos cv e => ?_⟩
  obtain ⟨c', P', z1, z2, z3, ps, z4, z5⟩ := k pos cv e
  exact ⟨c', P', z1, z2, h _ _ z3 (.inr ⟨_, rfl⟩), ps, h _ _ z4 (.inl rfl), z5⟩
theorem Up.new (hn : H p = none) : Up T ex H (upd H p o) :=
  ⟨fun b o _ e _ => by rw [upd_ne (ne_of_none e hn)]; exact e, tabs_up fun b o e _ => by rw [upd_ne (ne_of_none e hn)]; exact e⟩
theorem Up.put (hp : H p = some o) (hm : isMut o = true) (hx : p ∈ ex) : Up T ex H (upd H p u) := by
  refine ⟨fun b o' hb e _ => ?_, tabs_up fun b o' e z => ?_⟩
  · have : b ≠ p := fun z => hb (by rw [z]; exact hx)
    rw [upd_ne this]; exact e
  · have : b ≠ p := fun y => by
      rw [y, hp] at e
      cases e
      rcases z with z | ⟨φ, z⟩
      · cases o <;> cases z <;> cases hm
      · rw [z] at hm; cases hm
    rw [upd_ne this]; exact e
/-- an object that is younger may change -/
theorem Up.drop (a : Up T ex H H1) (b : Up T (p :: ex) H1 H2) (hn : H p = none) : Up T ex H H2 := by
  refine ⟨fun c o hc e t => b.keep c o (fun z => ?_) (a.keep c o hc e t) t, fun t => b.tabs (a.tabs t)⟩
  rcases List.mem_cons.mp z with z | z
  · rw [z, hn] at e; cases e
  · exact hc z
theorem Up.grown {P : Addr} {cv : Value} (g : Grown false P H H1 cv) (hP : P ≠ T.b) (hP' : ∀ o, H P = some o → isTbl o = true) : Up T ex H H1 := by
  refine ⟨fun b o _ e t => g.keep b o (fun z => ?_) e, fun ⟨t1, t2, t3, p4, e4, r4, k⟩ => ⟨g.tab0 t1, g.tab0 t2, g.tab0 t3, p4, g.keep _ _ hP.symm e4, r4, fun pos cv e => ?_⟩⟩
  · have := hP' o (by rw [← z]; exact e)
    rw [t] at this; cases this
  · obtain ⟨c', P', z1, z2, z3, z4⟩ := k pos cv e
    have hc : c' ≠ P := fun z => by
      have := hP' _ (by rw [← z]; exact z3)
      cases this
    exact ⟨c', P', z1, z2, g.keep _ _ hc z3, g.tab0 z4⟩
theorem Up.grownB {cv : Value} (g : Grown true T.b H H1 cv) (hP' : ∀ o, H T.b = some o → isTbl o = true) : Up T ex H H1 := by
  refine ⟨fun b o _ e t => g.keep b o (fun z => ?_) e, fun ⟨t1, t2, t3, t4⟩ => ⟨g.tab0 t1, g.tab0 t2, g.tab0 t3, g.tab⟩⟩
  have := hP' o (by rw [← z]; exact e)
  rw [t] at this; cases this
theorem tab_isTbl {P : Addr} {n : Bool} (t : TabK n H P) : ∀ o, H P = some o → isTbl o = true := fun o e => by
  obtain ⟨ps, e1, _⟩ := t.tbl
  rw [e] at e1
  cases e1
  rfl
end

/-! ### data in the heap -/
def GAt (H : Hp) (v : V) : G → Prop
  | .below c => ∃ a, v = .ref a ∧ H a = some (.tup [.str "below", .int c])
  | .frm c => ∃ a, v = .ref a ∧ H a = some (.tup [.str "from", .int c])
  | .rest m r => ∃ a, v = .ref a ∧ H a = some (.tup [.str "rest", .int m, .int r])
def MvAt (H : Hp) (v : V) (dn : Bool) (c : Int) : Prop := ∃ a, v = .ref a ∧ H a = some (.tup [.str (if dn then "down" else "give"), .int c])
def RowAt (H : Hp) (v : V) (r : Row) : Prop := ∃ a g m gs, v = .ref a ∧ H a = some (.tup [.ref g, .str r.kind, .str r.name, m]) ∧ H g = some (.tup gs) ∧ Paired (GAt H) gs r.gs ∧ MvAt H m r.dn r.mv
def FnAt (H : Hp) (v : V) (f : Fn) : Prop := ∃ a g rs, v = .ref a ∧ H a = some (.tup [.str f.name, .int f.size, .ref g]) ∧ H g = some (.tup rs) ∧ Paired (RowAt H) rs f.rows
def BookAt (H : Hp) (v : V) (fs : List Fn) : Prop := ∃ a vs, v = .ref a ∧ H a = some (.tup vs) ∧ Paired (FnAt H) vs fs
section
variable {T : TT} {ex : List Addr} {H H' : Hp}
/-- the objects at ex hold no tuple -/
def NoTup (H : Hp) (ex : List Addr) : Prop := ∀ b ∈ ex, ∀ xs, H b ≠ some (.tup xs)
theorem Up.tup (u : Up T ex H H') (n : NoTup H ex) {a : Addr} {xs : List V} (e : H a = some (.tup xs)) : H' a = some (.tup xs) := u.keep a _ (fun z => n a z xs e) e rfl
theorem noTup0 : NoTup H [] := fun b h => by cases h
theorem noTup1 {p : Addr} {o : HO} (e : H p = some o) (h : isMut o = true) : NoTup H [p] := fun b hb xs z => by
  rw [List.mem_singleton.mp hb, e] at z
  cases z
  cases h
theorem GAt.up (u : Up T ex H H') (n : NoTup H ex) {v : V} : ∀ {g : G}, GAt H v g → GAt H' v g
  | .below _, ⟨a, e, h⟩ => ⟨a, e, u.tup n h⟩
  | .frm _, ⟨a, e, h⟩ => ⟨a, e, u.tup n h⟩
  | .rest _ _, ⟨a, e, h⟩ => ⟨a, e, u.tup n h⟩
theorem MvAt.up (u : Up T ex H H') (n : NoTup H ex) {v : V} {dn : Bool} {c : Int} : MvAt H v dn c → MvAt H' v dn c
  | ⟨a, e, h⟩ => ⟨a, e, u.tup n h⟩
theorem RowAt.up (u : Up T ex H H') (n : NoTup H ex) {v : V} {r : Row} : RowAt H v r → RowAt H' v r
  | ⟨a, g, m, gs, e, h1, h2, h3, h4⟩ => ⟨a, g, m, gs, e, u.tup n h1, u.tup n h2, L2.Paired.mapP h3 fun _ _ z => z.up u n, h4.up u n⟩
theorem FnAt.up (u : Up T ex H H') (n : NoTup H ex) {v : V} {f : Fn} : FnAt H v f → FnAt H' v f
  | ⟨a, g, rs, e, h1, h2, h3⟩ => ⟨a, g, rs, e, u.tup n h1, u.tup n h2, L2.Paired.mapP h3 fun _ _ z => z.up u n⟩
theorem BookAt.up (u : Up T ex H H') (n : NoTup H ex) {v : V} {fs : List Fn} : BookAt H v fs → BookAt H' v fs
  | ⟨a, vs, e, h1, h2⟩ => ⟨a, vs, e, u.tup n h1, L2.Paired.mapP h2 fun _ _ z => z.up u n⟩
end

/-! ### the facts of the text -/
structure Txt (K : PySem.W.Frag) (mg : Str → Option Value) : Prop where
  isi : mg "isinstance" = none
  int : mg "int" = none
  bool : mg "bool" = none
  str : mg "str" = none
  tuple : mg "tuple" = none
  list : mg "list" = none
  len : mg "len" = none
  all : mg "all" = none
  range : mg "range" = none
  mLet : ∃ u, mg "MOST_LETTERS" = some u ∧ RelV (.int 8) u
  mBound : ∃ u, mg "MOST_BOUND" = some u ∧ RelV (.int 60) u
  mRest : ∃ u, mg "MOST_REST" = some u ∧ RelV (.int 4) u
  mDown : ∃ u, mg "MOST_DOWN" = some u ∧ RelV (.int 4) u
  mGuards : ∃ u, mg "MOST_GUARDS" = some u ∧ RelV (.int 3) u
  mSize : ∃ u, mg "MOST_SIZE" = some u ∧ RelV (.int 20) u
  mRows : ∃ u, mg "MOST_ROWS" = some u ∧ RelV (.int 6) u
  mFuns : ∃ u, mg "MOST_FUNCTIONS" = some u ∧ RelV (.int 4) u
  lets : ∃ u, mg "LETTERS" = some u ∧ RelV (.str "abcdefghijklmnopqrstuvwxyz") u
  digs : ∃ u, mg "DIGITS" = some u ∧ RelV (.str "0123456789") u
  taken : ∃ a, (∃ u, mg "TAKEN" = some u ∧ RelV (.ref a) u) ∧ ∀ H, SqL K H a [.str "call", .str "tail", .str "if", .str "and"]

/-! ### short rules -/
section
variable {X : Cx}
theorem pgl {x : Str} {v : V} {pos : Pos} (h : ∃ u, X.mg x = some u ∧ RelV v u) (hg : Gl X x := by rfl) (hd : (x == ("__debug__" : Str)) = false := by decide) : PE X (.Name x pos) (tC v) := by
  obtain ⟨u, hm, r⟩ := h
  exact pe_glob hg hm r hd
theorem p_int {pos : Pos} (hm : X.mg "int" = none) (hg : Gl X "int" := by rfl) : PE X (.Name "int" pos) (tC (.ty "int")) := pe_bltn hg hm (by decide +kernel) rfl
theorem p_bool {pos : Pos} (hm : X.mg "bool" = none) (hg : Gl X "bool" := by rfl) : PE X (.Name "bool" pos) (tC (.ty "bool")) := pe_bltn hg hm (by decide +kernel) rfl
theorem p_str {pos : Pos} (hm : X.mg "str" = none) (hg : Gl X "str" := by rfl) : PE X (.Name "str" pos) (tC (.ty "str")) := pe_bltn hg hm (by decide +kernel) rfl
theorem p_tuple {pos : Pos} (hm : X.mg "tuple" = none) (hg : Gl X "tuple" := by rfl) : PE X (.Name "tuple" pos) (tC (.ty "tuple")) := pe_bltn hg hm (by decide +kernel) rfl
theorem p_list {pos : Pos} (hm : X.mg "list" = none) (hg : Gl X "list" := by rfl) : PE X (.Name "list" pos) (tC (.ty "list")) := pe_bltn hg hm (by decide +kernel) rfl
theorem b_isi : bootBuiltins "isinstance" = some (.builtin "isinstance") := by decide +kernel
theorem b_len : bootBuiltins "len" = some (.builtin "len") := by decide +kernel
theorem b_all : bootBuiltins "all" = some (.builtin "all") := by decide +kernel
/-- isinstance(a, c) -/
theorem p_isi {a c : Expr} {ta tc : TE} {p pos : Pos} (hm : X.mg "isinstance" = none) (ha : PE X a ta) (hc : PE X c tc) (hg : Gl X "isinstance" := by rfl)
    (h1 : starEach [a, c] X.env = (false, eval a X.env) :: starEach [c] X.env := by rfl) (h2 : starEach [c] X.env = (false, eval c X.env) :: starEach [] X.env := by rfl) : PE X (.Call (.Name "isinstance" p) [a, c] [] pos) (tCB (rIsi X.K) (tCons ta (tCons tc tNil))) :=
  pe_callB call_isi hg hm b_isi (pa_cons ha (pa_cons hc pa_nil h2) h1) (by decide) (by decide) h1 (by rw [h2]; rfl)
end
/-! ### defs and methods to be called -/
/-- a def that keeps a promise stands under a name -/
structure CalD (P : Program) (w : World) (K : PySem.W.Frag) (mg : Str → Option Value) (base : Heap) (CX : CXT) (k : Nat) (x : Str) (ps : List Str) (sp : Sp) : Prop where
  ex : ∃ (f : Addr) (fd : FuncData), FnOk P w K mg base CX k f fd ps sp ∧ mg x = some (.ref f) ∧ PySem.W.keepIn K (.ref f) = true ∧ L2.Binds K fd ps []
structure MetD (P : Program) (w : World) (K : PySem.W.Frag) (mg : Str → Option Value) (base : Heap) (CX : CXT) (k : Nat) (C : Addr) (m : Str) (ps : List Str) (sp : Sp) : Prop where
  ex : ∃ (f : Addr) (fd : FuncData), FnOk P w K mg base CX k f fd ps sp ∧ Meth K C m f ∧ L2.Binds K fd ps []
section
variable {X : Cx} {CX : CXT} {k : Nat} {x m : Str} {C : Addr} {ps : List Str} {sp : Sp} {E : XK} {p pos apos : Pos} {e o : Expr} {es : List Expr} {ta : TE} {t : TA}
theorem pcl (c : CalD X.prog X.w X.K X.mg X.base CX k x ps sp) (hr : Room k X.A) (hx : Passes CX X E) (ha : PA X (e :: es) t) (hg : Gl X x := by rfl) (hdb : (x == ("__debug__" : Str)) = false := by decide)
    (he : starEach (e :: es) X.env = (false, eval e X.env) :: starEach es X.env := by rfl) (hpl : (backTo pos (starEach es X.env)).any (·.1) = false := by rfl) : PE X (.Call (.Name x p) (e :: es) [] pos) (tCall sp [] E t) := by
  obtain ⟨f, fd, F, hm, hk, hb⟩ := c.ex
  exact pe_call F hr hg hm hk hb .nil hx ha hdb he hpl
theorem pmt (c : MetD X.prog X.w X.K X.mg X.base CX k C m ps sp) (cl : Cls X.K C) (hr : Room k X.A) (hx : Passes CX X E) (ho : PE X o ta) (ha : PA X (e :: es) t)
    (he : starEach (e :: es) X.env = (false, eval e X.env) :: starEach es X.env := by rfl) (hpl : (backTo pos (starEach es X.env)).any (·.1) = false := by rfl) {pl : Sem Bool}
    (ht : eval (.Call (.Attribute o m apos) (e :: es) [] pos) X.env = (do
      let ov ← eval o X.env
      standAt apos.atName
      let (f, first) ← holding [ov] (getMethod ov m pl)
      callWith pos f first (backTo pos (starEach (e :: es) X.env)) (backToKw pos (keywordEach [] X.env))) := by rfl) :
    PE X (.Call (.Attribute o m apos) (e :: es) [] pos) (tMeth C m sp [] E ta t) := by
  obtain ⟨f, fd, F, hm, hb⟩ := c.ex
  exact pe_meth ho cl hm F hr hb .nil hx ha he hpl ht
theorem pmt0 (c : MetD X.prog X.w X.K X.mg X.base CX k C m ps sp) (cl : Cls X.K C) (hr : Room k X.A) (hx : Passes CX X E) (ho : PE X o ta) {pl : Sem Bool}
    (ht : eval (.Call (.Attribute o m apos) [] [] pos) X.env = (do
      let ov ← eval o X.env
      standAt apos.atName
      let (f, first) ← holding [ov] (getMethod ov m pl)
      callWith pos f first (backTo pos (starEach [] X.env)) (backToKw pos (keywordEach [] X.env))) := by rfl) :
    PE X (.Call (.Attribute o m apos) [] [] pos) (tMeth C m sp [] E ta tNil) := by
  obtain ⟨f, fd, F, hm, hb⟩ := c.ex
  exact pe_meth0 ho cl hm F hr hb .nil hx ht
end
/-- isinstance's answers -/
theorem isi_ii : kitB "int" "int" = some true := by decide +kernel
theorem isi_ib : kitB "int" "bool" = some false := by decide +kernel
theorem isi_ss : kitB "str" "str" = some true := by decide +kernel
theorem isi_tt : kitB "tuple" "tuple" = some true := by decide +kernel
end Dc
namespace Dc
open PySem PySem.Spec PyProof.Rows L2 DcG
/-! ### a def whose code object is told; the turns of all(..) -/
theorem FunD_okC {P : Program} {w : World} {K : PySem.W.Frag} {mg : Str → Option Value} {base : Heap} {x qual : Str} {params : Arguments} {body : List Stmt} {scope : Scope} {dvs : List V} {kws : List (Str × V)} {f : Addr} {fd : FuncData} {CX : CXT} {N ps : List Str} {k : Nat} {sp : Sp}
    (F : FunD K x qual params body scope dvs kws f fd) (S : FnScope N ps scope) (len : ∀ vs H Q E, sp vs H Q E → vs.length = ps.length)
    (hbody : ∀ (cdv : Value), fd.code = cdv → ∀ (A : Around) (outer : List Env) (s : Shared) (H : Hp) (vs : List V) (Q : VK) (E : XK), Room k (A.deeper (envOfC qual scope s.heap.objs.size f cdv)) → sp vs H Q E →
      ∃ t, PSs (cxOf CX P w K mg base N qual scope f cdv A outer s H E) body t ∧ t { nx := fun _ H' => Q .non H', rt := Q } (start N vs) H) : FnOk P w K mg base CX (k + 1) f fd ps sp := by
  obtain ⟨oc, od, dV, kV, doc, pm, an, cdv, ct, osl, rfl, lk, hcd, _, _⟩ := F.ex
  exact fn_of lk hcd S len fun A outer s H vs Q E hr hsp => hbody cdv rfl A outer s H vs Q E hr hsp
/-- the module's builtins, in the base -/
def BMb (base : Heap) (mg : Str → Option Value) : Prop := ∃ (bm : Addr) (ob : Obj), mg "__builtins__" = some (.ref bm) ∧ bm ≠ builtinsNs ∧ base.get? bm = some ob ∧ ob.cls = .type "module" ∧ ob.dict = some builtinsNs ∧ ob.data = .plain
section
variable {K : PySem.W.Frag} {g : TG} {te : TE} {vs : List Nat} {σ : L2.St} {Q : VK} {H2 : Hp}
theorem take_all_succ {α : Type} {l : List α} {i : Nat} {x : α} {p : α → Bool} (h : (l.take i).all p = true) (e : l[i]? = some x) (hp : p x = true) : (l.take (i + 1)).all p = true := by
  rw [List.take_add_one, e, List.all_append, h]
  simp [hp]
theorem all_false_of {α : Type} {l : List α} {i : Nat} {x : α} {p : α → Bool} (e : l[i]? = some x) (hp : p x = false) : l.all p = false := by
  cases h : l.all p with
  | false => rfl
  | true => rw [List.all_eq_true.mp h x (List.mem_of_getElem? e)] at hp; cases hp
/-- over a text's signs -/
theorem all_str {z : Str} (p : Nat → Bool) (Pv : Hp → Prop) (h0 : Pv H2)
    (step : ∀ H c (Kk : VK), Pv H → (∀ H4, Pv H4 → Kk (.bl (p c)) H4) → g (.str ⟨#[c]⟩) (wipe σ vs) H fun σ2 H3 => wipe σ2 vs = wipe σ vs ∧ te σ2 H3 Kk) (hq : ∀ H, Pv H → Q (.bl (z.cps.toList.all p)) H) :
    GTurns (Its z) g te vs σ Q H2 := by
  refine ⟨fun i m H => m = z.cps.size - i ∧ i ≤ z.cps.size ∧ (z.cps.toList.take i).all p = true ∧ Pv H, ⟨_, rfl, Nat.zero_le _, rfl, h0⟩, ?_⟩
  rintro i m H ⟨rfl, hi, ha, hp⟩
  have hsz : z.cps.toList.length = z.cps.size := by simp
  by_cases hlt : i < z.cps.size
  · refine .inr ⟨hlt, fun H' => (z.cps.toList.take (i + 1)).all p = true ∧ Pv H', fun H' q => ⟨z.cps.size - (i + 1), by omega, rfl, hlt, q.1, q.2⟩, fun x H' y => ?_⟩
    obtain ⟨rfl, c, e, rfl⟩ := y
    have e' : z.cps.toList[i]? = some c := by simpa using e
    refine step _ c _ hp fun H4 r => ⟨p c, rfl, ?_⟩
    cases hc : p c with
    | true => exact iteT ⟨take_all_succ ha e' hc, r⟩
    | false =>
      have := hq H4 r
      rw [all_false_of e' hc] at this
      exact iteF this
  · have e : i = z.cps.size := by omega
    subst e
    have := hq H hp
    rw [List.take_of_length_le (by omega)] at ha
    rw [ha] at this
    exact .inl ⟨Nat.le_refl _, this⟩
/-- over a tuple of data -/
theorem all_tup {α : Type} {a : Addr} (xs : List V) (ds : List α) (p : α → Bool) (R : Hp → V → α → Prop) (Pv : Hp → Prop) (h0 : Pv H2) (hS : ∀ H, Pv H → SqT K H a xs) (hR : ∀ H, Pv H → Paired (R H) xs ds)
    (step : ∀ H v d (Kk : VK), Pv H → v ∈ xs → d ∈ ds → R H v d → (∀ H4, Pv H4 → Kk (.bl (p d)) H4) → g v (wipe σ vs) H fun σ2 H3 => wipe σ2 vs = wipe σ vs ∧ te σ2 H3 Kk) (hq : ∀ H, Pv H → Q (.bl (ds.all p)) H) :
    GTurns (Itt K a) g te vs σ Q H2 := by
  have hlen : xs.length = ds.length := Paired.length (hR _ h0)
  refine ⟨fun i m H => m = ds.length - i ∧ i ≤ ds.length ∧ (ds.take i).all p = true ∧ Pv H, ⟨_, rfl, Nat.zero_le _, rfl, h0⟩, ?_⟩
  rintro i m H ⟨rfl, hi, ha, hp⟩
  by_cases hlt : i < ds.length
  · obtain ⟨x, hx⟩ : ∃ x, xs[i]? = some x := ⟨xs[i]'(by omega), List.getElem?_eq_getElem (by omega)⟩
    refine .inr ⟨⟨xs, x, hS H hp, hx⟩, fun H' => (ds.take (i + 1)).all p = true ∧ Pv H', fun H' q => ⟨ds.length - (i + 1), by omega, rfl, hlt, q.1, q.2⟩, fun v H' y => ?_⟩
    obtain ⟨rfl, y⟩ := y
    have hv := y xs (hS _ hp)
    have hd : ds[i]? = some ds[i] := List.getElem?_eq_getElem hlt
    have hr : R H' v ds[i] := by
      obtain ⟨d, e1, e2⟩ := paired_get (hR H' hp) hv
      rw [hd] at e1
      cases e1
      exact e2
    refine step _ v ds[i] _ hp (List.mem_of_getElem? hv) (List.getElem_mem hlt) hr fun H4 r => ⟨p ds[i], rfl, ?_⟩
    cases hc : p ds[i] with
    | true => exact iteT ⟨take_all_succ ha hd hc, r⟩
    | false =>
      have := hq H4 r
      rw [all_false_of hd hc] at this
      exact iteF this
  · have e : i = ds.length := by omega
    subst e
    have := hq H hp
    rw [List.take_length] at ha
    rw [ha] at this
    exact .inl ⟨⟨xs, hS H hp, by omega⟩, this⟩
end
end Dc
set_option Elab.async false
set_option linter.all false
set_option maxRecDepth 100000
set_option maxHeartbeats 4000000
namespace Dc
open PySem PySem.Spec PyProof.Rows L2 DcG
section
variable {P : Program} {w : World} {K : PySem.W.Frag} {mg : Str → Option Value} {base : Heap} {T : TT}
/-! ### is_in -/
def spIsIn : Sp := fun vs H Q _ => ∃ n lo hi : Int, vs = [.int n, .int lo, .int hi] ∧ Q (.bl (inR n lo hi)) H
theorem scIsIn : FnScope ["value", "least", "most"] ["value", "least", "most"] (defScope sIsIn) := ⟨rfl, rfl, rfl, by decide +kernel, rfl, by decide +kernel, by decide +kernel⟩
theorem ok_isIn {f : Addr} {fd : FuncData} (F : FnP K "is_in" "is_in" sIsIn f fd) (X : Txt K mg) : FnOk P w K mg base CX0 1 f fd ["value", "least", "most"] spIsIn := by
  refine F.ok scIsIn (fun vs H Q E h => ?_) (fun cdv A outer s H vs Q E hr h => ?_)
  · obtain ⟨n, lo, hi, rfl, _⟩ := h
    rfl
  · obtain ⟨n, lo, hi, rfl, k⟩ := h
    refine ⟨_, PSs.nox (pss_one (ps_ret (pe_and (p_isi X.isi (pv 0) (p_int X.int)) (pe_and (pe_not (p_isi X.isi (pv 0) (p_bool X.bool))) (pe_one (pe_chain op_le op_le (pv 1) (pv 0) (pv 2))))))), ?_⟩
    refine ⟨_, rfl, _, _, _, _, true, rfl, .ty _, .base (.int _), kit_ty isi_ii, true, rfl, iteT ?_⟩
    refine ⟨_, rfl, _, _, _, _, false, rfl, .ty _, .base (.int _), kit_ty isi_ib, false, rfl, true, rfl, iteT ?_⟩
    refine ⟨_, rfl, _, rfl, lo, n, rfl, rfl, _, rfl, ?_⟩
    unfold inR at k
    by_cases h1 : lo ≤ n
    · rw [decide_eq_true h1] at k ⊢
      exact iteT ⟨_, rfl, n, hi, rfl, rfl, k⟩
    · rw [decide_eq_false h1] at k ⊢
      exact iteF k
/-! ### is_tuple: of a tuple -/
def spIsTuple : Sp := fun vs H Q _ => ∃ (a : Addr) (xs : List V) (n : Int), vs = [.ref a, .int n] ∧ H a = some (.tup xs) ∧ Q (.bl (decide ((xs.length : Int) = n))) H
theorem scIsTuple : FnScope ["value", "many"] ["value", "many"] (defScope sIsTuple) := ⟨rfl, rfl, rfl, by decide +kernel, rfl, by decide +kernel, by decide +kernel⟩
theorem ok_isTuple {f : Addr} {fd : FuncData} (F : FnP K "is_tuple" "is_tuple" sIsTuple f fd) (X : Txt K mg) : FnOk P w K mg base CX0 1 f fd ["value", "many"] spIsTuple := by
  refine F.ok scIsTuple (fun vs H Q E h => ?_) (fun cdv A outer s H vs Q E hr h => ?_)
  · obtain ⟨a, xs, n, rfl, _⟩ := h
    rfl
  · obtain ⟨a, xs, n, rfl, ha, k⟩ := h
    refine ⟨_, PSs.nox (pss_one (ps_ret (pe_and (p_isi X.isi (pv 0) (p_tuple X.tuple)) (pe_one (pe_cmp (pc_eqI (pe_callB call_len_seq (by rfl) X.len b_len (pa_cons (pv 0) pa_nil)) (pv 1)) rfl))))), ?_⟩
    refine ⟨_, rfl, _, _, _, _, true, rfl, .ty _, .base (.tup ha), kit_ty isi_tt, true, rfl, iteT ?_⟩
    exact ⟨_, rfl, a, xs, rfl, .inr (.inl (.inl ha)), _, rfl, _, n, rfl, rfl, k⟩
/-! ### is_guard -/
def spIsGuard (T : TT) : Sp := fun vs H Q _ => ∃ (v : V) (g : G), vs = [v] ∧ GAt H v g ∧ ∀ H', Up T [] H H' → Q (.bl (isG g)) H'
theorem scIsGuard : FnScope ["value"] ["value"] (defScope sIsGuard) := ⟨rfl, rfl, rfl, by decide +kernel, rfl, by decide +kernel, by decide +kernel⟩
theorem ok_isGuard {f : Addr} {fd : FuncData} (F : FnP K "is_guard" "is_guard" sIsGuard f fd) (X : Txt K mg)
    (cI : CalD P w K mg base CX0 1 "is_in" ["value", "least", "most"] spIsIn) (cT : CalD P w K mg base CX0 1 "is_tuple" ["value", "many"] spIsTuple) : FnOk P w K mg base CX0 2 f fd ["value"] (spIsGuard T) := by
  refine F.ok scIsGuard (fun vs H Q E h => ?_) (fun cdv A outer s H vs Q E hr h => ?_)
  · obtain ⟨v, g, rfl, _⟩ := h
    rfl
  · obtain ⟨v, g, rfl, hg, k⟩ := h
    refine ⟨_, PSs.nox (pss_cons (ps_if (pt_val (pcl cT hr pass0 (pa_cons (pv 0) (pa_cons pe_int pa_nil))))
        (pss_one (ps_ret (pe_and (pe_cmpR op_in_seq (pe_ix ix_tup (pv 0) pe_int (fun _ _ => rfl)) (pe_lst (pa_cons pe_str (pa_cons pe_str pa_nil))) rfl) (pe_one (pcl cI hr pass0 (pa_cons (pe_ix ix_tup (pv 0) pe_int (fun _ _ => rfl)) (pa_cons pe_int (pa_cons (pgl X.mBound) pa_nil)))))))) pss_nil)
      (pss_cons (ps_if (PW.pt (pw_or (pt_not (pt_val (pcl cT hr pass0 (pa_cons (pv 0) (pa_cons pe_int pa_nil))))) (pw_or (pt_cmpR op_ne (pe_ix ix_tup (pv 0) pe_int (fun _ _ => rfl)) pe_str (nomark _)) (pw_or1 (pt_not (pt_val (pcl cI hr pass0 (pa_cons (pe_ix ix_tup (pv 0) pe_int (fun _ _ => rfl)) (pa_cons pe_int (pa_cons (pgl X.mRest) pa_nil))))))))))
        (pss_one (ps_ret pe_bl)) pss_nil)
      (pss_one (ps_ret (pcl cI hr pass0 (pa_cons (pe_ix ix_tup (pv 0) pe_int (fun _ _ => rfl)) (pa_cons pe_int (pa_cons (pe_op op_sub (pe_ix ix_tup (pv 0) pe_int (fun _ _ => rfl)) pe_int) pa_nil)))))))), ?_⟩
    cases g with
    | below c =>
      obtain ⟨a, rfl, ha⟩ := hg
      refine ⟨_, rfl, a, _, 2, rfl, ha, true, rfl, iteT ?_⟩
      refine ⟨_, rfl, a, _, 0, _, rfl, rfl, .inl (.inl ha), rfl, by show 2 ≤ sizeLine; decide, fun p hp => ?_⟩
      refine ⟨p, _, rfl, .inl (.inl (.inl upd_same)), rfl, rfl, true, by decide +kernel, iteT ?_⟩
      exact ⟨_, rfl, a, _, 1, _, rfl, rfl, .inl (.inl (by rw [upd_ne (ne_of_none ha hp)]; exact ha)), rfl, c, 0, 60, rfl, k _ (.new hp)⟩
    | frm c =>
      obtain ⟨a, rfl, ha⟩ := hg
      refine ⟨_, rfl, a, _, 2, rfl, ha, true, rfl, iteT ?_⟩
      refine ⟨_, rfl, a, _, 0, _, rfl, rfl, .inl (.inl ha), rfl, by show 2 ≤ sizeLine; decide, fun p hp => ?_⟩
      refine ⟨p, _, rfl, .inl (.inl (.inl upd_same)), rfl, rfl, true, by decide +kernel, iteT ?_⟩
      exact ⟨_, rfl, a, _, 1, _, rfl, rfl, .inl (.inl (by rw [upd_ne (ne_of_none ha hp)]; exact ha)), rfl, c, 0, 60, rfl, k _ (.new hp)⟩
    | rest m r =>
      obtain ⟨a, rfl, ha⟩ := hg
      refine ⟨_, rfl, a, _, 2, rfl, ha, false, rfl, iteF ?_⟩
      refine ⟨_, rfl, a, _, 3, rfl, ha, true, rfl, iteF ?_⟩
      refine ⟨_, rfl, a, _, 0, _, rfl, rfl, .inl (.inl ha), rfl, rfl, false, by decide +kernel, iteF ?_⟩
      refine ⟨_, rfl, a, _, 1, _, rfl, rfl, .inl (.inl ha), rfl, m, 2, 4, rfl, _, rfl, ?_⟩
      have k0 := k H .refl
      have ek : isG (.rest m r) = if inR m 2 4 = true then inR r 0 (m - 1) else false := rfl
      rw [ek] at k0
      cases hm : inR m 2 4 with
      | false =>
        rw [hm] at k0
        exact iteT k0
      | true =>
        rw [hm] at k0
        refine iteF ?_
        exact ⟨_, rfl, a, _, 2, _, rfl, rfl, .inl (.inl ha), rfl, _, rfl, a, _, 1, _, rfl, rfl, .inl (.inl ha), rfl, m, 1, rfl, rfl, r, 0, m - 1, rfl, k0⟩
/-! ### is_move -/
def spIsMove : Sp := fun vs H Q _ => ∃ (v : V) (dn : Bool) (c : Int), vs = [v] ∧ MvAt H v dn c ∧ Q (.bl (isMv dn c)) H
theorem scIsMove : FnScope ["value"] ["value"] (defScope sIsMove) := ⟨rfl, rfl, rfl, by decide +kernel, rfl, by decide +kernel, by decide +kernel⟩
theorem ok_isMove {f : Addr} {fd : FuncData} (F : FnP K "is_move" "is_move" sIsMove f fd) (X : Txt K mg)
    (cI : CalD P w K mg base CX0 1 "is_in" ["value", "least", "most"] spIsIn) (cT : CalD P w K mg base CX0 1 "is_tuple" ["value", "many"] spIsTuple) : FnOk P w K mg base CX0 2 f fd ["value"] spIsMove := by
  refine F.ok scIsMove (fun vs H Q E h => ?_) (fun cdv A outer s H vs Q E hr h => ?_)
  · obtain ⟨v, dn, c, rfl, _⟩ := h
    rfl
  · obtain ⟨v, dn, c, rfl, ⟨a, rfl, ha⟩, k⟩ := h
    refine ⟨_, PSs.nox (pss_cons (ps_if (pt_not (pt_val (pcl cT hr pass0 (pa_cons (pv 0) (pa_cons pe_int pa_nil))))) (pss_one (ps_ret pe_bl)) pss_nil)
      (pss_cons (ps_if (pt_cmpR op_eq (pe_ix ix_tup (pv 0) pe_int (fun _ _ => rfl)) pe_str (nomark _)) (pss_one (ps_ret (pcl cI hr pass0 (pa_cons (pe_ix ix_tup (pv 0) pe_int (fun _ _ => rfl)) (pa_cons pe_int (pa_cons (pgl X.mBound) pa_nil)))))) pss_nil)
      (pss_one (ps_ret (pe_and (pe_cmpR op_eq (pe_ix ix_tup (pv 0) pe_int (fun _ _ => rfl)) pe_str (nomark _)) (pe_one (pcl cI hr pass0 (pa_cons (pe_ix ix_tup (pv 0) pe_int (fun _ _ => rfl)) (pa_cons pe_int (pa_cons (pgl X.mDown) pa_nil)))))))))), ?_⟩
    refine ⟨_, rfl, a, _, 2, rfl, ha, true, rfl, iteF ?_⟩
    cases dn with
    | false =>
      refine ⟨_, rfl, a, _, 0, _, rfl, rfl, .inl (.inl ha), rfl, rfl, true, by decide +kernel, iteT ?_⟩
      exact ⟨_, rfl, a, _, 1, _, rfl, rfl, .inl (.inl ha), rfl, c, 0, 60, rfl, k⟩
    | true =>
      refine ⟨_, rfl, a, _, 0, _, rfl, rfl, .inl (.inl ha), rfl, rfl, false, by decide +kernel, iteF ?_⟩
      refine ⟨_, rfl, a, _, 0, _, rfl, rfl, .inl (.inl ha), rfl, rfl, true, by decide +kernel, iteT ?_⟩
      exact ⟨_, rfl, a, _, 1, _, rfl, rfl, .inl (.inl ha), rfl, c, 0, 4, rfl, k⟩
end
end Dc
set_option Elab.async false
set_option linter.all false
set_option maxRecDepth 100000
set_option maxHeartbeats 4000000
namespace Dc
open PySem PySem.Spec PyProof.Rows L2 DcG
section
variable {P : Program} {w : World} {K : PySem.W.Frag} {mg : Str → Option Value} {base : Heap} {T : TT}
/-! ### is_name -/
theorem isL_letters (c : Nat) : decide (c ∈ ("abcdefghijklmnopqrstuvwxyz" : Str).cps.toList) = isL c := by
  have e : ("abcdefghijklmnopqrstuvwxyz" : Str).cps.toList = List.range' 97 26 := by decide +kernel
  rw [e, Bool.eq_iff_iff, decide_eq_true_eq, List.mem_range'_1]
  unfold isL
  rw [Bool.and_eq_true, Nat.ble_eq, Nat.ble_eq]
  omega
theorem isD_digits (c : Nat) : decide (c ∈ ("0123456789" : Str).cps.toList) = isD c := by
  have e : ("0123456789" : Str).cps.toList = List.range' 48 10 := by decide +kernel
  rw [e, Bool.eq_iff_iff, decide_eq_true_eq, List.mem_range'_1]
  unfold isD
  rw [Bool.and_eq_true, Nat.ble_eq, Nat.ble_eq]
  omega
theorem in_strs (z : Str) (ys : List Str) : inV (.str z) (ys.map V.str) = decide (z ∈ ys) := by
  unfold inV
  induction ys with
  | nil => rfl
  | cons y ys ih =>
    rw [List.map_cons, List.any_cons, ih]
    have e : eqV (.str y) (.str z) = decide (z = y) := by
      show decide (y = z) = _
      by_cases h : y = z
      · rw [decide_eq_true h, decide_eq_true h.symm]
      · rw [decide_eq_false h, decide_eq_false (fun q => h q.symm)]
    rw [e]
    by_cases h : z = y
    · rw [decide_eq_true h, decide_eq_true (show z ∈ y :: ys from h ▸ List.mem_cons_self)]
      rfl
    · rw [decide_eq_false h, Bool.false_or]
      by_cases h2 : z ∈ ys
      · rw [decide_eq_true h2, decide_eq_true (List.mem_cons_of_mem _ h2)]
      · rw [decide_eq_false h2, decide_eq_false (fun q => (List.mem_cons.mp q).elim h h2)]
theorem flat_strs (ys : List Str) : (ys.map V.str).all flatV = true := by
  rw [List.all_eq_true]
  intro v hv
  obtain ⟨y, _, rfl⟩ := List.mem_map.mp hv
  rfl
def spIsName (T : TT) : Sp := fun vs H Q _ => ∃ z : Str, vs = [.str z] ∧ z.length ≤ sizeLine ∧ Tabs T H ∧ ∀ H', Up T [] H H' → Q (.bl (isName z)) H'
theorem scIsName : FnScope ["value", "letter"] ["value"] (defScope sIsName) := ⟨rfl, rfl, rfl, by decide +kernel, rfl, by decide +kernel, by decide +kernel⟩
theorem ok_isName {f c : Addr} {fd : FuncData} (F : FnP K "is_name" "is_name" sIsName f fd) (X : Txt K mg) (hc : fd.code = .ref c) (hB : PySem.W.CodeHd base c T.n) (BM : BMb base mg) (hA : T.n ≠ T.b) : FnOk P w K mg base CX0 4 f fd ["value"] (spIsName T) := by
  refine FunD_okC F scIsName (fun vs H Q E h => ?_) (fun cdv hcd A outer s H vs Q E hr h => ?_)
  · obtain ⟨z, rfl, _⟩ := h
    rfl
  · obtain ⟨z, rfl, hz, hT, k⟩ := h
    have ecd : cdv = .ref c := hcd.symm.trans hc
    obtain ⟨ta, htk, hTk⟩ := X.taken
    refine ⟨_, PSs.nox (pss_cons (ps_if (PW.pt (pw_or (pt_not (pt_val (p_isi X.isi (pv 0) (p_str X.str)))) (pw_or (pt_not (pt_chain op_le op_le pe_int (pe_callB call_len_str (by rfl) X.len b_len (pa_cons (pv 0) pa_nil)) (pgl X.mLet))) (pw_or1 (pt_cmpR op_in_seq (pv 0) (pgl htk) rfl))))) (pss_one (ps_ret pe_bl)) pss_nil)
      (pss_one (ps_ret (pe_allX (n := false) (k := 0) (own := [("letter", 1)]) scIsName.nd hr (by rfl) X.all b_all BM rfl (by decide +kernel) rfl (pi_str (pv 0)) (blkOk_by (N := ["value", "letter"]) (sc := defScope sIsName) (own := [("letter", 1)]) (by decide +kernel))
        (fun A' s H C cv fp => pg_name (i := 1) scIsName.nd rfl (Or.inl rfl)) (fun A' s H C cv fp hrA => pe_cmpR op_in_sign (pv 1) (pgl X.lets) rfl) (fun _ => rfl))))), ?_⟩
    refine ⟨_, rfl, _, _, _, _, true, rfl, .ty _, .base (.str _), kit_ty isi_ss, true, rfl, iteF ?_⟩
    refine ⟨_, rfl, z, rfl, hz, 1, (z.length : Int), rfl, rfl, _, rfl, ?_⟩
    have k0 : ∀ H', Up T [] H H' → Q (.bl (if (decide (1 ≤ (z.length : Int)) && decide ((z.length : Int) ≤ 8)) = true then (if z ∈ taken then false else z.cps.toList.all isL) else false)) H' := k
    by_cases h1 : (1 : Int) ≤ (z.length : Int)
    · rw [decide_eq_true h1, Bool.true_and] at k0
      rw [decide_eq_true h1]
      refine iteT ⟨(z.length : Int), 8, rfl, rfl, _, rfl, ?_⟩
      by_cases h2 : (z.length : Int) ≤ 8
      · rw [decide_eq_true h2, if_pos rfl] at k0
        rw [decide_eq_true h2]
        refine iteF ⟨_, rfl, ta, _, rfl, .inl (hTk H), rfl, rfl, inV (.str z) (taken.map V.str), rfl, ?_⟩
        rw [in_strs z taken]
        by_cases h3 : z ∈ taken
        · rw [if_pos h3] at k0
          rw [decide_eq_true h3]
          exact iteT (k0 H .refl)
        · rw [if_neg h3] at k0
          rw [decide_eq_false h3]
          refine iteF ⟨_, rfl, z, rfl, c, T.n, ecd, .inl hB, hT.1, fun H2 cv g => ?_⟩
          have u2 : Up T [] H H2 := .grown g hA (tab_isTbl (n := false) hT.1)
          refine all_str isL (fun H' => Up T [] H H') u2 (fun H' c' Kk hp hk => ?_) fun H' hp => k0 H' hp
          refine ⟨rfl, _, rfl, c', _, rfl, rfl, ?_⟩
          rw [isL_letters]
          exact hk H' hp
      · rw [decide_eq_false h2] at k0 ⊢
        exact iteT (k0 H .refl)
    · rw [decide_eq_false h1] at k0 ⊢
      exact iteF ⟨_, rfl, iteT (k0 H .refl)⟩
end
end Dc
set_option Elab.async false
set_option linter.all false
set_option maxRecDepth 100000
set_option maxHeartbeats 4000000
namespace Dc
open PySem PySem.Spec PyProof.Rows L2 DcG
section
variable {P : Program} {w : World} {K : PySem.W.Frag} {mg : Str → Option Value} {base : Heap} {T : TT}
/-! ### is_row -/
def spIsRow (T : TT) : Sp := fun vs H Q _ => ∃ (v : V) (r : Row), vs = [v] ∧ RowAt H v r ∧ r.name.length ≤ sizeLine ∧ Tabs T H ∧ ∀ H', Up T [] H H' → Q (.bl (isRow r)) H'
theorem scIsRow : FnScope ["value", "one"] ["value"] (defScope sIsRow) := ⟨rfl, rfl, rfl, by decide +kernel, rfl, by decide +kernel, by decide +kernel⟩
theorem ok_isRow {f c : Addr} {fd : FuncData} (F : FnP K "is_row" "is_row" sIsRow f fd) (X : Txt K mg) (hc : fd.code = .ref c) (hB : PySem.W.CodeHd base c T.r) (BM : BMb base mg) (hA : T.r ≠ T.b)
    (cT : CalD P w K mg base CX0 1 "is_tuple" ["value", "many"] spIsTuple) (cG : CalD P w K mg base CX0 2 "is_guard" ["value"] (spIsGuard T)) (cN : CalD P w K mg base CX0 4 "is_name" ["value"] (spIsName T)) (cM : CalD P w K mg base CX0 2 "is_move" ["value"] spIsMove) :
    FnOk P w K mg base CX0 6 f fd ["value"] (spIsRow T) := by
  refine FunD_okC F scIsRow (fun vs H Q E h => ?_) (fun cdv hcd A outer s H vs Q E hr h => ?_)
  · obtain ⟨v, r, rfl, _⟩ := h
    rfl
  · obtain ⟨v, r, rfl, ⟨a, g, m, gs, rfl, ha, hg, hgs, hm⟩, hz, hT, k⟩ := h
    have ecd : cdv = .ref c := hcd.symm.trans hc
    have hlen : gs.length = r.gs.length := Paired.length hgs
    have hr1 : Room 1 _ := hr.mono (by decide)
    have hr2 : Room 2 _ := hr.mono (by decide)
    have hr4 : Room 4 _ := hr.mono (by decide)
    refine ⟨_, PSs.nox (pss_cons (ps_if (PW.pt (pw_or (pt_not (pt_val (pcl cT hr1 pass0 (pa_cons (pv 0) (pa_cons pe_int pa_nil))))) (pw_or (pt_not (pt_val (p_isi X.isi (pe_ix ix_tup (pv 0) pe_int (fun _ _ => rfl)) (p_tuple X.tuple)))) (pw_or1 (pt_cmpR op_gt (pe_callB call_len_seq (by rfl) X.len b_len (pa_cons (pe_ix ix_tup (pv 0) pe_int (fun _ _ => rfl)) pa_nil)) (pgl X.mGuards) (nomark _)))))) (pss_one (ps_ret pe_bl)) pss_nil)
      (pss_cons (ps_if (PW.pt (pw_or (pt_not (pt_val (pe_allX (n := false) (k := 2) (own := [("one", 1)]) scIsRow.nd hr (by rfl) X.all b_all BM rfl (by decide +kernel) rfl (pi_tup (pe_ix ix_tup (pv 0) pe_int (fun _ _ => rfl))) (blkOk_by (N := ["value", "one"]) (sc := defScope sIsRow) (own := [("one", 1)]) (by decide +kernel))
          (fun A' s H C cv fp => pg_name (i := 1) scIsRow.nd rfl (Or.inl rfl)) (fun A' s H C cv fp hrA => pcl cG hrA pass0 (pa_cons (pv 1) pa_nil)) (fun _ => rfl)))) (pw_or1 (pt_cmpR op_notIn_seq (pe_ix ix_tup (pv 0) pe_int (fun _ _ => rfl)) (pe_lst (pa_cons pe_str (pa_cons pe_str pa_nil))) rfl)))) (pss_one (ps_ret pe_bl)) pss_nil)
      (pss_one (ps_ret (pe_and (pcl cN hr4 pass0 (pa_cons (pe_ix ix_tup (pv 0) pe_int (fun _ _ => rfl)) pa_nil)) (pe_one (pcl cM hr2 pass0 (pa_cons (pe_ix ix_tup (pv 0) pe_int (fun _ _ => rfl)) pa_nil)))))))), ?_⟩
    have k0 : ∀ H', Up T [] H H' → Q (.bl (if r.gs.length ≤ 3 then (if r.gs.all isG = true then (if r.kind ∈ (["call", "tail"] : List Str) then (isName r.name && isMv r.dn r.mv) else false) else false) else false)) H' := k
    refine ⟨_, rfl, a, _, 4, rfl, ha, true, rfl, iteF ?_⟩
    refine ⟨_, rfl, a, _, 0, _, rfl, rfl, .inl (.inl ha), rfl, _, _, _, _, true, rfl, .ty _, .base (.tup hg), kit_ty isi_tt, true, rfl, iteF ?_⟩
    refine ⟨_, rfl, a, _, 0, _, rfl, rfl, .inl (.inl ha), rfl, g, gs, rfl, .inr (.inl (.inl hg)), _, 3, rfl, rfl, _, rfl, ?_⟩
    by_cases h1 : r.gs.length ≤ 3
    · rw [decide_eq_false (show ¬ (3 : Int) < (gs.length : Int) by omega)]
      refine iteF ?_
      refine ⟨_, rfl, a, _, 0, _, rfl, rfl, .inl (.inl ha), rfl, g, rfl, ⟨gs, .inl (.inl hg)⟩, c, T.r, ecd, .inl hB, hT.2.1, fun H2 cv gr => ?_⟩
      have u2 : Up T [] H H2 := .grown gr hA (tab_isTbl (n := false) hT.2.1)
      refine all_tup gs r.gs isG (fun H' => GAt H') (fun H' => Up T [] H H') u2 (fun H' u => .inl (.inl (u.tup noTup0 hg))) (fun H' u => L2.Paired.mapP hgs fun _ _ z => z.up u noTup0) (fun H' v d Kk u _ _ hd hk => ?_) fun H' u => ?_
      · exact ⟨rfl, _, rfl, v, d, rfl, hd, fun H4 u4 => hk H4 (u.trans u4)⟩
      · refine ⟨_, rfl, ?_⟩
        cases h2 : r.gs.all isG with
        | false =>
          have k1 := k0 H' u
          rw [if_pos h1, h2] at k1
          exact iteT k1
        | true =>
          refine iteF ?_
          have ha' := u.tup noTup0 ha
          refine ⟨_, rfl, a, _, 1, _, rfl, rfl, .inl (.inl ha'), rfl, by show 2 ≤ sizeLine; decide, fun p hp => ?_⟩
          have u3 : Up T [] H (upd H' p (.lst [.str "call", .str "tail"])) := u.trans (.new hp)
          have ha3 := u3.tup noTup0 ha
          refine ⟨p, _, rfl, .inl (.inl (.inl upd_same)), rfl, rfl, !inV (.str r.kind) ((["call", "tail"] : List Str).map V.str), rfl, ?_⟩
          rw [in_strs]
          by_cases h3 : r.kind ∈ (["call", "tail"] : List Str)
          · rw [decide_eq_true h3]
            refine iteF ?_
            refine ⟨_, rfl, a, _, 2, _, rfl, rfl, .inl (.inl ha3), rfl, r.name, rfl, hz, u3.tabs hT, fun H4 u4 => ?_⟩
            have k1 := fun u => k0 H4 u
            rw [if_pos h1, h2, if_pos rfl, if_pos h3] at k1
            refine ⟨_, rfl, ?_⟩
            cases h4 : isName r.name with
            | false =>
              rw [h4] at k1
              exact iteF (k1 (u3.trans u4))
            | true =>
              rw [h4] at k1
              exact iteT ⟨_, rfl, a, _, 3, _, rfl, rfl, .inl (.inl ((u3.trans u4).tup noTup0 ha)), rfl, _, r.dn, r.mv, rfl, hm.up (u3.trans u4) noTup0, k1 (u3.trans u4)⟩
          · rw [decide_eq_false h3]
            have k1 := k0 _ u3
            rw [if_pos h1, h2, if_pos rfl, if_neg h3] at k1
            exact iteT k1
    · rw [decide_eq_true (show (3 : Int) < (gs.length : Int) by omega)]
      have k1 := k0 H .refl
      rw [if_neg h1] at k1
      exact iteT k1
end
end Dc
set_option Elab.async false
set_option linter.all false
set_option maxRecDepth 100000
set_option maxHeartbeats 4000000
namespace Dc
open PySem PySem.Spec PyProof.Rows L2 DcG
theorem iteTt {b : Bool} {A B : Prop} (hb : b = true) (h : A) : if b = true then A else B := by
  rw [if_pos hb]; exact h
theorem iteFf {b : Bool} {A B : Prop} (hb : b = false) (h : B) : if b = true then A else B := by
  rw [if_neg (by rw [hb]; decide)]; exact h
section
variable {P : Program} {w : World} {K : PySem.W.Frag} {mg : Str → Option Value} {base : Heap} {T : TT}
/-! ### is_function -/
def FnFits (f : Fn) : Prop := f.name.length ≤ sizeLine ∧ ∀ r ∈ f.rows, r.name.length ≤ sizeLine
def spIsFn (T : TT) : Sp := fun vs H Q _ => ∃ (v : V) (f : Fn), vs = [v] ∧ FnAt H v f ∧ FnFits f ∧ Tabs T H ∧ ∀ H', Up T [] H H' → Q (.bl (isFn f)) H'
theorem scIsFn : FnScope ["value", "one"] ["value"] (defScope sIsFunction) := ⟨rfl, rfl, rfl, by decide +kernel, rfl, by decide +kernel, by decide +kernel⟩
theorem ok_isFn {f c : Addr} {fd : FuncData} (F : FnP K "is_function" "is_function" sIsFunction f fd) (X : Txt K mg) (hc : fd.code = .ref c) (hB : PySem.W.CodeHd base c T.f) (BM : BMb base mg) (hA : T.f ≠ T.b)
    (cI : CalD P w K mg base CX0 1 "is_in" ["value", "least", "most"] spIsIn) (cT : CalD P w K mg base CX0 1 "is_tuple" ["value", "many"] spIsTuple) (cN : CalD P w K mg base CX0 4 "is_name" ["value"] (spIsName T)) (cR : CalD P w K mg base CX0 6 "is_row" ["value"] (spIsRow T)) :
    FnOk P w K mg base CX0 10 f fd ["value"] (spIsFn T) := by
  refine FunD_okC F scIsFn (fun vs H Q E h => ?_) (fun cdv hcd A outer s H vs Q E hr h => ?_)
  · obtain ⟨v, r, rfl, _⟩ := h
    rfl
  · obtain ⟨v, f, rfl, ⟨a, g, rs, rfl, ha, hg, hrs⟩, ⟨hz, hzr⟩, hT, k⟩ := h
    have ecd : cdv = .ref c := hcd.symm.trans hc
    have hlen : rs.length = f.rows.length := Paired.length hrs
    have hr1 : Room 1 _ := hr.mono (by decide)
    have hr4 : Room 4 _ := hr.mono (by decide)
    refine ⟨_, PSs.nox (pss_cons (ps_if (PW.pt (pw_or (pt_not (pt_val (pcl cT hr1 pass0 (pa_cons (pv 0) (pa_cons pe_int pa_nil))))) (pw_or (pt_not (pt_val (pcl cN hr4 pass0 (pa_cons (pe_ix ix_tup (pv 0) pe_int (fun _ _ => rfl)) pa_nil)))) (pw_or1 (pt_not (pt_val (pcl cI hr1 pass0 (pa_cons (pe_ix ix_tup (pv 0) pe_int (fun _ _ => rfl)) (pa_cons pe_int (pa_cons (pgl X.mSize) pa_nil))))))))))
          (pss_one (ps_ret pe_bl)) pss_nil)
      (pss_one (ps_ret (pe_and (p_isi X.isi (pe_ix ix_tup (pv 0) pe_int (fun _ _ => rfl)) (p_tuple X.tuple)) (pe_and (pe_cmp (pc_le (pe_callB call_len_seq (by rfl) X.len b_len (pa_cons (pe_ix ix_tup (pv 0) pe_int (fun _ _ => rfl)) pa_nil)) (pgl X.mRows)) rfl) (pe_one (pe_allX (n := false) (k := 6) (own := [("one", 1)]) scIsFn.nd hr (by rfl) X.all b_all BM rfl (by decide +kernel) rfl (pi_tup (pe_ix ix_tup (pv 0) pe_int (fun _ _ => rfl))) (blkOk_by (N := ["value", "one"]) (sc := defScope sIsFunction) (own := [("one", 1)]) (by decide +kernel))
          (fun A' s H C cv fp => pg_name (i := 1) scIsFn.nd rfl (Or.inl rfl)) (fun A' s H C cv fp hrA => pcl cR hrA pass0 (pa_cons (pv 1) pa_nil)) (fun _ => rfl)))))))), ?_⟩
    have k0 : ∀ H', Up T [] H H' → Q (.bl (if isName f.name = true then (if inR f.size 0 20 = true then (decide (f.rows.length ≤ 6) && f.rows.all isRow) else false) else false)) H' := k
    refine ⟨_, rfl, a, _, 3, rfl, ha, true, rfl, iteF ?_⟩
    refine ⟨_, rfl, a, _, 0, _, rfl, rfl, .inl (.inl ha), rfl, f.name, rfl, hz, hT, fun H1 u1 => ⟨_, rfl, ?_⟩⟩
    have ha1 := u1.tup noTup0 ha
    have hg1 := u1.tup noTup0 hg
    cases h1 : isName f.name with
    | false =>
      have k1 := k0 H1 u1
      rw [h1] at k1
      exact iteT k1
    | true =>
      refine iteF ⟨_, rfl, a, _, 1, _, rfl, rfl, .inl (.inl ha1), rfl, f.size, 0, 20, rfl, _, rfl, ?_⟩
      cases h2 : inR f.size 0 20 with
      | false =>
        have k1 := k0 H1 u1
        rw [h1, h2] at k1
        exact iteT k1
      | true =>
        refine iteF ?_
        refine ⟨_, rfl, a, _, 2, _, rfl, rfl, .inl (.inl ha1), rfl, _, _, _, _, true, rfl, .ty _, .base (.tup hg1), kit_ty isi_tt, true, rfl, iteT ?_⟩
        refine ⟨_, rfl, a, _, 2, _, rfl, rfl, .inl (.inl ha1), rfl, g, rs, rfl, .inr (.inl (.inl hg1)), _, 6, rfl, rfl, _, rfl, ?_⟩
        by_cases h3 : f.rows.length ≤ 6
        · refine iteTt (decide_eq_true (show (rs.length : Int) ≤ 6 by omega)) ?_
          refine ⟨_, rfl, a, _, 2, _, rfl, rfl, .inl (.inl ha1), rfl, g, rfl, ⟨rs, .inl (.inl hg1)⟩, c, T.f, ecd, .inl hB, (u1.tabs hT).2.2.1, fun H2 cv gr => ?_⟩
          have u2 : Up T [] H H2 := u1.trans (.grown gr hA (tab_isTbl (n := false) (u1.tabs hT).2.2.1))
          refine all_tup rs f.rows isRow (fun H' => RowAt H') (fun H' => Up T [] H H') u2 (fun H' u => .inl (.inl (u.tup noTup0 hg))) (fun H' u => L2.Paired.mapP hrs fun _ _ z => z.up u noTup0) (fun H' v d Kk u _ hd hR hk => ?_) fun H' u => ?_
          · exact ⟨rfl, _, rfl, v, d, rfl, hR, hzr d hd, u.tabs hT, fun H4 u4 => hk H4 (u.trans u4)⟩
          · have k1 := k0 H' u
            rw [h1, h2, decide_eq_true h3, Bool.true_and] at k1
            exact k1
        · have k1 := k0 H1 u1
          rw [h1, h2, decide_eq_false h3, Bool.false_and] at k1
          exact iteFf (decide_eq_false (show ¬ (rs.length : Int) ≤ 6 by omega)) k1

/-! ### the names of a book as a dict's keys -/
def nmStep (kvs : List (Key × V)) (n : Str) : List (Key × V) := putK kvs (Sum.inr n) (.bl true)
def nmD (ns : List Str) : List (Key × V) := ns.foldl nmStep []
theorem nm_some : ∀ (ns : List Str) (kvs : List (Key × V)) (x : Str), (valV (ns.foldl nmStep kvs) (Sum.inr x)).isSome = ((valV kvs (Sum.inr x)).isSome || decide (x ∈ ns))
  | [], kvs, x => by simp
  | n :: ns, kvs, x => by
    rw [List.foldl_cons, nm_some ns]
    unfold nmStep
    rw [valV_put]
    by_cases h : x = n
    · subst h
      simp
    · rw [if_neg (fun z => h (Sum.inr.inj z))]
      have e : decide (x ∈ n :: ns) = decide (x ∈ ns) := by
        by_cases q : x ∈ ns
        · rw [decide_eq_true q, decide_eq_true (List.mem_cons_of_mem _ q)]
        · rw [decide_eq_false q, decide_eq_false (fun z => (List.mem_cons.mp z).elim h q)]
      rw [e]
theorem nm_len : ∀ (ns : List Str) (kvs : List (Key × V)), (ns.foldl nmStep kvs).length ≤ kvs.length + ns.length ∧ ((ns.foldl nmStep kvs).length = kvs.length + ns.length ↔ ns.Nodup ∧ ∀ x ∈ ns, valV kvs (Sum.inr x) = none)
  | [], kvs => by simp
  | n :: ns, kvs => by
    have ih := nm_len ns (nmStep kvs n)
    rw [List.foldl_cons, List.length_cons, List.nodup_cons]
    cases h : valV kvs (Sum.inr n) with
    | none =>
      have e : nmStep kvs n = kvs ++ [(Sum.inr n, .bl true)] := putK_new _ h
      have el : (nmStep kvs n).length = kvs.length + 1 := by rw [e]; simp
      rw [el] at ih
      refine ⟨by omega, ?_⟩
      have e2 : (List.foldl nmStep (nmStep kvs n) ns).length = kvs.length + (ns.length + 1) ↔ (List.foldl nmStep (nmStep kvs n) ns).length = kvs.length + 1 + ns.length := by omega
      rw [e2, ih.2]
      have e3 : ∀ x, valV (nmStep kvs n) (Sum.inr x) = none ↔ x ≠ n ∧ valV kvs (Sum.inr x) = none := fun x => by
        unfold nmStep
        rw [valV_put]
        by_cases q : x = n
        · rw [if_pos (by rw [q])]
          simp [q]
        · rw [if_neg (fun z => q (Sum.inr.inj z))]
          simp [q]
      constructor
      · rintro ⟨h1, h2⟩
        refine ⟨⟨fun z => ((e3 n).mp (h2 n z)).1 rfl, h1⟩, fun x hx => ?_⟩
        rcases List.mem_cons.mp hx with rfl | hx
        · exact h
        · exact ((e3 x).mp (h2 x hx)).2
      · rintro ⟨⟨h0, h1⟩, h2⟩
        exact ⟨h1, fun x hx => (e3 x).mpr ⟨fun z => h0 (by rw [← z]; exact hx), h2 x (List.mem_cons_of_mem _ hx)⟩⟩
    | some v =>
      have el : (nmStep kvs n).length = kvs.length := by
        unfold nmStep putK
        rw [valV_any, h, if_pos (show (some v).isSome = true from rfl), List.length_map]
      rw [el] at ih
      refine ⟨by omega, ?_⟩
      constructor
      · intro q
        omega
      · rintro ⟨_, h2⟩
        have := h2 n List.mem_cons_self
        rw [h] at this
        cases this
theorem nmD_some (ns : List Str) (x : Str) : (valV (nmD ns) (Sum.inr x)).isSome = decide (x ∈ ns) := by
  unfold nmD
  rw [nm_some]
  simp [valV_nil]
theorem nmD_len (ns : List Str) : decide (((nmD ns).length : Int) = (ns.length : Int)) = decide ns.Nodup := by
  have h := (nm_len ns []).2
  have e : ((nmD ns).length : Int) = (ns.length : Int) ↔ ns.Nodup := by
    rw [Int.ofNat_inj]
    show (ns.foldl nmStep []).length = ns.length ↔ _
    rw [List.length_nil, Nat.zero_add] at h
    rw [h]
    exact ⟨fun z => z.1, fun z => ⟨z, fun _ _ => valV_nil⟩⟩
  by_cases q : ns.Nodup
  · rw [decide_eq_true q, decide_eq_true (e.mpr q)]
  · rw [decide_eq_false q, decide_eq_false (fun z => q (e.mp z))]
theorem nmD_take (ns : List Str) {i : Nat} {x : Str} (e : ns[i]? = some x) : nmD (ns.take (i + 1)) = putK (nmD (ns.take i)) (Sum.inr x) (.bl true) := by
  unfold nmD
  rw [List.take_add_one, e, List.foldl_append]
  rfl
end
end Dc
set_option Elab.async false
set_option linter.all false
set_option maxRecDepth 100000
set_option maxHeartbeats 4000000
namespace Dc
open PySem PySem.Spec PyProof.Rows L2 DcG
section
variable {P : Program} {w : World} {K : PySem.W.Frag} {mg : Str → Option Value} {base : Heap} {T : TT}
/-! ### is_book -/
def BookFits (fs : List Fn) : Prop := ∀ f ∈ fs, FnFits f
def spIsBook (T : TT) : Sp := fun vs H Q _ => ∃ (v : V) (fs : List Fn), vs = [v] ∧ BookAt H v fs ∧ BookFits fs ∧ Tabs T H ∧ ∀ H', Up T [] H H' → Q (.bl (isBook fs)) H'
theorem scIsBook : FnScope ["value", "names", "one", "name", "size", "rows", "row"] ["value"] (defScope sIsBook) := ⟨rfl, rfl, rfl, by decide +kernel, rfl, by decide +kernel, by decide +kernel⟩
def scB2 : Scope := { kind := .function, names := [(".0", .local), ("name", .local), ("size", .local), ("rows", .local), ("names", .free), ("all", .globalImplicit)], isGenerator := true, isCoroutine := false }
theorem yesI {σ : L2.St} {H : Hp} {Q : Bool → Hp → Prop} (h : Q true H) : tYes σ H Q := h
theorem names_take (fs : List Fn) (i : Nat) {f : Fn} (e : fs[i]? = some f) : (names fs)[i]? = some f.name := by
  unfold names
  rw [List.getElem?_map, e]
  rfl
theorem ok_isBook {f c : Addr} {fd : FuncData} (F : FnP K "is_book" "is_book" sIsBook f fd) (X : Txt K mg) (hc : fd.code = .ref c) (hB : PySem.W.CodeHd base c T.b) (BM : BMb base mg)
    (cF : CalD P w K mg base CX0 10 "is_function" ["value"] (spIsFn T)) : FnOk P w K mg base CX0 14 f fd ["value"] (spIsBook T) := by
  refine FunD_okC F scIsBook (fun vs H Q E h => ?_) (fun cdv hcd A outer s H vs Q E hr h => ?_)
  · obtain ⟨v, fs, rfl, _⟩ := h
    rfl
  · obtain ⟨v, fs, rfl, ⟨a, xs, rfl, ha, hfs⟩, hz, hT, k⟩ := h
    have ecd : cdv = .ref c := hcd.symm.trans hc
    have hlen : xs.length = fs.length := Paired.length hfs
    have hr6 : Room (3 + 3) _ := hr.mono (by decide)
    refine ⟨_, PSs.nox (pss_cons (ps_if (PW.pt (pw_or (pt_not (pt_val (p_isi X.isi (pv 0) (p_tuple X.tuple)))) (pw_or1 (pt_not (pt_chain op_le op_le pe_int (pe_callB call_len_seq (by rfl) X.len b_len (pa_cons (pv 0) pa_nil)) (pgl X.mFuns)))))) (pss_one (ps_ret pe_bl)) pss_nil)
      (pss_cons (ps_if (pt_not (pt_val (pe_allX (n := true) (k := 10) (own := [("one", 2)]) scIsBook.nd hr (by rfl) X.all b_all BM rfl (by decide +kernel) rfl (pi_tup (pv 0)) (blkOk_by (N := ["value", "names", "one", "name", "size", "rows", "row"]) (sc := defScope sIsBook) (own := [("one", 2)]) (by decide +kernel))
          (fun A' s H C cv fp => pg_name (i := 2) scIsBook.nd rfl (Or.inl rfl)) (fun A' s H C cv fp hrA => pcl cF hrA pass0 (pa_cons (pv 2) pa_nil)) (fun _ => rfl)))) (pss_one (ps_ret pe_bl)) pss_nil)
      (pss_cons (ps_set (i := 1) scIsBook.nd rfl (Or.inr rfl) (pe_dc (tk := tOp (rIxT K) (tVar 2) (tC (.int 0))) rfl scIsBook.nd (pi_tup (pv 0)) (blkOk_by (N := ["value", "names", "one", "name", "size", "rows", "row"]) (sc := defScope sIsBook) (own := [("one", 2)]) (by decide +kernel))
          (fun s H C cl fp => pg_name (i := 2) scIsBook.nd rfl (Or.inl rfl)) (fun s H C cl fp => pts_nil) (fun s H C cl fp => pe_ix ix_tup (pv 2) pe_int (fun _ _ => rfl)) (fun s H C cl fp => pe_bl)))
      (pss_one (ps_ret (pe_and (pe_cmp (pc_eqI (pe_callB call_lenD (by rfl) X.len b_len (pa_cons (pv 1) pa_nil)) (pe_callB call_len_seq (by rfl) X.len b_len (pa_cons (pv 0) pa_nil))) rfl)
        (pe_one (pe_allX (n := true) (k := 3) (g := gTup K 3 (gCons (gName 3) (gCons (gName 4) (gCons (gName 5) gNil)))) (te := fun cv => tAllX base cv false (iTup K (tVar 5)) (gName 6) (fun _ => tDIn (tOp (rIxT K) (tVar 6) (tC (.int 2))) (tVar 1)) [6]) (own := [("name", 3), ("size", 4), ("rows", 5)]) scIsBook.nd hr6 (by rfl) X.all b_all BM rfl (by decide +kernel) rfl (pi_tup (pv 0)) (blkOk_by (N := ["value", "names", "one", "name", "size", "rows", "row"]) (sc := defScope sIsBook) (own := [("name", 3), ("size", 4), ("rows", 5)]) (by decide +kernel))
          (fun A' s H C cv fp => pg_tup rfl (pgs_cons (pg_name (i := 3) scIsBook.nd rfl (Or.inl rfl)) (pgs_cons (pg_name (i := 4) scIsBook.nd rfl (Or.inl rfl)) (pgs_cons (pg_name (i := 5) scIsBook.nd rfl (Or.inl rfl)) pgs_nil))))
          (fun A' s H C cv fp hrA => pe_allX (n := false) (k := 0) (own := [("row", 6)]) scIsBook.nd hrA (by rfl) X.all b_all (by exact BM) rfl (by decide +kernel) rfl (pi_tup (pv 5)) (blkOk_by (N := ["value", "names", "one", "name", "size", "rows", "row"]) (sc := scB2) (own := [("row", 6)]) (by decide +kernel))
            (fun A' s H C cv fp => pg_name (i := 6) scIsBook.nd rfl (Or.inl rfl)) (fun A' s H C cv fp hrA => pe_cmp (pc_din (show A'.units + 1 < cLine by have := hrA.units; omega) (pe_ix ix_tup (pv 6) pe_int (fun _ _ => rfl)) (pv 1)) rfl) (fun _ => rfl)) (fun _ => rfl))))))))), ?_⟩
    have k0 : ∀ H', Up T [] H H' → Q (.bl (if (decide (1 ≤ fs.length) && decide (fs.length ≤ 4)) = true then (if fs.all isFn = true then (decide (names fs).Nodup && fs.all fun f => f.rows.all fun r => decide (r.name ∈ names fs)) else false) else false)) H' := k
    refine ⟨_, rfl, _, _, _, _, true, rfl, .ty _, .base (.tup ha), kit_ty isi_tt, true, rfl, iteF ?_⟩
    refine ⟨_, rfl, a, xs, rfl, .inr (.inl (.inl ha)), 1, (xs.length : Int), rfl, rfl, _, rfl, ?_⟩
    by_cases h1 : 1 ≤ fs.length
    · refine iteTt (decide_eq_true (show (1 : Int) ≤ (xs.length : Int) by omega)) ⟨(xs.length : Int), 4, rfl, rfl, _, rfl, ?_⟩
      by_cases h2 : fs.length ≤ 4
      · rw [decide_eq_true h1, decide_eq_true h2, Bool.true_and, if_pos rfl] at k0
        rw [decide_eq_true (show (xs.length : Int) ≤ 4 by omega)]
        refine iteF ?_
        refine ⟨_, rfl, a, rfl, ⟨xs, .inl (.inl ha)⟩, c, T.b, ecd, .inl hB, hT.2.2.2, fun H2 cv gr => ?_⟩
        have u2 : Up T [] H H2 := .grownB gr (tab_isTbl (n := true) hT.2.2.2)
        refine all_tup xs fs isFn (fun H' => FnAt H') (fun H' => Up T [] H H') u2 (fun H' u => .inl (.inl (u.tup noTup0 ha))) (fun H' u => L2.Paired.mapP hfs fun _ _ z => z.up u noTup0) (fun H' v d Kk u _ hd hR hk => ?_) fun H' u => ?_
        · exact ⟨rfl, _, rfl, v, d, rfl, hR, hz d hd, u.tabs hT, fun H4 u4 => hk H4 (u.trans u4)⟩
        · refine ⟨_, rfl, ?_⟩
          cases h3 : fs.all isFn with
          | false =>
            have k1 := k0 H' u
            rw [h3] at k1
            exact iteT k1
          | true =>
            refine iteF ?_
            have ha' := u.tup noTup0 ha
            refine ⟨_, rfl, a, rfl, ⟨xs, .inl (.inl ha')⟩, fun D hD => ?_⟩
            refine dc_tup (xs := xs) (fun i H3 => Up T [] H' H3 ∧ H3 D = some (.dK (nmD ((names fs).take i)))) ⟨.new hD, upd_same⟩ (fun i H3 _ p => .inl (.inl (p.1.tup noTup0 ha'))) (fun i x H3 e p => ?_) fun H3 p => ?_
            · obtain ⟨f, ef, hf⟩ := paired_get hfs e
              have hf' := hf.up (u.trans p.1) noTup0
              obtain ⟨b, gg, rs, rfl, hb, _, _⟩ := hf'
              refine ⟨rfl, ?_⟩
              have hln : (nmD ((names fs).take i)).length < sizeLine := by
                have q1 := (nm_len ((names fs).take i) []).1
                have q2 : ((names fs).take i).length ≤ 4 := by
                  rw [List.length_take]
                  unfold names
                  rw [List.length_map]
                  omega
                have q3 : (nmD ((names fs).take i)).length ≤ 0 + ((names fs).take i).length := q1
                have q4 : 4 < sizeLine := by decide
                omega
              refine yesI (iteT ⟨_, rfl, b, _, 0, _, rfl, rfl, .inl (.inl hb), rfl, _, .inr f.name, rfl, p.2, hln, ?_, ?_⟩)
              · exact p.1.drop (.put p.2 rfl List.mem_cons_self) hD
              · rw [upd_same, nmD_take (names fs) (names_take fs i ef)]
            · obtain ⟨u3, hD3⟩ := p
              have e3 : (names fs).take xs.length = names fs := List.take_of_length_le (by unfold names; rw [List.length_map]; omega)
              rw [e3] at hD3
              refine ⟨_, rfl, D, _, rfl, hD3, _, rfl, a, xs, rfl, .inr (.inl (.inl (u3.tup noTup0 ha'))), _, _, rfl, rfl, ?_⟩
              have u4 : Up T [] H H3 := u.trans u3
              have en : decide (((nmD (names fs)).length : Int) = (xs.length : Int)) = decide (names fs).Nodup := by
                have q := nmD_len (names fs)
                have q2 : (names fs).length = xs.length := by unfold names; rw [List.length_map, hlen]
                rw [q2] at q
                exact q
              by_cases h4 : (names fs).Nodup
              · rw [decide_eq_true h4] at en
                refine ⟨_, rfl, iteTt en ?_⟩
                have t4 := u4.tabs hT
                have ha4 := u4.tup noTup0 ha
                refine ⟨_, rfl, a, rfl, ⟨xs, .inl (.inl ha4)⟩, c, T.b, ecd, .inl hB, t4.2.2.2, fun H5 cv gr => ?_⟩
                obtain ⟨c', P', ecv, hP, hc5, ht5⟩ := gr.code rfl
                have u5 : Up T [] H3 H5 := .grownB gr (tab_isTbl (n := true) t4.2.2.2)
                refine all_tup xs fs (fun f => f.rows.all fun r => decide (r.name ∈ names fs)) (fun H' => FnAt H') (fun H' => Up T [] H3 H' ∧ H' c' = some (CodeK c' P') ∧ Tab0 H' P') ⟨u5, hc5, ht5⟩ (fun H' u => .inl (.inl ((u4.trans u.1).tup noTup0 ha))) (fun H' u => L2.Paired.mapP hfs fun _ _ z => z.up (u4.trans u.1) noTup0) (fun H6 v d Kk u6 _ hd hR hk => ?_) fun H6 u6 => ?_
                · obtain ⟨b, gg, rs, rfl, hb, hg, hrs⟩ := hR
                  obtain ⟨u6, hc6, ht6⟩ := u6
                  refine ⟨b, _, rfl, .inl (.inl hb), rfl, _, _, rfl, _, _, rfl, _, _, rfl, rfl, rfl, ?_⟩
                  refine ⟨_, rfl, gg, rfl, ⟨rs, .inl (.inl hg)⟩, c', P', ecv, .inr hc6, ht6, fun H7 cv7 gr7 => ?_⟩
                  have u7 : Up T [] H6 H7 := .grown gr7 hP (tab_isTbl (n := false) ht6)
                  have hcP : c' ≠ P' := fun z => by
                    have := tab_isTbl (n := false) ht6 _ (by rw [← z]; exact hc6)
                    cases this
                  have hD7 : H7 D = some (.dK (nmD (names fs))) := gr7.keep _ _ (fun z => by
                    have := tab_isTbl (n := false) ht6 _ (by rw [← z]; exact u6.keep _ _ (by simp) hD3 rfl)
                    cases this) (u6.keep _ _ (by simp) hD3 rfl)
                  have hc7 : H7 c' = some (CodeK c' P') := gr7.keep _ _ hcP hc6
                  have ht7 : Tab0 H7 P' := gr7.tab
                  refine all_tup rs d.rows (fun r => decide (r.name ∈ names fs)) (fun H' => RowAt H') (fun H' => H' = H7) rfl (fun H' u => ?_) (fun H' u => ?_) (fun H8 v8 r Kk8 u8 _ hr8 hR8 hk8 => ?_) fun H8 u8 => ?_
                  · subst u
                    exact .inl (.inl (u7.tup noTup0 hg))
                  · subst u
                    exact L2.Paired.mapP hrs fun _ _ z => z.up u7 noTup0
                  · subst u8
                    obtain ⟨b8, g8, m8, gs8, rfl, hb8, _⟩ := hR8
                    refine ⟨rfl, _, rfl, b8, _, 2, _, rfl, rfl, .inl (.inl hb8), rfl, _, rfl, D, valV (nmD (names fs)) (.inr r.name), rfl, .k (k := .inr r.name) hD7, ?_⟩
                    rw [nmD_some]
                    exact hk8 H8 rfl
                  · subst u8
                    exact hk H8 ⟨u6.trans u7, hc7, ht7⟩
                · have k1 := k0 H6 (u4.trans u6.1)
                  rw [h3, if_pos rfl, decide_eq_true h4, Bool.true_and] at k1
                  exact k1
              · rw [decide_eq_false h4] at en
                have k1 := k0 H3 u4
                rw [h3, if_pos rfl, decide_eq_false h4, Bool.false_and] at k1
                exact ⟨_, rfl, iteFf en k1⟩
      · rw [decide_eq_false h2, Bool.and_false] at k0
        rw [decide_eq_false (show ¬ (xs.length : Int) ≤ 4 by omega)]
        exact iteT (k0 H .refl)
    · rw [decide_eq_false h1] at k0
      exact iteFf (decide_eq_false (show ¬ (1 : Int) ≤ (xs.length : Int) by omega)) ⟨_, rfl, iteT (k0 H .refl)⟩
end
end Dc
set_option Elab.async false
set_option linter.all false
set_option maxRecDepth 100000
set_option maxHeartbeats 4000000
/-! plain laws: what pieces of a text say -/
namespace Dc
open PySem PySem.Spec PyProof.Rows L2 DcG
abbrev zl (z : Str) : List Nat := z.cps.toList
theorem zl_len (z : Str) : z.length = (zl z).length := by
  show z.cps.size = z.cps.toList.length
  simp
theorem cut_wrd (z : Str) (i j : Nat) : cutS z (some (i : Int)) (some (j : Int)) = wrd (zl z) i j := by
  unfold cutS wrd
  rw [HT.sIx_nat, HT.sIx_nat, zl_len]
  show (⟨((zl z).drop _ |>.take _).toArray⟩ : Str) = _
  generalize zl z = l
  congr 2
  by_cases h : i ≤ l.length
  · have e1 : min i l.length = i := Nat.min_eq_left h
    rw [e1]
    by_cases h2 : j ≤ l.length
    · rw [Nat.min_eq_left h2]
    · have e2 : min j l.length = l.length := Nat.min_eq_right (by omega)
      have e3 : (l.drop i).length = l.length - i := List.length_drop
      rw [e2, List.take_of_length_le (by omega), List.take_of_length_le (by omega)]
  · have e1 : min i l.length = l.length := Nat.min_eq_right (by omega)
    rw [e1, List.drop_of_length_le (Nat.le_refl _), List.drop_of_length_le (show l.length ≤ i by omega)]
    simp
theorem wrd1 (l : List Nat) (i : Nat) : wrd l i (i + 1) = match l[i]? with
    | some c => ⟨#[c]⟩
    | none => ⟨#[]⟩ := by
  unfold wrd
  rw [Nat.add_sub_cancel_left]
  cases e : l[i]? with
  | none => rw [List.drop_of_length_le (List.getElem?_eq_none_iff.mp e)]; rfl
  | some c => rw [drop_at e]; rfl
theorem str_ext {a b : Str} (h : a.cps.toList = b.cps.toList) : a = b := by
  obtain ⟨⟨a⟩⟩ := a
  obtain ⟨⟨b⟩⟩ := b
  cases h
  rfl
theorem str_iff {a b : Str} : a = b ↔ a.cps.toList = b.cps.toList := ⟨fun h => by rw [h], str_ext⟩
theorem dec_str (a b : Str) : decide (V.str a = V.str b) = decide (a.cps.toList = b.cps.toList) := by
  by_cases h : a = b
  · subst h
    simp
  · rw [decide_eq_false (fun z => h (V.str.inj z)), decide_eq_false (fun z => h (str_ext z))]
theorem sp_at (l : List Nat) (i : Nat) : decide (V.str (wrd l i (i + 1)) = V.str " ") = atB isS l i := by
  rw [dec_str, wrd1]
  unfold atB
  have e : (" " : Str).cps.toList = [32] := by decide +kernel
  rw [e]
  cases l[i]? with
  | none => rfl
  | some c =>
    show decide ([c] = [32]) = Nat.beq c 32
    rw [Bool.eq_iff_iff, decide_eq_true_eq, Nat.beq_eq]
    simp
theorem signsV_eq (z : Str) : signsV z = ((zl z).map fun c => (⟨#[c]⟩ : Str)).map V.str := by
  unfold signsV
  rw [List.map_map]
  rfl
theorem sign_mem (cs : List Nat) (l : List Nat) (i : Nat) : decide (wrd l i (i + 1) ∈ cs.map fun c => (⟨#[c]⟩ : Str)) = atB (fun c => decide (c ∈ cs)) l i := by
  rw [wrd1]
  unfold atB
  cases l[i]? with
  | none =>
    rw [decide_eq_false]
    intro z
    obtain ⟨c, _, e⟩ := List.mem_map.mp z
    have := congrArg (fun s : Str => s.cps.size) e
    cases this
  | some c =>
    show decide ((⟨#[c]⟩ : Str) ∈ _) = decide (c ∈ cs)
    rw [Bool.eq_iff_iff, decide_eq_true_eq, decide_eq_true_eq, List.mem_map]
    constructor
    · rintro ⟨d, hd, e⟩
      have e2 := congrArg (fun s : Str => s.cps.toList) e
      simp only [List.cons.injEq] at e2
      rw [← e2.1]
      exact hd
    · intro h
      exact ⟨c, h, rfl⟩
abbrev LETS : Str := "abcdefghijklmnopqrstuvwxyz"
abbrev DIGS : Str := "0123456789"
theorem let_at (l : List Nat) (i : Nat) : inV (.str (wrd l i (i + 1))) (signsV LETS ++ []) = atB isL l i := by
  rw [List.append_nil, signsV_eq, in_strs, sign_mem]
  exact congrArg (fun p => atB p l i) (funext isL_letters)
theorem dig_at (l : List Nat) (i : Nat) : inV (.str (wrd l i (i + 1))) (signsV DIGS ++ []) = atB isD l i := by
  rw [List.append_nil, signsV_eq, in_strs, sign_mem]
  exact congrArg (fun p => atB p l i) (funext isD_digits)
theorem ld_at (l : List Nat) (i : Nat) : inV (.str (wrd l i (i + 1))) (signsV LETS ++ (signsV DIGS ++ [])) = atB isLD l i := by
  have e : signsV LETS ++ (signsV DIGS ++ []) = ((zl LETS ++ zl DIGS).map fun c => (⟨#[c]⟩ : Str)).map V.str := by
    rw [List.append_nil, signsV_eq, signsV_eq, List.map_append, List.map_append]
  rw [e, in_strs, sign_mem]
  refine congrArg (fun p => atB p l i) (funext fun c => ?_)
  have h1 := isL_letters c
  have h2 := isD_digits c
  unfold isLD
  rw [← h1, ← h2]
  by_cases a : c ∈ zl LETS
  · rw [decide_eq_true a, decide_eq_true (List.mem_append.mpr (.inl a))]; rfl
  · rw [decide_eq_false a, Bool.false_or]
    by_cases b : c ∈ zl DIGS
    · rw [decide_eq_true b, decide_eq_true (List.mem_append.mpr (.inr b))]
    · rw [decide_eq_false b, decide_eq_false (fun z => (List.mem_append.mp z).elim a b)]
theorem look_at (s : Str) (l : List Nat) (i : Nat) : decide (V.str (wrd l i (i + s.length)) = V.str s) = hasAt (zl s) l i := by
  rw [dec_str]
  unfold hasAt wrd
  rw [Nat.add_sub_cancel_left, zl_len]
theorem atB_get {p : Nat → Bool} {l : List Nat} {i : Nat} (h : i < l.length) : ∃ c, l[i]? = some c ∧ atB p l i = p c :=
  ⟨l[i], List.getElem?_eq_getElem h, by unfold atB; rw [List.getElem?_eq_getElem h]⟩
theorem atB_ge {p : Nat → Bool} {l : List Nat} {i : Nat} (h : l.length ≤ i) : atB p l i = false := by
  unfold atB
  rw [List.getElem?_eq_none h]
/-- a text of one to six digits is a number -/
theorem takeWhile_all (p : Nat → Bool) (l : List Nat) : (l.takeWhile p).all p = true := by
  induction l with
  | nil => rfl
  | cons a l ih =>
    cases h : p a with
    | true => rw [List.takeWhile_cons_of_pos h, List.all_cons, h, ih]; rfl
    | false => rw [List.takeWhile_cons_of_neg (by simp [h])]; rfl
theorem wrd_run_list (p : Nat → Bool) (l : List Nat) (i : Nat) : (wrd l i (runE p l i)).cps.toList = (l.drop i).takeWhile p := by
  unfold wrd runE
  rw [Nat.add_sub_cancel_left]
  show (l.drop i).take _ = _
  have h := List.takeWhile_prefix p (l := l.drop i)
  obtain ⟨t, ht⟩ := h
  conv => lhs; rw [← ht]
  rw [List.take_left' (by rw [ht])]
theorem val_run {l : List Nat} {i : Nat} (h : atB isD l i = true) (h2 : (wrd l i (runE isD l i)).length ≤ 6) : intText? (wrd l i (runE isD l i)) = some (val (wrd l i (runE isD l i))) := by
  have e := wrd_run_list isD l i
  have ha := takeWhile_all isD (l.drop i)
  have q : intText? (wrd l i (runE isD l i)) = some _ := intText_digits (by
    intro c hc
    rw [e] at hc
    have := List.all_eq_true.mp ha c hc
    unfold isD at this
    rw [Bool.and_eq_true, Nat.ble_eq, Nat.ble_eq] at this
    exact this) (by
    rw [e]
    intro z
    have := runE_gt h
    unfold runE at this
    rw [z] at this
    simp at this) (by omega)
  unfold val
  rw [q]
  rfl
end Dc
set_option Elab.async false
set_option linter.all false
set_option maxRecDepth 100000
set_option maxHeartbeats 4000000
/-! Reading: shared rules -/
namespace Dc
open PySem PySem.Spec PyProof.Rows L2 DcG
theorem PE.of {X : Cx} {e : Expr} {t t' : TE} (h : PE X e t) (i : ∀ σ H Q, t' σ H Q → t σ H Q) : PE X e t' := ⟨fun pins s σ H Q I q => h.run pins s σ H Q I (i σ H Q q)⟩
theorem PT.of {X : Cx} {e : Expr} {t t' : L2.TT} (h : PT X e t) (i : ∀ σ H Q, t' σ H Q → t σ H Q) : PT X e t' := ⟨fun pins s σ H Q I q => h.run pins s σ H Q I (i σ H Q q)⟩
theorem PS.of {X : Cx} {e : Stmt} {t t' : TS} (h : PS X e t) (i : ∀ D σ H, t' D σ H → t D σ H) : PS X e t' := ⟨fun pins s σ H D I q => h.run pins s σ H D I (i D σ H q)⟩
/-- a reading that is monotone -/
def tW (te : TE) : TE := fun σ H Q => ∃ Q0 : VK, te σ H Q0 ∧ ∀ v H', Q0 v H' → Q v H'
theorem PE.up {X : Cx} {e : Expr} {t : TE} (h : PE X e t) : PE X e (tW t) := ⟨fun pins s σ H Q I ⟨Q0, q, m⟩ => thn (h.run pins s σ H Q0 I q) fun v s1 ⟨x, H1, I1, r1, q1⟩ => ⟨x, H1, I1, r1, m x H1 q1⟩⟩
section
variable {T : TT} {ex : List Addr} {H H1 H2 : Hp}
theorem Up.of_keep (h : ∀ b o, H b = some o → H1 b = some o) : Up T ex H H1 := ⟨fun b o _ e _ => h b o e, tabs_up fun b o e _ => h b o e⟩
theorem up_raised {a dx : Addr} {o1 o2 o3 o4 : HO} (ha : H a = none) (hd : H dx = none) : Up T ex H (upd (del (upd (upd (upd H a o1) dx o2) a o3) a) dx o4) := .of_keep fun b o e => by
  have h1 : b ≠ a := ne_of_none e ha
  have h2 : b ≠ dx := ne_of_none e hd
  rw [upd_ne h2, del_ne h1, upd_ne h1, upd_ne h2, upd_ne h1]
  exact e
end
/-! ### the error -/
def spItInit (C : Addr) : Sp := fun vs H Q _ => ∃ (a : Addr) (v : V), vs = [.ref a, v] ∧ H a = some (exo a C none) ∧ ∀ dx, H dx = none → dx ≠ a → Q .non (upd (upd H dx (exd dx [("place", v)])) a (exo a C (some dx)))
structure ItC (P : Program) (w : World) (K : PySem.W.Frag) (mg : Str → Option Value) (base : Heap) (C : Addr) : Prop where
  o : OexC K C
  x : XfC K C
  pl : PySem.W.findIn K (.ref C) "place" = some none
  mgI : mg "InvalidText" = some (.ref C)
  ini : ∃ (f : Addr) (fd : FuncData), PySem.W.findIn K (.ref C) "__init__" = some (some (.ref f)) ∧ PySem.W.typeIn K (.ref f) = some (.type "function") ∧ FnOk P w K mg base CX0 1 f fd ["self", "place"] (spItInit C) ∧ Binds K fd ["self", "place"] []
section
variable {P : Program} {w : World} {K : PySem.W.Frag} {mg : Str → Option Value} {base : Heap} {T : TT}
theorem scItInit : FnScope ["self", "place"] ["self", "place"] (defScope sItInit) := ⟨rfl, rfl, rfl, by decide +kernel, rfl, by decide +kernel, by decide +kernel⟩
theorem ok_itInit {C f : Addr} {fd : FuncData} (F : FnP K "__init__" "InvalidText.__init__" sItInit f fd) (O : OexC K C) (hp : PySem.W.findIn K (.ref C) "place" = some none) : FnOk P w K mg base CX0 1 f fd ["self", "place"] (spItInit C) := by
  refine F.ok scItInit (fun vs H Q E h => ?_) (fun cdv A outer s H vs Q E hr h => ?_)
  · obtain ⟨a, v, rfl, _⟩ := h
    rfl
  · obtain ⟨a, v, rfl, ha, k⟩ := h
    exact ⟨_, PSs.nox (pss_one (ps_ost (pv 0) (pv 1))), _, rfl, _, rfl, a, C, rfl, O, hp, .inl ⟨ha, fun dx h hne => k dx h hne⟩⟩
end
/-- raise InvalidText(e) -/
def tBad (T : TT) (C : Addr) (te : TE) (E : XK) : TS := fun _ σ H => te σ H fun v H1 => ∀ d H', Up T [] H1 H' → H' d = some (.xd [("place", v)]) → E (.ref C) (some d) H'
theorem ps_bad {X : Cx} {T : TT} {C : Addr} {E : XK} {e : Expr} {te : TE} {p pos pos2 : Pos} (I : ItC X.prog X.w X.K X.mg X.base C) (hr : Room 2 X.A) (hc : X.calm = true) (tk : Takes X (fun cls d _ H => E cls d H)) (he : PE X e te) (hg : Gl X "InvalidText" := by rfl)
    (hst : starEach [e] X.env = (false, eval e X.env) :: starEach [] X.env := by rfl) : PS X (.Raise (some (.Call (.Name "InvalidText" p) [e] [] pos)) none pos2) (tBad T C te E) := by
  obtain ⟨f, fd, iC, tI, F, hb⟩ := I.ini
  refine PS.of (ps_raise hc tk (pmk_oex (dvs := []) I.o iC tI F hr hb .nil pass0 hg I.mgI (pa_cons (PE.up he) pa_nil hst) (by decide) hst (by rfl))) fun D σ H h => ?_
  refine ⟨_, h, fun v H1 q => ?_⟩
  refine ⟨by show 1 ≤ 1000; decide, fun a ha => ⟨a, v, rfl, upd_same, fun dx hdx hne => ⟨rfl, dx, _, upd_same, ?_, ?_, q dx _ (up_raised ha ?_) upd_same⟩⟩⟩
  · rw [upd_ne hne, upd_same]
  · rw [upd_ne hne] at hdx; exact hdx
  · rw [upd_ne hne] at hdx; exact hdx

/-! ### Reading's fields -/
structure RdC (K : PySem.W.Frag) (C : Addr) : Prop where
  cls : Cls K C
  nt : NoAttr K C "text"
  na : NoAttr K C "at"
def RdAt (C p : Addr) (z : Str) (i : Nat) (H : Hp) : Prop := ∃ dx, H p = some (.ins C dx [("text", .str z), ("at", .int i)])
def tText (C : Addr) (i : Nat) : TE := fun σ H Q => ∃ p z n, σ[i]? = some (some (.ref p)) ∧ RdAt C p z n H ∧ Q (.str z) H
def tAt (C : Addr) (i : Nat) : TE := fun σ H Q => ∃ p z n, σ[i]? = some (some (.ref p)) ∧ RdAt C p z n H ∧ Q (.int (n : Nat)) H
/-- self.text[self.at:self.at + 1] -/
def tWin (C : Addr) (i : Nat) : TE := fun σ H Q => ∃ p z n, σ[i]? = some (some (.ref p)) ∧ RdAt C p z n H ∧ z.length ≤ sizeLine ∧ Q (.str (wrd (zl z) n (n + 1))) H
section
variable {X : Cx} {C : Addr} {i : Nat} {e e2 e3 : Expr} {pos p1 p2 p4 p5 p6 p7 p8 p9 : Pos} {p3 : Nat}
theorem pe_text (R : RdC X.K C) (he : PE X e (tVar i)) (hb : attributeBase e "text" X.env (eval e X.env) = eval e X.env := by rfl) : PE X (.Attribute e "text" pos) (tText C i) :=
  PE.of (pe_fld he hb) fun σ H Q ⟨p, z, n, e1, ⟨dx, hp⟩, q⟩ => ⟨_, e1, p, C, dx, _, _, rfl, hp, R.cls, R.nt, rfl, q⟩
theorem pe_at (R : RdC X.K C) (he : PE X e (tVar i)) (hb : attributeBase e "at" X.env (eval e X.env) = eval e X.env := by rfl) : PE X (.Attribute e "at" pos) (tAt C i) :=
  PE.of (pe_fld he hb) fun σ H Q ⟨p, z, n, e1, ⟨dx, hp⟩, q⟩ => ⟨_, e1, p, C, dx, _, _, rfl, hp, R.cls, R.na, rfl, q⟩
theorem rd_one {p : Addr} {z z' : Str} {n n' : Nat} {H : Hp} (a : RdAt C p z n H) (b : RdAt C p z' n' H) : z = z' ∧ n = n' := by
  obtain ⟨_, a⟩ := a
  obtain ⟨_, b⟩ := b
  rw [a] at b
  have b := Option.some.inj b
  injection b with _ _ b
  simp only [List.cons.injEq, Prod.mk.injEq, V.str.injEq, V.int.injEq, true_and, and_true] at b
  exact ⟨b.1, by omega⟩
theorem pe_win (R : RdC X.K C) (hx : PE X e (tText C i)) (ha : PE X e2 (tAt C i)) (hb : PE X e3 (tAt C i)) : PE X (.Subscript e (.Slice (some e2) (some (.BinOp e3 .Add (.Constant (.int 1) p3 p6) p4)) none p5) pos) (tWin C i) :=
  PE.of (pe_slice sl_str hx (po_some ha) (po_some (pe_op op_add hb pe_int))) fun σ H Q ⟨p, z, n, e1, r, hz, q⟩ => ⟨p, z, n, e1, r, p, z, n, e1, r, _, rfl, p, z, n, e1, r, n, 1, rfl, rfl, _, rfl, z, rfl, hz, by
    have e : cutS z (some ((n : Nat) : Int)) (some ((n : Nat) + 1 : Int)) = wrd (zl z) n (n + 1) := cut_wrd z n (n + 1)
    rw [e]
    exact q⟩
end
end Dc
set_option Elab.async false
set_option linter.all false
set_option maxRecDepth 100000
set_option maxHeartbeats 4000000
namespace Dc
open PySem PySem.Spec PyProof.Rows L2 DcG
/-! ### more rules -/
/-- self.m(..), self in slot i -/
def tSelf (C : Addr) (i : Nat) (sp : Sp) (E : XK) (t : TA) : TE := fun σ H Q => ∃ p z n, σ[i]? = some (some (.ref p)) ∧ RdAt C p z n H ∧ t σ H fun vs H2 => sp (.ref p :: (vs ++ [])) H2 Q E
/-- the answers of a step of the reading: what it gives, or the place of the fault -/
def Ans {α : Type} (T : TT) (C CI p : Addr) (z : Str) (H : Hp) (r : Except Nat (α × Nat)) (Qa : α → Hp → Prop) (E : XK) : Prop := match r with
  | .ok (a, j) => ∀ H', Up T [p] H H' → RdAt C p z j H' → Qa a H'
  | .error e => ∀ d H', Up T [p] H H' → H' d = some (.xd [("place", .int (e : Nat))]) → E (.ref CI) (some d) H'
section
variable {α : Type} {T : TT} {C CI p : Addr} {z : Str} {H H1 : Hp} {r : Except Nat (α × Nat)} {Qa : α → Hp → Prop} {E : XK}
theorem Ans.up (u : Up T [p] H H1) (k : Ans T C CI p z H r Qa E) : Ans T C CI p z H1 r Qa E := by
  unfold Ans at *
  split
  · rename_i a j
    exact fun H' u' h => k H' (u.trans u') h
  · rename_i e
    exact fun d H' u' h => k d H' (u.trans u') h
end
def tIsSp (C : Addr) (i : Nat) : L2.TT := fun σ H Q => ∃ p z n, σ[i]? = some (some (.ref p)) ∧ RdAt C p z n H ∧ z.length ≤ sizeLine ∧ Q (atB isS (zl z) n) H
def tIsIn (T : TT) (C : Addr) (i : Nat) (f : Nat → Bool) : L2.TT := fun σ H Q => ∃ p z n, σ[i]? = some (some (.ref p)) ∧ RdAt C p z n H ∧ z.length ≤ sizeLine ∧ ∀ H', Up T [] H H' → Q (atB f (zl z) n) H'
/-- self.at = e -/
def tSetAt (T : TT) (C : Addr) (i : Nat) (tv : TE) : TS := fun D σ H => tv σ H fun y H1 => ∃ p z n m, y = .int (m : Nat) ∧ σ[i]? = some (some (.ref p)) ∧ RdAt C p z n H1 ∧ ∀ H', Up T [p] H1 H' → RdAt C p z m H' → D.nx σ H'
theorem flat_signs (z : Str) : (signsV z).all flatV = true := by
  rw [signsV_eq]
  exact flat_strs _
theorem let_len : ∀ p : Str, p = LETS ∨ p = DIGS → p.length ≤ sizeLine := by
  rintro p (rfl | rfl) <;> decide +kernel
theorem signs_len (z : Str) : (signsV z).length = z.length := by
  unfold signsV
  rw [List.length_map, zl_len]
section
variable {X : Cx} {T : TT} {C : Addr} {i : Nat} {e e2 e3 o value : Expr} {es : List Expr} {pos p1 p2 p4 p5 p6 p7 p8 p9 : Pos} {p3 : Nat}
theorem pt_sp (h : PE X e (tWin C i)) : PT X (.Compare e [.Eq] [.Constant (.str " ") p3 p4] pos) (tIsSp C i) :=
  PT.of (pt_cmpR op_eq h pe_str (nomark _)) fun σ H Q ⟨p, z, n, e1, r, hz, q⟩ => ⟨p, z, n, e1, r, hz, rfl, _, rfl, by rw [sp_at]; exact q⟩
theorem pt_inD {f : Nat → Bool} {x : Str} {s : Str} (hc : X.calm = true) (h : PE X e (tWin C i)) (hs : PE X (.Name x p1) (tC (.str s))) (hl : s.length ≤ sizeLine) (hf : ∀ l n, inV (.str (wrd l n (n + 1))) (signsV s ++ []) = atB f l n)
    (hst : starEach [.Starred (.Name x p1) p2] X.env = (true, eval (.Name x p1) X.env) :: starEach [] X.env := by rfl) : PT X (.Compare e [.In] [.List [.Starred (.Name x p1) p2] p4] pos) (tIsIn T C i f) :=
  PT.of (pt_cmpR op_in_seq h (pe_lst (pa_starS hc hs pa_nil hst)) rfl) fun σ H Q ⟨p, z, n, e1, r, hz, q⟩ => ⟨p, z, n, e1, r, hz, s, rfl, hl, by
    show (signsV s ++ []).length ≤ sizeLine
    rw [List.append_nil, signs_len]; exact hl, fun q' hq => ⟨q', _, rfl, .inl (.inl (.inl upd_same)), rfl, by rw [List.append_nil]; exact flat_signs s, _, rfl, by
      show Q (inV (.str (wrd (zl z) n (n + 1))) (signsV s ++ [])) _
      rw [hf]
      exact q _ (.new hq)⟩⟩
theorem pt_let (K : Txt X.K X.mg) (hc : X.calm = true) (h : PE X e (tWin C i)) (hg : Gl X "LETTERS" := by rfl)
    (hst : starEach [.Starred (.Name "LETTERS" p1) p2] X.env = (true, eval (.Name "LETTERS" p1) X.env) :: starEach [] X.env := by rfl) : PT X (.Compare e [.In] [.List [.Starred (.Name "LETTERS" p1) p2] p4] pos) (tIsIn T C i isL) :=
  pt_inD hc h (pgl K.lets hg) (by decide +kernel) let_at hst
theorem pt_dig (K : Txt X.K X.mg) (hc : X.calm = true) (h : PE X e (tWin C i)) (hg : Gl X "DIGITS" := by rfl)
    (hst : starEach [.Starred (.Name "DIGITS" p1) p2] X.env = (true, eval (.Name "DIGITS" p1) X.env) :: starEach [] X.env := by rfl) : PT X (.Compare e [.In] [.List [.Starred (.Name "DIGITS" p1) p2] p4] pos) (tIsIn T C i isD) :=
  pt_inD hc h (pgl K.digs hg) (by decide +kernel) dig_at hst
theorem ps_setAt {tv : TE} (R : RdC X.K C) (ho : PE X o (tVar i)) (hv : PE X value tv) (hs : swapsWith value (some (.Attribute o "at" p1)) pos.line X.env = pure false := by rfl) : PS X (.Assign [.Attribute o "at" p1] value pos) (tSetAt T C i tv) :=
  PS.of (ps_fld ho (PE.up hv) hs) fun D σ H h => ⟨_, h, fun v H1 q => by
    obtain ⟨p, z, n, k, e0, e1, ⟨dx, hp⟩, q⟩ := q
    refine ⟨_, e1, p, C, dx, _, rfl, hp, R.cls, R.na, show 2 < 1000 by decide, q _ (.put hp rfl List.mem_cons_self) ⟨dx, ?_⟩⟩
    rw [upd_same, e0]
    rfl⟩
theorem pe_self {CX : CXT} {k : Nat} {m : Str} {ps : List Str} {sp : Sp} {E : XK} {t : TA} {apos : Pos} (R : RdC X.K C) (c : MetD X.prog X.w X.K X.mg X.base CX k C m ps sp) (hr : Room k X.A) (hx : Passes CX X E) (ho : PE X o (tVar i)) (ha : PA X (e :: es) t) (hm : ∀ v w : V, List.lookup m [("text", v), ("at", w)] = none)
    (he : starEach (e :: es) X.env = (false, eval e X.env) :: starEach es X.env := by rfl) (hpl : (backTo pos (starEach es X.env)).any (·.1) = false := by rfl) {pl : Sem Bool}
    (ht : eval (.Call (.Attribute o m apos) (e :: es) [] pos) X.env = (do
      let ov ← eval o X.env
      standAt apos.atName
      let (f, first) ← holding [ov] (getMethod ov m pl)
      callWith pos f first (backTo pos (starEach (e :: es) X.env)) (backToKw pos (keywordEach [] X.env))) := by rfl) : PE X (.Call (.Attribute o m apos) (e :: es) [] pos) (tSelf C i sp E t) :=
  PE.of (pmt c R.cls hr hx ho ha he hpl ht) fun σ H Q ⟨p, z, n, e1, ⟨dx, hp⟩, q⟩ => ⟨_, e1, p, dx, _, rfl, hp, hm _ _, q⟩
theorem pe_self0 {CX : CXT} {k : Nat} {m : Str} {ps : List Str} {sp : Sp} {E : XK} {apos : Pos} (R : RdC X.K C) (c : MetD X.prog X.w X.K X.mg X.base CX k C m ps sp) (hr : Room k X.A) (hx : Passes CX X E) (ho : PE X o (tVar i)) (hm : ∀ v w : V, List.lookup m [("text", v), ("at", w)] = none) {pl : Sem Bool}
    (ht : eval (.Call (.Attribute o m apos) [] [] pos) X.env = (do
      let ov ← eval o X.env
      standAt apos.atName
      let (f, first) ← holding [ov] (getMethod ov m pl)
      callWith pos f first (backTo pos (starEach [] X.env)) (backToKw pos (keywordEach [] X.env))) := by rfl) : PE X (.Call (.Attribute o m apos) [] [] pos) (tSelf C i sp E tNil) :=
  PE.of (pmt0 c R.cls hr hx ho ht) fun σ H Q ⟨p, z, n, e1, ⟨dx, hp⟩, q⟩ => ⟨_, e1, p, dx, _, rfl, hp, hm _ _, q⟩
end
section
variable {P : Program} {w : World} {K : PySem.W.Frag} {mg : Str → Option Value} {base : Heap} {T : TT} {C CI : Addr}
/-! ### skip -/
def spSkip (T : TT) (C : Addr) : Sp := fun vs H Q _ => ∃ p z n, vs = [.ref p] ∧ RdAt C p z n H ∧ z.length ≤ sizeLine ∧ ∀ H', Up T [p] H H' → RdAt C p z (skipE (zl z) n) H' → Q .non H'
theorem scSkip : FnScope ["self"] ["self"] (defScope sRSkip) := ⟨rfl, rfl, rfl, by decide +kernel, rfl, by decide +kernel, by decide +kernel⟩
theorem ok_skip {f : Addr} {fd : FuncData} (F : FnP K "skip" "Reading.skip" sRSkip f fd) (R : RdC K C) : FnOk P w K mg base CX0 1 f fd ["self"] (spSkip T C) := by
  refine F.ok scSkip (fun vs H Q E h => ?_) (fun cdv A outer s H vs Q E hr h => ?_)
  · obtain ⟨p, z, n, rfl, _⟩ := h
    rfl
  · obtain ⟨p, z, n, rfl, hp, hz, k⟩ := h
    refine ⟨_, PSs.nox (pss_one (ps_while PassesOwn.never (pt_sp (pe_win R (pe_text R (pv 0)) (pe_at R (pv 0)) (pe_at R (pv 0)))) (pss_one (ps_setAt (T := T) R (pv 0) (pe_op op_add (pe_at R (pv 0)) pe_int))))), ?_⟩
    refine ⟨fun m σ H' => σ = L2.start ["self"] [.ref p] ∧ Up T [p] H H' ∧ ∃ j, RdAt C p z j H' ∧ skipE (zl z) j = skipE (zl z) n ∧ m = (zl z).length - j, ⟨_, rfl, .refl, n, hp, rfl, rfl⟩, ?_⟩
    rintro m σ H1 ⟨rfl, u1, j, hp1, ej, rfl⟩
    refine ⟨p, z, j, rfl, hp1, hz, ?_⟩
    cases hs : atB isS (zl z) j with
    | true =>
      refine iteT ⟨fun σ' H' => σ' = L2.start ["self"] [.ref p] ∧ Up T [p] H H' ∧ RdAt C p z (j + 1) H', fun σ' H' ⟨e1, u, r⟩ => ⟨(zl z).length - (j + 1), ?_, e1, u, j + 1, r, ?_, rfl⟩, ?_⟩
      · have := atB_lt hs
        omega
      · rw [← ej]
        unfold skipE
        rw [runE_yes hs]
      · exact ⟨p, z, j, rfl, hp1, j, 1, rfl, rfl, p, z, j, j + 1, rfl, rfl, hp1, fun H' u r => ⟨rfl, u1.trans u, r⟩⟩
    | false =>
      refine iteF ?_
      have e1 : skipE (zl z) j = j := runE_no hs
      exact k H1 u1 (by rw [← ej, e1]; exact hp1)
end
end Dc
set_option Elab.async false
set_option linter.all false
set_option maxRecDepth 100000
set_option maxHeartbeats 4000000
namespace Dc
open PySem PySem.Spec PyProof.Rows L2 DcG
section
variable {P : Program} {w : World} {K : PySem.W.Frag} {mg : Str → Option Value} {base : Heap} {T : TT} {C CI : Addr}
/-! ### __init__ -/
def spRInit (T : TT) (C : Addr) : Sp := fun vs H Q _ => ∃ p dx z, vs = [.ref p, .str z] ∧ H p = some (.ins C dx []) ∧ z.length ≤ sizeLine ∧ ∀ H', Up T [p] H H' → RdAt C p z (skipE (zl z) 0) H' → Q .non H'
theorem scRInit : FnScope ["self", "text"] ["self", "text"] (defScope sRInit) := ⟨rfl, rfl, rfl, by decide +kernel, rfl, by decide +kernel, by decide +kernel⟩
theorem ok_rInit {f : Addr} {fd : FuncData} (F : FnP K "__init__" "Reading.__init__" sRInit f fd) (R : RdC K C) (cS : MetD P w K mg base CX0 1 C "skip" ["self"] (spSkip T C)) : FnOk P w K mg base CX0 2 f fd ["self", "text"] (spRInit T C) := by
  refine F.ok scRInit (fun vs H Q E h => ?_) (fun cdv A outer s H vs Q E hr h => ?_)
  · obtain ⟨p, dx, z, rfl, _⟩ := h
    rfl
  · obtain ⟨p, dx, z, rfl, hp, hz, k⟩ := h
    refine ⟨_, PSs.nox (pss_cons (ps_fld (pv 0) (pv 1) rfl) (pss_cons (ps_fld (pv 0) pe_int rfl) (pss_one (ps_expr (pe_self0 R cS hr pass0 (pv 0) (fun _ _ => rfl)))))), ?_⟩
    refine ⟨_, rfl, _, rfl, p, C, dx, _, rfl, hp, R.cls, R.nt, show 0 < 1000 by decide, ?_⟩
    refine ⟨_, rfl, p, C, dx, _, rfl, upd_same, R.cls, R.na, show 1 < 1000 by decide, ?_⟩
    have h1 : RdAt C p z 0 (upd (upd H p (.ins C dx (putF "text" (.str z) []))) p (.ins C dx (putF "at" (.int 0) (putF "text" (.str z) [])))) := ⟨dx, by rw [upd_same]; rfl⟩
    have u1 : Up T [p] H (upd (upd H p (.ins C dx (putF "text" (.str z) []))) p (.ins C dx (putF "at" (.int 0) (putF "text" (.str z) [])))) := .trans (.put hp rfl List.mem_cons_self) (.put upd_same rfl List.mem_cons_self)
    exact ⟨p, z, 0, rfl, h1, p, z, 0, rfl, h1, hz, fun H' u r => k H' (u1.trans u) r⟩
/-! ### look -/
def spLook (C : Addr) : Sp := fun vs H Q _ => ∃ p z n s, vs = [.ref p, .str s] ∧ RdAt C p z n H ∧ z.length ≤ sizeLine ∧ s.length ≤ sizeLine ∧ Q (.bl (hasAt (zl s) (zl z) n)) H
theorem scLook : FnScope ["self", "sign"] ["self", "sign"] (defScope sRLook) := ⟨rfl, rfl, rfl, by decide +kernel, rfl, by decide +kernel, by decide +kernel⟩
theorem ok_look {f : Addr} {fd : FuncData} (F : FnP K "look" "Reading.look" sRLook f fd) (X : Txt K mg) (R : RdC K C) : FnOk P w K mg base CX0 1 f fd ["self", "sign"] (spLook C) := by
  refine F.ok scLook (fun vs H Q E h => ?_) (fun cdv A outer s H vs Q E hr h => ?_)
  · obtain ⟨p, z, n, s, rfl, _⟩ := h
    rfl
  · obtain ⟨p, z, n, s, rfl, hp, hz, hs, k⟩ := h
    refine ⟨_, PSs.nox (pss_one (ps_ret (pe_cmpR op_eq (pe_slice sl_str (pe_text R (pv 0)) (po_some (pe_at R (pv 0))) (po_some (pe_op op_add (pe_at R (pv 0)) (pe_callB call_len_str (by rfl) X.len b_len (pa_cons (pv 1) pa_nil))))) (pv 1) (nomark _)))), ?_⟩
    refine ⟨p, z, n, rfl, hp, p, z, n, rfl, hp, _, rfl, p, z, n, rfl, hp, _, rfl, s, rfl, hs, n, s.length, rfl, rfl, _, rfl, z, rfl, hz, _, rfl, rfl, ?_⟩
    have e : cutS z (some ((n : Nat) : Int)) (some ((n : Nat) + (s.length : Nat) : Int)) = wrd (zl z) n (n + s.length) := cut_wrd z n (n + s.length)
    rw [e, look_at]
    exact k
/-! ### need -/
def spNeed (T : TT) (C CI : Addr) : Sp := fun vs H Q E => ∃ p z n s, vs = [.ref p, .str s] ∧ RdAt C p z n H ∧ z.length ≤ sizeLine ∧ s.length ≤ sizeLine ∧ Ans T C CI p z H ((signM (zl s) (zl z) n).map fun j => ((), j)) (fun _ H' => Q .non H') E
theorem scNeed : FnScope ["self", "sign"] ["self", "sign"] (defScope sRNeed) := ⟨rfl, rfl, rfl, by decide +kernel, rfl, by decide +kernel, by decide +kernel⟩
theorem ok_need {f : Addr} {fd : FuncData} (F : FnP K "need" "Reading.need" sRNeed f fd) (X : Txt K mg) (R : RdC K C) (I : ItC P w K mg base CI) (cS : MetD P w K mg base CX0 1 C "skip" ["self"] (spSkip T C)) (cL : MetD P w K mg base CX0 1 C "look" ["self", "sign"] (spLook C)) :
    FnOk P w K mg base (L2.CX P w) 3 f fd ["self", "sign"] (spNeed T C CI) := by
  refine F.ok scNeed (fun vs H Q E h => ?_) (fun cdv A outer s H vs Q E hr h => ?_)
  · obtain ⟨p, z, n, s, rfl, _⟩ := h
    rfl
  · obtain ⟨p, z, n, s, rfl, hp, hz, hs, k⟩ := h
    have hr1 : Room 1 _ := hr.mono (by decide)
    refine ⟨_, pss_cons (ps_if (pt_not (pt_val (pe_self R cL hr1 pass0 (pv 0) (pa_cons (pv 1) pa_nil) (fun _ _ => rfl)))) (pss_one (ps_bad (T := T) (E := E) I hr rfl (takes_of rfl rfl rfl rfl) (pe_at R (pv 0)))) pss_nil)
      (pss_cons (ps_setAt (T := T) R (pv 0) (pe_op op_add (pe_at R (pv 0)) (pe_callB call_len_str (by rfl) X.len b_len (pa_cons (pv 1) pa_nil))))
      (pss_one (ps_expr (pe_self0 R cS hr1 pass0 (pv 0) (fun _ _ => rfl))))), ?_⟩
    refine ⟨p, z, n, rfl, hp, _, rfl, p, z, n, s, rfl, hp, hz, hs, _, rfl, ?_⟩
    unfold signM at k
    cases h1 : hasAt (zl s) (zl z) n with
    | false =>
      rw [h1] at k
      exact iteT ⟨p, z, n, rfl, hp, fun d H' u hd => k d H' u.wide hd⟩
    | true =>
      rw [h1] at k
      refine iteF ⟨p, z, n, rfl, hp, _, rfl, s, rfl, hs, n, s.length, rfl, rfl, p, z, n, n + s.length, rfl, rfl, hp, fun H1 u1 r1 => ?_⟩
      refine ⟨p, z, n + s.length, rfl, r1, p, z, n + s.length, rfl, r1, hz, fun H2 u2 r2 => ?_⟩
      refine k H2 (u1.trans u2) ?_
      have e : s.length = (zl s).length := zl_len s
      rw [← e]
      exact r2
end
end Dc
set_option Elab.async false
set_option linter.all false
set_option maxRecDepth 100000
set_option maxHeartbeats 4000000
namespace Dc
open PySem PySem.Spec PyProof.Rows L2 DcG
section
variable {P : Program} {w : World} {K : PySem.W.Frag} {mg : Str → Option Value} {base : Heap} {T : TT} {C CI : Addr}
/-! ### row_of -/
def spRowOf (T : TT) (C CI : Addr) : Sp := fun vs H Q E => ∃ p z n s f, vs = [.ref p, .str s] ∧ RdAt C p z n H ∧ z.length ≤ sizeLine ∧ (∀ c, decide (c ∈ zl s) = f c) ∧ Ans T C CI p z H (rowOf f (zl z) n) (fun v H' => Q (.str v) H') E
theorem scRowOf : FnScope ["self", "signs", "end", "found"] ["self", "signs"] (defScope sRRowOf) := ⟨rfl, rfl, rfl, by decide +kernel, rfl, by decide +kernel, by decide +kernel⟩
theorem atI_nat {l : List Nat} {i c : Nat} (e : l[i]? = some c) : atI l (i : Int) = some c := by
  unfold atI ixN
  have h := (List.getElem?_eq_some_iff.mp e).1
  rw [if_pos (by omega), if_pos (by omega)]
  simpa using e
/-- end < len(self.text) and self.text[end] in signs -/
def tGo (C : Addr) : L2.TT := fun σ H Q => ∃ (p : Addr) (z : Str) (n : Nat) (s : Str) (g : Nat → Bool) (j : Nat), σ[0]? = some (some (.ref p)) ∧ σ[1]? = some (some (.str s)) ∧ σ[2]? = some (some (.int j)) ∧ RdAt C p z n H ∧ z.length ≤ sizeLine ∧ (∀ c, decide (c ∈ zl s) = g c) ∧ Q (atB g (zl z) j) H
theorem ok_rowOf {f : Addr} {fd : FuncData} (F : FnP K "row_of" "Reading.row_of" sRRowOf f fd) (X : Txt K mg) (R : RdC K C) (I : ItC P w K mg base CI) (cS : MetD P w K mg base CX0 1 C "skip" ["self"] (spSkip T C)) :
    FnOk P w K mg base (L2.CX P w) 3 f fd ["self", "signs"] (spRowOf T C CI) := by
  refine F.ok scRowOf (fun vs H Q E h => ?_) (fun cdv A outer s H vs Q E hr h => ?_)
  · obtain ⟨p, z, n, s, g, rfl, _⟩ := h
    rfl
  · obtain ⟨p, z, n, s, g, rfl, hp, hz, hg, k⟩ := h
    have hr1 : Room 1 _ := hr.mono (by decide)
    refine ⟨_, pss_cons (ps_set (i := 2) scRowOf.nd rfl (Or.inl rfl) (pe_at R (pv 0)))
      (pss_cons (ps_while (passes_of rfl) (PT.of (t' := tGo C) (PW.pt (pw_and (pt_cmpR op_lt (pv 2) (pe_callB call_len_str (by rfl) X.len b_len (pa_cons (pe_text R (pv 0)) pa_nil)) (nomark _)) (pw_and1 (pt_cmpR op_in_sign (pe_ix ix_str (pe_text R (pv 0)) (pv 2) (fun _ _ => rfl)) (pv 1) rfl)))) (fun σ H Q ⟨p, z, n, s, g, j, e1, e2, e3, hp, hz, hg, q⟩ => by
          refine ⟨_, e3, p, z, n, e1, hp, z, rfl, hz, j, z.length, rfl, rfl, _, rfl, ?_⟩
          have el : z.length = (zl z).length := zl_len z
          by_cases hlt : j < (zl z).length
          · obtain ⟨c, ec, eb⟩ := atB_get (p := g) hlt
            refine iteTt (decide_eq_true (by omega)) ⟨p, z, n, e1, hp, _, e3, z, j, c, rfl, rfl, hz, atI_nat ec, _, e2, c, s, rfl, rfl, _, rfl, ?_⟩
            have q1 := hg c
            rw [eb] at q
            show Q (decide (c ∈ zl s)) H
            rw [q1]
            exact q
          · rw [atB_ge (by omega)] at q
            exact iteFf (decide_eq_false (by omega)) q)) (pss_one (ps_set (i := 2) scRowOf.nd rfl (Or.inl rfl) (pe_op op_add (pv 2) pe_int))))
      (pss_cons (ps_asg (pe_tup (pa_cons (pe_slice sl_str (pe_text R (pv 0)) (po_some (pe_at R (pv 0))) (po_some (pv 2))) (pa_cons (pv 2) pa_nil))) (pg_tup rfl (pgs_cons (pg_name (i := 3) scRowOf.nd rfl (Or.inl rfl)) (pgs_cons (pg_fld (pv 0)) pgs_nil))))
      (pss_cons (ps_if (pt_cmpR op_in_seq (pe_slice sl_str (pe_text R (pv 0)) (po_some (pv 2)) (po_some (pe_op op_add (pv 2) pe_int))) (pe_lst (pa_starS rfl (pgl X.lets) (pa_starS rfl (pgl X.digs) pa_nil))) rfl) (pss_one (ps_bad (T := T) (E := E) I hr rfl (takes_of rfl rfl rfl rfl) (pv 2))) pss_nil)
      (pss_cons (ps_expr (pe_self0 R cS hr1 pass0 (pv 0) (fun _ _ => rfl)))
      (pss_one (ps_ret (pv 3))))))), ?_⟩
    refine ⟨p, z, n, rfl, hp, ?_⟩
    refine ⟨fun m σ H' => H' = H ∧ ∃ j : Nat, σ = [some (.ref p), some (.str s), some (.int j), none] ∧ runE g (zl z) j = runE g (zl z) n ∧ m = (zl z).length - j, ⟨_, rfl, n, rfl, rfl, rfl⟩, ?_⟩
    rintro m σ H1 ⟨rfl, j, rfl, ej, rfl⟩
    have el : z.length = (zl z).length := zl_len z
    refine ⟨p, z, n, s, g, j, rfl, rfl, rfl, hp, hz, hg, ?_⟩
    cases hb : atB g (zl z) j with
    | true =>
      have hlt := atB_lt hb
      refine iteT ⟨fun σ' H' => H' = H1 ∧ σ' = [some (.ref p), some (.str s), some (.int ((j + 1 : Nat) : Int)), none], fun σ' H' ⟨h1, h2⟩ => ⟨(zl z).length - (j + 1), by omega, h1, j + 1, h2, by rw [← ej, runE_yes hb], rfl⟩, ?_⟩
      exact ⟨_, rfl, j, 1, rfl, rfl, rfl, rfl⟩
    | false =>
      have e1 : runE g (zl z) n = j := by rw [← ej]; exact runE_no hb
      refine iteF ?_
      refine ⟨p, z, n, rfl, hp, p, z, n, rfl, hp, _, rfl, _, rfl, _, rfl, z, rfl, hz, _, rfl, by show 2 ≤ sizeLine; decide, fun q hq => ?_⟩
      obtain ⟨dx, hpd⟩ := hp
      have hqp : p ≠ q := ne_of_none hpd hq
      refine ⟨q, _, rfl, .inl (.inl upd_same), rfl, _, _, rfl, _, _, rfl, ⟨_, rfl, p, C, dx, [("text", .str z), ("at", .int n)], rfl, by rw [upd_ne hqp]; exact hpd, R.cls, R.na, show 2 < 1000 by decide, ?_⟩⟩
      generalize hH2 : upd (upd H1 q _) p _ = H2
      have u2 : Up T [p] H1 H2 := by
        rw [← hH2]
        exact .trans (.new hq) (.put (by rw [upd_ne hqp]; exact hpd) rfl List.mem_cons_self)
      have r2 : RdAt C p z j H2 := ⟨dx, by rw [← hH2, upd_same]; rfl⟩
      refine ⟨rfl, ?_⟩
      have ec : cutS z (some ((n : Nat) : Int)) (some ((j : Nat) : Int)) = wrd (zl z) n j := cut_wrd z n j
      have ec2 : cutS z (some ((j : Nat) : Int)) (some ((j : Nat) + 1 : Int)) = wrd (zl z) j (j + 1) := cut_wrd z j (j + 1)
      unfold rowOf at k
      rw [e1] at k
      refine ⟨p, z, j, rfl, r2, _, rfl, _, rfl, _, rfl, j, 1, rfl, rfl, _, rfl, z, rfl, hz, LETS, rfl, by decide +kernel, DIGS, rfl, by decide +kernel, by show (signsV LETS ++ (signsV DIGS ++ [])).length ≤ sizeLine; decide +kernel, fun q2 hq2 => ?_⟩
      refine ⟨q2, _, rfl, .inl (.inl (.inl upd_same)), rfl, ?_, _, rfl, ?_⟩
      · rw [List.append_nil, List.all_append, flat_signs, flat_signs]
        rfl
      have u3 : Up T [p] H1 (upd H2 q2 (.lst (signsV LETS ++ (signsV DIGS ++ [])))) := u2.trans (.new hq2)
      have r3 : RdAt C p z j (upd H2 q2 (.lst (signsV LETS ++ (signsV DIGS ++ [])))) := by
        obtain ⟨dx2, hp2⟩ := r2
        exact ⟨dx2, by rw [upd_ne (ne_of_none hp2 hq2)]; exact hp2⟩
      rw [ec2]
      show if inV (.str (wrd (zl z) j (j + 1))) (signsV LETS ++ (signsV DIGS ++ [])) = true then _ else _
      rw [ld_at]
      cases hld : atB isLD (zl z) j with
      | true =>
        rw [hld, if_pos rfl] at k
        exact iteT ⟨_, rfl, fun d H' u hd => k d H' (u3.trans u.wide) hd⟩
      | false =>
        rw [hld] at k
        refine iteF ⟨p, z, j, rfl, r3, p, z, j, rfl, r3, hz, fun H4 u4 r4 => ?_⟩
        refine ⟨_, rfl, ?_⟩
        rw [ec]
        exact k H4 (u3.trans u4) r4
end
end Dc
set_option Elab.async false
set_option linter.all false
set_option maxRecDepth 100000
set_option maxHeartbeats 4000000
namespace Dc
open PySem PySem.Spec PyProof.Rows L2 DcG
section
variable {P : Program} {w : World} {K : PySem.W.Frag} {mg : Str → Option Value} {base : Heap} {T : TT} {C CI : Addr}
/-! ### word -/
def spWord (T : TT) (C CI : Addr) : Sp := fun vs H Q E => ∃ p z n, vs = [.ref p] ∧ RdAt C p z n H ∧ z.length ≤ sizeLine ∧ Ans T C CI p z H (wordM (zl z) n) (fun v H' => Q (.str v) H') E
theorem scWord : FnScope ["self"] ["self"] (defScope sRWord) := ⟨rfl, rfl, rfl, by decide +kernel, rfl, by decide +kernel, by decide +kernel⟩
theorem RdAt.up {p : Addr} {z : Str} {n : Nat} {H H' : Hp} (h : RdAt C p z n H) (u : Up T [] H H') : RdAt C p z n H' := by
  obtain ⟨dx, e⟩ := h
  exact ⟨dx, u.keep _ _ (by simp) e rfl⟩
theorem ok_word {f : Addr} {fd : FuncData} (F : FnP K "word" "Reading.word" sRWord f fd) (X : Txt K mg) (R : RdC K C) (I : ItC P w K mg base CI) (cR : MetD P w K mg base (L2.CX P w) 3 C "row_of" ["self", "signs"] (spRowOf T C CI)) :
    FnOk P w K mg base (L2.CX P w) 4 f fd ["self"] (spWord T C CI) := by
  refine F.ok scWord (fun vs H Q E h => ?_) (fun cdv A outer s H vs Q E hr h => ?_)
  · obtain ⟨p, z, n, rfl, _⟩ := h
    rfl
  · obtain ⟨p, z, n, rfl, hp, hz, k⟩ := h
    have hr2 : Room 2 _ := hr.mono (by decide)
    refine ⟨_, pss_cons (ps_if (pt_not (pt_let (T := T) X rfl (pe_win R (pe_text R (pv 0)) (pe_at R (pv 0)) (pe_at R (pv 0))))) (pss_one (ps_bad (T := T) (E := E) I hr2 rfl (takes_of rfl rfl rfl rfl) (pe_at R (pv 0)))) pss_nil)
      (pss_one (ps_ret (pe_self (E := E) R cR hr (passes_call (takes_of rfl rfl rfl rfl) (fun _ _ _ _ h => h)) (pv 0) (pa_cons (pgl X.lets) pa_nil) (fun _ _ => rfl)))), ?_⟩
    refine ⟨p, z, n, rfl, hp, hz, fun H1 u1 => ?_⟩
    have r1 := hp.up u1
    unfold wordM at k
    cases h1 : atB isL (zl z) n with
    | false =>
      rw [h1] at k
      exact iteT ⟨p, z, n, rfl, r1, fun d H' u hd => k d H' (u1.wide.trans u.wide) hd⟩
    | true =>
      rw [h1, if_pos rfl] at k
      exact iteF ⟨p, z, n, rfl, r1, p, z, n, LETS, isL, rfl, r1, hz, isL_letters, k.up u1.wide⟩
/-! ### known -/
def spKnown (T : TT) (C CI : Addr) : Sp := fun vs H Q E => ∃ p z n a ws, vs = [.ref p, .ref a] ∧ RdAt C p z n H ∧ z.length ≤ sizeLine ∧ H a = some (.lst (ws.map V.str)) ∧ Ans T C CI p z H (knownM ws (zl z) n) (fun v H' => Q (.str v) H') E
theorem scKnown : FnScope ["self", "words", "begin", "found"] ["self", "words"] (defScope sRKnown) := ⟨rfl, rfl, rfl, by decide +kernel, rfl, by decide +kernel, by decide +kernel⟩
theorem RdAt.ne {p a : Addr} {z : Str} {n : Nat} {H : Hp} {xs : List V} (h : RdAt C p z n H) (e : H a = some (.lst xs)) : a ∉ [p] := fun q => by
  obtain ⟨dx, h⟩ := h
  rw [List.mem_singleton.mp q, h] at e
  cases e
theorem ok_known {f : Addr} {fd : FuncData} (F : FnP K "known" "Reading.known" sRKnown f fd) (X : Txt K mg) (R : RdC K C) (I : ItC P w K mg base CI) (cW : MetD P w K mg base (L2.CX P w) 4 C "word" ["self"] (spWord T C CI)) :
    FnOk P w K mg base (L2.CX P w) 5 f fd ["self", "words"] (spKnown T C CI) := by
  refine F.ok scKnown (fun vs H Q E h => ?_) (fun cdv A outer s H vs Q E hr h => ?_)
  · obtain ⟨p, z, n, a, ws, rfl, _⟩ := h
    rfl
  · obtain ⟨p, z, n, a, ws, rfl, hp, hz, ha, k⟩ := h
    have hr2 : Room 2 _ := hr.mono (by decide)
    refine ⟨_, pss_cons (ps_set (i := 2) scKnown.nd rfl (Or.inl rfl) (pe_at R (pv 0)))
      (pss_cons (ps_set (i := 3) scKnown.nd rfl (Or.inl rfl) (pe_self0 (E := E) R cW hr (passes_call (takes_of rfl rfl rfl rfl) (fun _ _ _ _ h => h)) (pv 0) (fun _ _ => rfl)))
      (pss_cons (ps_if (pt_cmpR op_notIn_seq (pv 3) (pv 1) rfl) (pss_one (ps_bad (T := T) (E := E) I hr2 rfl (takes_of rfl rfl rfl rfl) (pv 2))) pss_nil)
      (pss_one (ps_ret (pv 3))))), ?_⟩
    refine ⟨p, z, n, rfl, hp, p, z, n, rfl, hp, p, z, n, rfl, hp, hz, ?_⟩
    unfold knownM at k
    cases h1 : wordM (zl z) n with
    | error e =>
      rw [h1] at k
      exact k
    | ok wj =>
      obtain ⟨v, j⟩ := wj
      rw [h1] at k
      intro H1 u1 r1
      have ha1 : H1 a = some (.lst (ws.map V.str)) := u1.keep _ _ (hp.ne ha) ha rfl
      refine ⟨_, rfl, _, rfl, a, _, rfl, .inl (.inl (.inl ha1)), rfl, flat_strs ws, !inV (.str v) (ws.map V.str), rfl, ?_⟩
      rw [in_strs]
      dsimp only at k
      by_cases hm : v ∈ ws
      · rw [if_pos hm] at k
        rw [decide_eq_true hm]
        exact iteF ⟨_, rfl, k H1 u1 r1⟩
      · rw [if_neg hm] at k
        rw [decide_eq_false hm]
        exact iteT ⟨_, rfl, fun d H' u hd => k d H' (u1.trans u.wide) hd⟩
/-! ### number -/
def spNum (T : TT) (C CI : Addr) : Sp := fun vs H Q E => ∃ p z n, vs = [.ref p] ∧ RdAt C p z n H ∧ z.length ≤ sizeLine ∧ Ans T C CI p z H (numM (zl z) n) (fun v H' => Q (.int v) H') E
theorem scNum : FnScope ["self", "begin", "found"] ["self"] (defScope sRNumber) := ⟨rfl, rfl, rfl, by decide +kernel, rfl, by decide +kernel, by decide +kernel⟩
theorem b_int : bootBuiltins "int" = some (.type "int") := by decide +kernel
theorem zero_at (v : Str) {c : Nat} (e : v.cps.toList[0]? = some c) : decide (V.str ⟨#[c]⟩ = V.str "0") = decide (v.cps.toList[0]? = some 48) := by
  have q : ("0" : Str).cps.toList = [48] := by decide +kernel
  rw [dec_str, e, q]
  show decide ([c] = [48]) = decide (some c = some 48)
  simp
/-- len(v) > 1 and v[0] == "0" or len(v) > 6 -/
def tBadNum (i : Nat) : L2.TT := fun σ H Q => ∃ v : Str, σ[i]? = some (some (.str v)) ∧ 1 ≤ v.length ∧ v.length ≤ sizeLine ∧ Q (badNum v) H
theorem ok_num {f : Addr} {fd : FuncData} (F : FnP K "number" "Reading.number" sRNumber f fd) (X : Txt K mg) (R : RdC K C) (I : ItC P w K mg base CI) (cR : MetD P w K mg base (L2.CX P w) 3 C "row_of" ["self", "signs"] (spRowOf T C CI)) :
    FnOk P w K mg base (L2.CX P w) 4 f fd ["self"] (spNum T C CI) := by
  refine F.ok scNum (fun vs H Q E h => ?_) (fun cdv A outer s H vs Q E hr h => ?_)
  · obtain ⟨p, z, n, rfl, _⟩ := h
    rfl
  · obtain ⟨p, z, n, rfl, hp, hz, k⟩ := h
    have hr2 : Room 2 _ := hr.mono (by decide)
    refine ⟨_, pss_cons (ps_set (i := 1) scNum.nd rfl (Or.inl rfl) (pe_at R (pv 0)))
      (pss_cons (ps_if (pt_not (pt_dig (T := T) X rfl (pe_win R (pe_text R (pv 0)) (pe_at R (pv 0)) (pe_at R (pv 0))))) (pss_one (ps_bad (T := T) (E := E) I hr2 rfl (takes_of rfl rfl rfl rfl) (pe_at R (pv 0)))) pss_nil)
      (pss_cons (ps_set (i := 2) scNum.nd rfl (Or.inl rfl) (pe_self (E := E) R cR hr (passes_call (takes_of rfl rfl rfl rfl) (fun _ _ _ _ h => h)) (pv 0) (pa_cons (pgl X.digs) pa_nil) (fun _ _ => rfl)))
      (pss_cons (ps_if (PT.of (t' := tBadNum 2) (PW.pt (pw_or (PW.pt (pw_and (pt_cmpR op_gt (pe_callB call_len_str (by rfl) X.len b_len (pa_cons (pv 2) pa_nil)) pe_int (nomark _)) (pw_and1 (pt_cmpR op_eq (pe_ix ix_str (pv 2) pe_int (fun _ _ => rfl)) pe_str (nomark _))))) (pw_or1 (pt_cmpR op_gt (pe_callB call_len_str (by rfl) X.len b_len (pa_cons (pv 2) pa_nil)) pe_int (nomark _))))) fun σ H Q ⟨v, e1, h1, h2, q⟩ => by
          obtain ⟨c, hc⟩ : ∃ c, v.cps.toList[0]? = some c := ⟨_, List.getElem?_eq_getElem (show 0 < (zl v).length by rw [← zl_len]; omega)⟩
          refine ⟨_, e1, v, rfl, h2, (v.length : Int), 1, rfl, rfl, _, rfl, ?_⟩
          unfold badNum at q
          have last : ∀ Q' : Bool → Hp → Prop, Q' (decide (6 < v.length)) H → (tTest (tOp (rI0 fun i j => .bl (decide (j < i))) (tCB (fun xs H Q => ∃ z, xs = [.str z] ∧ z.length ≤ sizeLine ∧ Q (.int z.length) H) (tCons (tVar 2) tNil)) (tC (.int 6)))) σ H Q' := fun Q' q' => ⟨_, e1, v, rfl, h2, (v.length : Int), 6, rfl, rfl, _, rfl, by
            have e : decide ((6 : Int) < (v.length : Int)) = decide (6 < v.length) := by
              by_cases h : 6 < v.length
              · rw [decide_eq_true h, decide_eq_true (by omega)]
              · rw [decide_eq_false h, decide_eq_false (by omega)]
            rw [e]
            exact q'⟩
          by_cases h3 : 1 < v.length
          · refine iteTt (decide_eq_true (by omega)) ⟨_, e1, v, 0, c, rfl, rfl, h2, atI_nat (i := 0) hc, rfl, _, rfl, ?_⟩
            rw [decide_eq_true h3, Bool.true_and] at q
            rw [zero_at v hc]
            by_cases h4 : v.cps.toList[0]? = some 48
            · rw [decide_eq_true h4, Bool.true_or] at q
              rw [decide_eq_true h4]
              exact iteT q
            · rw [decide_eq_false h4, Bool.false_or] at q
              rw [decide_eq_false h4]
              exact iteF (last _ q)
          · rw [decide_eq_false h3, Bool.false_and, Bool.false_or] at q
            exact iteFf (decide_eq_false (by omega)) (iteF (last _ q)))
        (pss_one (ps_bad (T := T) (E := E) I hr2 rfl (takes_of rfl rfl rfl rfl) (pv 1))) pss_nil)
      (pss_one (ps_ret (pe_callTy call_int_str (by rfl) X.int b_int (pa_cons (pv 2) pa_nil))))))), ?_⟩
    refine ⟨p, z, n, rfl, hp, p, z, n, rfl, hp, hz, fun H1 u1 => ?_⟩
    have r1 := hp.up u1
    unfold numM at k
    cases h1 : atB isD (zl z) n with
    | false =>
      rw [h1] at k
      exact iteT ⟨p, z, n, rfl, r1, fun d H' u hd => k d H' (u1.wide.trans u.wide) hd⟩
    | true =>
      rw [h1, if_pos rfl] at k
      refine iteF ⟨p, z, n, rfl, r1, p, z, n, DIGS, isD, rfl, r1, hz, isD_digits, ?_⟩
      have hnl : n ≤ (zl z).length := Nat.le_of_lt (atB_lt h1)
      cases h2 : rowOf isD (zl z) n with
      | error e =>
        rw [h2] at k
        exact k.up u1.wide
      | ok wj =>
        obtain ⟨v, j⟩ := wj
        rw [h2] at k
        obtain ⟨hj1, hj2, hv⟩ := rowOf_ok hnl h2
        intro H2 u2 r2
        dsimp only at k
        have hvl : v.length ≤ sizeLine := by
          rw [hv, wrd_len (runE_le hnl)]
          have := runE_le (p := isD) hnl
          have q := zl_len z
          omega
        have hgt := runE_gt h1
        have hvn : 1 ≤ v.length := by
          rw [hv, wrd_len (runE_le hnl)]
          omega
        refine ⟨v, rfl, hvn, hvl, ?_⟩
        cases hb : badNum v with
        | true =>
          rw [hb, if_pos rfl] at k
          exact iteT ⟨_, rfl, fun d H' u hd => k d H' ((u1.wide.trans u2).trans u.wide) hd⟩
        | false =>
          rw [hb] at k
          have h6 : v.length ≤ 6 := by
            unfold badNum at hb
            rw [Bool.or_eq_false_iff] at hb
            have := of_decide_eq_false hb.2
            omega
          refine iteF ⟨_, rfl, v, val v, rfl, ?_, by omega, k H2 (u1.wide.trans u2) r2⟩
          rw [hv] at h6 ⊢
          exact val_run h1 h6
end
end Dc
set_option Elab.async false
set_option linter.all false
set_option maxRecDepth 100000
set_option maxHeartbeats 4000000
namespace Dc
open PySem PySem.Spec PyProof.Rows L2 DcG
/-- xs.append(e), xs in slot i -/
def tApp (i : Nat) (te : TE) : TS := fun D σ H => ∃ (a : Addr) (xs : List V), σ[i]? = some (some (.ref a)) ∧ H a = some (.lst xs) ∧ te σ H fun v H1 => ∃ ys, H1 a = some (.lst ys) ∧ ys.length < sizeLine ∧ D.nx σ (upd H1 a (.lst (ys ++ [v])))
section
variable {X : Cx} {i : Nat} {o e : Expr} {te : TE} {apos cpos pos : Pos}
theorem ps_app (ho : PE X o (tVar i)) (he : PE X e te) (hbase : attributeBase o "append" X.env (eval o X.env) = eval o X.env := by rfl)
    (hfew : ((backTo cpos (starEach [e] X.env)).all (fun x => !x.1) && (backToKw cpos (keywordEach [] X.env)).all (fun x => x.1.isSome)
      && decide (([e] : List Expr).length + ([] : List Keyword).length + (if ([] : List Keyword).isEmpty then 0 else 1) < 30)) = true := by rfl)
    (hline : (apos.endLine == cpos.line) = true := by rfl) (hs : starEach [e] X.env = (false, eval e X.env) :: starEach [] X.env := by rfl) (hplain : (backTo cpos (starEach [] X.env)).any (·.1) = false := by rfl)
    (hsw : swapsWith (.Call (.Attribute o "append" apos) [e] [] cpos) none pos.line X.env = pure false := by rfl) : PS X (.Expr (.Call (.Attribute o "append" apos) [e] [] cpos) pos) (tApp i te) :=
  PS.of (ps_expr (pe_bm PySem.F.plainAttrs_list PySem.F.slot_list_append PySem.F.type_list_append mt_append ho (pa_cons (PE.up he) pa_nil hs) hbase hfew hline hs hplain) hsw) fun D σ H ⟨a, xs, e1, ha, h⟩ =>
    ⟨_, e1, .inl ⟨rfl, _, .inl (.inl ha)⟩, _, h, fun v H1 ⟨ys, h1, h2, q⟩ => ⟨a, ys, v, rfl, rfl, h1, h2, q⟩⟩
end
section
variable {P : Program} {w : World} {K : PySem.W.Frag} {mg : Str → Option Value} {base : Heap} {T : TT} {C CI : Addr}
theorem need_ok {p : Addr} {z : Str} {n : Nat} {s : Str} {H : Hp} {Q : Hp → Prop} {E : XK} (h : hasAt (zl s) (zl z) n = true) (k : ∀ H', Up T [p] H H' → RdAt C p z (skipE (zl z) (n + s.length)) H' → Q H') :
    Ans T C CI p z H ((signM (zl s) (zl z) n).map fun j => ((), j)) (fun _ H' => Q H') E := by
  unfold signM
  rw [h, if_pos rfl]
  intro H' u r
  refine k H' u ?_
  rw [zl_len]
  exact r
/-! ### guard -/
def spGuard (T : TT) (C CI : Addr) : Sp := fun vs H Q E => ∃ p z n, vs = [.ref p] ∧ RdAt C p z n H ∧ z.length ≤ sizeLine ∧ Ans T C CI p z H (guardM (zl z) n) (fun g H' => ∀ v, GAt H' v g → Q v H') E
theorem scGuard : FnScope ["self", "divisor"] ["self"] (defScope sRGuard) := ⟨rfl, rfl, rfl, by decide +kernel, rfl, by decide +kernel, by decide +kernel⟩
theorem zl_lt : zl "<" = [60] := by decide +kernel
theorem zl_gt : zl ">" = [62] := by decide +kernel
theorem zl_ge : zl ">=" = [62, 61] := by decide +kernel
theorem zl_eq : zl "=" = [61] := by decide +kernel
theorem ok_guard {f : Addr} {fd : FuncData} (F : FnP K "guard" "Reading.guard" sRGuard f fd) (X : Txt K mg) (R : RdC K C) (I : ItC P w K mg base CI)
    (cK : MetD P w K mg base (L2.CX P w) 5 C "known" ["self", "words"] (spKnown T C CI)) (cN : MetD P w K mg base (L2.CX P w) 4 C "number" ["self"] (spNum T C CI)) (cL : MetD P w K mg base CX0 1 C "look" ["self", "sign"] (spLook C)) (cD : MetD P w K mg base (L2.CX P w) 3 C "need" ["self", "sign"] (spNeed T C CI)) :
    FnOk P w K mg base (L2.CX P w) 6 f fd ["self"] (spGuard T C CI) := by
  refine F.ok scGuard (fun vs H Q E h => ?_) (fun cdv A outer s H vs Q E hr h => ?_)
  · obtain ⟨p, z, n, rfl, _⟩ := h
    rfl
  · obtain ⟨p, z, n, rfl, hp, hz, k⟩ := h
    have hr1 : Room 1 _ := hr.mono (by decide)
    have hr2 : Room 2 _ := hr.mono (by decide)
    have hr3 : Room 3 _ := hr.mono (by decide)
    have hr4 : Room 4 _ := hr.mono (by decide)
    refine ⟨_, pss_cons (ps_expr (pe_self (E := E) R cK hr (passes_call (takes_of rfl rfl rfl rfl) (fun _ _ _ _ h => h)) (pv 0) (pa_cons (pe_lst (pa_cons pe_str pa_nil)) pa_nil) (fun _ _ => rfl)))
      (pss_cons (ps_if (pt_val (pe_self R cL hr1 pass0 (pv 0) (pa_cons pe_str pa_nil) (fun _ _ => rfl)))
        (pss_cons (ps_expr (pe_self (E := E) R cD hr3 (passes_call (takes_of rfl rfl rfl rfl) (fun _ _ _ _ h => h)) (pv 0) (pa_cons pe_str pa_nil) (fun _ _ => rfl)))
        (pss_one (ps_ret (pe_tup (pa_cons pe_str (pa_cons (pe_self0 (E := E) R cN hr4 (passes_call (takes_of rfl rfl rfl rfl) (fun _ _ _ _ h => h)) (pv 0) (fun _ _ => rfl)) pa_nil)))))) pss_nil)
      (pss_cons (ps_if (pt_val (pe_self R cL hr1 pass0 (pv 0) (pa_cons pe_str pa_nil) (fun _ _ => rfl)))
        (pss_cons (ps_if (pt_not (pt_val (pe_self R cL hr1 pass0 (pv 0) (pa_cons pe_str pa_nil) (fun _ _ => rfl)))) (pss_one (ps_bad (T := T) (E := E) I hr2 rfl (takes_of rfl rfl rfl rfl) (pe_op op_add (pe_at R (pv 0)) pe_int))) pss_nil)
        (pss_cons (ps_expr (pe_self (E := E) R cD hr3 (passes_call (takes_of rfl rfl rfl rfl) (fun _ _ _ _ h => h)) (pv 0) (pa_cons pe_str pa_nil) (fun _ _ => rfl)))
        (pss_one (ps_ret (pe_tup (pa_cons pe_str (pa_cons (pe_self0 (E := E) R cN hr4 (passes_call (takes_of rfl rfl rfl rfl) (fun _ _ _ _ h => h)) (pv 0) (fun _ _ => rfl)) pa_nil))))))) pss_nil)
      (pss_cons (ps_expr (pe_self (E := E) R cK hr (passes_call (takes_of rfl rfl rfl rfl) (fun _ _ _ _ h => h)) (pv 0) (pa_cons (pe_lst (pa_cons pe_str pa_nil)) pa_nil) (fun _ _ => rfl)))
      (pss_cons (ps_set (i := 1) scGuard.nd rfl (Or.inl rfl) (pe_self0 (E := E) R cN hr4 (passes_call (takes_of rfl rfl rfl rfl) (fun _ _ _ _ h => h)) (pv 0) (fun _ _ => rfl)))
      (pss_cons (ps_expr (pe_self (E := E) R cD hr3 (passes_call (takes_of rfl rfl rfl rfl) (fun _ _ _ _ h => h)) (pv 0) (pa_cons pe_str pa_nil) (fun _ _ => rfl)))
      (pss_one (ps_ret (pe_tup (pa_cons pe_str (pa_cons (pv 1) (pa_cons (pe_self0 (E := E) R cN hr4 (passes_call (takes_of rfl rfl rfl rfl) (fun _ _ _ _ h => h)) (pv 0) (fun _ _ => rfl)) pa_nil))))))))))), ?_⟩
    unfold guardM at k
    refine ⟨p, z, n, rfl, hp, by show 1 ≤ sizeLine; decide, fun q hq => ⟨p, z, n, q, ["n"], rfl, hp.up (T := T) (.new hq), hz, upd_same, ?_⟩⟩
    cases h1 : knownM ["n"] (zl z) n with
    | error e =>
      rw [h1] at k
      exact k.up (.new hq)
    | ok wj =>
      obtain ⟨v, j⟩ := wj
      rw [h1] at k
      dsimp only at k
      intro H1 u1 r1
      have u1 : Up T [p] H H1 := .trans (.new hq) u1
      refine ⟨p, z, j, rfl, r1, p, z, j, "<", rfl, r1, hz, by decide +kernel, _, rfl, ?_⟩
      rw [zl_lt]
      cases h2 : hasAt [60] (zl z) j with
      | true =>
        rw [h2, if_pos rfl] at k
        refine iteT ⟨p, z, j, rfl, r1, p, z, j, "<", rfl, r1, hz, by decide +kernel, need_ok (by rw [zl_lt]; exact h2) fun H2 u2 r2 => ?_⟩
        have u2 : Up T [p] H H2 := u1.trans u2
        refine ⟨p, z, _, rfl, r2, p, z, _, rfl, r2, hz, ?_⟩
        show Ans T C CI p z H2 (numM (zl z) (skipE (zl z) (j + 1))) _ E
        cases h3 : numM (zl z) (skipE (zl z) (j + 1)) with
        | error e =>
          rw [h3] at k
          exact k.up u2
        | ok dj =>
          obtain ⟨d, j3⟩ := dj
          rw [h3] at k
          intro H3 u3 r3
          refine ⟨by show 2 ≤ sizeLine; decide, fun q3 hq3 => ?_⟩
          exact k _ ((u2.trans u3).trans (.new hq3)) (r3.up (T := T) (.new hq3)) _ ⟨q3, rfl, upd_same⟩
      | false =>
        rw [h2] at k
        refine iteF ⟨p, z, j, rfl, r1, p, z, j, ">", rfl, r1, hz, by decide +kernel, _, rfl, ?_⟩
        rw [zl_gt]
        cases h2b : hasAt [62] (zl z) j with
        | true =>
          rw [h2b] at k
          refine iteT ⟨p, z, j, rfl, r1, p, z, j, ">=", rfl, r1, hz, by decide +kernel, _, rfl, ?_⟩
          rw [zl_ge]
          cases h2c : hasAt [62, 61] (zl z) j with
          | false =>
            rw [h2c] at k
            refine iteT ⟨p, z, j, rfl, r1, j, 1, rfl, rfl, fun d H' u hd => k d H' (u1.trans u.wide) hd⟩
          | true =>
            rw [h2c] at k
            refine iteF ⟨p, z, j, rfl, r1, p, z, j, ">=", rfl, r1, hz, by decide +kernel, need_ok (by rw [zl_ge]; exact h2c) fun H2 u2 r2 => ?_⟩
            have u2 : Up T [p] H H2 := u1.trans u2
            refine ⟨p, z, _, rfl, r2, p, z, _, rfl, r2, hz, ?_⟩
            show Ans T C CI p z H2 (numM (zl z) (skipE (zl z) (j + 2))) _ E
            simp only [if_true, Bool.false_eq_true, if_false] at k
            cases h3 : numM (zl z) (skipE (zl z) (j + 2)) with
            | error e =>
              rw [h3] at k
              exact k.up u2
            | ok dj =>
              obtain ⟨d, j3⟩ := dj
              rw [h3] at k
              intro H3 u3 r3
              refine ⟨by show 2 ≤ sizeLine; decide, fun q3 hq3 => ?_⟩
              exact k _ ((u2.trans u3).trans (.new hq3)) (r3.up (T := T) (.new hq3)) _ ⟨q3, rfl, upd_same⟩
        | false =>
          rw [h2b] at k
          simp only [Bool.false_eq_true, if_false] at k
          refine iteF ⟨p, z, j, rfl, r1, by show 1 ≤ sizeLine; decide, fun q2 hq2 => ⟨p, z, j, q2, ["mod"], rfl, r1.up (T := T) (.new hq2), hz, upd_same, ?_⟩⟩
          cases h3 : knownM ["mod"] (zl z) j with
          | error e =>
            rw [h3] at k
            exact k.up (u1.trans (.new hq2))
          | ok wj =>
            obtain ⟨v3, j3⟩ := wj
            rw [h3] at k
            dsimp only at k
            intro H3 u3 r3
            have u3 : Up T [p] H H3 := (u1.trans (.new hq2)).trans u3
            refine ⟨p, z, j3, rfl, r3, p, z, j3, rfl, r3, hz, ?_⟩
            cases h4 : numM (zl z) j3 with
            | error e =>
              rw [h4] at k
              exact k.up u3
            | ok dj =>
              obtain ⟨d1, j4⟩ := dj
              rw [h4] at k
              dsimp only at k
              intro H4 u4 r4
              have u4 : Up T [p] H H4 := u3.trans u4
              refine ⟨p, z, j4, rfl, r4, p, z, j4, "=", rfl, r4, hz, by decide +kernel, ?_⟩
              rw [zl_eq]
              cases h5 : signM [61] (zl z) j4 with
              | error e =>
                rw [h5] at k
                exact fun d H' u hd => k d H' (u4.trans u) hd
              | ok j5 =>
                rw [h5] at k
                dsimp only at k
                intro H5 u5 r5
                have u5 : Up T [p] H H5 := u4.trans u5
                refine ⟨_, rfl, p, z, j5, rfl, r5, p, z, j5, rfl, r5, hz, ?_⟩
                cases h6 : numM (zl z) j5 with
                | error e =>
                  rw [h6] at k
                  exact k.up u5
                | ok dj =>
                  obtain ⟨d2, j6⟩ := dj
                  rw [h6] at k
                  intro H6 u6 r6
                  refine ⟨by show 3 ≤ sizeLine; decide, fun q3 hq3 => ?_⟩
                  exact k _ ((u5.trans u6).trans (.new hq3)) (r6.up (T := T) (.new hq3)) _ ⟨q3, rfl, upd_same⟩
end
end Dc
set_option Elab.async false
set_option linter.all false
set_option maxRecDepth 100000
set_option maxHeartbeats 4000000
namespace Dc
open PySem PySem.Spec PyProof.Rows L2 DcG
section
variable {P : Program} {w : World} {K : PySem.W.Frag} {mg : Str → Option Value} {base : Heap} {T : TT} {C CI p a : Addr} {z : Str} {H0 H1 H2 : Hp}
theorem paired_snoc {α β : Type} {R : α → β → Prop} : ∀ {xs : List α} {ys : List β} {x : α} {y : β}, Paired R xs ys → R x y → Paired R (xs ++ [x]) (ys ++ [y])
  | _, _, _, _, .nil, h => .cons h .nil
  | _, _, _, _, .cons h r, h' => .cons h (paired_snoc r h')
theorem RdAt.noTup {n : Nat} (h : RdAt C p z n H1) : NoTup H1 [p] := by
  obtain ⟨dx, h⟩ := h
  exact noTup1 h rfl
theorem app_fin {δ : Type} {R : Hp → V → δ → Prop} (Rup : ∀ {ex : List Addr} {H H' : Hp}, Up T ex H H' → NoTup H ex → ∀ v d, R H v d → R H' v d) {vs : List V} {acc : List δ} {v : V} {d : δ} {j1 j2 : Nat}
    (u : Up T [p] H0 H1) (hn : H0 a = none) (a1 : H1 a = some (.lst vs)) (u2 : Up T [p] H1 H2) (r1 : RdAt C p z j1 H1) (r2 : RdAt C p z j2 H2) (hP : Paired (R H1) vs acc) (hv : R H2 v d) :
    H2 a = some (.lst vs) ∧ Up T [p] H0 (upd H2 a (.lst (vs ++ [v]))) ∧ RdAt C p z j2 (upd H2 a (.lst (vs ++ [v]))) ∧ Paired (R (upd H2 a (.lst (vs ++ [v])))) (vs ++ [v]) (acc ++ [d]) := by
  have a2 : H2 a = some (.lst vs) := u2.keep _ _ (r1.ne a1) a1 rfl
  have u3 : Up T [a] H2 (upd H2 a (.lst (vs ++ [v]))) := .put a2 rfl List.mem_cons_self
  have n3 : NoTup H2 [a] := noTup1 a2 rfl
  refine ⟨a2, (u.trans u2).drop (.put a2 rfl List.mem_cons_self) hn, ?_, paired_snoc (L2.Paired.mapP hP fun _ _ q => Rup u3 n3 _ _ (Rup u2 r1.noTup _ _ q)) (Rup u3 n3 _ _ hv)⟩
  obtain ⟨dx, h⟩ := r2
  have : p ≠ a := fun q => r1.ne a1 (by rw [q]; exact List.mem_singleton.mpr rfl)
  exact ⟨dx, by rw [upd_ne this]; exact h⟩
theorem b_tuple : bootBuiltins "tuple" = some (.type "tuple") := by decide +kernel
/-! ### row -/
def spRow (T : TT) (C CI : Addr) : Sp := fun vs H Q E => ∃ p z n, vs = [.ref p] ∧ RdAt C p z n H ∧ z.length ≤ sizeLine ∧ Ans T C CI p z H (rowM (zl z) n) (fun g H' => ∀ v, RowAt H' v g → Q v H') E
theorem scRow : FnScope ["self", "kind", "name", "move", "guards"] ["self"] (defScope sRRow) := ⟨rfl, rfl, rfl, by decide +kernel, rfl, by decide +kernel, by decide +kernel⟩
def tMoveS (T : TT) (C CI : Addr) (E : XK) : TS := fun D σ H => ∃ p z n, σ[0]? = some (some (.ref p)) ∧ RdAt C p z n H ∧ z.length ≤ sizeLine ∧ Ans T C CI p z H (moveM (zl z) n) (fun m H' => ∀ v, MvAt H' v m.1 m.2 → D.nx (σ.set 3 (some v)) H') E
def gQ (a : Addr) (σ : L2.St) (D : Ends) : List G → Hp → Prop := fun gs H' => ∀ vs, H' a = some (.lst vs) → Paired (GAt H') vs gs → D.nx σ H'
def tGuardsS (T : TT) (C CI : Addr) (E : XK) : TS := fun D σ H => ∃ p z n a H0, σ[0]? = some (some (.ref p)) ∧ σ[4]? = some (some (.ref a)) ∧ H0 a = none ∧ Up T [p] H0 H ∧ H a = some (.lst []) ∧ RdAt C p z n H ∧ z.length ≤ sizeLine ∧ n ≤ (zl z).length ∧
  Ans T C CI p z H0 (guardsM (zl z) ((zl z).length + 1) n []) (gQ a σ D) E
/-- one guard more -/
theorem g_step {E : XK} {D : Ends} {σ : L2.St} {H : Hp} {j f : Nat} {acc : List G} {vs : List V} {wd : Str} {Qa : List G → Hp → Prop} (e0 : σ[0]? = some (some (.ref p))) (e4 : σ[4]? = some (some (.ref a))) (u : Up T [p] H0 H) (hn : H0 a = none) (ha : H a = some (.lst vs)) (hp : RdAt C p z j H) (hz : z.length ≤ sizeLine)
    (hP : Paired (GAt H) vs acc) (hj : acc.length ≤ j) (hl : atB isL (zl z) j = true) (hw : gWord acc = wd) (k : Ans T C CI p z H0 (guardsM (zl z) (f + 1) j acc) Qa E)
    (nx : ∀ H' v g j', Up T [p] H0 H' → RdAt C p z j' H' → H' a = some (.lst (vs ++ [v])) → Paired (GAt H') (vs ++ [v]) (acc ++ [g]) → j < j' → j' ≤ (zl z).length → Ans T C CI p z H0 (guardsM (zl z) f j' (acc ++ [g])) Qa E → D.nx σ H') :
    tSeq (tDrop (tSelf C 0 (spKnown T C CI) E (tCons (tLst (tCons (tC (.str wd)) tNil)) tNil))) (tSeq (tApp 4 (tSelf C 0 (spGuard T C CI) E tNil)) tNext) D σ H := by
  refine ⟨p, z, j, e0, hp, by show 1 ≤ sizeLine; decide, fun q hq => ⟨p, z, j, q, [wd], rfl, hp.up (T := T) (.new hq), hz, upd_same, ?_⟩⟩
  unfold guardsM at k
  rw [if_pos hl, hw] at k
  have ezl := zl_len z
  cases h1 : knownM [wd] (zl z) j with
  | error e =>
    rw [h1] at k
    exact k.up (u.trans (.new hq))
  | ok wj =>
    obtain ⟨v1, j1⟩ := wj
    rw [h1] at k
    dsimp only at k
    intro H1 u1 r1
    have u1 : Up T [p] H H1 := .trans (.new hq) u1
    have a1 : H1 a = some (.lst vs) := u1.keep _ _ (hp.ne ha) ha rfl
    have P1 : Paired (GAt H1) vs acc := L2.Paired.mapP hP fun _ _ q => q.up u1 hp.noTup
    refine ⟨a, vs, e4, a1, p, z, j1, e0, r1, p, z, j1, rfl, r1, hz, ?_⟩
    cases h2 : guardM (zl z) j1 with
    | error e =>
      rw [h2] at k
      exact k.up (u.trans u1)
    | ok gj =>
      obtain ⟨g, j2⟩ := gj
      rw [h2] at k
      dsimp only at k
      intro H2 u2 r2 v hv
      obtain ⟨a2, u3, r3, P3⟩ := app_fin (R := GAt) (fun u n v d h => h.up u n) (u.trans u1) hn a1 u2 r1 r2 P1 hv
      have l1 := knownM_ok h1
      have l2 := guardM_ok h2
      have l3 : vs.length = acc.length := Paired.length hP
      exact ⟨vs, a2, by omega, nx _ v g j2 u3 r3 upd_same P3 (by omega) l2.2 k⟩
def GInv (T : TT) (C CI p a : Addr) (z : Str) (H0 : Hp) (σ : L2.St) (Qa : List G → Hp → Prop) (E : XK) : Nat → L2.St → Hp → Prop := fun m σ' H' => σ' = σ ∧ ∃ acc vs j f, Up T [p] H0 H' ∧ RdAt C p z j H' ∧ H' a = some (.lst vs) ∧ Paired (GAt H') vs acc ∧ acc ≠ [] ∧ acc.length ≤ j ∧ j ≤ (zl z).length ∧ (zl z).length < f + j ∧ Ans T C CI p z H0 (guardsM (zl z) f j acc) Qa E ∧ m = (zl z).length - j
theorem zl_minus : zl "-" = [45] := by decide +kernel
theorem ok_row {f : Addr} {fd : FuncData} (F : FnP K "row" "Reading.row" sRRow f fd) (X : Txt K mg) (R : RdC K C)
    (cK : MetD P w K mg base (L2.CX P w) 5 C "known" ["self", "words"] (spKnown T C CI)) (cW : MetD P w K mg base (L2.CX P w) 4 C "word" ["self"] (spWord T C CI)) (cN : MetD P w K mg base (L2.CX P w) 4 C "number" ["self"] (spNum T C CI)) (cL : MetD P w K mg base CX0 1 C "look" ["self", "sign"] (spLook C)) (cD : MetD P w K mg base (L2.CX P w) 3 C "need" ["self", "sign"] (spNeed T C CI)) (cG : MetD P w K mg base (L2.CX P w) 6 C "guard" ["self"] (spGuard T C CI)) :
    FnOk P w K mg base (L2.CX P w) 7 f fd ["self"] (spRow T C CI) := by
  refine F.ok scRow (fun vs H Q E h => ?_) (fun cdv A outer s H vs Q E hr h => ?_)
  · obtain ⟨p, z, n, rfl, _⟩ := h
    rfl
  · obtain ⟨p, z, n, rfl, hp, hz, k⟩ := h
    have hr1 : Room 1 _ := hr.mono (by decide)
    have hr3 : Room 3 _ := hr.mono (by decide)
    have hr4 : Room 4 _ := hr.mono (by decide)
    have hr5 : Room 5 _ := hr.mono (by decide)
    refine ⟨_, pss_cons (ps_set (i := 1) scRow.nd rfl (Or.inl rfl) (pe_self (E := E) R cK hr5 (passes_call (takes_of rfl rfl rfl rfl) (fun _ _ _ _ h => h)) (pv 0) (pa_cons (pe_lst (pa_cons pe_str (pa_cons pe_str pa_nil))) pa_nil) (fun _ _ => rfl)))
      (pss_cons (ps_set (i := 2) scRow.nd rfl (Or.inl rfl) (pe_self0 (E := E) R cW hr4 (passes_call (takes_of rfl rfl rfl rfl) (fun _ _ _ _ h => h)) (pv 0) (fun _ _ => rfl)))
      (pss_cons (PS.of (t' := tMoveS T C CI E) (ps_if (pt_val (pe_self R cL hr1 pass0 (pv 0) (pa_cons pe_str pa_nil) (fun _ _ => rfl)))
          (pss_cons (ps_expr (pe_self (E := E) R cD hr3 (passes_call (takes_of rfl rfl rfl rfl) (fun _ _ _ _ h => h)) (pv 0) (pa_cons pe_str pa_nil) (fun _ _ => rfl)))
            (pss_one (ps_set (i := 3) scRow.nd rfl (Or.inl rfl) (pe_tup (pa_cons pe_str (pa_cons (pe_self0 (E := E) R cN hr4 (passes_call (takes_of rfl rfl rfl rfl) (fun _ _ _ _ h => h)) (pv 0) (fun _ _ => rfl)) pa_nil))))))
          (pss_one (ps_set (i := 3) scRow.nd rfl (Or.inl rfl) (pe_tup (pa_cons pe_str (pa_cons (pe_self0 (E := E) R cN hr4 (passes_call (takes_of rfl rfl rfl rfl) (fun _ _ _ _ h => h)) (pv 0) (fun _ _ => rfl)) pa_nil)))))) ?_)
      (pss_cons (ps_set (i := 4) scRow.nd rfl (Or.inl rfl) (pe_lst pa_nil))
      (pss_cons (PS.of (t' := tGuardsS T C CI E) (ps_if (pt_let (T := T) X rfl (pe_win R (pe_text R (pv 0)) (pe_at R (pv 0)) (pe_at R (pv 0))))
          (pss_cons (ps_expr (pe_self (E := E) R cK hr5 (passes_call (takes_of rfl rfl rfl rfl) (fun _ _ _ _ h => h)) (pv 0) (pa_cons (pe_lst (pa_cons pe_str pa_nil)) pa_nil) (fun _ _ => rfl)))
          (pss_cons (ps_app (pv 4) (pe_self0 (E := E) R cG hr (passes_call (takes_of rfl rfl rfl rfl) (fun _ _ _ _ h => h)) (pv 0) (fun _ _ => rfl)))
          (pss_cons (ps_while (passes_of rfl) (pt_let (T := T) X rfl (pe_win R (pe_text R (pv 0)) (pe_at R (pv 0)) (pe_at R (pv 0))))
            (pss_cons (ps_expr (pe_self (E := E) R cK hr5 (passes_call (takes_of rfl rfl rfl rfl) (fun _ _ _ _ h => h)) (pv 0) (pa_cons (pe_lst (pa_cons pe_str pa_nil)) pa_nil) (fun _ _ => rfl)))
            (pss_cons (ps_app (pv 4) (pe_self0 (E := E) R cG hr (passes_call (takes_of rfl rfl rfl rfl) (fun _ _ _ _ h => h)) (pv 0) (fun _ _ => rfl))) pss_nil))) pss_nil)))
          pss_nil) ?_)
      (pss_one (ps_ret (pe_tup (pa_cons (pe_callTy call_tuple_of (by rfl) X.tuple b_tuple (pa_cons (pv 4) pa_nil)) (pa_cons (pv 1) (pa_cons (pv 2) (pa_cons (pv 3) pa_nil))))))))))), ?_⟩
    · intro D σ H ⟨p, z, n, e0, hp, hz, k⟩
      refine ⟨p, z, n, e0, hp, p, z, n, "-", rfl, hp, hz, by decide +kernel, _, rfl, ?_⟩
      rw [zl_minus]
      unfold moveM at k
      cases h1 : hasAt [45] (zl z) n with
      | true =>
        rw [h1, if_pos rfl] at k
        refine iteT ⟨p, z, n, e0, hp, p, z, n, "-", rfl, hp, hz, by decide +kernel, need_ok (by rw [zl_minus]; exact h1) fun H1 u1 r1 => ?_⟩
        refine ⟨p, z, _, e0, r1, p, z, _, rfl, r1, hz, ?_⟩
        show Ans T C CI p z H1 (numM (zl z) (skipE (zl z) (n + 1))) _ E
        cases h2 : numM (zl z) (skipE (zl z) (n + 1)) with
        | error e =>
          rw [h2] at k
          exact k.up u1
        | ok dj =>
          obtain ⟨d, j⟩ := dj
          rw [h2] at k
          intro H2 u2 r2
          refine ⟨by show 2 ≤ sizeLine; decide, fun q hq => ?_⟩
          exact k _ ((u1.trans u2).trans (.new hq)) (r2.up (T := T) (.new hq)) _ ⟨q, rfl, upd_same⟩
      | false =>
        rw [h1] at k
        refine iteF ⟨p, z, n, e0, hp, p, z, n, rfl, hp, hz, ?_⟩
        cases h2 : numM (zl z) n with
        | error e =>
          rw [h2] at k
          exact k
        | ok dj =>
          obtain ⟨d, j⟩ := dj
          rw [h2] at k
          intro H2 u2 r2
          refine ⟨by show 2 ≤ sizeLine; decide, fun q hq => ?_⟩
          exact k _ (u2.trans (.new hq)) (r2.up (T := T) (.new hq)) _ ⟨q, rfl, upd_same⟩
    · intro D σ H ⟨p, z, n, a, H0, e0, e4, hn, u, ha, hp, hz, hnl, k⟩
      refine ⟨p, z, n, e0, hp, hz, fun H1 u1 => ?_⟩
      have hp1 := hp.up u1
      have ha1 : H1 a = some (.lst []) := u1.keep _ _ (by simp) ha rfl
      cases hl : atB isL (zl z) n with
      | false =>
        unfold guardsM at k
        rw [hl] at k
        exact iteF (k H1 (u.trans u1.wide) hp1 [] ha1 .nil)
      | true =>
        refine iteT (g_step (D := { D with nx := _ }) e0 e4 (u.trans u1.wide) hn ha1 hp1 hz .nil (Nat.zero_le _) hl rfl k fun H2 v g j2 u2 r2 a2 P2 hlt hle k2 => ?_)
        refine ⟨GInv T C CI p a z H0 σ (gQ a σ D) E, ⟨_, rfl, _, _, j2, _, u2, r2, a2, P2, by simp, by show 0 + 1 ≤ j2; omega, hle, by omega, k2, rfl⟩, ?_⟩
        rintro m σ' H3 ⟨rfl, acc, vs, j, f, u3, r3, a3, P3, hne, hlen, hle3, hf, k3, rfl⟩
        obtain ⟨f, rfl⟩ : ∃ f', f = f' + 1 := ⟨f - 1, by omega⟩
        refine ⟨p, z, j, e0, r3, hz, fun H4 u4 => ?_⟩
        have r4 := r3.up u4
        have a4 : H4 a = some (.lst vs) := u4.keep _ _ (by simp) a3 rfl
        have P4 : Paired (GAt H4) vs acc := L2.Paired.mapP P3 fun _ _ q => q.up u4 noTup0
        cases hl : atB isL (zl z) j with
        | false =>
          unfold guardsM at k3
          rw [hl] at k3
          exact iteF (k3 H4 (u3.trans u4.wide) r4 vs a4 P4)
        | true =>
          refine iteT ⟨fun σ2 H' => ∃ m', m' < (zl z).length - j ∧ GInv T C CI p a z H0 σ' (gQ a σ' D) E m' σ2 H', fun σ2 H' q => q, ?_⟩
          refine g_step (D := { D with nx := fun σ2 H' => ∃ m', m' < (zl z).length - j ∧ GInv T C CI p a z H0 σ' (gQ a σ' D) E m' σ2 H' }) e0 e4 (u3.trans u4.wide) hn a4 r4 hz P4 hlen hl (by cases acc with | nil => exact absurd rfl hne | cons _ _ => rfl) k3 fun H5 v g j5 u5 r5 a5 P5 hlt5 hle5 k5 => ?_
          refine ⟨(zl z).length - j5, by omega, rfl, acc ++ [g], _, j5, f, u5, r5, a5, P5, by simp, ?_, hle5, by omega, k5, rfl⟩
          rw [List.length_append, List.length_singleton]
          omega
    · unfold rowM at k
      refine ⟨p, z, n, rfl, hp, by show 2 ≤ sizeLine; decide, fun q hq => ⟨p, z, n, q, ["call", "tail"], rfl, hp.up (T := T) (.new hq), hz, upd_same, ?_⟩⟩
      cases h1 : knownM ["call", "tail"] (zl z) n with
      | error e =>
        rw [h1] at k
        exact k.up (.new hq)
      | ok wj =>
        obtain ⟨kd, j⟩ := wj
        rw [h1] at k
        dsimp only at k
        intro H1 u1 r1
        have u1 : Up T [p] H H1 := .trans (.new hq) u1
        refine ⟨p, z, j, rfl, r1, p, z, j, rfl, r1, hz, ?_⟩
        cases h2 : wordM (zl z) j with
        | error e =>
          rw [h2] at k
          exact k.up u1
        | ok wj =>
          obtain ⟨nm, k2⟩ := wj
          rw [h2] at k
          dsimp only at k
          intro H2 u2 r2
          have u2 : Up T [p] H H2 := u1.trans u2
          refine ⟨p, z, k2, rfl, r2, hz, ?_⟩
          cases h3 : moveM (zl z) k2 with
          | error e =>
            rw [h3] at k
            exact k.up u2
          | ok mj =>
            obtain ⟨⟨dn, d⟩, e⟩ := mj
            rw [h3] at k
            dsimp only at k
            intro H3 u3 r3 v hv
            have u3 : Up T [p] H H3 := u2.trans u3
            refine ⟨by show 0 ≤ sizeLine; decide, fun a ha => ?_⟩
            refine ⟨p, z, e, a, H3, rfl, rfl, ha, .new ha, upd_same, r3.up (T := T) (.new ha), hz, (moveM_ok h3).2, ?_⟩
            cases h4 : guardsM (zl z) ((zl z).length + 1) e [] with
            | error e' =>
              rw [h4] at k
              exact k.up u3
            | ok gj =>
              obtain ⟨gs, e2⟩ := gj
              rw [h4] at k
              intro H5 u5 r5 vs5 a5 P5
              have hv5 : MvAt H5 v dn d := hv.up u5 r3.noTup
              refine ⟨_, rfl, a, vs5, rfl, .inl ⟨.inl (.inl a5), fun l hl => ⟨_, rfl, _, rfl, _, rfl, by show 4 ≤ sizeLine; decide, fun q2 hq2 => ?_⟩⟩⟩
              have w1 : Up T [] H5 (upd H5 l (.tup vs5)) := .new hl
              have w2 : Up T [] (upd H5 l (.tup vs5)) (upd (upd H5 l (.tup vs5)) q2 (.tup [.ref l, .str kd, .str nm, v])) := .new hq2
              have w3 := w1.trans w2
              refine k _ ((u3.trans u5).trans w3.wide) (r5.up w3) _ ⟨q2, l, v, vs5, rfl, upd_same, ?_, L2.Paired.mapP P5 fun _ _ q => q.up w3 noTup0, hv5.up w3 noTup0⟩
              exact w2.tup noTup0 upd_same
end
end Dc
set_option Elab.async false
set_option linter.all false
set_option maxRecDepth 100000
set_option maxHeartbeats 4000000
namespace Dc
open PySem PySem.Spec PyProof.Rows L2 DcG
section
variable {P : Program} {w : World} {K : PySem.W.Frag} {mg : Str → Option Value} {base : Heap} {T : TT} {C CI p a : Addr} {z : Str} {H0 H1 H2 : Hp}
/-! ### function -/
def spFn (T : TT) (C CI : Addr) : Sp := fun vs H Q E => ∃ p z n, vs = [.ref p] ∧ RdAt C p z n H ∧ z.length ≤ sizeLine ∧ Ans T C CI p z H (fnM (zl z) n) (fun g H' => ∀ v, FnAt H' v g → Q v H') E
theorem scFn : FnScope ["self", "name", "size", "rows"] ["self"] (defScope sRFunction) := ⟨rfl, rfl, rfl, by decide +kernel, rfl, by decide +kernel, by decide +kernel⟩
def rQ (a : Addr) (σ : L2.St) (D : Ends) : List Row → Hp → Prop := fun gs H' => ∀ vs, H' a = some (.lst vs) → Paired (RowAt H') vs gs → D.nx σ H'
def tRowsS (T : TT) (C CI : Addr) (E : XK) : TS := fun D σ H => ∃ p z n a H0, σ[0]? = some (some (.ref p)) ∧ σ[3]? = some (some (.ref a)) ∧ H0 a = none ∧ Up T [p] H0 H ∧ H a = some (.lst []) ∧ RdAt C p z n H ∧ z.length ≤ sizeLine ∧ n ≤ (zl z).length ∧
  Ans T C CI p z H0 (rowsM (zl z) ((zl z).length + 1) n []) (rQ a σ D) E
/-- one row more -/
theorem r_step {E : XK} {D : Ends} {σ : L2.St} {H : Hp} {j f : Nat} {acc : List Row} {vs : List V} {s : Str} {Qa : List Row → Hp → Prop} (e0 : σ[0]? = some (some (.ref p))) (e4 : σ[3]? = some (some (.ref a))) (u : Up T [p] H0 H) (hn : H0 a = none) (ha : H a = some (.lst vs)) (hp : RdAt C p z j H) (hz : z.length ≤ sizeLine)
    (hP : Paired (RowAt H) vs acc) (hj : acc.length ≤ j) (hl : hasAt [rSign acc] (zl z) j = true) (hs : zl s = [rSign acc]) (hs1 : s.length = 1) (k : Ans T C CI p z H0 (rowsM (zl z) (f + 1) j acc) Qa E)
    (nx : ∀ H' v g j', Up T [p] H0 H' → RdAt C p z j' H' → H' a = some (.lst (vs ++ [v])) → Paired (RowAt H') (vs ++ [v]) (acc ++ [g]) → j < j' → j' ≤ (zl z).length → Ans T C CI p z H0 (rowsM (zl z) f j' (acc ++ [g])) Qa E → D.nx σ H') :
    tSeq (tDrop (tSelf C 0 (spNeed T C CI) E (tCons (tC (.str s)) tNil))) (tSeq (tApp 3 (tSelf C 0 (spRow T C CI) E tNil)) tNext) D σ H := by
  have ezl := zl_len z
  have e1s : (1 : Nat) ≤ sizeLine := by decide
  refine ⟨p, z, j, e0, hp, p, z, j, s, rfl, hp, hz, by rw [hs1]; exact e1s, need_ok (by rw [hs]; exact hl) fun H1 u1 r1 => ?_⟩
  unfold rowsM at k
  rw [if_pos hl] at k
  rw [hs1] at r1
  have a1 : H1 a = some (.lst vs) := u1.keep _ _ (hp.ne ha) ha rfl
  have P1 : Paired (RowAt H1) vs acc := L2.Paired.mapP hP fun _ _ q => q.up u1 hp.noTup
  refine ⟨a, vs, e4, a1, p, z, _, e0, r1, p, z, _, rfl, r1, hz, ?_⟩
  cases h2 : rowM (zl z) (skipE (zl z) (j + 1)) with
  | error e =>
    rw [h2] at k
    exact k.up (u.trans u1)
  | ok gj =>
    obtain ⟨g, j2⟩ := gj
    rw [h2] at k
    dsimp only at k
    intro H2 u2 r2 v hv
    obtain ⟨a2, u3, r3, P3⟩ := app_fin (R := RowAt) (fun u n v d h => h.up u n) (u.trans u1) hn a1 u2 r1 r2 P1 hv
    have l1 := skipE_ge (zl z) (j + 1)
    have l2 := rowM_ok h2
    have l3 : vs.length = acc.length := Paired.length hP
    exact ⟨vs, a2, by omega, nx _ v g j2 u3 r3 upd_same P3 (by omega) l2.2 k⟩
def RInv (T : TT) (C CI p a : Addr) (z : Str) (H0 : Hp) (σ : L2.St) (Qa : List Row → Hp → Prop) (E : XK) : Nat → L2.St → Hp → Prop := fun m σ' H' => σ' = σ ∧ ∃ acc vs j f, Up T [p] H0 H' ∧ RdAt C p z j H' ∧ H' a = some (.lst vs) ∧ Paired (RowAt H') vs acc ∧ acc ≠ [] ∧ acc.length ≤ j ∧ j ≤ (zl z).length ∧ (zl z).length < f + j ∧ Ans T C CI p z H0 (rowsM (zl z) f j acc) Qa E ∧ m = (zl z).length - j
theorem zl_colon : zl ":" = [58] := by decide +kernel
theorem zl_comma : zl "," = [44] := by decide +kernel
theorem zl_semi : zl ";" = [59] := by decide +kernel
theorem ok_fn {f : Addr} {fd : FuncData} (F : FnP K "function" "Reading.function" sRFunction f fd) (X : Txt K mg) (R : RdC K C)
    (cW : MetD P w K mg base (L2.CX P w) 4 C "word" ["self"] (spWord T C CI)) (cN : MetD P w K mg base (L2.CX P w) 4 C "number" ["self"] (spNum T C CI)) (cL : MetD P w K mg base CX0 1 C "look" ["self", "sign"] (spLook C)) (cD : MetD P w K mg base (L2.CX P w) 3 C "need" ["self", "sign"] (spNeed T C CI)) (cR : MetD P w K mg base (L2.CX P w) 7 C "row" ["self"] (spRow T C CI)) :
    FnOk P w K mg base (L2.CX P w) 8 f fd ["self"] (spFn T C CI) := by
  refine F.ok scFn (fun vs H Q E h => ?_) (fun cdv A outer s H vs Q E hr h => ?_)
  · obtain ⟨p, z, n, rfl, _⟩ := h
    rfl
  · obtain ⟨p, z, n, rfl, hp, hz, k⟩ := h
    have hr1 : Room 1 _ := hr.mono (by decide)
    have hr3 : Room 3 _ := hr.mono (by decide)
    have hr4 : Room 4 _ := hr.mono (by decide)
    refine ⟨_, pss_cons (ps_par3 (i := 1) (j := 2) (l := 3) rfl scFn.nd rfl rfl rfl (by decide) (by decide) (by decide) rfl rfl rfl
        (pa_cons (pe_self0 (E := E) R cW hr4 (passes_call (takes_of rfl rfl rfl rfl) (fun _ _ _ _ h => h)) (pv 0) (fun _ _ => rfl)) (pa_cons (pe_self0 (E := E) R cN hr4 (passes_call (takes_of rfl rfl rfl rfl) (fun _ _ _ _ h => h)) (pv 0) (fun _ _ => rfl)) (pa_cons (pe_lst pa_nil) pa_nil))) rfl)
      (pss_cons (PS.of (t' := tRowsS T C CI E) (ps_if (pt_val (pe_self R cL hr1 pass0 (pv 0) (pa_cons pe_str pa_nil) (fun _ _ => rfl)))
          (pss_cons (ps_expr (pe_self (E := E) R cD hr3 (passes_call (takes_of rfl rfl rfl rfl) (fun _ _ _ _ h => h)) (pv 0) (pa_cons pe_str pa_nil) (fun _ _ => rfl)))
          (pss_cons (ps_app (pv 3) (pe_self0 (E := E) R cR hr (passes_call (takes_of rfl rfl rfl rfl) (fun _ _ _ _ h => h)) (pv 0) (fun _ _ => rfl)))
          (pss_cons (ps_while (passes_of rfl) (pt_val (pe_self R cL hr1 pass0 (pv 0) (pa_cons pe_str pa_nil) (fun _ _ => rfl)))
            (pss_cons (ps_expr (pe_self (E := E) R cD hr3 (passes_call (takes_of rfl rfl rfl rfl) (fun _ _ _ _ h => h)) (pv 0) (pa_cons pe_str pa_nil) (fun _ _ => rfl)))
            (pss_cons (ps_app (pv 3) (pe_self0 (E := E) R cR hr (passes_call (takes_of rfl rfl rfl rfl) (fun _ _ _ _ h => h)) (pv 0) (fun _ _ => rfl))) pss_nil))) pss_nil)))
          pss_nil) ?_)
      (pss_one (ps_ret (pe_tup (pa_cons (pv 1) (pa_cons (pv 2) (pa_cons (pe_callTy call_tuple_of (by rfl) X.tuple b_tuple (pa_cons (pv 3) pa_nil)) pa_nil))))))), ?_⟩
    · intro D σ H ⟨p, z, n, a, H0, e0, e4, hn, u, ha, hp, hz, hnl, k⟩
      refine ⟨p, z, n, e0, hp, p, z, n, ":", rfl, hp, hz, by decide +kernel, _, rfl, ?_⟩
      rw [zl_colon]
      cases hl : hasAt [58] (zl z) n with
      | false =>
        have hl' : hasAt [rSign []] (zl z) n = false := hl
        unfold rowsM at k
        rw [hl'] at k
        exact iteF (k H u hp [] ha .nil)
      | true =>
        refine iteT (r_step (D := { D with nx := _ }) e0 e4 u hn ha hp hz .nil (Nat.zero_le _) hl zl_colon (by decide +kernel) k fun H2 v g j2 u2 r2 a2 P2 hlt hle k2 => ?_)
        refine ⟨RInv T C CI p a z H0 σ (rQ a σ D) E, ⟨_, rfl, _, _, j2, _, u2, r2, a2, P2, by simp, by show 0 + 1 ≤ j2; omega, hle, by omega, k2, rfl⟩, ?_⟩
        rintro m σ' H3 ⟨rfl, acc, vs, j, f, u3, r3, a3, P3, hne, hlen, hle3, hf, k3, rfl⟩
        obtain ⟨f, rfl⟩ : ∃ f', f = f' + 1 := ⟨f - 1, by omega⟩
        have hrs : rSign acc = 44 := by
          cases acc with
          | nil => exact absurd rfl hne
          | cons _ _ => rfl
        refine ⟨p, z, j, e0, r3, p, z, j, ",", rfl, r3, hz, by decide +kernel, _, rfl, ?_⟩
        rw [zl_comma, ← hrs]
        cases hl : hasAt [rSign acc] (zl z) j with
        | false =>
          unfold rowsM at k3
          rw [hl] at k3
          exact iteF (k3 H3 u3 r3 vs a3 P3)
        | true =>
          refine iteT ⟨fun σ2 H' => ∃ m', m' < (zl z).length - j ∧ RInv T C CI p a z H0 σ' (rQ a σ' D) E m' σ2 H', fun σ2 H' q => q, ?_⟩
          refine r_step (D := { D with nx := fun σ2 H' => ∃ m', m' < (zl z).length - j ∧ RInv T C CI p a z H0 σ' (rQ a σ' D) E m' σ2 H' }) e0 e4 u3 hn a3 r3 hz P3 hlen hl (by rw [hrs]; exact zl_comma) (by decide +kernel) k3 fun H5 v g j5 u5 r5 a5 P5 hlt5 hle5 k5 => ?_
          refine ⟨(zl z).length - j5, by omega, rfl, acc ++ [g], _, j5, f, u5, r5, a5, P5, by simp, ?_, hle5, by omega, k5, rfl⟩
          rw [List.length_append, List.length_singleton]
          omega
    · unfold fnM at k
      refine ⟨p, z, n, rfl, hp, p, z, n, rfl, hp, hz, ?_⟩
      cases h1 : wordM (zl z) n with
      | error e =>
        rw [h1] at k
        exact k
      | ok wj =>
        obtain ⟨nm, j⟩ := wj
        rw [h1] at k
        dsimp only at k
        intro H1 u1 r1
        refine ⟨p, z, j, rfl, r1, p, z, j, rfl, r1, hz, ?_⟩
        cases h2 : numM (zl z) j with
        | error e =>
          rw [h2] at k
          exact k.up u1
        | ok dj =>
          obtain ⟨d, j2⟩ := dj
          rw [h2] at k
          dsimp only at k
          intro H2 u2 r2
          have u2 : Up T [p] H H2 := u1.trans u2
          refine ⟨by show 0 ≤ sizeLine; decide, fun a ha => ⟨_, _, _, rfl, ?_⟩⟩
          refine ⟨p, z, j2, a, H2, rfl, rfl, ha, .new ha, upd_same, r2.up (T := T) (.new ha), hz, (numM_ok h2).2, ?_⟩
          cases h4 : rowsM (zl z) ((zl z).length + 1) j2 [] with
          | error e' =>
            rw [h4] at k
            exact k.up u2
          | ok gj =>
            obtain ⟨gs, e2⟩ := gj
            rw [h4] at k
            intro H5 u5 r5 vs5 a5 P5
            refine ⟨_, rfl, _, rfl, _, rfl, a, vs5, rfl, .inl ⟨.inl (.inl a5), fun l hl => ⟨by show 3 ≤ sizeLine; decide, fun q2 hq2 => ?_⟩⟩⟩
            have w1 : Up T [] H5 (upd H5 l (.tup vs5)) := .new hl
            have w2 : Up T [] (upd H5 l (.tup vs5)) (upd (upd H5 l (.tup vs5)) q2 (.tup [.str nm, .int d, .ref l])) := .new hq2
            have w3 := w1.trans w2
            exact k _ ((u2.trans u5).trans w3.wide) (r5.up w3) _ ⟨q2, l, vs5, rfl, upd_same, w2.tup noTup0 upd_same, L2.Paired.mapP P5 fun _ _ q => q.up w3 noTup0⟩
end
end Dc
set_option Elab.async false
set_option linter.all false
set_option maxRecDepth 100000
set_option maxHeartbeats 4000000
namespace Dc
open PySem PySem.Spec PyProof.Rows L2 DcG
/-! ### names fit -/
theorem wrd_le (l : List Nat) (i j : Nat) : (wrd l i j).length ≤ l.length := by
  show ((l.drop i).take (j - i)).toArray.size ≤ _
  rw [List.size_toArray, List.length_take, List.length_drop]
  omega
theorem rowOf_len {f : Nat → Bool} {l : List Nat} {i j : Nat} {w : Str} (h : rowOf f l i = .ok (w, j)) : w.length ≤ l.length := by
  unfold rowOf at h
  split at h
  · cases h
  · cases h
    exact wrd_le _ _ _
theorem wordM_len {l : List Nat} {i j : Nat} {w : Str} (h : wordM l i = .ok (w, j)) : w.length ≤ l.length := by
  unfold wordM at h
  split at h
  · exact rowOf_len h
  · cases h
theorem rowM_len {l : List Nat} {i j : Nat} {r : Row} (h : rowM l i = .ok (r, j)) : r.name.length ≤ l.length := by
  unfold rowM at h
  split at h
  · cases h
  · split at h
    · cases h
    · rename_i hn
      split at h
      · cases h
      · split at h
        · cases h
        · cases h
          exact wordM_len hn
theorem rowsM_len {l : List Nat} : ∀ {f i j : Nat} {acc rs : List Row}, rowsM l f i acc = .ok (rs, j) → (∀ r ∈ acc, r.name.length ≤ l.length) → ∀ r ∈ rs, r.name.length ≤ l.length
  | 0, _, _, _, _, h, _ => by cases h
  | f + 1, i, j, acc, rs, h, ha => by
    unfold rowsM at h
    split at h
    · split at h
      · cases h
      · rename_i r k hr
        refine rowsM_len h fun r' hr' => ?_
        rcases List.mem_append.mp hr' with q | q
        · exact ha r' q
        · rw [List.mem_singleton.mp q]
          exact rowM_len hr
    · cases h
      exact ha
def FnLen (l : List Nat) (f : Fn) : Prop := f.name.length ≤ l.length ∧ ∀ r ∈ f.rows, r.name.length ≤ l.length
theorem fnM_len {l : List Nat} {i j : Nat} {g : Fn} (h : fnM l i = .ok (g, j)) : FnLen l g := by
  unfold fnM at h
  split at h
  · cases h
  · rename_i hn
    split at h
    · cases h
    · split at h
      · cases h
      · rename_i hr
        cases h
        exact ⟨wordM_len hn, rowsM_len hr fun r q => by cases q⟩
theorem fnsM_len {l : List Nat} : ∀ {f i : Nat} {acc fs : List Fn}, fnsM l f i acc = .ok fs → (∀ r ∈ acc, FnLen l r) → ∀ r ∈ fs, FnLen l r
  | 0, _, _, _, h, _ => by cases h
  | f + 1, i, acc, fs, h, ha => by
    unfold fnsM at h
    split at h
    · split at h
      · cases h
      · split at h
        · cases h
        · rename_i g k hg
          refine fnsM_len h fun r' hr' => ?_
          rcases List.mem_append.mp hr' with q | q
          · exact ha r' q
          · rw [List.mem_singleton.mp q]
            exact fnM_len hg
    · cases h
      exact ha
theorem bookM_len {l : List Nat} {fs : List Fn} (h : bookM l = .ok fs) : ∀ f ∈ fs, FnLen l f := by
  unfold bookM at h
  split at h
  · cases h
  · rename_i g k hg
    exact fnsM_len h fun r q => by rw [List.mem_singleton.mp q]; exact fnM_len hg
theorem bookM_fits {z : Str} {fs : List Fn} (hz : z.length ≤ sizeLine) (h : bookM (zl z) = .ok fs) : BookFits fs := fun f hf => by
  have q := bookM_len h f hf
  have e := zl_len z
  exact ⟨by have := q.1; omega, fun r hr => by have := q.2 r hr; omega⟩
def AnsE {α : Type} (T : TT) (CI : Addr) (ex : List Addr) (H : Hp) (r : Except Nat α) (Qa : α → Hp → Prop) (E : XK) : Prop := match r with
  | .ok a => ∀ H', Up T ex H H' → Qa a H'
  | .error e => ∀ d H', Up T ex H H' → H' d = some (.xd [("place", .int (e : Nat))]) → E (.ref CI) (some d) H'
section
variable {P : Program} {w : World} {K : PySem.W.Frag} {mg : Str → Option Value} {base : Heap} {T : TT} {C CI p a : Addr} {z : Str} {H0 H1 H2 : Hp}
theorem AnsE.up {α : Type} {ex : List Addr} {r : Except Nat α} {Qa : α → Hp → Prop} {E : XK} (u : Up T ex H0 H1) (k : AnsE T CI ex H0 r Qa E) : AnsE T CI ex H1 r Qa E := by
  unfold AnsE at *
  split
  · exact fun H' u' => k H' (u.trans u')
  · exact fun d H' u' h => k d H' (u.trans u') h
/-! ### book -/
def spBook (T : TT) (C CI : Addr) : Sp := fun vs H Q E => ∃ p z, vs = [.ref p] ∧ RdAt C p z (skipE (zl z) 0) H ∧ z.length ≤ sizeLine ∧ AnsE T CI [p] H (bookM (zl z)) (fun g H' => ∀ v, BookAt H' v g → Q v H') E
theorem scBook : FnScope ["self", "found"] ["self"] (defScope sRBook) := ⟨rfl, rfl, rfl, by decide +kernel, rfl, by decide +kernel, by decide +kernel⟩
def FInv (T : TT) (C CI p a : Addr) (z : Str) (H0 : Hp) (σ : L2.St) (Qa : List Fn → Hp → Prop) (E : XK) : Nat → L2.St → Hp → Prop := fun m σ' H' => σ' = σ ∧ ∃ acc vs j f, Up T [p] H0 H' ∧ RdAt C p z j H' ∧ H' a = some (.lst vs) ∧ Paired (FnAt H') vs acc ∧ acc.length ≤ j ∧ j ≤ (zl z).length ∧ (zl z).length < f + j ∧ AnsE T CI [p] H0 (fnsM (zl z) f j acc) Qa E ∧ m = (zl z).length - j
theorem ok_book {f : Addr} {fd : FuncData} (F : FnP K "book" "Reading.book" sRBook f fd) (X : Txt K mg) (R : RdC K C)
    (cD : MetD P w K mg base (L2.CX P w) 3 C "need" ["self", "sign"] (spNeed T C CI)) (cF : MetD P w K mg base (L2.CX P w) 8 C "function" ["self"] (spFn T C CI)) :
    FnOk P w K mg base (L2.CX P w) 9 f fd ["self"] (spBook T C CI) := by
  refine F.ok scBook (fun vs H Q E h => ?_) (fun cdv A outer s H vs Q E hr h => ?_)
  · obtain ⟨p, z, rfl, _⟩ := h
    rfl
  · obtain ⟨p, z, rfl, hp, hz, k⟩ := h
    have hr3 : Room 3 _ := hr.mono (by decide)
    refine ⟨_, pss_cons (ps_set (i := 1) scBook.nd rfl (Or.inl rfl) (pe_lst (pa_cons (pe_self0 (E := E) R cF hr (passes_call (takes_of rfl rfl rfl rfl) (fun _ _ _ _ h => h)) (pv 0) (fun _ _ => rfl)) pa_nil)))
      (pss_cons (ps_while (passes_of rfl) (pt_cmpR op_lt (pe_at R (pv 0)) (pe_callB call_len_str (by rfl) X.len b_len (pa_cons (pe_text R (pv 0)) pa_nil)) (nomark _))
          (pss_cons (ps_expr (pe_self (E := E) R cD hr3 (passes_call (takes_of rfl rfl rfl rfl) (fun _ _ _ _ h => h)) (pv 0) (pa_cons pe_str pa_nil) (fun _ _ => rfl)))
            (pss_cons (ps_app (pv 1) (pe_self0 (E := E) R cF hr (passes_call (takes_of rfl rfl rfl rfl) (fun _ _ _ _ h => h)) (pv 0) (fun _ _ => rfl))) pss_nil)))
      (pss_one (ps_ret (pe_callTy call_tuple_of (by rfl) X.tuple b_tuple (pa_cons (pv 1) pa_nil))))), ?_⟩
    unfold bookM at k
    have ezl := zl_len z
    refine ⟨p, z, _, rfl, hp, p, z, _, rfl, hp, hz, ?_⟩
    cases h1 : fnM (zl z) (skipE (zl z) 0) with
    | error e =>
      rw [h1] at k
      exact k
    | ok gj =>
      obtain ⟨g, j⟩ := gj
      rw [h1] at k
      dsimp only at k
      intro H1 u1 r1 v hv
      have h1k := fnM_ok h1
      refine ⟨by show 1 ≤ sizeLine; decide, fun a ha => ?_⟩
      refine ⟨FInv T C CI p a z H1 [some (.ref p), some (.ref a)] _ E, ⟨_, rfl, [g], [v], j, (zl z).length + 1, .new ha, r1.up (T := T) (.new ha), upd_same, .cons (hv.up (T := T) (ex := []) (.new ha) noTup0) .nil, by show 1 ≤ j; omega, h1k.2, by omega, k.up u1, rfl⟩, ?_⟩
      rintro m σ' H3 ⟨rfl, acc, vs, j, f, u3, r3, a3, P3, hlen, hle3, hf, k3, rfl⟩
      obtain ⟨f, rfl⟩ : ∃ f', f = f' + 1 := ⟨f - 1, by omega⟩
      refine ⟨p, z, j, rfl, r3, p, z, j, rfl, r3, z, rfl, hz, (j : Int), z.length, rfl, rfl, _, rfl, ?_⟩
      unfold fnsM at k3
      by_cases hlt : j < (zl z).length
      · rw [if_pos hlt] at k3
        refine iteTt (decide_eq_true (by omega)) ⟨fun σ2 H' => ∃ m', m' < (zl z).length - j ∧ FInv T C CI p a z H1 [some (.ref p), some (.ref a)] (fun g H' => ∀ v, BookAt H' v g → Q v H') E m' σ2 H', fun σ2 H' q => q, ?_⟩
        refine ⟨p, z, j, rfl, r3, p, z, j, ";", rfl, r3, hz, by decide +kernel, ?_⟩
        rw [zl_semi]
        cases h2 : signM [59] (zl z) j with
        | error e =>
          rw [h2] at k3
          exact fun d H' u hd => k3 d H' (u3.trans u) hd
        | ok j2 =>
          rw [h2] at k3
          dsimp only at k3
          intro H4 u4 r4
          have a4 : H4 a = some (.lst vs) := u4.keep _ _ (r3.ne a3) a3 rfl
          have P4 : Paired (FnAt H4) vs acc := L2.Paired.mapP P3 fun _ _ q => q.up u4 r3.noTup
          refine ⟨a, vs, rfl, a4, p, z, j2, rfl, r4, p, z, j2, rfl, r4, hz, ?_⟩
          cases h3 : fnM (zl z) j2 with
          | error e =>
            rw [h3] at k3
            exact k3.up (u3.trans u4)
          | ok gj =>
            obtain ⟨g, j3⟩ := gj
            rw [h3] at k3
            dsimp only at k3
            intro H5 u5 r5 v5 hv5
            obtain ⟨a5, u6, r6, P6⟩ := app_fin (R := FnAt) (fun u n v d h => h.up u n) (u3.trans u4) ha a4 u5 r4 r5 P4 hv5
            have l1 := signM_ok (by simp) h2
            have l2 := fnM_ok h3
            have l3 : vs.length = acc.length := Paired.length P3
            refine ⟨vs, a5, by omega, (zl z).length - j3, by omega, rfl, acc ++ [g], _, j3, f, u6, r6, upd_same, P6, ?_, l2.2, by omega, k3, rfl⟩
            rw [List.length_append, List.length_singleton]
            omega
      · rw [if_neg hlt] at k3
        refine iteFf (decide_eq_false (by omega)) ⟨_, rfl, a, vs, rfl, .inl ⟨.inl (.inl a3), fun l hl => ?_⟩⟩
        have w1 : Up T [] H3 (upd H3 l (.tup vs)) := .new hl
        exact k3 _ (u3.trans w1.wide) _ ⟨l, vs, rfl, upd_same, L2.Paired.mapP P3 fun _ _ q => q.up w1 noTup0⟩
end
end Dc
set_option Elab.async false
set_option linter.all false
set_option maxRecDepth 100000
set_option maxHeartbeats 4000000
namespace Dc
open PySem PySem.Spec PyProof.Rows L2 DcG
theorem ps_never {X : Cx} {st : Stmt} : PS X st (fun _ _ _ => False) := ⟨fun _ _ _ _ _ _ h => h.elim⟩
section
variable {P : Program} {w : World} {K : PySem.W.Frag} {mg : Str → Option Value} {base : Heap} {T : TT} {C CI p a : Addr} {z : Str} {H0 H1 H2 : Hp}
/-! ### need_book, of a book -/
def spNeedBook (T : TT) : Sp := fun vs H Q _ => ∃ (v : V) (fs : List Fn), vs = [v] ∧ BookAt H v fs ∧ BookFits fs ∧ isBook fs = true ∧ Tabs T H ∧ ∀ H', Up T [] H H' → Q .non H'
theorem scNeedBook : FnScope ["book"] ["book"] (defScope sNeedBook) := ⟨rfl, rfl, rfl, by decide +kernel, rfl, by decide +kernel, by decide +kernel⟩
theorem ok_needBook {f : Addr} {fd : FuncData} (F : FnP K "need_book" "need_book" sNeedBook f fd) (cB : CalD P w K mg base CX0 14 "is_book" ["value"] (spIsBook T)) : FnOk P w K mg base CX0 15 f fd ["book"] (spNeedBook T) := by
  refine F.ok scNeedBook (fun vs H Q E h => ?_) (fun cdv A outer s H vs Q E hr h => ?_)
  · obtain ⟨v, fs, rfl, _⟩ := h
    rfl
  · obtain ⟨v, fs, rfl, hb, hf, hi, hT, k⟩ := h
    refine ⟨_, PSs.nox (pss_one (ps_if (pt_not (pt_val (pcl cB hr pass0 (pa_cons (pv 0) pa_nil)))) (pss_one ps_never) pss_nil)), ?_⟩
    refine ⟨_, rfl, v, fs, rfl, hb, hf, hT, fun H1 u1 => ⟨_, rfl, ?_⟩⟩
    rw [hi]
    exact iteF (k H1 u1)
/-! ### read_book -/
def spRead (T : TT) (CI : Addr) : Sp := fun vs H Q E => ∃ z, vs = [.str z] ∧ z.length ≤ sizeLine ∧ Tabs T H ∧ AnsE T CI [] H (readM (zl z)) (fun fs H' => ∀ v, BookAt H' v fs → BookFits fs → Q v H') E
theorem scRead : FnScope ["text", "found"] ["text"] (defScope sReadBook) := ⟨rfl, rfl, rfl, by decide +kernel, rfl, by decide +kernel, by decide +kernel⟩
theorem ok_read {f fI : Addr} {fd fdI : FuncData} (F : FnP K "read_book" "read_book" sReadBook f fd) (X : Txt K mg) (R : RdC K C) (I : ItC P w K mg base CI) (M : Mk K C fI) (FI : FnOk P w K mg base CX0 2 fI fdI ["self", "text"] (spRInit T C)) (hbI : Binds K fdI ["self", "text"] []) (mR : mg "Reading" = some (.ref C))
    (cB : CalD P w K mg base CX0 14 "is_book" ["value"] (spIsBook T)) (cK : MetD P w K mg base (L2.CX P w) 9 C "book" ["self"] (spBook T C CI)) :
    FnOk P w K mg base (L2.CX P w) 15 f fd ["text"] (spRead T CI) := by
  refine F.ok scRead (fun vs H Q E h => ?_) (fun cdv A outer s H vs Q E hr h => ?_)
  · obtain ⟨z, rfl, _⟩ := h
    rfl
  · obtain ⟨z, rfl, hz, hT, k⟩ := h
    have hr2 : Room 2 _ := hr.mono (by decide)
    have hr3 : Room 3 _ := hr.mono (by decide)
    have hr9 : Room 9 _ := hr.mono (by decide)
    refine ⟨_, pss_cons (ps_if (pt_not (pt_val (p_isi X.isi (pv 0) (p_str X.str)))) (pss_one ps_never) pss_nil)
      (pss_cons (ps_set (i := 1) scRead.nd rfl (Or.inl rfl) (pmt0 (E := E) cK R.cls hr9 (passes_call (takes_of rfl rfl rfl rfl) (fun _ _ _ _ h => h)) (pe_make (E := E) M FI hr3 (by rfl) mR hbI .nil pass0 (pa_cons (pv 0) pa_nil))))
      (pss_cons (ps_if (pt_not (pt_val (pcl cB hr pass0 (pa_cons (pv 1) pa_nil)))) (pss_one (ps_bad (T := T) (E := E) I hr2 rfl (takes_of rfl rfl rfl rfl) (pe_callB call_len_str (by rfl) X.len b_len (pa_cons (pv 0) pa_nil)))) pss_nil)
      (pss_one (ps_ret (pv 1))))), ?_⟩
    refine ⟨_, rfl, _, _, _, _, true, rfl, .ty _, .base (.str _), kit_ty isi_ss, true, rfl, iteF ?_⟩
    refine ⟨_, rfl, fun p dx hp hdx hne => ?_⟩
    have u1 : Up T [] H (upd (upd H dx (.own p)) p (.ins C dx [])) := .of_keep fun b o e => by
      rw [upd_ne (ne_of_none e hp), upd_ne (ne_of_none e hdx)]
      exact e
    refine ⟨p, dx, z, rfl, upd_same, hz, fun H2 u2 r2 => ⟨rfl, ?_⟩⟩
    have u2 : Up T [] H H2 := u1.drop u2 hp
    obtain ⟨dx2, hp2⟩ := id r2
    refine ⟨p, dx2, _, rfl, hp2, rfl, ?_⟩
    refine ⟨p, z, rfl, r2, hz, ?_⟩
    unfold readM at k
    cases h1 : bookM (zl z) with
    | error e =>
      rw [h1] at k
      exact fun d H' u hd => k d H' (u2.drop u hp) hd
    | ok fs =>
      rw [h1] at k
      dsimp only at k
      intro H3 u3 v hv
      have u3 : Up T [] H H3 := u2.drop u3 hp
      have hfit := bookM_fits hz h1
      refine ⟨_, rfl, v, fs, rfl, hv, hfit, u3.tabs hT, fun H4 u4 => ⟨_, rfl, ?_⟩⟩
      cases hb : isBook fs with
      | false =>
        rw [hb] at k
        refine iteT ⟨_, rfl, z, rfl, hz, fun d H' u hd => k d H' ((u3.trans u4).trans u) ?_⟩
        rw [← zl_len]
        exact hd
      | true =>
        rw [hb, if_pos rfl] at k
        exact iteF ⟨_, rfl, k H4 (u3.trans u4) v (hv.up u4 noTup0) hfit⟩
end
end Dc
set_option Elab.async false
set_option linter.all false
set_option maxRecDepth 100000
set_option maxHeartbeats 4000000
/-! the text of a book, plainly -/
namespace Dc
open PySem PySem.Spec PyProof.Rows L2 DcG
theorem zl_app (a b : Str) : zl (a ++ b) = zl a ++ zl b := TL.tl_append a b
theorem len_app (a b : Str) : (a ++ b).length = a.length + b.length := by
  rw [zl_len, zl_len, zl_len, zl_app, List.length_append]
def numT (n : Int) : Str := Str.ofString (toString n)
def gT : G → Str
  | .below c => "n < " ++ numT c
  | .frm c => "n >= " ++ numT c
  | .rest m r => "n mod " ++ numT m ++ " = " ++ numT r
def gsT : Bool → List G → Str
  | _, [] => Str.empty
  | b, g :: gs => (if b then (" if " : Str) else " and ") ++ gT g ++ gsT false gs
def ledT (r : Row) : Str := r.kind ++ " " ++ r.name ++ (if r.dn then (" - " : Str) else " ") ++ numT r.mv
def rowT (r : Row) : Str := ledT r ++ gsT true r.gs
def rsT : Bool → List Row → Str
  | _, [] => Str.empty
  | b, r :: rs => (if b then (": " : Str) else ", ") ++ rowT r ++ rsT false rs
def fnT (f : Fn) : Str := f.name ++ " " ++ numT f.size ++ rsT true f.rows
def bookT (fs : List Fn) : Str := Txt.join "; " (fs.map fnT)
/-! ### sizes -/
def Sm (n : Int) : Prop := 0 ≤ n ∧ n ≤ 60
def GSm : G → Prop
  | .below c => Sm c
  | .frm c => Sm c
  | .rest m r => Sm m ∧ Sm r
def RowSm (r : Row) : Prop := (∀ g ∈ r.gs, GSm g) ∧ r.gs.length ≤ 3 ∧ r.kind.length ≤ 4 ∧ r.name.length ≤ 8 ∧ Sm r.mv
def FnSm (f : Fn) : Prop := f.name.length ≤ 8 ∧ Sm f.size ∧ f.rows.length ≤ 6 ∧ ∀ r ∈ f.rows, RowSm r
def BookSm (fs : List Fn) : Prop := fs.length ≤ 4 ∧ ∀ f ∈ fs, FnSm f
theorem inR_iff {n lo hi : Int} : inR n lo hi = true ↔ lo ≤ n ∧ n ≤ hi := by
  unfold inR
  rw [Bool.and_eq_true, decide_eq_true_eq, decide_eq_true_eq]
theorem isG_sm {g : G} (h : isG g = true) : GSm g := by
  cases g with
  | below c => exact inR_iff.mp h
  | frm c => exact inR_iff.mp h
  | rest m r =>
    have h : (if inR m 2 4 = true then inR r 0 (m - 1) else false) = true := h
    split at h
    · rename_i hm
      have h1 := inR_iff.mp hm
      have h2 := inR_iff.mp h
      exact ⟨⟨by omega, by omega⟩, ⟨by omega, by omega⟩⟩
    · cases h
theorem isName_sm {s : Str} (h : isName s = true) : s.length ≤ 8 := by
  unfold isName at h
  split at h
  · rename_i h1
    rw [Bool.and_eq_true, decide_eq_true_eq, decide_eq_true_eq] at h1
    omega
  · cases h
theorem isMv_sm {dn : Bool} {c : Int} (h : isMv dn c = true) : Sm c := by
  unfold isMv at h
  split at h
  · have := inR_iff.mp h
    exact ⟨by omega, by omega⟩
  · exact inR_iff.mp h
theorem isRow_sm {r : Row} (h : isRow r = true) : RowSm r := by
  unfold isRow at h
  split at h
  · rename_i h1
    split at h
    · rename_i h2
      split at h
      · rename_i h3
        rw [Bool.and_eq_true] at h
        refine ⟨fun g hg => isG_sm (List.all_eq_true.mp h2 g hg), h1, ?_, isName_sm h.1, isMv_sm h.2⟩
        rcases List.mem_cons.mp h3 with q | q
        · rw [q]; decide +kernel
        · rw [List.mem_singleton.mp q]; decide +kernel
      · cases h
    · cases h
  · cases h
theorem isFn_sm {f : Fn} (h : isFn f = true) : FnSm f := by
  unfold isFn at h
  split at h
  · rename_i h1
    split at h
    · rename_i h2
      rw [Bool.and_eq_true, decide_eq_true_eq] at h
      have := inR_iff.mp h2
      exact ⟨isName_sm h1, ⟨by omega, by omega⟩, h.1, fun r hr => isRow_sm (List.all_eq_true.mp h.2 r hr)⟩
    · cases h
  · cases h
theorem isBook_sm {fs : List Fn} (h : isBook fs = true) : BookSm fs := by
  unfold isBook at h
  split at h
  · rename_i h1
    rw [Bool.and_eq_true, decide_eq_true_eq, decide_eq_true_eq] at h1
    split at h
    · rename_i h2
      exact ⟨h1.2, fun f hf => isFn_sm (List.all_eq_true.mp h2 f hf)⟩
    · cases h
  · cases h
theorem num_all : ∀ n : Fin 61, (numT ((n.val : Nat) : Int)).length ≤ 2 := by decide +kernel
theorem num_len {n : Int} (h : Sm n) : (numT n).length ≤ 2 := by
  obtain ⟨h1, h2⟩ := h
  have e : n = ((n.toNat : Nat) : Int) := by omega
  rw [e]
  exact num_all ⟨n.toNat, by omega⟩
theorem sm_log {n : Int} (h : Sm n) : n.natAbs.log2 < 1920 := by
  obtain ⟨h1, h2⟩ := h
  have h3 : n.natAbs < 2 ^ 6 := by omega
  by_cases h0 : n.natAbs = 0
  · rw [h0]; decide
  · have := (Nat.log2_lt h0).mpr h3
    omega
theorem gT_len {g : G} (h : GSm g) : (gT g).length ≤ 13 := by
  have e1 : ("n < " : Str).length = 4 := by decide +kernel
  have e2 : ("n >= " : Str).length = 5 := by decide +kernel
  have e3 : ("n mod " : Str).length = 6 := by decide +kernel
  have e4 : (" = " : Str).length = 3 := by decide +kernel
  cases g with
  | below c =>
    have := num_len h
    show ("n < " ++ numT c).length ≤ 13
    rw [len_app]
    omega
  | frm c =>
    have := num_len h
    show ("n >= " ++ numT c).length ≤ 13
    rw [len_app]
    omega
  | rest m r =>
    have h1 := num_len h.1
    have h2 := num_len h.2
    show ("n mod " ++ numT m ++ " = " ++ numT r).length ≤ 13
    rw [len_app, len_app, len_app]
    omega
theorem gsT_len : ∀ {b : Bool} {gs : List G}, (∀ g ∈ gs, GSm g) → (gsT b gs).length ≤ 18 * gs.length
  | _, [], _ => by show 0 ≤ _; omega
  | b, g :: gs, h => by
    have e1 : (" if " : Str).length = 4 := by decide +kernel
    have e2 : (" and " : Str).length = 5 := by decide +kernel
    have h1 := gT_len (h g List.mem_cons_self)
    have h2 := gsT_len (b := false) (gs := gs) fun x hx => h x (List.mem_cons_of_mem _ hx)
    show ((if b then (" if " : Str) else " and ") ++ gT g ++ gsT false gs).length ≤ _
    rw [len_app, len_app, List.length_cons]
    cases b
    · show (" and " : Str).length + _ + _ ≤ _
      omega
    · show (" if " : Str).length + _ + _ ≤ _
      omega
theorem ledT_len {r : Row} (h : RowSm r) : (ledT r).length ≤ 18 := by
  obtain ⟨_, _, h3, h4, h5⟩ := h
  have e1 : (" " : Str).length = 1 := by decide +kernel
  have e2 : (" - " : Str).length = 3 := by decide +kernel
  have := num_len h5
  unfold ledT
  rw [len_app, len_app, len_app, len_app]
  cases r.dn
  · show _ + _ + _ + (" " : Str).length + _ ≤ _
    omega
  · show _ + _ + _ + (" - " : Str).length + _ ≤ _
    omega
theorem rowT_len {r : Row} (h : RowSm r) : (rowT r).length ≤ 72 := by
  have h1 := ledT_len h
  have h2 := gsT_len (b := true) h.1
  have h3 := h.2.1
  unfold rowT
  rw [len_app]
  omega
theorem rsT_len : ∀ {b : Bool} {rs : List Row}, (∀ r ∈ rs, RowSm r) → (rsT b rs).length ≤ 74 * rs.length
  | _, [], _ => by show 0 ≤ _; omega
  | b, g :: gs, h => by
    have e1 : (": " : Str).length = 2 := by decide +kernel
    have e2 : (", " : Str).length = 2 := by decide +kernel
    have h1 := rowT_len (h g List.mem_cons_self)
    have h2 := rsT_len (b := false) (rs := gs) fun x hx => h x (List.mem_cons_of_mem _ hx)
    show ((if b then (": " : Str) else ", ") ++ rowT g ++ rsT false gs).length ≤ _
    rw [len_app, len_app, List.length_cons]
    cases b
    · show (", " : Str).length + _ + _ ≤ _
      omega
    · show (": " : Str).length + _ + _ ≤ _
      omega
theorem fnT_len {f : Fn} (h : FnSm f) : (fnT f).length ≤ 456 := by
  obtain ⟨h1, h2, h3, h4⟩ := h
  have e1 : (" " : Str).length = 1 := by decide +kernel
  have := num_len h2
  have := rsT_len (b := true) h4
  unfold fnT
  rw [len_app, len_app, len_app]
  omega
/-! ### joined -/
theorem app_empty (a : Str) : a ++ Str.empty = a := str_ext (by show zl _ = zl _; rw [zl_app]; show zl a ++ [] = _; rw [List.append_nil])
theorem app_assoc (a b c : Str) : a ++ b ++ c = a ++ (b ++ c) := str_ext (by show zl _ = zl _; rw [zl_app, zl_app, zl_app, zl_app, List.append_assoc])
theorem join_gs (g : G) : ∀ gs : List G, gT g ++ gsT false gs = Txt.join " and " ((g :: gs).map gT)
  | [] => by rw [show gsT false [] = Str.empty from rfl, app_empty, TL.join_eq]; rfl
  | g2 :: gs => by
    have e : Txt.join " and " ((g :: g2 :: gs).map gT) = gT g ++ " and " ++ Txt.join " and " ((g2 :: gs).map gT) := by
      rw [TL.join_eq, TL.join_eq]
      rfl
    rw [e, ← join_gs g2 gs]
    show gT g ++ (" and " ++ gT g2 ++ gsT false gs) = _
    rw [app_assoc, app_assoc]
theorem gsT_join (g : G) (gs : List G) : gsT true (g :: gs) = " if " ++ Txt.join " and " ((g :: gs).map gT) := by
  rw [← join_gs]
  show " if " ++ gT g ++ gsT false gs = _
  rw [app_assoc]
theorem join_rs (g : Row) : ∀ gs : List Row, rowT g ++ rsT false gs = Txt.join ", " ((g :: gs).map rowT)
  | [] => by rw [show rsT false [] = Str.empty from rfl, app_empty, TL.join_eq]; rfl
  | g2 :: gs => by
    have e : Txt.join ", " ((g :: g2 :: gs).map rowT) = rowT g ++ ", " ++ Txt.join ", " ((g2 :: gs).map rowT) := by
      rw [TL.join_eq, TL.join_eq]
      rfl
    rw [e, ← join_rs g2 gs]
    show rowT g ++ (", " ++ rowT g2 ++ rsT false gs) = _
    rw [app_assoc, app_assoc]
theorem rsT_join (g : Row) (gs : List Row) : rsT true (g :: gs) = ": " ++ Txt.join ", " ((g :: gs).map rowT) := by
  rw [← join_rs]
  show ": " ++ rowT g ++ rsT false gs = _
  rw [app_assoc]
end Dc
set_option Elab.async false
set_option linter.all false
set_option maxRecDepth 100000
set_option maxHeartbeats 4000000
namespace Dc
open PySem PySem.Spec PyProof.Rows L2 DcG
theorem empty_app (a : Str) : Str.empty ++ a = a := str_ext (by show zl _ = zl _; rw [zl_app]; rfl)
theorem szl : 100000 ≤ sizeLine := by decide
theorem sum_le {B : Nat} : ∀ {ys : List Str}, (∀ y ∈ ys, y.length ≤ B) → (ys.map (·.length)).sum ≤ B * ys.length
  | [], _ => by simp
  | y :: ys, h => by
    have h1 := h y List.mem_cons_self
    have h2 := sum_le (ys := ys) fun x hx => h x (List.mem_cons_of_mem _ hx)
    rw [List.map_cons, List.sum_cons, List.length_cons, Nat.mul_add]
    omega
section
variable {P : Program} {w : World} {K : PySem.W.Frag} {mg : Str → Option Value} {base : Heap} {T : TT}
/-! ### write_guard -/
def spWG : Sp := fun vs H Q _ => ∃ v g, vs = [v] ∧ GAt H v g ∧ GSm g ∧ Q (.str (gT g)) H
theorem scWG : FnScope ["guard"] ["guard"] (defScope sWriteGuard) := ⟨rfl, rfl, rfl, by decide +kernel, rfl, by decide +kernel, by decide +kernel⟩
theorem ok_wGuard {f : Addr} {fd : FuncData} (F : FnP K "write_guard" "write_guard" sWriteGuard f fd) : FnOk P w K mg base CX0 1 f fd ["guard"] spWG := by
  refine F.ok scWG (fun vs H Q E h => ?_) (fun cdv A outer s H vs Q E hr h => ?_)
  · obtain ⟨v, g, rfl, _⟩ := h
    rfl
  · obtain ⟨v, g, rfl, hg, hs, k⟩ := h
    refine ⟨_, PSs.nox (pss_cons (ps_if (pt_cmpR op_eq (pe_ix ix_tup (pv 0) pe_int (fun _ _ => rfl)) pe_str (nomark _)) (pss_one (ps_ret (pe_joined (.cons pe_str (.cons (pe_fmt (pe_ix ix_tup (pv 0) pe_int (fun _ _ => rfl))) .nil))))) pss_nil)
      (pss_one (ps_ret (pe_ifExp (pt_cmpR op_eq (pe_ix ix_tup (pv 0) pe_int (fun _ _ => rfl)) pe_str (nomark _)) (pe_joined (.cons pe_str (.cons (pe_fmt (pe_ix ix_tup (pv 0) pe_int (fun _ _ => rfl))) .nil)))
        (pe_joined (.cons pe_str (.cons (pe_fmt (pe_ix ix_tup (pv 0) pe_int (fun _ _ => rfl))) (.cons pe_str (.cons (pe_fmt (pe_ix ix_tup (pv 0) pe_int (fun _ _ => rfl))) .nil))))))))), ?_⟩
    have hsz := szl
    cases g with
    | below c =>
      obtain ⟨a, rfl, ha⟩ := hg
      have hl := gT_len hs
      have e : Str.empty ++ "n < " ++ Str.ofString (toString c) = gT (.below c) := by rw [empty_app]; rfl
      refine ⟨_, rfl, a, _, 0, _, rfl, rfl, .inl (.inl ha), rfl, rfl, true, by decide +kernel, iteT ?_⟩
      refine ⟨_, rfl, by decide +kernel, _, rfl, a, _, 1, _, rfl, rfl, .inl (.inl ha), rfl, .inr ⟨c, rfl, sm_log hs, _, rfl, by rw [e]; omega, ?_⟩⟩
      show Q (.str (Str.empty ++ "n < " ++ Str.ofString (toString c))) H
      rw [e]
      exact k
    | frm c =>
      obtain ⟨a, rfl, ha⟩ := hg
      have hl := gT_len hs
      have e : Str.empty ++ "n >= " ++ Str.ofString (toString c) = gT (.frm c) := by rw [empty_app]; rfl
      refine ⟨_, rfl, a, _, 0, _, rfl, rfl, .inl (.inl ha), rfl, rfl, false, by decide +kernel, iteF ?_⟩
      refine ⟨_, rfl, a, _, 0, _, rfl, rfl, .inl (.inl ha), rfl, rfl, true, by decide +kernel, iteT ?_⟩
      refine ⟨_, rfl, by decide +kernel, _, rfl, a, _, 1, _, rfl, rfl, .inl (.inl ha), rfl, .inr ⟨c, rfl, sm_log hs, _, rfl, by rw [e]; omega, ?_⟩⟩
      show Q (.str (Str.empty ++ "n >= " ++ Str.ofString (toString c))) H
      rw [e]
      exact k
    | rest m r =>
      obtain ⟨a, rfl, ha⟩ := hg
      have hl := gT_len (g := .rest m r) hs
      have h1 : (Str.ofString (toString m)).length ≤ 2 := num_len hs.1
      have e0 : (Str.empty ++ "n mod ").length = 6 := by decide +kernel
      have e3 : (" = " : Str).length = 3 := by decide +kernel
      have e : Str.empty ++ "n mod " ++ Str.ofString (toString m) ++ " = " ++ Str.ofString (toString r) = gT (.rest m r) := by rw [empty_app]; rfl
      refine ⟨_, rfl, a, _, 0, _, rfl, rfl, .inl (.inl ha), rfl, rfl, false, by decide +kernel, iteF ?_⟩
      refine ⟨_, rfl, a, _, 0, _, rfl, rfl, .inl (.inl ha), rfl, rfl, false, by decide +kernel, iteF ?_⟩
      refine ⟨_, rfl, by decide +kernel, _, rfl, a, _, 1, _, rfl, rfl, .inl (.inl ha), rfl, .inr ⟨m, rfl, sm_log hs.1, _, rfl, by rw [len_app]; omega, _, rfl, by rw [len_app, len_app]; omega, ?_⟩⟩
      refine ⟨_, rfl, a, _, 2, _, rfl, rfl, .inl (.inl ha), rfl, .inr ⟨r, rfl, sm_log hs.2, _, rfl, by rw [e]; omega, ?_⟩⟩
      show Q (.str (Str.empty ++ "n mod " ++ Str.ofString (toString m) ++ " = " ++ Str.ofString (toString r))) H
      rw [e]
      exact k
/-! ### write_row -/
theorem gT_pos (g : G) : 1 ≤ (gT g).length := by
  have e1 : ("n < " : Str).length = 4 := by decide +kernel
  have e2 : ("n >= " : Str).length = 5 := by decide +kernel
  have e3 : ("n mod " : Str).length = 6 := by decide +kernel
  cases g with
  | below c => show 1 ≤ ("n < " ++ numT c).length; rw [len_app]; omega
  | frm c => show 1 ≤ ("n >= " ++ numT c).length; rw [len_app]; omega
  | rest m r => show 1 ≤ ("n mod " ++ numT m ++ " = " ++ numT r).length; rw [len_app, len_app, len_app]; omega
def tLed : TE := fun σ H Q => ∃ (r : Row) (m : V), σ[2]? = some (some (.str r.kind)) ∧ σ[3]? = some (some (.str r.name)) ∧ σ[4]? = some (some m) ∧ MvAt H m r.dn r.mv ∧ RowSm r ∧ Q (.str (ledT r)) H
theorem map_take {δ : Type} (f : δ → V) (ds : List δ) {i : Nat} {d : δ} (e : ds[i]? = some d) : (ds.take (i + 1)).map f = (ds.take i).map f ++ [f d] := by
  rw [List.take_add_one, e, List.map_append]
  rfl
def spWR (T : TT) : Sp := fun vs H Q _ => ∃ v r, vs = [v] ∧ RowAt H v r ∧ RowSm r ∧ ∀ H', Up T [] H H' → Q (.str (rowT r)) H'
theorem scWR : FnScope ["row", "guards", "kind", "name", "move", "led", "some", "guard"] ["row"] (defScope sWriteRow) := ⟨rfl, rfl, rfl, by decide +kernel, rfl, by decide +kernel, by decide +kernel⟩
theorem ok_wRow {f : Addr} {fd : FuncData} (F : FnP K "write_row" "write_row" sWriteRow f fd) (cG : CalD P w K mg base CX0 1 "write_guard" ["guard"] spWG) : FnOk P w K mg base CX0 2 f fd ["row"] (spWR T) := by
  refine F.ok scWR (fun vs H Q E h => ?_) (fun cdv A outer s H vs Q E hr h => ?_)
  · obtain ⟨v, g, rfl, _⟩ := h
    rfl
  · obtain ⟨v, r, rfl, hrow, hs, k⟩ := h
    refine ⟨_, PSs.nox (pss_cons (ps_asg (pv 0) (pg_tup rfl (pgs_cons (pg_name (i := 1) scWR.nd rfl (Or.inl rfl)) (pgs_cons (pg_name (i := 2) scWR.nd rfl (Or.inl rfl)) (pgs_cons (pg_name (i := 3) scWR.nd rfl (Or.inl rfl)) (pgs_cons (pg_name (i := 4) scWR.nd rfl (Or.inl rfl)) pgs_nil))))))
      (pss_cons (ps_set (i := 5) scWR.nd rfl (Or.inl rfl) (PE.of (t' := tLed) (pe_ifExp (pt_cmpR op_eq (pe_ix ix_tup (pv 4) pe_int (fun _ _ => rfl)) pe_str (nomark _))
          (pe_joined (.cons (pe_fmt (pv 2)) (.cons pe_str (.cons (pe_fmt (pv 3)) (.cons pe_str (.cons (pe_fmt (pe_ix ix_tup (pv 4) pe_int (fun _ _ => rfl))) .nil))))))
          (pe_joined (.cons (pe_fmt (pv 2)) (.cons pe_str (.cons (pe_fmt (pv 3)) (.cons pe_str (.cons (pe_fmt (pe_ix ix_tup (pv 4) pe_int (fun _ _ => rfl))) .nil))))))) ?_))
      (pss_cons (ps_set (i := 6) scWR.nd rfl (Or.inl rfl) (pe_join pe_str (pe_lc rfl scWR.nd (pi_tup (pv 1)) (blkOk_by (N := ["row", "guards", "kind", "name", "move", "led", "some", "guard"]) (sc := defScope sWriteRow) (own := [("guard", 7)]) (by decide +kernel))
          (fun s H C cl fp => pg_name (i := 7) scWR.nd rfl (Or.inl rfl)) (fun s H C cl fp => pts_nil) (fun s H C cl fp => pcl cG hr pass0 (pa_cons (pv 7) pa_nil)))))
      (pss_one (ps_ret (pe_ifExp (pt_truth (pv 6) (fun _ => rfl)) (pe_joined (.cons (pe_fmt (pv 5)) (.cons pe_str (.cons (pe_fmt (pv 6)) .nil)))) (pv 5))))))), ?_⟩
    · rintro σ H Q ⟨r, m, e2, e3, e4, ⟨a, rfl, ha⟩, hs, k⟩
      have hsz := szl
      have hl := ledT_len hs
      obtain ⟨_, _, l1, l2, l3⟩ := hs
      have l4 : (Str.ofString (toString r.mv)).length ≤ 2 := num_len l3
      have s1 : (" " : Str).length = 1 := by decide +kernel
      have s2 : (" - " : Str).length = 3 := by decide +kernel
      have s0 : (Str.empty : Str).length = 0 := rfl
      cases hd : r.dn with
      | false =>
        rw [hd] at ha
        have e : Str.empty ++ r.kind ++ " " ++ r.name ++ " " ++ Str.ofString (toString r.mv) = ledT r := by
          rw [empty_app]
          unfold ledT
          rw [hd]
          rfl
        refine ⟨_, e4, a, _, 0, _, rfl, rfl, .inl (.inl ha), rfl, rfl, true, by decide +kernel, iteT ?_⟩
        refine ⟨_, e2, .inl ⟨_, rfl, by omega, _, rfl, by rw [len_app]; omega, _, rfl, by rw [len_app, len_app]; omega, ?_⟩⟩
        refine ⟨_, e3, .inl ⟨_, rfl, by omega, _, rfl, by rw [len_app, len_app, len_app]; omega, _, rfl, by rw [len_app, len_app, len_app, len_app]; omega, ?_⟩⟩
        refine ⟨_, e4, a, _, 1, _, rfl, rfl, .inl (.inl ha), rfl, .inr ⟨r.mv, rfl, sm_log l3, _, rfl, by rw [e]; omega, ?_⟩⟩
        show Q (.str (Str.empty ++ r.kind ++ " " ++ r.name ++ " " ++ Str.ofString (toString r.mv))) H
        rw [e]
        exact k
      | true =>
        rw [hd] at ha
        have e : Str.empty ++ r.kind ++ " " ++ r.name ++ " - " ++ Str.ofString (toString r.mv) = ledT r := by
          rw [empty_app]
          unfold ledT
          rw [hd]
          rfl
        refine ⟨_, e4, a, _, 0, _, rfl, rfl, .inl (.inl ha), rfl, rfl, false, by decide +kernel, iteF ?_⟩
        refine ⟨_, e2, .inl ⟨_, rfl, by omega, _, rfl, by rw [len_app]; omega, _, rfl, by rw [len_app, len_app]; omega, ?_⟩⟩
        refine ⟨_, e3, .inl ⟨_, rfl, by omega, _, rfl, by rw [len_app, len_app, len_app]; omega, _, rfl, by rw [len_app, len_app, len_app, len_app]; omega, ?_⟩⟩
        refine ⟨_, e4, a, _, 1, _, rfl, rfl, .inl (.inl ha), rfl, .inr ⟨r.mv, rfl, sm_log l3, _, rfl, by rw [e]; omega, ?_⟩⟩
        show Q (.str (Str.empty ++ r.kind ++ " " ++ r.name ++ " - " ++ Str.ofString (toString r.mv))) H
        rw [e]
        exact k
    · obtain ⟨a, g, m, gs, rfl, ha, hg, hgs, hm⟩ := hrow
      have hsz := szl
      have hl := ledT_len hs
      refine ⟨_, rfl, a, _, rfl, .inl (.inl ha), rfl, _, _, rfl, _, _, rfl, _, _, rfl, _, _, rfl, rfl, ?_⟩
      refine ⟨r, m, rfl, rfl, rfl, hm, hs, ?_⟩
      refine ⟨⟨_, rfl⟩, _, rfl, g, rfl, ⟨gs, .inl (.inl hg)⟩, fun D hD => ?_⟩
      have hlen : gs.length = r.gs.length := Paired.length hgs
      have hl3 := hs.2.1
      refine lc_tup (xs := gs) (fun i H' => Up T [] H H' ∧ H' D = some (.lst ((r.gs.take i).map fun g => V.str (gT g)))) ⟨.new hD, upd_same⟩ (fun i H3 _ p => .inl (.inl (p.1.tup noTup0 hg))) (fun i x H3 e p => ?_) fun H3 p => ?_
      · obtain ⟨d, ed, hd⟩ := paired_get hgs e
        refine ⟨rfl, yesI (iteT ⟨_, rfl, x, d, rfl, hd.up p.1 noTup0, hs.1 d (List.mem_of_getElem? ed), _, p.2, ?_, p.1.drop (.put p.2 rfl List.mem_cons_self) hD, ?_⟩)⟩
        · rw [List.length_map, List.length_take]
          omega
        · rw [upd_same, map_take _ _ ed]
      · obtain ⟨u3, hD3⟩ := p
        rw [List.take_of_length_le (by omega)] at hD3
        have hb : ∀ y ∈ r.gs.map gT, y.length ≤ 13 := fun y hy => by
          obtain ⟨g', hg', rfl⟩ := List.mem_map.mp hy
          exact gT_len (hs.1 g' hg')
        have hsum := sum_le hb
        have s5 : (" and " : Str).length = 5 := by decide +kernel
        refine ⟨" and ", D, r.gs.map gT, rfl, rfl, .inl (.inl (.inl (by rw [List.map_map]; exact hD3))), ?_, ?_⟩
        · rw [List.length_map] at hsum ⊢
          rw [s5]
          omega
        · cases hgs0 : r.gs with
          | nil =>
            refine ⟨_, rfl, false, ⟨by decide +kernel, by decide +kernel⟩, iteF ⟨_, rfl, ?_⟩⟩
            have e : rowT r = ledT r := by
              unfold rowT
              rw [hgs0]
              exact app_empty _
            rw [← e]
            exact k H3 u3
          | cons g0 gs0 =>
            have ej := join_gs g0 gs0
            have hpos := gT_pos g0
            have hgl := gsT_len (b := true) hs.1
            rw [hgs0, gsT_join, len_app] at hgl
            rw [hgs0] at hl3
            have s4 : (" if " : Str).length = 4 := by decide +kernel
            have hjl : 1 ≤ (Txt.join " and " ((g0 :: gs0).map gT)).length := by
              rw [← ej, len_app]
              omega
            generalize hJ : Txt.join " and " ((g0 :: gs0).map gT) = J at hgl hjl ⊢
            refine ⟨_, rfl, true, ⟨by omega, ?_⟩, iteT ?_⟩
            · exact (bne_iff_ne.mpr (by omega)).symm
            · have e : Str.empty ++ ledT r ++ " if " ++ J = rowT r := by
                unfold rowT
                rw [empty_app, hgs0, gsT_join, hJ, app_assoc]
              refine ⟨_, rfl, .inl ⟨_, rfl, by omega, _, rfl, by rw [empty_app]; omega, _, rfl, by rw [empty_app, len_app]; omega, ?_⟩⟩
              refine ⟨_, rfl, .inl ⟨_, rfl, by omega, _, rfl, by rw [empty_app, len_app, len_app]; omega, ?_⟩⟩
              show Q (.str (Str.empty ++ ledT r ++ " if " ++ J)) H3
              rw [e]
              exact k H3 u3
end
end Dc
set_option Elab.async false
set_option linter.all false
set_option maxRecDepth 100000
set_option maxHeartbeats 4000000
namespace Dc
open PySem PySem.Spec PyProof.Rows L2 DcG
section
variable {P : Program} {w : World} {K : PySem.W.Frag} {mg : Str → Option Value} {base : Heap} {T : TT}
/-! ### write_book -/
def spWB (T : TT) : Sp := fun vs H Q _ => ∃ v fs, vs = [v] ∧ BookAt H v fs ∧ BookFits fs ∧ isBook fs = true ∧ Tabs T H ∧ ∀ H', Up T [] H H' → Q (.str (bookT fs)) H'
theorem scWB : FnScope ["book", "found", "name", "size", "rows", "some", "row"] ["book"] (defScope sWriteBook) := ⟨rfl, rfl, rfl, by decide +kernel, rfl, by decide +kernel, by decide +kernel⟩
theorem rowT_pos (r : Row) : 1 ≤ (rowT r).length := by
  have s1 : (" " : Str).length = 1 := by decide +kernel
  unfold rowT ledT
  rw [len_app, len_app, len_app, len_app, len_app]
  omega
theorem bookT_len {fs : List Fn} (h : BookSm fs) : (fs.map fnT).length ≤ 4 ∧ ((fs.map fnT).map (·.length)).sum ≤ 456 * (fs.map fnT).length := by
  refine ⟨by rw [List.length_map]; exact h.1, sum_le fun y hy => ?_⟩
  obtain ⟨f, hf, rfl⟩ := List.mem_map.mp hy
  exact fnT_len (h.2 f hf)
def tFnT : TE := fun σ H Q => ∃ f : Fn, σ[2]? = some (some (.str f.name)) ∧ σ[3]? = some (some (.int f.size)) ∧ σ[5]? = some (some (.str (Txt.join ", " (f.rows.map rowT)))) ∧ FnSm f ∧ Q (.str (fnT f)) H
theorem ok_wBook {f : Addr} {fd : FuncData} (F : FnP K "write_book" "write_book" sWriteBook f fd) (cN : CalD P w K mg base CX0 15 "need_book" ["book"] (spNeedBook T)) (cR : CalD P w K mg base CX0 2 "write_row" ["row"] (spWR T)) : FnOk P w K mg base CX0 16 f fd ["book"] (spWB T) := by
  refine F.ok scWB (fun vs H Q E h => ?_) (fun cdv A outer s H vs Q E hr h => ?_)
  · obtain ⟨v, g, rfl, _⟩ := h
    rfl
  · obtain ⟨v, fs, rfl, hb, hfit, hi, hT, k⟩ := h
    have hr2 : Room 2 _ := hr.mono (by decide)
    refine ⟨_, PSs.nox (pss_cons (ps_expr (pcl cN hr pass0 (pa_cons (pv 0) pa_nil)))
      (pss_cons (ps_set (i := 1) scWB.nd rfl (Or.inl rfl) (pe_lst pa_nil))
      (pss_cons (ps_for PassesOwn.never rfl (pi_tup (pv 0)) (pg_tup rfl (pgs_cons (pg_name (i := 2) scWB.nd rfl (Or.inl rfl)) (pgs_cons (pg_name (i := 3) scWB.nd rfl (Or.inl rfl)) (pgs_cons (pg_name (i := 4) scWB.nd rfl (Or.inl rfl)) pgs_nil))))
        (pss_cons (ps_set (i := 5) scWB.nd rfl (Or.inl rfl) (pe_join pe_str (pe_lc rfl scWB.nd (pi_tup (pv 4)) (blkOk_by (N := ["book", "found", "name", "size", "rows", "some", "row"]) (sc := defScope sWriteBook) (own := [("row", 6)]) (by decide +kernel))
            (fun s H C cl fp => pg_name (i := 6) scWB.nd rfl (Or.inl rfl)) (fun s H C cl fp => pts_nil) (fun s H C cl fp => pcl cR hr2 pass0 (pa_cons (pv 6) pa_nil)))))
        (pss_cons (ps_app (pv 1) (PE.of (t' := tFnT) (pe_ifExp (pt_truth (pv 5) (fun _ => rfl)) (pe_joined (.cons (pe_fmt (pv 2)) (.cons pe_str (.cons (pe_fmt (pv 3)) (.cons pe_str (.cons (pe_fmt (pv 5)) .nil))))))
            (pe_joined (.cons (pe_fmt (pv 2)) (.cons pe_str (.cons (pe_fmt (pv 3)) .nil))))) ?_)) pss_nil)))
      (pss_one (ps_ret (pe_join pe_str (pv 1))))))), ?_⟩
    · rintro σ H Q ⟨f, e2, e3, e5, hs, k⟩
      have hsz := szl
      have hl := fnT_len hs
      obtain ⟨l1, l2, l3, l4⟩ := hs
      have l5 : (Str.ofString (toString f.size)).length ≤ 2 := num_len l2
      have s1 : (" " : Str).length = 1 := by decide +kernel
      have s2 : (": " : Str).length = 2 := by decide +kernel
      cases hrs : f.rows with
      | nil =>
        rw [hrs] at e5
        have e : Str.empty ++ f.name ++ " " ++ Str.ofString (toString f.size) = fnT f := by
          rw [empty_app]
          unfold fnT
          rw [hrs]
          exact (app_empty _).symm
        refine ⟨_, e5, false, ⟨by decide +kernel, by decide +kernel⟩, iteF ?_⟩
        refine ⟨_, e2, .inl ⟨_, rfl, by omega, _, rfl, by rw [empty_app]; omega, _, rfl, by rw [empty_app, len_app]; omega, ?_⟩⟩
        refine ⟨_, e3, .inr ⟨f.size, rfl, sm_log l2, _, rfl, by rw [e]; omega, ?_⟩⟩
        show Q (.str (Str.empty ++ f.name ++ " " ++ Str.ofString (toString f.size))) H
        rw [e]
        exact k
      | cons r0 rs0 =>
        rw [hrs] at e5
        have hgl := rsT_len (b := true) l4
        rw [hrs, rsT_join, len_app] at hgl
        rw [hrs] at l3
        have hpos := rowT_pos r0
        have ej := join_rs r0 rs0
        have hjl : 1 ≤ (Txt.join ", " ((r0 :: rs0).map rowT)).length := by
          rw [← ej, len_app]
          omega
        generalize hJ : Txt.join ", " ((r0 :: rs0).map rowT) = J at hgl hjl e5
        have e : Str.empty ++ f.name ++ " " ++ Str.ofString (toString f.size) ++ ": " ++ J = fnT f := by
          rw [empty_app]
          unfold fnT
          rw [hrs, rsT_join, hJ]
          exact app_assoc _ _ _
        refine ⟨_, e5, true, ⟨by omega, (bne_iff_ne.mpr (by omega)).symm⟩, iteT ?_⟩
        refine ⟨_, e2, .inl ⟨_, rfl, by omega, _, rfl, by rw [empty_app]; omega, _, rfl, by rw [empty_app, len_app]; omega, ?_⟩⟩
        refine ⟨_, e3, .inr ⟨f.size, rfl, sm_log l2, _, rfl, by rw [empty_app, len_app, len_app]; omega, _, rfl, by rw [empty_app, len_app, len_app, len_app]; omega, ?_⟩⟩
        refine ⟨_, e5, .inl ⟨_, rfl, by omega, _, rfl, by rw [e]; omega, ?_⟩⟩
        show Q (.str (Str.empty ++ f.name ++ " " ++ Str.ofString (toString f.size) ++ ": " ++ J)) H
        rw [e]
        exact k
    · have hsm := isBook_sm hi
      have hsz := szl
      obtain ⟨a, xs, rfl, ha, hfs⟩ := id hb
      have hlen : xs.length = fs.length := Paired.length hfs
      refine ⟨_, rfl, _, fs, rfl, hb, hfit, hi, hT, fun H1 u1 => ?_⟩
      refine ⟨by show 0 ≤ sizeLine; decide, fun l hl => ?_⟩
      refine ⟨_, rfl, a, rfl, ⟨xs, .inl (.inl ((u1.trans (.new hl)).tup noTup0 ha))⟩, ?_⟩
      refine for_tup (xs := xs) (fun i σ H' => (∃ x2 x3 x4 x5 x6, σ = [some (.ref a), some (.ref l), x2, x3, x4, x5, x6]) ∧ Up T [] H1 H' ∧ H' l = some (.lst ((fs.take i).map fun f => V.str (fnT f)))) ⟨⟨_, _, _, _, _, rfl⟩, .new hl, upd_same⟩ (fun i σ H' _ p => .inl (.inl ((u1.trans p.2.1).tup noTup0 ha))) ?_ ?_
      · rintro i x σ H2 e ⟨⟨x2, x3, x4, x5, x6, rfl⟩, u2, hl2⟩
        obtain ⟨f, ef, hf⟩ := paired_get hfs e
        have hf := hf.up (u1.trans u2) noTup0
        have hfsm := hsm.2 f (List.mem_of_getElem? ef)
        obtain ⟨b, g, rs, rfl, hb2, hg, hrs⟩ := hf
        refine ⟨b, _, rfl, .inl (.inl hb2), rfl, _, _, rfl, _, _, rfl, _, _, rfl, rfl, ?_⟩
        have hlen2 : rs.length = f.rows.length := Paired.length hrs
        refine ⟨⟨_, rfl⟩, _, rfl, g, rfl, ⟨rs, .inl (.inl hg)⟩, fun D hD => ?_⟩
        have hl6 := hfsm.2.2.1
        refine lc_tup (xs := rs) (fun j H' => Up T [] H2 H' ∧ H' D = some (.lst ((f.rows.take j).map fun g => V.str (rowT g)))) ⟨.new hD, upd_same⟩ (fun j H3 _ p => .inl (.inl (p.1.tup noTup0 hg))) (fun j x H3 e p => ?_) fun H3 p => ?_
        · obtain ⟨d, ed, hd⟩ := paired_get hrs e
          refine ⟨rfl, yesI (iteT ⟨_, rfl, x, d, rfl, hd.up p.1 noTup0, hfsm.2.2.2 d (List.mem_of_getElem? ed), fun H4 u4 => ⟨_, u4.keep _ _ (by simp) p.2 rfl, ?_, (p.1.trans u4).drop (.put (u4.keep _ _ (by simp) p.2 rfl) rfl List.mem_cons_self) hD, ?_⟩⟩)⟩
          · rw [List.length_map, List.length_take]
            omega
          · rw [upd_same, map_take _ _ ed]
        · obtain ⟨u3, hD3⟩ := p
          rw [List.take_of_length_le (by omega)] at hD3
          have hb : ∀ y ∈ f.rows.map rowT, y.length ≤ 72 := fun y hy => by
            obtain ⟨g', hg', rfl⟩ := List.mem_map.mp hy
            exact rowT_len (hfsm.2.2.2 g' hg')
          have hsum := sum_le hb
          have s5 : (", " : Str).length = 2 := by decide +kernel
          refine ⟨", ", D, f.rows.map rowT, rfl, rfl, .inl (.inl (.inl (by rw [List.map_map]; exact hD3))), ?_, ?_⟩
          · rw [List.length_map] at hsum ⊢
            rw [s5]
            omega
          · have hl3 : H3 l = some (.lst ((fs.take i).map fun f => V.str (fnT f))) := u3.keep _ _ (by simp) hl2 rfl
            refine ⟨l, _, rfl, hl3, f, rfl, rfl, rfl, hfsm, _, hl3, ?_, ⟨_, _, _, _, _, rfl⟩, ?_, ?_⟩
            · rw [List.length_map, List.length_take]
              have := hsm.1
              omega
            · exact (u2.trans u3).drop (.put hl3 rfl List.mem_cons_self) hl
            · rw [upd_same, map_take _ _ ef]
      · rintro σ H2 ⟨⟨x2, x3, x4, x5, x6, rfl⟩, u2, hl2⟩
        rw [List.take_of_length_le (by omega)] at hl2
        obtain ⟨q1, q2⟩ := bookT_len hsm
        have s5 : ("; " : Str).length = 2 := by decide +kernel
        refine ⟨⟨_, rfl⟩, _, rfl, "; ", l, fs.map fnT, rfl, rfl, .inl (.inl (.inl (by rw [List.map_map]; exact hl2))), ?_, k H2 (u1.trans u2)⟩
        rw [s5]
        omega
end
end Dc
set_option Elab.async false
set_option linter.all false
set_option maxRecDepth 100000
set_option maxHeartbeats 4000000
/-! a list | a tuple against an empty one -/
namespace Dc
open PySem PySem.Spec PyProof.Rows L2 DcG
section
variable {X : Cx}
def rEqNil (K : PySem.W.Frag) : R2 := fun x y H Q => ∃ a b xs, x = .ref a ∧ y = .ref b ∧ SqL K H a xs ∧ SqL K H b [] ∧ Q (.bl xs.isEmpty) H
def rNeNil (K : PySem.W.Frag) : R2 := fun x y H Q => ∃ a b xs, x = .ref a ∧ y = .ref b ∧ SqL K H a xs ∧ SqL K H b [] ∧ Q (.bl (!xs.isEmpty)) H
def rNeNilT (K : PySem.W.Frag) : R2 := fun x y H Q => ∃ a b xs, x = .ref a ∧ y = .ref b ∧ SqT K H a xs ∧ SqT K H b [] ∧ Q (.bl (!xs.isEmpty)) H
theorem op_eqNil (hu : X.A.units < cLine) : OpR X (compareOp .Eq) (rEqNil X.K) := by
  intro pins s σ H x y v u Q I rx ry h
  obtain ⟨a, b, xs, rfl, rfl, ha, hb, q⟩ := h
  cases rx
  cases ry
  obtain ⟨its, r1, p1, _⟩ := I.list ha
  obtain ⟨its2, r2, p2, _⟩ := I.list hb
  cases r2
  cases r1 with
  | nil => exact SeqAt.RcAt.lists (e := fun _ => true) p1.isList p2.isList rfl hu (fun j h1 _ => absurd h1 (Nat.not_lt_zero j)) _ _ _ _ ⟨.bl true, H, I, rfl, q⟩
  | cons r rr => exact SeqAt.RcAt.lists_lengths p1.isList p2.isList (by simp) hu _ _ _ _ ⟨.bl false, H, I, rfl, q⟩
theorem op_neNil (hu : X.A.units < cLine) : OpR X (compareOp .NotEq) (rNeNil X.K) := by
  intro pins s σ H x y v u Q I rx ry h
  obtain ⟨a, b, xs, rfl, rfl, ha, hb, q⟩ := h
  cases rx
  cases ry
  obtain ⟨its, r1, p1, _⟩ := I.list ha
  obtain ⟨its2, r2, p2, _⟩ := I.list hb
  cases r2
  cases r1 with
  | nil => exact SeqAt.RcNeAt.lists (e := fun _ => true) p1.isList p2.isList rfl hu (fun j h1 _ => absurd h1 (Nat.not_lt_zero j)) _ _ _ _ ⟨.bl false, H, I, rfl, q⟩
  | cons r rr => exact SeqAt.RcNeAt.lists_lengths p1.isList p2.isList (by simp) hu _ _ _ _ ⟨.bl true, H, I, rfl, q⟩
theorem op_neNilT (hu : X.A.units < cLine) : OpR X (compareOp .NotEq) (rNeNilT X.K) := by
  intro pins s σ H x y v u Q I rx ry h
  obtain ⟨a, b, xs, rfl, rfl, ha, hb, q⟩ := h
  cases rx
  cases ry
  obtain ⟨its, r1, p1, _⟩ := I.tuple ha
  obtain ⟨its2, r2, p2, _⟩ := I.tuple hb
  cases r2
  have hz : ∀ j (h1 : j < its.toArray.size) (h2 : j < ([] : List Value).toArray.size), SeqAt.EqAt X.A.in1 s its.toArray[j] ([] : List Value).toArray[j] true := fun j _ h2 => absurd h2 (Nat.not_lt_zero j)
  have k := SeqAt.RcNeAt.tuples (e := fun _ => true) p1 p2 hu hz X.prog X.w
  cases r1 with
  | nil => exact k _ _ ⟨.bl false, H, I, rfl, q⟩
  | cons r rr => exact k _ _ ⟨.bl true, H, I, by simp; rfl, q⟩
end
end Dc
set_option Elab.async false
set_option linter.all false
set_option maxRecDepth 100000
set_option maxHeartbeats 4000000
namespace Dc
open PySem PySem.Spec PyProof.Rows L2 DcG
theorem atI_get {α : Type} {l : List α} {i : Nat} {c : α} (e : l[i]? = some c) : atI l (i : Int) = some c := by
  unfold atI ixN
  have h := (List.getElem?_eq_some_iff.mp e).1
  rw [if_pos (by omega), if_pos (by omega)]
  simpa using e
def wordT : G → Str
  | .below _ => "n < "
  | .frm _ => "n >= "
  | .rest m _ => "n mod " ++ numT m ++ " = "
def lastN : G → Int
  | .below c => c
  | .frm c => c
  | .rest _ r => r
theorem gT_word : ∀ g : G, gT g = wordT g ++ numT (lastN g)
  | .below _ => rfl
  | .frm _ => rfl
  | .rest _ _ => rfl
def sepT (k : Nat) : Str := if k = 0 then " if " else " and "
theorem gsT_snoc : ∀ (b : Bool) (gs : List G) (g : G), gsT b (gs ++ [g]) = gsT b gs ++ ((if (b && gs.isEmpty) = true then (" if " : Str) else " and ") ++ gT g)
  | b, [], g => by
    show (if b then (" if " : Str) else " and ") ++ gT g ++ Str.empty = Str.empty ++ _
    rw [app_empty, empty_app]
    cases b <;> rfl
  | b, g0 :: gs, g => by
    show (if b then (" if " : Str) else " and ") ++ gT g0 ++ gsT false (gs ++ [g]) = (if b then (" if " : Str) else " and ") ++ gT g0 ++ gsT false gs ++ _
    rw [gsT_snoc false gs g, app_assoc, app_assoc, app_assoc]
    congr 2
    cases b <;> rfl
theorem gsT_take {gs : List G} {k : Nat} {g : G} (e : gs[k]? = some g) : gsT true (gs.take (k + 1)) = gsT true (gs.take k) ++ (sepT k ++ gT g) := by
  rw [List.take_add_one, e]
  show gsT true (gs.take k ++ [g]) = _
  rw [gsT_snoc]
  congr 2
  unfold sepT
  by_cases h : k = 0
  · subst h
    rfl
  · have hk := (List.getElem?_eq_some_iff.mp e).1
    have : (gs.take k).isEmpty = false := by
      rw [List.isEmpty_eq_false_iff]
      intro z
      have q := congrArg List.length z
      rw [List.length_take, List.length_nil] at q
      omega
    rw [this, if_neg h]
    rfl
section
variable {P : Program} {w : World} {K : PySem.W.Frag} {mg : Str → Option Value} {base : Heap} {T : TT}
theorem b_str : bootBuiltins "str" = some (.type "str") := by decide +kernel
def tWord : TE := fun σ H Q => ∃ v g, σ[12]? = some (some v) ∧ GAt H v g ∧ GSm g ∧ Q (.str (wordT g)) H
def tSep : TE := fun σ H Q => ∃ k : Nat, σ[11]? = some (some (.int k)) ∧ Q (.str (sepT k)) H
def tLedL : TE := fun σ H Q => ∃ (r : Row) (m : V), σ[7]? = some (some (.str r.kind)) ∧ σ[8]? = some (some (.str r.name)) ∧ σ[9]? = some (some m) ∧ MvAt H m r.dn r.mv ∧ RowSm r ∧ Q (.str (ledT r)) H
def tFnL (T : TT) : TE := fun σ H Q => ∃ (f : Fn) (D : Addr), σ[2]? = some (some (.str f.name)) ∧ σ[3]? = some (some (.int f.size)) ∧ σ[5]? = some (some (.ref D)) ∧ H D = some (.lst (f.rows.map fun r => V.str (rowT r))) ∧ FnSm f ∧ ∀ H', Up T [] H H' → Q (.str (fnT f)) H'
theorem lastN_sm {g : G} (h : GSm g) : Sm (lastN g) := by
  cases g with
  | below c => exact h
  | frm c => exact h
  | rest m r => exact h.2
theorem wordT_len {g : G} (h : GSm g) : (wordT g).length ≤ 11 := by
  cases g with
  | below c => show ("n < " : Str).length ≤ 11; decide +kernel
  | frm c => show ("n >= " : Str).length ≤ 11; decide +kernel
  | rest m r =>
    have h1 := num_len h.1
    have e0 : ("n mod " : Str).length = 6 := by decide +kernel
    have e3 : (" = " : Str).length = 3 := by decide +kernel
    show ("n mod " ++ numT m ++ " = ").length ≤ 11
    rw [len_app, len_app]
    omega
theorem GAt.last {H : Hp} {v : V} : ∀ {g : G}, GAt H v g → ∃ a xs, v = .ref a ∧ H a = some (.tup xs) ∧ atI xs (-1) = some (.int (lastN g))
  | .below c, ⟨a, e, h⟩ => ⟨a, _, e, h, rfl⟩
  | .frm c, ⟨a, e, h⟩ => ⟨a, _, e, h, rfl⟩
  | .rest m r, ⟨a, e, h⟩ => ⟨a, _, e, h, rfl⟩
theorem sepT_len (k : Nat) : (sepT k).length ≤ 5 := by
  unfold sepT
  split <;> decide +kernel
/-! ### _law_text -/
abbrev nLT : List Str := ["_law_book_here", "_law_found", "_law_name", "_law_size_here", "_law_rows_here", "_law_lines", "_law_guards", "_law_kind", "_law_other", "_law_move", "_law_line", "_law_k", "_law_one", "_law_word"]
def spLT (T : TT) : Sp := fun vs H Q _ => ∃ v fs, vs = [v] ∧ BookAt H v fs ∧ BookSm fs ∧ ∀ H', Up T [] H H' → Q (.str (bookT fs)) H'
theorem scLT : FnScope nLT ["_law_book_here"] (defScope sLawText) := ⟨rfl, rfl, rfl, by decide +kernel, rfl, by decide +kernel, by decide +kernel⟩
theorem ok_lText {f : Addr} {fd : FuncData} (F : FnP K "_law_text" "_law_text" sLawText f fd) (X : Txt K mg) : FnOk P w K mg base CX0 1 f fd ["_law_book_here"] (spLT T) := by
  refine F.ok scLT (fun vs H Q E h => ?_) (fun cdv A outer s H vs Q E hr h => ?_)
  · obtain ⟨v, g, rfl, _⟩ := h
    rfl
  · obtain ⟨v, fs, rfl, hb, hsm, k⟩ := h
    refine ⟨_, PSs.nox (pss_cons (ps_set (i := 1) scLT.nd rfl (Or.inl rfl) (pe_lst pa_nil))
      (pss_cons (ps_for PassesOwn.never rfl (pi_tup (pv 0)) (pg_tup rfl (pgs_cons (pg_name (i := 2) scLT.nd rfl (Or.inl rfl)) (pgs_cons (pg_name (i := 3) scLT.nd rfl (Or.inl rfl)) (pgs_cons (pg_name (i := 4) scLT.nd rfl (Or.inl rfl)) pgs_nil))))
        (pss_cons (ps_set (i := 5) scLT.nd rfl (Or.inl rfl) (pe_lst pa_nil))
        (pss_cons (ps_for PassesOwn.never rfl (pi_tup (pv 4)) (pg_tup rfl (pgs_cons (pg_name (i := 6) scLT.nd rfl (Or.inl rfl)) (pgs_cons (pg_name (i := 7) scLT.nd rfl (Or.inl rfl)) (pgs_cons (pg_name (i := 8) scLT.nd rfl (Or.inl rfl)) (pgs_cons (pg_name (i := 9) scLT.nd rfl (Or.inl rfl)) pgs_nil)))))
          (pss_cons (ps_set (i := 10) scLT.nd rfl (Or.inl rfl) (PE.of (t' := tLedL) (pe_op op_add_str (pe_op op_add_str (pe_op op_add_str (pe_op op_add_str (pv 7) pe_str) (pv 8)) (pe_ifExp (pt_cmpR op_eq (pe_ix ix_tup (pv 9) pe_int (fun _ _ => rfl)) pe_str (nomark _)) pe_str pe_str)) (pe_callTy call_str_int (by rfl) X.str b_str (pa_cons (pe_ix ix_tup (pv 9) pe_int (fun _ _ => rfl)) pa_nil))) ?_))
          (pss_cons (ps_for PassesOwn.never rfl (pi_range1 (by rfl) X.range (pa_cons (pe_callB call_len_seq (by rfl) X.len b_len (pa_cons (pv 6) pa_nil)) pa_nil)) (pg_name (i := 11) scLT.nd rfl (Or.inl rfl))
            (pss_cons (ps_set (i := 12) scLT.nd rfl (Or.inl rfl) (pe_ix ix_tup (pv 6) (pv 11) (fun _ _ => rfl)))
            (pss_cons (ps_set (i := 13) scLT.nd rfl (Or.inl rfl) (PE.of (t' := tWord) (pe_ifExp (pt_cmpR op_eq (pe_ix ix_tup (pv 12) pe_int (fun _ _ => rfl)) pe_str (nomark _)) pe_str (pe_ifExp (pt_cmpR op_eq (pe_ix ix_tup (pv 12) pe_int (fun _ _ => rfl)) pe_str (nomark _)) pe_str
                (pe_op op_add_str (pe_op op_add_str pe_str (pe_callTy call_str_int (by rfl) X.str b_str (pa_cons (pe_ix ix_tup (pv 12) pe_int (fun _ _ => rfl)) pa_nil))) pe_str))) ?_))
            (pss_cons (ps_set (i := 10) scLT.nd rfl (Or.inl rfl) (pe_op op_add_str (pe_op op_add_str (pe_op op_add_str (pv 10) (PE.of (t' := tSep) (pe_ifExp (pt_cmpR op_eq (pv 11) pe_int (nomark _)) pe_str pe_str) ?_)) (pv 13))
                (pe_callTy call_str_int (by rfl) X.str b_str (pa_cons (pe_ix ix_tup (pv 12) (pe_un un_neg pe_int) (fun _ _ => rfl)) pa_nil)))) pss_nil))))
          (pss_cons (ps_app (pv 5) (pv 10)) pss_nil))))
        (pss_cons (ps_app (pv 1) (PE.of (t' := tFnL T) (pe_op op_add_str (pe_op op_add_str (pe_op op_add_str (pv 2) pe_str) (pe_callTy call_str_int (by rfl) X.str b_str (pa_cons (pv 3) pa_nil)))
            (pe_ifExp (pt_cmpR (op_neNil hr.units0) (pv 5) (pe_lst pa_nil) (nomark _)) (pe_op op_add_str pe_str (pe_join pe_str (pv 5))) pe_str)) ?_)) pss_nil))))
      (pss_one (ps_ret (pe_join pe_str (pv 1)))))), ?_⟩
    · rintro σ H Q ⟨r, m, e2, e3, e4, ⟨a, rfl, ha⟩, hs, k⟩
      have hsz := szl
      obtain ⟨_, _, l1, l2, l3⟩ := hs
      have l4 : (Str.ofString (toString r.mv)).length ≤ 2 := num_len l3
      have s1 : (" " : Str).length = 1 := by decide +kernel
      have s2 : (" - " : Str).length = 3 := by decide +kernel
      cases hd : r.dn with
      | false =>
        rw [hd] at ha
        have e : r.kind ++ " " ++ r.name ++ " " ++ Str.ofString (toString r.mv) = ledT r := by
          unfold ledT
          rw [hd]
          rfl
        refine ⟨_, e2, _, _, rfl, rfl, by omega, _, e3, _, _, rfl, rfl, by rw [len_app]; omega, ?_⟩
        refine ⟨_, e4, a, _, 0, _, rfl, rfl, .inl (.inl ha), rfl, rfl, true, by decide +kernel, iteT ?_⟩
        refine ⟨_, _, rfl, rfl, by rw [len_app, len_app]; omega, _, e4, a, _, 1, _, rfl, rfl, .inl (.inl ha), rfl, r.mv, rfl, sm_log l3, _, _, rfl, rfl, by rw [len_app, len_app, len_app]; omega, ?_⟩
        show Q (.str (r.kind ++ " " ++ r.name ++ " " ++ Str.ofString (toString r.mv))) H
        rw [e]
        exact k
      | true =>
        rw [hd] at ha
        have e : r.kind ++ " " ++ r.name ++ " - " ++ Str.ofString (toString r.mv) = ledT r := by
          unfold ledT
          rw [hd]
          rfl
        refine ⟨_, e2, _, _, rfl, rfl, by omega, _, e3, _, _, rfl, rfl, by rw [len_app]; omega, ?_⟩
        refine ⟨_, e4, a, _, 0, _, rfl, rfl, .inl (.inl ha), rfl, rfl, false, by decide +kernel, iteF ?_⟩
        refine ⟨_, _, rfl, rfl, by rw [len_app, len_app]; omega, _, e4, a, _, 1, _, rfl, rfl, .inl (.inl ha), rfl, r.mv, rfl, sm_log l3, _, _, rfl, rfl, by rw [len_app, len_app, len_app]; omega, ?_⟩
        show Q (.str (r.kind ++ " " ++ r.name ++ " - " ++ Str.ofString (toString r.mv))) H
        rw [e]
        exact k
    · rintro σ H Q ⟨v, g, e12, hg, hs, k⟩
      cases g with
      | below c =>
        obtain ⟨a, rfl, ha⟩ := hg
        exact ⟨_, e12, a, _, 0, _, rfl, rfl, .inl (.inl ha), rfl, rfl, true, by decide +kernel, iteT k⟩
      | frm c =>
        obtain ⟨a, rfl, ha⟩ := hg
        refine ⟨_, e12, a, _, 0, _, rfl, rfl, .inl (.inl ha), rfl, rfl, false, by decide +kernel, iteF ?_⟩
        exact ⟨_, e12, a, _, 0, _, rfl, rfl, .inl (.inl ha), rfl, rfl, true, by decide +kernel, iteT k⟩
      | rest m r =>
        obtain ⟨a, rfl, ha⟩ := hg
        have hsz := szl
        have h1 : (Str.ofString (toString m)).length ≤ 2 := num_len hs.1
        have e0 : ("n mod " : Str).length = 6 := by decide +kernel
        have e3 : (" = " : Str).length = 3 := by decide +kernel
        refine ⟨_, e12, a, _, 0, _, rfl, rfl, .inl (.inl ha), rfl, rfl, false, by decide +kernel, iteF ?_⟩
        refine ⟨_, e12, a, _, 0, _, rfl, rfl, .inl (.inl ha), rfl, rfl, false, by decide +kernel, iteF ?_⟩
        exact ⟨_, e12, a, _, 1, _, rfl, rfl, .inl (.inl ha), rfl, m, rfl, sm_log hs.1, _, _, rfl, rfl, by omega, _, _, rfl, rfl, by rw [len_app]; omega, k⟩
    · rintro σ H Q ⟨n, e11, k⟩
      refine ⟨_, e11, rfl, decide (V.int (n : Int) = V.int 0), rfl, ?_⟩
      unfold sepT at k
      by_cases h : n = 0
      · subst h
        rw [if_pos rfl] at k
        exact iteTt (by decide +kernel) k
      · rw [if_neg h] at k
        exact iteFf (decide_eq_false (fun z => h (by have := V.int.inj z; omega))) k
    · rintro σ H Q ⟨f, D, e2, e3, e5, hD, hs, k⟩
      have hsz := szl
      obtain ⟨l1, l2, l3, l4⟩ := hs
      have l5 : (Str.ofString (toString f.size)).length ≤ 2 := num_len l2
      have s1 : (" " : Str).length = 1 := by decide +kernel
      have s2 : (": " : Str).length = 2 := by decide +kernel
      refine ⟨_, e2, _, _, rfl, rfl, by omega, _, e3, _, rfl, sm_log l2, _, _, rfl, rfl, by rw [len_app]; omega, ?_⟩
      refine ⟨_, e5, by show 0 ≤ sizeLine; decide, fun q hq => ?_⟩
      have u : Up T [] H (upd H q (.lst [])) := .new hq
      have hDq : (upd H q (.lst [])) D = some (.lst (f.rows.map fun r => V.str (rowT r))) := u.keep _ _ (by simp) hD rfl
      refine ⟨D, q, _, rfl, rfl, .inl (.inl hDq), .inl (.inl upd_same), _, rfl, ?_⟩
      cases hrs : f.rows with
      | nil =>
        have e : f.name ++ " " ++ Str.ofString (toString f.size) ++ "" = fnT f := by
          unfold fnT
          rw [hrs]
          rfl
        refine iteF ⟨_, _, rfl, rfl, by rw [len_app, len_app]; show _ + _ + _ + 0 ≤ _; omega, ?_⟩
        show Q (.str (f.name ++ " " ++ Str.ofString (toString f.size) ++ "")) _
        rw [e]
        exact k _ u
      | cons r0 rs0 =>
        have hgl := rsT_len (b := true) l4
        rw [hrs, rsT_join, len_app] at hgl
        rw [hrs] at l3 l4
        have hb : ∀ y ∈ (r0 :: rs0).map rowT, y.length ≤ 72 := fun y hy => by
          obtain ⟨g', hg', rfl⟩ := List.mem_map.mp hy
          exact rowT_len (l4 g' hg')
        have hsum := sum_le hb
        have s5 : (", " : Str).length = 2 := by decide +kernel
        have e : f.name ++ " " ++ Str.ofString (toString f.size) ++ (": " ++ Txt.join ", " ((r0 :: rs0).map rowT)) = fnT f := by
          unfold fnT
          rw [hrs, rsT_join]
          rfl
        refine iteT ⟨⟨_, rfl⟩, _, e5, ", ", D, (r0 :: rs0).map rowT, rfl, rfl, .inl (.inl (.inl (by rw [List.map_map, ← hrs]; exact hDq))), ?_, _, _, rfl, rfl, by omega, _, _, rfl, rfl, by rw [len_app, len_app, len_app]; omega, ?_⟩
        · rw [List.length_map] at hsum ⊢
          rw [s5]
          omega
        · show Q (.str (f.name ++ " " ++ Str.ofString (toString f.size) ++ (": " ++ Txt.join ", " ((r0 :: rs0).map rowT)))) _
          rw [e]
          exact k _ u
    · obtain ⟨a, xs, rfl, ha, hfs⟩ := hb
      have hsz := szl
      have hlen : xs.length = fs.length := Paired.length hfs
      refine ⟨by show 0 ≤ sizeLine; decide, fun l hl => ?_⟩
      refine ⟨_, rfl, a, rfl, ⟨xs, .inl (.inl ((Up.new (T := T) (ex := []) hl).tup noTup0 ha))⟩, ?_⟩
      refine for_tup (xs := xs) (fun i σ H' => (∃ x2 x3 x4 x5 x6 x7 x8 x9 x10 x11 x12 x13, σ = [some (.ref a), some (.ref l), x2, x3, x4, x5, x6, x7, x8, x9, x10, x11, x12, x13]) ∧ Up T [] H H' ∧ H' l = some (.lst ((fs.take i).map fun f => V.str (fnT f))))
        ⟨⟨_, _, _, _, _, _, _, _, _, _, _, _, rfl⟩, .new hl, upd_same⟩ (fun i σ H' _ p => .inl (.inl (p.2.1.tup noTup0 ha))) ?_ ?_
      · rintro i x σ H2 e ⟨⟨x2, x3, x4, x5, x6, x7, x8, x9, x10, x11, x12, x13, rfl⟩, u2, hl2⟩
        obtain ⟨f, ef, hf⟩ := paired_get hfs e
        have hf := hf.up u2 noTup0
        have hfsm := hsm.2 f (List.mem_of_getElem? ef)
        obtain ⟨b, g, rs, rfl, hb2, hg, hrs⟩ := hf
        have hlen2 : rs.length = f.rows.length := Paired.length hrs
        have hl6 := hfsm.2.2.1
        refine ⟨b, _, rfl, .inl (.inl hb2), rfl, _, _, rfl, _, _, rfl, _, _, rfl, rfl, ?_⟩
        refine ⟨by show 0 ≤ sizeLine; decide, fun D hD => ?_⟩
        refine ⟨_, rfl, g, rfl, ⟨rs, .inl (.inl ((Up.new (T := T) (ex := []) hD).tup noTup0 hg))⟩, ?_⟩
        refine for_tup (xs := rs) (fun j σ H' => (∃ x6 x7 x8 x9 x10 x11 x12 x13, σ = [some (.ref a), some (.ref l), some (.str f.name), some (.int f.size), some (.ref g), some (.ref D), x6, x7, x8, x9, x10, x11, x12, x13]) ∧ Up T [] H2 H' ∧ H' D = some (.lst ((f.rows.take j).map fun r => V.str (rowT r))))
          ⟨⟨_, _, _, _, _, _, _, _, rfl⟩, .new hD, upd_same⟩ (fun i σ H' _ p => .inl (.inl (p.2.1.tup noTup0 hg))) ?_ ?_
        · rintro j x σ H3 e ⟨⟨x6, x7, x8, x9, x10, x11, x12, x13, rfl⟩, u3, hD3⟩
          obtain ⟨r, er, hr3⟩ := paired_get hrs e
          have hr3 := hr3.up u3 noTup0
          have hrsm := hfsm.2.2.2 r (List.mem_of_getElem? er)
          obtain ⟨ra, rg, m, gs, rfl, hra, hrg, hgs, hm⟩ := hr3
          have hlen3 : gs.length = r.gs.length := Paired.length hgs
          have hled := ledT_len hrsm
          refine ⟨ra, _, rfl, .inl (.inl hra), rfl, _, _, rfl, _, _, rfl, _, _, rfl, _, _, rfl, rfl, ?_⟩
          refine ⟨r, m, rfl, rfl, rfl, hm, hrsm, ?_⟩
          have hg3 := hrsm.2.1
          refine ⟨_, rfl, rg, gs, rfl, .inr (.inl (.inl hrg)), (gs.length : Int), rfl, by omega, by omega, ?_⟩
          refine for_range (fun k σ' H' => H' = H3 ∧ ∃ x11 x12 x13, σ' = [some (.ref a), some (.ref l), some (.str f.name), some (.int f.size), some (.ref g), some (.ref D), some (.ref rg), some (.str r.kind), some (.str r.name), some m, some (.str (ledT r ++ gsT true (r.gs.take k))), x11, x12, x13])
            ⟨rfl, _, _, _, by rw [show gsT true (r.gs.take 0) = Str.empty from rfl, app_empty]; rfl⟩ ?_ ?_
          · rintro n σ' H' hn ⟨rfl, y11, y12, y13, rfl⟩
            have hn : n < gs.length := hn
            rw [Int.zero_add]
            obtain ⟨v, hv⟩ : ∃ v, gs[n]? = some v := ⟨_, List.getElem?_eq_getElem hn⟩
            obtain ⟨gg, egg, hgg⟩ := paired_get hgs hv
            have hggm := hrsm.1 gg (List.mem_of_getElem? egg)
            refine ⟨_, rfl, _, rfl, rg, gs, n, v, rfl, rfl, .inl (.inl hrg), atI_get hv, ?_⟩
            refine ⟨v, gg, rfl, hgg, hggm, ?_⟩
            have t1 := gsT_len (b := true) (gs := r.gs.take n) fun x hx => hrsm.1 x (List.mem_of_mem_take hx)
            rw [List.length_take] at t1
            have t2 := sepT_len n
            have t3 := wordT_len hggm
            have t4 : (Str.ofString (toString (lastN gg))).length ≤ 2 := num_len (lastN_sm hggm)
            obtain ⟨va, vxs, rfl, hva, hlast⟩ := hgg.last
            refine ⟨_, rfl, n, rfl, _, _, rfl, rfl, by rw [len_app]; omega, _, rfl, _, _, rfl, rfl, by rw [len_app, len_app]; omega, ?_⟩
            refine ⟨_, rfl, 1, rfl, va, vxs, -1, _, rfl, rfl, .inl (.inl hva), hlast, _, rfl, sm_log (lastN_sm hggm), _, _, rfl, rfl, by rw [len_app, len_app, len_app]; omega, ?_⟩
            refine ⟨rfl, some (.int n), some (.ref va), some (.str (wordT gg)), ?_⟩
            have eT : ledT r ++ gsT true (r.gs.take n) ++ sepT n ++ wordT gg ++ Str.ofString (toString (lastN gg)) = ledT r ++ gsT true (r.gs.take (n + 1)) := by
              rw [gsT_take egg, gT_word]
              simp only [app_assoc]
              rfl
            rw [← eT]
            rfl
          · rintro σ' H' ⟨rfl, y11, y12, y13, rfl⟩
            refine ⟨D, _, rfl, hD3, _, rfl, _, hD3, ?_, ⟨_, _, _, _, _, _, _, _, rfl⟩, u3.drop (.put hD3 rfl List.mem_cons_self) hD, ?_⟩
            · rw [List.length_map, List.length_take]
              omega
            · rw [upd_same, map_take _ _ er]
              have eL : ledT r ++ gsT true (r.gs.take ((gs.length : Int)).toNat) = rowT r := by
                rw [Int.toNat_natCast, List.take_of_length_le (by omega)]
                rfl
              rw [eL]
        · rintro σ H3 ⟨⟨x6, x7, x8, x9, x10, x11, x12, x13, rfl⟩, u3, hD3⟩
          rw [List.take_of_length_le (by omega)] at hD3
          have hl3 : H3 l = some (.lst ((fs.take i).map fun f => V.str (fnT f))) := u3.keep _ _ (by simp) hl2 rfl
          refine ⟨l, _, rfl, hl3, f, D, rfl, rfl, rfl, hD3, hfsm, fun H4 u4 => ?_⟩
          have hl4 : H4 l = some (.lst ((fs.take i).map fun f => V.str (fnT f))) := u4.keep _ _ (by simp) hl3 rfl
          refine ⟨_, hl4, ?_, ⟨_, _, _, _, _, _, _, _, _, _, _, _, rfl⟩, ?_, ?_⟩
          · rw [List.length_map, List.length_take]
            have := hsm.1
            omega
          · exact ((u2.trans u3).trans u4).drop (.put hl4 rfl List.mem_cons_self) hl
          · rw [upd_same, map_take _ _ ef]
      · rintro σ H2 ⟨⟨x2, x3, x4, x5, x6, x7, x8, x9, x10, x11, x12, x13, rfl⟩, u2, hl2⟩
        rw [List.take_of_length_le (by omega)] at hl2
        obtain ⟨q1, q2⟩ := bookT_len hsm
        have s5 : ("; " : Str).length = 2 := by decide +kernel
        refine ⟨⟨_, rfl⟩, _, rfl, "; ", l, fs.map fnT, rfl, rfl, .inl (.inl (.inl (by rw [List.map_map]; exact hl2))), ?_, k H2 u2⟩
        rw [s5]
        omega
end
end Dc
set_option Elab.async false
set_option linter.all false
set_option maxRecDepth 100000
set_option maxHeartbeats 4000000
namespace Dc
open PySem PySem.Spec PyProof.Rows L2 DcG
theorem sqL_up {T : TT} {ex : List Addr} {K : PySem.W.Frag} {H H' : Hp} {a : Addr} {xs : List V} (u : Up T ex H H') (h : SqL K H a xs) (ha : a ∉ ex) : SqL K H' a xs := by
  rcases h with h | h
  · refine .inl ?_
    rcases h with h | ⟨o, h⟩
    · exact .inl (u.keep _ _ ha h rfl)
    · exact .inr ⟨o, u.keep _ _ ha h rfl⟩
  · exact .inr h
theorem sqL_upO {T : TT} {K : PySem.W.Frag} {H H' : Hp} {a sa : Addr} {xs : List V} (u : Up T [a] H H') (h : SqL K H sa xs) (hs : sa ≠ a ∨ ∀ H' : Hp, SqL K H' sa xs) : SqL K H' sa xs := by
  rcases hs with hs | hs
  · exact sqL_up u h fun z => hs (List.mem_singleton.mp z)
  · exact hs H'
/-- the draws' list -/
def LR (K : PySem.W.Frag) (ns : List Int × Addr) (a : Addr) (H : Hp) : Prop := ∃ i s d, H a = some (.lst [.ref ns.2, .int i, .int s, .int d]) ∧ SqL K H ns.2 (ns.1.map V.int) ∧ (ns.2 ≠ a ∨ ∀ H' : Hp, SqL K H' ns.2 (ns.1.map V.int)) ∧ 0 ≤ i ∧ 0 ≤ s ∧ s < 2147483647
theorem LR.up0 {T : TT} {K : PySem.W.Frag} {ns : List Int × Addr} {a : Addr} {H H' : Hp} (u : Up T [] H H') (h : LR K ns a H) : LR K ns a H' := by
  obtain ⟨i, s, d, h1, h2, h3⟩ := h
  exact ⟨i, s, d, u.keep _ _ (by simp) h1 rfl, sqL_up u h2 (by simp), h3⟩
theorem LR.ne {K : PySem.W.Frag} {ns : List Int × Addr} {a D : Addr} {H : Hp} (h : LR K ns a H) (hn : H D = none) : D ≠ a := fun z => by
  obtain ⟨i, s, d, h1, _⟩ := h
  rw [z, h1] at hn
  cases hn
/-- a younger object may be written -/
theorem LR.put {K : PySem.W.Frag} {ns : List Int × Addr} {a D : Addr} {o : HO} {H0 H : Hp} (h0 : LR K ns a H0) (hn : H0 D = none) (h : LR K ns a H) : LR K ns a (upd H D o) := by
  have hne := h0.ne hn
  obtain ⟨_, _, _, _, g, _⟩ := h0
  obtain ⟨i, s, d, h1, h2, h3⟩ := h
  refine ⟨i, s, d, by rw [upd_ne hne.symm]; exact h1, ?_, h3⟩
  rcases g with g | g
  · have hs : ns.2 ≠ D := fun z => by
      rcases g with g | ⟨o, g⟩ <;> rw [z, hn] at g <;> cases g
    rcases h2 with h2 | h2
    · refine .inl ?_
      rcases h2 with h2 | ⟨o, h2⟩
      · exact .inl (by rw [upd_ne hs]; exact h2)
      · exact .inr ⟨o, by rw [upd_ne hs]; exact h2⟩
    · exact .inr h2
  · exact .inr g
section
variable {P : Program} {w : World} {K : PySem.W.Frag} {mg : Str → Option Value} {base : Heap} {T : TT}
/-! ### _law_taken -/
def spTaken (T : TT) (K : PySem.W.Frag) : Sp := fun vs H Q _ => ∃ a many ns, vs = [.ref a, .int many] ∧ LR K ns a H ∧ 0 < many ∧ many < 1073741824 ∧ ∀ H' n, Up T [a] H H' → LR K ns a H' → 0 ≤ n → n < many → Q (.int n) H'
theorem scTaken : FnScope ["_law_row", "_law_many", "_law_found", "_law_cell"] ["_law_row", "_law_many"] (defScope sLawTaken) := ⟨rfl, rfl, rfl, by decide +kernel, rfl, by decide +kernel, by decide +kernel⟩
theorem ok_taken {f : Addr} {fd : FuncData} (F : FnP K "_law_taken" "_law_taken" sLawTaken f fd) (X : Txt K mg) : FnOk P w K mg base CX0 1 f fd ["_law_row", "_law_many"] (spTaken T K) := by
  refine F.ok scTaken (fun vs H Q E h => ?_) (fun cdv A outer s H vs Q E hr h => ?_)
  · obtain ⟨v, g, ns, rfl, _⟩ := h
    rfl
  · obtain ⟨a, many, ⟨ns, sa⟩, rfl, ⟨i, s, d, ha, hs, hsa, hi, hs0, hs1⟩, hm0, hm1, k⟩ := h
    dsimp only at ha hs hsa
    refine ⟨_, PSs.nox (pss_cons (ps_if (pt_cmpR op_gt (pe_ix ix_list (pv 0) pe_int (fun _ _ => rfl)) pe_int (nomark _))
        (pss_cons (ps_set (i := 2) scTaken.nd rfl (Or.inl rfl) (pe_op op_mod (pe_callTy call_int1 (by rfl) X.int b_int (pa_cons (pe_ix ix_list (pv 0) pe_int (fun _ _ => rfl)) pa_nil)) (pv 1)))
        (pss_cons (ps_asg (pe_op op_fdiv (pe_ix ix_list (pv 0) pe_int (fun _ _ => rfl)) (pv 1)) (pg_sub (pv 0) pe_int set_list))
        (pss_one (ps_ret (pv 2))))) pss_nil)
      (pss_cons (ps_asg (pe_op op_add (pe_ix ix_list (pv 0) pe_int (fun _ _ => rfl)) pe_int) (pg_sub (pv 0) pe_int set_list))
      (pss_cons (ps_if (pt_cmpR op_gt (pe_ix ix_list (pv 0) pe_int (fun _ _ => rfl)) (pe_callB call_len_seq (by rfl) X.len b_len (pa_cons (pe_ix ix_list (pv 0) pe_int (fun _ _ => rfl)) pa_nil)) (nomark _))
        (pss_cons (ps_asg (pe_op op_mod (pe_callTy call_int1 (by rfl) X.int b_int (pa_cons (pe_op op_add (pe_op op_mul (pe_ix ix_list (pv 0) pe_int (fun _ _ => rfl)) pe_int) pe_int) pa_nil)) pe_int) (pg_sub (pv 0) pe_int set_list))
        (pss_one (ps_ret (pe_op op_mod (pe_callTy call_int1 (by rfl) X.int b_int (pa_cons (pe_op op_fdiv (pe_ix ix_list (pv 0) pe_int (fun _ _ => rfl)) pe_int) pa_nil)) (pv 1))))) pss_nil)
      (pss_cons (ps_set (i := 3) scTaken.nd rfl (Or.inl rfl) (pe_ix ix_list (pe_ix ix_list (pv 0) pe_int (fun _ _ => rfl)) (pe_op op_sub (pe_ix ix_list (pv 0) pe_int (fun _ _ => rfl)) pe_int) (fun _ _ => rfl)))
      (pss_cons (ps_asg (pe_op op_mod (pe_callTy call_int1 (by rfl) X.int b_int (pa_cons (pe_op op_add (pe_op op_add (pe_op op_mul (pe_ix ix_list (pv 0) pe_int (fun _ _ => rfl)) pe_int) (pv 3)) pe_int) pa_nil)) pe_int) (pg_sub (pv 0) pe_int set_list))
      (pss_cons (ps_if (pt_cmpR op_ge (pv 3) (pe_op op_pow pe_int pe_int) (nomark _)) (pss_one (ps_asg (pe_op op_fdiv (pv 3) (pv 1)) (pg_sub (pv 0) pe_int set_list))) pss_nil)
      (pss_one (ps_ret (pe_op op_mod (pe_callTy call_int1 (by rfl) X.int b_int (pa_cons (pv 3) pa_nil)) (pv 1)))))))))), ?_⟩
    refine ⟨_, rfl, a, _, 3, _, rfl, rfl, .inl (.inl ha), rfl, d, 0, rfl, rfl, _, rfl, ?_⟩
    by_cases hd : 0 < d
    · refine iteTt (decide_eq_true hd) ?_
      refine ⟨_, rfl, a, _, 3, _, rfl, rfl, .inl (.inl ha), rfl, .inl ⟨d, rfl, _, rfl, d, many, rfl, rfl, hm0, ?_⟩⟩
      refine ⟨_, rfl, a, _, 3, _, rfl, rfl, .inl (.inl ha), rfl, _, rfl, d, many, rfl, rfl, ⟨hm0, hm1⟩, ?_⟩
      refine ⟨_, rfl, a, _, 3, 3, rfl, rfl, ha, rfl, ?_⟩
      have u : Up T [a] H (upd H a (.lst ([V.ref sa, .int i, .int s, .int d].set 3 (.int (d / many))))) := .put ha rfl List.mem_cons_self
      exact ⟨_, rfl, k _ _ u ⟨i, s, d / many, by rw [upd_same]; rfl, sqL_upO u hs hsa, hsa, hi, hs0, hs1⟩ (Int.emod_nonneg _ (by omega)) (Int.emod_lt_of_pos _ hm0)⟩
    · refine iteFf (decide_eq_false hd) ?_
      refine ⟨_, rfl, a, _, 1, _, rfl, rfl, .inl (.inl ha), rfl, i, 1, rfl, rfl, ?_⟩
      refine ⟨_, rfl, a, _, 1, 1, rfl, rfl, ha, rfl, ?_⟩
      have u1 : Up T [a] H (upd H a (.lst ([V.ref sa, .int i, .int s, .int d].set 1 (.int (i + 1))))) := .put ha rfl List.mem_cons_self
      have a1 : (upd H a (.lst ([V.ref sa, .int i, .int s, .int d].set 1 (.int (i + 1))))) a = some (.lst [V.ref sa, .int (i + 1), .int s, .int d]) := by rw [upd_same]; rfl
      have s1 := sqL_upO u1 hs hsa
      generalize (upd H a (.lst ([V.ref sa, .int i, .int s, .int d].set 1 (.int (i + 1))))) = H1 at u1 a1 s1 ⊢
      refine ⟨_, rfl, a, _, 1, _, rfl, rfl, .inl (.inl a1), rfl, _, rfl, a, _, 0, _, rfl, rfl, .inl (.inl a1), rfl, sa, _, rfl, .inl s1, i + 1, _, rfl, rfl, _, rfl, ?_⟩
      rw [List.length_map]
      by_cases hlt : (ns.length : Int) < i + 1
      · refine iteTt (decide_eq_true hlt) ?_
        refine ⟨_, rfl, a, _, 2, _, rfl, rfl, .inl (.inl a1), rfl, s, 48271, rfl, rfl, .inr ⟨by decide, by decide⟩, s * 48271, 11, rfl, rfl, .inl ⟨_, rfl, _, 2147483647, rfl, rfl, show (0 : Int) < 2147483647 by decide, ?_⟩⟩
        refine ⟨_, rfl, a, _, 2, 2, rfl, rfl, a1, rfl, ?_⟩
        dsimp only
        generalize hs2 : (s * 48271 + 11) % 2147483647 = s2
        have h2 : 0 ≤ s2 ∧ s2 < 2147483647 := by rw [← hs2]; exact ⟨Int.emod_nonneg _ (by decide), Int.emod_lt_of_pos _ (by decide)⟩
        have u2 : Up T [a] H1 (upd H1 a (.lst ([V.ref sa, .int (i + 1), .int s, .int d].set 2 (.int s2)))) := .put a1 rfl List.mem_cons_self
        have a2 : (upd H1 a (.lst ([V.ref sa, .int (i + 1), .int s, .int d].set 2 (.int s2)))) a = some (.lst [V.ref sa, .int (i + 1), .int s2, .int d]) := by rw [upd_same]; rfl
        refine ⟨_, rfl, a, _, 2, _, rfl, rfl, .inl (.inl a2), rfl, s2, 7, rfl, rfl, ⟨by decide, by decide⟩, .inl ⟨_, rfl, _, rfl, s2 / 7, many, rfl, rfl, hm0, ?_⟩⟩
        exact k _ _ (u1.trans u2) ⟨i + 1, s2, d, a2, sqL_upO u2 s1 hsa, hsa, by omega, h2.1, h2.2⟩ (Int.emod_nonneg _ (by omega)) (Int.emod_lt_of_pos _ hm0)
      · refine iteFf (decide_eq_false hlt) ?_
        obtain ⟨c, hc⟩ : ∃ c, ns[i.toNat]? = some c := ⟨_, List.getElem?_eq_getElem (by omega)⟩
        have hat : atI (ns.map V.int) (i + 1 - 1) = some (.int c) := by
          have e : i + 1 - 1 = ((i.toNat : Nat) : Int) := by omega
          rw [e]
          refine atI_get ?_
          rw [List.getElem?_map, hc]
          rfl
        refine ⟨_, rfl, a, _, 0, _, rfl, rfl, .inl (.inl a1), rfl, _, rfl, a, _, 1, _, rfl, rfl, .inl (.inl a1), rfl, i + 1, 1, rfl, rfl, sa, _, i + 1 - 1, _, rfl, rfl, s1, hat, ?_⟩
        refine ⟨_, rfl, a, _, 2, _, rfl, rfl, .inl (.inl a1), rfl, s, 48271, rfl, rfl, .inr ⟨by decide, by decide⟩, _, rfl, s * 48271, c, rfl, rfl, _, 11, rfl, rfl, .inl ⟨_, rfl, _, 2147483647, rfl, rfl, show (0 : Int) < 2147483647 by decide, ?_⟩⟩
        refine ⟨_, rfl, a, _, 2, 2, rfl, rfl, a1, rfl, ?_⟩
        dsimp only
        generalize hs2 : (s * 48271 + c + 11) % 2147483647 = s2
        have h2 : 0 ≤ s2 ∧ s2 < 2147483647 := by rw [← hs2]; exact ⟨Int.emod_nonneg _ (by decide), Int.emod_lt_of_pos _ (by decide)⟩
        have u2 : Up T [a] H1 (upd H1 a (.lst ([V.ref sa, .int (i + 1), .int s, .int d].set 2 (.int s2)))) := .put a1 rfl List.mem_cons_self
        have a2 : (upd H1 a (.lst ([V.ref sa, .int (i + 1), .int s, .int d].set 2 (.int s2)))) a = some (.lst [V.ref sa, .int (i + 1), .int s2, .int d]) := by rw [upd_same]; rfl
        have s3 := sqL_upO u2 s1 hsa
        generalize (upd H1 a (.lst ([V.ref sa, .int (i + 1), .int s, .int d].set 2 (.int s2)))) = H2 at u2 a2 s3 ⊢
        refine ⟨_, rfl, 10, 18, rfl, rfl, ⟨by decide, by decide, by decide⟩, c, 10 ^ 18, rfl, rfl, _, rfl, ?_⟩
        by_cases hg : (10 : Int) ^ 18 ≤ c
        · refine iteTt (decide_eq_true hg) ?_
          refine ⟨_, rfl, _, rfl, c, many, rfl, rfl, ⟨hm0, hm1⟩, ?_⟩
          refine ⟨_, rfl, a, _, 3, 3, rfl, rfl, a2, rfl, ?_⟩
          have u3 : Up T [a] H2 (upd H2 a (.lst ([V.ref sa, .int (i + 1), .int s2, .int d].set 3 (.int (c / many))))) := .put a2 rfl List.mem_cons_self
          refine ⟨_, rfl, .inl ⟨c, rfl, _, rfl, c, many, rfl, rfl, hm0, ?_⟩⟩
          exact k _ _ ((u1.trans u2).trans u3) ⟨i + 1, s2, c / many, by rw [upd_same]; rfl, sqL_upO u3 s3 hsa, hsa, by omega, h2.1, h2.2⟩ (Int.emod_nonneg _ (by omega)) (Int.emod_lt_of_pos _ hm0)
        · refine iteFf (decide_eq_false hg) ?_
          refine ⟨_, rfl, .inl ⟨c, rfl, _, rfl, c, many, rfl, rfl, hm0, ?_⟩⟩
          exact k _ _ (u1.trans u2) ⟨i + 1, s2, d, a2, s3, hsa, by omega, h2.1, h2.2⟩ (Int.emod_nonneg _ (by omega)) (Int.emod_lt_of_pos _ hm0)
end
end Dc
set_option Elab.async false
set_option linter.all false
set_option maxRecDepth 100000
set_option maxHeartbeats 4000000
namespace Dc
open PySem PySem.Spec PyProof.Rows L2 DcG
section
variable {P : Program} {w : World} {K : PySem.W.Frag} {mg : Str → Option Value} {base : Heap} {T : TT}
theorem LR.noTup {ns : List Int × Addr} {a : Addr} {H : Hp} (h : LR K ns a H) : NoTup H [a] := by
  obtain ⟨i, s, d, h1, _⟩ := h
  exact noTup1 h1 rfl
/-! ### _law_pick -/
def spPick (T : TT) (K : PySem.W.Frag) : Sp := fun vs H Q _ => ∃ a x ns n, vs = [.ref a, x] ∧ LR K ns a H ∧ 0 < n ∧ n < 1000000 ∧ LenV K x H n ∧
  ((∃ p xs, x = .ref p ∧ SqL K H p xs ∧ p ≠ a ∧ xs.length = n ∧ ∀ H' v, Up T [a] H H' → LR K ns a H' → v ∈ xs → Q v H') ∨
    ∃ z, x = .str z ∧ z.length = n ∧ ∀ H' c, Up T [a] H H' → LR K ns a H' → c ∈ zl z → Q (.str ⟨#[c]⟩) H')
theorem scPick : FnScope ["_law_row", "_law_things"] ["_law_row", "_law_things"] (defScope sLawPick) := ⟨rfl, rfl, rfl, by decide +kernel, rfl, by decide +kernel, by decide +kernel⟩
theorem atI_ex {α : Type} {l : List α} {i : Int} (h0 : 0 ≤ i) (h1 : i < (l.length : Int)) : ∃ x, atI l i = some x ∧ x ∈ l := by
  have e : i = ((i.toNat : Nat) : Int) := by omega
  have hx : l[i.toNat]? = some (l[i.toNat]'(by omega)) := List.getElem?_eq_getElem (by omega)
  refine ⟨_, by rw [e]; exact atI_get hx, List.getElem_mem _⟩
theorem ok_pick {f : Addr} {fd : FuncData} (F : FnP K "_law_pick" "_law_pick" sLawPick f fd) (X : Txt K mg) (cT : CalD P w K mg base CX0 1 "_law_taken" ["_law_row", "_law_many"] (spTaken T K)) : FnOk P w K mg base CX0 2 f fd ["_law_row", "_law_things"] (spPick T K) := by
  refine F.ok scPick (fun vs H Q E h => ?_) (fun cdv A outer s H vs Q E hr h => ?_)
  · obtain ⟨v, g, ns, n, rfl, _⟩ := h
    rfl
  · obtain ⟨a, x, ns, n, rfl, hl, hn0, hn1, hlen, h⟩ := h
    refine ⟨_, PSs.nox (pss_one (ps_ret (pe_ix (IxR.or ix_list ix_str) (pv 1) (pcl cT hr pass0 (pa_cons (pv 0) (pa_cons (pe_callB call_len (by rfl) X.len b_len (pa_cons (pv 1) pa_nil)) pa_nil))) (fun _ _ => rfl)))), ?_⟩
    refine ⟨_, rfl, _, rfl, _, rfl, x, n, rfl, hlen, a, n, ns, rfl, hl, by omega, by omega, fun H1 t u1 l1 t0 t1 => ?_⟩
    rcases h with ⟨p, xs, rfl, hp, hpa, hxl, k⟩ | ⟨z, rfl, hzl, k⟩
    · obtain ⟨y, e1, e2⟩ := atI_ex (l := xs) t0 (by omega)
      exact .inl ⟨p, xs, t, y, rfl, rfl, sqL_up u1 hp (fun z => hpa (List.mem_singleton.mp z)), e1, k H1 y u1 l1 e2⟩
    · have q := zl_len z
      obtain ⟨y, e1, e2⟩ := atI_ex (l := zl z) t0 (by omega)
      exact .inr ⟨z, t, y, rfl, rfl, hlen.1, e1, k H1 y u1 l1 e2⟩
/-! ### _law_guard -/
def spLGuard (T : TT) (K : PySem.W.Frag) : Sp := fun vs H Q _ => ∃ a ns, vs = [.ref a] ∧ LR K ns a H ∧ ∀ H' v g, Up T [a] H H' → LR K ns a H' → GAt H' v g → isG g = true → Q v H'
theorem scLGuard : FnScope ["_law_row", "_law_way", "_law_divisor"] ["_law_row"] (defScope sLawGuard) := ⟨rfl, rfl, rfl, by decide +kernel, rfl, by decide +kernel, by decide +kernel⟩
theorem inR_of {n lo hi : Int} (h1 : lo ≤ n) (h2 : n ≤ hi) : inR n lo hi = true := inR_iff.mpr ⟨h1, h2⟩
theorem ok_lGuard {f : Addr} {fd : FuncData} (F : FnP K "_law_guard" "_law_guard" sLawGuard f fd) (X : Txt K mg) (cT : CalD P w K mg base CX0 1 "_law_taken" ["_law_row", "_law_many"] (spTaken T K)) : FnOk P w K mg base CX0 2 f fd ["_law_row"] (spLGuard T K) := by
  refine F.ok scLGuard (fun vs H Q E h => ?_) (fun cdv A outer s H vs Q E hr h => ?_)
  · obtain ⟨v, ns, rfl, _⟩ := h
    rfl
  · obtain ⟨a, ns, rfl, hl, k⟩ := h
    refine ⟨_, PSs.nox (pss_cons (ps_set (i := 1) scLGuard.nd rfl (Or.inl rfl) (pcl cT hr pass0 (pa_cons (pv 0) (pa_cons pe_int pa_nil))))
      (pss_cons (ps_if (pt_cmpR op_lt (pv 1) pe_int (nomark _)) (pss_one (ps_ret (pe_tup (pa_cons (pe_ix ix_list (pe_lst (pa_cons pe_str (pa_cons pe_str pa_nil))) (pv 1) (fun _ _ => rfl)) (pa_cons (pcl cT hr pass0 (pa_cons (pv 0) (pa_cons pe_int pa_nil))) pa_nil))))) pss_nil)
      (pss_cons (ps_set (i := 2) scLGuard.nd rfl (Or.inl rfl) (pe_op op_add pe_int (pcl cT hr pass0 (pa_cons (pv 0) (pa_cons pe_int pa_nil)))))
      (pss_one (ps_ret (pe_tup (pa_cons pe_str (pa_cons (pv 2) (pa_cons (pcl cT hr pass0 (pa_cons (pv 0) (pa_cons (pv 2) pa_nil))) pa_nil))))))))), ?_⟩
    refine ⟨_, rfl, a, 4, ns, rfl, hl, by omega, by omega, fun H1 t u1 l1 t0 t1 => ?_⟩
    refine ⟨_, rfl, t, 2, rfl, rfl, _, rfl, ?_⟩
    by_cases h2 : t < 2
    · refine iteTt (decide_eq_true h2) ⟨by show 2 ≤ sizeLine; decide, fun q hq => ?_⟩
      have u2 : Up T [] H1 (upd H1 q (.lst [.str "below", .str "from"])) := .new hq
      have l2 := l1.up0 u2
      have done : ∀ y, atI [V.str "below", V.str "from"] t = some y → (∀ c, 0 ≤ c → c < 12 → ∃ g, isG g = true ∧ ∀ H p, H p = some (.tup [y, .int c]) → GAt H (.ref p) g) := fun y hy c c0 c1 => by
        by_cases ht : t = 0
        · subst ht
          cases hy
          exact ⟨.below c, inR_of c0 (by omega), fun H p e => ⟨p, rfl, e⟩⟩
        · have : t = 1 := by omega
          subst this
          cases hy
          exact ⟨.frm c, inR_of c0 (by omega), fun H p e => ⟨p, rfl, e⟩⟩
      obtain ⟨y, e1, _⟩ := atI_ex (l := [V.str "below", V.str "from"]) t0 (by show t < 2; exact h2)
      refine ⟨_, rfl, q, _, t, y, rfl, rfl, .inl (.inl upd_same), e1, ?_⟩
      refine ⟨_, rfl, a, 12, ns, rfl, l2, by omega, by omega, fun H3 c u3 l3 c0 c1 => ?_⟩
      refine ⟨by show 2 ≤ sizeLine; decide, fun p hp => ?_⟩
      obtain ⟨g, hg, mk⟩ := done y e1 c c0 c1
      exact k _ _ g (((u1.trans u2.wide).trans u3).trans (.new hp)) (l3.up0 (T := T) (.new hp)) (mk _ p upd_same) hg
    · refine iteFf (decide_eq_false h2) ?_
      refine ⟨_, rfl, a, 2, ns, rfl, l1, by omega, by omega, fun H2 t2 u2 l2 s0 s1 => ⟨2, t2, rfl, rfl, ?_⟩⟩
      refine ⟨_, rfl, _, rfl, _, rfl, a, 2 + t2, ns, rfl, l2, by omega, by omega, fun H3 c u3 l3 c0 c1 => ?_⟩
      refine ⟨by show 3 ≤ sizeLine; decide, fun p hp => ?_⟩
      refine k _ _ (.rest (2 + t2) c) (((u1.trans u2).trans u3).trans (.new hp)) (l3.up0 (T := T) (.new hp)) ⟨p, rfl, upd_same⟩ ?_
      show (if inR (2 + t2) 2 4 = true then inR c 0 (2 + t2 - 1) else false) = true
      rw [inR_of (by omega) (by omega), if_pos rfl]
      exact inR_of c0 (by omega)
end
end Dc
set_option Elab.async false
set_option linter.all false
set_option maxRecDepth 100000
set_option maxHeartbeats 4000000
namespace Dc
open PySem PySem.Spec PyProof.Rows L2 DcG
section
variable {P : Program} {w : World} {K : PySem.W.Frag} {mg : Str → Option Value} {base : Heap} {T : TT}
abbrev nmL : List Str := ["f", "g", "h"]
def FnGood (m : Nat) (f : Fn) : Prop := isFn f = true ∧ ∀ r ∈ f.rows, r.name ∈ nmL.take m
abbrev nLB : List Str := ["_law_row", "_law_is_plain", "_law_names", "_law_found", "_law_name", "_law_rows_here", "_law_turn", "_law_guards", "_law_k", "_law_move"]
def tN2 (T : TT) (K : PySem.W.Frag) : TE := fun σ H Q => ∃ a ns, σ[0]? = some (some (.ref a)) ∧ LR K ns a H ∧ ∀ H' n, Up T [a] H H' → LR K ns a H' → 0 ≤ n → n < 3 → Q (.int n) H'
def tMvL (T : TT) (K : PySem.W.Frag) : TE := fun σ H Q => ∃ a ns, σ[0]? = some (some (.ref a)) ∧ σ[1]? = some (some (.bl false)) ∧ LR K ns a H ∧ ∀ H' v dn c, Up T [a] H H' → LR K ns a H' → MvAt H' v dn c → isMv dn c = true → Q v H'
def spLBook (T : TT) (K : PySem.W.Frag) : Sp := fun vs H Q _ => ∃ a ns, vs = [.ref a, .bl false] ∧ LR K ns a H ∧ ∀ H' v fs, Up T [a] H H' → LR K ns a H' → BookAt H' v fs → isBook fs = true → Q v H'
theorem scLBook : FnScope nLB ["_law_row", "_law_is_plain"] (defScope sLawBook) := ⟨rfl, rfl, rfl, by decide +kernel, rfl, by decide +kernel, by decide +kernel⟩
theorem cut_nm {t : Int} (h0 : 0 ≤ t) (h1 : t < 3) : ∃ m : Nat, 1 ≤ m ∧ m ≤ 3 ∧ cutV (nmL.map V.str) none (some (1 + t)) = (nmL.take m).map V.str := by
  have : t = 0 ∨ t = 1 ∨ t = 2 := by omega
  rcases this with rfl | rfl | rfl
  · exact ⟨1, by omega, by omega, rfl⟩
  · exact ⟨2, by omega, by omega, rfl⟩
  · exact ⟨3, by omega, by omega, rfl⟩
theorem nm_name {s : Str} (h : s ∈ nmL) : isName s = true := by
  simp only [nmL, List.mem_cons, List.not_mem_nil, or_false] at h
  rcases h with rfl | rfl | rfl <;> decide +kernel
theorem nm_nodup (m : Nat) (h1 : 1 ≤ m) (h2 : m ≤ 3) : (nmL.take m).Nodup := by
  have : m = 1 ∨ m = 2 ∨ m = 3 := by omega
  rcases this with rfl | rfl | rfl <;> decide +kernel
theorem ok_lBook {f : Addr} {fd : FuncData} (F : FnP K "_law_book" "_law_book" sLawBook f fd) (X : Txt K mg) (cT : CalD P w K mg base CX0 1 "_law_taken" ["_law_row", "_law_many"] (spTaken T K)) (cP : CalD P w K mg base CX0 2 "_law_pick" ["_law_row", "_law_things"] (spPick T K)) (cG : CalD P w K mg base CX0 2 "_law_guard" ["_law_row"] (spLGuard T K)) :
    FnOk P w K mg base CX0 3 f fd ["_law_row", "_law_is_plain"] (spLBook T K) := by
  refine F.ok scLBook (fun vs H Q E h => ?_) (fun cdv A outer s H vs Q E hr h => ?_)
  · obtain ⟨v, ns, rfl, _⟩ := h
    rfl
  · obtain ⟨a, ns, rfl, hl, k⟩ := h
    have hr1 : Room 1 _ := hr.mono (by decide)
    refine ⟨_, PSs.nox (pss_cons (ps_set (i := 2) scLBook.nd rfl (Or.inl rfl) (pe_slice sl_list (pe_lst (pa_cons pe_str (pa_cons pe_str (pa_cons pe_str pa_nil)))) po_none (po_some (pe_op op_add pe_int (pcl cT hr1 pass0 (pa_cons (pv 0) (pa_cons pe_int pa_nil)))))))
      (pss_cons (ps_set (i := 3) scLBook.nd rfl (Or.inl rfl) (pe_lst pa_nil))
      (pss_cons (ps_for PassesOwn.never rfl (pi_list (pv 2)) (pg_name (i := 4) scLBook.nd rfl (Or.inl rfl))
        (pss_cons (ps_set (i := 5) scLBook.nd rfl (Or.inl rfl) (pe_lst pa_nil))
        (pss_cons (ps_for PassesOwn.never rfl (pi_range1 (by rfl) X.range (pa_cons (pcl cT hr1 pass0 (pa_cons (pv 0) (pa_cons pe_int pa_nil))) pa_nil)) (pg_name (i := 6) scLBook.nd rfl (Or.inl rfl))
          (pss_cons (ps_set (i := 7) scLBook.nd rfl (Or.inl rfl) (pe_tup pa_nil))
          (pss_cons (ps_for PassesOwn.never rfl (pi_range1 (by rfl) X.range (pa_cons (PE.of (t' := tN2 T K) (pe_ifExp (pt_cmpR op_eq (pcl cT hr1 pass0 (pa_cons (pv 0) (pa_cons pe_int pa_nil))) pe_int (nomark _)) (pcl cT hr1 pass0 (pa_cons (pv 0) (pa_cons pe_int pa_nil))) pe_int) ?_) pa_nil)) (pg_name (i := 8) scLBook.nd rfl (Or.inl rfl))
            (pss_one (ps_set (i := 7) scLBook.nd rfl (Or.inl rfl) (pe_op op_catA (pv 7) (pe_tup (pa_cons (pcl cG hr pass0 (pa_cons (pv 0) pa_nil)) pa_nil))))))
          (pss_cons (ps_set (i := 9) scLBook.nd rfl (Or.inl rfl) (PE.of (t' := tMvL T K) (pe_ifExp (pt_cmpR op_eq (pcl cT hr1 pass0 (pa_cons (pv 0) (pa_cons pe_int pa_nil))) pe_int (nomark _)) (pe_tup (pa_cons pe_str (pa_cons (pcl cT hr1 pass0 (pa_cons (pv 0) (pa_cons pe_int pa_nil))) pa_nil)))
              (pe_tup (pa_cons pe_str (pa_cons (pcl cP hr pass0 (pa_cons (pv 0) (pa_cons (pe_ifExp (pt_val (pv 1)) (pe_lst (pa_cons pe_int (pa_cons pe_int (pa_cons pe_int (pa_cons pe_int pa_nil))))) (pe_lst (pa_cons pe_int (pa_cons pe_int (pa_cons pe_int (pa_cons pe_int (pa_cons pe_int (pa_cons pe_int pa_nil)))))))) pa_nil))) pa_nil)))) ?_))
          (pss_one (ps_app (pv 5) (pe_tup (pa_cons (pv 7) (pa_cons (pcl cP hr pass0 (pa_cons (pv 0) (pa_cons (pe_lst (pa_cons pe_str (pa_cons pe_str (pa_cons pe_str pa_nil)))) pa_nil))) (pa_cons (pcl cP hr pass0 (pa_cons (pv 0) (pa_cons (pv 2) pa_nil))) (pa_cons (pv 9) pa_nil)))))))))))
        (pss_one (ps_app (pv 3) (pe_tup (pa_cons (pv 4) (pa_cons (pcl cP hr pass0 (pa_cons (pv 0) (pa_cons (pe_lst (pa_cons pe_int (pa_cons pe_int (pa_cons pe_int (pa_cons pe_int (pa_cons pe_int (pa_cons pe_int (pa_cons pe_int pa_nil)))))))) pa_nil))) (pa_cons (pe_callTy call_tuple_of (by rfl) X.tuple b_tuple (pa_cons (pv 5) pa_nil)) pa_nil)))))))))
      (pss_one (ps_ret (pe_callTy call_tuple_of (by rfl) X.tuple b_tuple (pa_cons (pv 3) pa_nil))))))), ?_⟩
    · rintro σ H Q ⟨a, ns, e0, hl, k⟩
      refine ⟨_, e0, a, 2, ns, rfl, hl, by omega, by omega, fun H1 t u1 l1 t0 t1 => ⟨rfl, _, rfl, ?_⟩⟩
      by_cases ht : V.int t = V.int 0
      · exact iteTt (decide_eq_true ht) ⟨_, e0, a, 3, ns, rfl, l1, by omega, by omega, fun H2 t2 u2 l2 s0 s1 => k H2 t2 (u1.trans u2) l2 s0 s1⟩
      · exact iteFf (decide_eq_false ht) (k H1 0 u1 l1 (by omega) (by omega))
    · rintro σ H Q ⟨a, ns, e0, e1, hl, k⟩
      refine ⟨_, e0, a, 5, ns, rfl, hl, by omega, by omega, fun H1 t u1 l1 t0 t1 => ⟨rfl, _, rfl, ?_⟩⟩
      by_cases ht : V.int t = V.int 0
      · refine iteTt (decide_eq_true ht) ⟨_, e0, a, 9, ns, rfl, l1, by omega, by omega, fun H2 c u2 l2 c0 c1 => ⟨by show 2 ≤ sizeLine; decide, fun q hq => ?_⟩⟩
        exact k _ _ false c ((u1.trans u2).trans (.new hq)) (l2.up0 (T := T) (.new hq)) ⟨q, rfl, upd_same⟩ (inR_of c0 (by omega))
      · refine iteFf (decide_eq_false ht) ⟨_, e0, _, e1, false, rfl, iteF ⟨by show 6 ≤ sizeLine; decide, fun q hq => ?_⟩⟩
        have u2 : Up T [a] H1 (upd H1 q (.lst [.int 0, .int 1, .int 1, .int 2, .int 3, .int 4])) := .new hq
        have l2 := l1.up0 (T := T) (H' := upd H1 q (.lst [.int 0, .int 1, .int 1, .int 2, .int 3, .int 4])) (.new hq)
        refine ⟨a, .ref q, ns, 6, rfl, l2, by omega, by omega, .inl ⟨_, .inl (.inl upd_same), rfl⟩, .inl ⟨q, _, rfl, .inl (.inl upd_same), l1.ne hq, rfl, fun H3 v u3 l3 hv => ⟨by show 2 ≤ sizeLine; decide, fun p hp => ?_⟩⟩⟩
        obtain ⟨c, rfl, c0, c1⟩ : ∃ c, v = .int c ∧ 0 ≤ c ∧ c ≤ 4 := by
          simp only [List.mem_cons, List.not_mem_nil, or_false] at hv
          rcases hv with rfl | rfl | rfl | rfl | rfl | rfl <;> exact ⟨_, rfl, by decide, by decide⟩
        exact k _ _ true c (((u1.trans u2).trans u3).trans (.new hp)) (l3.up0 (T := T) (.new hp)) ⟨p, rfl, upd_same⟩ (inR_of c0 c1)
    · refine ⟨by show 3 ≤ sizeLine; decide, fun q hq => ?_⟩
      have u1 : Up T [a] H (upd H q (.lst [.str "f", .str "g", .str "h"])) := .new hq
      have l1 := hl.up0 (T := T) (H' := upd H q (.lst [.str "f", .str "g", .str "h"])) (.new hq)
      have hqa := hl.ne hq
      refine ⟨_, rfl, a, 3, ns, rfl, l1, by omega, by omega, fun H2 t u2 l2 t0 t1 => ⟨1, t, rfl, rfl, 1 + t, rfl, ?_⟩⟩
      have hq2 : H2 q = some (.lst [.str "f", .str "g", .str "h"]) := u2.keep _ _ (fun z => hqa (List.mem_singleton.mp z)) upd_same rfl
      refine ⟨q, _, rfl, .inl (.inl hq2), fun nm hnm => ?_⟩
      obtain ⟨m, hm1, hm3, em⟩ := cut_nm t0 t1
      have em' : cutV [V.str "f", V.str "g", V.str "h"] none (some (1 + t)) = (nmL.take m).map V.str := em
      rw [em']
      have hna := l2.ne hnm
      have uA : Up T [a] H (upd H2 nm (.lst ((nmL.take m).map V.str))) := (u1.trans u2).trans (.new hnm)
      have lA := l2.up0 (T := T) (H' := upd H2 nm (.lst ((nmL.take m).map V.str))) (.new hnm)
      have hA : (upd H2 nm (.lst ((nmL.take m).map V.str))) nm = some (.lst ((nmL.take m).map V.str)) := upd_same
      generalize (upd H2 nm (.lst ((nmL.take m).map V.str))) = HA at uA lA hA ⊢
      refine ⟨by show 0 ≤ sizeLine; decide, fun l hln => ?_⟩
      have keepN : ∀ {H'}, Up T [a] HA H' → H' nm = some (.lst ((nmL.take m).map V.str)) := fun u => u.keep _ _ (fun z => hna (List.mem_singleton.mp z)) hA rfl
      have hla := lA.ne hln
      have hnl : nm ≠ l := fun z => by rw [← z, hA] at hln; cases hln
      refine ⟨_, rfl, nm, rfl, ⟨_, .inl (.inl (keepN (.new hln)))⟩, ?_⟩
      refine for_list (xs := (nmL.take m).map V.str) (fun i σ H' => (∃ x4 x5 x6 x7 x8 x9, σ = [some (.ref a), some (.bl false), some (.ref nm), some (.ref l), x4, x5, x6, x7, x8, x9]) ∧ Up T [a] HA H' ∧ LR K ns a H' ∧ ∃ vs fs, H' l = some (.lst vs) ∧ Paired (FnAt H') vs fs ∧ names fs = nmL.take i ∧ ∀ f ∈ fs, FnGood m f)
        ⟨⟨_, _, _, _, _, _, rfl⟩, .new hln, lA.up0 (T := T) (.new hln), [], [], upd_same, .nil, rfl, fun _ h => by cases h⟩ (fun i σ H' _ p => .inl (.inl (keepN p.2.1))) ?_ ?_
      · rintro i x σ H3 e ⟨⟨x4, x5, x6, x7, x8, x9, rfl⟩, u3, l3, vs, fs, hl3, P3, hn3, g3⟩
        obtain ⟨sn, esn, rfl⟩ : ∃ sn, (nmL.take m)[i]? = some sn ∧ x = .str sn := by
          rw [List.getElem?_map] at e
          cases q : (nmL.take m)[i]? with
          | none => rw [q] at e; cases e
          | some sn => rw [q] at e; cases e; exact ⟨sn, rfl, rfl⟩
        have hsn : sn ∈ nmL := List.mem_of_mem_take (List.mem_of_getElem? esn)
        have esn2 : nmL[i]? = some sn := by
          have := esn
          rw [List.getElem?_take] at this
          split at this
          · exact this
          · cases this
        refine ⟨by show 0 ≤ sizeLine; decide, fun D hD => ?_⟩
        have hDa := l3.ne hD
        have uD : Up T [a] H3 (upd H3 D (.lst [])) := .new hD
        refine ⟨_, rfl, a, 4, ns, rfl, l3.up0 (T := T) (.new hD), by omega, by omega, fun H5 t5 u5 l5 t50 t51 => ⟨t5, rfl, by omega, by omega, ?_⟩⟩
        have hD5 : H5 D = some (.lst []) := u5.keep _ _ (fun z => hDa (List.mem_singleton.mp z)) upd_same rfl
        refine for_range (fun j σ H' => (∃ x6 x7 x8 x9, σ = [some (.ref a), some (.bl false), some (.ref nm), some (.ref l), some (.str sn), some (.ref D), x6, x7, x8, x9]) ∧ Up T [a] H3 H' ∧ LR K ns a H' ∧ ∃ rvs rs, H' D = some (.lst rvs) ∧ Paired (RowAt H') rvs rs ∧ rs.length = j ∧ ∀ r ∈ rs, isRow r = true ∧ r.name ∈ nmL.take m)
          ⟨⟨_, _, _, _, rfl⟩, uD.trans u5, l5, [], [], hD5, .nil, rfl, fun _ h => by cases h⟩ ?_ ?_
        · rintro j σ H6 hj ⟨⟨x6, x7, x8, x9, rfl⟩, u6, l6, rvs, rs, hD6, P6, hlen6, g6⟩
          refine ⟨by show 0 ≤ sizeLine; decide, fun g0 hg0 => ?_⟩
          refine ⟨a, ns, rfl, l6.up0 (T := T) (.new hg0), fun H8 n u8 l8 n0 n1 => ⟨n, rfl, by omega, by omega, ?_⟩⟩
          have u68 : Up T [a] H6 H8 := .trans (.new hg0) u8
          have hg8 : H8 g0 = some (.tup []) := u8.tup (l6.up0 (T := T) (.new hg0)).noTup upd_same
          refine for_range (fun k σ H' => (∃ y6 y8 y9 ga, σ = [some (.ref a), some (.bl false), some (.ref nm), some (.ref l), some (.str sn), some (.ref D), y6, some (.ref ga), y8, y9] ∧ ∃ gvs gs, H' ga = some (.tup gvs) ∧ Paired (GAt H') gvs gs ∧ gs.length = k ∧ ∀ g ∈ gs, isG g = true) ∧ Up T [a] H6 H' ∧ LR K ns a H')
            ⟨⟨_, _, _, g0, rfl, [], [], hg8, .nil, rfl, fun _ h => by cases h⟩, u68, l8⟩ ?_ ?_
          · rintro k' σ H9 hk ⟨⟨y6, y8, y9, ga, rfl, gvs, gs, hga, Pg, hgl, hig⟩, u9, l9⟩
            refine ⟨_, rfl, _, rfl, a, ns, rfl, l9, fun H10 v g u10 l10 hv iv => ⟨by show 1 ≤ sizeLine; decide, fun q1 hq1 => ?_⟩⟩
            have w1 : Up T [] H10 (upd H10 q1 (.tup [v])) := .new hq1
            have ga10 : H10 ga = some (.tup gvs) := u10.tup l9.noTup hga
            have P10 : Paired (GAt H10) gvs gs := L2.Paired.mapP Pg fun _ _ q => q.up u10 l9.noTup
            have hk2 : gs.length ≤ 2 := by
              have : k' < n.toNat := hk
              omega
            have hk3 : gvs.length ≤ 2 := by rw [Paired.length Pg]; exact hk2
            have gig : ∀ g' ∈ gs ++ [g], isG g' = true := fun g' hg' => by
              rcases List.mem_append.mp hg' with q | q
              · exact hig g' q
              · rw [List.mem_singleton.mp q]; exact iv
            have hsz := szl
            refine ⟨ga, q1, gvs, [v], rfl, rfl, .inl (.inl (w1.tup noTup0 ga10)), .inl (.inl upd_same), by rw [List.length_singleton]; omega, fun h0 => ?_, fun _ h1 => absurd h1 (by simp), fun h0 _ p1 hp1 => ?_⟩
            · subst h0
              have : gs = [] := by
                have q := Paired.length Pg
                cases gs with
                | nil => rfl
                | cons _ _ => cases q
              subst this
              refine ⟨⟨_, _, _, q1, rfl, [v], [g], upd_same, .cons (hv.up w1 noTup0) .nil, by rw [← hgl]; rfl, gig⟩, (u9.trans u10).trans w1.wide, l10.up0 w1⟩
            · have w2 : Up T [] (upd H10 q1 (.tup [v])) (upd (upd H10 q1 (.tup [v])) p1 (.tup (gvs ++ [v]))) := .new hp1
              have w3 := w1.trans w2
              refine ⟨⟨_, _, _, p1, rfl, gvs ++ [v], gs ++ [g], upd_same, paired_snoc (L2.Paired.mapP P10 fun _ _ q => q.up w3 noTup0) (hv.up w3 noTup0), by rw [List.length_append, hgl]; rfl, gig⟩, (u9.trans u10).trans w3.wide, l10.up0 w3⟩
          · rintro σ H12 ⟨⟨y6, y8, y9, ga, rfl, gvs, gs, hga, Pg, hgl, hig⟩, u12, l12⟩
            refine ⟨a, ns, rfl, rfl, l12, fun H13 mv dn c u13 l13 hmv imv => ?_⟩
            have uDk : ∀ {H'}, Up T [a] H6 H' → H' D = some (.lst rvs) := fun u => u.keep _ _ (fun z => hDa (List.mem_singleton.mp z)) hD6 rfl
            have u613 := u12.trans u13
            refine ⟨D, rvs, rfl, uDk u613, _, rfl, _, rfl, by show 3 ≤ sizeLine; decide, fun q hq => ?_⟩
            have w14 : Up T [] H13 (upd H13 q (.lst [.str "call", .str "call", .str "tail"])) := .new hq
            have l14 := l13.up0 w14
            have hq14 : (upd H13 q (.lst [.str "call", .str "call", .str "tail"])) q = some (.lst [.str "call", .str "call", .str "tail"]) := upd_same
            generalize (upd H13 q (.lst [.str "call", .str "call", .str "tail"])) = H14 at w14 l14 hq14 ⊢
            refine ⟨a, .ref q, ns, 3, rfl, l14, by omega, by omega, .inl ⟨_, .inl (.inl hq14), rfl⟩, .inl ⟨q, _, rfl, .inl (.inl hq14), l13.ne hq, rfl, fun H15 kd u15 l15 hkd => ?_⟩⟩
            obtain ⟨ks, rfl, hks⟩ : ∃ ks : Str, kd = .str ks ∧ ks ∈ (["call", "tail"] : List Str) := by
              simp only [List.mem_cons, List.not_mem_nil, or_false] at hkd
              rcases hkd with rfl | rfl | rfl
              · exact ⟨_, rfl, List.mem_cons_self⟩
              · exact ⟨_, rfl, List.mem_cons_self⟩
              · exact ⟨_, rfl, List.mem_cons_of_mem _ List.mem_cons_self⟩
            have u615 : Up T [a] H6 H15 := (u613.trans w14.wide).trans u15
            have hnm15 := keepN ((u3.trans u6).trans u615)
            have hnmL : ((nmL.take m).map V.str).length = m := by
              rw [List.length_map, List.length_take]
              show min m 3 = m
              omega
            refine ⟨_, rfl, _, rfl, a, .ref nm, ns, m, rfl, l15, by omega, by omega, .inl ⟨_, .inl (.inl hnm15), hnmL.symm⟩, .inl ⟨nm, _, rfl, .inl (.inl hnm15), hna, hnmL, fun H16 nv u16 l16 hnv => ?_⟩⟩
            obtain ⟨ss, hss, rfl⟩ := List.mem_map.mp hnv
            refine ⟨_, rfl, by show 4 ≤ sizeLine; decide, fun p hp => ?_⟩
            have w17 : Up T [] H16 (upd H16 p (.tup [.ref ga, .str ks, .str ss, mv])) := .new hp
            have l17 := l16.up0 w17
            have hp17 : (upd H16 p (.tup [.ref ga, .str ks, .str ss, mv])) p = some (.tup [.ref ga, .str ks, .str ss, mv]) := upd_same
            generalize (upd H16 p (.tup [.ref ga, .str ks, .str ss, mv])) = H17 at w17 l17 hp17 ⊢
            have u1317 : Up T [a] H13 H17 := ((w14.wide.trans u15).trans u16).trans w17.wide
            have u1217 : Up T [a] H12 H17 := u13.trans u1317
            have u617 : Up T [a] H6 H17 := u12.trans u1217
            have hD17 := uDk u617
            have row17 : RowAt H17 (.ref p) ⟨gs, ks, ss, dn, c⟩ := ⟨p, ga, mv, gvs, rfl, hp17, u1217.tup l12.noTup hga, L2.Paired.mapP Pg fun _ _ q => q.up u1217 l12.noTup, hmv.up u1317 l13.noTup⟩
            have P17 : Paired (RowAt H17) rvs rs := L2.Paired.mapP P6 fun _ _ q => q.up u617 l6.noTup
            have hsz := szl
            have hrl : rvs.length = j := by rw [Paired.length P6, hlen6]
            have hj2 : j < t5.toNat := hj
            refine ⟨rvs, hD17, by omega, ⟨_, _, _, _, rfl⟩, (u6.trans u617).drop (.put hD17 rfl List.mem_cons_self) hD, l3.put hD l17, rvs ++ [.ref p], rs ++ [⟨gs, ks, ss, dn, c⟩], upd_same, ?_, by rw [List.length_append, hlen6]; rfl, ?_⟩
            · have w18 : Up T [D] H17 (upd H17 D (.lst (rvs ++ [.ref p]))) := .put hD17 rfl List.mem_cons_self
              have n18 : NoTup H17 [D] := noTup1 hD17 rfl
              exact paired_snoc (L2.Paired.mapP P17 fun _ _ q => q.up w18 n18) (row17.up w18 n18)
            · intro r hr
              rcases List.mem_append.mp hr with q | q
              · exact g6 r q
              · rw [List.mem_singleton.mp q]
                refine ⟨?_, hss⟩
                have g1 : gs.length ≤ 3 := by omega
                show (if gs.length ≤ 3 then (if gs.all isG = true then (if ks ∈ (["call", "tail"] : List Str) then (isName ss && isMv dn c) else false) else false) else false) = true
                rw [if_pos g1, if_pos (List.all_eq_true.mpr hig), if_pos hks, nm_name (List.mem_of_mem_take hss), imv]
                rfl
        · rintro σ H9 ⟨⟨x6, x7, x8, x9, rfl⟩, u9, l9, rvs, rs, hD9, P9, hlen9, g9⟩
          have uLk : ∀ {H'}, Up T [a] H3 H' → H' l = some (.lst vs) := fun u => u.keep _ _ (fun z => hla (List.mem_singleton.mp z)) hl3 rfl
          refine ⟨l, vs, rfl, uLk u9, _, rfl, _, rfl, by show 7 ≤ sizeLine; decide, fun q hq => ?_⟩
          have w10 : Up T [] H9 (upd H9 q (.lst [.int 0, .int 1, .int 2, .int 3, .int 5, .int 8, .int 20])) := .new hq
          have l10 := l9.up0 w10
          have hq10 : (upd H9 q (.lst [.int 0, .int 1, .int 2, .int 3, .int 5, .int 8, .int 20])) q = some (.lst [.int 0, .int 1, .int 2, .int 3, .int 5, .int 8, .int 20]) := upd_same
          generalize (upd H9 q (.lst [.int 0, .int 1, .int 2, .int 3, .int 5, .int 8, .int 20])) = H10 at w10 l10 hq10 ⊢
          refine ⟨a, .ref q, ns, 7, rfl, l10, by omega, by omega, .inl ⟨_, .inl (.inl hq10), rfl⟩, .inl ⟨q, _, rfl, .inl (.inl hq10), l9.ne hq, rfl, fun H11 sv u11 l11 hsv => ?_⟩⟩
          obtain ⟨sz, rfl, hs0, hs1⟩ : ∃ c, sv = .int c ∧ 0 ≤ c ∧ c ≤ 20 := by
            simp only [List.mem_cons, List.not_mem_nil, or_false] at hsv
            rcases hsv with rfl | rfl | rfl | rfl | rfl | rfl | rfl <;> exact ⟨_, rfl, by decide, by decide⟩
          have u911 : Up T [a] H9 H11 := w10.wide.trans u11
          have hD11 : H11 D = some (.lst rvs) := u911.keep _ _ (fun z => hDa (List.mem_singleton.mp z)) hD9 rfl
          refine ⟨_, rfl, D, rvs, rfl, .inl ⟨.inl (.inl hD11), fun tl htl => ⟨by show 3 ≤ sizeLine; decide, fun p hp => ?_⟩⟩⟩
          have w12 : Up T [] H11 (upd H11 tl (.tup rvs)) := .new htl
          have ht12 : (upd H11 tl (.tup rvs)) tl = some (.tup rvs) := upd_same
          have l12 := l11.up0 w12
          generalize (upd H11 tl (.tup rvs)) = H12 at w12 ht12 l12 hp ⊢
          have w13 : Up T [] H12 (upd H12 p (.tup [.str sn, .int sz, .ref tl])) := .new hp
          have hp13 : (upd H12 p (.tup [.str sn, .int sz, .ref tl])) p = some (.tup [.str sn, .int sz, .ref tl]) := upd_same
          have l13 := l12.up0 w13
          generalize (upd H12 p (.tup [.str sn, .int sz, .ref tl])) = H13 at w13 hp13 l13 ⊢
          have u913 : Up T [a] H9 H13 := (u911.trans w12.wide).trans w13.wide
          have u313 : Up T [a] H3 H13 := u9.trans u913
          have hl13 := uLk u313
          have fn13 : FnAt H13 (.ref p) ⟨sn, sz, rs⟩ := ⟨p, tl, rvs, rfl, hp13, w13.tup noTup0 ht12, L2.Paired.mapP P9 fun _ _ q => q.up u913 l9.noTup⟩
          have P13 : Paired (FnAt H13) vs fs := L2.Paired.mapP P3 fun _ _ q => q.up u313 l3.noTup
          have hsz := szl
          have him : i < m := by
            have := (List.getElem?_eq_some_iff.mp esn).1
            rw [List.length_take] at this
            omega
          have hvl : vs.length ≤ 3 := by
            rw [Paired.length P3]
            have q := congrArg List.length hn3
            unfold names at q
            rw [List.length_map, List.length_take] at q
            omega
          have hnx : names (fs ++ [⟨sn, sz, rs⟩]) = nmL.take (i + 1) := by
            rw [List.take_add_one, esn2, ← hn3]
            unfold names
            rw [List.map_append]
            rfl
          refine ⟨vs, hl13, by omega, ⟨_, _, _, _, _, _, rfl⟩, (u3.trans u313).drop (.put hl13 rfl List.mem_cons_self) hln, lA.put hln l13, vs ++ [.ref p], fs ++ [⟨sn, sz, rs⟩], upd_same, ?_, hnx, ?_⟩
          · have w18 : Up T [l] H13 (upd H13 l (.lst (vs ++ [.ref p]))) := .put hl13 rfl List.mem_cons_self
            have n18 : NoTup H13 [l] := noTup1 hl13 rfl
            exact paired_snoc (L2.Paired.mapP P13 fun _ _ q => q.up w18 n18) (fn13.up w18 n18)
          · intro f hf
            rcases List.mem_append.mp hf with q | q
            · exact g3 f q
            · rw [List.mem_singleton.mp q]
              refine ⟨?_, fun r hr => (g9 r hr).2⟩
              show (if isName sn = true then (if inR sz 0 20 = true then (decide (rs.length ≤ 6) && rs.all isRow) else false) else false) = true
              rw [nm_name hsn, if_pos rfl, inR_of hs0 hs1, if_pos rfl, decide_eq_true (show rs.length ≤ 6 by omega), Bool.true_and]
              exact List.all_eq_true.mpr fun r hr => (g9 r hr).1
      · rintro σ H3 ⟨⟨x4, x5, x6, x7, x8, x9, rfl⟩, u3, l3, vs, fs, hl3, P3, hn3, g3⟩
        refine ⟨_, rfl, l, vs, rfl, .inl ⟨.inl (.inl hl3), fun p hp => ?_⟩⟩
        have w1 : Up T [] H3 (upd H3 p (.tup vs)) := .new hp
        have hlen : ((nmL.take m).map V.str).length = m := by
          rw [List.length_map, List.length_take]
          show min m 3 = m
          omega
        rw [hlen] at hn3
        have hfl : fs.length = m := by
          have q := congrArg List.length hn3
          unfold names at q
          rw [List.length_map, List.length_take] at q
          rw [q]
          show min m 3 = m
          omega
        refine k _ _ fs ((uA.trans u3).trans w1.wide) (l3.up0 w1) ⟨p, vs, rfl, upd_same, L2.Paired.mapP P3 fun _ _ q => q.up w1 noTup0⟩ ?_
        unfold isBook
        rw [decide_eq_true (show 1 ≤ fs.length by omega), decide_eq_true (show fs.length ≤ 4 by omega), Bool.true_and, if_pos rfl, if_pos (List.all_eq_true.mpr fun f hf => (g3 f hf).1), hn3, decide_eq_true (nm_nodup m hm1 hm3), Bool.true_and]
        exact List.all_eq_true.mpr fun f hf => List.all_eq_true.mpr fun r hr => decide_eq_true ((g3 f hf).2 r hr)
end
end Dc
set_option Elab.async false
set_option linter.all false
set_option maxRecDepth 100000
set_option maxHeartbeats 4000000
namespace Dc
open PySem PySem.Spec PyProof.Rows L2 DcG
theorem wrd_snoc {l : List Nat} {i k c : Nat} (e : l[i + k]? = some c) : wrd l i (i + k) ++ ⟨#[c]⟩ = wrd l i (i + k + 1) := by
  refine str_ext ?_
  show zl _ = _
  rw [zl_app, wrd_list]
  have e1 : zl (wrd l i (i + k)) = (l.drop i).take k := by
    show (wrd l i (i + k)).cps.toList = _
    rw [wrd_list, Nat.add_sub_cancel_left]
  have e2 : i + k + 1 - i = k + 1 := by omega
  rw [e1, e2, List.take_add_one, List.getElem?_drop, e]
  rfl
theorem wrd_nil (l : List Nat) (i : Nat) : wrd l i i = Str.empty := by
  unfold wrd
  rw [Nat.sub_self]
  rfl
theorem cut_end (z : Str) (i : Nat) : zl (cutS z (some (i : Int)) none) = (zl z).drop i := by
  unfold cutS
  rw [HT.sIx_nat, HT.sIx_none, zl_len]
  show ((zl z).drop _).take _ = _
  generalize zl z = l
  by_cases h : i ≤ l.length
  · rw [Nat.min_eq_left h, List.take_of_length_le (by rw [List.length_drop]; omega)]
  · rw [Nat.min_eq_right (by omega), List.drop_of_length_le (show l.length ≤ i by omega), List.drop_of_length_le (Nat.le_refl _)]
    simp
section
variable {P : Program} {w : World} {K : PySem.W.Frag} {mg : Str → Option Value} {base : Heap} {T : TT}
/-! ### _law_run -/
def spRun : Sp := fun vs H Q _ => ∃ (z : Str) (i : Nat) (s : Str) (f : Nat → Bool), vs = [.str z, .int i, .str s] ∧ z.length ≤ sizeLine ∧ (∀ c, decide (c ∈ zl s) = f c) ∧ Q (.str (wrd (zl z) i (runE f (zl z) i))) H
theorem scRun : FnScope ["_law_text_here", "_law_at", "_law_signs", "_law_run_here", "_law_sign"] ["_law_text_here", "_law_at", "_law_signs"] (defScope sLawRun) := ⟨rfl, rfl, rfl, by decide +kernel, rfl, by decide +kernel, by decide +kernel⟩
theorem ok_run {f : Addr} {fd : FuncData} (F : FnP K "_law_run" "_law_run" sLawRun f fd) : FnOk P w K mg base CX0 1 f fd ["_law_text_here", "_law_at", "_law_signs"] spRun := by
  refine F.ok scRun (fun vs H Q E h => ?_) (fun cdv A outer s H vs Q E hr h => ?_)
  · obtain ⟨z, i, s, f, rfl, _⟩ := h
    rfl
  · obtain ⟨z, i, s, g, rfl, hz, hg, k⟩ := h
    refine ⟨_, PSs.nox (pss_cons (ps_set (i := 3) scRun.nd rfl (Or.inl rfl) pe_str)
      (pss_cons (ps_for PassesOwn.never rfl (pi_str (pe_slice sl_str (pv 0) (po_some (pv 1)) po_none)) (pg_name (i := 4) scRun.nd rfl (Or.inl rfl))
        (pss_cons (ps_if (pt_cmpR op_notIn_sign (pv 4) (pv 2) rfl) (pss_one ps_break) pss_nil) (pss_one (ps_set (i := 3) scRun.nd rfl (Or.inl rfl) (pe_op op_add_str (pv 3) (pv 4))))))
      (pss_one (ps_ret (pv 3))))), ?_⟩
    refine ⟨_, rfl, _, rfl, _, rfl, z, rfl, hz, _, rfl, ?_⟩
    have ezl := zl_len z
    have ed := cut_end z i
    have el : (cutS z (some (i : Int)) none).cps.size = (zl z).length - i := by
      have q := congrArg List.length ed
      rw [List.length_drop] at q
      rw [← q]
      exact (Array.length_toList).symm
    refine ⟨fun k m σ H' => m = (zl z).length - k ∧ H' = H ∧ (∃ x4, σ = [some (.str z), some (.int i), some (.str s), some (.str (wrd (zl z) i (i + k))), x4]) ∧ runE g (zl z) (i + k) = runE g (zl z) i ∧ (k ≠ 0 → i + k ≤ (zl z).length), ⟨_, rfl, rfl, ⟨_, by rw [Nat.add_zero, wrd_nil]; rfl⟩, rfl, fun h => absurd rfl h⟩, ?_⟩
    rintro n m σ H' ⟨rfl, rfl, ⟨x4, rfl⟩, er, hle⟩
    have fin : atB g (zl z) (i + n) = false → Q (.str (wrd (zl z) i (i + n))) H' := fun hb => by
      have e1 : runE g (zl z) i = i + n := by rw [← er]; exact runE_no hb
      rw [e1] at k
      exact k
    by_cases hlt : i + n < (zl z).length
    · refine .inr ⟨by show n < (cutS z (some (i : Int)) none).cps.size; omega, fun σ' H'' => H'' = H' ∧ atB g (zl z) (i + n) = true ∧ ∃ x4, σ' = [some (.str z), some (.int i), some (.str s), some (.str (wrd (zl z) i (i + n + 1))), x4], ?_, ?_⟩
      · rintro σ' H'' ⟨rfl, hb, y, rfl⟩
        exact ⟨(zl z).length - (n + 1), by omega, rfl, rfl, ⟨y, rfl⟩, by rw [← er, runE_yes hb]; rfl, fun _ => by omega⟩
      · rintro x H'' ⟨rfl, c, ec, rfl⟩
        have ec2 : (zl z)[i + n]? = some c := by
          rw [← List.getElem?_drop, ← ed]
          simpa using ec
        have hb : atB g (zl z) (i + n) = g c := by unfold atB; rw [ec2]
        refine ⟨_, rfl, _, rfl, c, s, rfl, rfl, _, rfl, ?_⟩
        have q := hg c
        show if (!decide (c ∈ zl s)) = true then _ else _
        rw [q]
        cases hc : g c with
        | false =>
          rw [hc] at hb
          exact iteT ⟨_, rfl, fin hb⟩
        | true =>
          rw [hc] at hb
          refine iteF ⟨_, rfl, _, rfl, _, _, rfl, rfl, ?_, rfl, hb, some (.str ⟨#[c]⟩), ?_⟩
          · have := wrd_le (zl z) i (i + n + 1)
            have q := len_app (wrd (zl z) i (i + n)) ⟨#[c]⟩
            rw [wrd_snoc ec2] at q
            omega
          · rw [wrd_snoc ec2]
            rfl
    · refine .inl ⟨by show (cutS z (some (i : Int)) none).cps.size ≤ n; omega, _, rfl, fin (atB_ge (by omega))⟩
/-! ### _law_step -/
def numW (l : List Nat) (i : Nat) : Except Nat (Str × Nat) := if atB isD l i = true then
    match rowOf isD l i with
    | .error e => .error e
    | .ok (w, j) => if badNum w = true then .error i else .ok (w, j)
  else .error i
def stepM (s : Str) (l : List Nat) (i : Nat) : Except Nat (Str × Nat) := if s = "word" then wordM l i else if s = "number" then numW l i else (signM (zl s) l i).map fun j => (s, j)
def StepAt (H : Hp) (p : Addr) (l : List Nat) (i : Nat) (s : Str) : Prop := ∃ (v : Str) (j : Nat) (b : V), H p = some (.tup [.str v, .int j, b]) ∧ match stepM s l i with
  | .ok (v0, j0) => v = v0 ∧ j = j0 ∧ b = .non
  | .error e => b = .int (e : Nat)
def spStep (T : TT) : Sp := fun vs H Q _ => ∃ (z : Str) (i : Nat) (s : Str), vs = [.str z, .int i, .str s] ∧ z.length ≤ 1000000 ∧ i ≤ (zl z).length ∧ s.length ≤ 10 ∧ ∀ H' p, Up T [] H H' → StepAt H' p (zl z) i s → Q (.ref p) H'
abbrev nSt : List Str := ["_law_text_here", "_law_at", "_law_want", "_law_letters", "_law_digits", "_law_run_here", "_law_end", "_law_bad"]
theorem scStep : FnScope nSt ["_law_text_here", "_law_at", "_law_want"] (defScope sLawStep) := ⟨rfl, rfl, rfl, by decide +kernel, rfl, by decide +kernel, by decide +kernel⟩
end
end Dc
set_option Elab.async false
set_option linter.all false
set_option maxRecDepth 100000
set_option maxHeartbeats 4000000
namespace Dc
open PySem PySem.Spec PyProof.Rows L2 DcG
section
variable {P : Program} {w : World} {K : PySem.W.Frag} {mg : Str → Option Value} {base : Heap} {T : TT}
def bad1 (f : Nat → Bool) (l : List Nat) (i : Nat) : V := if atB f l i = true then (if atB isLD l (runE f l i) = true then .int (runE f l i : Nat) else .non) else .int (i : Nat)
def tBad1 : TE := fun σ H Q => ∃ (z : Str) (i : Nat) (f : Nat → Bool), σ[0]? = some (some (.str z)) ∧ σ[1]? = some (some (.int i)) ∧ σ[3]? = some (some (.str LETS)) ∧ σ[4]? = some (some (.str DIGS)) ∧ σ[5]? = some (some (.str (wrd (zl z) i (runE f (zl z) i)))) ∧ σ[6]? = some (some (.int (runE f (zl z) i : Nat))) ∧ z.length ≤ sizeLine ∧ Q (bad1 f (zl z) i) H
def tCond : L2.TT := fun σ H Q => ∃ (v s : Str) (b : V), σ[5]? = some (some (.str v)) ∧ σ[2]? = some (some (.str s)) ∧ σ[7]? = some (some b) ∧ (b = .non → 1 ≤ v.length) ∧ v.length ≤ sizeLine ∧ Q (decide (b = .non) && (decide (s = "number") && badNum v)) H
def stepR (s : Str) (l : List Nat) (i : Nat) (v : Str) (e : Nat) (b : V) : Prop := match stepM s l i with
  | .ok (v0, j0) => v = v0 ∧ j0 = skipE l e ∧ b = .non
  | .error e' => b = .int (e' : Nat)
def tStepS : TS := fun D σ H => ∃ (z : Str) (i : Nat) (s : Str), σ = [some (.str z), some (.int i), some (.str s), some (.str LETS), some (.str DIGS), none, none, none] ∧ z.length ≤ sizeLine ∧ s.length ≤ sizeLine ∧
  ∀ v (e : Nat) b, stepR s (zl z) i v e b → D.nx [some (.str z), some (.int i), some (.str s), some (.str LETS), some (.str DIGS), some (.str v), some (.int e), some b] H
def tIsTok : L2.TT := fun σ H Q => ∃ s : Str, σ[2]? = some (some (.str s)) ∧ Q (decide (s = "word") || decide (s = "number")) H
def tSig : TE := fun σ H Q => ∃ s : Str, σ[2]? = some (some (.str s)) ∧ σ[3]? = some (some (.str LETS)) ∧ σ[4]? = some (some (.str DIGS)) ∧ Q (.str (if s = "word" then LETS else DIGS)) H
theorem dec_vstr (a b : Str) : decide (V.str a = V.str b) = decide (a = b) := by
  by_cases h : a = b
  · rw [decide_eq_true h, decide_eq_true (by rw [h])]
  · rw [decide_eq_false h, decide_eq_false (fun z => h (V.str.inj z))]
theorem wrd_run_len (f : Nat → Bool) (l : List Nat) (i : Nat) : (wrd l i (runE f l i)).length = runE f l i - i := by
  rw [zl_len]
  show (wrd l i (runE f l i)).cps.toList.length = _
  rw [wrd_runE]
  unfold runE
  omega
theorem run_empty (f : Nat → Bool) (l : List Nat) (i : Nat) : decide (V.str (wrd l i (runE f l i)) = V.str "") = !atB f l i := by
  rw [dec_vstr]
  have q := wrd_run_len f l i
  cases h : atB f l i with
  | true =>
    have := runE_gt h
    refine decide_eq_false fun z => ?_
    rw [z] at q
    have e : ("" : Str).length = 0 := by decide +kernel
    omega
  | false =>
    rw [runE_no h, wrd_nil]
    exact decide_eq_true (by decide +kernel)
theorem ld_sign (c : Nat) : decide (c ∈ zl (LETS ++ DIGS)) = isLD c := by
  have h1 := isL_letters c
  have h2 := isD_digits c
  unfold isLD
  rw [zl_app, ← h1, ← h2]
  by_cases a : c ∈ zl LETS
  · rw [decide_eq_true a, decide_eq_true (List.mem_append.mpr (.inl a))]; rfl
  · rw [decide_eq_false a, Bool.false_or]
    by_cases b : c ∈ zl DIGS
    · rw [decide_eq_true b, decide_eq_true (List.mem_append.mpr (.inr b))]
    · rw [decide_eq_false b, decide_eq_false (fun z => (List.mem_append.mp z).elim a b)]
theorem sp_signs (c : Nat) : decide (c ∈ zl " ") = isS c := by
  have e : zl " " = [32] := by decide +kernel
  rw [e, Bool.eq_iff_iff, decide_eq_true_eq]
  unfold isS
  rw [Nat.beq_eq]
  simp
theorem ok_step {f : Addr} {fd : FuncData} (F : FnP K "_law_step" "_law_step" sLawStep f fd) (X : Txt K mg) (cR : CalD P w K mg base CX0 1 "_law_run" ["_law_text_here", "_law_at", "_law_signs"] spRun) : FnOk P w K mg base CX0 2 f fd ["_law_text_here", "_law_at", "_law_want"] (spStep T) := by
  refine F.ok scStep (fun vs H Q E h => ?_) (fun cdv A outer s H vs Q E hr h => ?_)
  · obtain ⟨z, i, s, rfl, _⟩ := h
    rfl
  · obtain ⟨z, i, s, rfl, hz, hi, hs, k⟩ := h
    refine ⟨_, PSs.nox (pss_cons (ps_asg (pe_tup (pa_cons pe_str (pa_cons pe_str pa_nil))) (pg_tup rfl (pgs_cons (pg_name (i := 3) scStep.nd rfl (Or.inl rfl)) (pgs_cons (pg_name (i := 4) scStep.nd rfl (Or.inl rfl)) pgs_nil))))
      (pss_cons (PS.of (t' := tStepS) (ps_if (PT.of (t' := tIsTok) (PW.pt (pw_or (pt_cmpR op_eq (pv 2) pe_str (nomark _)) (pw_or1 (pt_cmpR op_eq (pv 2) pe_str (nomark _))))) ?_)
        (pss_cons (ps_set (i := 5) scStep.nd rfl (Or.inl rfl) (pcl cR hr pass0 (pa_cons (pv 0) (pa_cons (pv 1) (pa_cons (PE.of (t' := tSig) (pe_ifExp (pt_cmpR op_eq (pv 2) pe_str (nomark _)) (pv 3) (pv 4)) ?_) pa_nil)))))
        (pss_cons (ps_set (i := 6) scStep.nd rfl (Or.inl rfl) (pe_op op_add (pv 1) (pe_callB call_len_str (by rfl) X.len b_len (pa_cons (pv 5) pa_nil))))
        (pss_cons (ps_set (i := 7) scStep.nd rfl (Or.inl rfl) (PE.of (t' := tBad1) (pe_ifExp (pt_cmpR op_eq (pv 5) pe_str (nomark _)) (pv 1)
            (pe_ifExp (PW.pt (pw_and (pt_cmpR op_ne (pe_slice sl_str (pv 0) (po_some (pv 6)) (po_some (pe_op op_add (pv 6) pe_int))) pe_str (nomark _)) (pw_and1 (pt_cmpR op_in_sign (pe_slice sl_str (pv 0) (po_some (pv 6)) (po_some (pe_op op_add (pv 6) pe_int))) (pe_op op_add_str (pv 3) (pv 4)) rfl)))) (pv 6) pe_non)) ?_))
        (pss_one (ps_if (PT.of (t' := tCond) (PW.pt (pw_and (pt_cmpR op_isN (pv 7) pe_non rfl) (pw_and (pt_cmpR op_eq (pv 2) pe_str (nomark _)) (pw_and1 (PW.pt (pw_or (PW.pt (pw_and (pt_cmpR op_gt (pe_callB call_len_str (by rfl) X.len b_len (pa_cons (pv 5) pa_nil)) pe_int (nomark _)) (pw_and1 (pt_cmpR op_eq (pe_ix ix_str (pv 5) pe_int (fun _ _ => rfl)) pe_str (nomark _)))))
            (pw_or1 (pt_cmpR op_gt (pe_callB call_len_str (by rfl) X.len b_len (pa_cons (pv 5) pa_nil)) pe_int (nomark _))))))))) ?_) (pss_one (ps_set (i := 7) scStep.nd rfl (Or.inl rfl) (pv 1))) pss_nil)))))
        (pss_cons (ps_par (i := 5) (j := 6) rfl scStep.nd rfl rfl (by decide) rfl rfl (pa_cons (pv 2) (pa_cons (pe_op op_add (pv 1) (pe_callB call_len_str (by rfl) X.len b_len (pa_cons (pv 2) pa_nil))) pa_nil)) rfl)
        (pss_one (ps_set (i := 7) scStep.nd rfl (Or.inl rfl) (pe_ifExp (pt_cmpR op_eq (pe_slice sl_str (pv 0) (po_some (pv 1)) (po_some (pv 6))) (pv 2) (nomark _)) pe_non (pv 1)))))) ?_)
      (pss_one (ps_ret (pe_tup (pa_cons (pv 5) (pa_cons (pe_op op_add (pv 6) (pe_callB call_len_str (by rfl) X.len b_len (pa_cons (pcl cR hr pass0 (pa_cons (pv 0) (pa_cons (pv 6) (pa_cons pe_str pa_nil)))) pa_nil))) (pa_cons (pv 7) pa_nil)))))))), ?_⟩
    · rintro σ H Q ⟨s, e2, k⟩
      refine ⟨_, e2, rfl, _, rfl, ?_⟩
      rw [dec_vstr]
      cases hw : decide (s = "word") with
      | true =>
        rw [hw, Bool.true_or] at k
        exact iteT k
      | false =>
        rw [hw, Bool.false_or, ← dec_vstr] at k
        exact iteF ⟨_, e2, rfl, _, rfl, k⟩
    · rintro σ H Q ⟨s, e2, e3, e4, k⟩
      refine ⟨_, e2, rfl, _, rfl, ?_⟩
      by_cases hw : s = "word"
      · rw [if_pos hw] at k
        exact iteTt (decide_eq_true (by rw [hw])) ⟨_, e3, k⟩
      · rw [if_neg hw] at k
        exact iteFf (decide_eq_false (fun z => hw (V.str.inj z))) ⟨_, e4, k⟩
    · rintro σ H Q ⟨z, i, f, e0, e1, e3, e4, e5, e6, hz, k⟩
      refine ⟨_, e5, rfl, _, rfl, ?_⟩
      rw [run_empty]
      unfold bad1 at k
      cases ha : atB f (zl z) i with
      | false =>
        rw [ha] at k
        exact iteT ⟨_, e1, k⟩
      | true =>
        rw [ha, if_pos rfl] at k
        generalize runE f (zl z) i = e at e5 e6 k
        have ec : cutS z (some ((e : Nat) : Int)) (some ((e : Nat) + 1 : Int)) = wrd (zl z) e (e + 1) := cut_wrd z e (e + 1)
        refine iteF ⟨_, e0, _, e6, _, rfl, _, e6, e, 1, rfl, rfl, _, rfl, z, rfl, hz, rfl, _, rfl, ?_⟩
        rw [ec, wrd1]
        cases hc : (zl z)[e]? with
        | none =>
          have : atB isLD (zl z) e = false := by unfold atB; rw [hc]
          rw [this] at k
          exact iteFf (by decide +kernel) (iteF k)
        | some c =>
          have hb : atB isLD (zl z) e = isLD c := by unfold atB; rw [hc]
          rw [hb] at k
          refine iteTt ?_ ⟨_, e0, _, e6, _, rfl, _, e6, e, 1, rfl, rfl, _, rfl, z, rfl, hz, _, e3, _, e4, LETS, DIGS, rfl, rfl, by decide +kernel, c, LETS ++ DIGS, ?_, rfl, _, rfl, ?_⟩
          · show (!decide (V.str ⟨#[c]⟩ = V.str "")) = true
            rw [dec_vstr, decide_eq_false]
            · rfl
            · intro q
              have := congrArg (fun s : Str => s.cps.size) q
              cases this
          · rw [ec, wrd1, hc]
          · show if decide (c ∈ zl (LETS ++ DIGS)) = true then _ else _
            rw [ld_sign]
            cases hd : isLD c with
            | true =>
              rw [hd] at k
              exact iteT ⟨_, e6, k⟩
            | false =>
              rw [hd] at k
              exact iteF k
    · rintro σ H Q ⟨v, s, b, e5, e2, e7, hp, hv, k⟩
      refine ⟨_, e7, rfl, _, rfl, ?_⟩
      by_cases hb : b = .non
      · rw [decide_eq_true hb, Bool.true_and] at k
        refine iteTt (decide_eq_true hb) ⟨_, e2, rfl, _, rfl, ?_⟩
        by_cases hs : s = "number"
        · rw [decide_eq_true hs, Bool.true_and] at k
          refine iteTt (decide_eq_true (by rw [hs])) ?_
          have h1 := hp hb
          obtain ⟨c, hc⟩ : ∃ c, v.cps.toList[0]? = some c := ⟨_, List.getElem?_eq_getElem (show 0 < (zl v).length by rw [← zl_len]; omega)⟩
          refine ⟨_, e5, v, rfl, hv, (v.length : Int), 1, rfl, rfl, _, rfl, ?_⟩
          unfold badNum at k
          have last : ∀ Q' : Bool → Hp → Prop, Q' (decide (6 < v.length)) H → (tTest (tOp (rI0 fun i j => .bl (decide (j < i))) (tCB (fun xs H Q => ∃ z, xs = [.str z] ∧ z.length ≤ sizeLine ∧ Q (.int z.length) H) (tCons (tVar 5) tNil)) (tC (.int 6)))) σ H Q' := fun Q' q' => ⟨_, e5, v, rfl, hv, (v.length : Int), 6, rfl, rfl, _, rfl, by
            have e : decide ((6 : Int) < (v.length : Int)) = decide (6 < v.length) := by
              by_cases h : 6 < v.length
              · rw [decide_eq_true h, decide_eq_true (by omega)]
              · rw [decide_eq_false h, decide_eq_false (by omega)]
            rw [e]
            exact q'⟩
          by_cases h3 : 1 < v.length
          · refine iteTt (decide_eq_true (by omega)) ⟨_, e5, v, 0, c, rfl, rfl, hv, atI_nat (i := 0) hc, rfl, _, rfl, ?_⟩
            rw [decide_eq_true h3, Bool.true_and] at k
            rw [zero_at v hc]
            by_cases h4 : v.cps.toList[0]? = some 48
            · rw [decide_eq_true h4, Bool.true_or] at k
              rw [decide_eq_true h4]
              exact iteT k
            · rw [decide_eq_false h4, Bool.false_or] at k
              rw [decide_eq_false h4]
              exact iteF (last _ k)
          · rw [decide_eq_false h3, Bool.false_and, Bool.false_or] at k
            exact iteFf (decide_eq_false (by omega)) (iteF (last _ k))
        · rw [decide_eq_false hs, Bool.false_and] at k
          exact iteFf (decide_eq_false (fun z => hs (V.str.inj z))) k
      · rw [decide_eq_false hb, Bool.false_and] at k
        exact iteFf (decide_eq_false hb) k
    · rintro D σ H ⟨z, i, s, rfl, hz, hs, k⟩
      refine ⟨s, rfl, ?_⟩
      cases hw : (decide (s = "word") || decide (s = "number")) with
      | true =>
        refine iteT ⟨_, rfl, _, rfl, s, rfl, rfl, rfl, ?_⟩
        obtain ⟨g, hg, hgs, hstep⟩ : ∃ g : Nat → Bool, (∀ c, decide (c ∈ zl (if s = "word" then LETS else DIGS)) = g c) ∧ (s = "number" → g = isD) ∧
            stepM s (zl z) i = if atB g (zl z) i = true then (match rowOf g (zl z) i with
              | .error e => .error e
              | .ok (w, j) => if (decide (s = "number") && badNum w) = true then .error i else .ok (w, j)) else .error i := by
          by_cases h1 : s = "word"
          · refine ⟨isL, fun c => by rw [if_pos h1]; exact isL_letters c, fun h2 => ?_, ?_⟩
            · rw [h1] at h2
              exact absurd h2 (by decide +kernel)
            · have h2 : ¬ s = "number" := fun h2 => by
                rw [h1] at h2
                exact absurd h2 (by decide +kernel)
              unfold stepM
              rw [if_pos h1, decide_eq_false h2]
              unfold wordM
              cases atB isL (zl z) i with
              | false => rfl
              | true => cases rowOf isL (zl z) i <;> rfl
          · rw [decide_eq_false h1, Bool.false_or, decide_eq_true_eq] at hw
            refine ⟨isD, fun c => by rw [if_neg h1]; exact isD_digits c, fun _ => rfl, ?_⟩
            unfold stepM
            rw [if_neg h1, if_pos hw, decide_eq_true hw]
            rfl
        refine ⟨z, i, _, g, rfl, hz, hg, ?_⟩
        have hrl := wrd_run_len g (zl z) i
        have hrle := wrd_le (zl z) i (runE g (zl z) i)
        have ezl := zl_len z
        have hge := runE_ge g (zl z) i
        refine ⟨_, rfl, _, rfl, _, rfl, by omega, i, _, rfl, rfl, ?_⟩
        have ee : ((i : Nat) : Int) + ((wrd (zl z) i (runE g (zl z) i)).length : Nat) = ((runE g (zl z) i : Nat) : Int) := by omega
        show tSeq _ _ _ [some (.str z), some (.int i), some (.str s), some (.str LETS), some (.str DIGS), some (.str (wrd (zl z) i (runE g (zl z) i))), some (.int (((i : Nat) : Int) + ((wrd (zl z) i (runE g (zl z) i)).length : Nat))), none] H
        rw [ee]
        refine ⟨z, i, g, rfl, rfl, rfl, rfl, rfl, rfl, hz, ?_⟩
        refine ⟨wrd (zl z) i (runE g (zl z) i), s, bad1 g (zl z) i, rfl, rfl, rfl, fun hb => ?_, by omega, ?_⟩
        · unfold bad1 at hb
          cases ha : atB g (zl z) i with
          | false => rw [ha] at hb; cases hb
          | true =>
            have := runE_gt ha
            omega
        · unfold rowOf at hstep
          cases ha : atB g (zl z) i with
          | false =>
            have e1 : bad1 g (zl z) i = .int (i : Nat) := by unfold bad1; rw [ha]; rfl
            rw [e1, decide_eq_false (fun z => by cases z), Bool.false_and]
            refine iteF (k _ _ _ ?_)
            unfold stepR
            rw [hstep, ha]
            rfl
          | true =>
            cases hld : atB isLD (zl z) (runE g (zl z) i) with
            | true =>
              have e1 : bad1 g (zl z) i = .int (runE g (zl z) i : Nat) := by unfold bad1; rw [ha, hld]; rfl
              rw [e1, decide_eq_false (fun z => by cases z), Bool.false_and]
              refine iteF (k _ _ _ ?_)
              unfold stepR
              rw [hstep, ha, hld]
              rfl
            | false =>
              have e1 : bad1 g (zl z) i = .non := by unfold bad1; rw [ha, hld]; rfl
              rw [e1, decide_eq_true rfl, Bool.true_and]
              rw [ha, hld] at hstep
              simp only [Bool.false_eq_true, if_false, if_true] at hstep
              cases hbn : (decide (s = "number") && badNum (wrd (zl z) i (runE g (zl z) i))) with
              | true =>
                rw [hbn] at hstep
                refine iteT ⟨_, rfl, k _ _ _ ?_⟩
                unfold stepR
                rw [hstep]
                rfl
              | false =>
                rw [hbn] at hstep
                refine iteF (k _ _ _ ?_)
                unfold stepR
                rw [hstep]
                exact ⟨rfl, rfl, rfl⟩
      | false =>
        rw [Bool.or_eq_false_iff, decide_eq_false_iff_not, decide_eq_false_iff_not] at hw
        refine iteF ⟨_, rfl, _, rfl, _, rfl, s, rfl, hs, i, s.length, rfl, rfl, _, _, rfl, ?_⟩
        refine ⟨_, rfl, _, rfl, _, rfl, _, rfl, _, rfl, z, rfl, hz, _, rfl, rfl, _, rfl, ?_⟩
        have ec : cutS z (some ((i : Nat) : Int)) (some ((i : Nat) + (s.length : Nat) : Int)) = wrd (zl z) i (i + s.length) := cut_wrd z i (i + s.length)
        rw [ec, look_at]
        have em : stepM s (zl z) i = (signM (zl s) (zl z) i).map fun j => (s, j) := by
          unfold stepM
          rw [if_neg hw.1, if_neg hw.2]
        cases hh : hasAt (zl s) (zl z) i with
        | true =>
          refine iteT (k s (i + s.length) .non ?_)
          unfold stepR
          rw [em]
          unfold signM
          rw [hh, zl_len]
          exact ⟨rfl, rfl, rfl⟩
        | false =>
          refine iteF ⟨_, rfl, k s (i + s.length) (.int i) ?_⟩
          unfold stepR
          rw [em]
          unfold signM
          rw [hh]
          rfl
    · have e24 : 1000000 ≤ sizeLine := by decide
      refine ⟨by show 2 ≤ sizeLine; decide, fun q hq => ?_⟩
      have u1 : Up T [] H (upd H q (.tup [.str LETS, .str DIGS])) := .new hq
      refine ⟨q, _, rfl, .inl (.inl upd_same), rfl, _, _, rfl, _, _, rfl, rfl, ?_⟩
      refine ⟨z, i, s, rfl, by omega, by omega, fun v e b hR => ?_⟩
      have hrl := wrd_run_len isS (zl z) e
      have hrle := wrd_le (zl z) e (runE isS (zl z) e)
      have ezl := zl_len z
      have hge := runE_ge isS (zl z) e
      refine ⟨_, rfl, _, rfl, _, rfl, _, rfl, z, e, " ", isS, rfl, by omega, sp_signs, _, rfl, by omega, e, _, rfl, rfl, _, rfl, by show 3 ≤ sizeLine; decide, fun p hp => ?_⟩
      refine k _ p (u1.trans (.new hp)) ⟨v, skipE (zl z) e, b, ?_, ?_⟩
      · rw [upd_same]
        have ee : ((e : Nat) : Int) + ((wrd (zl z) e (runE isS (zl z) e)).length : Nat) = ((skipE (zl z) e : Nat) : Int) := by
          unfold skipE
          omega
        show some (HO.tup [V.str v, V.int (((e : Nat) : Int) + ((wrd (zl z) e (runE isS (zl z) e)).length : Nat)), b]) = _
        rw [ee]
      · unfold stepR at hR
        cases h : stepM s (zl z) i with
        | error e' =>
          rw [h] at hR
          exact hR
        | ok vj =>
          obtain ⟨v0, j0⟩ := vj
          rw [h] at hR
          exact ⟨hR.1, hR.2.1.symm, hR.2.2⟩
end
end Dc
set_option Elab.async false
set_option linter.all false
set_option maxRecDepth 100000
set_option maxHeartbeats 4000000
namespace Dc
open PySem PySem.Spec PyProof.Rows L2 DcG
theorem nn_int (e : Int) : (!decide (V.int e = V.non)) = true := by
  rw [decide_eq_false (fun z => by cases z)]; rfl
theorem nn_non : (!decide (V.non = V.non)) = false := by
  rw [decide_eq_true rfl]; rfl
theorem is_int (e : Int) : decide (V.int e = V.non) = false := decide_eq_false (fun z => by cases z)
theorem is_non : decide (V.non = V.non) = true := decide_eq_true rfl
theorem stepM_word (l : List Nat) (i : Nat) : stepM "word" l i = wordM l i := by
  unfold stepM
  rw [if_pos rfl]
theorem stepM_num (l : List Nat) (i : Nat) : stepM "number" l i = numW l i := by
  unfold stepM
  rw [if_neg (by decide +kernel), if_pos rfl]
theorem stepM_sign {s : Str} (h1 : s ≠ "word") (h2 : s ≠ "number") (l : List Nat) (i : Nat) : stepM s l i = (signM (zl s) l i).map fun j => (s, j) := by
  unfold stepM
  rw [if_neg h1, if_neg h2]
theorem StepAt.ok {H : Hp} {p : Addr} {l : List Nat} {i : Nat} {s v : Str} {j : Nat} (x : StepAt H p l i s) (h : stepM s l i = .ok (v, j)) : H p = some (.tup [.str v, .int j, .non]) := by
  obtain ⟨v0, j0, b, e, q⟩ := x
  rw [h] at q
  obtain ⟨rfl, rfl, rfl⟩ := q
  exact e
theorem StepAt.err {H : Hp} {p : Addr} {l : List Nat} {i e : Nat} {s : Str} (x : StepAt H p l i s) (h : stepM s l i = .error e) : ∃ (v : Str) (j : Nat), H p = some (.tup [.str v, .int j, .int e]) := by
  obtain ⟨v0, j0, b, e, q⟩ := x
  rw [h] at q
  have q : b = _ := q
  subst q
  exact ⟨v0, j0, e⟩
theorem numW_err {l : List Nat} {i e : Nat} (h : numW l i = .error e) : numM l i = .error e := by
  unfold numW at h
  unfold numM
  cases ha : atB isD l i with
  | false =>
    simp only [ha, Bool.false_eq_true, if_false] at h ⊢
    cases h
    rfl
  | true =>
    simp only [ha, if_true] at h ⊢
    cases hr : rowOf isD l i with
    | error e' =>
      simp only [hr] at h ⊢
      cases h
      rfl
    | ok wj =>
      obtain ⟨w, j⟩ := wj
      simp only [hr] at h ⊢
      cases hb : badNum w with
      | true =>
        simp only [hb, if_true] at h ⊢
        cases h
        rfl
      | false =>
        simp only [hb, Bool.false_eq_true, if_false] at h
        cases h
theorem numW_ok {l : List Nat} {i j : Nat} {w : Str} (h : numW l i = .ok (w, j)) : numM l i = .ok (val w, j) ∧ intText? w = some (val w) ∧ w.length ≤ 640 := by
  unfold numW at h
  unfold numM
  cases ha : atB isD l i with
  | false =>
    simp only [ha, Bool.false_eq_true, if_false] at h
    cases h
  | true =>
    simp only [ha, if_true] at h ⊢
    cases hr : rowOf isD l i with
    | error e' =>
      simp only [hr] at h
      cases h
    | ok wj =>
      obtain ⟨w', j'⟩ := wj
      simp only [hr] at h ⊢
      cases hb : badNum w' with
      | true =>
        simp only [hb, if_true] at h
        cases h
      | false =>
        simp only [hb, Bool.false_eq_true, if_false] at h ⊢
        cases h
        have hw := (rowOf_ok (Nat.le_of_lt (atB_lt ha)) hr).2.2
        have h6 : w.length ≤ 6 := by
          unfold badNum at hb
          rw [Bool.or_eq_false_iff] at hb
          have := of_decide_eq_false hb.2
          omega
        refine ⟨rfl, ?_, by omega⟩
        rw [hw] at h6 ⊢
        exact val_run ha h6
theorem hasAt_two {a b : Nat} {l : List Nat} {i : Nat} (h : hasAt [a, b] l i = true) : hasAt [a] l i = true := by
  unfold hasAt at *
  have e := of_decide_eq_true h
  have e2 := congrArg (List.take 1) e
  rw [List.take_take] at e2
  exact decide_eq_true e2
theorem gt_at (l : List Nat) (i : Nat) : decide (V.str (wrd l i (i + 1)) = V.str ">") = hasAt [62] l i := by
  have e := look_at ">" l i
  rw [show (">" : Str).length = 1 from by decide +kernel, zl_gt] at e
  exact e
section
variable {P : Program} {w : World} {K : PySem.W.Frag} {mg : Str → Option Value} {base : Heap} {T : TT}
/-! ### _law_guard_due -/
abbrev nGD : List Str := ["_law_text_here", "_law_at", "_law_word", "_law_here", "_law_bad", "_law_sign", "_law_kind", "_law_number", "_law_end", "_law_first", "_law_second"]
def spGD (T : TT) : Sp := fun vs H Q _ => ∃ (z : Str) (i : Nat), vs = [.str z, .int i] ∧ z.length ≤ 1000000 ∧ i ≤ (zl z).length ∧
  (∀ e, guardM (zl z) i = .error e → ∀ H' p, Up T [] H H' → H' p = some (.tup [.non, .int (e : Nat)]) → Q (.ref p) H') ∧
  (∀ g j, guardM (zl z) i = .ok (g, j) → ∀ H' p v, Up T [] H H' → H' p = some (.tup [v, .int (j : Nat)]) → GAt H' v g → Q (.ref p) H')
theorem scGD : FnScope nGD ["_law_text_here", "_law_at"] (defScope sLawGuardDue) := ⟨rfl, rfl, rfl, by decide +kernel, rfl, by decide +kernel, by decide +kernel⟩
theorem ok_gDue {f : Addr} {fd : FuncData} (F : FnP K "_law_guard_due" "_law_guard_due" sLawGuardDue f fd) (X : Txt K mg) (cS : CalD P w K mg base CX0 2 "_law_step" ["_law_text_here", "_law_at", "_law_want"] (spStep T)) : FnOk P w K mg base CX0 3 f fd ["_law_text_here", "_law_at"] (spGD T) := by
  refine F.ok scGD (fun vs H Q E h => ?_) (fun cdv A outer s H vs Q E hr h => ?_)
  · obtain ⟨z, i, rfl, _⟩ := h
    rfl
  · obtain ⟨z, i, rfl, hz, hi, kerr, kok⟩ := h
    refine ⟨_, PSs.nox (pss_cons (ps_asg (pcl cS hr pass0 (pa_cons (pv 0) (pa_cons (pv 1) (pa_cons pe_str pa_nil)))) (pg_tup rfl (pgs_cons (pg_name (i := 2) scGD.nd rfl (Or.inl rfl)) (pgs_cons (pg_name (i := 3) scGD.nd rfl (Or.inl rfl)) (pgs_cons (pg_name (i := 4) scGD.nd rfl (Or.inl rfl)) pgs_nil)))))
      (pss_cons (ps_if (PW.pt (pw_or (pt_cmpR op_notN (pv 4) pe_non rfl) (pw_or1 (pt_cmpR op_ne (pv 2) pe_str (nomark _))))) (pss_one (ps_ret (pe_tup (pa_cons pe_non (pa_cons (pe_ifExp (pt_cmpR op_notN (pv 4) pe_non rfl) (pv 4) (pv 1)) pa_nil))))) pss_nil)
      (pss_cons (ps_for PassesOwn.never rfl (pi_list (pe_lst (pa_cons (pe_tup (pa_cons pe_str (pa_cons pe_str pa_nil))) (pa_cons (pe_tup (pa_cons pe_str (pa_cons pe_str pa_nil))) pa_nil)))) (pg_tup rfl (pgs_cons (pg_name (i := 5) scGD.nd rfl (Or.inl rfl)) (pgs_cons (pg_name (i := 6) scGD.nd rfl (Or.inl rfl)) pgs_nil)))
        (pss_one (ps_if (pt_cmpR op_eq (pe_slice sl_str (pv 0) (po_some (pv 3)) (po_some (pe_op op_add (pv 3) (pe_callB call_len_str (by rfl) X.len b_len (pa_cons (pv 5) pa_nil))))) (pv 5) (nomark _))
          (pss_cons (ps_asg (pcl cS hr pass0 (pa_cons (pv 0) (pa_cons (pe_ix ix_tup (pcl cS hr pass0 (pa_cons (pv 0) (pa_cons (pv 3) (pa_cons (pv 5) pa_nil)))) pe_int (fun _ _ => rfl)) (pa_cons pe_str pa_nil)))) (pg_tup rfl (pgs_cons (pg_name (i := 7) scGD.nd rfl (Or.inl rfl)) (pgs_cons (pg_name (i := 8) scGD.nd rfl (Or.inl rfl)) (pgs_cons (pg_name (i := 4) scGD.nd rfl (Or.inl rfl)) pgs_nil)))))
          (pss_one (ps_ret (pe_ifExp (pt_cmpR op_isN (pv 4) pe_non rfl) (pe_tup (pa_cons (pe_tup (pa_cons (pv 6) (pa_cons (pe_callTy call_int_str (by rfl) X.int b_int (pa_cons (pv 7) pa_nil)) pa_nil))) (pa_cons (pv 8) pa_nil))) (pe_tup (pa_cons pe_non (pa_cons (pv 4) pa_nil))))))) pss_nil)))
      (pss_cons (ps_if (pt_cmpR op_eq (pe_slice sl_str (pv 0) (po_some (pv 3)) (po_some (pe_op op_add (pv 3) pe_int))) pe_str (nomark _)) (pss_one (ps_ret (pe_tup (pa_cons pe_non (pa_cons (pe_op op_add (pv 3) pe_int) pa_nil))))) pss_nil)
      (pss_cons (ps_asg (pcl cS hr pass0 (pa_cons (pv 0) (pa_cons (pv 3) (pa_cons pe_str pa_nil)))) (pg_tup rfl (pgs_cons (pg_name (i := 2) scGD.nd rfl (Or.inl rfl)) (pgs_cons (pg_name (i := 8) scGD.nd rfl (Or.inl rfl)) (pgs_cons (pg_name (i := 4) scGD.nd rfl (Or.inl rfl)) pgs_nil)))))
      (pss_cons (ps_if (PW.pt (pw_or (pt_cmpR op_notN (pv 4) pe_non rfl) (pw_or1 (pt_cmpR op_ne (pv 2) pe_str (nomark _))))) (pss_one (ps_ret (pe_tup (pa_cons pe_non (pa_cons (pe_ifExp (pt_cmpR op_notN (pv 4) pe_non rfl) (pv 4) (pv 3)) pa_nil))))) pss_nil)
      (pss_cons (ps_asg (pcl cS hr pass0 (pa_cons (pv 0) (pa_cons (pv 8) (pa_cons pe_str pa_nil)))) (pg_tup rfl (pgs_cons (pg_name (i := 9) scGD.nd rfl (Or.inl rfl)) (pgs_cons (pg_name (i := 3) scGD.nd rfl (Or.inl rfl)) (pgs_cons (pg_name (i := 4) scGD.nd rfl (Or.inl rfl)) pgs_nil)))))
      (pss_cons (ps_if (pt_cmpR op_notN (pv 4) pe_non rfl) (pss_one (ps_ret (pe_tup (pa_cons pe_non (pa_cons (pv 4) pa_nil))))) pss_nil)
      (pss_cons (ps_asg (pcl cS hr pass0 (pa_cons (pv 0) (pa_cons (pv 3) (pa_cons pe_str pa_nil)))) (pg_tup rfl (pgs_cons (pg_name (i := 5) scGD.nd rfl (Or.inl rfl)) (pgs_cons (pg_name (i := 8) scGD.nd rfl (Or.inl rfl)) (pgs_cons (pg_name (i := 4) scGD.nd rfl (Or.inl rfl)) pgs_nil)))))
      (pss_cons (ps_if (pt_cmpR op_notN (pv 4) pe_non rfl) (pss_one (ps_ret (pe_tup (pa_cons pe_non (pa_cons (pv 4) pa_nil))))) pss_nil)
      (pss_cons (ps_asg (pcl cS hr pass0 (pa_cons (pv 0) (pa_cons (pv 8) (pa_cons pe_str pa_nil)))) (pg_tup rfl (pgs_cons (pg_name (i := 10) scGD.nd rfl (Or.inl rfl)) (pgs_cons (pg_name (i := 3) scGD.nd rfl (Or.inl rfl)) (pgs_cons (pg_name (i := 4) scGD.nd rfl (Or.inl rfl)) pgs_nil)))))
      (pss_one (ps_ret (pe_ifExp (pt_cmpR op_isN (pv 4) pe_non rfl) (pe_tup (pa_cons (pe_tup (pa_cons pe_str (pa_cons (pe_callTy call_int_str (by rfl) X.int b_int (pa_cons (pv 9) pa_nil)) (pa_cons (pe_callTy call_int_str (by rfl) X.int b_int (pa_cons (pv 10) pa_nil)) pa_nil)))) (pa_cons (pv 3) pa_nil))) (pe_tup (pa_cons pe_non (pa_cons (pv 4) pa_nil))))))))))))))))), ?_⟩
    have ezl := zl_len z
    have e24 : 1000000 ≤ sizeLine := by decide
    have two : (2 : Nat) ≤ sizeLine := by decide
    refine ⟨_, rfl, _, rfl, z, i, "word", rfl, hz, hi, by decide +kernel, fun H1 p1 u1 s1 => ?_⟩
    cases h1 : wordM (zl z) i with
    | error e =>
      obtain ⟨v, j, hp⟩ := s1.err (by rw [stepM_word]; exact h1)
      have hm : guardM (zl z) i = .error e := by simp only [guardM, knownM, h1]
      refine ⟨p1, _, rfl, .inl (.inl hp), rfl, _, _, rfl, _, _, rfl, _, _, rfl, rfl, ?_⟩
      refine ⟨_, rfl, rfl, _, rfl, iteTt (nn_int _) ?_⟩
      refine ⟨_, rfl, rfl, _, rfl, iteTt (nn_int _) ⟨_, rfl, two, fun q hq => ?_⟩⟩
      exact kerr e hm _ q (u1.trans (.new hq)) upd_same
    | ok wj =>
      obtain ⟨v, j⟩ := wj
      have hp := s1.ok (by rw [stepM_word]; exact h1)
      have hj := wordM_ok h1
      refine ⟨p1, _, rfl, .inl (.inl hp), rfl, _, _, rfl, _, _, rfl, _, _, rfl, rfl, ?_⟩
      refine ⟨_, rfl, rfl, _, rfl, iteFf nn_non ⟨_, rfl, rfl, _, rfl, ?_⟩⟩
      by_cases hn : v = "n"
      · refine iteFf (by rw [decide_eq_true (by rw [hn])]; rfl) ?_
        have hk : knownM ["n"] (zl z) i = .ok (v, j) := by
          simp only [knownM, h1]
          rw [if_pos (by rw [hn]; exact List.mem_cons_self)]
        refine ⟨two, fun a1 ha1 => ⟨two, fun a2 ha2 => ⟨two, fun L hL => ?_⟩⟩⟩
        have w1 : Up T [] H1 (upd H1 a1 (.tup [.str "<", .str "below"])) := .new ha1
        have w2 : Up T [] (upd H1 a1 (.tup [.str "<", .str "below"])) (upd (upd H1 a1 (.tup [.str "<", .str "below"])) a2 (.tup [.str ">=", .str "from"])) := .new ha2
        have g1 : (upd (upd H1 a1 (.tup [.str "<", .str "below"])) a2 (.tup [.str ">=", .str "from"])) a1 = some (.tup [.str "<", .str "below"]) := w2.tup noTup0 upd_same
        have g2 : (upd (upd H1 a1 (.tup [.str "<", .str "below"])) a2 (.tup [.str ">=", .str "from"])) a2 = some (.tup [.str ">=", .str "from"]) := upd_same
        have w12 := w1.trans w2
        generalize (upd (upd H1 a1 (.tup [.str "<", .str "below"])) a2 (.tup [.str ">=", .str "from"])) = H2 at w12 g1 g2 hL ⊢
        have w3 : Up T [] H2 (upd H2 L (.lst [.ref a1, .ref a2])) := .new hL
        have g1 := w3.tup noTup0 g1
        have g2 := w3.tup noTup0 g2
        have gL : (upd H2 L (.lst [.ref a1, .ref a2])) L = some (.lst [.ref a1, .ref a2]) := upd_same
        have uL : Up T [] H (upd H2 L (.lst [.ref a1, .ref a2])) := (u1.trans w12).trans w3
        generalize (upd H2 L (.lst [.ref a1, .ref a2])) = HL at g1 g2 gL uL ⊢
        refine ⟨L, rfl, ⟨_, .inl (.inl gL)⟩, ?_⟩
        refine for_list (xs := [.ref a1, .ref a2]) (fun n σ H' => H' = HL ∧ (∃ x5 x6 x7 x8 x9 x10, σ = [some (.str z), some (.int i), some (.str v), some (.int j), some .non, x5, x6, x7, x8, x9, x10]) ∧ (1 ≤ n → hasAt [60] (zl z) j = false) ∧ (2 ≤ n → hasAt [62, 61] (zl z) j = false))
          ⟨rfl, ⟨_, _, _, _, _, _, rfl⟩, fun h => absurd h (by omega), fun h => absurd h (by omega)⟩ (fun n σ H' _ p => by rw [p.1]; exact .inl (.inl gL)) ?_ ?_
        · rintro n x σ H' e ⟨rfl, ⟨x5, x6, x7, x8, x9, x10, rfl⟩, c1, c2⟩
          obtain ⟨sg, kd, a, rfl, ha, hw1, hw2, hlen, hne, hyes, hno⟩ : ∃ (sg kd : Str) (a : Addr), x = .ref a ∧ H' a = some (.tup [.str sg, .str kd]) ∧ sg ≠ "word" ∧ sg ≠ "number" ∧ sg.length ≤ 2 ∧ zl sg ≠ [] ∧
              (hasAt (zl sg) (zl z) j = true → (∀ e, numM (zl z) (skipE (zl z) (j + sg.length)) = .error e → guardM (zl z) i = .error e) ∧ ∀ d k, numM (zl z) (skipE (zl z) (j + sg.length)) = .ok (d, k) → ∃ g, guardM (zl z) i = .ok (g, k) ∧ ∀ H p, H p = some (.tup [.str kd, .int d]) → GAt H (.ref p) g) ∧
              (hasAt (zl sg) (zl z) j = false → (1 ≤ n + 1 → hasAt [60] (zl z) j = false) ∧ (2 ≤ n + 1 → hasAt [62, 61] (zl z) j = false)) := by
            have hn2 : n < 2 := (List.getElem?_eq_some_iff.mp e).1
            have hcase : n = 0 ∨ n = 1 := by omega
            rcases hcase with rfl | rfl
            · cases e
              refine ⟨"<", "below", a1, rfl, g1, by decide +kernel, by decide +kernel, by decide +kernel, by decide +kernel, fun hh => ?_, fun hh => ⟨fun _ => by rw [zl_lt] at hh; exact hh, fun h => absurd h (by omega)⟩⟩
              rw [zl_lt] at hh
              have l1 : ("<" : Str).length = 1 := by decide +kernel
              rw [l1]
              exact ⟨fun e he => by simp only [guardM, hk, hh, if_true, he], fun d k he => ⟨.below d, by simp only [guardM, hk, hh, if_true, he], fun H p hp => ⟨p, rfl, hp⟩⟩⟩
            · cases e
              have hf := c1 (by omega)
              refine ⟨">=", "from", a2, rfl, g2, by decide +kernel, by decide +kernel, by decide +kernel, by decide +kernel, fun hh => ?_, fun hh => ⟨fun _ => hf, fun _ => by rw [zl_ge] at hh; exact hh⟩⟩
              rw [zl_ge] at hh
              have h62 := hasAt_two hh
              have l1 : (">=" : Str).length = 2 := by decide +kernel
              rw [l1]
              exact ⟨fun e he => by simp only [guardM, hk, hf, h62, hh, if_true, if_false, Bool.false_eq_true, he], fun d k he => ⟨.frm d, by simp only [guardM, hk, hf, h62, hh, if_true, if_false, Bool.false_eq_true, he], fun H p hp => ⟨p, rfl, hp⟩⟩⟩
          refine ⟨a, _, rfl, .inl (.inl ha), rfl, _, _, rfl, _, _, rfl, rfl, ?_⟩
          refine ⟨_, rfl, _, rfl, _, rfl, _, rfl, _, rfl, sg, rfl, by omega, j, sg.length, rfl, rfl, _, rfl, z, rfl, by omega, _, rfl, rfl, _, rfl, ?_⟩
          have ec : cutS z (some ((j : Nat) : Int)) (some ((j : Nat) + (sg.length : Nat) : Int)) = wrd (zl z) j (j + sg.length) := cut_wrd z j (j + sg.length)
          rw [ec, look_at]
          cases hh : hasAt (zl sg) (zl z) j with
          | false => exact iteF ⟨rfl, ⟨_, _, _, _, _, _, rfl⟩, hno hh⟩
          | true =>
            have hle := hasAt_le hh hne
            rw [← zl_len] at hle
            obtain ⟨y1, y2⟩ := hyes hh
            refine iteT ⟨_, rfl, _, rfl, _, rfl, _, rfl, z, j, sg, rfl, hz, hj.2, by omega, fun H2 p2 u2 s2 => ?_⟩
            have hp2 := s2.ok (v := sg) (j := skipE (zl z) (j + sg.length)) (by rw [stepM_sign hw1 hw2]; unfold signM; rw [hh, zl_len]; rfl)
            refine ⟨p2, _, 1, _, rfl, rfl, .inl (.inl hp2), rfl, z, skipE (zl z) (j + sg.length), "number", rfl, hz, skipE_le hle, by decide +kernel, fun H3 p3 u3 s3 => ?_⟩
            have u03 : Up T [] H H3 := (uL.trans u2).trans u3
            cases h3 : numW (zl z) (skipE (zl z) (j + sg.length)) with
            | error e =>
              obtain ⟨v3, j3, hp3⟩ := s3.err (by rw [stepM_num]; exact h3)
              refine ⟨p3, _, rfl, .inl (.inl hp3), rfl, _, _, rfl, _, _, rfl, _, _, rfl, rfl, ?_⟩
              refine ⟨_, rfl, rfl, _, rfl, iteFf (is_int _) ⟨_, rfl, two, fun q hq => ?_⟩⟩
              exact kerr e (y1 e (numW_err h3)) _ q (u03.trans (.new hq)) upd_same
            | ok wj =>
              obtain ⟨w3, j3⟩ := wj
              have hp3 := s3.ok (by rw [stepM_num]; exact h3)
              obtain ⟨n1, n2, n3⟩ := numW_ok h3
              obtain ⟨g, hg, mk⟩ := y2 _ _ n1
              refine ⟨p3, _, rfl, .inl (.inl hp3), rfl, _, _, rfl, _, _, rfl, _, _, rfl, rfl, ?_⟩
              refine ⟨_, rfl, rfl, _, rfl, iteTt is_non ⟨_, rfl, _, rfl, w3, val w3, rfl, n2, n3, two, fun q hq => ⟨_, rfl, two, fun q2 hq2 => ?_⟩⟩⟩
              have w4 : Up T [] H3 (upd H3 q (.tup [.str kd, .int (val w3)])) := .new hq
              have w5 : Up T [] (upd H3 q (.tup [.str kd, .int (val w3)])) (upd (upd H3 q (.tup [.str kd, .int (val w3)])) q2 (.tup [.ref q, .int j3])) := .new hq2
              exact kok g j3 hg _ q2 (.ref q) ((u03.trans w4).trans w5) upd_same (mk _ q (w5.tup noTup0 upd_same))
        · rintro σ H' ⟨rfl, ⟨x5, x6, x7, x8, x9, x10, rfl⟩, c1, c2⟩
          have hf1 := c1 (by show 1 ≤ 2; omega)
          have hf2 := c2 (by show 2 ≤ 2; omega)
          refine ⟨_, rfl, _, rfl, _, rfl, _, rfl, j, 1, rfl, rfl, _, rfl, z, rfl, by omega, rfl, _, rfl, ?_⟩
          have ec : cutS z (some ((j : Nat) : Int)) (some ((j : Nat) + 1 : Int)) = wrd (zl z) j (j + 1) := cut_wrd z j (j + 1)
          rw [ec, gt_at]
          cases h62 : hasAt [62] (zl z) j with
          | true =>
            refine iteT ⟨_, rfl, j, 1, rfl, rfl, two, fun q hq => ?_⟩
            exact kerr (j + 1) (by simp only [guardM, hk, hf1, hf2, h62, if_true, if_false, Bool.false_eq_true]) _ q (uL.trans (.new hq)) upd_same
          | false =>
            refine iteF ⟨_, rfl, _, rfl, z, j, "word", rfl, hz, hj.2, by decide +kernel, fun H4 p4 u4 s4 => ?_⟩
            have u4 : Up T [] H H4 := uL.trans u4
            cases h4 : wordM (zl z) j with
            | error e =>
              obtain ⟨v4, j4, hp4⟩ := s4.err (by rw [stepM_word]; exact h4)
              refine ⟨p4, _, rfl, .inl (.inl hp4), rfl, _, _, rfl, _, _, rfl, _, _, rfl, rfl, ?_⟩
              refine ⟨_, rfl, rfl, _, rfl, iteTt (nn_int _) ?_⟩
              refine ⟨_, rfl, rfl, _, rfl, iteTt (nn_int _) ⟨_, rfl, two, fun q hq => ?_⟩⟩
              have hk4 : knownM ["mod"] (zl z) j = .error e := by simp only [knownM, h4]
              exact kerr e (by simp only [guardM, hk, hf1, h62, if_false, Bool.false_eq_true, hk4]) _ q (u4.trans (.new hq)) upd_same
            | ok wj =>
              obtain ⟨v4, j4⟩ := wj
              have hp4 := s4.ok (by rw [stepM_word]; exact h4)
              have hj4 := wordM_ok h4
              refine ⟨p4, _, rfl, .inl (.inl hp4), rfl, _, _, rfl, _, _, rfl, _, _, rfl, rfl, ?_⟩
              refine ⟨_, rfl, rfl, _, rfl, iteFf nn_non ⟨_, rfl, rfl, _, rfl, ?_⟩⟩
              by_cases hm : v4 = "mod"
              · refine iteFf (by rw [decide_eq_true (by rw [hm])]; rfl) ?_
                have hk4 : knownM ["mod"] (zl z) j = .ok (v4, j4) := by
                  simp only [knownM, h4]
                  rw [if_pos (by rw [hm]; exact List.mem_cons_self)]
                refine ⟨_, rfl, _, rfl, z, j4, "number", rfl, hz, hj4.2, by decide +kernel, fun H5 p5 u5 s5 => ?_⟩
                have u5 : Up T [] H H5 := u4.trans u5
                cases h5 : numW (zl z) j4 with
                | error e =>
                  obtain ⟨v5, j5, hp5⟩ := s5.err (by rw [stepM_num]; exact h5)
                  refine ⟨p5, _, rfl, .inl (.inl hp5), rfl, _, _, rfl, _, _, rfl, _, _, rfl, rfl, ?_⟩
                  refine ⟨_, rfl, rfl, _, rfl, iteTt (nn_int _) ⟨_, rfl, two, fun q hq => ?_⟩⟩
                  exact kerr e (by simp only [guardM, hk, hf1, h62, if_false, Bool.false_eq_true, hk4, numW_err h5]) _ q (u5.trans (.new hq)) upd_same
                | ok wj =>
                  obtain ⟨w5, j5⟩ := wj
                  have hp5 := s5.ok (by rw [stepM_num]; exact h5)
                  obtain ⟨n1, n2, n3⟩ := numW_ok h5
                  have hj5 := (numM_ok n1).2
                  refine ⟨p5, _, rfl, .inl (.inl hp5), rfl, _, _, rfl, _, _, rfl, _, _, rfl, rfl, ?_⟩
                  refine ⟨_, rfl, rfl, _, rfl, iteFf nn_non ?_⟩
                  refine ⟨_, rfl, _, rfl, z, j5, "=", rfl, hz, hj5, by decide +kernel, fun H6 p6 u6 s6 => ?_⟩
                  have u6 : Up T [] H H6 := u5.trans u6
                  have hse : stepM "=" (zl z) j5 = (signM [61] (zl z) j5).map fun j => (("=" : Str), j) := by
                    rw [stepM_sign (by decide +kernel) (by decide +kernel), zl_eq]
                  cases h6 : signM [61] (zl z) j5 with
                  | error e =>
                    obtain ⟨v6, j6, hp6⟩ := s6.err (e := e) (by rw [hse, h6]; rfl)
                    refine ⟨p6, _, rfl, .inl (.inl hp6), rfl, _, _, rfl, _, _, rfl, _, _, rfl, rfl, ?_⟩
                    refine ⟨_, rfl, rfl, _, rfl, iteTt (nn_int _) ⟨_, rfl, two, fun q hq => ?_⟩⟩
                    exact kerr e (by simp only [guardM, hk, hf1, h62, if_false, Bool.false_eq_true, hk4, n1, h6]) _ q (u6.trans (.new hq)) upd_same
                  | ok j6 =>
                    have hp6 := s6.ok (v := "=") (j := j6) (by rw [hse, h6]; rfl)
                    have hj6 := (signM_ok (by simp) h6).2
                    refine ⟨p6, _, rfl, .inl (.inl hp6), rfl, _, _, rfl, _, _, rfl, _, _, rfl, rfl, ?_⟩
                    refine ⟨_, rfl, rfl, _, rfl, iteFf nn_non ?_⟩
                    refine ⟨_, rfl, _, rfl, z, j6, "number", rfl, hz, hj6, by decide +kernel, fun H7 p7 u7 s7 => ?_⟩
                    have u7 : Up T [] H H7 := u6.trans u7
                    cases h7 : numW (zl z) j6 with
                    | error e =>
                      obtain ⟨v7, j7, hp7⟩ := s7.err (by rw [stepM_num]; exact h7)
                      refine ⟨p7, _, rfl, .inl (.inl hp7), rfl, _, _, rfl, _, _, rfl, _, _, rfl, rfl, ?_⟩
                      refine ⟨_, rfl, rfl, _, rfl, iteFf (is_int _) ⟨_, rfl, two, fun q hq => ?_⟩⟩
                      exact kerr e (by simp only [guardM, hk, hf1, h62, if_false, Bool.false_eq_true, hk4, n1, h6, numW_err h7]) _ q (u7.trans (.new hq)) upd_same
                    | ok wj =>
                      obtain ⟨w7, j7⟩ := wj
                      have hp7 := s7.ok (by rw [stepM_num]; exact h7)
                      obtain ⟨m1, m2, m3⟩ := numW_ok h7
                      refine ⟨p7, _, rfl, .inl (.inl hp7), rfl, _, _, rfl, _, _, rfl, _, _, rfl, rfl, ?_⟩
                      refine ⟨_, rfl, rfl, _, rfl, iteTt is_non ⟨_, rfl, w5, val w5, rfl, n2, n3, _, rfl, w7, val w7, rfl, m2, m3, by show 3 ≤ sizeLine; decide, fun q hq => ⟨_, rfl, two, fun q2 hq2 => ?_⟩⟩⟩
                      have w8 : Up T [] H7 (upd H7 q (.tup [.str "rest", .int (val w5), .int (val w7)])) := .new hq
                      have w9 : Up T [] (upd H7 q (.tup [.str "rest", .int (val w5), .int (val w7)])) (upd (upd H7 q (.tup [.str "rest", .int (val w5), .int (val w7)])) q2 (.tup [.ref q, .int j7])) := .new hq2
                      exact kok (.rest (val w5) (val w7)) j7 (by simp only [guardM, hk, hf1, h62, if_false, Bool.false_eq_true, hk4, n1, h6, m1]) _ q2 (.ref q) ((u7.trans w8).trans w9) upd_same ⟨q, rfl, w9.tup noTup0 upd_same⟩
              · refine iteTt (by rw [decide_eq_false (fun z => hm (V.str.inj z))]; rfl) ⟨_, rfl, rfl, _, rfl, iteFf nn_non ⟨_, rfl, two, fun q hq => ?_⟩⟩
                refine kerr j ?_ _ q (u4.trans (.new hq)) upd_same
                have hk4 : knownM ["mod"] (zl z) j = .error j := by
                  simp only [knownM, h4]
                  rw [if_neg (by simpa using hm)]
                simp only [guardM, hk, hf1, h62, if_false, Bool.false_eq_true, hk4]
      · refine iteTt (by rw [decide_eq_false (fun z => hn (V.str.inj z))]; rfl) ⟨_, rfl, rfl, _, rfl, iteFf nn_non ⟨_, rfl, two, fun q hq => ?_⟩⟩
        refine kerr i ?_ _ q (u1.trans (.new hq)) upd_same
        have hk : knownM ["n"] (zl z) i = .error i := by
          simp only [knownM, h1]
          rw [if_neg (by simpa using hn)]
        simp only [guardM, hk]
end
end Dc
set_option Elab.async false
set_option linter.all false
set_option maxRecDepth 100000
set_option maxHeartbeats 4000000
namespace Dc
open PySem PySem.Spec PyProof.Rows L2 DcG
theorem is_ref (a : Addr) : decide (V.ref a = V.non) = false := decide_eq_false (fun z => by cases z)
theorem minus_at (l : List Nat) (i : Nat) : decide (V.str (wrd l i (i + 1)) = V.str "-") = hasAt [45] l i := by
  have e := look_at "-" l i
  rw [show ("-" : Str).length = 1 from by decide +kernel, zl_minus] at e
  exact e
def mvE (l : List Nat) (k : Nat) : Nat := if hasAt [45] l k = true then skipE l (k + 1) else k
theorem moveM_err {l : List Nat} {k e : Nat} (h : numM l (mvE l k) = .error e) : moveM l k = .error e := by
  unfold mvE at h
  unfold moveM
  split
  · rename_i hh
    rw [if_pos hh] at h
    rw [h]
  · rename_i hh
    rw [if_neg hh] at h
    rw [h]
theorem moveM_yes {l : List Nat} {k j : Nat} {d : Int} (h : numM l (mvE l k) = .ok (d, j)) : moveM l k = .ok ((hasAt [45] l k, d), j) := by
  unfold mvE at h
  unfold moveM
  cases hh : hasAt [45] l k with
  | true =>
    rw [hh, if_pos rfl] at h
    rw [if_pos rfl, h]
  | false =>
    rw [hh] at h
    rw [if_neg (by decide)]
    have h : numM l k = .ok (d, j) := h
    rw [h]
theorem mvE_le {l : List Nat} {k : Nat} (h : k ≤ l.length) : mvE l k ≤ l.length := by
  unfold mvE
  split
  · rename_i hh
    exact skipE_le (hasAt_le hh (by simp))
  · exact h
section
variable {P : Program} {w : World} {K : PySem.W.Frag} {mg : Str → Option Value} {base : Heap} {T : TT}
/-! ### _law_row_due -/
abbrev nRD : List Str := ["_law_text_here", "_law_at", "_law_kind", "_law_here", "_law_bad", "_law_name", "_law_end", "_law_is_down", "_law_number", "_law_guards", "_law_words", "_law_turn", "_law_word", "_law_guard_here"]
def spRD (T : TT) : Sp := fun vs H Q _ => ∃ (z : Str) (i : Nat), vs = [.str z, .int i] ∧ z.length ≤ 1000000 ∧ i ≤ (zl z).length ∧
  (∀ e, rowM (zl z) i = .error e → ∀ H' p, Up T [] H H' → H' p = some (.tup [.non, .int (e : Nat)]) → Q (.ref p) H') ∧
  (∀ r j, rowM (zl z) i = .ok (r, j) → ∀ H' p v, Up T [] H H' → H' p = some (.tup [v, .int (j : Nat)]) → RowAt H' v r → Q (.ref p) H')
theorem scRD : FnScope nRD ["_law_text_here", "_law_at"] (defScope sLawRowDue) := ⟨rfl, rfl, rfl, by decide +kernel, rfl, by decide +kernel, by decide +kernel⟩
def tNotL : L2.TT := fun σ H Q => ∃ (z : Str) (j : Nat), σ[0]? = some (some (.str z)) ∧ σ[3]? = some (some (.int j)) ∧ z.length ≤ sizeLine ∧ Q (!atB isL (zl z) j) H
def tBadW (T : TT) : L2.TT := fun σ H Q => ∃ (b : V) (v : Str) (acc : List G) (gvs : List V) (ga wa : Addr), σ[4]? = some (some b) ∧ σ[12]? = some (some (.str v)) ∧ σ[9]? = some (some (.ref ga)) ∧ σ[10]? = some (some (.ref wa)) ∧ H ga = some (.tup gvs) ∧ H wa = some (.lst [.str "if", .str "and"]) ∧ gvs.length = acc.length ∧
  ∀ H', Up T [] H H' → Q (!decide (b = .non) || !decide (v = gWord acc)) H'
def tEnd (T : TT) : TE := fun σ H Q => ∃ (z : Str) (e : Nat), σ[0]? = some (some (.str z)) ∧ σ[6]? = some (some (.int e)) ∧ σ[7]? = some (some (.bl (hasAt [45] (zl z) e))) ∧ z.length ≤ 1000000 ∧ e ≤ (zl z).length ∧ ∀ H', Up T [] H H' → Q (.int (mvE (zl z) e : Nat)) H'
theorem ok_rDue {f : Addr} {fd : FuncData} (F : FnP K "_law_row_due" "_law_row_due" sLawRowDue f fd) (X : Txt K mg) (cS : CalD P w K mg base CX0 2 "_law_step" ["_law_text_here", "_law_at", "_law_want"] (spStep T)) (cG : CalD P w K mg base CX0 3 "_law_guard_due" ["_law_text_here", "_law_at"] (spGD T)) : FnOk P w K mg base CX0 4 f fd ["_law_text_here", "_law_at"] (spRD T) := by
  refine F.ok scRD (fun vs H Q E h => ?_) (fun cdv A outer s H vs Q E hr h => ?_)
  · obtain ⟨z, i, rfl, _⟩ := h
    rfl
  · obtain ⟨z, i, rfl, hz, hi, kerr, kok⟩ := h
    have hr2 : Room 2 _ := hr.mono (by decide)
    refine ⟨_, PSs.nox (pss_cons (ps_asg (pcl cS hr2 pass0 (pa_cons (pv 0) (pa_cons (pv 1) (pa_cons pe_str pa_nil)))) (pg_tup rfl (pgs_cons (pg_name (i := 2) scRD.nd rfl (Or.inl rfl)) (pgs_cons (pg_name (i := 3) scRD.nd rfl (Or.inl rfl)) (pgs_cons (pg_name (i := 4) scRD.nd rfl (Or.inl rfl)) pgs_nil)))))
      (pss_cons (ps_if (PW.pt (pw_or (pt_cmpR op_notN (pv 4) pe_non rfl) (pw_or1 (pt_cmpR op_notIn_seq (pv 2) (pe_lst (pa_cons pe_str (pa_cons pe_str pa_nil))) rfl)))) (pss_one (ps_ret (pe_tup (pa_cons pe_non (pa_cons (pe_ifExp (pt_cmpR op_notN (pv 4) pe_non rfl) (pv 4) (pv 1)) pa_nil))))) pss_nil)
      (pss_cons (ps_asg (pcl cS hr2 pass0 (pa_cons (pv 0) (pa_cons (pv 3) (pa_cons pe_str pa_nil)))) (pg_tup rfl (pgs_cons (pg_name (i := 5) scRD.nd rfl (Or.inl rfl)) (pgs_cons (pg_name (i := 6) scRD.nd rfl (Or.inl rfl)) (pgs_cons (pg_name (i := 4) scRD.nd rfl (Or.inl rfl)) pgs_nil)))))
      (pss_cons (ps_if (pt_cmpR op_notN (pv 4) pe_non rfl) (pss_one (ps_ret (pe_tup (pa_cons pe_non (pa_cons (pv 4) pa_nil))))) pss_nil)
      (pss_cons (ps_set (i := 7) scRD.nd rfl (Or.inl rfl) (pe_cmpR op_eq (pe_slice sl_str (pv 0) (po_some (pv 6)) (po_some (pe_op op_add (pv 6) pe_int))) pe_str (nomark _)))
      (pss_cons (ps_set (i := 6) scRD.nd rfl (Or.inl rfl) (PE.of (t' := tEnd T) (pe_ifExp (pt_val (pv 7)) (pe_ix ix_tup (pcl cS hr2 pass0 (pa_cons (pv 0) (pa_cons (pv 6) (pa_cons pe_str pa_nil)))) pe_int (fun _ _ => rfl)) (pv 6)) ?_))
      (pss_cons (ps_asg (pcl cS hr2 pass0 (pa_cons (pv 0) (pa_cons (pv 6) (pa_cons pe_str pa_nil)))) (pg_tup rfl (pgs_cons (pg_name (i := 8) scRD.nd rfl (Or.inl rfl)) (pgs_cons (pg_name (i := 3) scRD.nd rfl (Or.inl rfl)) (pgs_cons (pg_name (i := 4) scRD.nd rfl (Or.inl rfl)) pgs_nil)))))
      (pss_cons (ps_if (pt_cmpR op_notN (pv 4) pe_non rfl) (pss_one (ps_ret (pe_tup (pa_cons pe_non (pa_cons (pv 4) pa_nil))))) pss_nil)
      (pss_cons (ps_par (i := 9) (j := 10) rfl scRD.nd rfl rfl (by decide) rfl rfl (pa_cons (pe_tup pa_nil) (pa_cons (pe_lst (pa_cons pe_str (pa_cons pe_str pa_nil))) pa_nil)) rfl)
      (pss_cons (ps_for PassesOwn.never rfl (pi_range1 (by rfl) X.range (pa_cons (pe_callB call_len_str (by rfl) X.len b_len (pa_cons (pv 0) pa_nil)) pa_nil)) (pg_name (i := 11) scRD.nd rfl (Or.inl rfl))
        (pss_cons (ps_if (PT.of (t' := tNotL) (PW.pt (pw_or (pt_cmpR op_eq (pe_slice sl_str (pv 0) (po_some (pv 3)) (po_some (pe_op op_add (pv 3) pe_int))) pe_str (nomark _)) (pw_or1 (pt_cmpR op_notIn_sign (pe_slice sl_str (pv 0) (po_some (pv 3)) (po_some (pe_op op_add (pv 3) pe_int))) pe_str rfl)))) ?_) (pss_one ps_break) pss_nil)
        (pss_cons (ps_asg (pcl cS hr2 pass0 (pa_cons (pv 0) (pa_cons (pv 3) (pa_cons pe_str pa_nil)))) (pg_tup rfl (pgs_cons (pg_name (i := 12) scRD.nd rfl (Or.inl rfl)) (pgs_cons (pg_name (i := 6) scRD.nd rfl (Or.inl rfl)) (pgs_cons (pg_name (i := 4) scRD.nd rfl (Or.inl rfl)) pgs_nil)))))
        (pss_cons (ps_if (PT.of (t' := tBadW T) (PW.pt (pw_or (pt_cmpR op_notN (pv 4) pe_non rfl) (pw_or1 (pt_cmpR op_ne (pv 12) (pe_ix ix_list (pv 10) (pe_callTy call_int1 (by rfl) X.int b_int (pa_cons (pe_cmpR (op_neNilT hr.units0) (pv 9) (pe_tup pa_nil) (nomark _)) pa_nil)) (fun _ _ => rfl)) (nomark _))))) ?_)
          (pss_one (ps_ret (pe_tup (pa_cons pe_non (pa_cons (pe_ifExp (pt_cmpR op_notN (pv 4) pe_non rfl) (pv 4) (pv 3)) pa_nil))))) pss_nil)
        (pss_cons (ps_asg (pcl cG hr pass0 (pa_cons (pv 0) (pa_cons (pv 6) pa_nil))) (pg_tup rfl (pgs_cons (pg_name (i := 13) scRD.nd rfl (Or.inl rfl)) (pgs_cons (pg_name (i := 3) scRD.nd rfl (Or.inl rfl)) pgs_nil))))
        (pss_cons (ps_if (pt_cmpR op_isN (pv 13) pe_non rfl) (pss_one (ps_ret (pe_tup (pa_cons pe_non (pa_cons (pv 3) pa_nil))))) pss_nil)
        (pss_one (ps_set (i := 9) scRD.nd rfl (Or.inl rfl) (pe_op op_catA (pv 9) (pe_tup (pa_cons (pv 13) pa_nil)))))))))))
      (pss_one (ps_ret (pe_tup (pa_cons (pe_tup (pa_cons (pv 9) (pa_cons (pv 2) (pa_cons (pv 5) (pa_cons (pe_tup (pa_cons (pe_ifExp (pt_val (pv 7)) pe_str pe_str) (pa_cons (pe_callTy call_int_str (by rfl) X.int b_int (pa_cons (pv 8) pa_nil)) pa_nil))) pa_nil))))) (pa_cons (pv 3) pa_nil))))))))))))))), ?_⟩
    · rintro σ H Q ⟨z, e, e0, e6, e7, hz, he, k⟩
      have e24 : 1000000 ≤ sizeLine := by decide
      refine ⟨_, e7, _, rfl, ?_⟩
      unfold mvE at k
      cases hh : hasAt [45] (zl z) e with
      | true =>
        rw [hh, if_pos rfl] at k
        refine iteT ⟨_, e0, _, e6, z, e, "-", rfl, hz, he, by decide +kernel, fun H1 p1 u1 s1 => ?_⟩
        have hp1 := s1.ok (v := "-") (j := skipE (zl z) (e + 1)) (by
          rw [stepM_sign (by decide +kernel) (by decide +kernel), zl_minus]
          unfold signM
          rw [hh]
          rfl)
        exact ⟨p1, _, 1, _, rfl, rfl, .inl (.inl hp1), rfl, k H1 u1⟩
      | false =>
        rw [hh] at k
        exact iteF ⟨_, e6, k H .refl⟩
    · rintro σ H Q ⟨z, j, e0, e3, hz, k⟩
      have ec : cutS z (some ((j : Nat) : Int)) (some ((j : Nat) + 1 : Int)) = wrd (zl z) j (j + 1) := cut_wrd z j (j + 1)
      refine ⟨_, e0, _, e3, _, rfl, _, e3, j, 1, rfl, rfl, _, rfl, z, rfl, hz, rfl, _, rfl, ?_⟩
      rw [ec, wrd1]
      cases hc : (zl z)[j]? with
      | none =>
        have hb : atB isL (zl z) j = false := by unfold atB; rw [hc]
        rw [hb] at k
        exact iteTt (by decide +kernel) k
      | some c =>
        have hb : atB isL (zl z) j = isL c := by unfold atB; rw [hc]
        rw [hb] at k
        refine iteFf ?_ ⟨_, e0, _, e3, _, rfl, _, e3, j, 1, rfl, rfl, _, rfl, z, rfl, hz, c, LETS, by rw [ec, wrd1, hc], rfl, _, rfl, ?_⟩
        · rw [dec_vstr]
          refine decide_eq_false fun q => ?_
          have := congrArg (fun s : Str => s.cps.size) q
          cases this
        · show Q (!decide (c ∈ zl LETS)) H
          have q := isL_letters c
          rw [show decide (c ∈ zl LETS) = isL c from q]
          exact k
    · rintro σ H Q ⟨b, v, acc, gvs, ga, wa, e4, e12, e9, e10, hga, hwa, hlen, k⟩
      refine ⟨_, e4, rfl, _, rfl, ?_⟩
      by_cases hb : b = .non
      · rw [decide_eq_true hb] at k
        refine iteFf (by rw [decide_eq_true hb]; rfl) ?_
        refine ⟨_, e12, _, e10, _, e9, by show 0 ≤ sizeLine; decide, fun q hq => ?_⟩
        have u : Up T [] H (upd H q (.tup [])) := .new hq
        refine ⟨ga, q, gvs, rfl, rfl, .inl (.inl (u.tup noTup0 hga)), .inl (.inl upd_same), .inr ⟨_, rfl, ?_⟩⟩
        have hwa2 : (upd H q (.tup [])) wa = some (.lst [.str "if", .str "and"]) := u.keep _ _ (by simp) hwa rfl
        refine ⟨wa, _, _, .str (gWord acc), rfl, rfl, .inl (.inl hwa2), ?_, rfl, _, rfl, ?_⟩
        · cases acc with
          | nil =>
            cases gvs with
            | nil => rfl
            | cons _ _ => cases hlen
          | cons _ _ =>
            cases gvs with
            | nil => cases hlen
            | cons _ _ => rfl
        · rw [dec_vstr]
          exact k _ u
      · rw [decide_eq_false hb] at k
        exact iteTt (by rw [decide_eq_false hb]; rfl) (k H .refl)
    · have ezl := zl_len z
      have e24 : 1000000 ≤ sizeLine := by decide
      have two : (2 : Nat) ≤ sizeLine := by decide
      refine ⟨_, rfl, _, rfl, z, i, "word", rfl, hz, hi, by decide +kernel, fun H1 p1 u1 s1 => ?_⟩
      cases h1 : wordM (zl z) i with
      | error e =>
        obtain ⟨v, j, hp⟩ := s1.err (by rw [stepM_word]; exact h1)
        have hk : knownM ["call", "tail"] (zl z) i = .error e := by simp only [knownM, h1]
        refine ⟨p1, _, rfl, .inl (.inl hp), rfl, _, _, rfl, _, _, rfl, _, _, rfl, rfl, ?_⟩
        refine ⟨_, rfl, rfl, _, rfl, iteTt (nn_int _) ?_⟩
        refine ⟨_, rfl, rfl, _, rfl, iteTt (nn_int _) ⟨_, rfl, two, fun q hq => ?_⟩⟩
        exact kerr e (by simp only [rowM, hk]) _ q (u1.trans (.new hq)) upd_same
      | ok wj =>
        obtain ⟨kd, j1⟩ := wj
        have hp := s1.ok (by rw [stepM_word]; exact h1)
        have hj := wordM_ok h1
        refine ⟨p1, _, rfl, .inl (.inl hp), rfl, _, _, rfl, _, _, rfl, _, _, rfl, rfl, ?_⟩
        refine ⟨_, rfl, rfl, _, rfl, iteFf nn_non ⟨_, rfl, two, fun q0 hq0 => ?_⟩⟩
        refine ⟨q0, _, rfl, .inl (.inl (.inl upd_same)), rfl, rfl, !inV (.str kd) ((["call", "tail"] : List Str).map V.str), rfl, ?_⟩
        rw [in_strs]
        have w0 : Up T [] H1 (upd H1 q0 (.lst [.str "call", .str "tail"])) := .new hq0
        have u1 : Up T [] H (upd H1 q0 (.lst [.str "call", .str "tail"])) := u1.trans w0
        generalize (upd H1 q0 (.lst [.str "call", .str "tail"])) = H1 at u1 ⊢
        by_cases hkd : kd ∈ (["call", "tail"] : List Str)
        · rw [decide_eq_true hkd]
          have hk : knownM ["call", "tail"] (zl z) i = .ok (kd, j1) := by
            simp only [knownM, h1]
            rw [if_pos hkd]
          refine iteF ⟨_, rfl, _, rfl, z, j1, "word", rfl, hz, hj.2, by decide +kernel, fun H2 p2 u2 s2 => ?_⟩
          have u2 : Up T [] H H2 := u1.trans u2
          cases h2 : wordM (zl z) j1 with
          | error e =>
            obtain ⟨v, j, hp⟩ := s2.err (by rw [stepM_word]; exact h2)
            refine ⟨p2, _, rfl, .inl (.inl hp), rfl, _, _, rfl, _, _, rfl, _, _, rfl, rfl, ?_⟩
            refine ⟨_, rfl, rfl, _, rfl, iteTt (nn_int _) ⟨_, rfl, two, fun q hq => ?_⟩⟩
            exact kerr e (by simp only [rowM, hk, h2]) _ q (u2.trans (.new hq)) upd_same
          | ok wj =>
            obtain ⟨nm, k2⟩ := wj
            have hp2 := s2.ok (by rw [stepM_word]; exact h2)
            have hj2 := wordM_ok h2
            refine ⟨p2, _, rfl, .inl (.inl hp2), rfl, _, _, rfl, _, _, rfl, _, _, rfl, rfl, ?_⟩
            refine ⟨_, rfl, rfl, _, rfl, iteFf nn_non ?_⟩
            have ec : cutS z (some ((k2 : Nat) : Int)) (some ((k2 : Nat) + 1 : Int)) = wrd (zl z) k2 (k2 + 1) := cut_wrd z k2 (k2 + 1)
            refine ⟨_, rfl, _, rfl, _, rfl, _, rfl, k2, 1, rfl, rfl, _, rfl, z, rfl, by omega, rfl, ?_⟩
            rw [ec, minus_at]
            refine ⟨z, k2, rfl, rfl, rfl, hz, hj2.2, fun H3 u3 => ?_⟩
            have u3 : Up T [] H H3 := u2.trans u3
            refine ⟨_, rfl, _, rfl, z, mvE (zl z) k2, "number", rfl, hz, mvE_le hj2.2, by decide +kernel, fun H4 p4 u4 s4 => ?_⟩
            have u4 : Up T [] H H4 := u3.trans u4
            cases h4 : numW (zl z) (mvE (zl z) k2) with
            | error e =>
              obtain ⟨v, j, hp⟩ := s4.err (by rw [stepM_num]; exact h4)
              refine ⟨p4, _, rfl, .inl (.inl hp), rfl, _, _, rfl, _, _, rfl, _, _, rfl, rfl, ?_⟩
              refine ⟨_, rfl, rfl, _, rfl, iteTt (nn_int _) ⟨_, rfl, two, fun q hq => ?_⟩⟩
              exact kerr e (by simp only [rowM, hk, h2, moveM_err (numW_err h4)]) _ q (u4.trans (.new hq)) upd_same
            | ok wj =>
              obtain ⟨w8, e4⟩ := wj
              have hp4 := s4.ok (by rw [stepM_num]; exact h4)
              obtain ⟨n1, n2, n3⟩ := numW_ok h4
              have hm := moveM_yes n1
              have hme := moveM_ok hm
              generalize hasAt [45] (zl z) k2 = dn at hm ⊢
              refine ⟨p4, _, rfl, .inl (.inl hp4), rfl, _, _, rfl, _, _, rfl, _, _, rfl, rfl, ?_⟩
              refine ⟨_, rfl, rfl, _, rfl, iteFf nn_non ?_⟩
              refine ⟨by show 0 ≤ sizeLine; decide, fun g0 hg0 => ⟨two, fun wa hwa => ⟨_, _, rfl, ?_⟩⟩⟩
              have w5 : Up T [] H4 (upd H4 g0 (.tup [])) := .new hg0
              have w6 : Up T [] (upd H4 g0 (.tup [])) (upd (upd H4 g0 (.tup [])) wa (.lst [.str "if", .str "and"])) := .new hwa
              have hg6 : (upd (upd H4 g0 (.tup [])) wa (.lst [.str "if", .str "and"])) g0 = some (.tup []) := w6.tup noTup0 upd_same
              have hw6 : (upd (upd H4 g0 (.tup [])) wa (.lst [.str "if", .str "and"])) wa = some (.lst [.str "if", .str "and"]) := upd_same
              have u6 : Up T [] H (upd (upd H4 g0 (.tup [])) wa (.lst [.str "if", .str "and"])) := (u4.trans w5).trans w6
              generalize (upd (upd H4 g0 (.tup [])) wa (.lst [.str "if", .str "and"])) = H6 at hg6 hw6 u6 ⊢
              refine ⟨_, rfl, z, rfl, by omega, (z.length : Int), rfl, by omega, by omega, ?_⟩
              refine for_range (fun n σ H' => ∃ (j : Nat) (x4 x6 x11 x12 x13 : Option V) (ga : Addr) (gvs : List V) (acc : List G) (ff : Nat),
                  σ = [some (.str z), some (.int i), some (.str kd), some (.int j), x4, some (.str nm), x6, some (.bl dn), some (.str w8), some (.ref ga), some (.ref wa), x11, x12, x13] ∧ Up T [] H6 H' ∧ H' ga = some (.tup gvs) ∧ Paired (GAt H') gvs acc ∧ n + 1 ≤ j ∧ j ≤ (zl z).length ∧ acc.length ≤ n ∧ (zl z).length < ff + j ∧ guardsM (zl z) ((zl z).length + 1) e4 [] = guardsM (zl z) ff j acc)
                ⟨e4, _, _, _, _, _, g0, [], [], _, rfl, .refl, hg6, .nil, by omega, hme.2, Nat.le_refl _, by omega, rfl⟩ ?_ ?_
              · rintro n σ H7 hn ⟨j, x4, x6, x11, x12, x13, ga, gvs, acc, ff, rfl, u7, hga, Pg, hnj, hjl, hal, hff, hgm⟩
                obtain ⟨ff, rfl⟩ : ∃ f', ff = f' + 1 := ⟨ff - 1, by omega⟩
                have hgl : gvs.length = acc.length := Paired.length Pg
                have u67 : Up T [] H H7 := u6.trans u7
                refine ⟨z, j, rfl, rfl, by omega, ?_⟩
                have hgm0 := hgm
                unfold guardsM at hgm
                cases hl : atB isL (zl z) j with
                | false =>
                  rw [hl] at hgm
                  have hrow : rowM (zl z) i = .ok (⟨acc, kd, nm, dn, val w8⟩, j) := by
                    unfold rowM
                    rw [hk]
                    dsimp only
                    rw [h2]
                    dsimp only
                    rw [hm]
                    dsimp only
                    unfold guardsM
                    rw [hgm]
                    rfl
                  refine iteT ⟨_, rfl, _, rfl, _, rfl, _, rfl, dn, rfl, ?_⟩
                  have fin : ∀ ds : Str, ds = (if dn then ("down" : Str) else "give") → (tTup (tCons (tC (.str ds)) (tCons (tCB (fun xs H Q => ∃ a n, xs = [.str a] ∧ PySem.intText? a = some n ∧ a.length ≤ 640 ∧ Q (.int n) H) (tCons (tVar 8) tNil)) tNil))) [some (.str z), some (.int i), some (.str kd), some (.int j), x4, some (.str nm), x6, some (.bl dn), some (.str w8), some (.ref ga), some (.ref wa), some (.int (0 + (n : Int))), x12, x13] H7 fun vm Hm =>
                      ∀ q2, Hm q2 = none → ∀ q3, (upd Hm q2 (.tup [.ref ga, .str kd, .str nm, vm])) q3 = none → Q (.ref q3) (upd (upd Hm q2 (.tup [.ref ga, .str kd, .str nm, vm])) q3 (.tup [.ref q2, .int j])) := fun ds hds => by
                    refine ⟨_, rfl, w8, val w8, rfl, n2, n3, two, fun q1 hq1 q2 hq2 q3 hq3 => ?_⟩
                    have w8' : Up T [] H7 (upd H7 q1 (.tup [.str ds, .int (val w8)])) := .new hq1
                    have c1 : (upd H7 q1 (.tup [.str ds, .int (val w8)])) q1 = some (.tup [.str ds, .int (val w8)]) := upd_same
                    generalize (upd H7 q1 (.tup [.str ds, .int (val w8)])) = H8 at w8' c1 hq2 hq3 ⊢
                    have w9 : Up T [] H8 (upd H8 q2 (.tup [.ref ga, .str kd, .str nm, .ref q1])) := .new hq2
                    have c2 : (upd H8 q2 (.tup [.ref ga, .str kd, .str nm, .ref q1])) q2 = some (.tup [.ref ga, .str kd, .str nm, .ref q1]) := upd_same
                    generalize (upd H8 q2 (.tup [.ref ga, .str kd, .str nm, .ref q1])) = H9 at w9 c2 hq3 ⊢
                    have w10 : Up T [] H9 (upd H9 q3 (.tup [.ref q2, .int j])) := .new hq3
                    have w710 := (w8'.trans w9).trans w10
                    refine kok _ j hrow _ q3 (.ref q2) (u67.trans w710) upd_same ⟨q2, ga, .ref q1, gvs, rfl, w10.tup noTup0 c2, w710.tup noTup0 hga, L2.Paired.mapP Pg fun _ _ q => q.up w710 noTup0, q1, rfl, ?_⟩
                    rw [← hds]
                    exact (w9.trans w10).tup noTup0 c1
                  cases dn with
                  | true =>
                    obtain ⟨y, e8, rest⟩ := fin "down" rfl
                    obtain ⟨a8, n8, q1, q2, q3, q4, q5⟩ := rest
                    exact iteT ⟨y, e8, a8, n8, q1, q2, q3, q4, fun p1 hp1 => ⟨by show 4 ≤ sizeLine; decide, fun p2 hp2 => ⟨_, rfl, two, fun p3 hp3 => q5 p1 hp1 p2 hp2 p3 hp3⟩⟩⟩
                  | false =>
                    obtain ⟨y, e8, rest⟩ := fin "give" rfl
                    obtain ⟨a8, n8, q1, q2, q3, q4, q5⟩ := rest
                    exact iteF ⟨y, e8, a8, n8, q1, q2, q3, q4, fun p1 hp1 => ⟨by show 4 ≤ sizeLine; decide, fun p2 hp2 => ⟨_, rfl, two, fun p3 hp3 => q5 p1 hp1 p2 hp2 p3 hp3⟩⟩⟩
                | true =>
                  rw [hl, if_pos rfl] at hgm
                  have hrerr : ∀ e', guardsM (zl z) ((zl z).length + 1) e4 [] = .error e' → rowM (zl z) i = .error e' := fun e' he' => by
                    simp only [rowM, hk, h2, hm, he']
                  refine iteF ⟨_, rfl, _, rfl, z, j, "word", rfl, hz, hjl, by decide +kernel, fun H8 p8 u8 s8 => ?_⟩
                  have u68 : Up T [] H6 H8 := u7.trans u8
                  have hga8 := u8.tup noTup0 hga
                  have hwa8 : H8 wa = some (.lst [.str "if", .str "and"]) := u68.keep _ _ (by simp) hw6 rfl
                  cases h8 : wordM (zl z) j with
                  | error e =>
                    obtain ⟨v8, j8, hp8⟩ := s8.err (by rw [stepM_word]; exact h8)
                    refine ⟨p8, _, rfl, .inl (.inl hp8), rfl, _, _, rfl, _, _, rfl, _, _, rfl, rfl, ?_⟩
                    refine ⟨.int e, v8, acc, gvs, ga, wa, rfl, rfl, rfl, rfl, hga8, hwa8, hgl, fun H9 u9 => ?_⟩
                    rw [is_int]
                    refine iteT ⟨_, rfl, rfl, _, rfl, iteTt (nn_int _) ⟨_, rfl, two, fun q hq => ?_⟩⟩
                    exact kerr e (hrerr e (by unfold guardsM; rw [hgm]; simp only [knownM, h8])) _ q (((u6.trans u68).trans u9).trans (.new hq)) upd_same
                  | ok wj =>
                    obtain ⟨v8, j8⟩ := wj
                    have hp8 := s8.ok (by rw [stepM_word]; exact h8)
                    have hj8 := wordM_ok h8
                    refine ⟨p8, _, rfl, .inl (.inl hp8), rfl, _, _, rfl, _, _, rfl, _, _, rfl, rfl, ?_⟩
                    refine ⟨.non, v8, acc, gvs, ga, wa, rfl, rfl, rfl, rfl, hga8, hwa8, hgl, fun H9 u9 => ?_⟩
                    have u69 : Up T [] H6 H9 := u68.trans u9
                    rw [is_non]
                    by_cases hv : v8 = gWord acc
                    · rw [decide_eq_true hv]
                      have hk8 : knownM [gWord acc] (zl z) j = .ok (v8, j8) := by
                        simp only [knownM, h8]
                        rw [if_pos (by rw [hv]; exact List.mem_cons_self)]
                      rw [hk8] at hgm
                      dsimp only at hgm
                      refine iteF ⟨_, rfl, _, rfl, z, j8, rfl, hz, hj8.2, fun e he H10 p10 u10 hp10 => ?_, fun g k10 hg H10 p10 gv u10 hp10 hgv => ?_⟩
                      · refine ⟨p10, _, rfl, .inl (.inl hp10), rfl, _, _, rfl, _, _, rfl, rfl, ?_⟩
                        refine ⟨_, rfl, rfl, _, rfl, iteTt is_non ⟨_, rfl, two, fun q hq => ?_⟩⟩
                        exact kerr e (hrerr e (by unfold guardsM; rw [hgm, he])) _ q (((u6.trans u69).trans u10).trans (.new hq)) upd_same
                      · obtain ⟨gva, rfl⟩ : ∃ gva, gv = .ref gva := by
                          cases g with
                          | below c => obtain ⟨a, rfl, _⟩ := hgv; exact ⟨a, rfl⟩
                          | frm c => obtain ⟨a, rfl, _⟩ := hgv; exact ⟨a, rfl⟩
                          | rest m r => obtain ⟨a, rfl, _⟩ := hgv; exact ⟨a, rfl⟩
                        refine ⟨p10, _, rfl, .inl (.inl hp10), rfl, _, _, rfl, _, _, rfl, rfl, ?_⟩
                        refine ⟨_, rfl, rfl, _, rfl, iteFf (is_ref _) ?_⟩
                        have u610 : Up T [] H6 H10 := u69.trans u10
                        have u710 : Up T [] H7 H10 := (u8.trans u9).trans u10
                        have hga10 := u710.tup noTup0 hga
                        have P10 : Paired (GAt H10) gvs acc := L2.Paired.mapP Pg fun _ _ q => q.up u710 noTup0
                        have hk10 := guardM_ok hg
                        rw [hg] at hgm
                        dsimp only at hgm
                        have e0 : ∀ x : Nat, (∃ y, x = y) := fun x => ⟨x, rfl⟩
                        refine ⟨_, rfl, _, rfl, by show 1 ≤ sizeLine; decide, fun q1 hq1 => ?_⟩
                        have w1 : Up T [] H10 (upd H10 q1 (.tup [.ref gva])) := .new hq1
                        have hsz : gvs.length + 1 ≤ sizeLine := by
                          have : n < z.length := by
                            have q : n < ((z.length : Int)).toNat := hn
                            rw [Int.toNat_natCast] at q
                            exact q
                          omega
                        refine ⟨ga, q1, gvs, [.ref gva], rfl, rfl, .inl (.inl (w1.tup noTup0 hga10)), .inl (.inl upd_same), hsz, fun h0 => ?_, fun _ h1 => absurd h1 (by simp), fun h0 _ p1 hp1 => ?_⟩
                        · subst h0
                          have hacc : acc = [] := by
                            cases acc with
                            | nil => rfl
                            | cons _ _ => cases hgl
                          subst hacc
                          exact ⟨k10, _, _, _, _, _, q1, [.ref gva], [g], ff, rfl, u610.trans w1, upd_same, .cons (hgv.up w1 noTup0) .nil, by omega, hk10.2, by show 1 ≤ n + 1; omega, by omega, hgm0.trans (by rw [guardsM, if_pos hl, hk8]; dsimp only; rw [hg]; try rfl)⟩
                        · have w2 : Up T [] (upd H10 q1 (.tup [.ref gva])) (upd (upd H10 q1 (.tup [.ref gva])) p1 (.tup (gvs ++ [.ref gva]))) := .new hp1
                          have w3 := w1.trans w2
                          exact ⟨k10, _, _, _, _, _, p1, gvs ++ [.ref gva], acc ++ [g], ff, rfl, u610.trans w3, upd_same, paired_snoc (L2.Paired.mapP P10 fun _ _ q => q.up w3 noTup0) (hgv.up w3 noTup0), by omega, hk10.2, by rw [List.length_append, List.length_singleton]; omega, by omega, hgm0.trans (by rw [guardsM, if_pos hl, hk8]; dsimp only; rw [hg]; try rfl)⟩
                    · rw [decide_eq_false hv]
                      refine iteT ⟨_, rfl, rfl, _, rfl, iteFf nn_non ⟨_, rfl, two, fun q hq => ?_⟩⟩
                      refine kerr j (hrerr j ?_) _ q ((u6.trans u69).trans (.new hq)) upd_same
                      have hk8 : knownM [gWord acc] (zl z) j = .error j := by
                        simp only [knownM, h8]
                        rw [if_neg (by simpa using hv)]
                      unfold guardsM
                      rw [hgm, hk8]
              · rintro σ H7 ⟨j, x4, x6, x11, x12, x13, ga, gvs, acc, ff, rfl, u7, hga, Pg, hnj, hjl, hal, hff, hgm⟩
                rw [Int.toNat_natCast] at hnj
                omega
        · rw [decide_eq_false hkd]
          refine iteT ⟨_, rfl, rfl, _, rfl, iteFf nn_non ⟨_, rfl, two, fun q hq => ?_⟩⟩
          refine kerr i ?_ _ q (u1.trans (.new hq)) upd_same
          have hk : knownM ["call", "tail"] (zl z) i = .error i := by
            simp only [knownM, h1]
            rw [if_neg hkd]
          simp only [rowM, hk]
end
end Dc
set_option Elab.async false
set_option linter.all false
set_option maxRecDepth 100000
set_option maxHeartbeats 4000000
namespace Dc
open PySem PySem.Spec PyProof.Rows L2 DcG
def sgT (acc : List Row) : Str := if acc.isEmpty then ":" else ","
theorem sgT_zl (acc : List Row) : zl (sgT acc) = [rSign acc] := by
  cases acc with
  | nil => exact zl_colon
  | cons _ _ => exact zl_comma
theorem sgT_len (acc : List Row) : (sgT acc).length = 1 := by
  cases acc with
  | nil => decide +kernel
  | cons _ _ =>
    show ("," : Str).length = 1
    decide +kernel
theorem sgT_w (acc : List Row) : sgT acc ≠ "word" ∧ sgT acc ≠ "number" := by
  cases acc with
  | nil => decide +kernel
  | cons _ _ =>
    show ("," : Str) ≠ "word" ∧ ("," : Str) ≠ "number"
    decide +kernel
theorem sgT_snoc (acc : List Row) (r : Row) : sgT (acc ++ [r]) = "," := by
  cases acc <;> rfl
theorem sg_at (acc : List Row) (l : List Nat) (j : Nat) : decide (V.str (wrd l j (j + 1)) = V.str (sgT acc)) = hasAt [rSign acc] l j := by
  have e := look_at (sgT acc) l j
  rw [sgT_len, sgT_zl] at e
  exact e
section
variable {P : Program} {w : World} {K : PySem.W.Frag} {mg : Str → Option Value} {base : Heap} {T : TT}
/-! ### _law_due -/
abbrev nDu : List Str := ["_law_text_here", "_law_at", "_law_found", "_law_turn", "_law_sign", "_law_bad", "_law_name", "_law_here", "_law_size_here", "_law_rows_here", "_law_k", "_law_one"]
def spDue (T : TT) : Sp := fun vs H Q _ => ∃ z : Str, vs = [.str z] ∧ z.length ≤ 1000000 ∧ Tabs T H ∧
  (∀ e, readM (zl z) = .error e → ∀ H' p, Up T [] H H' → H' p = some (.tup [.str "place", .int (e : Nat)]) → Q (.ref p) H') ∧
  (∀ fs, readM (zl z) = .ok fs → ∀ H' p v, Up T [] H H' → H' p = some (.tup [.str "book", v]) → BookAt H' v fs → Q (.ref p) H')
theorem scDue : FnScope nDu ["_law_text_here"] (defScope sLawDue) := ⟨rfl, rfl, rfl, by decide +kernel, rfl, by decide +kernel, by decide +kernel⟩
def tTurn (T : TT) : TS := fun D σ H => ∃ (z : Str) (i n : Nat) (x4 x5 x6 x7 x8 x9 x10 x11 : Option V) (fv : Addr) (fs : List Fn), σ = [some (.str z), some (.int i), some (.ref fv), some (.int n), x4, x5, x6, x7, x8, x9, x10, x11] ∧ z.length ≤ 1000000 ∧ i ≤ (zl z).length ∧ Tabs T H ∧ (n ≠ 0 → BookAt H (.ref fv) fs ∧ BookFits fs) ∧
  (n ≠ 0 → i = (zl z).length → ∀ H' p, Up T [] H H' → (isBook fs = true → H' p = some (.tup [.str "book", .ref fv]) → D.rt (.ref p) H') ∧ (isBook fs = false → H' p = some (.tup [.str "place", .int (zl z).length]) → D.rt (.ref p) H')) ∧
  (n ≠ 0 → i < (zl z).length → ∀ e, signM [59] (zl z) i = .error e → ∀ H' p, Up T [] H H' → H' p = some (.tup [.str "place", .int (e : Nat)]) → D.rt (.ref p) H') ∧
  (∀ (i' : Nat) (y4 y5 : Option V) H', Up T [] H H' → (n = 0 → i' = i) → (n ≠ 0 → i < (zl z).length ∧ signM [59] (zl z) i = .ok i') → D.nx [some (.str z), some (.int i'), some (.ref fv), some (.int n), y4, y5, x6, x7, x8, x9, x10, x11] H')
theorem ok_due {f : Addr} {fd : FuncData} (F : FnP K "_law_due" "_law_due" sLawDue f fd) (X : Txt K mg) (cRn : CalD P w K mg base CX0 1 "_law_run" ["_law_text_here", "_law_at", "_law_signs"] spRun) (cS : CalD P w K mg base CX0 2 "_law_step" ["_law_text_here", "_law_at", "_law_want"] (spStep T)) (cR : CalD P w K mg base CX0 4 "_law_row_due" ["_law_text_here", "_law_at"] (spRD T)) (cB : CalD P w K mg base CX0 14 "is_book" ["value"] (spIsBook T)) : FnOk P w K mg base CX0 15 f fd ["_law_text_here"] (spDue T) := by
  refine F.ok scDue (fun vs H Q E h => ?_) (fun cdv A outer s H vs Q E hr h => ?_)
  · obtain ⟨z, rfl, _⟩ := h
    rfl
  · obtain ⟨z, rfl, hz, hT, kerr, kok⟩ := h
    have hr1 : Room 1 _ := hr.mono (by decide)
    have hr2 : Room 2 _ := hr.mono (by decide)
    have hr4 : Room 4 _ := hr.mono (by decide)
    refine ⟨_, PSs.nox <|
      pss_cons (ps_par (i := 1) (j := 2) rfl scDue.nd rfl rfl (by decide) rfl rfl (pa_cons (pe_callB call_len_str (by rfl) X.len b_len (pa_cons (pcl cRn hr1 pass0 (pa_cons (pv 0) (pa_cons pe_int (pa_cons pe_str pa_nil)))) pa_nil)) (pa_cons (pe_tup pa_nil) pa_nil)) rfl) <|
      pss_cons (ps_for PassesOwn.never rfl (pi_range1 (by rfl) X.range (pa_cons (pe_op op_add (pe_callB call_len_str (by rfl) X.len b_len (pa_cons (pv 0) pa_nil)) pe_int) pa_nil)) (pg_name (i := 3) scDue.nd rfl (Or.inl rfl)) <|
        pss_cons (PS.of (t' := tTurn T) (ps_if (pt_cmpR op_gt (pv 3) pe_int (nomark _))
          (pss_cons (ps_if (pt_cmpR op_eq (pv 1) (pe_callB call_len_str (by rfl) X.len b_len (pa_cons (pv 0) pa_nil)) (nomark _))
              (pss_one (ps_ret (pe_ifExp (pt_val (pcl cB hr pass0 (pa_cons (pv 2) pa_nil))) (pe_tup (pa_cons pe_str (pa_cons (pv 2) pa_nil))) (pe_tup (pa_cons pe_str (pa_cons (pe_callB call_len_str (by rfl) X.len b_len (pa_cons (pv 0) pa_nil)) pa_nil)))))) pss_nil) <|
            pss_cons (ps_asg (pcl cS hr2 pass0 (pa_cons (pv 0) (pa_cons (pv 1) (pa_cons pe_str pa_nil)))) (pg_tup rfl (pgs_cons (pg_name (i := 4) scDue.nd rfl (Or.inl rfl)) (pgs_cons (pg_name (i := 1) scDue.nd rfl (Or.inl rfl)) (pgs_cons (pg_name (i := 5) scDue.nd rfl (Or.inl rfl)) pgs_nil))))) <|
            pss_one (ps_if (pt_cmpR op_notN (pv 5) pe_non rfl) (pss_one (ps_ret (pe_tup (pa_cons pe_str (pa_cons (pv 5) pa_nil))))) pss_nil)) pss_nil) ?_) <|
        pss_cons (ps_asg (pcl cS hr2 pass0 (pa_cons (pv 0) (pa_cons (pv 1) (pa_cons pe_str pa_nil)))) (pg_tup rfl (pgs_cons (pg_name (i := 6) scDue.nd rfl (Or.inl rfl)) (pgs_cons (pg_name (i := 7) scDue.nd rfl (Or.inl rfl)) (pgs_cons (pg_name (i := 5) scDue.nd rfl (Or.inl rfl)) pgs_nil))))) <|
        pss_cons (ps_if (pt_cmpR op_notN (pv 5) pe_non rfl) (pss_one (ps_ret (pe_tup (pa_cons pe_str (pa_cons (pv 5) pa_nil))))) pss_nil) <|
        pss_cons (ps_asg (pcl cS hr2 pass0 (pa_cons (pv 0) (pa_cons (pv 7) (pa_cons pe_str pa_nil)))) (pg_tup rfl (pgs_cons (pg_name (i := 8) scDue.nd rfl (Or.inl rfl)) (pgs_cons (pg_name (i := 1) scDue.nd rfl (Or.inl rfl)) (pgs_cons (pg_name (i := 5) scDue.nd rfl (Or.inl rfl)) pgs_nil))))) <|
        pss_cons (ps_if (pt_cmpR op_notN (pv 5) pe_non rfl) (pss_one (ps_ret (pe_tup (pa_cons pe_str (pa_cons (pv 5) pa_nil))))) pss_nil) <|
        pss_cons (ps_asg (pe_tup (pa_cons (pe_tup pa_nil) (pa_cons pe_str pa_nil))) (pg_tup rfl (pgs_cons (pg_name (i := 9) scDue.nd rfl (Or.inl rfl)) (pgs_cons (pg_name (i := 4) scDue.nd rfl (Or.inl rfl)) pgs_nil)))) <|
        pss_cons (ps_for PassesOwn.never rfl (pi_range1 (by rfl) X.range (pa_cons (pe_callB call_len_str (by rfl) X.len b_len (pa_cons (pv 0) pa_nil)) pa_nil)) (pg_name (i := 10) scDue.nd rfl (Or.inl rfl)) <|
          pss_cons (ps_if (pt_cmpR op_ne (pe_slice sl_str (pv 0) (po_some (pv 1)) (po_some (pe_op op_add (pv 1) pe_int))) (pv 4) (nomark _)) (pss_one ps_break) pss_nil) <|
          pss_cons (ps_asg (pcl cR hr4 pass0 (pa_cons (pv 0) (pa_cons (pe_ix ix_tup (pcl cS hr2 pass0 (pa_cons (pv 0) (pa_cons (pv 1) (pa_cons (pv 4) pa_nil)))) pe_int (fun _ _ => rfl)) pa_nil))) (pg_tup rfl (pgs_cons (pg_name (i := 11) scDue.nd rfl (Or.inl rfl)) (pgs_cons (pg_name (i := 1) scDue.nd rfl (Or.inl rfl)) pgs_nil)))) <|
          pss_cons (ps_if (pt_cmpR op_isN (pv 11) pe_non rfl) (pss_one (ps_ret (pe_tup (pa_cons pe_str (pa_cons (pv 1) pa_nil))))) pss_nil) <|
          pss_one (ps_par (i := 9) (j := 4) rfl scDue.nd rfl rfl (by decide) rfl rfl (pa_cons (pe_op op_catA (pv 9) (pe_tup (pa_cons (pv 11) pa_nil))) (pa_cons pe_str pa_nil)) rfl)) <|
        pss_one (ps_set (i := 2) scDue.nd rfl (Or.inl rfl) (pe_op op_catA (pv 2) (pe_tup (pa_cons (pe_tup (pa_cons (pv 6) (pa_cons (pe_callTy call_int_str (by rfl) X.int b_int (pa_cons (pv 8) pa_nil)) (pa_cons (pv 9) pa_nil)))) pa_nil))))) <|
      pss_one (ps_ret (pe_tup (pa_cons pe_str (pa_cons (pe_callB call_len_str (by rfl) X.len b_len (pa_cons (pv 0) pa_nil)) pa_nil)))), ?_⟩
    · rintro D σ H ⟨z, i, n, x4, x5, x6, x7, x8, x9, x10, x11, fv, fs, rfl, hz, hi, hT, hbk, kend, ke, kn⟩
      have ezl := zl_len z
      have e24 : 1000000 ≤ sizeLine := by decide
      have two : (2 : Nat) ≤ sizeLine := by decide
      refine ⟨_, rfl, n, 0, rfl, rfl, _, rfl, ?_⟩
      by_cases hn : n = 0
      · exact iteFf (decide_eq_false (by omega)) (kn i _ _ H .refl (fun _ => rfl) (fun h => absurd hn h))
      · refine iteTt (decide_eq_true (by omega)) ⟨_, rfl, _, rfl, z, rfl, by omega, rfl, decide (V.int (i : Nat) = V.int (z.length : Nat)), rfl, ?_⟩
        by_cases hl : i = (zl z).length
        · refine iteTt (decide_eq_true (by rw [hl, ezl])) ?_
          obtain ⟨hb, hf⟩ := hbk hn
          refine ⟨_, rfl, .ref fv, fs, rfl, hb, hf, hT, fun H1 u1 => ⟨_, rfl, ?_⟩⟩
          cases hib : isBook fs with
          | true => exact iteT ⟨_, rfl, two, fun q hq => (kend hn hl _ q (u1.trans (.new hq))).1 hib upd_same⟩
          | false => exact iteF ⟨_, rfl, z, rfl, by omega, two, fun q hq => (kend hn hl _ q (u1.trans (.new hq))).2 hib (by rw [upd_same, ezl])⟩
        · refine iteFf (decide_eq_false (fun q => hl (by have := V.int.inj q; omega))) ?_
          refine ⟨_, rfl, _, rfl, z, i, ";", rfl, hz, hi, by decide +kernel, fun H1 p1 u1 s1 => ?_⟩
          have hse : stepM ";" (zl z) i = (signM [59] (zl z) i).map fun j => ((";" : Str), j) := by
            rw [stepM_sign (by decide +kernel) (by decide +kernel), zl_semi]
          cases h1 : signM [59] (zl z) i with
          | error e =>
            obtain ⟨v, j, hp⟩ := s1.err (e := e) (by rw [hse, h1]; rfl)
            refine ⟨p1, _, rfl, .inl (.inl hp), rfl, _, _, rfl, _, _, rfl, _, _, rfl, rfl, ?_⟩
            exact ⟨_, rfl, rfl, _, rfl, iteTt (nn_int _) ⟨_, rfl, two, fun q hq => ke hn (by omega) e h1 _ q (u1.trans (.new hq)) upd_same⟩⟩
          | ok j =>
            have hp := s1.ok (v := ";") (j := j) (by rw [hse, h1]; rfl)
            refine ⟨p1, _, rfl, .inl (.inl hp), rfl, _, _, rfl, _, _, rfl, _, _, rfl, rfl, ?_⟩
            exact ⟨_, rfl, rfl, _, rfl, iteFf nn_non (kn j _ _ H1 u1 (fun h => absurd h hn) (fun _ => ⟨by omega, h1⟩))⟩
    · have ezl := zl_len z
      have e24 : 1000000 ≤ sizeLine := by decide
      have two : (2 : Nat) ≤ sizeLine := by decide
      have hrl := wrd_run_len isS (zl z) 0
      have hrle := wrd_le (zl z) 0 (runE isS (zl z) 0)
      refine ⟨_, rfl, z, 0, " ", isS, rfl, by omega, sp_signs, _, rfl, by omega, by show 0 ≤ sizeLine; decide, fun fv0 hfv0 => ⟨_, _, rfl, ?_⟩⟩
      have e0 : (wrd (zl z) 0 (runE isS (zl z) 0)).length = skipE (zl z) 0 := by unfold skipE; omega
      rw [e0]
      have u0 : Up T [] H (upd H fv0 (.tup [])) := .new hfv0
      have hfv0' : (upd H fv0 (.tup [])) fv0 = some (.tup []) := upd_same
      generalize (upd H fv0 (.tup [])) = H0 at u0 hfv0' ⊢
      refine ⟨_, rfl, z, rfl, by omega, z.length, 1, rfl, rfl, (z.length : Int) + 1, rfl, by omega, by omega, ?_⟩
      have hzn : ((z.length : Int) + 1).toNat = z.length + 1 := by omega
      refine for_range (fun n σ H' => ∃ (i : Nat) (x3 x4 x5 x6 x7 x8 x9 x10 x11 : Option V) (fv : Addr) (vs : List V) (fs : List Fn), σ = [some (.str z), some (.int i), some (.ref fv), x3, x4, x5, x6, x7, x8, x9, x10, x11] ∧ Up T [] H0 H' ∧ i ≤ (zl z).length ∧ n ≤ i ∧ H' fv = some (.tup vs) ∧ Paired (FnAt H') vs fs ∧ (∀ f ∈ fs, FnLen (zl z) f) ∧ fs.length = n ∧
          (n = 0 → i = skipE (zl z) 0) ∧ (n ≠ 0 → ∃ ff, (zl z).length < ff + i ∧ bookM (zl z) = fnsM (zl z) ff i fs))
        ⟨skipE (zl z) 0, _, _, _, _, _, _, _, _, _, fv0, [], [], rfl, .refl, skipE_le (Nat.zero_le _), Nat.zero_le _, hfv0', .nil, fun _ h => (by cases h), rfl, fun _ => rfl, fun h => absurd rfl h⟩ ?_ ?_
      · rintro n σ H1 hn ⟨i, x3, x4, x5, x6, x7, x8, x9, x10, x11, fv, vs, fs, rfl, u1, hi, hni, hfv, Pf, hfl, hfn, h0, hn0⟩
        rw [hzn] at hn
        rw [Int.zero_add]
        have u01 : Up T [] H H1 := u0.trans u1
        refine ⟨z, i, n, x4, x5, x6, x7, x8, x9, x10, x11, fv, fs, rfl, hz, hi, u01.tabs hT, fun _ => ⟨⟨fv, vs, rfl, hfv, Pf⟩, fun f hf => ?_⟩, fun hn1 hil H' p u => ?_, fun hn1 hil e he H' p u hp => ?_, fun i' y4 y5 H2 u2 e1 e2 => ?_⟩
        · have q := hfl f hf
          exact ⟨by have := q.1; omega, fun r hr => by have := q.2 r hr; omega⟩
        · obtain ⟨ff, hff, hbm⟩ := hn0 hn1
          obtain ⟨ff, rfl⟩ : ∃ f', ff = f' + 1 := ⟨ff - 1, by omega⟩
          have hbm2 : bookM (zl z) = .ok fs := by
            rw [hbm, fnsM, if_neg (by omega)]
          refine ⟨fun hb hp => kok fs ?_ H' p (.ref fv) (u01.trans u) hp ⟨fv, vs, rfl, u.tup noTup0 hfv, L2.Paired.mapP Pf fun _ _ q => q.up u noTup0⟩, fun hb hp => kerr (zl z).length ?_ H' p (u01.trans u) hp⟩
          · simp only [readM, hbm2]
            rw [if_pos hb]
          · simp only [readM, hbm2]
            rw [if_neg (by rw [hb]; decide)]
        · obtain ⟨ff, hff, hbm⟩ := hn0 hn1
          obtain ⟨ff, rfl⟩ : ∃ f', ff = f' + 1 := ⟨ff - 1, by omega⟩
          have hbm2 : bookM (zl z) = .error e := by
            rw [hbm, fnsM, if_pos hil, he]
          exact kerr e (by simp only [readM, hbm2]) H' p (u01.trans u) hp
        · obtain ⟨hi', hni', hE, hO⟩ : i' ≤ (zl z).length ∧ n ≤ i' ∧ (∀ e, fnM (zl z) i' = .error e → readM (zl z) = .error e) ∧ (∀ g k, fnM (zl z) i' = .ok (g, k) → ∃ ff, (zl z).length < ff + k ∧ bookM (zl z) = fnsM (zl z) ff k (fs ++ [g])) := by
            by_cases hn1 : n = 0
            · have ei := e1 hn1
              have ei2 := h0 hn1
              have hfs : fs = [] := by
                cases fs with
                | nil => rfl
                | cons _ _ => rw [hn1] at hfn; cases hfn
              subst hfs
              rw [ei, ei2]
              rw [ei2] at hi
              refine ⟨hi, by omega, fun e he => ?_, fun g k he => ⟨(zl z).length + 1, by omega, ?_⟩⟩
              · have hbm : bookM (zl z) = .error e := by simp only [bookM, he]
                simp only [readM, hbm]
              · simp only [bookM, he]
                rfl
            · obtain ⟨ff, hff, hbm⟩ := hn0 hn1
              obtain ⟨ff, rfl⟩ : ∃ f', ff = f' + 1 := ⟨ff - 1, by omega⟩
              obtain ⟨hil, hsg⟩ := e2 hn1
              have hs2 := signM_ok (by simp) hsg
              refine ⟨hs2.2, by omega, fun e he => ?_, fun g k he => ⟨ff, ?_, ?_⟩⟩
              · have hbm2 : bookM (zl z) = .error e := by
                  rw [hbm, fnsM, if_pos hil, hsg]
                  dsimp only
                  rw [he]
                simp only [readM, hbm2]
              · have := fnM_ok he
                omega
              · rw [hbm, fnsM, if_pos hil, hsg]
                dsimp only
                rw [he]
          have u02 : Up T [] H H2 := u01.trans u2
          refine ⟨_, rfl, _, rfl, z, i', "word", rfl, hz, hi', by decide +kernel, fun H3 p3 u3 s3 => ?_⟩
          have u03 : Up T [] H H3 := u02.trans u3
          cases h3 : wordM (zl z) i' with
          | error e =>
            obtain ⟨v, j, hp⟩ := s3.err (by rw [stepM_word]; exact h3)
            refine ⟨p3, _, rfl, .inl (.inl hp), rfl, _, _, rfl, _, _, rfl, _, _, rfl, rfl, ?_⟩
            refine ⟨_, rfl, rfl, _, rfl, iteTt (nn_int _) ⟨_, rfl, two, fun q hq => ?_⟩⟩
            exact kerr e (hE e (by simp only [fnM, h3])) _ q (u03.trans (.new hq)) upd_same
          | ok wj =>
            obtain ⟨nm, k1⟩ := wj
            have hp := s3.ok (by rw [stepM_word]; exact h3)
            have hj3 := wordM_ok h3
            refine ⟨p3, _, rfl, .inl (.inl hp), rfl, _, _, rfl, _, _, rfl, _, _, rfl, rfl, ?_⟩
            refine ⟨_, rfl, rfl, _, rfl, iteFf nn_non ?_⟩
            refine ⟨_, rfl, _, rfl, z, k1, "number", rfl, hz, hj3.2, by decide +kernel, fun H4 p4 u4 s4 => ?_⟩
            have u04 : Up T [] H H4 := u03.trans u4
            cases h4 : numW (zl z) k1 with
            | error e =>
              obtain ⟨v, j, hp⟩ := s4.err (by rw [stepM_num]; exact h4)
              refine ⟨p4, _, rfl, .inl (.inl hp), rfl, _, _, rfl, _, _, rfl, _, _, rfl, rfl, ?_⟩
              refine ⟨_, rfl, rfl, _, rfl, iteTt (nn_int _) ⟨_, rfl, two, fun q hq => ?_⟩⟩
              exact kerr e (hE e (by simp only [fnM, h3, numW_err h4])) _ q (u04.trans (.new hq)) upd_same
            | ok wj =>
              obtain ⟨w8, k2⟩ := wj
              have hp := s4.ok (by rw [stepM_num]; exact h4)
              obtain ⟨n1, n2, n3⟩ := numW_ok h4
              have hk2 := numM_ok n1
              refine ⟨p4, _, rfl, .inl (.inl hp), rfl, _, _, rfl, _, _, rfl, _, _, rfl, rfl, ?_⟩
              refine ⟨_, rfl, rfl, _, rfl, iteFf nn_non ?_⟩
              have hEr : ∀ e, rowsM (zl z) ((zl z).length + 1) k2 [] = .error e → readM (zl z) = .error e := fun e he => hE e (by simp only [fnM, h3, n1, he])
              have hOr : ∀ rs k, rowsM (zl z) ((zl z).length + 1) k2 [] = .ok (rs, k) → fnM (zl z) i' = .ok (⟨nm, val w8, rs⟩, k) := fun rs k he => by simp only [fnM, h3, n1, he]
              refine ⟨by show 0 ≤ sizeLine; decide, fun ra0 hra0 => ⟨two, fun pp hpp => ?_⟩⟩
              have w5 : Up T [] H4 (upd H4 ra0 (.tup [])) := .new hra0
              have w6 : Up T [] (upd H4 ra0 (.tup [])) (upd (upd H4 ra0 (.tup [])) pp (.tup [.ref ra0, .str ":"])) := .new hpp
              have hr6 : (upd (upd H4 ra0 (.tup [])) pp (.tup [.ref ra0, .str ":"])) ra0 = some (.tup []) := w6.tup noTup0 upd_same
              have hp6 : (upd (upd H4 ra0 (.tup [])) pp (.tup [.ref ra0, .str ":"])) pp = some (.tup [.ref ra0, .str ":"]) := upd_same
              have u06 : Up T [] H (upd (upd H4 ra0 (.tup [])) pp (.tup [.ref ra0, .str ":"])) := (u04.trans w5).trans w6
              have u16 : Up T [] H1 (upd (upd H4 ra0 (.tup [])) pp (.tup [.ref ra0, .str ":"])) := (((u2.trans u3).trans u4).trans w5).trans w6
              generalize (upd (upd H4 ra0 (.tup [])) pp (.tup [.ref ra0, .str ":"])) = H6 at hr6 hp6 u06 u16 ⊢
              refine ⟨pp, _, rfl, .inl (.inl hp6), rfl, _, _, rfl, _, _, rfl, rfl, ?_⟩
              refine ⟨_, rfl, z, rfl, by omega, (z.length : Int), rfl, by omega, by omega, ?_⟩
              refine for_range (fun m σ H' => ∃ (j : Nat) (x5 x7 x10 x11 : Option V) (ra : Addr) (rvs : List V) (acc : List Row) (rf : Nat), σ = [some (.str z), some (.int j), some (.ref fv), some (.int n), some (.str (sgT acc)), x5, some (.str nm), x7, some (.str w8), some (.ref ra), x10, x11] ∧ Up T [] H6 H' ∧ H' ra = some (.tup rvs) ∧ Paired (RowAt H') rvs acc ∧ m + 1 ≤ j ∧ k2 ≤ j ∧ j ≤ (zl z).length ∧ acc.length ≤ m ∧ (zl z).length < rf + j ∧ rowsM (zl z) ((zl z).length + 1) k2 [] = rowsM (zl z) rf j acc)
                ⟨k2, _, _, _, _, ra0, [], [], _, rfl, .refl, hr6, .nil, by omega, Nat.le_refl _, hk2.2, Nat.le_refl _, by omega, rfl⟩ ?_ ?_
              · rintro m σ H7 hm ⟨j, y5, y7, y10, y11, ra, rvs, acc, rf, rfl, u7, hra, Pr, hmj, hkj, hjl, hal, hrf, hrm⟩
                rw [Int.toNat_natCast] at hm
                obtain ⟨rf, rfl⟩ : ∃ f', rf = f' + 1 := ⟨rf - 1, by omega⟩
                have hrl : rvs.length = acc.length := Paired.length Pr
                have u07 : Up T [] H H7 := u06.trans u7
                have ec : cutS z (some ((j : Nat) : Int)) (some ((j : Nat) + 1 : Int)) = wrd (zl z) j (j + 1) := cut_wrd z j (j + 1)
                refine ⟨_, rfl, _, rfl, _, rfl, _, rfl, j, 1, rfl, rfl, _, rfl, z, rfl, by omega, _, rfl, rfl, !decide (V.str (cutS z (some ((j : Nat) : Int)) (some ((j : Nat) + 1 : Int))) = V.str (sgT acc)), rfl, ?_⟩
                rw [ec, sg_at]
                have hsz : rvs.length + 1 ≤ sizeLine := by omega
                cases hh : hasAt [rSign acc] (zl z) j with
                | false =>
                  have hr2 : rowsM (zl z) (rf + 1) j acc = .ok (acc, j) := by
                    rw [rowsM, hh]
                    rfl
                  have hfg := hOr acc j (hrm.trans hr2)
                  obtain ⟨ff, hff, hbm⟩ := hO _ _ hfg
                  have u17 : Up T [] H1 H7 := u16.trans u7
                  have hfv7 := u17.tup noTup0 hfv
                  have Pf7 : Paired (FnAt H7) vs fs := L2.Paired.mapP Pf fun _ _ q => q.up u17 noTup0
                  have hvl : vs.length = fs.length := Paired.length Pf
                  refine iteT ⟨_, rfl, _, rfl, _, rfl, w8, val w8, rfl, n2, n3, _, rfl, by show 3 ≤ sizeLine; decide, fun q1 hq1 => ⟨by show 1 ≤ sizeLine; decide, fun q2 hq2 => ?_⟩⟩
                  have w8' : Up T [] H7 (upd H7 q1 (.tup [.str nm, .int (val w8), .ref ra])) := .new hq1
                  have c1 : (upd H7 q1 (.tup [.str nm, .int (val w8), .ref ra])) q1 = some (.tup [.str nm, .int (val w8), .ref ra]) := upd_same
                  generalize (upd H7 q1 (.tup [.str nm, .int (val w8), .ref ra])) = H8 at w8' c1 hq2 ⊢
                  have w9 : Up T [] H8 (upd H8 q2 (.tup [.ref q1])) := .new hq2
                  have c2 : (upd H8 q2 (.tup [.ref q1])) q2 = some (.tup [.ref q1]) := upd_same
                  generalize (upd H8 q2 (.tup [.ref q1])) = H9 at w9 c2 ⊢
                  have w79 := w8'.trans w9
                  have fn9 : FnAt H9 (.ref q1) ⟨nm, val w8, acc⟩ := ⟨q1, ra, rvs, rfl, w9.tup noTup0 c1, w79.tup noTup0 hra, L2.Paired.mapP Pr fun _ _ q => q.up w79 noTup0⟩
                  have lenG : ∀ f ∈ fs ++ [⟨nm, val w8, acc⟩], FnLen (zl z) f := fun f hf => by
                    rcases List.mem_append.mp hf with q | q
                    · exact hfl f q
                    · rw [List.mem_singleton.mp q]
                      exact fnM_len hfg
                  have u09 : Up T [] H0 H9 := (u1.trans u17).trans w79
                  refine ⟨fv, q2, vs, [.ref q1], rfl, rfl, .inl (.inl (w79.tup noTup0 hfv7)), .inl (.inl c2), by rw [List.length_singleton]; omega, fun hv0 => ?_, fun _ h1 => absurd h1 (by simp), fun hv0 _ q3 hq3 => ?_⟩
                  · subst hv0
                    have hfs : fs = [] := by
                      cases fs with
                      | nil => rfl
                      | cons _ _ => cases hvl
                    subst hfs
                    exact ⟨j, _, _, _, _, _, _, _, _, _, q2, [.ref q1], [⟨nm, val w8, acc⟩], rfl, u09, hjl, by omega, c2, .cons fn9 .nil, lenG, by rw [← hfn]; rfl, fun h => absurd h (by omega), fun _ => ⟨ff, hff, hbm⟩⟩
                  · have w10 : Up T [] H9 (upd H9 q3 (.tup (vs ++ [.ref q1]))) := .new hq3
                    exact ⟨j, _, _, _, _, _, _, _, _, _, q3, vs ++ [.ref q1], fs ++ [⟨nm, val w8, acc⟩], rfl, u09.trans w10, hjl, by omega, upd_same, paired_snoc (L2.Paired.mapP Pf7 fun _ _ q => q.up (w79.trans w10) noTup0) (fn9.up w10 noTup0), lenG, by rw [List.length_append, hfn]; rfl, fun h => absurd h (by omega), fun _ => ⟨ff, hff, hbm⟩⟩
                | true =>
                  have hle := hasAt_le hh (by simp)
                  have hle : j + 1 ≤ (zl z).length := hle
                  refine iteF ⟨_, rfl, _, rfl, _, rfl, _, rfl, z, j, sgT acc, rfl, hz, hjl, by rw [sgT_len]; omega, fun H8 p8 u8 s8 => ?_⟩
                  have hp8 := s8.ok (v := sgT acc) (j := skipE (zl z) (j + 1)) (by
                    rw [stepM_sign (sgT_w acc).1 (sgT_w acc).2, sgT_zl]
                    unfold signM
                    rw [hh]
                    rfl)
                  have u08 : Up T [] H H8 := u07.trans u8
                  refine ⟨p8, _, 1, _, rfl, rfl, .inl (.inl hp8), rfl, z, skipE (zl z) (j + 1), rfl, hz, skipE_le hle, fun e he H9 p9 u9 hp9 => ?_, fun r k9 hr H9 p9 rv u9 hp9 hrv => ?_⟩
                  · refine ⟨p9, _, rfl, .inl (.inl hp9), rfl, _, _, rfl, _, _, rfl, rfl, ?_⟩
                    refine ⟨_, rfl, rfl, _, rfl, iteTt is_non ⟨_, rfl, two, fun q hq => ?_⟩⟩
                    refine kerr e (hEr e (hrm.trans ?_)) _ q ((u08.trans u9).trans (.new hq)) upd_same
                    rw [rowsM, if_pos hh, he]
                  · obtain ⟨rva, rfl⟩ : ∃ a, rv = .ref a := by
                      obtain ⟨a, _, _, _, rfl, _⟩ := hrv
                      exact ⟨a, rfl⟩
                    refine ⟨p9, _, rfl, .inl (.inl hp9), rfl, _, _, rfl, _, _, rfl, rfl, ?_⟩
                    refine ⟨_, rfl, rfl, _, rfl, iteFf (is_ref _) ?_⟩
                    have hk9 := rowM_ok hr
                    have hsk := skipE_ge (zl z) (j + 1)
                    have u79 : Up T [] H7 H9 := u8.trans u9
                    have u69 : Up T [] H6 H9 := u7.trans u79
                    have hra9 := u79.tup noTup0 hra
                    have Pr9 : Paired (RowAt H9) rvs acc := L2.Paired.mapP Pr fun _ _ q => q.up u79 noTup0
                    have hrm9 : rowsM (zl z) ((zl z).length + 1) k2 [] = rowsM (zl z) rf k9 (acc ++ [r]) := hrm.trans (by rw [rowsM, if_pos hh, hr])
                    refine ⟨_, rfl, _, rfl, by show 1 ≤ sizeLine; decide, fun q1 hq1 => ?_⟩
                    have w1 : Up T [] H9 (upd H9 q1 (.tup [.ref rva])) := .new hq1
                    refine ⟨ra, q1, rvs, [.ref rva], rfl, rfl, .inl (.inl (w1.tup noTup0 hra9)), .inl (.inl upd_same), hsz, fun hv0 => ⟨_, _, rfl, ?_⟩, fun _ h1 => absurd h1 (by simp), fun hv0 _ q3 hq3 => ⟨_, _, rfl, ?_⟩⟩
                    · subst hv0
                      have hacc : acc = [] := by
                        cases acc with
                        | nil => rfl
                        | cons _ _ => cases hrl
                      subst hacc
                      exact ⟨k9, _, _, _, _, q1, [.ref rva], [r], rf, rfl, u69.trans w1, upd_same, .cons (hrv.up w1 noTup0) .nil, by omega, by omega, hk9.2, by show 1 ≤ m + 1; omega, by omega, hrm9⟩
                    · have w2 : Up T [] (upd H9 q1 (.tup [.ref rva])) (upd (upd H9 q1 (.tup [.ref rva])) q3 (.tup (rvs ++ [.ref rva]))) := .new hq3
                      have w3 := w1.trans w2
                      exact ⟨k9, _, _, _, _, q3, rvs ++ [.ref rva], acc ++ [r], rf, by rw [sgT_snoc]; rfl, u69.trans w3, upd_same, paired_snoc (L2.Paired.mapP Pr9 fun _ _ q => q.up w3 noTup0) (hrv.up w3 noTup0), by omega, by omega, hk9.2, by rw [List.length_append, List.length_singleton]; omega, by omega, hrm9⟩
              · rintro σ H7 ⟨j, y5, y7, y10, y11, ra, rvs, acc, rf, rfl, u7, hra, Pr, hmj, hkj, hjl, hal, hrf, hrm⟩
                rw [Int.toNat_natCast] at hmj
                omega
      · rintro σ H1 ⟨i, x3, x4, x5, x6, x7, x8, x9, x10, x11, fv, vs, fs, rfl, u1, hi, hni, _⟩
        rw [hzn] at hni
        omega
end
end Dc
set_option Elab.async false
set_option linter.all false
set_option maxRecDepth 100000
set_option maxHeartbeats 4000000
namespace Dc
open PySem PySem.Spec PyProof.Rows L2 DcG
/-- alike data, n deep -/
def Al (H : Hp) : Nat → V → V → Prop
  | 0, x, y => (∃ s : Str, x = .str s ∧ y = .str s) ∨ ∃ i : Int, x = .int i ∧ y = .int i
  | n + 1, x, y => (∃ s : Str, x = .str s ∧ y = .str s) ∨ (∃ i : Int, x = .int i ∧ y = .int i) ∨ ∃ a b xs ys, x = .ref a ∧ y = .ref b ∧ H a = some (.tup xs) ∧ H b = some (.tup ys) ∧ xs.length ≤ 1000000 ∧ Paired (Al H n) xs ys
theorem Al.up {T : TT} {H H' : Hp} (u : Up T [] H H') : ∀ {n : Nat} {x y : V}, Al H n x y → Al H' n x y
  | 0, _, _, h => h
  | n + 1, _, _, h => by
    rcases h with h | h | ⟨a, b, xs, ys, h1, h2, h3, h4, h5, h6⟩
    · exact .inl h
    · exact .inr (.inl h)
    · exact .inr (.inr ⟨a, b, xs, ys, h1, h2, u.tup noTup0 h3, u.tup noTup0 h4, h5, L2.Paired.mapP h6 fun _ _ q => q.up u⟩)
/-- the kinds of data -/
inductive KindV (H : Hp) : V → String → Prop where
  | str (s : Str) : KindV H (.str s) "str"
  | int (i : Int) : KindV H (.int i) "int"
  | tup {a : Addr} {xs : List V} (h : H a = some (.tup xs)) : KindV H (.ref a) "tuple"
theorem KindV.up {T : TT} {H H' : Hp} (u : Up T [] H H') {v : V} {t : String} (h : KindV H v t) : KindV H' v t := by
  cases h with
  | str s => exact .str s
  | int i => exact .int i
  | tup h => exact .tup (u.tup noTup0 h)
theorem KindV.ty {K : PySem.W.Frag} {H : Hp} {v : V} {t : String} (h : KindV H v t) : TyX K H v (.type t) := by
  cases h with
  | str s => exact .base (.str s)
  | int i => exact .base (.int i)
  | tup h => exact .base (.tup h)
/-- isinstance(e, (tuple, list)) -/
def tIsTL (T : TT) (te : TE) : TE := fun σ H Q => te σ H fun v H1 => ∃ t, KindV H1 v t ∧ ∀ H', Up T [] H1 H' → Q (.bl (decide (t = "tuple"))) H'
theorem kitAny_tl {K : PySem.W.Frag} {H : Hp} {v : V} {t : String} (h : KindV H v t) : PySem.W.kitAny K (.type t) [.type "tuple", .type "list"] = some (decide (t = "tuple")) := by
  have nil : ∀ t, PySem.W.kitAny K t [] = some false := fun t => by unfold PySem.W.kitAny; rfl
  cases h with
  | str s => exact kitAny_cons (b := false) (kit_ty (by decide +kernel)) (fun _ => kitAny_cons (b := false) (kit_ty (by decide +kernel)) (fun _ => nil _) (fun z => by cases z)) (fun z => by cases z)
  | int i => exact kitAny_cons (b := false) (kit_ty (by decide +kernel)) (fun _ => kitAny_cons (b := false) (kit_ty (by decide +kernel)) (fun _ => nil _) (fun z => by cases z)) (fun z => by cases z)
  | tup h => exact kitAny_cons (b := true) (kit_ty (by decide +kernel)) (fun z => by cases z) (fun _ => rfl)
theorem p_isTL {X : Cx} {T : TT} {e : Expr} {te : TE} {p p1 p2 p3 pos : Pos} {k : Nat} (K : Txt X.K X.mg) (he : PE X e te) (hg1 : Gl X "isinstance" := by rfl) (hg2 : Gl X "tuple" := by rfl) (hg3 : Gl X "list" := by rfl)
    (h1 : starEach [e, .Tuple [.Name "tuple" p1, .Name "list" p2] k p3] X.env = (false, eval e X.env) :: starEach [.Tuple [.Name "tuple" p1, .Name "list" p2] k p3] X.env := by rfl) :
    PE X (.Call (.Name "isinstance" p) [e, .Tuple [.Name "tuple" p1, .Name "list" p2] k p3] [] pos) (tIsTL T te) :=
  PE.of (pe_callB call_isiT hg1 K.isi b_isi (pa_cons (PE.up he) (pa_cons (pe_tup (pa_cons (p_tuple K.tuple hg2) (pa_cons (p_list K.list hg3) pa_nil))) pa_nil) h1) (by decide) (by decide) h1 (by rfl)) fun σ H Q h =>
    ⟨_, h, fun v H1 ⟨t, hk, q⟩ => ⟨by show 2 ≤ sizeLine; decide, fun p hp => ⟨v, p, _, .type t, [.type "tuple", .type "list"], _, rfl, upd_same, .cons (.ty _) (.cons (.ty _) .nil), (hk.up (T := T) (.new hp)).ty, kitAny_tl hk, q _ (.new hp)⟩⟩⟩
/-- isinstance(e, c) of data -/
theorem kit_data {H : Hp} {v : V} {t : String} (h : KindV H v t) : kitB t "list" = some false ∧ kitB t "str" = some (decide (t = "str")) ∧ kitB t "bool" = some false ∧ kitB t "int" = some (decide (t = "int")) := by
  cases h <;> decide +kernel
theorem isi_is : kitB "int" "str" = some false := by decide +kernel
theorem isi_tl : kitB "tuple" "list" = some false := by decide +kernel
theorem dec_bl (b : Bool) : decide (V.bl b = V.bl b) = true := decide_eq_true rfl
section
variable {P : Program} {w : World} {K : PySem.W.Frag} {mg : Str → Option Value} {base : Heap} {T : TT}
def spAl (T : TT) : Nat → Sp
  | 0 => fun _ _ _ _ => False
  | n + 1 => fun vs H Q _ => ∃ x y, vs = [x, y] ∧ Al H n x y ∧ ∀ H', Up T [] H H' → Q (.bl true) H'
theorem scAl : FnScope ["_law_found", "_law_due_here", "_law_k"] ["_law_found", "_law_due_here"] (defScope sLawAlike) := ⟨rfl, rfl, rfl, by decide +kernel, rfl, by decide +kernel, by decide +kernel⟩
theorem ok_alike0 {f : Addr} {fd : FuncData} {k : Nat} : FnOk P w K mg base CX0 k f fd ["_law_found", "_law_due_here"] (spAl T 0) := ⟨fun _ _ _ _ h => h.elim, fun _ _ _ _ _ _ _ _ _ _ _ _ _ h => h.elim⟩
theorem ok_alikeS {f : Addr} {fd : FuncData} {n : Nat} (F : FnP K "_law_alike" "_law_alike" sLawAlike f fd) (X : Txt K mg) (cA : CalD P w K mg base CX0 n "_law_alike" ["_law_found", "_law_due_here"] (spAl T n)) : FnOk P w K mg base CX0 (n + 1) f fd ["_law_found", "_law_due_here"] (spAl T (n + 1)) := by
  refine F.ok scAl (fun vs H Q E h => ?_) (fun cdv A outer s H vs Q E hr h => ?_)
  · obtain ⟨x, y, rfl, _⟩ := h
    rfl
  · obtain ⟨x, y, rfl, hal, k⟩ := h
    refine ⟨_, PSs.nox <|
      pss_cons (ps_if (pt_val (p_isTL (T := T) X (pv 1)))
        (pss_cons (ps_if (PW.pt (pw_or (pt_not (pt_val (p_isTL (T := T) X (pv 0)))) (pw_or1 (pt_cmpR op_ne (p_isi X.isi (pv 0) (p_list X.list)) (p_isi X.isi (pv 1) (p_list X.list)) (nomark _))))) (pss_one (ps_ret pe_bl)) pss_nil) <|
        pss_cons (ps_if (pt_cmpR op_ne (pe_callB call_len_seq (by rfl) X.len b_len (pa_cons (pv 0) pa_nil)) (pe_callB call_len_seq (by rfl) X.len b_len (pa_cons (pv 1) pa_nil)) (nomark _)) (pss_one (ps_ret pe_bl)) pss_nil) <|
        pss_one (ps_ret (pe_cmpR (op_eqNil hr.units0) (pe_lc rfl scAl.nd (pi_range1 (by rfl) X.range (pa_cons (pe_callB call_len_seq (by rfl) X.len b_len (pa_cons (pv 1) pa_nil)) pa_nil)) (blkOk_by (N := ["_law_found", "_law_due_here", "_law_k"]) (sc := defScope sLawAlike) (own := [("_law_k", 2)]) (by decide +kernel))
          (fun s H C cl fp => pg_name (i := 2) scAl.nd rfl (Or.inl rfl)) (tt := tNot (tB (tCall (spAl T n) [] E0 (tCons (tOp (rIxT K) (tVar 0) (tVar 2)) (tCons (tOp (rIxT K) (tVar 1) (tVar 2)) tNil))))) (fun s H C cl fp => pts_one (pt_not (pt_val (pcl cA hr pass0 (pa_cons (pe_ix ix_tup (pv 0) (pv 2) (fun _ _ => rfl)) (pa_cons (pe_ix ix_tup (pv 1) (pv 2) (fun _ _ => rfl)) pa_nil))))))
          (fun s H C cl fp => pv 2)) (pe_lst pa_nil) (nomark _)))) pss_nil) <|
      pss_cons (ps_if (PW.pt (pw_or (pt_cmpR op_isN (pv 1) pe_non rfl) (pw_or1 (pt_val (p_isi X.isi (pv 1) (p_str X.str)))))) (pss_one (ps_ret (pe_and (pe_cmpR op_eq (pv 0) (pv 1) (nomark _)) (pe_one (pe_cmpR op_eq (p_isi X.isi (pv 0) (p_str X.str)) (p_isi X.isi (pv 1) (p_str X.str)) (nomark _)))))) pss_nil) <|
      pss_one (ps_ret (pe_and (p_isi X.isi (pv 0) (p_int X.int)) (pe_and (pe_cmpR op_eq (p_isi X.isi (pv 0) (p_bool X.bool)) (p_isi X.isi (pv 1) (p_bool X.bool)) (nomark _)) (pe_one (pe_cmpR op_eq (pv 0) (pv 1) (nomark _)))))), ?_⟩
    have hcase : (∃ s : Str, x = .str s ∧ y = .str s) ∨ (∃ i : Int, x = .int i ∧ y = .int i) ∨ ∃ m, n = m + 1 ∧ ∃ a b xs ys, x = .ref a ∧ y = .ref b ∧ H a = some (.tup xs) ∧ H b = some (.tup ys) ∧ xs.length ≤ 1000000 ∧ Paired (Al H m) xs ys := by
      cases n with
      | zero =>
        rcases hal with h | h
        · exact .inl h
        · exact .inr (.inl h)
      | succ m =>
        rcases hal with h | h | h
        · exact .inl h
        · exact .inr (.inl h)
        · exact .inr (.inr ⟨m, rfl, h⟩)
    rcases hcase with ⟨s, rfl, rfl⟩ | ⟨i, rfl, rfl⟩ | ⟨m, rfl, a, b, xs, ys, rfl, rfl, ha, hb, hlen, hP⟩
    · refine ⟨_, rfl, "str", .str s, fun H1 u1 => ⟨_, rfl, iteFf (by decide) ?_⟩⟩
      refine ⟨_, rfl, rfl, _, rfl, iteFf (decide_eq_false (fun z => by cases z)) ?_⟩
      refine ⟨_, rfl, _, _, _, _, true, rfl, .ty _, .base (.str _), kit_ty isi_ss, _, rfl, iteT ?_⟩
      refine ⟨_, rfl, _, rfl, rfl, _, rfl, iteTt (decide_eq_true rfl) ?_⟩
      refine ⟨_, rfl, _, _, _, _, true, rfl, .ty _, .base (.str _), kit_ty isi_ss, _, rfl, _, _, _, _, true, rfl, .ty _, .base (.str _), kit_ty isi_ss, rfl, ?_⟩
      rw [dec_bl]
      exact k H1 u1
    · refine ⟨_, rfl, "int", .int i, fun H1 u1 => ⟨_, rfl, iteFf (by decide) ?_⟩⟩
      refine ⟨_, rfl, rfl, _, rfl, iteFf (decide_eq_false (fun z => by cases z)) ?_⟩
      refine ⟨_, rfl, _, _, _, _, false, rfl, .ty _, .base (.int _), kit_ty isi_is, _, rfl, iteF ?_⟩
      refine ⟨_, rfl, _, _, _, _, true, rfl, .ty _, .base (.int _), kit_ty isi_ii, _, rfl, iteT ?_⟩
      refine ⟨_, rfl, _, _, _, _, false, rfl, .ty _, .base (.int _), kit_ty isi_ib, _, rfl, _, _, _, _, false, rfl, .ty _, .base (.int _), kit_ty isi_ib, rfl, _, rfl, iteTt (dec_bl _) ?_⟩
      refine ⟨_, rfl, _, rfl, rfl, ?_⟩
      rw [decide_eq_true rfl]
      exact k H1 u1
    · have hxy : xs.length = ys.length := Paired.length hP
      refine ⟨_, rfl, "tuple", .tup hb, fun H1 u1 => ⟨_, rfl, iteTt (by decide) ?_⟩⟩
      have ha1 := u1.tup noTup0 ha
      have hb1 := u1.tup noTup0 hb
      refine ⟨_, rfl, "tuple", .tup ha1, fun H2 u2 => ⟨_, rfl, iteFf (by decide) ?_⟩⟩
      have ha2 := u2.tup noTup0 ha1
      have hb2 := u2.tup noTup0 hb1
      have u12 := u1.trans u2
      refine ⟨_, rfl, _, _, _, _, false, rfl, .ty _, .base (.tup ha2), kit_ty isi_tl, _, rfl, _, _, _, _, false, rfl, .ty _, .base (.tup hb2), kit_ty isi_tl, rfl, _, rfl, iteFf (by rw [dec_bl]; rfl) ?_⟩
      refine ⟨_, rfl, a, xs, rfl, .inr (.inl (.inl ha2)), _, rfl, b, ys, rfl, .inr (.inl (.inl hb2)), rfl, _, rfl, iteFf (by rw [hxy, decide_eq_true rfl]; rfl) ?_⟩
      refine ⟨_, rfl, b, ys, rfl, .inr (.inl (.inl hb2)), (ys.length : Int), rfl, by omega, by omega, fun D hD => ?_⟩
      refine lc_range (fun i H' => Up T [] H2 H' ∧ H' D = some (.lst [])) ⟨.new hD, upd_same⟩ ?_ ?_
      · rintro i H3 hi ⟨u3, hD3⟩
        rw [Int.toNat_natCast] at hi
        obtain ⟨yv, hy⟩ : ∃ v, ys[i]? = some v := ⟨_, List.getElem?_eq_getElem hi⟩
        obtain ⟨xv, hx⟩ : ∃ v, xs[i]? = some v := ⟨_, List.getElem?_eq_getElem (by omega)⟩
        obtain ⟨y', hy', hal'⟩ := paired_get hP hx
        rw [hy] at hy'
        cases hy'
        rw [Int.zero_add]
        refine ⟨rfl, _, rfl, _, rfl, a, xs, i, xv, rfl, rfl, .inl (.inl (u3.tup noTup0 ha2)), atI_get hx, _, rfl, _, rfl, b, ys, i, yv, rfl, rfl, .inl (.inl (u3.tup noTup0 hb2)), atI_get hy, ?_⟩
        exact ⟨xv, yv, rfl, hal'.up (u12.trans u3), fun H4 u4 => ⟨_, rfl, iteF ⟨u3.trans u4, u4.keep _ _ (by simp) hD3 rfl⟩⟩⟩
      · rintro H3 ⟨u3, hD3⟩
        refine ⟨by show 0 ≤ sizeLine; decide, fun q hq => ?_⟩
        have w4 : Up T [] H3 (upd H3 q (.lst [])) := .new hq
        exact ⟨D, q, [], rfl, rfl, .inl (.inl (w4.keep _ _ (by simp) hD3 rfl)), .inl (.inl upd_same), k _ ((u12.trans u3).trans w4)⟩
end
end Dc
set_option Elab.async false
set_option linter.all false
set_option maxRecDepth 100000
set_option maxHeartbeats 4000000
namespace Dc
open PySem PySem.Spec PyProof.Rows L2 DcG
/-- isinstance(e, its own class), e the exception that the suite holds, with its dict -/
def rIsED (D a : Addr) (cls : Value) (d : Option Addr) : List V → Hp → VK → Prop := fun xs H Q => xs = [.ref a, .ref D] ∧ cls = .ref D ∧ (∃ dd fs, d = some dd ∧ H dd = some (.xd fs)) ∧ Q (.bl true) H
theorem call_isED {X : Cx} {a D : Addr} {cls : Value} {d : Option Addr} {oe : Obj} {pn : List (Addr × Obj)} (C : ExcC X.K D) (hk : PySem.W.kitOne X.K (.ref D) (.ref D) = some true) (hz : Zc cls d oe) (hf : ∃ vs, oe.data = .fields vs) : CallR (X.suite a ((a, oe) :: pn)) (.builtin "isinstance") (rIsED D a cls d) := by
  intro pins s σ H xs us Q I r h
  obtain ⟨rfl, rfl, ⟨dd, fs, rfl, hdd⟩, q⟩ := h
  cases r with
  | cons rx rr =>
    cases rr with
    | cons rt rr =>
      cases rr
      cases rx
      cases rt
      obtain ⟨ha, _⟩ := I.pin (a, oe) (List.mem_append.mpr (.inl List.mem_cons_self))
      obtain ⟨vs, hv⟩ := hf
      have hx : ObjOk X.prog X.w H s.heap dd (.xd fs) := I.hok dd _ hdd
      obtain ⟨mA, hns, hr⟩ := hx
      obtain ⟨od, ho, hl⟩ := lookIn_ns hns
      have J : PySem.W.InstAt s.heap a oe D (some od) := ⟨ha, hz.1, by unfold PySem.W.notCls; rw [hv] <;> rfl, by rw [hz.2]; exact ho⟩
      have hcl : (PySem.W.clsIn X.K D).isSome = true := by
        obtain ⟨cd, hc, _⟩ := PySem.W.any_some C.hd
        rw [hc]
        rfl
      exact PySem.W.kia_one (PySem.W.kitx_exc hcl C.hg C.hk C.hs C.ha C.hn C.ht C.hm) I.kIn J hk (fun z => nomatch z) fun tk => ⟨.bl true, H, I.kept (t' := tk) fun _ _ z => z, rfl, q⟩
section
variable {P : Program} {w : World} {K : PySem.W.Frag} {mg : Str → Option Value} {base : Heap} {T : TT} {CI CR : Addr}
theorem scTold : FnScope ["_law_text_here", "e"] ["_law_text_here"] (defScope sLawTold) := ⟨rfl, rfl, rfl, by decide +kernel, rfl, by decide +kernel, by decide +kernel⟩
theorem ok_told {f : Addr} {fd : FuncData} (F : FnP K "_law_told" "_law_told" sLawTold f fd) (X : Txt K mg) (I : ItC P w K mg base CI) (C : ExcC K CI) (hkit : PySem.W.kitOne K (.ref CI) (.ref CI) = some true) (mR : mg "RoomError" = some (.ref CR)) (hex : PySem.W.exmOne K (.ref CI) (.ref CR) = some true)
    (cRd : CalD P w K mg base (L2.CX P w) 15 "read_book" ["text"] (spRead T CI)) : FnOk P w K mg base CX0 16 f fd ["_law_text_here"] (spDue T) := by
  refine F.ok scTold (fun vs H Q E h => ?_) (fun cdv A outer s H vs Q E hr h => ?_)
  · obtain ⟨z, rfl, _⟩ := h
    rfl
  · obtain ⟨z, rfl, hz, hT, kerr, kok⟩ := h
    obtain ⟨fR, fdR, FR, hmR, hkR, hbR⟩ := cRd.ex
    refine ⟨_, pss_one (ps_try_as (Wout := fun _ _ _ _ => False) rfl rfl scTold.nd (i := 1) rfl rfl ⟨by rfl, by decide, .inl mR⟩ (fun u s' ⟨_, _, _, _, _, _, _, _, _, _, _, _, _, _, _, _, w⟩ => w.elim)
      (fun W pn xe tk po => pss_one (ps_ret (pe_tup (pa_cons pe_str (pa_cons (pe_callS FR hr (by rfl) hmR hkR hbR (fun σ => passAt tk σ) (pa_cons (pv 0) pa_nil)) pa_nil)))))
      (fun a oe cls d pn hzc hf => pss_one (ps_ret (pe_ifExp (pt_val (pe_callB (call_isED C hkit hzc hf) (by rfl) X.isi b_isi (pa_cons (pv 1) (pa_cons (pe_glob (v := .ref CI) (by rfl) I.mgI rfl) pa_nil)))) (pe_tup (pa_cons pe_str (pa_cons (pe_xf I.x I.pl hzc hf (pv 1)) pa_nil))) (pe_tup (pa_cons pe_str (pa_cons pe_int pa_nil))))))), ?_⟩
    have e24 : 1000000 ≤ sizeLine := by decide
    have two : (2 : Nat) ≤ sizeLine := by decide
    refine ⟨_, rfl, z, rfl, by omega, hT, ?_⟩
    cases h : readM (zl z) with
    | error e =>
      intro d H' u hd
      refine ⟨true, hex, fun _ a ha => ?_, fun z => by cases z⟩
      refine ⟨_, rfl, rfl, rfl, ⟨d, _, rfl, hd⟩, _, rfl, iteT ?_⟩
      exact ⟨_, rfl, rfl, rfl, d, _, _, rfl, hd, rfl, two, fun q hq => kerr e h _ q (u.trans (.new hq)) upd_same⟩
    | ok fs =>
      intro H' u v hb hfit
      exact ⟨two, fun q hq => kok fs h _ q v (u.trans (.new hq)) upd_same (hb.up (T := T) (ex := []) (.new hq) noTup0)⟩
end
end Dc
set_option Elab.async false
set_option linter.all false
set_option maxRecDepth 100000
set_option maxHeartbeats 4000000
namespace Dc
open PySem PySem.Spec PyProof.Rows L2 DcG
/-! ### rules -/
theorem pst_set {X : Cx} {i : Nat} {x : Str} {e : Expr} {te : TE} {pos pos' : Pos} (hN : X.N.Nodup) (hi : X.N[i]? = some x) (hx : Loc X.env.scope x) (he : PET X e te) (hs : swapsWith e (some (.Name x pos')) pos.line X.env = pure false := by rfl) (hf : X.fn x = true ∨ X.env.scope.names.lookup x = some .local := by first | exact .inl rfl | exact .inr rfl | assumption) :
    PST X (.Assign [.Name x pos'] e pos) (tAsg te (gName i)) := by
  intro pins s σ H D h0 I h
  refine wpAny_Assign_Name (thn (he pins s σ H _ h0 I h) fun v s1 ⟨y, H1, I1, r1, q1⟩ => ?_) hs
  exact store_ok I1 hN hi hx r1 (fun s2 I2 => ⟨_, H1, I2, q1⟩) hf
theorem pe_opT {X : Cx} {op : Operator} {r : R2} {y : Str} {j : Nat} {f : Expr} {tf : TE} {p1 pos : Pos} (ho : OpR X (binaryOp op) r) (hf : PET X f tf) : PE X (.BinOp (.Constant (.str y) j p1) op f pos) (tOp r (tC (.str y)) tf) := by
  refine ⟨fun pins s σ H Q I h => ?_⟩
  refine wpAny_BinOp (Calls.Constant_str ?_)
  exact thn (hf pins { s with toks := s.toks + 1 } σ H _ (by show 1 ≤ s.toks + 1; omega) (I.tok _) h) fun u s2 ⟨y2, H2, I2, r2, q2⟩ => ho pins s2 σ H2 (.str y) y2 _ u Q I2 ⟨_, rfl⟩ r2 q2
theorem FunD_okT {P : Program} {w : World} {K : PySem.W.Frag} {mg : Str → Option Value} {base : Heap} {x qual : Str} {params : Arguments} {body : List Stmt} {scope : Scope} {dvs : List V} {kws : List (Str × V)} {f : Addr} {fd : FuncData} {CX : CXT} {N ps : List Str} {k : Nat} {sp : Sp}
    (F : FunD K x qual params body scope dvs kws f fd) (S : FnScope N ps scope) (hnc : ∀ y ∈ scope.names, y.2 ≠ .cell) (hps : 1 ≤ ps.length) (len : ∀ vs H Q E, sp vs H Q E → vs.length = ps.length)
    (hbody : ∀ (cdv : Value) (A : Around) (outer : List Env) (s : Shared) (H : Hp) (vs : List V) (Q : VK) (E : XK), Room k (A.deeper (envOfC qual scope s.heap.objs.size f cdv)) → sp vs H Q E →
      ∃ t, PSsT (cxOf CX P w K mg base N qual scope f cdv A outer s H E) body t ∧ t { nx := fun _ H' => Q .non H', rt := Q } (start N vs) H) : FnOk P w K mg base CX (k + 1) f fd ps sp := by
  obtain ⟨oc, od, dV, kV, doc, pm, an, cdv, ct, osl, rfl, lk, hcd, _, _⟩ := F.ex
  exact fn_ofT lk hcd S hnc hps len fun A outer s H vs Q E hr hsp => hbody cdv A outer s H vs Q E hr hsp
section
variable {P : Program} {w : World} {K : PySem.W.Frag} {mg : Str → Option Value} {base : Heap} {T : TT}
/-! ### alike data -/
theorem Al.mono {H : Hp} : ∀ {n : Nat} {x y : V}, Al H n x y → Al H (n + 1) x y
  | 0, _, _, h => by
    rcases h with h | h
    · exact .inl h
    · exact .inr (.inl h)
  | n + 1, _, _, h => by
    rcases h with h | h | ⟨a, b, xs, ys, h1, h2, h3, h4, h5, h6⟩
    · exact .inl h
    · exact .inr (.inl h)
    · exact .inr (.inr ⟨a, b, xs, ys, h1, h2, h3, h4, h5, L2.Paired.mapP h6 fun _ _ q => q.mono⟩)
theorem Al.s {H : Hp} {n : Nat} (s : Str) : Al H n (.str s) (.str s) := by
  cases n with
  | zero => exact .inl ⟨s, rfl, rfl⟩
  | succ n => exact .inl ⟨s, rfl, rfl⟩
theorem Al.i {H : Hp} {n : Nat} (i : Int) : Al H n (.int i) (.int i) := by
  cases n with
  | zero => exact .inr ⟨i, rfl, rfl⟩
  | succ n => exact .inr (.inl ⟨i, rfl, rfl⟩)
theorem Al.t {H : Hp} {n : Nat} {a b : Addr} {xs ys : List V} (h3 : H a = some (.tup xs)) (h4 : H b = some (.tup ys)) (h5 : xs.length ≤ 1000000) (h6 : Paired (Al H n) xs ys) : Al H (n + 1) (.ref a) (.ref b) := .inr (.inr ⟨a, b, xs, ys, rfl, rfl, h3, h4, h5, h6⟩)
theorem paired_two {δ : Type} {R E : V → V → Prop} {S : V → δ → Prop} : ∀ {xs ys : List V} {ds : List δ}, Paired S xs ds → Paired S ys ds → (∀ d ∈ ds, ∀ x y, S x d → S y d → E x y) → Paired E xs ys
  | [], [], _, _, _, _ => .nil
  | [], _ :: _, [], _, h, _ => by cases h
  | _ :: _, [], [], h, _, _ => by cases h
  | [], _, _ :: _, h, _, _ => by cases h
  | _, [], _ :: _, _, h, _ => by cases h
  | _ :: _, _ :: _, _ :: _, .cons h1 r1, .cons h2 r2, k => .cons (k _ List.mem_cons_self _ _ h1 h2) (paired_two (R := R) r1 r2 fun d hd => k d (List.mem_cons_of_mem _ hd))
section
variable {H : Hp}
theorem al_g {g : G} {x y : V} (h1 : GAt H x g) (h2 : GAt H y g) : Al H 1 x y := by
  cases g with
  | below c =>
    obtain ⟨a, rfl, ha⟩ := h1
    obtain ⟨b, rfl, hb⟩ := h2
    exact .t ha hb (by show 2 ≤ 1000000; omega) (.cons (.s _) (.cons (.i _) .nil))
  | frm c =>
    obtain ⟨a, rfl, ha⟩ := h1
    obtain ⟨b, rfl, hb⟩ := h2
    exact .t ha hb (by show 2 ≤ 1000000; omega) (.cons (.s _) (.cons (.i _) .nil))
  | rest m r =>
    obtain ⟨a, rfl, ha⟩ := h1
    obtain ⟨b, rfl, hb⟩ := h2
    exact .t ha hb (by show 3 ≤ 1000000; omega) (.cons (.s _) (.cons (.i _) (.cons (.i _) .nil)))
theorem al_row {r : Row} {x y : V} (hs : RowSm r) (h1 : RowAt H x r) (h2 : RowAt H y r) : Al H 3 x y := by
  obtain ⟨a, g, m, gs, rfl, ha, hg, hgs, ma, rfl, hm⟩ := h1
  obtain ⟨b, g', m', gs', rfl, hb, hg', hgs', mb, rfl, hm'⟩ := h2
  have hl : gs.length = r.gs.length := Paired.length hgs
  have hl3 := hs.2.1
  have e1 : Al H 2 (.ref g) (.ref g') := .t hg hg' (by omega) (paired_two (R := Al H 1) hgs hgs' fun d _ x y q1 q2 => al_g q1 q2)
  have e2 : Al H 1 (.ref ma) (.ref mb) := .t hm hm' (by show 2 ≤ 1000000; omega) (.cons (.s _) (.cons (.i _) .nil))
  exact .t ha hb (by show 4 ≤ 1000000; omega) (.cons e1 (.cons (.s _) (.cons (.s _) (.cons e2.mono .nil))))
theorem al_fn {f : Fn} {x y : V} (hs : FnSm f) (h1 : FnAt H x f) (h2 : FnAt H y f) : Al H 5 x y := by
  obtain ⟨a, g, rs, rfl, ha, hg, hrs⟩ := h1
  obtain ⟨b, g', rs', rfl, hb, hg', hrs'⟩ := h2
  have hl : rs.length = f.rows.length := Paired.length hrs
  have hl6 := hs.2.2.1
  have e1 : Al H 4 (.ref g) (.ref g') := .t hg hg' (by omega) (paired_two (R := Al H 3) hrs hrs' fun d hd x y q1 q2 => al_row (hs.2.2.2 d hd) q1 q2)
  exact .t ha hb (by show 3 ≤ 1000000; omega) (.cons (.s _) (.cons (.i _) (.cons e1 .nil)))
theorem al_book {fs : List Fn} {x y : V} (hs : BookSm fs) (h1 : BookAt H x fs) (h2 : BookAt H y fs) : Al H 6 x y := by
  obtain ⟨a, vs, rfl, ha, hvs⟩ := h1
  obtain ⟨b, vs', rfl, hb, hvs'⟩ := h2
  have hl : vs.length = fs.length := Paired.length hvs
  have hl4 := hs.1
  exact .t ha hb (by omega) (paired_two (R := Al H 5) hvs hvs' fun d hd x y q1 q2 => al_fn (hs.2 d hd) q1 q2)
end
theorem readM_ok {l : List Nat} {fs : List Fn} (h : readM l = .ok fs) : isBook fs = true := by
  unfold readM at h
  split at h
  · cases h
  · split at h
    · rename_i hb
      cases h
      exact hb
    · cases h
/-- one text: what is told is due -/
theorem each_ok {σ : L2.St} {H : Hp} {Q : Bool → Hp → Prop} {e : Str} (e10 : σ[10]? = some (some (.str e))) (hl : e.length ≤ 1000000) (hT : Tabs T H) (k : ∀ H', Up T [] H H' → Q false H') :
    (tNot (tB (tCall (spAl T 8) [] E0 (tCons (tCall (spDue T) [] E0 (tCons (tVar 10) tNil)) (tCons (tCall (spDue T) [] E0 (tCons (tVar 10) tNil)) tNil))))) σ H Q := by
  refine ⟨_, e10, e, rfl, hl, hT, fun er he H1 p u1 hp => ?_, fun fs he H1 p v u1 hp hv => ?_⟩
  · refine ⟨_, e10, e, rfl, hl, u1.tabs hT, fun er2 he2 H2 p2 u2 hp2 => ?_, fun fs he2 => by rw [he] at he2; cases he2⟩
    rw [he] at he2
    cases he2
    refine ⟨.ref p, .ref p2, rfl, .t (u2.tup noTup0 hp) hp2 (by show 2 ≤ 1000000; omega) (.cons (.s _) (.cons (.i _) .nil)), fun H3 u3 => ⟨_, rfl, k H3 ((u1.trans u2).trans u3)⟩⟩
  · refine ⟨_, e10, e, rfl, hl, u1.tabs hT, fun er2 he2 => (by rw [he] at he2; cases he2), fun fs2 he2 H2 p2 v2 u2 hp2 hv2 => ?_⟩
    rw [he] at he2
    cases he2
    have hsm := isBook_sm (readM_ok he)
    exact ⟨.ref p, .ref p2, rfl, .t (u2.tup noTup0 hp) hp2 (by show 2 ≤ 1000000; omega) (.cons (.s _) (.cons (al_book hsm (hv.up u2 noTup0) hv2) .nil)), fun H3 u3 => ⟨_, rfl, k H3 ((u1.trans u2).trans u3)⟩⟩
theorem each_step {σ : L2.St} {H : Hp} {D : Ends} {es : Str} (hσ : 10 < σ.length) (hes : es.length ≤ 1000000) (hT : Tabs T H) (k : ∀ H', Up T [] H H' → D.nx (σ.set 10 (some (.str es))) H') :
    gName 10 (.str es) σ H fun σ2 H2 => tIfS (tNot (tB (tCall (spAl T 8) [] E0 (tCons (tCall (spDue T) [] E0 (tCons (tVar 10) tNil)) (tCons (tCall (spDue T) [] E0 (tCons (tVar 10) tNil)) tNil))))) (tRet (tC (.bl false))) tNext D σ2 H2 := by
  have q := each_ok (T := T) (σ := σ.set 10 (some (.str es))) (H := H) (e := es) (Q := fun b H1 => if b = true then tRet (tC (.bl false)) D (σ.set 10 (some (.str es))) H1 else tNext D (σ.set 10 (some (.str es))) H1) (by rw [List.getElem?_set]; simp [hσ]) hes hT fun H' u => iteF (k H' u)
  exact q
def okS : V → Bool
  | .str e => decide (e.length ≤ 1000000)
  | _ => false
theorem okS_of {v : V} (h : okS v = true) : ∃ e, v = .str e ∧ e.length ≤ 1000000 := by
  cases v with
  | str e => exact ⟨e, rfl, of_decide_eq_true h⟩
  | _ => cases h
theorem join_len (a : Str) : ∀ ys : List Str, (Str.join a ys).length ≤ (ys.map (·.length)).sum + ys.length * a.length
  | [] => Nat.zero_le _
  | [x] => by
    show x.length ≤ _
    rw [List.map_cons, List.sum_cons]
    omega
  | x :: y :: r => by
    have ih := join_len a (y :: r)
    show (x ++ a ++ Str.join a (y :: r)).length ≤ _
    rw [len_app, len_app, List.map_cons, List.sum_cons, List.length_cons, Nat.add_mul]
    omega
theorem bookT_le {fs : List Fn} (h : BookSm fs) : (bookT fs).length ≤ 1832 := by
  obtain ⟨q1, q2⟩ := bookT_len h
  have s2 : ("; " : Str).length = 2 := by decide +kernel
  unfold bookT
  rw [TL.join_eq]
  have := join_len "; " (fs.map fnT)
  rw [s2] at this
  omega
abbrev rA : List V := [.str "", .str " ", .str "f", .str "f 1", .str "f 01", .str "f 1 1", .str "f 1:", .str "f 1: call f 1 if", .str "f 21", .str "f 1;", .str "f 1; f 2"]
abbrev rB : List V := [.str "f 1: call g 1", .str "f1", .str "f 1a", .str "1", .str "f 1: calls f 1", .str "f 1: call f 1 and n < 2"]
abbrev rC : List V := [.str "f 1: call f 1 if n < 2 if n < 3", .str "f 1: call f 1 if n > 2", .str "f 1: call f 1 if m < 2"]
abbrev rD : List V := [.str "f 1: call f 1 if n mod 2 1", .str "f 1234567", .str "f 1: call f -1, tail f-1 if n>=2"]
theorem rows_ok : (rA ++ rB ++ rC ++ rD).all okS = true := by decide +kernel
/-! ### law -/
abbrev nLw : List Str := ["_law_script", "_law_row", "_law_book_here", "_law_plain", "_law_tight", "_law_turn", "_law_text_here", "_law_at", "_law_sign", "_law_some", "_law_each", "_law_each_row"]
def spLaw (T : TT) (K : PySem.W.Frag) : Sp := fun vs H Q _ => ∃ (a : Addr) (ns : List Int), vs = [.ref a] ∧ SqL K H a (ns.map V.int) ∧ Tabs T H ∧ ∀ H', Q (.bl true) H'
theorem scLw : FnScope nLw ["_law_script"] (defScope sLaw) := ⟨rfl, rfl, rfl, by decide +kernel, rfl, by decide +kernel, by decide +kernel⟩
theorem ok_law {f : Addr} {fd : FuncData} (F : FnP K "law" "law" sLaw f fd) (X : Txt K mg)
    (cBk : CalD P w K mg base CX0 3 "_law_book" ["_law_row", "_law_is_plain"] (spLBook T K)) (cTx : CalD P w K mg base CX0 1 "_law_text" ["_law_book_here"] (spLT T)) (cW : CalD P w K mg base CX0 16 "write_book" ["book"] (spWB T)) (cA : CalD P w K mg base CX0 8 "_law_alike" ["_law_found", "_law_due_here"] (spAl T 8))
    (cP : CalD P w K mg base CX0 2 "_law_pick" ["_law_row", "_law_things"] (spPick T K)) (cT : CalD P w K mg base CX0 1 "_law_taken" ["_law_row", "_law_many"] (spTaken T K)) (cTd : CalD P w K mg base CX0 16 "_law_told" ["_law_text_here"] (spDue T)) (cD : CalD P w K mg base CX0 15 "_law_due" ["_law_text_here"] (spDue T)) :
    FnOk P w K mg base CX0 17 f fd ["_law_script"] (spLaw T K) := by
  refine FunD_okT F scLw (by decide +kernel) (by decide) (fun vs H Q E h => ?_) (fun cdv A outer s H vs Q E hr h => ?_)
  · obtain ⟨a, ns, rfl, _⟩ := h
    rfl
  · obtain ⟨sa, ns, rfl, hs, hT, k⟩ := h
    have hr1 : Room 1 _ := hr.mono (by decide)
    have hr2 : Room 2 _ := hr.mono (by decide)
    have hr3 : Room 3 _ := hr.mono (by decide)
    have hr8 : Room 8 _ := hr.mono (by decide)
    have hr15 : Room 15 _ := hr.mono (by decide)
    refine ⟨_,
      psst_cons (PST.of (ps_set (i := 1) scLw.nd rfl (Or.inl rfl) (pe_lst (pa_cons (pv 0) (pa_cons pe_int (pa_cons pe_int (pa_cons pe_int pa_nil))))))) <|
      psst_cons (PST.of (ps_set (i := 2) scLw.nd rfl (Or.inl rfl) (pcl cBk hr3 pass0 (pa_cons (pv 1) (pa_cons pe_bl pa_nil))))) <|
      psst_cons (PST.of (ps_set (i := 3) scLw.nd rfl (Or.inl rfl) (pcl cTx hr1 pass0 (pa_cons (pv 2) pa_nil)))) <|
      psst_cons (PST.of (ps_if (pt_not (pt_val (pcl cA hr8 pass0 (pa_cons (pcl cW hr pass0 (pa_cons (pv 2) pa_nil)) (pa_cons (pv 3) pa_nil))))) (pss_one (ps_ret pe_bl)) pss_nil)) <|
      psst_cons (pst_set (i := 4) scLw.nd rfl (Or.inl rfl) (CwR.pet_replT (CwR.pet_replT (CwR.pet_replT (CwR.pet_replT (CwR.pet_replT (CwR.pet_replT (CwR.pet_replC (pv 3)))))))) rfl) <| PSsT.of <|
      pss_cons (ps_for (passes_of rfl) rfl (pi_range1 (by rfl) X.range (pa_cons pe_int pa_nil)) (pg_name (i := 5) scLw.nd rfl (Or.inl rfl)) <|
        pss_cons (ps_set (i := 6) scLw.nd rfl (Or.inl rfl) (pcl cP hr2 pass0 (pa_cons (pv 1) (pa_cons (pe_lst (pa_cons (pv 3) (pa_cons (pv 4) (pa_cons (pe_op op_add_str (pe_opT op_add_str (CwR.pet_replC (pv 3))) pe_str) pa_nil)))) pa_nil)))) <|
        pss_cons (ps_par (i := 7) (j := 8) rfl scLw.nd rfl rfl (by decide) rfl rfl (pa_cons (pcl cT hr1 pass0 (pa_cons (pv 1) (pa_cons (pe_op op_add (pe_callB call_len_str (by rfl) X.len b_len (pa_cons (pv 6) pa_nil)) pe_int) pa_nil))) (pa_cons (pcl cP hr2 pass0 (pa_cons (pv 1) (pa_cons pe_str pa_nil))) pa_nil)) rfl) <|
        pss_cons (ps_set (i := 9) scLw.nd rfl (Or.inl rfl) (pe_lst (pa_cons (pv 6) (pa_cons (pe_slice sl_str (pv 6) po_none (po_some (pv 7))) (pa_cons (pe_op op_add_str (pe_op op_add_str (pe_slice sl_str (pv 6) po_none (po_some (pv 7))) (pv 8)) (pe_slice sl_str (pv 6) (po_some (pv 7)) po_none))
          (pa_cons (pe_op op_add_str (pe_slice sl_str (pv 6) po_none (po_some (pv 7))) (pe_slice sl_str (pv 6) (po_some (pe_op op_add (pv 7) pe_int)) po_none)) (pa_cons (pe_op op_add_str (pe_op op_add_str (pe_slice sl_str (pv 6) po_none (po_some (pv 7))) (pv 8)) (pe_slice sl_str (pv 6) (po_some (pe_op op_add (pv 7) pe_int)) po_none)) pa_nil))))))) <|
        pss_one (ps_for (passes_of rfl) rfl (pi_list (pv 9)) (pg_name (i := 10) scLw.nd rfl (Or.inl rfl)) <|
          pss_one (ps_if (pt_not (pt_val (pcl cA hr8 pass0 (pa_cons (pcl cTd hr pass0 (pa_cons (pv 10) pa_nil)) (pa_cons (pcl cD hr15 pass0 (pa_cons (pv 10) pa_nil)) pa_nil))))) (pss_one (ps_ret pe_bl)) pss_nil))) <|
      pss_cons (ps_set (i := 11) scLw.nd rfl (Or.inl rfl) (pe_lst (pa_cons pe_str (pa_cons pe_str (pa_cons pe_str (pa_cons pe_str (pa_cons pe_str (pa_cons pe_str (pa_cons pe_str (pa_cons pe_str (pa_cons pe_str (pa_cons pe_str (pa_cons pe_str pa_nil))))))))))))) <|
      pss_cons (ps_set (i := 11) scLw.nd rfl (Or.inl rfl) (pe_op op_cat (pv 11) (pe_lst (pa_cons pe_str (pa_cons pe_str (pa_cons pe_str (pa_cons pe_str (pa_cons pe_str (pa_cons pe_str pa_nil))))))))) <|
      pss_cons (ps_set (i := 11) scLw.nd rfl (Or.inl rfl) (pe_op op_cat (pv 11) (pe_lst (pa_cons pe_str (pa_cons pe_str (pa_cons pe_str pa_nil)))))) <|
      pss_cons (ps_set (i := 11) scLw.nd rfl (Or.inl rfl) (pe_op op_cat (pv 11) (pe_lst (pa_cons pe_str (pa_cons pe_str (pa_cons pe_str pa_nil)))))) <|
      pss_cons (ps_for (passes_of rfl) rfl (pi_list (pv 11)) (pg_name (i := 10) scLw.nd rfl (Or.inl rfl)) <|
          pss_one (ps_if (pt_not (pt_val (pcl cA hr8 pass0 (pa_cons (pcl cTd hr pass0 (pa_cons (pv 10) pa_nil)) (pa_cons (pcl cD hr15 pass0 (pa_cons (pv 10) pa_nil)) pa_nil))))) (pss_one (ps_ret pe_bl)) pss_nil)) <|
      pss_one (ps_ret pe_bl), ?_⟩
    have e24 : 1000000 ≤ sizeLine := by decide
    refine ⟨_, rfl, by show 4 ≤ sizeLine; decide, fun ra hra => ?_⟩
    have u1 : Up T [] H (upd H ra (.lst [.ref sa, .int 0, .int 14113, .int 0])) := .new hra
    have l1 : LR K (ns, sa) ra (upd H ra (.lst [.ref sa, .int 0, .int 14113, .int 0])) := by
      refine ⟨0, 14113, 0, upd_same, sqL_up u1 hs (by simp), ?_, by omega, by omega, by omega⟩
      rcases hs with hs | hs
      · left
        intro z
        rcases hs with hs | ⟨o, hs⟩ <;> rw [show sa = ra from z, hra] at hs <;> cases hs
      · exact .inr fun H' => .inr hs
    generalize (upd H ra (.lst [.ref sa, .int 0, .int 14113, .int 0])) = H1 at u1 l1 ⊢
    refine ⟨_, rfl, ra, (ns, sa), rfl, l1, fun H2 bv fs u2 l2 hb hib => ?_⟩
    have hsm := isBook_sm hib
    have u02 : Up T [ra] H H2 := u1.wide.trans u2
    refine ⟨_, rfl, bv, fs, rfl, hb, hsm, fun H3 u3 => ?_⟩
    have hb3 := hb.up u3 noTup0
    have hfit : BookFits fs := fun f hf => by
      have q := hsm.2 f hf
      exact ⟨by have := q.1; omega, fun r hr => by have := (q.2.2.2 r hr).2.2.2.1; omega⟩
    have u03 : Up T [ra] H H3 := u02.trans u3.wide
    refine ⟨_, rfl, bv, fs, rfl, hb3, hfit, hib, u03.tabs hT, fun H4 u4 => ?_⟩
    refine ⟨_, rfl, .str (bookT fs), .str (bookT fs), rfl, .s _, fun H5 u5 => ⟨_, rfl, iteF ?_⟩⟩
    have u05 : Up T [ra] H H5 := u03.trans (u4.trans u5).wide
    have l5 : LR K (ns, sa) ra H5 := l2.up0 ((u3.trans u4).trans u5)
    have hP := bookT_le hsm
    generalize bookT fs = pl at hP ⊢
    have z1 : (":" : Str).length = 1 := by decide +kernel
    have z2 : (";" : Str).length = 1 := by decide +kernel
    have z3 : ("," : Str).length = 1 := by decide +kernel
    have z4 : ("-" : Str).length = 1 := by decide +kernel
    have z5 : ("<" : Str).length = 1 := by decide +kernel
    have z6 : (">=" : Str).length = 2 := by decide +kernel
    have z7 : ("=" : Str).length = 1 := by decide +kernel
    have z8 : ("  " : Str).length = 2 := by decide +kernel
    have z9 : (" " : Str).length = 1 := by decide +kernel
    have b1 := TK.replace_len pl ": " ":"
    rw [z1] at b1
    refine ⟨_, rfl, pl, rfl, by rw [z1]; omega, ?_⟩
    generalize Txt.replace pl ": " ":" = r1 at b1 ⊢
    have b2 := TK.replace_len r1 "; " ";"
    rw [z2] at b2
    refine ⟨r1, rfl, by rw [z2]; omega, ?_⟩
    generalize Txt.replace r1 "; " ";" = r2 at b2 ⊢
    have b3 := TK.replace_len r2 ", " ","
    rw [z3] at b3
    refine ⟨r2, rfl, by rw [z3]; omega, ?_⟩
    generalize Txt.replace r2 ", " "," = r3 at b3 ⊢
    have b4 := TK.replace_len r3 " - " "-"
    rw [z4] at b4
    refine ⟨r3, rfl, by rw [z4]; omega, ?_⟩
    generalize Txt.replace r3 " - " "-" = r4 at b4 ⊢
    have b5 := TK.replace_len r4 " < " "<"
    rw [z5] at b5
    refine ⟨r4, rfl, by rw [z5]; omega, ?_⟩
    generalize Txt.replace r4 " < " "<" = r5 at b5 ⊢
    have b6 := TK.replace_len r5 " >= " ">="
    rw [z6] at b6
    refine ⟨r5, rfl, by rw [z6]; omega, ?_⟩
    generalize Txt.replace r5 " >= " ">=" = r6 at b6 ⊢
    have b7 := TK.replace_len r6 " = " "="
    rw [z7] at b7
    refine ⟨r6, rfl, by rw [z7]; omega, ?_⟩
    generalize Txt.replace r6 " = " "=" = tg at b7 ⊢
    have htg : tg.length ≤ 400000 := by omega
    clear b1 b2 b3 b4 b5 b6 b7
    refine ⟨6, rfl, by omega, by omega, ?_⟩
    refine for_range (fun n σ H' => (∃ x5 x6 x7 x8 x9 x10 x11, σ = [some (.ref sa), some (.ref ra), some bv, some (.str pl), some (.str tg), x5, x6, x7, x8, x9, x10, x11]) ∧ Up T [ra] H H' ∧ LR K (ns, sa) ra H') ⟨⟨_, _, _, _, _, _, _, rfl⟩, u05, l5⟩ ?_ ?_
    · rintro n σ H6 hn ⟨⟨x5, x6, x7, x8, x9, x10, x11, rfl⟩, u6, l6⟩
      have bw := TK.replace_len pl " " "  "
      rw [z8] at bw
      refine ⟨_, rfl, _, rfl, _, rfl, _, rfl, pl, rfl, by rw [z8]; omega, _, _, rfl, rfl, by rw [z8]; omega, _, _, rfl, rfl, by rw [len_app, z8, z9]; omega, by show 3 ≤ sizeLine; decide, fun q hq => ?_⟩
      have w7 : Up T [] H6 (upd H6 q (.lst [.str pl, .str tg, .str ("  " ++ Txt.replace pl " " "  " ++ " ")])) := .new hq
      have hq7 : (upd H6 q (.lst [.str pl, .str tg, .str ("  " ++ Txt.replace pl " " "  " ++ " ")])) q = some (.lst [.str pl, .str tg, .str ("  " ++ Txt.replace pl " " "  " ++ " ")]) := upd_same
      have l7 := l6.up0 w7
      generalize (upd H6 q (.lst [.str pl, .str tg, .str ("  " ++ Txt.replace pl " " "  " ++ " ")])) = H7 at w7 hq7 l7 ⊢
      refine ⟨ra, .ref q, (ns, sa), 3, rfl, l7, by omega, by omega, .inl ⟨_, .inl (.inl hq7), rfl⟩, .inl ⟨q, _, rfl, .inl (.inl hq7), l6.ne hq, rfl, fun H8 tv u8 l8 htv => ?_⟩⟩
      obtain ⟨t, rfl, ht⟩ : ∃ t, tv = .str t ∧ t.length ≤ 400000 := by
        simp only [List.mem_cons, List.not_mem_nil, or_false] at htv
        rcases htv with rfl | rfl | rfl
        · exact ⟨_, rfl, by omega⟩
        · exact ⟨_, rfl, by omega⟩
        · refine ⟨_, rfl, ?_⟩
          rw [len_app, len_app, z8, z9]
          omega
      refine ⟨_, rfl, _, rfl, t, rfl, by omega, t.length, 1, rfl, rfl, ra, (t.length : Int) + 1, (ns, sa), rfl, l8, by omega, by omega, fun H9 at_ u9 l9 a0 a1 => ?_⟩
      refine ⟨_, rfl, ra, .str "fgncit0159 :;,-<>=x", (ns, sa), ("fgncit0159 :;,-<>=x" : Str).length, rfl, l9, by decide +kernel, by decide +kernel, ⟨by decide +kernel, rfl⟩, .inr ⟨_, rfl, rfl, fun H10 c u10 l10 _ => ⟨_, _, rfl, ?_⟩⟩⟩
      have c1 : (⟨#[c]⟩ : Str).length = 1 := rfl
      have s0 := cutS_length t none (some at_)
      have s1 := cutS_length t (some at_) none
      have s2 := cutS_length t (some (at_ + 1)) none
      refine ⟨_, rfl, _, rfl, _, rfl, _, rfl, t, rfl, by omega, _, rfl, _, rfl, _, rfl, t, rfl, by omega, _, rfl, _, _, rfl, rfl, by omega, _, rfl, _, rfl, _, rfl, t, rfl, by omega, _, _, rfl, rfl, by rw [len_app]; omega, ?_⟩
      refine ⟨_, rfl, _, rfl, _, rfl, t, rfl, by omega, _, rfl, _, rfl, at_, 1, rfl, rfl, _, rfl, t, rfl, by omega, _, _, rfl, rfl, by omega, ?_⟩
      refine ⟨_, rfl, _, rfl, _, rfl, t, rfl, by omega, _, rfl, _, _, rfl, rfl, by omega, _, rfl, _, rfl, at_, 1, rfl, rfl, _, rfl, t, rfl, by omega, _, _, rfl, rfl, by rw [len_app]; omega, by show 5 ≤ sizeLine; decide, fun L hL => ?_⟩
      generalize hxs : [V.str t, .str (cutS t none (some at_)), .str (cutS t none (some at_) ++ ⟨#[c]⟩ ++ cutS t (some at_) none), .str (cutS t none (some at_) ++ cutS t (some (at_ + 1)) none), .str (cutS t none (some at_) ++ ⟨#[c]⟩ ++ cutS t (some (at_ + 1)) none)] = xs
      have hok : ∀ v ∈ xs, ∃ e, v = .str e ∧ e.length ≤ 1000000 := by
        subst hxs
        intro v hv
        simp only [List.mem_cons, List.not_mem_nil, or_false] at hv
        rcases hv with rfl | rfl | rfl | rfl | rfl
        · exact ⟨_, rfl, by omega⟩
        · exact ⟨_, rfl, by omega⟩
        · exact ⟨_, rfl, by rw [len_app, len_app]; omega⟩
        · exact ⟨_, rfl, by rw [len_app]; omega⟩
        · exact ⟨_, rfl, by rw [len_app, len_app]; omega⟩
      have w11 : Up T [] H10 (upd H10 L (.lst xs)) := .new hL
      have hL11 : (upd H10 L (.lst xs)) L = some (.lst xs) := upd_same
      have l11 := l10.up0 w11
      have hLa := l10.ne hL
      have u11 : Up T [ra] H (upd H10 L (.lst xs)) := ((((u6.trans w7.wide).trans u8).trans u9).trans u10).trans w11.wide
      subst hxs
      generalize (upd H10 L (.lst _)) = H11 at hL11 l11 u11 ⊢
      generalize hxs : [V.str t, .str (cutS t none (some at_)), .str (cutS t none (some at_) ++ ⟨#[c]⟩ ++ cutS t (some at_) none), .str (cutS t none (some at_) ++ cutS t (some (at_ + 1)) none), .str (cutS t none (some at_) ++ ⟨#[c]⟩ ++ cutS t (some (at_ + 1)) none)] = xs at hL11 hok
      refine ⟨_, rfl, L, rfl, ⟨xs, .inl (.inl hL11)⟩, ?_⟩
      refine for_list (xs := xs) (fun j σ H' => (∃ x10 x11, σ = [some (.ref sa), some (.ref ra), some bv, some (.str pl), some (.str tg), some (.int (0 + (n : Int))), some (.str t), some (.int at_), some (.str ⟨#[c]⟩), some (.ref L), x10, x11]) ∧ Up T [ra] H H' ∧ LR K (ns, sa) ra H' ∧ H' L = some (.lst xs)) ⟨⟨_, _, rfl⟩, u11, l11, hL11⟩ (fun j σ H' _ p => .inl (.inl p.2.2.2)) ?_ ?_
      · rintro j x σ H12 e ⟨⟨y10, y11, rfl⟩, u12, l12, hL12⟩
        obtain ⟨es, rfl, hes⟩ := hok x (List.mem_of_getElem? e)
        exact each_step (by show 10 < 12; omega) hes (u12.tabs hT) fun H13 u13 => ⟨⟨_, _, rfl⟩, u12.trans u13.wide, l12.up0 u13, u13.keep _ _ (by simp) hL12 rfl⟩
      · rintro σ H12 ⟨⟨y10, y11, rfl⟩, u12, l12, hL12⟩
        exact ⟨⟨_, _, _, _, _, _, _, rfl⟩, u12, l12⟩
    · rintro σ H6 ⟨⟨x5, x6, x7, x8, x9, x10, x11, rfl⟩, u6, l6⟩
      have new : ∀ {H1 : Hp} {D : Addr} {xs : List V}, Up T [ra] H H1 ∧ LR K (ns, sa) ra H1 → H1 D = none → (Up T [ra] H (upd H1 D (.lst xs)) ∧ LR K (ns, sa) ra (upd H1 D (.lst xs))) := fun {H1 D xs} p hD => ⟨p.1.trans (.new hD), p.2.up0 (T := T) (.new hD)⟩
      have keepL : ∀ {H1 : Hp} {D L : Addr} {xs ys : List V}, H1 D = none → H1 L = some (.lst xs) → (upd H1 D (.lst ys)) L = some (.lst xs) := fun {H1 D L xs ys} hD hL => by rw [upd_ne (ne_of_none hL hD)]; exact hL
      refine ⟨by show 11 ≤ sizeLine; decide, fun A1 hA1 => ?_⟩
      have p1 := new (xs := rA) ⟨u6, l6⟩ hA1
      have a1 : (upd H6 A1 (.lst rA)) A1 = some (.lst rA) := upd_same
      refine ⟨_, rfl, by show 6 ≤ sizeLine; decide, fun B1 hB1 => ?_⟩
      have q1 := new (xs := rB) p1 hB1
      refine ⟨A1, B1, rA, rB, rfl, rfl, keepL hB1 a1, upd_same, by show 17 ≤ sizeLine; decide, fun A2 hA2 => ?_⟩
      have p2 := new (xs := rA ++ rB) q1 hA2
      have a2 : (upd (upd (upd H6 A1 (.lst rA)) B1 (.lst rB)) A2 (.lst (rA ++ rB))) A2 = some (.lst (rA ++ rB)) := upd_same
      refine ⟨_, rfl, by show 3 ≤ sizeLine; decide, fun B2 hB2 => ?_⟩
      have q2 := new (xs := rC) p2 hB2
      refine ⟨A2, B2, rA ++ rB, rC, rfl, rfl, keepL hB2 a2, upd_same, by show 20 ≤ sizeLine; decide, fun A3 hA3 => ?_⟩
      have p3 := new (xs := rA ++ rB ++ rC) q2 hA3
      have a3 : (upd (upd (upd (upd (upd H6 A1 (.lst rA)) B1 (.lst rB)) A2 (.lst (rA ++ rB))) B2 (.lst rC)) A3 (.lst (rA ++ rB ++ rC))) A3 = some (.lst (rA ++ rB ++ rC)) := upd_same
      refine ⟨_, rfl, by show 3 ≤ sizeLine; decide, fun B3 hB3 => ?_⟩
      have q3 := new (xs := rD) p3 hB3
      refine ⟨A3, B3, rA ++ rB ++ rC, rD, rfl, rfl, keepL hB3 a3, upd_same, by show 23 ≤ sizeLine; decide, fun L hL => ?_⟩
      obtain ⟨u7, l7⟩ := new (xs := rA ++ rB ++ rC ++ rD) q3 hL
      refine ⟨_, rfl, L, rfl, ⟨rA ++ rB ++ rC ++ rD, .inl (.inl upd_same)⟩, ?_⟩
      have hLa := q3.2.ne hL
      refine for_list (xs := rA ++ rB ++ rC ++ rD) (fun j σ H' => (∃ x5 x6 x7 x8 x9 x10, σ = [some (.ref sa), some (.ref ra), some bv, some (.str pl), some (.str tg), x5, x6, x7, x8, x9, x10, some (.ref L)]) ∧ Up T [ra] H H' ∧ H' L = some (.lst (rA ++ rB ++ rC ++ rD))) ⟨⟨_, _, _, _, _, _, rfl⟩, u7, upd_same⟩ (fun j σ H' _ p => .inl (.inl p.2.2)) ?_ ?_
      · rintro j x σ H12 e ⟨⟨y5, y6, y7, y8, y9, y10, rfl⟩, u12, hL12⟩
        obtain ⟨es, rfl, hes⟩ := okS_of (List.all_eq_true.mp rows_ok x (List.mem_of_getElem? e))
        exact each_step (by show 10 < 12; omega) hes (u12.tabs hT) fun H13 u13 => ⟨⟨_, _, _, _, _, _, rfl⟩, u12.trans u13.wide, u13.keep _ _ (by simp) hL12 rfl⟩
      · rintro σ H12 ⟨⟨y5, y6, y7, y8, y9, y10, rfl⟩, u12, hL12⟩
        exact k H12
end
end Dc
set_option Elab.async false
set_option linter.all false
set_option maxRecDepth 100000
set_option maxHeartbeats 0
namespace Dc
open PySem PySem.Spec PyProof.Rows L2
abbrev R : PySem.W.OpenRow := PySem.W.OpenLaw.row PySem.Challenge.rw_deepcalls_k13_whole_texts
abbrev hk : PySem.W.Hook := He.hookX 6 fa fn [] tf ex
def ob (s : PySem.W.SharedT) : He.AlX := He.obsX 6 fa fn [] tf ex (HandSHeadRun.getT s)
theorem ob_eq (s : PySem.W.SharedT) : ob s = hk.obs s.abs := He.obsX_eq (HandSHeadRun.getT_eq s)
def names1 : List Str := ["RoomError", "BadBook", "NotText", "InvalidText", "MOST_LETTERS", "MOST_BOUND", "MOST_REST", "MOST_DOWN", "MOST_GUARDS", "MOST_SIZE", "MOST_ROWS", "MOST_FUNCTIONS", "LETTERS", "TAKEN", "is_in", "is_name", "is_tuple", "is_guard", "is_move", "is_row", "is_function", "is_book", "need_book", "DIGITS", "Reading", "read_book"]
def names2 : List Str := ["write_guard", "write_row", "write_book", "_law_taken", "_law_pick", "_law_alike", "_law_book", "_law_guard", "_law_size", "_law_rows", "_law_holds", "_law_open", "_law_met", "_law_gain", "_law_room", "_law_is_endless", "_law_text", "_law_run", "_law_step", "_law_guard_due", "_law_row_due", "_law_due", "_law_told"]
def loose : List Str := names1 ++ names2
theorem run (w : World) : HandSHeadRun.RunEq R (PySem.W.view R.prog [54]) hk ob 4000 loose w := by
  intro os
  kernel_rfl
end Dc
set_option Elab.async false
set_option linter.all false
set_option maxRecDepth 100000
set_option maxHeartbeats 4000000
/-! printed by gen_f1.py: the facts by names, every def's promise, the end -/
namespace Dc
open PySem PySem.Spec PyProof.Rows L2 DcG
theorem code_ok {K : PySem.W.Frag} {x qual : Str} {params : Arguments} {body : List Stmt} {scope : Scope} {dvs : List V} {kws : List (Str × V)} {fd : FuncData} {p : Str × Option Str} (F : FunD K x qual params body scope dvs kws (He.fAd K p) fd) : fd.code = .ref (He.codeOf K p) := by
  obtain ⟨oc, od, dV, kV, doc, pm, an, cdv, ct, osl, rfl, lk, hcd, _, _⟩ := F.ex
  obtain ⟨c, rfl⟩ := He.codeIn_ref hcd
  rw [He.codeOf_eq lk rfl]
theorem tab_new {H : Hp} {P : Addr} (h : H P = some (.tbl #[])) : Tab0 H P := ⟨#[], h, trivial⟩
theorem facts {P : Program} {w : World} {K : PySem.W.Frag} {h : Heap} {mg : Str → Option Value} {fl : Addr} (X : K.In h) (G : h.Ns mainGlobals mg) (hfa : mg ("law" : Str) = some (.ref fl)) (c : He.SaysX fa fn [] tf ex w h K) :
    ∃ (fd : FuncData) (cs : List (Addr × Addr)) (sp : Sp), (∀ p ∈ cs, h.get? p.2 = some { cls := .none, data := .fields #[] }) ∧ (∀ p ∈ cs, K.lookup p.2 = none) ∧ (∀ p ∈ cs, PySem.W.CodeHd h p.1 p.2) ∧ (∀ (s : Shared) (u : Value), BindsTo s fd ⟨[u], []⟩ [("_law_script", u)]) ∧
      (∀ (H : Hp) (a : Addr) (ns : List Int), (∀ p ∈ cs, H p.2 = some (.tbl #[])) → SqL K H a (ns.map V.int) → sp [.ref a] H (fun v _ => v = .bl true) fun _ _ _ => False) ∧
      ∀ base : Heap, K.In base → base.Ns mainGlobals mg → (∀ p ∈ cs, LamX.TabB base mg p.1 p.2) → FnOk P w K mg base CX0 17 fl fd ["_law_script"] sp := by
  have cd := c.t.d
  obtain ⟨fd0, F0⟩ := cd.def_ 0 (d := dIsIn) rfl
  have F0 : FnP K "is_in" "is_in" sIsIn (He.ga K "is_in") fd0 := F0
  have b0 : Binds K fd0 ["value", "least", "most"] [] := F0.bindsN fun _ _ _ _ _ _ us hl => match us, hl with | [_, _, _], _ => rfl
  have g0 : mg "is_in" = some (.ref (He.ga K "is_in")) := He.glo_ok X G (cd.fact 0 (f := .glo "is_in") rfl)
  obtain ⟨fd1, F1⟩ := cd.def_ 1 (d := dIsName) rfl
  have F1 : FnP K "is_name" "is_name" sIsName (He.ga K "is_name") fd1 := F1
  have b1 : Binds K fd1 ["value"] [] := F1.bindsN fun _ _ _ _ _ _ us hl => match us, hl with | [_], _ => rfl
  have g1 : mg "is_name" = some (.ref (He.ga K "is_name")) := He.glo_ok X G (cd.fact 1 (f := .glo "is_name") rfl)
  obtain ⟨fd2, F2⟩ := cd.def_ 2 (d := dIsTuple) rfl
  have F2 : FnP K "is_tuple" "is_tuple" sIsTuple (He.ga K "is_tuple") fd2 := F2
  have b2 : Binds K fd2 ["value", "many"] [] := F2.bindsN fun _ _ _ _ _ _ us hl => match us, hl with | [_, _], _ => rfl
  have g2 : mg "is_tuple" = some (.ref (He.ga K "is_tuple")) := He.glo_ok X G (cd.fact 2 (f := .glo "is_tuple") rfl)
  obtain ⟨fd3, F3⟩ := cd.def_ 3 (d := dIsGuard) rfl
  have F3 : FnP K "is_guard" "is_guard" sIsGuard (He.ga K "is_guard") fd3 := F3
  have b3 : Binds K fd3 ["value"] [] := F3.bindsN fun _ _ _ _ _ _ us hl => match us, hl with | [_], _ => rfl
  have g3 : mg "is_guard" = some (.ref (He.ga K "is_guard")) := He.glo_ok X G (cd.fact 3 (f := .glo "is_guard") rfl)
  obtain ⟨fd4, F4⟩ := cd.def_ 4 (d := dIsMove) rfl
  have F4 : FnP K "is_move" "is_move" sIsMove (He.ga K "is_move") fd4 := F4
  have b4 : Binds K fd4 ["value"] [] := F4.bindsN fun _ _ _ _ _ _ us hl => match us, hl with | [_], _ => rfl
  have g4 : mg "is_move" = some (.ref (He.ga K "is_move")) := He.glo_ok X G (cd.fact 4 (f := .glo "is_move") rfl)
  obtain ⟨fd5, F5⟩ := cd.def_ 5 (d := dIsRow) rfl
  have F5 : FnP K "is_row" "is_row" sIsRow (He.ga K "is_row") fd5 := F5
  have b5 : Binds K fd5 ["value"] [] := F5.bindsN fun _ _ _ _ _ _ us hl => match us, hl with | [_], _ => rfl
  have g5 : mg "is_row" = some (.ref (He.ga K "is_row")) := He.glo_ok X G (cd.fact 5 (f := .glo "is_row") rfl)
  obtain ⟨fd6, F6⟩ := cd.def_ 6 (d := dIsFunction) rfl
  have F6 : FnP K "is_function" "is_function" sIsFunction (He.ga K "is_function") fd6 := F6
  have b6 : Binds K fd6 ["value"] [] := F6.bindsN fun _ _ _ _ _ _ us hl => match us, hl with | [_], _ => rfl
  have g6 : mg "is_function" = some (.ref (He.ga K "is_function")) := He.glo_ok X G (cd.fact 6 (f := .glo "is_function") rfl)
  obtain ⟨fd7, F7⟩ := cd.def_ 7 (d := dIsBook) rfl
  have F7 : FnP K "is_book" "is_book" sIsBook (He.ga K "is_book") fd7 := F7
  have b7 : Binds K fd7 ["value"] [] := F7.bindsN fun _ _ _ _ _ _ us hl => match us, hl with | [_], _ => rfl
  have g7 : mg "is_book" = some (.ref (He.ga K "is_book")) := He.glo_ok X G (cd.fact 7 (f := .glo "is_book") rfl)
  obtain ⟨fd8, F8⟩ := cd.def_ 8 (d := dNeedBook) rfl
  have F8 : FnP K "need_book" "need_book" sNeedBook (He.ga K "need_book") fd8 := F8
  have b8 : Binds K fd8 ["book"] [] := F8.bindsN fun _ _ _ _ _ _ us hl => match us, hl with | [_], _ => rfl
  have g8 : mg "need_book" = some (.ref (He.ga K "need_book")) := He.glo_ok X G (cd.fact 8 (f := .glo "need_book") rfl)
  obtain ⟨fd9, F9⟩ := cd.def_ 9 (d := dReadBook) rfl
  have F9 : FnP K "read_book" "read_book" sReadBook (He.ga K "read_book") fd9 := F9
  have b9 : Binds K fd9 ["text"] [] := F9.bindsN fun _ _ _ _ _ _ us hl => match us, hl with | [_], _ => rfl
  have g9 : mg "read_book" = some (.ref (He.ga K "read_book")) := He.glo_ok X G (cd.fact 9 (f := .glo "read_book") rfl)
  obtain ⟨fd10, F10⟩ := cd.def_ 10 (d := dWriteGuard) rfl
  have F10 : FnP K "write_guard" "write_guard" sWriteGuard (He.ga K "write_guard") fd10 := F10
  have b10 : Binds K fd10 ["guard"] [] := F10.bindsN fun _ _ _ _ _ _ us hl => match us, hl with | [_], _ => rfl
  have g10 : mg "write_guard" = some (.ref (He.ga K "write_guard")) := He.glo_ok X G (cd.fact 10 (f := .glo "write_guard") rfl)
  obtain ⟨fd11, F11⟩ := cd.def_ 11 (d := dWriteRow) rfl
  have F11 : FnP K "write_row" "write_row" sWriteRow (He.ga K "write_row") fd11 := F11
  have b11 : Binds K fd11 ["row"] [] := F11.bindsN fun _ _ _ _ _ _ us hl => match us, hl with | [_], _ => rfl
  have g11 : mg "write_row" = some (.ref (He.ga K "write_row")) := He.glo_ok X G (cd.fact 11 (f := .glo "write_row") rfl)
  obtain ⟨fd12, F12⟩ := cd.def_ 12 (d := dWriteBook) rfl
  have F12 : FnP K "write_book" "write_book" sWriteBook (He.ga K "write_book") fd12 := F12
  have b12 : Binds K fd12 ["book"] [] := F12.bindsN fun _ _ _ _ _ _ us hl => match us, hl with | [_], _ => rfl
  have g12 : mg "write_book" = some (.ref (He.ga K "write_book")) := He.glo_ok X G (cd.fact 12 (f := .glo "write_book") rfl)
  obtain ⟨fd13, F13⟩ := cd.def_ 13 (d := dLawTaken) rfl
  have F13 : FnP K "_law_taken" "_law_taken" sLawTaken (He.ga K "_law_taken") fd13 := F13
  have b13 : Binds K fd13 ["_law_row", "_law_many"] [] := F13.bindsN fun _ _ _ _ _ _ us hl => match us, hl with | [_, _], _ => rfl
  have g13 : mg "_law_taken" = some (.ref (He.ga K "_law_taken")) := He.glo_ok X G (cd.fact 13 (f := .glo "_law_taken") rfl)
  obtain ⟨fd14, F14⟩ := cd.def_ 14 (d := dLawPick) rfl
  have F14 : FnP K "_law_pick" "_law_pick" sLawPick (He.ga K "_law_pick") fd14 := F14
  have b14 : Binds K fd14 ["_law_row", "_law_things"] [] := F14.bindsN fun _ _ _ _ _ _ us hl => match us, hl with | [_, _], _ => rfl
  have g14 : mg "_law_pick" = some (.ref (He.ga K "_law_pick")) := He.glo_ok X G (cd.fact 14 (f := .glo "_law_pick") rfl)
  obtain ⟨fd15, F15⟩ := cd.def_ 15 (d := dLawAlike) rfl
  have F15 : FnP K "_law_alike" "_law_alike" sLawAlike (He.ga K "_law_alike") fd15 := F15
  have b15 : Binds K fd15 ["_law_found", "_law_due_here"] [] := F15.bindsN fun _ _ _ _ _ _ us hl => match us, hl with | [_, _], _ => rfl
  have g15 : mg "_law_alike" = some (.ref (He.ga K "_law_alike")) := He.glo_ok X G (cd.fact 15 (f := .glo "_law_alike") rfl)
  obtain ⟨fd16, F16⟩ := cd.def_ 16 (d := dLawBook) rfl
  have F16 : FnP K "_law_book" "_law_book" sLawBook (He.ga K "_law_book") fd16 := F16
  have b16 : Binds K fd16 ["_law_row", "_law_is_plain"] [] := F16.bindsN fun _ _ _ _ _ _ us hl => match us, hl with | [_, _], _ => rfl
  have g16 : mg "_law_book" = some (.ref (He.ga K "_law_book")) := He.glo_ok X G (cd.fact 16 (f := .glo "_law_book") rfl)
  obtain ⟨fd17, F17⟩ := cd.def_ 17 (d := dLawGuard) rfl
  have F17 : FnP K "_law_guard" "_law_guard" sLawGuard (He.ga K "_law_guard") fd17 := F17
  have b17 : Binds K fd17 ["_law_row"] [] := F17.bindsN fun _ _ _ _ _ _ us hl => match us, hl with | [_], _ => rfl
  have g17 : mg "_law_guard" = some (.ref (He.ga K "_law_guard")) := He.glo_ok X G (cd.fact 17 (f := .glo "_law_guard") rfl)
  obtain ⟨fd18, F18⟩ := cd.def_ 18 (d := dLawText) rfl
  have F18 : FnP K "_law_text" "_law_text" sLawText (He.ga K "_law_text") fd18 := F18
  have b18 : Binds K fd18 ["_law_book_here"] [] := F18.bindsN fun _ _ _ _ _ _ us hl => match us, hl with | [_], _ => rfl
  have g18 : mg "_law_text" = some (.ref (He.ga K "_law_text")) := He.glo_ok X G (cd.fact 18 (f := .glo "_law_text") rfl)
  obtain ⟨fd19, F19⟩ := cd.def_ 19 (d := dLawRun) rfl
  have F19 : FnP K "_law_run" "_law_run" sLawRun (He.ga K "_law_run") fd19 := F19
  have b19 : Binds K fd19 ["_law_text_here", "_law_at", "_law_signs"] [] := F19.bindsN fun _ _ _ _ _ _ us hl => match us, hl with | [_, _, _], _ => rfl
  have g19 : mg "_law_run" = some (.ref (He.ga K "_law_run")) := He.glo_ok X G (cd.fact 19 (f := .glo "_law_run") rfl)
  obtain ⟨fd20, F20⟩ := cd.def_ 20 (d := dLawStep) rfl
  have F20 : FnP K "_law_step" "_law_step" sLawStep (He.ga K "_law_step") fd20 := F20
  have b20 : Binds K fd20 ["_law_text_here", "_law_at", "_law_want"] [] := F20.bindsN fun _ _ _ _ _ _ us hl => match us, hl with | [_, _, _], _ => rfl
  have g20 : mg "_law_step" = some (.ref (He.ga K "_law_step")) := He.glo_ok X G (cd.fact 20 (f := .glo "_law_step") rfl)
  obtain ⟨fd21, F21⟩ := cd.def_ 21 (d := dLawGuardDue) rfl
  have F21 : FnP K "_law_guard_due" "_law_guard_due" sLawGuardDue (He.ga K "_law_guard_due") fd21 := F21
  have b21 : Binds K fd21 ["_law_text_here", "_law_at"] [] := F21.bindsN fun _ _ _ _ _ _ us hl => match us, hl with | [_, _], _ => rfl
  have g21 : mg "_law_guard_due" = some (.ref (He.ga K "_law_guard_due")) := He.glo_ok X G (cd.fact 21 (f := .glo "_law_guard_due") rfl)
  obtain ⟨fd22, F22⟩ := cd.def_ 22 (d := dLawRowDue) rfl
  have F22 : FnP K "_law_row_due" "_law_row_due" sLawRowDue (He.ga K "_law_row_due") fd22 := F22
  have b22 : Binds K fd22 ["_law_text_here", "_law_at"] [] := F22.bindsN fun _ _ _ _ _ _ us hl => match us, hl with | [_, _], _ => rfl
  have g22 : mg "_law_row_due" = some (.ref (He.ga K "_law_row_due")) := He.glo_ok X G (cd.fact 22 (f := .glo "_law_row_due") rfl)
  obtain ⟨fd23, F23⟩ := cd.def_ 23 (d := dLawDue) rfl
  have F23 : FnP K "_law_due" "_law_due" sLawDue (He.ga K "_law_due") fd23 := F23
  have b23 : Binds K fd23 ["_law_text_here"] [] := F23.bindsN fun _ _ _ _ _ _ us hl => match us, hl with | [_], _ => rfl
  have g23 : mg "_law_due" = some (.ref (He.ga K "_law_due")) := He.glo_ok X G (cd.fact 23 (f := .glo "_law_due") rfl)
  obtain ⟨fd24, F24⟩ := cd.def_ 24 (d := dLawTold) rfl
  have F24 : FnP K "_law_told" "_law_told" sLawTold (He.ga K "_law_told") fd24 := F24
  have b24 : Binds K fd24 ["_law_text_here"] [] := F24.bindsN fun _ _ _ _ _ _ us hl => match us, hl with | [_], _ => rfl
  have g24 : mg "_law_told" = some (.ref (He.ga K "_law_told")) := He.glo_ok X G (cd.fact 24 (f := .glo "_law_told") rfl)
  obtain ⟨fd25, F25⟩ := cd.def_ 25 (d := dLaw) rfl
  have F25 : FnP K "law" "law" sLaw (He.ga K "law") fd25 := F25
  have b25 : Binds K fd25 ["_law_script"] [] := F25.bindsN fun _ _ _ _ _ _ us hl => match us, hl with | [_], _ => rfl
  have g25 : mg "law" = some (.ref (He.ga K "law")) := He.glo_ok X G (cd.fact 25 (f := .glo "law") rfl)
  obtain ⟨fdJ, FJ⟩ := cd.def_ 26 (d := dItInit) rfl
  have FJ : FnP K "__init__" "InvalidText.__init__" sItInit (He.ma K (He.ga K "InvalidText") "__init__") fdJ := FJ
  have bJ : Binds K fdJ ["self", "place"] [] := FJ.bindsN fun _ _ _ _ _ _ us hl => match us, hl with | [_, _], _ => rfl
  obtain ⟨fdI, FI⟩ := cd.def_ 27 (d := dRInit) rfl
  have FI : FnP K "__init__" "Reading.__init__" sRInit (He.ma K (He.ga K "Reading") "__init__") fdI := FI
  have bI : Binds K fdI ["self", "text"] [] := FI.bindsN fun _ _ _ _ _ _ us hl => match us, hl with | [_, _], _ => rfl
  obtain ⟨fd28, F28⟩ := cd.def_ 28 (d := dRSkip) rfl
  have F28 : FnP K "skip" "Reading.skip" sRSkip (He.ma K (He.ga K "Reading") "skip") fd28 := F28
  have b28 : Binds K fd28 ["self"] [] := F28.bindsN fun _ _ _ _ _ _ us hl => match us, hl with | [_], _ => rfl
  have m28 : Meth K (He.ga K "Reading") "skip" (He.ma K (He.ga K "Reading") "skip") := He.meth_ok (cd.fact 53 (f := .meth "Reading" "skip") rfl)
  obtain ⟨fd29, F29⟩ := cd.def_ 29 (d := dRRowOf) rfl
  have F29 : FnP K "row_of" "Reading.row_of" sRRowOf (He.ma K (He.ga K "Reading") "row_of") fd29 := F29
  have b29 : Binds K fd29 ["self", "signs"] [] := F29.bindsN fun _ _ _ _ _ _ us hl => match us, hl with | [_, _], _ => rfl
  have m29 : Meth K (He.ga K "Reading") "row_of" (He.ma K (He.ga K "Reading") "row_of") := He.meth_ok (cd.fact 54 (f := .meth "Reading" "row_of") rfl)
  obtain ⟨fd30, F30⟩ := cd.def_ 30 (d := dRLook) rfl
  have F30 : FnP K "look" "Reading.look" sRLook (He.ma K (He.ga K "Reading") "look") fd30 := F30
  have b30 : Binds K fd30 ["self", "sign"] [] := F30.bindsN fun _ _ _ _ _ _ us hl => match us, hl with | [_, _], _ => rfl
  have m30 : Meth K (He.ga K "Reading") "look" (He.ma K (He.ga K "Reading") "look") := He.meth_ok (cd.fact 55 (f := .meth "Reading" "look") rfl)
  obtain ⟨fd31, F31⟩ := cd.def_ 31 (d := dRNeed) rfl
  have F31 : FnP K "need" "Reading.need" sRNeed (He.ma K (He.ga K "Reading") "need") fd31 := F31
  have b31 : Binds K fd31 ["self", "sign"] [] := F31.bindsN fun _ _ _ _ _ _ us hl => match us, hl with | [_, _], _ => rfl
  have m31 : Meth K (He.ga K "Reading") "need" (He.ma K (He.ga K "Reading") "need") := He.meth_ok (cd.fact 56 (f := .meth "Reading" "need") rfl)
  obtain ⟨fd32, F32⟩ := cd.def_ 32 (d := dRWord) rfl
  have F32 : FnP K "word" "Reading.word" sRWord (He.ma K (He.ga K "Reading") "word") fd32 := F32
  have b32 : Binds K fd32 ["self"] [] := F32.bindsN fun _ _ _ _ _ _ us hl => match us, hl with | [_], _ => rfl
  have m32 : Meth K (He.ga K "Reading") "word" (He.ma K (He.ga K "Reading") "word") := He.meth_ok (cd.fact 57 (f := .meth "Reading" "word") rfl)
  obtain ⟨fd33, F33⟩ := cd.def_ 33 (d := dRKnown) rfl
  have F33 : FnP K "known" "Reading.known" sRKnown (He.ma K (He.ga K "Reading") "known") fd33 := F33
  have b33 : Binds K fd33 ["self", "words"] [] := F33.bindsN fun _ _ _ _ _ _ us hl => match us, hl with | [_, _], _ => rfl
  have m33 : Meth K (He.ga K "Reading") "known" (He.ma K (He.ga K "Reading") "known") := He.meth_ok (cd.fact 58 (f := .meth "Reading" "known") rfl)
  obtain ⟨fd34, F34⟩ := cd.def_ 34 (d := dRNumber) rfl
  have F34 : FnP K "number" "Reading.number" sRNumber (He.ma K (He.ga K "Reading") "number") fd34 := F34
  have b34 : Binds K fd34 ["self"] [] := F34.bindsN fun _ _ _ _ _ _ us hl => match us, hl with | [_], _ => rfl
  have m34 : Meth K (He.ga K "Reading") "number" (He.ma K (He.ga K "Reading") "number") := He.meth_ok (cd.fact 59 (f := .meth "Reading" "number") rfl)
  obtain ⟨fd35, F35⟩ := cd.def_ 35 (d := dRGuard) rfl
  have F35 : FnP K "guard" "Reading.guard" sRGuard (He.ma K (He.ga K "Reading") "guard") fd35 := F35
  have b35 : Binds K fd35 ["self"] [] := F35.bindsN fun _ _ _ _ _ _ us hl => match us, hl with | [_], _ => rfl
  have m35 : Meth K (He.ga K "Reading") "guard" (He.ma K (He.ga K "Reading") "guard") := He.meth_ok (cd.fact 60 (f := .meth "Reading" "guard") rfl)
  obtain ⟨fd36, F36⟩ := cd.def_ 36 (d := dRRow) rfl
  have F36 : FnP K "row" "Reading.row" sRRow (He.ma K (He.ga K "Reading") "row") fd36 := F36
  have b36 : Binds K fd36 ["self"] [] := F36.bindsN fun _ _ _ _ _ _ us hl => match us, hl with | [_], _ => rfl
  have m36 : Meth K (He.ga K "Reading") "row" (He.ma K (He.ga K "Reading") "row") := He.meth_ok (cd.fact 61 (f := .meth "Reading" "row") rfl)
  obtain ⟨fd37, F37⟩ := cd.def_ 37 (d := dRFunction) rfl
  have F37 : FnP K "function" "Reading.function" sRFunction (He.ma K (He.ga K "Reading") "function") fd37 := F37
  have b37 : Binds K fd37 ["self"] [] := F37.bindsN fun _ _ _ _ _ _ us hl => match us, hl with | [_], _ => rfl
  have m37 : Meth K (He.ga K "Reading") "function" (He.ma K (He.ga K "Reading") "function") := He.meth_ok (cd.fact 62 (f := .meth "Reading" "function") rfl)
  obtain ⟨fd38, F38⟩ := cd.def_ 38 (d := dRBook) rfl
  have F38 : FnP K "book" "Reading.book" sRBook (He.ma K (He.ga K "Reading") "book") fd38 := F38
  have b38 : Binds K fd38 ["self"] [] := F38.bindsN fun _ _ _ _ _ _ us hl => match us, hl with | [_], _ => rfl
  have m38 : Meth K (He.ga K "Reading") "book" (He.ma K (He.ga K "Reading") "book") := He.meth_ok (cd.fact 63 (f := .meth "Reading" "book") rfl)
  have hmore := c.more
  obtain ⟨hIT, hmore⟩ := He.ba hmore
  obtain ⟨hTk, hap⟩ := He.ba hmore
  have TX : Txt K mg := {
    isi := He.free_ok X G (cd.fact 26 (f := .free "isinstance") rfl)
    int := He.free_ok X G (cd.fact 27 (f := .free "int") rfl)
    bool := He.free_ok X G (cd.fact 28 (f := .free "bool") rfl)
    str := He.free_ok X G (cd.fact 29 (f := .free "str") rfl)
    tuple := He.free_ok X G (cd.fact 30 (f := .free "tuple") rfl)
    list := He.free_ok X G (cd.fact 31 (f := .free "list") rfl)
    len := He.free_ok X G (cd.fact 32 (f := .free "len") rfl)
    all := He.free_ok X G (cd.fact 33 (f := .free "all") rfl)
    range := He.free_ok X G (cd.fact 34 (f := .free "range") rfl)
    mLet := let ⟨t, e⟩ := He.int_ok X G (cd.fact 35 (f := .int "MOST_LETTERS" 8) rfl); ⟨_, e, t, rfl⟩
    mBound := let ⟨t, e⟩ := He.int_ok X G (cd.fact 36 (f := .int "MOST_BOUND" 60) rfl); ⟨_, e, t, rfl⟩
    mRest := let ⟨t, e⟩ := He.int_ok X G (cd.fact 37 (f := .int "MOST_REST" 4) rfl); ⟨_, e, t, rfl⟩
    mDown := let ⟨t, e⟩ := He.int_ok X G (cd.fact 38 (f := .int "MOST_DOWN" 4) rfl); ⟨_, e, t, rfl⟩
    mGuards := let ⟨t, e⟩ := He.int_ok X G (cd.fact 39 (f := .int "MOST_GUARDS" 3) rfl); ⟨_, e, t, rfl⟩
    mSize := let ⟨t, e⟩ := He.int_ok X G (cd.fact 40 (f := .int "MOST_SIZE" 20) rfl); ⟨_, e, t, rfl⟩
    mRows := let ⟨t, e⟩ := He.int_ok X G (cd.fact 41 (f := .int "MOST_ROWS" 6) rfl); ⟨_, e, t, rfl⟩
    mFuns := let ⟨t, e⟩ := He.int_ok X G (cd.fact 42 (f := .int "MOST_FUNCTIONS" 4) rfl); ⟨_, e, t, rfl⟩
    lets := let ⟨t, e⟩ := He.str_ok X G (cd.fact 43 (f := .str "LETTERS" "abcdefghijklmnopqrstuvwxyz") rfl); ⟨_, e, t, rfl⟩
    digs := let ⟨t, e⟩ := He.str_ok X G (cd.fact 44 (f := .str "DIGITS" "0123456789") rfl); ⟨_, e, t, rfl⟩
    taken := ⟨He.ga K "TAKEN", ⟨_, He.glo_ok X G (cd.fact 45 (f := .glo "TAKEN") rfl), rfl⟩, fun H => He.lstB_ok hTk H⟩ }
  have gRE : mg "RoomError" = some (.ref (He.ga K "RoomError")) := He.glo_ok X G (cd.fact 46 (f := .glo "RoomError") rfl)
  have gIT : mg "InvalidText" = some (.ref (He.ga K "InvalidText")) := He.glo_ok X G (cd.fact 47 (f := .glo "InvalidText") rfl)
  have gRd : mg "Reading" = some (.ref (He.ga K "Reading")) := He.glo_ok X G (cd.fact 48 (f := .glo "Reading") rfl)
  have R : RdC K (He.ga K "Reading") := ⟨He.cls_ok (cd.fact 49 (f := .cls "Reading") rfl), He.noat_ok (cd.fact 50 (f := .noat "Reading" "text") rfl), He.noat_ok (cd.fact 51 (f := .noat "Reading" "at") rfl)⟩
  have M : Mk K (He.ga K "Reading") (He.ma K (He.ga K "Reading") "__init__") := He.mkr_ok (cd.fact 52 (f := .mkr "Reading") rfl)
  have hpl : PySem.W.findIn K (.ref (He.ga K "InvalidText")) "place" = some none := He.noat_ok (cd.fact 64 (f := .noat "InvalidText" "place") rfl)
  have hexm : PySem.W.exmOne K (.ref (He.ga K "InvalidText")) (.ref (He.ga K "RoomError")) = some true := He.exm_ok (cd.fact 65 (f := .exm "InvalidText" "RoomError" true) rfl)
  unfold exIT at hIT
  obtain ⟨i1, hIT⟩ := He.ba hIT
  obtain ⟨i2, hIT⟩ := He.ba hIT
  obtain ⟨i3, hIT⟩ := He.ba hIT
  obtain ⟨i4, hIT⟩ := He.ba hIT
  obtain ⟨i5, hIT⟩ := He.ba hIT
  obtain ⟨i6, hIT⟩ := He.ba hIT
  obtain ⟨i7, hIT⟩ := He.ba hIT
  obtain ⟨i8, hIT⟩ := He.ba hIT
  obtain ⟨i9, hIT⟩ := He.ba hIT
  obtain ⟨i10, hIT⟩ := He.ba hIT
  obtain ⟨i11, hIT⟩ := He.ba hIT
  obtain ⟨i12, i13⟩ := He.ba hIT
  have O : OexC K (He.ga K "InvalidText") := ⟨oexB_ok i1, He.eqO_ok i2, of_decide_eq_true i3, of_decide_eq_true i4, i5⟩
  have XF : XfC K (He.ga K "InvalidText") := xfB_ok i6
  have EC : ExcC K (He.ga K "InvalidText") := ⟨XF.ga, XF.gg, XF.exC, XF.hdC, He.eqO_ok i7, He.eqO_ok i11, of_decide_eq_true i12, of_decide_eq_true i8⟩
  have kit : PySem.W.kitOne K (.ref (He.ga K "InvalidText")) (.ref (He.ga K "InvalidText")) = some true := of_decide_eq_true i13
  unfold apart4 at hap
  obtain ⟨hap, a6⟩ := He.ba hap
  obtain ⟨hap, a5⟩ := He.ba hap
  obtain ⟨hap, a4⟩ := He.ba hap
  obtain ⟨hap, a3⟩ := He.ba hap
  have n1 := bne_iff_ne.mp a3
  have n2 := bne_iff_ne.mp a5
  have n3 := bne_iff_ne.mp a6
  have hc1 : fd1.code = .ref (He.cT K ("is_name", none)).1 := code_ok (p := ("is_name", none)) F1
  have hc5 : fd5.code = .ref (He.cT K ("is_row", none)).1 := code_ok (p := ("is_row", none)) F5
  have hc6 : fd6.code = .ref (He.cT K ("is_function", none)).1 := code_ok (p := ("is_function", none)) F6
  have hc7 : fd7.code = .ref (He.cT K ("is_book", none)).1 := code_ok (p := ("is_book", none)) F7
  have e := hfa.symm.trans g25
  cases e
  let T : TT := ⟨(He.cT K ("is_name", none)).2, (He.cT K ("is_row", none)).2, (He.cT K ("is_function", none)).2, (He.cT K ("is_book", none)).2⟩
  have bl := FunD.bindsA (ps := ["_law_script"]) F25 fun _ _ _ _ _ _ us hl => match us, hl with | [_], _ => rfl
  refine ⟨fd25, tf.map (He.cT K), spLaw T K, fun p hp => ?_, fun p hp => ?_, fun p hp => ?_, fun s u => bl s [u] rfl, fun H a ns hH hS => ⟨a, ns, rfl, hS, ⟨tab_new (hH _ (List.mem_map.mpr ⟨_, List.mem_cons_self, rfl⟩)), tab_new (hH _ (List.mem_map.mpr ⟨_, List.mem_cons_of_mem _ List.mem_cons_self, rfl⟩)), tab_new (hH _ (List.mem_map.mpr ⟨_, List.mem_cons_of_mem _ (List.mem_cons_of_mem _ List.mem_cons_self), rfl⟩)), TabK.new (hH _ (List.mem_map.mpr ⟨_, List.mem_cons_of_mem _ (List.mem_cons_of_mem _ (List.mem_cons_of_mem _ List.mem_cons_self)), rfl⟩)) true⟩, fun _ => rfl⟩, fun base KB GB hTB => ?_⟩
  · obtain ⟨q, hq, rfl⟩ := List.mem_map.mp hp
    exact c.empty q hq
  · obtain ⟨q, hq, rfl⟩ := List.mem_map.mp hp
    exact c.out q hq
  · obtain ⟨q, hq, rfl⟩ := List.mem_map.mp hp
    exact PySem.W.codeHd_of_K X (c.hd q hq)
  have t1 := hTB _ (List.mem_map.mpr ⟨("is_name", none), List.mem_cons_self, rfl⟩)
  have t5 := hTB _ (List.mem_map.mpr ⟨("is_row", none), List.mem_cons_of_mem _ List.mem_cons_self, rfl⟩)
  have t6 := hTB _ (List.mem_map.mpr ⟨("is_function", none), List.mem_cons_of_mem _ (List.mem_cons_of_mem _ List.mem_cons_self), rfl⟩)
  have t7 := hTB _ (List.mem_map.mpr ⟨("is_book", none), List.mem_cons_of_mem _ (List.mem_cons_of_mem _ (List.mem_cons_of_mem _ List.mem_cons_self)), rfl⟩)
  have BM : BMb base mg := by
    obtain ⟨bm, o, h1, h2, _, _, h3, h4, h5, h6⟩ := t1.bm
    exact ⟨bm, o, h1, h2, h3, h4, h5, h6⟩
  have cI : CalD P w K mg base CX0 1 "is_in" ["value", "least", "most"] spIsIn := ⟨_, _, ok_isIn F0 TX, g0, F0.kp, b0⟩
  have cT : CalD P w K mg base CX0 1 "is_tuple" ["value", "many"] spIsTuple := ⟨_, _, ok_isTuple F2 TX, g2, F2.kp, b2⟩
  have cG : CalD P w K mg base CX0 2 "is_guard" ["value"] (spIsGuard T) := ⟨_, _, ok_isGuard F3 TX cI cT, g3, F3.kp, b3⟩
  have cM : CalD P w K mg base CX0 2 "is_move" ["value"] spIsMove := ⟨_, _, ok_isMove F4 TX cI cT, g4, F4.kp, b4⟩
  have cN : CalD P w K mg base CX0 4 "is_name" ["value"] (spIsName T) := ⟨_, _, ok_isName F1 TX hc1 t1.code BM n1, g1, F1.kp, b1⟩
  have cRow : CalD P w K mg base CX0 6 "is_row" ["value"] (spIsRow T) := ⟨_, _, ok_isRow F5 TX hc5 t5.code BM n2 cT cG cN cM, g5, F5.kp, b5⟩
  have cFn : CalD P w K mg base CX0 10 "is_function" ["value"] (spIsFn T) := ⟨_, _, ok_isFn F6 TX hc6 t6.code BM n3 cI cT cN cRow, g6, F6.kp, b6⟩
  have cBk : CalD P w K mg base CX0 14 "is_book" ["value"] (spIsBook T) := ⟨_, _, ok_isBook F7 TX hc7 t7.code BM cFn, g7, F7.kp, b7⟩
  have cNB : CalD P w K mg base CX0 15 "need_book" ["book"] (spNeedBook T) := ⟨_, _, ok_needBook F8 cBk, g8, F8.kp, b8⟩
  have IT : ItC P w K mg base (He.ga K "InvalidText") := ⟨O, XF, hpl, gIT, _, _, He.eqO_ok i9, of_decide_eq_true i10, ok_itInit FJ O hpl, bJ⟩
  have mS : MetD P w K mg base CX0 1 (He.ga K "Reading") "skip" ["self"] (spSkip T (He.ga K "Reading")) := ⟨_, _, ok_skip F28 R, m28, b28⟩
  have mL : MetD P w K mg base CX0 1 (He.ga K "Reading") "look" ["self", "sign"] (spLook (He.ga K "Reading")) := ⟨_, _, ok_look F30 TX R, m30, b30⟩
  have okI := ok_rInit (P := P) (w := w) (mg := mg) (base := base) (T := T) FI R mS
  have mD : MetD P w K mg base (L2.CX P w) 3 (He.ga K "Reading") "need" ["self", "sign"] (spNeed T (He.ga K "Reading") (He.ga K "InvalidText")) := ⟨_, _, ok_need F31 TX R IT mS mL, m31, b31⟩
  have mRo : MetD P w K mg base (L2.CX P w) 3 (He.ga K "Reading") "row_of" ["self", "signs"] (spRowOf T (He.ga K "Reading") (He.ga K "InvalidText")) := ⟨_, _, ok_rowOf F29 TX R IT mS, m29, b29⟩
  have mW : MetD P w K mg base (L2.CX P w) 4 (He.ga K "Reading") "word" ["self"] (spWord T (He.ga K "Reading") (He.ga K "InvalidText")) := ⟨_, _, ok_word F32 TX R IT mRo, m32, b32⟩
  have mK : MetD P w K mg base (L2.CX P w) 5 (He.ga K "Reading") "known" ["self", "words"] (spKnown T (He.ga K "Reading") (He.ga K "InvalidText")) := ⟨_, _, ok_known F33 TX R IT mW, m33, b33⟩
  have mN : MetD P w K mg base (L2.CX P w) 4 (He.ga K "Reading") "number" ["self"] (spNum T (He.ga K "Reading") (He.ga K "InvalidText")) := ⟨_, _, ok_num F34 TX R IT mRo, m34, b34⟩
  have mG : MetD P w K mg base (L2.CX P w) 6 (He.ga K "Reading") "guard" ["self"] (spGuard T (He.ga K "Reading") (He.ga K "InvalidText")) := ⟨_, _, ok_guard F35 TX R IT mK mN mL mD, m35, b35⟩
  have mR : MetD P w K mg base (L2.CX P w) 7 (He.ga K "Reading") "row" ["self"] (spRow T (He.ga K "Reading") (He.ga K "InvalidText")) := ⟨_, _, ok_row F36 TX R mK mW mN mL mD mG, m36, b36⟩
  have mF : MetD P w K mg base (L2.CX P w) 8 (He.ga K "Reading") "function" ["self"] (spFn T (He.ga K "Reading") (He.ga K "InvalidText")) := ⟨_, _, ok_fn F37 TX R mW mN mL mD mR, m37, b37⟩
  have mB : MetD P w K mg base (L2.CX P w) 9 (He.ga K "Reading") "book" ["self"] (spBook T (He.ga K "Reading") (He.ga K "InvalidText")) := ⟨_, _, ok_book F38 TX R mD mF, m38, b38⟩
  have cRead : CalD P w K mg base (L2.CX P w) 15 "read_book" ["text"] (spRead T (He.ga K "InvalidText")) := ⟨_, _, ok_read F9 TX R IT M okI bI gRd cBk mB, g9, F9.kp, b9⟩
  have cWG : CalD P w K mg base CX0 1 "write_guard" ["guard"] spWG := ⟨_, _, ok_wGuard F10, g10, F10.kp, b10⟩
  have cWR : CalD P w K mg base CX0 2 "write_row" ["row"] (spWR T) := ⟨_, _, ok_wRow F11 cWG, g11, F11.kp, b11⟩
  have cWB : CalD P w K mg base CX0 16 "write_book" ["book"] (spWB T) := ⟨_, _, ok_wBook F12 cNB cWR, g12, F12.kp, b12⟩
  have cTk : CalD P w K mg base CX0 1 "_law_taken" ["_law_row", "_law_many"] (spTaken T K) := ⟨_, _, ok_taken F13 TX, g13, F13.kp, b13⟩
  have cPk : CalD P w K mg base CX0 2 "_law_pick" ["_law_row", "_law_things"] (spPick T K) := ⟨_, _, ok_pick F14 TX cTk, g14, F14.kp, b14⟩
  have cLG : CalD P w K mg base CX0 2 "_law_guard" ["_law_row"] (spLGuard T K) := ⟨_, _, ok_lGuard F17 TX cTk, g17, F17.kp, b17⟩
  have cLB : CalD P w K mg base CX0 3 "_law_book" ["_law_row", "_law_is_plain"] (spLBook T K) := ⟨_, _, ok_lBook F16 TX cTk cPk cLG, g16, F16.kp, b16⟩
  have cLT : CalD P w K mg base CX0 1 "_law_text" ["_law_book_here"] (spLT T) := ⟨_, _, ok_lText F18 TX, g18, F18.kp, b18⟩
  have cRn : CalD P w K mg base CX0 1 "_law_run" ["_law_text_here", "_law_at", "_law_signs"] spRun := ⟨_, _, ok_run F19, g19, F19.kp, b19⟩
  have cSt : CalD P w K mg base CX0 2 "_law_step" ["_law_text_here", "_law_at", "_law_want"] (spStep T) := ⟨_, _, ok_step F20 TX cRn, g20, F20.kp, b20⟩
  have cGD : CalD P w K mg base CX0 3 "_law_guard_due" ["_law_text_here", "_law_at"] (spGD T) := ⟨_, _, ok_gDue F21 TX cSt, g21, F21.kp, b21⟩
  have cRD : CalD P w K mg base CX0 4 "_law_row_due" ["_law_text_here", "_law_at"] (spRD T) := ⟨_, _, ok_rDue F22 TX cSt cGD, g22, F22.kp, b22⟩
  have cDu : CalD P w K mg base CX0 15 "_law_due" ["_law_text_here"] (spDue T) := ⟨_, _, ok_due F23 TX cRn cSt cRD cBk, g23, F23.kp, b23⟩
  have cTd : CalD P w K mg base CX0 16 "_law_told" ["_law_text_here"] (spDue T) := ⟨_, _, ok_told F24 TX IT EC kit gRE hexm cRead, g24, F24.kp, b24⟩
  have al : ∀ n, FnOk P w K mg base CX0 n (He.ga K "_law_alike") fd15 ["_law_found", "_law_due_here"] (spAl T n) := fun n => by
    induction n with
    | zero => exact ok_alike0
    | succ n ih => exact ok_alikeS F15 TX ⟨_, _, ih, g15, F15.kp, b15⟩
  have cAl : CalD P w K mg base CX0 8 "_law_alike" ["_law_found", "_law_due_here"] (spAl T 8) := ⟨_, _, al 8, g15, F15.kp, b15⟩
  exact ok_law F25 TX cLB cLT cWB cAl cPk cTk cTd cDu
end Dc
open PySem PySem.W PySem.Calls PyProof.Rows
theorem PySem.Challenge.cw_deepcalls_k13_whole_texts_holds : PySem.Challenge.rw_deepcalls_k13_whole_texts.Holds := by
  w_on; o_law
  refine HandSHeadRun.head_any (r := OpenLaw.row PySem.Challenge.rw_deepcalls_k13_whole_texts) (q := view (OpenLaw.row PySem.Challenge.rw_deepcalls_k13_whole_texts).prog [54]) (H := Dc.hk) (ob := Dc.ob) (M := 4000) (loose := Dc.loose) (d := HandSHeadRun.topDef (OpenLaw.row PySem.Challenge.rw_deepcalls_k13_whole_texts).prog 54) (kwd := []) Dc.ob_eq
    (by kernel_rfl) (fun s => by kernel_rfl) Dc.run (by kernel_rfl) (by kernel_rfl) (by kernel_rfl) (by rfl) (by first | assumption | decide +kernel) (by decide +kernel) ⟨rfl, rfl, rfl, rfl, rfl, by decide +kernel⟩ ?hw ?hc
  case hw => w_witness2
  case hc =>
    refine LamX.walk_ofTsE (l := PySem.Challenge.rw_deepcalls_k13_whole_texts) (n := 63) (k := 17) (x := "_law_script") (CX := fun _ => L2.CX0) rfl (by decide) (by kernel_rfl) ⟨rfl, by decide, by decide⟩ ?F (fun _ _ _ _ _ z => z)
    intro w mg fa h Y G hmg0
    obtain ⟨K, KX, c⟩ := Y
    have hmg : mg ("law" : PySem.Str) = some (.ref fa) := by
      have e : (HandSHeadRun.topDef (OpenLaw.row PySem.Challenge.rw_deepcalls_k13_whole_texts).prog 54).name = ("law" : PySem.Str) := by kernel_rfl
      rw [← e]
      exact hmg0
    obtain ⟨fd, cs, sp, h1, h2, h3, h4, h5, h6⟩ := Dc.facts (P := (PySem.Challenge.rw_deepcalls_k13_whole_texts).prog) (w := w) KX G hmg c
    exact ⟨K, KX, fd, cs, sp, h1, h2, h3, h4, fun H a ns _ _ hH hS => h5 H a ns hH hS, h6⟩
