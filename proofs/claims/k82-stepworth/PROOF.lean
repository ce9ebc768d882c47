import PyProof.Rows.All
import HandS.ForMost
import HandS.GenList
import KE.KNest
import PyProof.TupleOfGen
import PyProof.ConsumeS
import KE.KDictKeyed
import KE.KeyNested
import HandS.IsInst
import HandS.Wide
import HandS.TupAny
import HandS.TupMul
import HandS.Style
import KE.GoesMore
import KE.GoesEnum
import HandS.WideMore
import HandS.EndOwn
import HandS.Words
import KE.DataEq
import KE.SortData
import KE.DataMinMax
import HandS.ExcOwn
import HandS.TryOnly
import HandS.WordsExc
import PySem.Challenge.RW_moretold_k82_worth_step_by_step
set_option Elab.async false
set_option linter.all false
set_option maxRecDepth 100000
set_option maxHeartbeats 4000000
/-! GenX: generator expressions, made in a def's body (or in another one's), their elements any code. -/
namespace GX
open PySem PySem.Spec PyProof.Rows L2 GenW
open PySem.W (CodeHd)

/-! ### the around of a generator's frame -/
section
variable {A : Around} {elt : Expr} {gs : List Comprehension} {scope : Scope} {pos : Pos} {it acc : Value} {env : Env}
theorem ov_h : (A.over (.compLoop (.GeneratorExp elt gs scope pos) 0 it acc env) []).handled = A.handled := rfl
theorem ov_d : (A.over (.compLoop (.GeneratorExp elt gs scope pos) 0 it acc env) []).depth = A.depth + 1 := by
  first | rfl | simp [Around.over, frameCount, Code.weight, Code.frames, Code.isFrame]
theorem ov_f {l : List Env} (h : A.frames = some l) : (A.over (.compLoop (.GeneratorExp elt gs scope pos) 0 it acc env) []).frames = some (env :: l) := by
  simp [Around.over, pushEnvs, envsOf, Code.envs, Code.env?, Code.isFrame, h]
theorem ov_u : (A.over (.compLoop (.GeneratorExp elt gs scope pos) 0 it acc env) []).units = A.units + 3 := by
  first | rfl | simp [Around.over, unitsOf, Code.cUnits, Code.frames, Code.isFrame]
theorem ov_room {k : Nat} (hr : Room (k + 1) A) : Room k (A.over (.compLoop (.GeneratorExp elt gs scope pos) 0 it acc env) []) :=
  ⟨by rw [ov_h]; exact hr.hd, by rw [ov_d]; have := hr.dp; omega, by rw [ov_u]; have := hr.un; omega⟩
end

/-! ### tables of code objects -/
abbrev Tb := Addr → Addr → Prop
/-- the code object at c has its table at P -/
def CodeK (base : Heap) (H : Hp) (c P : Addr) : Prop := H c = some (.ext fun h => CodeHd h c P) ∨ CodeHd base c P
theorem codeHd_at {h h' : Heap} {c P : Addr} (x : CodeHd h c P) (k : ∀ o, h.get? c = some o → h'.get? c = some o) : CodeHd h' c P :=
  let ⟨o, vs, file, tf, flags, tg, inF, text, tt, e, r⟩ := x; ⟨o, vs, file, tf, flags, tg, inF, text, tt, k _ e, r⟩
theorem codeHd_get {h : Heap} {c P : Addr} (x : CodeHd h c P) : ∃ o, h.get? c = some o := let ⟨o, _, _, _, _, _, _, _, _, e, _⟩ := x; ⟨o, e⟩
structure TabI (base : Heap) (T : Tb) (H : Hp) : Prop where
  ok : ∀ c P, T c P → CodeK base H c P ∧ ∃ ps : Array Value, H P = some (.tbl ps) ∧ TriplesOk ps.toList ∧ ∀ pos cv, codeAmong pos ps.toList = some cv → ∃ c' P', cv = .ref c' ∧ T c' P'
theorem TabI.hd {X : Cx} {pins : List (Addr × Obj)} {σ : L2.St} {H : Hp} {s : Shared} {T : Tb} {c P : Addr} (t : TabI X.base T H) (I : Inv X pins σ H s) (h : T c P) : CodeHd s.heap c P := by
  rcases (t.ok c P h).1 with e | e
  · exact (I.hok c _ e).1
  · exact e.keeps I.bk
/-- tables and codes stay: so does TabI -/
theorem TabI.stay {base : Heap} {T : Tb} {H H' : Hp} (t : TabI base T H) (k : ∀ a o, H a = some o → (∀ xs, o ≠ .lst xs) → ((∃ ps, o = .tbl ps) ∨ (∃ c P, o = .ext fun h => CodeHd h c P)) → H' a = some o) : TabI base T H' := by
  refine ⟨fun c P h => ?_⟩
  obtain ⟨h1, ps, h2, h3, h4⟩ := t.ok c P h
  refine ⟨?_, ps, k P _ h2 (fun xs e => by cases e) (.inl ⟨ps, rfl⟩), h3, h4⟩
  rcases h1 with e | e
  · exact .inl (k c _ e (fun xs e => by cases e) (.inr ⟨_, _, rfl⟩))
  · exact .inr e

theorem codeAmong_snoc_inv {pos pos' : Pos} {c cv : Value} (l : List Value) (h : TriplesOk l) : codeAmong pos (l ++ [rawInt pos'.line, rawInt pos'.col, c]) = some cv → codeAmong pos l = some cv ∨ cv = c := by
  fun_induction TriplesOk l with
  | case1 =>
    intro e
    simp only [List.nil_append, codeAmong, rawInt] at e
    split at e
    · cases e; exact .inr rfl
    · cases e
  | case2 a t b u x rest ih =>
    intro e
    simp only [List.cons_append, codeAmong] at e ⊢
    split at e
    · rename_i hc; rw [if_pos hc]; exact .inl e
    · rename_i hc; rw [if_neg hc]; exact ih h e
  | case3 l h1 h2 => exact h.elim

section
variable {X : Cx} {pins : List (Addr × Obj)} {σ : L2.St} {H : Hp} {s : Shared}
/-- the table at P grows; new objects; what stood is kept -/
theorem inv_grow {P c' P' : Addr} {ps more : Array Value} {h' : Heap} {t' : Nat} (I : Inv X pins σ H s) (hP : H P = some (.tbl ps)) (k : ∀ b o, b ≠ P → s.heap.get? b = some o → h'.get? b = some o)
    (hm : h'.get? P = some { cls := .none, data := .fields (ps ++ more) }) (hc : s.heap.objs.size ≤ c') (hP' : s.heap.objs.size ≤ P') (hcP : c' ≠ P') (cd : CodeHd h' c' P') (hP2 : h'.get? P' = some { cls := .none, data := .fields #[] }) :
    Inv X pins σ (upd (upd (upd H P (.tbl (ps ++ more))) c' (.ext fun h => CodeHd h c' P')) P' (.tbl #[])) { s with heap := h', toks := t' } := by
  have hPs : P < s.heap.objs.size := I.hok.lt hP
  have lt : ∀ b o, s.heap.get? b = some o → b ≠ c' ∧ b ≠ P' := fun b o e => ⟨Nat.ne_of_lt (Nat.lt_of_lt_of_le (Heap.lt_size e) hc), Nat.ne_of_lt (Nat.lt_of_lt_of_le (Heap.lt_size e) hP')⟩
  have hn1 : H c' = none := I.hok.fresh hc
  have hn2 : H P' = none := I.hok.fresh hP'
  have ltH : ∀ b u, H b = some u → b ≠ c' ∧ b ≠ P' := fun b u e => ⟨ne_of_none e hn1, ne_of_none e hn2⟩
  have hPc : P ≠ c' := (ltH P _ hP).1
  have hPP : P ≠ P' := (ltH P _ hP).2
  have at_ : ∀ b, b ≠ P → b ≠ c' → b ≠ P' → (upd (upd (upd H P (.tbl (ps ++ more))) c' (.ext fun h => CodeHd h c' P')) P' (.tbl #[])) b = H b := fun b h1 h2 h3 => by rw [upd_ne h3, upd_ne h2, upd_ne h1]
  have atP : (upd (upd (upd H P (.tbl (ps ++ more))) c' (.ext fun h => CodeHd h c' P')) P' (.tbl #[])) P = some (.tbl (ps ++ more)) := by rw [upd_ne hPP, upd_ne hPc, upd_same]
  have nP : ∀ b u, H b = some u → (∀ q, u ≠ .tbl q) → b ≠ P := fun b u e q z => by
    rw [z, hP] at e
    exact q ps (Option.some.inj e).symm
  have nN : ∀ b, H b = none → b ≠ P := fun b e z => by
    rw [z, hP] at e
    cases e
  refine I.step (g' := s.gens) (d' := s.drawn) (ch := []) (fun b hb => absurd hb (by simp)) (fun b o _ _ _ e n => k b o (nN b n) e) (fun b o _ _ _ e n => ⟨o.slots, k b o (nN b n) e⟩)
    (fun b o _ e n => by rw [at_ b (nN b n) (lt b o e).1 (lt b o e).2]; exact n) (fun b o _ e => ?_) (fun b xs e => by rw [at_ b (nP b _ e (fun q z => by cases z)) (ltH b _ e).1 (ltH b _ e).2]; exact e)
    (fun b o u e => by rw [at_ b (nP b _ e (fun q z => by cases z)) (ltH b _ e).1 (ltH b _ e).2]; exact e) (fun b qs e => ?_) (fun m hn => ?_) (fun b u e => ?_) I.bare
  · by_cases hb : b = P
    · rw [hb]
      exact ⟨_, hm⟩
    · exact ⟨o, k b o hb e⟩
  · by_cases hb : b = P
    · rw [hb, hP] at e
      cases e
      rw [hb, atP]
      exact ⟨more, rfl⟩
    · rw [at_ b hb (ltH b _ e).1 (ltH b _ e).2, e]
      exact ⟨#[], by simp⟩
  · obtain ⟨ob, es, ep, ho, r⟩ := hn
    exact ⟨ob, es, ep, k _ ob (nN _ I.free) ho, r⟩
  · by_cases hb : b = P'
    · rw [hb, upd_same] at e
      cases e
      rw [hb]
      exact hP2
    · rw [upd_ne hb] at e
      by_cases hb1 : b = c'
      · rw [hb1, upd_same] at e
        cases e
        rw [hb1]
        exact ⟨cd, codeHd_get cd, fun h1 h2 x k => codeHd_at x k⟩
      · rw [upd_ne hb1] at e
        by_cases hb2 : b = P
        · rw [hb2, upd_same] at e
          cases e
          rw [hb2]
          exact hm
        · rw [upd_ne hb2] at e
          refine (I.hok b u e).stay (fun d v hd q => k d v ?_ q) (fun d q => by rw [at_ d (nP d _ q (fun q z => by cases z)) (ltH d _ q).1 (ltH d _ q).2]; exact q)
            fun d xs q => by rw [at_ d (nP d _ q (fun q z => by cases z)) (ltH d _ q).1 (ltH d _ q).2]; exact q
          rcases hd with z | z
          · rw [z]
            exact hb2
          · exact nP d _ z (fun q z => by cases z)
/-- T with one more -/
def TbAdd (T : Tb) (c' P' : Addr) : Tb := fun a b => T a b ∨ (a = c' ∧ b = P')
theorem TabI.grow {base : Heap} {T : Tb} {H : Hp} {P c c' P' : Addr} {ps : Array Value} {pos : Pos} (t : TabI base T H) (hT : T c P) (hP : H P = some (.tbl ps)) (h3 : TriplesOk ps.toList) (hn1 : H c' = none) (hn2 : H P' = none) (hcP : c' ≠ P')
    (h4 : ∀ pos cv, codeAmong pos ps.toList = some cv → ∃ c' P', cv = .ref c' ∧ T c' P') :
    TabI base (TbAdd T c' P') (upd (upd (upd H P (.tbl (ps ++ #[rawInt pos.line, rawInt pos.col, .ref c']))) c' (.ext fun h => CodeHd h c' P')) P' (.tbl #[])) := by
  have ltH : ∀ b u, H b = some u → b ≠ c' ∧ b ≠ P' := fun b u e => ⟨ne_of_none e hn1, ne_of_none e hn2⟩
  have hl : (ps ++ #[rawInt pos.line, rawInt pos.col, Value.ref c']).toList = ps.toList ++ [rawInt pos.line, rawInt pos.col, .ref c'] := by simp
  refine ⟨fun a b hab => ?_⟩
  rcases hab with hab | ⟨rfl, rfl⟩
  · obtain ⟨g1, qs, g2, g3, g4⟩ := t.ok a b hab
    refine ⟨?_, ?_⟩
    · rcases g1 with e | e
      · refine .inl ?_
        have aP : a ≠ P := fun z => by rw [z, hP] at e; cases e
        rw [upd_ne (ltH a _ e).2, upd_ne (ltH a _ e).1, upd_ne aP]; exact e
      · exact .inr e
    · by_cases hb : b = P
      · rw [hb, hP] at g2
        cases g2
        refine ⟨ps ++ #[rawInt pos.line, rawInt pos.col, .ref c'], by rw [hb, upd_ne (ltH P _ hP).2, upd_ne (ltH P _ hP).1, upd_same], by rw [hl]; exact TriplesOk_snoc _ _ _ _ h3, fun po cv h => ?_⟩
        rw [hl] at h
        rcases codeAmong_snoc_inv _ h3 h with h | h
        · obtain ⟨d, D, e1, e2⟩ := h4 po cv h
          exact ⟨d, D, e1, .inl e2⟩
        · exact ⟨c', P', h, .inr ⟨rfl, rfl⟩⟩
      · refine ⟨qs, by rw [upd_ne (ltH b _ g2).2, upd_ne (ltH b _ g2).1, upd_ne hb]; exact g2, g3, fun po cv h => ?_⟩
        obtain ⟨d, D, e1, e2⟩ := g4 po cv h
        exact ⟨d, D, e1, .inl e2⟩
  · refine ⟨.inl (by rw [upd_ne hcP, upd_same]), #[], upd_same, trivial, fun po cv h => ?_⟩
    simp [codeAmong] at h

/-- the code object of a generator expression: met or made -/
theorem genexpr_code {T : Tb} {c P : Addr} {pos : Pos} {q : Str} {scope : Scope} {E : Value → Shared → Prop} {Q : Value → Shared → Prop} (I : Inv X pins σ H s) (t : TabI X.base T H) (hc : X.env.code = .ref c) (hT : T c P)
    (h : ∀ (H' : Hp) (T' : Tb) (c' P' : Addr) (s' : Shared), Inv X pins σ H' s' → TabI X.base T' H' → (∀ a b, T a b → T' a b) → T' c' P' → (∀ b o, H b = some o → (∀ ps, o ≠ .tbl ps) → H' b = some o) → (∀ b, H' b = none → H b = none) →
      (∀ b o, s.heap.get? b = some o → H b = none → s'.heap.get? b = some o ∧ H' b = none) → s.heap.objs.size ≤ s'.heap.objs.size → Q (.ref c') s') :
    wpAny (model X.prog X.w) X.A (genexprCode X.env pos q scope) Q E s := by
  obtain ⟨_, ps, hP, h3, h4⟩ := t.ok c P hT
  have hd := t.hd I hT
  have hPs : s.heap.get? P = some { cls := .none, data := .fields ps } := I.hok P _ hP
  cases hf : codeAmong pos ps.toList with
  | some cv =>
    obtain ⟨c', P', rfl, hT'⟩ := h4 pos cv hf
    exact wpAny_genexprCode_hit hc (hd.code hPs h3) hf (h H T c' P' s I t (fun _ _ z => z) hT' (fun _ _ e _ => e) (fun _ e => e) (fun _ _ e n => ⟨e, n⟩) (Nat.le_refl _))
  | none =>
    refine wpAny_genexprCodeX hc (hd.code hPs h3) (hd.tab hPs) hf fun c' h' tk hx hge hlt hco' _ htab' hnew => ?_
    obtain ⟨P', hP'ge, hcode', htab2⟩ := hnew
    have cd : CodeHd h' c' P' := CodeHd.of hcode' htab2
    have hcP : c' ≠ P' := let ⟨_, _, _, _, _, _, _, _, _, _, _, _, _, _, _, _, _, _, e⟩ := cd; e
    have hP2 : h'.get? P' = some { cls := .none, data := .fields #[] } := htab2.2
    have hm : h'.get? P = some { cls := .none, data := .fields (ps ++ #[rawInt pos.line, rawInt pos.col, .ref c']) } := htab'.2
    have hn1 : H c' = none := I.hok.fresh hge
    have hn2 : H P' = none := I.hok.fresh hP'ge
    have J := inv_grow (t' := tk) I hP (fun b o hb e => hx b o hb e) hm hge hP'ge hcP cd hP2
    have ltH : ∀ b u, H b = some u → b ≠ c' ∧ b ≠ P' := fun b u e => ⟨ne_of_none e hn1, ne_of_none e hn2⟩
    refine h _ (TbAdd T c' P') c' P' _ J (t.grow (pos := pos) hT hP h3 hn1 hn2 hcP h4) (fun _ _ z => .inl z) (.inr ⟨rfl, rfl⟩) (fun b o e hb => ?_) (fun b e => ?_) (fun b o e n => ?_) (Nat.le_trans hge (Nat.le_of_lt hlt))
    · have bP : b ≠ P := fun z => by rw [z, hP] at e; exact hb ps (Option.some.inj e).symm
      rw [upd_ne (ltH b _ e).2, upd_ne (ltH b _ e).1, upd_ne bP]; exact e
    · by_cases hb : b = P'
      · rw [hb, upd_same] at e; cases e
      · rw [upd_ne hb] at e
        by_cases hb1 : b = c'
        · rw [hb1, upd_same] at e; cases e
        · rw [upd_ne hb1] at e
          by_cases hb2 : b = P
          · rw [hb2, upd_same] at e; cases e
          · rw [upd_ne hb2] at e; exact e
    · have bP : b ≠ P := fun z => by rw [z, hP] at n; cases n
      have b1 : b ≠ c' := Nat.ne_of_lt (Nat.lt_of_lt_of_le (Heap.lt_size e) hge)
      have b2 : b ≠ P' := Nat.ne_of_lt (Nat.lt_of_lt_of_le (Heap.lt_size e) hP'ge)
      exact ⟨hx b o bP e, by rw [upd_ne b2, upd_ne b1, upd_ne bP]; exact n⟩
end
end GX

set_option maxRecDepth 100000
set_option maxHeartbeats 4000000
namespace GX
open PySem PySem.Spec PyProof.Rows L2 GenW
open PySem.W (CodeHd)

abbrev gxEnv (X : Cx) (scope : Scope) (L : Addr) (cl : List (Str × Addr)) (q : Str) (code : Value) : Env := newEnv scope L X.env.globals cl q none code none builtinsNs
/-- the context of a generator expression's body -/
abbrev gx (X : Cx) (s : Shared) (H : Hp) (scope : Scope) (L : Addr) (cl : List (Str × Addr)) (q : Str) (code : Value) (fp : List Addr) (pn : List (Addr × Obj)) (A : Around) : Cx :=
  { X with A := A, s_0 := s, H_0 := H, env := gxEnv X scope L cl q code, outer := X.stack, stack := gxEnv X scope L cl q code :: X.stack, ex := fp, fn := fun x => scope.names.lookup x == some .cell, pn := pn, xe := fun _ _ => False }
section
variable {X : Cx} {pins : List (Addr × Obj)} {σ : L2.St} {H : Hp} {s : Shared}
theorem gx_start {scope : Scope} {own : List (Str × Nat)} {fp : List Addr} {pn : List (Addr × Obj)} {A : Around} {code : Value} {q : Str} {s5 : Shared} (I : Inv X pins σ H s) (ok : BlkOk X.N X.env.scope scope own) (hN : X.N.Nodup)
    (hfp : ∀ b ∈ fp, FpOk X pins H b ∧ b < s.heap.objs.size) (hh : A.handled = none)
    (hfr : A.frames = some (gxEnv X scope s.heap.objs.size (cellsFrom (s.heap.objs.size + 1) scope.names (cloFrom X.env.cells scope.names [])) q code :: X.stack))
    (os : s5.os = s.os) (bare : AllBare s5.gens) (kp : ∀ b o, s.heap.get? b = some o → s5.heap.get? b = some o) (ns : ∃ m, s5.heap.Ns s.heap.objs.size m)
    (cls : ∀ y c, (y, c) ∈ cellsFrom (s.heap.objs.size + 1) scope.names (cloFrom X.env.cells scope.names []) → s.heap.objs.size + 1 ≤ c → ∃ v, s5.heap.IsCell c v)
    (hpn : ∀ p ∈ pn, s5.heap.get? p.1 = some p.2 ∧ H p.1 = none ∧ p.1 ≠ s.heap.objs.size ∧ p.1 ∉ frs X.stack ∧ ∀ v, p.2.data ≠ .cell v) :
    Inv (gx X s H scope s.heap.objs.size (cellsFrom (s.heap.objs.size + 1) scope.names (cloFrom X.env.cells scope.names [])) q code fp pn A) [] (wipe σ (own.map (·.2))) H s5 := by
  have hfree : ∀ y ∈ scope.names, y.2 = .free → ∃ c, X.env.cells.lookup y.1 = some c := fun y hy e => by
    rcases ok.free y hy e with k | k
    · exact I.ok.has _ (.inl k)
    · exact I.ok.has _ (.inr k)
  generalize hcenv : gxEnv X scope s.heap.objs.size (cellsFrom (s.heap.objs.size + 1) scope.names (cloFrom X.env.cells scope.names [])) q code = cenv at *
  have hL : cenv.locals = s.heap.objs.size := by rw [← hcenv]; rfl
  have hfrm : cenv.frame = some cenv.locals := by rw [← hcenv]; rfl
  have hcl : cenv.cells = cellsFrom (s.heap.objs.size + 1) scope.names (cloFrom X.env.cells scope.names []) := by rw [← hcenv]; rfl
  have hsc : cenv.scope = scope := by rw [← hcenv]; rfl
  have hcl0 := hcl
  rw [← Heap.size_push s.heap { cls := .type "frame", data := .dict #[] }] at hcl
  have cm : ∀ {y c}, (y, c) ∈ cloFrom X.env.cells scope.names [] → X.env.cells.lookup y = some c ∧ c < s.heap.objs.size := fun {y c} hm => by
    rcases cloFrom_mem hm with hm | ⟨h1, rfl⟩
    · cases hm
    · obtain ⟨c, hc⟩ := hfree _ h1 rfl
      rw [hc]
      obtain ⟨w, z⟩ := I.cell _ _ hc
      exact ⟨rfl, z.lt⟩
  have mem : ∀ {y c}, cenv.cells.lookup y = some c → (X.env.cells.lookup y = some c ∧ c < s.heap.objs.size) ∨ (s.heap.objs.size + 1 ≤ c ∧ ∃ v, s5.heap.IsCell c v) := fun {y c} e => by
    have e0 := e
    rw [hcl] at e
    rcases cells_mem (PySem.mem_of_lookup e) with hm | ⟨_, h2, h3⟩
    · exact .inl (cm hm)
    · rw [Heap.size_push] at h2
      rw [hcl0] at e0
      exact .inr ⟨h2, cls y c (PySem.mem_of_lookup e0) h2⟩
  have look : ∀ {y}, scope.names.lookup y = some .free → ∃ c, cenv.cells.lookup y = some c ∧ X.env.cells.lookup y = some c := fun {y} hl => by
    have hy : (y, NameKind.free) ∈ scope.names := PySem.mem_of_lookup hl
    obtain ⟨c', e'⟩ := mem_lookup (cells_acc (names := scope.names) (n := (s.heap.push { cls := .type "frame", data := .dict #[] }).objs.size) (cloFrom_has (cells := X.env.cells) (acc := []) hy))
    rw [← hcl] at e'
    refine ⟨c', e', ?_⟩
    rw [hcl] at e'
    rcases cells_mem (PySem.mem_of_lookup e') with hm | ⟨h1, _, _⟩
    · exact (cm hm).1
    · have := ok.uniq _ h1
      rw [hl] at this; cases this
  have okB : (gx X s H scope s.heap.objs.size (cellsFrom (s.heap.objs.size + 1) scope.names (cloFrom X.env.cells scope.names [])) q code fp pn A).Ok := by
    unfold gx
    rw [hcenv]
    refine ⟨I.ok.mod, by show cenv.scope.kind = _; rw [hsc]; exact ok.kind, by show cenv.globals = _; rw [← hcenv]; exact I.ok.glob, by show cenv.builtins = _; rw [← hcenv]; rfl, by show s.heap.objs.size ≤ cenv.locals; rw [hL]; exact Nat.le_refl _,
      fun y z c e1 e2 => ?_, fun y hy => ?_, fun y c z e => ?_, fun _ => hh, hfr, .inr ⟨rfl, hfrm⟩, fun b hb => ⟨?_, fun y c e z => ?_⟩, I.bs, Nat.le_trans I.ok.bsz I.sz, fun b o e hb => ?_, fun b hb z => ?_, I.stack, I.stkFree⟩
    · have e1 : cenv.cells.lookup y = some c := e1
      have e2 : cenv.cells.lookup z = some c := e2
      rw [hcl] at e1 e2
      refine cells_inj (fun p hp => ?_) (fun y z c a b => I.ok.inj y z c (cm a).1 (cm b).1) (PySem.mem_of_lookup e1) (PySem.mem_of_lookup e2)
      rw [Heap.size_push]
      exact Nat.lt_succ_of_lt (cm (y := p.1) (c := p.2) hp).2
    · show ∃ c, cenv.cells.lookup y = some c
      have key : ∀ k, cenv.kindOf y = some k → (k = .cell ∨ k = .free) → ∃ c, cenv.cells.lookup y = some c := fun k hk hk' => by
        unfold Env.kindOf at hk
        rw [hsc] at hk
        rcases hk' with rfl | rfl
        · obtain ⟨c, hm⟩ := cells_has (n := (s.heap.push { cls := .type "frame", data := .dict #[] }).objs.size) (acc := cloFrom X.env.cells scope.names []) (PySem.mem_of_lookup hk)
          obtain ⟨c', e'⟩ := mem_lookup hm
          exact ⟨c', by rw [hcl]; exact e'⟩
        · obtain ⟨c, h1, _⟩ := look hk
          exact ⟨c, h1⟩
      rcases hy with hy | hy
      · exact key _ hy (.inl rfl)
      · exact key _ hy (.inr rfl)
    · have z : (scope.names.lookup y == some NameKind.cell) = true := z
      have z : scope.names.lookup y = some .cell := by simpa using z
      have e : cenv.cells.lookup y = some c := e
      rw [hcl] at e
      rcases cells_mem (PySem.mem_of_lookup e) with hm | ⟨_, h2, _⟩
      · rcases cloFrom_mem hm with hm | ⟨h1, _⟩
        · cases hm
        · have q := ok.uniq _ h1
          rw [z] at q; cases q
      · rw [Heap.size_push] at h2
        exact Nat.le_of_succ_le h2
    · show b ≠ cenv.locals
      rw [hL]; exact Nat.ne_of_lt (hfp b hb).2
    · have e : cenv.cells.lookup y = some c := e
      rcases mem e with ⟨h1, _⟩ | ⟨h1, _⟩
      · exact (hfp b hb).1.2.2.2.2.1 y c h1 z
      · have h2 : s.heap.objs.size + 1 ≤ b := by rw [← z]; exact h1
        exact absurd (Nat.lt_of_lt_of_le (hfp b hb).2 (Nat.le_of_succ_le h2)) (Nat.lt_irrefl _)
    · rcases (hfp b hb).1.2.2.2.1 with z | z
      · exact I.ok.noex b o e z
      · exact absurd (Nat.lt_of_lt_of_le (Heap.lt_size e) (Nat.le_trans I.ok.bsz z)) (Nat.lt_irrefl _)
    · rcases List.mem_cons.mp (I.stkSub b z) with z | z
      · exact (hfp b hb).1.2.1 z
      · exact (hfp b hb).1.2.2.1 z
  obtain ⟨m0, hn0⟩ := ns
  refine ⟨okB, os, bare, Un.kept kp, ⟨m0, ?_, fun i y av e1 e2 e3 => ?_⟩, fun y c e => ?_, ?_, fun y c e => ?_, fun p hp => ?_, I.hok.kept kp, by rw [wipe_length]; exact I.len⟩
  · exact hn0
  · obtain ⟨e2, hne⟩ := wipe_some e2
    have hfr : scope.names.lookup y = some .free ∧ cenv.kindOf y = some .free := by
      have key : ∀ k, cenv.scope.names.lookup y = some k → k = .local ∨ k = .cell ∨ k = .free → scope.names.lookup y = some .free ∧ cenv.kindOf y = some .free := fun k hk hk' => by
        have hk0 := hk
        rw [hsc] at hk
        have no : ¬ (k = .local ∨ k = .cell) := fun hh => by
          rcases ok.own _ (PySem.mem_of_lookup hk) hh with e' | e'
          · obtain ⟨p, hp, hpy⟩ := List.mem_map.mp e'
            have e3 := ok.ix p hp
            have : p.1 = y := hpy
            rw [this] at e3
            exact hne (List.mem_map.mpr ⟨p, hp, nodup_ix hN e3 e1⟩)
          · exact e' (List.mem_of_getElem? e1)
        rcases hk' with rfl | rfl | rfl
        · exact absurd (.inl rfl) no
        · exact absurd (.inr rfl) no
        · exact ⟨hk, hk0⟩
      have e3 : Vis scope y := e3
      rw [← hsc] at e3
      rcases e3 with e3 | e3 | e3
      · exact key _ e3 (.inl rfl)
      · exact key _ e3 (.inr (.inl rfl))
      · exact key _ e3 (.inr (.inr rfl))
    obtain ⟨m, hn, hl⟩ := I.loc
    have hvis : Vis X.env.scope y := (ok.free _ (PySem.mem_of_lookup hfr.1) rfl).elim (fun k => .inr (.inl k)) (fun k => .inr (.inr k))
    obtain ⟨w, r, q⟩ := hl i y av e1 e2 hvis
    obtain ⟨c, h1, h2⟩ := look hfr.1
    rw [hcl0] at h1
    refine ⟨w, r, .inr ⟨.inr hfr.1, ?_⟩⟩
    rcases q with ⟨k, _⟩ | ⟨_, c', e', z⟩
    · have k : X.env.scope.names.lookup y = some .local := k
      rcases ok.free _ (PySem.mem_of_lookup hfr.1) rfl with k' | k' <;> rw [show X.env.scope.names.lookup y = _ from k'] at k <;> cases k
    · rw [h2] at e'; cases e'
      exact ⟨c, h1, z.keeps kp⟩
  · have e : cenv.cells.lookup y = some c := by rw [hcl0]; exact e
    rcases mem e with ⟨h1, _⟩ | ⟨_, z⟩
    · obtain ⟨w, z⟩ := I.cell y c h1
      exact ⟨w, z.keeps kp⟩
    · exact z
  · exact I.hok.fresh (Nat.le_refl _)
  · have e : cenv.cells.lookup y = some c := by rw [hcl0]; exact e
    rcases mem e with ⟨h1, _⟩ | ⟨h1, _⟩
    · exact I.freeC y c h1
    · exact I.hok.fresh (Nat.le_of_succ_le h1)
  · have hp' : p ∈ pn := by
      rcases List.mem_append.mp hp with z | z
      · exact z
      · exact absurd z (by simp)
    exact hpn p hp'
end
end GX

set_option maxRecDepth 100000
set_option maxHeartbeats 4000000
namespace GX
open PySem PySem.Spec PyProof.Rows L2 GenW
open PySem.W (CodeHd)

/-- the consumer's objects at Cs; at So, if it fills a list, what is out so far -/
def PinOk (So : Option Addr) (Cs : List Addr) (ys : List V) (pins : List (Addr × Obj)) : Prop :=
  pins.map (·.1) = Cs ∧ ∀ S, So = some S → ∃ (acc : Array Value) (c : Nat), (S, lstObj acc c) ∈ pins ∧ Vals ys acc.toList
def GIo (X : Cx) (So : Option Addr) (Cs : List Addr) (ys : List V) (σ : L2.St) (H : Hp) (s : Shared) : Prop := ∃ pins, PinOk So Cs ys pins ∧ Inv X pins σ H s
def NoCell (o : Obj) : Prop := ∀ v, o.data ≠ .cell v
/-- while the generator sleeps -/
structure Slo (So : Option Addr) (Cs : List Addr) (v : Value) (s s' : Shared) : Prop where
  os : s'.os = s.os
  bare : AllBare s'.gens
  keep : ∀ b o, b ∉ Cs → s.heap.get? b = some o → s'.heap.get? b = some o
  own : ∀ b ∈ Cs, ∀ o, s.heap.get? b = some o → NoCell o → ∃ o', s'.heap.get? b = some o' ∧ NoCell o' ∧ (So = some b → ∀ acc c, o = lstObj acc c → ∃ c', o' = lstObj (acc.push v) c')
def ApartC (X : Cx) (Cs : List Addr) : Prop := ∀ b ∈ Cs, X.s_0.heap.objs.size ≤ b ∧ b ≠ X.env.locals ∧ (∀ x c, X.env.cells.lookup x = some c → c ≠ b) ∧ ∀ p ∈ X.pn, p.1 ≠ b

theorem GIo.woken {X : Cx} {So : Option Addr} {Cs : List Addr} {ys : List V} {x : V} {v : Value} {σ : L2.St} {H : Hp} {s s' : Shared} (hnd : Cs.Nodup) (hA : ApartC X Cs) (hSo : ∀ S, So = some S → S ∈ Cs) (h : GIo X So Cs ys σ H s) (rv : RelV x v) (z : Slo So Cs v s s') :
    GIo X So Cs (ys ++ [x]) σ H s' := by
  obtain ⟨pins, ⟨hp1, hp2⟩, I⟩ := h
  have I0 : Inv X [] σ H s := I.pins_of fun p hp => absurd hp (by simp)
  have at_ : ∀ p ∈ pins, s.heap.get? p.1 = some p.2 ∧ H p.1 = none ∧ p.1 ≠ X.env.locals ∧ p.1 ∉ X.fs ∧ NoCell p.2 := fun p hp => I.pin p (List.mem_append_right _ hp)
  have cs : ∀ b ∈ Cs, ∃ o, (b, o) ∈ pins := fun b hb => by
    rw [← hp1] at hb
    obtain ⟨p, hp, e⟩ := List.mem_map.mp hb
    exact ⟨p.2, by rw [← e]; exact hp⟩
  have csn : ∀ b ∈ Cs, H b = none := fun b hb => by
    obtain ⟨o, ho⟩ := cs b hb
    exact (at_ _ ho).2.1
  have nt : ∀ b u, H b = some u → b ∉ Cs := fun b u q hb => by rw [csn b hb] at q; cases q
  have mk : ∀ b ∈ Cs, ∃ o', s'.heap.get? b = some o' ∧ NoCell o' := fun b hb => by
    obtain ⟨o, ho⟩ := cs b hb
    obtain ⟨e1, _, _, _, e2⟩ := at_ _ ho
    obtain ⟨o', f1, f2, _⟩ := z.own b hb o e1 e2
    exact ⟨o', f1, f2⟩
  obtain ⟨z1, z2, z3, z4⟩ := z
  obtain ⟨hh, g, d, t, o⟩ := s'
  have ho : o = s.os := z1
  subst ho
  have J : Inv X [] σ H { s with heap := hh, gens := g, drawn := d, toks := t } := by
    refine I0.step (g' := g) (t' := t) (d' := d) (ch := Cs) (fun b hb => ?_)
      (fun b ob _ _ hc q _ => z3 b ob hc q) (fun b ob _ _ hc q _ => ⟨ob.slots, z3 b ob hc q⟩) (fun _ _ _ _ n => n) (fun b ob hc q => ⟨ob, z3 b ob hc q⟩)
      (fun _ _ q => q) (fun _ _ _ q => q) (fun b ps q => ⟨#[], by rw [q]; simp⟩) (fun m hm => ?_) (fun b u q => ?_) z2
    · obtain ⟨a1, a2, a3, a4⟩ := hA b hb
      refine ⟨.inr a1, a2, a3, fun p hp => ?_⟩
      rcases List.mem_append.mp hp with hp | hp
      · exact a4 p hp
      · exact absurd hp (by simp)
    · obtain ⟨ob, es, ep, ho, r⟩ := hm
      exact ⟨ob, es, ep, z3 _ ob (fun hm => (hA _ hm).2.1 rfl) ho, r⟩
    · refine (I0.hok b u q).stay (fun c v hc y => z3 c v ?_ y) (fun _ y => y) fun _ _ y => y
      rcases hc with y | y
      · rw [y]; exact nt b u q
      · exact nt c _ y
  -- the new pins
  have mk2 : ∀ l : List (Addr × Obj), (∀ p ∈ l, p ∈ pins) → (l.map (·.1)).Nodup → ∃ l' : List (Addr × Obj), l'.map (·.1) = l.map (·.1) ∧ (∀ p ∈ l', hh.get? p.1 = some p.2 ∧ NoCell p.2 ∧ p.1 ∈ Cs) ∧
      ∀ S, So = some S → ∀ acc c, (S, lstObj acc c) ∈ l → ∃ c', (S, lstObj (acc.push v) c') ∈ l' := by
    intro l
    induction l with
    | nil => intro _ _; exact ⟨[], rfl, fun p hp => absurd hp (by simp), fun S _ acc c hp => absurd hp (by simp)⟩
    | cons p r ih =>
      intro hm hn
      obtain ⟨l', h1, h2, h3⟩ := ih (fun q hq => hm q (List.mem_cons_of_mem _ hq)) (List.nodup_cons.mp hn).2
      have hp := hm p List.mem_cons_self
      have hb : p.1 ∈ Cs := by rw [← hp1]; exact List.mem_map.mpr ⟨p, hp, rfl⟩
      obtain ⟨e1, _, _, _, e2⟩ := at_ p hp
      obtain ⟨o', f1, f2, f3⟩ := z4 p.1 hb p.2 e1 e2
      refine ⟨(p.1, o') :: l', by simp [h1], fun q hq => ?_, fun S hS acc c hq => ?_⟩
      · rcases List.mem_cons.mp hq with rfl | hq
        · exact ⟨f1, f2, hb⟩
        · exact h2 q hq
      · rcases List.mem_cons.mp hq with e | hq
        · obtain ⟨c', e'⟩ := f3 (by rw [← e]; exact hS) acc c (by rw [← e])
          refine ⟨c', ?_⟩
          rw [← e', ← e]
          exact List.mem_cons_self
        · obtain ⟨c', h⟩ := h3 S hS acc c hq
          exact ⟨c', List.mem_cons_of_mem _ h⟩
  obtain ⟨pins', q1, q2, q3⟩ := mk2 pins (fun _ h => h) (by rw [hp1]; exact hnd)
  refine ⟨pins', ⟨by rw [q1, hp1], fun S hS => ?_⟩, J.pins_of fun p hp => ?_⟩
  · obtain ⟨acc, c, m1, m2⟩ := hp2 S hS
    obtain ⟨c', m3⟩ := q3 S hS acc c m1
    refine ⟨acc.push v, c', m3, ?_⟩
    rw [Array.toList_push]
    exact m2.append (.cons rv .nil)
  · obtain ⟨e1, e2, e3⟩ := q2 p hp
    obtain ⟨o, ho⟩ := cs p.1 e3
    obtain ⟨_, b1, b2, b3, _⟩ := at_ _ ho
    exact ⟨e1, b1, b2, b3, e2⟩

/-! ### the run -/
def YO (X : Cx) (So : Option Addr) (Cs : List Addr) (N : Nat) (Qy : List V → V → Hp → Prop) (Rs : List V → V → Prop) : Protocol := fun n s₀ v s kap =>
  ∃ ys x σ H, n + 1 + ys.length = N ∧ RelV x v ∧ GIo X So Cs ys σ H s ∧ Qy ys x H ∧ (Rs ys x → ∀ s', Slo So Cs v s s' → kap (.send .none) s')
def RO (X : Cx) (So : Option Addr) (Cs : List Addr) (N : Nat) (Qe : List V → Hp → Prop) : GenEnd := fun n s₀ r s => r = .ok .next ∧ ∃ ys σ H, n + ys.length = N ∧ GIo X So Cs ys σ H s ∧ Qe ys H
def GTurn (J : It) (g : TG) (tt : TT) (te : TE) (vs : List Nat) (σg : L2.St) (N : Nat) (Qy : List V → V → Hp → Prop) (Rs : List V → V → Prop) (Qe : List V → Hp → Prop) (W : Nat → Nat → List V → Hp → Prop) : Prop :=
  ∀ i m ys H, W i m ys H → (J.stop i H ∧ Qe ys H) ∨ (J.go i H ∧ ∀ x H', J.yld i H x H' → g x σg H' fun σ2 H2 => wipe σ2 vs = σg ∧ tt σ2 H2 fun b H3 =>
    if b = true then te σ2 H3 fun y H4 => ys.length < N ∧ Qy ys y H4 ∧ (Rs ys y → ∃ m', m' < m ∧ W (i + 1) m' (ys ++ [y]) H4) else ∃ m', m' < m ∧ W (i + 1) m' ys H3)

section
variable {X : Cx} {elt tg iter : Expr} {ifs : List Expr} {scope : Scope} {pos : Pos} {it : Addr} {fp : List Addr} {tn : Nat → Heap → Prop} {J : It} {g : TG} {tt : TT} {te : TE} {vs : List Nat} {σg : L2.St} {N : Nat}
  {Qy : List V → V → Hp → Prop} {Rs : List V → V → Prop} {Qe : List V → Hp → Prop} {W : Nat → Nat → List V → Hp → Prop} {So : Option Addr} {Cs : List Addr} {A : Around}
theorem fp_ok {pins : List (Addr × Obj)} {σ : L2.St} {H : Hp} {s : Shared} (I : Inv X pins σ H s) (hn : ∀ b ∈ fp, H b = none) (hex : X.ex = fp) (hp : ∀ b ∈ fp, ∀ p ∈ X.pn ++ pins, p.1 ≠ b) : ∀ b ∈ fp, FpOk X pins H b := fun b hb =>
  have hb' : b ∈ X.ex := by rw [hex]; exact hb
  ⟨hn b hb, (I.ok.exf b hb').1, I.ok.exfs b hb', .inl hb', fun x c e => (I.ok.exf b hb').2 x c e, hp b hb⟩
theorem seg_loop (hA : A.over (.compLoop (.GeneratorExp elt [⟨tg, iter, ifs, 0⟩] scope pos) 0 (.ref it) .none X.env) [] = X.A) (hc : X.calm = true) (hex : X.ex = fp) (hxe : X.xe = fun _ _ => False) (hco : X.env.scope.isCoroutine = false)
    (T : Turn X.prog X.w X.K tg J fp it tn) (hnd : Cs.Nodup) (hAp : ApartC X Cs) (hSo : ∀ S, So = some S → S ∈ Cs) (hfpC : ∀ b ∈ fp, b ∉ Cs ∧ ∀ p ∈ X.pn, p.1 ≠ b)
    (pg : PG X tg g) (pt : PTs X ifs tt) (pe : PE X elt te) (turn : GTurn J g tt te vs σg N Qy Rs Qe W) (hlen : σg.length = X.N.length) :
    ∀ (m i n : Nat) (ys : List V) (s₀ s : Shared) (H : Hp), W i m ys H → n + ys.length = N → GIo X So Cs ys σg H s → tn i s.heap → (∀ b ∈ fp, H b = none) →
      Seg (model X.prog X.w) A (RO X So Cs N Qe) (YO X So Cs N Qy Rs) n s₀ (.compLoop (.GeneratorExp elt [⟨tg, iter, ifs, 0⟩] scope pos) 0 (.ref it) .none X.env)
        ((model X.prog X.w).den (.compLoop (.GeneratorExp elt [⟨tg, iter, ifs, 0⟩] scope pos) 0 (.ref it) .none X.env)) [] s := by
  intro m
  induction m using Nat.strongRecOn with
  | ind m ih =>
    intro i n ys s₀ s H w hn hI st nfp
    obtain ⟨pins, hpin, I⟩ := hI
    have hpo : ∀ {pins'}, PinOk So Cs ys pins' → ∀ b ∈ fp, ∀ p ∈ X.pn ++ pins', p.1 ≠ b := fun {pins'} hp b hb p hp' e => by
      rcases List.mem_append.mp hp' with z | z
      · exact (hfpC b hb).2 p z e
      · refine (hfpC b hb).1 ?_
        rw [← hp.1, ← e]
        exact List.mem_map.mpr ⟨p, z, rfl⟩
    show Seg _ A _ _ _ s₀ _ ((compTurn (.GeneratorExp elt [⟨tg, iter, ifs, 0⟩] scope pos) 0 (.ref it) .none X.env).onRaise (leaving X.env)) [] s
    rw [compTurn_gen, Sem.onRaise_eq_wrap]
    refine seg_bind_wrap (wpAny_standAt ?_)
    rcases turn i m ys H w with ⟨stop, qq⟩ | ⟨go, step⟩
    · refine seg_bind_wrap ?_
      rw [hA]
      refine wpAny_mono (T.done X rfl rfl rfl hc i pins s σg H (fun _ _ => False) I (fp_ok I nfp hex (hpo hpin)) st stop) (fun r s1 hr => ?_) fun _ _ z => z.elim
      obtain ⟨hr, I1⟩ := hr
      subst hr
      exact seg_end (.ok .next) ⟨rfl, ys, σg, H, hn, ⟨pins, hpin, I1⟩, qq⟩
    · refine seg_bind_wrap ?_
      rw [hA]
      refine wpAny_mono (T.item X rfl rfl rfl hc i pins s σg H (fun _ _ => False) I (fp_ok I nfp hex (hpo hpin)) st go) (fun r s1 hr => ?_) fun _ _ z => z.elim
      obtain ⟨u, hr, hgo⟩ := hr
      subst hr
      refine seg_bind_wrap ?_
      rw [hA]
      refine wpAny_mono hgo (fun _ s2 h2 => ?_) fun _ _ z => z.elim
      obtain ⟨x, H', I2, rx, hy, st2, nfp2⟩ := h2
      refine seg_bind_wrap ?_
      rw [hA]
      have fo2 := fp_ok I2 nfp2 hex (hpo hpin)
      have I2' := I2.pinned fo2 (T.obj _ _ st2)
      refine wpAny_mono (pg.run _ s2 σg H' x u _ I2' rx (step x H' hy)) (fun _ s3 h3 => ?_) fun e s' z => by rw [hxe] at z; exact z.elim
      obtain ⟨σ3, H3, I3, hw3, q3⟩ := h3
      -- what a turn's end has
      have fin : ∀ {s' : Shared} {H' : Hp}, Inv X (pins ++ pinsAt fp s2.heap) σ3 H' s' → Inv X pins σg H' s' ∧ tn (i + 1) s'.heap ∧ ∀ b ∈ fp, H' b = none := fun {s' H'} I' => by
        have pin' : ∀ b ∈ fp, ∀ o, s2.heap.get? b = some o → s'.heap.get? b = some o ∧ H' b = none := fun b hb o e =>
          let z := I'.pin (b, o) (List.mem_append_right _ (List.mem_append_right _ (mem_pinsAt hb e)))
          ⟨z.1, z.2.1⟩
        have hl : σg.length = σ3.length := by rw [← hw3, wipe_length]
        refine ⟨(I'.unpinned (pins := pins)).weak hl (fun j v e => ?_), T.keep _ _ _ st2 fun b hb o e => (pin' b hb o e).1, fun b hb => ?_⟩
        · rw [← hw3] at e
          exact (wipe_some e).1
        · obtain ⟨o, e, _⟩ := T.obj _ _ st2 b hb
          exact (pin' b hb o e).2
      refine seg_bind_wrap ?_
      rw [hA]
      refine wpAny_mono (pt.run _ s3 σ3 H3 _ I3 q3) (fun b s4 h4 => ?_) fun e s' z => by rw [hxe] at z; exact z.elim
      obtain ⟨H4, I4, q4⟩ := h4
      cases b with
      | false =>
        simp only [Bool.false_eq_true, if_false] at q4 ⊢
        obtain ⟨m', hm, w'⟩ := q4
        obtain ⟨I5, st5, n5⟩ := fin I4
        exact seg_again rfl (ih m' hm (i + 1) n ys s₀ s4 H4 w' hn ⟨pins, hpin, I5⟩ st5 n5)
      | true =>
        simp only [if_true] at q4 ⊢
        have hy' : ∀ v, yieldOut X.env v = yieldValue v := fun v => by simp only [yieldOut, hco, Bool.false_eq_true, if_false]
        simp only [hy']
        rw [Sem.bind_eq_wrap', Sem.bind_eq_wrap', Sem.wrap_wrap, Sem.wrap_wrap]
        refine seg_wrap ?_
        rw [hA]
        refine wpAny_mono (pe.run _ s4 σ3 H4 _ I4 q4) (fun z s5 h5 => ?_) fun e s' z => by rw [hxe] at z; exact z.elim
        obtain ⟨y, H5, I5, ry, hlt, hQy, hnext⟩ := h5
        obtain ⟨I6, st6, n6⟩ := fin I5
        obtain ⟨n, rfl⟩ : ∃ k, n = k + 1 := ⟨n - 1, by omega⟩
        have G6 : GIo X So Cs ys σg H5 s5 := ⟨pins, hpin, I6⟩
        refine seg_at (seg_yield rfl rfl rfl ⟨ys, y, σg, H5, hn, ry, G6, hQy, fun hrs s'' hsl => ?_⟩)
        obtain ⟨m', hm, w'⟩ := hnext hrs
        refine seg_again rfl (ih m' hm (i + 1) n (ys ++ [y]) s'' s'' H5 w' (by rw [List.length_append, List.length_singleton]; omega) (G6.woken hnd hAp hSo ry hsl) ?_ n6)
        exact T.keep _ _ _ st6 fun b hb o e => hsl.keep b o (hfpC b hb).1 e
theorem seg_start (hA : A.over (.compLoop (.GeneratorExp elt [⟨tg, iter, ifs, 0⟩] scope pos) 0 (.ref it) .none X.env) [] = X.A) (hc : X.calm = true) (hex : X.ex = fp) (hxe : X.xe = fun _ _ => False) (hco : X.env.scope.isCoroutine = false)
    (T : Turn X.prog X.w X.K tg J fp it tn) (hnd : Cs.Nodup) (hAp : ApartC X Cs) (hSo : ∀ S, So = some S → S ∈ Cs) (hfpC : ∀ b ∈ fp, b ∉ Cs ∧ ∀ p ∈ X.pn, p.1 ≠ b)
    (pg : PG X tg g) (pt : PTs X ifs tt) (pe : PE X elt te) (turn : GTurn J g tt te vs σg N Qy Rs Qe W) (hlen : σg.length = X.N.length)
    {m n : Nat} {ys : List V} {s₀ s : Shared} {H : Hp} (w : W 0 m ys H) (hn : n + ys.length = N) (hI : GIo X So Cs ys σg H s) (st : tn 0 s.heap) (nfp : ∀ b ∈ fp, H b = none) :
      Seg (model X.prog X.w) A (RO X So Cs N Qe) (YO X So Cs N Qy Rs) n s₀ (.compStart (.GeneratorExp elt [⟨tg, iter, ifs, 0⟩] scope pos) 0 (.ref it) .none X.env)
        ((model X.prog X.w).den (.compStart (.GeneratorExp elt [⟨tg, iter, ifs, 0⟩] scope pos) 0 (.ref it) .none X.env)) [] s := by
  have loop := seg_loop (So := So) (Cs := Cs) (Qy := Qy) (Rs := Rs) (Qe := Qe) hA hc hex hxe hco T hnd hAp hSo hfpC pg pt pe turn hlen m 0 n ys s₀ s H w hn hI st nfp
  show Seg _ A _ _ _ s₀ _ ((compStart (.GeneratorExp elt [⟨tg, iter, ifs, 0⟩] scope pos) 0 (.ref it) .none X.env).onRaise (leaving X.env)) [] s
  unfold compStart
  rw [Sem.onRaise_eq_wrap]
  show Seg _ A _ _ _ s₀ _ ((ask >>= _).wrap _ _ _ _) [] s
  refine seg_bind_wrap (wpAny_askSetting ?_)
  split
  · exact seg_again rfl loop
  · first
      | exact seg_bind_wrap (wpAny_rule (seg_bind_wrap (wpAny_standAt (seg_bind_wrap (T.self _ 0 s _ _ st (seg_again rfl loop))))))
      | (refine seg_bind_wrap (wpAny_rule ?_); show Seg _ A _ _ _ s₀ _ ((standAt iter.pos >>= _).wrap _ _ _ _) [] s; exact seg_bind_wrap (wpAny_standAt (seg_bind_wrap (T.self _ 0 s _ _ st (seg_again rfl loop)))))
end
end GX

set_option maxRecDepth 100000
set_option maxHeartbeats 4000000
set_option pp.maxSteps 900
namespace GX
open PySem PySem.Spec PyProof.Rows L2 GenW
open PySem.W (CodeHd)

theorem newEnv_gx {M : Model} {A : Around} {E : Value → Shared → Prop} {s : Shared} {scope : Scope} {globals : Addr} {clo : List (Str × Addr)} {qual : Str} {code : Value} {builtins : Addr} {it : Value} {Q : Env → Shared → Prop}
    (hk : scope.kind = .function) (h0 : scope.names.lookup (".0" : Str) = some .local) (hc : ∀ p ∈ clo, p.2 < s.heap.objs.size)
    (h : ∀ h' tk, (∃ m, h'.Ns s.heap.objs.size m) → (∀ b o, s.heap.get? b = some o → h'.get? b = some o) → (∀ y c, (y, c) ∈ cellsFrom (s.heap.objs.size + 1) scope.names clo → s.heap.objs.size + 1 ≤ c → ∃ v, h'.IsCell c v) →
      (∀ y c, (y, c) ∈ cellsFrom (s.heap.objs.size + 1) scope.names clo → c < h'.objs.size) → s.heap.objs.size < h'.objs.size → Q (newEnv scope s.heap.objs.size globals (cellsFrom (s.heap.objs.size + 1) scope.names clo) qual none code none builtins) { s with heap := h', toks := tk }) :
    wpAny M A (newFunctionEnv scope globals clo [((".0" : Str), it)] qual none code none builtins) Q E s := by
  simp only [newFunctionEnv, Option.isSome_none, Bool.false_eq_true, if_false]
  refine wpAny_bind (wpAny_alloc ?_)
  refine wpAny_bind (wpAny_layCells _ (fun name kind cells => by cases hkc : kind == NameKind.cell <;> simp [hkc]) _ _ _ _ ?_)
  rw [show ({ s with heap := s.heap.push { cls := .type "frame", data := .dict #[] } } : Shared).heap.objs.size = s.heap.objs.size + 1 from Heap.size_push ..]
  have hn : Heap.Ns (pushCells (s.heap.push { cls := .type "frame", data := .dict #[] }) scope.names) s.heap.objs.size (fun _ => none) := (Heap.Ns.new s.heap (.type "frame")).keeps (pushCells_keeps _ _)
  have sz : s.heap.objs.size < (pushCells (s.heap.push { cls := .type "frame", data := .dict #[] }) scope.names).objs.size := by
    have := pushCells_size scope.names (s.heap.push { cls := .type "frame", data := .dict #[] })
    rw [Heap.size_push] at this
    omega
  refine wpAny_bind ?_
  show wpAny M A (forIn [((".0" : Str), it)] PUnit.unit _) _ _ _
  rw [List.forIn_cons]
  refine wpAny_bind (wpAny_bind (wpAny_storeName_local (m := fun _ => none) (show (newEnv scope s.heap.objs.size globals (cellsFrom (s.heap.objs.size + 1) scope.names clo) qual none code none builtins).kindOf (".0" : Str) = some .local from h0) hn (fun h' hn' hs => ?_) (by show (scope.kind == .class || _) = false; rw [hk]; rfl)))
  refine wpAny_pure ?_
  show wpAny M A (forIn [] PUnit.unit _) _ _ _
  rw [List.forIn_nil]
  refine wpAny_pure (wpAny_pure ?_)
  have hs : Heap.SameBut s.heap.objs.size (pushCells (s.heap.push { cls := .type "frame", data := .dict #[] }) scope.names) h' := hs
  refine h h' _ ⟨_, hn'⟩ (fun b o e => ?_) (fun y c hm hge => ?_) (fun y c hm => ?_) (by rw [hs.1]; exact sz)
  · exact hs.extBut b o (Nat.ne_of_lt (Heap.lt_size e)) (pushCells_keeps _ _ _ _ (Heap.get?_push_of_some _ e))
  · rw [← Heap.size_push s.heap { cls := .type "frame", data := .dict #[] }] at hm
    rcases cells_mem hm with hm | ⟨_, _, h3⟩
    · exact absurd (Nat.lt_of_lt_of_le (hc _ hm) (Nat.le_of_succ_le hge)) (Nat.lt_irrefl _)
    · exact ⟨none, h3.sameBut hs (Nat.ne_of_gt hge)⟩
  · rw [hs.1]
    rw [← Heap.size_push s.heap { cls := .type "frame", data := .dict #[] }] at hm
    rcases cells_mem hm with hm | ⟨_, _, h3⟩
    · exact Nat.lt_trans (hc _ hm) sz
    · exact h3.lt

/-! ### what a consumer meets -/
def CsOk (So : Option Addr) (Cs : List Addr) (ys : List V) (H : Hp) (s : Shared) : Prop :=
  (∀ b ∈ Cs, H b = none ∧ ∃ o, s.heap.get? b = some o ∧ NoCell o) ∧ ∀ S, So = some S → ∃ (acc : Array Value) (c : Nat), s.heap.get? S = some (lstObj acc c) ∧ Vals ys acc.toList
def YC (X : Cx) (pins : List (Addr × Obj)) (σ : L2.St) (a : Addr) (g : Nat) (So : Option Addr) (Cs : List Addr) (N : Nat) (Qy : List V → V → Hp → Prop) (Rs : List V → V → Prop) : Protocol := fun n s₀ v s kap =>
  ∃ ys x H, n + 1 + ys.length = N ∧ RelV x v ∧ Inv X pins σ H s ∧ s.heap.IsGen a g ∧ CsOk So Cs ys H s ∧ Qy ys x H ∧ (Rs ys x → ∀ s', Slo So Cs v s s' → kap (.send .none) s')
def RC (X : Cx) (pins : List (Addr × Obj)) (σ : L2.St) (So : Option Addr) (Cs : List Addr) (N : Nat) (Qe : List V → Hp → Prop) : GenEnd := fun n s₀ r s =>
  r = .ok .next ∧ ∃ ys H, n + ys.length = N ∧ Inv X pins σ H s ∧ CsOk So Cs ys H s ∧ Qe ys H
/-- a generator that has not begun -/
def GMd (X : Cx) (k : Nat) (pins : List (Addr × Obj)) (σ : L2.St) (N : Nat) (Qy : List V → V → Hp → Prop) (Rs : List V → V → Prop) (Qe : List V → Hp → Prop) (u : Value) (s' : Shared) : Prop :=
  ∃ (a : Addr) (g : Nat) (c : Code) (H1 : Hp), u = .ref a ∧ Inv X pins σ H1 s' ∧ H1 a = none ∧ a < s'.heap.objs.size ∧ s'.heap.IsGen a g ∧ s'.gens[g]? = some (.fresh c) ∧
    ∀ (A : Around) (So : Option Addr) (Cs : List Addr) (s2 : Shared), Room (k + 1) A → A.frames = some X.stack → Cs.Nodup → (∀ b ∈ Cs, s'.heap.objs.size ≤ b ∧ ∃ o, s2.heap.get? b = some o ∧ NoCell o) →
      (∀ S, So = some S → S ∈ Cs ∧ ∃ c, s2.heap.get? S = some (lstObj #[] c)) → (∀ b o, s'.heap.get? b = some o → s2.heap.get? b = some o) → s2.os = s'.os → AllBare s2.gens →
      Seg (model X.prog X.w) A (RC X pins σ So Cs N Qe) (YC X pins σ a g So Cs N Qy Rs) N s2 c ((model X.prog X.w).den c) [] s2

section
variable {X : Cx} {pins : List (Addr × Obj)} {σ : L2.St} {H : Hp} {s : Shared}
/-- the heap's frame behind the making of the code -/
structure Grown (H H' : Hp) : Prop where
  keep : ∀ b o, H b = some o → (∀ ps, o ≠ .tbl ps) → H' b = some o
  none : ∀ b, H' b = none → H b = none

theorem gx_made {k N : Nat} {elt tg iter : Expr} {ifs : List Expr} {scope : Scope} {own : List (Str × Nat)} {pos : Pos} {wi : TI} {Qy : List V → V → Hp → Prop} {Rs : List V → V → Prop} {Qe : List V → Hp → Prop}
    (hr : Room 1 X.A) (hcalm : X.calm = true) (hN : X.N.Nodup) (hi : PI X tg iter wi) (ok : BlkOk X.N X.env.scope scope own) (hco : scope.isCoroutine = false) (h0 : scope.names.lookup (".0" : Str) = some .local)
    (bm : ∃ P, X.base.BuiltinsAt X.mg P) (hs : ∀ v, genFold iter X.env v = pure v) (I : Inv X pins σ H s)
    (h : wi σ H fun J H1 => ∃ T c P, X.env.code = .ref c ∧ TabI X.base T H1 ∧ T c P ∧ ∀ (H' : Hp) (T' : Tb) (c' P' : Addr), TabI X.base T' H' → (∀ a b, T a b → T' a b) → T' c' P' → Grown H1 H' →
      ∀ (s' : Shared) (L : Addr) (cl : List (Str × Addr)) (q : Str) (fp : List Addr) (pn : List (Addr × Obj)) (A : Around), Room k A → ∃ g tt te W, PG (gx X s' H' scope L cl q (.ref c') fp pn A) tg g ∧ PTs (gx X s' H' scope L cl q (.ref c') fp pn A) ifs tt ∧
        PE (gx X s' H' scope L cl q (.ref c') fp pn A) elt te ∧ (∃ m, W 0 m [] H') ∧ GTurn J g tt te (own.map (·.2)) (wipe σ (own.map (·.2))) N Qy Rs Qe W) :
    wpAny (model X.prog X.w) X.A (eval (.GeneratorExp elt [⟨tg, iter, ifs, 0⟩] scope pos) X.env) (GMd X k pins σ N Qy Rs Qe) X.xe s := by
  have hfree : ∀ y ∈ scope.names, y.2 = .free → ∃ c, X.env.cells.lookup y.1 = some c := fun y hy e => by
    rcases ok.free y hy e with k | k
    · exact I.ok.has _ (.inl k)
    · exact I.ok.has _ (.inr k)
  rw [eval_GeneratorExp1 _ _ _ _ _ _ _ hco, closure_ok hfree]
  refine wpAny_bind (thn (hi.run pins s σ H _ I h) fun xv s1 hx => ?_)
  refine wpAny_bind (wpAny_standAt ?_)
  refine wpAny_bind (wpAny_of_eq (hs xv) ?_)
  refine wpAny_bind (wpAny_holding (thn hx fun itv s2 h2 => ?_))
  obtain ⟨it, fp, tn, J, H2, e, I2, T, st2, f2, T0, c, P, hcode, hTabI, hTcP, hq⟩ := h2
  subst e
  refine wpAny_bind (wpAny_enterFrame I2.nolimit hr.depth ?_)
  refine wpAny_bind (wpAny_pure ?_)
  refine wpAny_bind (genexpr_code I2 hTabI hcode hTcP fun H3 T' c' P' s3 I3 hTabI' hTT hT' hk1 hk2 hk3 hsz3 => ?_)
  have q3 := hq H3 T' c' P' hTabI' hTT hT' ⟨hk1, hk2⟩
  obtain ⟨Pb, bmm, ob, e1, e2, e3, e4, e5, e6, e7, e8⟩ := bm
  refine wpAny_bind (wpAny_builtinsFor (m := X.mg) (by rw [I.ok.glob]; exact I3.mod.glob.keeps I3.bk) e1 e2 (I3.bk _ _ e5) e6 e7 e8 ?_)
  have f3 : ∀ b ∈ fp, FpOk X pins H3 b ∧ b < s3.heap.objs.size := fun b hb => by
    obtain ⟨o, ho, _⟩ := T.obj _ _ st2 b hb
    obtain ⟨g1, g2⟩ := hk3 b o ho (f2 b hb).1
    exact ⟨⟨g2, (f2 b hb).2⟩, Heap.lt_size g1⟩
  have st3 : tn 0 s3.heap := T.keep _ _ _ st2 fun b hb o ho => (hk3 b o ho (f2 b hb).1).1
  have cm : ∀ p ∈ cloFrom X.env.cells scope.names [], p.2 < s3.heap.objs.size := fun p hp => by
    rcases cloFrom_mem (n := p.1) (c := p.2) hp with hm | ⟨h1, e⟩
    · cases hm
    · obtain ⟨c, hc⟩ := hfree _ h1 rfl
      rw [e, hc]
      obtain ⟨w, z⟩ := I3.cell _ _ hc
      exact z.lt
  refine wpAny_bind (newEnv_gx (globals := X.env.globals) ok.kind h0 cm fun h4 tk4 hns4 hk4 hc4 hcl4 hsz4 => ?_)
  simp only [newGenerator, newFields]
  refine wpAny_bind (wpAny_newGen (wpAny_bind (wpAny_mkText (wpAny_bind (wpAny_mkText (wpAny_newObj_type ?_ (by size_fits)))))))
  show GMd X k pins σ N Qy Rs Qe (.ref h4.objs.size) { s3 with gens := s3.gens.push (.fresh (.compStart (.GeneratorExp elt [⟨tg, iter, ifs, 0⟩] scope pos) 0 (.ref it) .none (gxEnv X scope s3.heap.objs.size (cellsFrom (s3.heap.objs.size + 1) scope.names (cloFrom X.env.cells scope.names [])) (X.env.qual ++ "<genexpr>.") (.ref c')))), toks := tk4 + 1 + 1, heap := h4.push { cls := .type "generator", data := .fields #[rawInt s3.gens.size, .str "<genexpr>" tk4, .str (X.env.qual ++ "<genexpr>") (tk4 + 1)] } }
  generalize hgo : ({ cls := .type "generator", data := .fields #[rawInt s3.gens.size, .str "<genexpr>" tk4, .str (X.env.qual ++ "<genexpr>") (tk4 + 1)] } : Obj) = go
  have hgc : NoCell go := fun v q => by rw [← hgo] at q; cases q
  have hpush : (h4.push go).get? h4.objs.size = some go := by rw [← hgo]; exact Heap.get?_push_size _ rfl
  have hgen : ∀ hh : Heap, hh.get? h4.objs.size = some go → hh.IsGen h4.objs.size s3.gens.size := fun hh e => ⟨go, _, _, e, by rw [← hgo], by rw [← hgo]; rfl, by rw [← hgo]⟩
  have kp6 : ∀ b o, s3.heap.get? b = some o → (h4.push go).get? b = some o := fun b o e => Heap.get?_push_of_some _ (hk4 b o e)
  have age : s3.heap.objs.size ≤ h4.objs.size := Nat.le_of_lt hsz4
  have ha0 : H3 h4.objs.size = none := I3.hok.fresh age
  refine ⟨h4.objs.size, s3.gens.size, _, H3, rfl, ?_, ha0, ?_, hgen _ hpush, Array.getElem?_push_size .., ?_⟩
  · exact I3.call' (ch := []) rfl (Un.kept kp6) (I3.hok.kept kp6) (I3.bare.push rfl) fun b z => by simp at z
  · show _ < (h4.push go).objs.size
    rw [Heap.size_push]; exact Nat.lt_succ_self _
  intro A So Cs s6 hrA hfrA hnd hCs hSo hk6 hos6 hba6
  obtain ⟨gg, tt, te, W, pg, pt, pe, ⟨m0, w0⟩, turn⟩ := q3 s3 s3.heap.objs.size (cellsFrom (s3.heap.objs.size + 1) scope.names (cloFrom X.env.cells scope.names [])) (X.env.qual ++ "<genexpr>.") fp [(h4.objs.size, go)]
    (A.over (.compLoop (.GeneratorExp elt [⟨tg, iter, ifs, 0⟩] scope pos) 0 (.ref it) .none (gxEnv X scope s3.heap.objs.size (cellsFrom (s3.heap.objs.size + 1) scope.names (cloFrom X.env.cells scope.names [])) (X.env.qual ++ "<genexpr>.") (.ref c'))) []) (ov_room hrA)
  have kp7 : ∀ b o, s3.heap.get? b = some o → s6.heap.get? b = some o := fun b o e => hk6 b o (kp6 b o e)
  have hg6 : s6.heap.get? h4.objs.size = some go := hk6 _ _ hpush
  have hs6 : ∀ b ∈ Cs, h4.objs.size < b := fun b hb => by
    have q : (h4.push go).objs.size ≤ b := (hCs b hb).1
    rw [Heap.size_push] at q
    exact q
  have astk : ∀ b, s3.heap.objs.size ≤ b → b ∉ frs X.stack := fun b hb hm => by
    rcases List.mem_cons.mp (I3.stkSub b hm) with z | z
    · have := I3.lt
      rw [← z] at this
      exact absurd (Nat.lt_of_lt_of_le this hb) (Nat.lt_irrefl _)
    · exact I3.nofs hb z
  have IY := gx_start (A := A.over (.compLoop (.GeneratorExp elt [⟨tg, iter, ifs, 0⟩] scope pos) 0 (.ref it) .none (gxEnv X scope s3.heap.objs.size (cellsFrom (s3.heap.objs.size + 1) scope.names (cloFrom X.env.cells scope.names [])) (X.env.qual ++ "<genexpr>.") (.ref c'))) [])
    (code := .ref c') (q := X.env.qual ++ "<genexpr>.") (pn := [(h4.objs.size, go)]) (s5 := s6) I3 ok hN f3 hrA.hd (ov_f hfrA) hos6 hba6 kp7
    (let ⟨m, hm⟩ := hns4; ⟨m, (hm.push go).keeps hk6⟩) (fun y c hm hge => let ⟨v, z⟩ := hc4 y c hm hge; ⟨v, (z.keeps fun b o e => Heap.get?_push_of_some _ e).keeps hk6⟩)
    (fun p hp => by
      rw [List.mem_singleton.mp hp]
      exact ⟨hg6, ha0, Nat.ne_of_gt hsz4, astk _ age, hgc⟩)
  -- the consumer's pins
  have hpins : ∃ pl : List (Addr × Obj), pl.map (·.1) = Cs ∧ ∀ p ∈ pl, s6.heap.get? p.1 = some p.2 ∧ NoCell p.2 := by
    clear hnd hSo hs6
    induction Cs with
    | nil => exact ⟨[], rfl, fun p hp => absurd hp (by simp)⟩
    | cons b r ih =>
      obtain ⟨pl, h1, h2⟩ := ih fun d hd => hCs d (List.mem_cons_of_mem _ hd)
      obtain ⟨_, o, h3, h4⟩ := hCs b List.mem_cons_self
      refine ⟨(b, o) :: pl, by simp [h1], fun p hp => ?_⟩
      rcases List.mem_cons.mp hp with rfl | hp
      · exact ⟨h3, h4⟩
      · exact h2 p hp
  obtain ⟨pl, hpl1, hpl2⟩ := hpins
  have big : ∀ b ∈ Cs, s3.heap.objs.size ≤ b := fun b hb => Nat.le_trans age (Nat.le_of_lt (hs6 b hb))
  have G0 : GIo (gx X s3 H3 scope s3.heap.objs.size (cellsFrom (s3.heap.objs.size + 1) scope.names (cloFrom X.env.cells scope.names [])) (X.env.qual ++ "<genexpr>.") (.ref c') fp [(h4.objs.size, go)]
      (A.over (.compLoop (.GeneratorExp elt [⟨tg, iter, ifs, 0⟩] scope pos) 0 (.ref it) .none (gxEnv X scope s3.heap.objs.size (cellsFrom (s3.heap.objs.size + 1) scope.names (cloFrom X.env.cells scope.names [])) (X.env.qual ++ "<genexpr>.") (.ref c'))) []))
      So Cs [] (wipe σ (own.map (·.2))) H3 s6 := by
    refine ⟨pl, ⟨hpl1, fun S hS => ?_⟩, IY.pins_of fun p hp => ?_⟩
    · obtain ⟨h1, c, h2⟩ := hSo S hS
      rw [← hpl1] at h1
      obtain ⟨p, hp, e⟩ := List.mem_map.mp h1
      have h3 := (hpl2 p hp).1
      rw [e, h2] at h3
      refine ⟨#[], c, ?_, .nil⟩
      have : p = (S, lstObj #[] c) := by
        obtain ⟨p1, p2⟩ := p
        simp only at e h3
        rw [e, Option.some.inj h3]
      rw [← this]; exact hp
    · have hb : p.1 ∈ Cs := by rw [← hpl1]; exact List.mem_map.mpr ⟨p, hp, rfl⟩
      exact ⟨(hpl2 p hp).1, I3.hok.fresh (big _ hb), fun z => absurd (show (p.1 : Nat) = s3.heap.objs.size from z) (Nat.ne_of_gt (Nat.lt_trans hsz4 (hs6 _ hb))), astk _ (big _ hb), (hpl2 p hp).2⟩
  have conv : ∀ {ys : List V} {σ' : L2.St} {H' : Hp} {s' : Shared}, GIo (gx X s3 H3 scope s3.heap.objs.size (cellsFrom (s3.heap.objs.size + 1) scope.names (cloFrom X.env.cells scope.names [])) (X.env.qual ++ "<genexpr>.") (.ref c') fp [(h4.objs.size, go)]
      (A.over (.compLoop (.GeneratorExp elt [⟨tg, iter, ifs, 0⟩] scope pos) 0 (.ref it) .none (gxEnv X scope s3.heap.objs.size (cellsFrom (s3.heap.objs.size + 1) scope.names (cloFrom X.env.cells scope.names [])) (X.env.qual ++ "<genexpr>.") (.ref c'))) []))
      So Cs ys σ' H' s' → Inv X pins σ H' s' ∧ s'.heap.IsGen h4.objs.size s3.gens.size ∧ CsOk So Cs ys H' s' := fun {ys σ' H' s'} hG => by
    obtain ⟨pins', ⟨hp1, hp2⟩, IYs⟩ := hG
    refine ⟨I3.call' (ch := fp) IYs.os IYs.base IYs.hok IYs.bare fun b hb => ⟨(f3 b hb).1.2.2.2.1, (f3 b hb).1.2.1, (f3 b hb).1.2.2.2.2.1, (f3 b hb).1.2.2.2.2.2⟩, hgen _ (IYs.pin (h4.objs.size, go) (List.mem_append_left _ (List.mem_singleton.mpr rfl))).1, fun b hb => ?_, fun S hS => ?_⟩
    · rw [← hp1] at hb
      obtain ⟨p, hp, e⟩ := List.mem_map.mp hb
      obtain ⟨g1, g2, _, _, g3⟩ := IYs.pin p (List.mem_append_right _ hp)
      rw [← e]
      exact ⟨g2, p.2, g1, g3⟩
    · obtain ⟨acc, c, m1, m2⟩ := hp2 S hS
      exact ⟨acc, c, (IYs.pin _ (List.mem_append_right _ m1)).1, m2⟩
  refine seg_imp (fun n s₀ r s' hR => ?_) (fun n s₀ v s' kap kap' hkk hY => ?_) N
    (seg_start (X := gx X s3 H3 scope s3.heap.objs.size (cellsFrom (s3.heap.objs.size + 1) scope.names (cloFrom X.env.cells scope.names [])) (X.env.qual ++ "<genexpr>.") (.ref c') fp [(h4.objs.size, go)]
      (A.over (.compLoop (.GeneratorExp elt [⟨tg, iter, ifs, 0⟩] scope pos) 0 (.ref it) .none (gxEnv X scope s3.heap.objs.size (cellsFrom (s3.heap.objs.size + 1) scope.names (cloFrom X.env.cells scope.names [])) (X.env.qual ++ "<genexpr>.") (.ref c'))) []))
      (So := So) (Cs := Cs) rfl hcalm rfl rfl hco T hnd (fun b hb => ⟨big b hb, Nat.ne_of_gt (Nat.lt_trans hsz4 (hs6 b hb)), fun x c e z => ?_, fun p hp => ?_⟩) (fun S hS => (hSo S hS).1) (fun b hb => ⟨fun hm => ?_, fun p hp => ?_⟩) pg pt pe turn (by rw [wipe_length]; exact I.len)
      w0 (Nat.add_zero _) G0 (T.keep _ _ _ st3 fun b _ o e => kp7 b o e) (fun b hb => (f3 b hb).1.1))
  · obtain ⟨hr1, ys, σ', H', hn, hG, hQ⟩ := hR
    obtain ⟨c1, _, c3⟩ := conv hG
    exact ⟨hr1, ys, H', hn, c1, c3, hQ⟩
  · obtain ⟨ys, x, σ', H', hn, rv, hG, hQ, hw⟩ := hY
    obtain ⟨c1, c2, c3⟩ := conv hG
    exact ⟨ys, x, H', hn, rv, c1, c2, c3, hQ, fun hrs s'' hsl => hkk _ _ (hw hrs s'' hsl)⟩
  · have h1 := hcl4 x c (PySem.mem_of_lookup e)
    rw [z] at h1
    exact absurd (Nat.lt_trans h1 (hs6 b hb)) (Nat.lt_irrefl _)
  · rw [List.mem_singleton.mp hp]
    exact Nat.ne_of_lt (hs6 b hb)
  · exact absurd (Nat.lt_of_lt_of_le (f3 b hb).2 (big b hm)) (Nat.lt_irrefl _)
  · rw [List.mem_singleton.mp hp]
    exact Nat.ne_of_gt (Nat.lt_of_lt_of_le (f3 b hb).2 age)
end
end GX

set_option maxRecDepth 100000
set_option maxHeartbeats 4000000
set_option pp.maxSteps 900
namespace GX
open PySem PySem.Spec PyProof.Rows L2 GenW
open PySem.W (CodeHd)
section
variable {X : Cx} {pins : List (Addr × Obj)} {σ : L2.St} {N : Nat} {Qy : List V → V → Hp → Prop} {Rs : List V → V → Prop} {Qe : List V → Hp → Prop} {So : Option Addr} {Cs : List Addr} {A : Around} {E : Value → Shared → Prop}
theorem next_md {s : Shared} {a : Addr} {g n : Nat} {gs : GenState} {Q : Option Value → Shared → Prop} (hh : A.handled = none) (hl : s.heap.NoLimit) (hd : A.depth < recursionLimit) (hg : s.heap.IsGen a g) (hgs : s.gens[g]? = some gs)
    (hgo : gs.Goes (model X.prog X.w) A.in1 (RC X pins σ So Cs N Qe) (YC X pins σ a g So Cs N Qy Rs) n (.send .none) (s.setGen g .running))
    (hY : ∀ v s₁ gs' ys x H, gs'.bare = true → n - 1 + 1 + ys.length = N → RelV x v → Inv X pins σ H s₁ → s₁.heap.IsGen a g → CsOk So Cs ys H s₁ → Qy ys x H → g < s₁.gens.size →
      (Rs ys x → ∀ s'', Slo So Cs v s₁ s'' → ∃ m, n = m + 1 ∧ gs'.Goes (model X.prog X.w) A.in1 (RC X pins σ So Cs N Qe) (YC X pins σ a g So Cs N Qy Rs) m (.send .none) s'') → Q (some v) (s₁.setGen g gs'))
    (hP : ∀ s₁ ys H, n + ys.length = N → Inv X pins σ H s₁ → CsOk So Cs ys H s₁ → Qe ys H → ∀ h', (∀ b o, s₁.heap.get? b = some o → h'.get? b = some o) → Q none { s₁.setGen g .finished with heap := h' }) :
    wpAny (model X.prog X.w) A (pyNext (.ref a)) Q E s := by
  have hgl : g < s.gens.size := (Array.getElem?_eq_some_iff.mp hgs).1
  have hgo' : gs.Goes (model X.prog X.w) A.in1 (fun n s₀ r s₁ => r = .ok .next ∧ ∃ ys H, n + ys.length = N ∧ Inv X pins σ H s₁ ∧ CsOk So Cs ys H s₁ ∧ Qe ys H) (YC X pins σ a g So Cs N Qy Rs) n (.send .none) (s.setGen g .running) := hgo
  refine wpAny_gsz (n := g + 1) hgl (wpAny_pyNext_genexpQ hh hl hd hg hgs hgo' (fun v s₁ gs' hb hv => ?_) fun s₁ hp h' hk => ?_)
  · obtain ⟨ys, x, H, e1, rv, I, ig, cs, qy, hw⟩ := hv
    intro hsz
    have q : (s₁.setGen g gs').gens.size = s₁.gens.size := setGen_size _ _ _
    refine hY v s₁ gs' ys x H hb e1 rv I ig cs qy (by have : g + 1 ≤ (s₁.setGen g gs').gens.size := hsz; omega) fun hrs s'' hsl => ?_
    have z := hw hrs s'' hsl
    cases n with
    | zero => exact False.elim z
    | succ m => exact ⟨m, rfl, z⟩
  · obtain ⟨ys, H, e1, I, cs, qe⟩ := hp
    intro _
    exact hP s₁ ys H e1 I cs qe h' hk

/-! ### a list that the consumer fills -/
theorem slo_push {S : Addr} {v : Value} {s₁ : Shared} {acc : Array Value} {c : Nat} {gg : Array GenState} (hS : s₁.heap.get? S = some (lstObj acc c)) (hgg : AllBare gg) :
    Slo (some S) [S] v s₁ { s₁ with gens := gg, heap := s₁.heap.update S (Obj.mapSeq (·.push v)) } := by
  refine ⟨rfl, hgg, fun b o hb e => (Heap.get?_update_other _ _ (fun z => hb (by rw [← z]; exact List.mem_singleton.mpr rfl))).trans e, fun b hb o e nc => ?_⟩
  obtain rfl := List.mem_singleton.mp hb
  rw [hS] at e
  cases e
  refine ⟨_, Heap.get?_update_self _ hS rfl, ?_, ?_⟩
  · intro v' q
    cases q
  · intro _ acc' c' z
    cases z
    exact ⟨_, rfl⟩
theorem drain_md {R : Result → Shared → Prop} {S a : Addr} {g : Nat} {res : Value} (hh : A.handled = none) (hd : A.depth < recursionLimit) (hSa : S ≠ a) (hSc : S ≠ cStatics) (hN : N ≤ sizeLine) (hrs : ∀ ys x, Rs ys x)
    (hend : ∀ s' acc c H ys, s'.heap.get? S = some (lstObj acc c) → Vals ys acc.toList → ys.length ≤ N → Inv X pins σ H s' → Qe ys H → R (.ok (.ret res)) s') :
    ∀ (m : Nat) (s : Shared), s.heap.IsGen a g → s.heap.NoLimit →
      (∃ gs, s.gens[g]? = some gs ∧ gs.Goes (model X.prog X.w) A.in1.in1 (RC X pins σ (some S) [S] N Qe) (YC X pins σ a g (some S) [S] N Qy Rs) m (.send .none) (s.setGen g .running)) →
      codeAny (model X.prog X.w) A (.builtin "list.extend.loop" ⟨[.ref S, .ref a, res], []⟩) R s := by
  intro m
  induction m with
  | zero =>
    intro s hg hl ⟨gs, hgs, hgo⟩
    refine codeAny_builtin F.entry_extend_loop ?_
    rw [Around.under_plainId F.plain_extend_loop _]
    show wpAny _ A.in1 (pyNext (.ref a) >>= _) _ _ s
    refine wpAny_bind (next_md (A := A.in1) hh hl hd hg hgs hgo (fun v s₁ gs' ys x H hb e1 rv I ig cs qy hgl hw => ?_) fun s₁ ys H e1 I cs qe h' hk => ?_)
    · obtain ⟨acc, c, hS, hv⟩ := cs.2 S rfl
      obtain ⟨m, hm, _⟩ := hw (hrs ys x) _ (slo_push hS I.bare)
      cases hm
    · obtain ⟨acc, c, hS, hv⟩ := cs.2 S rfl
      exact wpAny_pure (hend _ acc c H ys (hk _ _ hS) hv (by omega) (I.call' (ch := []) rfl (Un.kept hk) (I.hok.kept hk) (allBare_setGen I.bare rfl) fun b z => by simp at z) qe)
  | succ m ih =>
    intro s hg hl ⟨gs, hgs, hgo⟩
    refine codeAny_builtin F.entry_extend_loop ?_
    rw [Around.under_plainId F.plain_extend_loop _]
    show wpAny _ A.in1 (pyNext (.ref a) >>= _) _ _ s
    refine wpAny_bind (next_md (A := A.in1) hh hl hd hg hgs hgo (fun v s₁ gs' ys x H hb e1 rv I ig cs qy hgl hw => ?_) fun s₁ ys H e1 I cs qe h' hk => ?_)
    · obtain ⟨acc, c, hS, hv⟩ := cs.2 S rfl
      have hasz : acc.size < sizeLine := by
        have e2 := hv.length
        have e3 : acc.toList.length = acc.size := by simp
        omega
      show wpAny _ A.in1 (updateSeq S (·.push v) >>= _) _ _ _
      refine wpAny_bind ?_
      refine wpAny_updateSeq hS rfl (wpAny_pure ⟨plainId_quiet F.plain_extend_loop _, ?_⟩) (Nat.le_of_lt hasz) (by show (acc.push v).size ≤ sizeLine + 1; rw [Array.size_push]; omega)
      have keep3 : ∀ b o, b ≠ S → s₁.heap.get? b = some o → (s₁.heap.update S (Obj.mapSeq (·.push v))).get? b = some o := fun b o hbS e => (Heap.get?_update_other _ _ (Ne.symm hbS)).trans e
      obtain ⟨m', hm', go'⟩ := hw (hrs ys x) _ (slo_push (gg := ((s₁.setGen g gs').setGen g .running).gens) hS (allBare_setGen (s := s₁.setGen g gs') (allBare_setGen I.bare hb) rfl))
      have em : m' = m := by omega
      subst em
      refine ih { s₁.setGen g gs' with heap := s₁.heap.update S (Obj.mapSeq (·.push v)) } ?_ ?_ ⟨gs', setGen_at hgl, ?_⟩
      · obtain ⟨o, nm, qn, ho, r⟩ := ig
        exact ⟨o, nm, qn, keep3 a o (Ne.symm hSa) ho, r⟩
      · obtain ⟨mc, hns, hnn⟩ := I.nolimit
        exact ⟨mc, hns.at' fun o e => keep3 _ o (Ne.symm hSc) e, hnn⟩
      · exact go'
    · obtain ⟨acc, c, hS, hv⟩ := cs.2 S rfl
      exact wpAny_pure (hend _ acc c H ys (hk _ _ hS) hv (by omega) (I.call' (ch := []) rfl (Un.kept hk) (I.hok.kept hk) (allBare_setGen I.bare rfl) fun b z => by simp at z) qe)

theorem collect_md {k : Nat} {u : Value} {s : Shared} {Q : List Value → Shared → Prop} (hr : Room (k + 3) A) (hfr : A.frames = some X.stack) (hN : N ≤ sizeLine) (hrs : ∀ ys x, Rs ys x) (h : GMd X k pins σ N Qy Rs Qe u s)
    (hQ : ∀ (s' : Shared) (acc : List Value) H ys, Vals ys acc → ys.length ≤ N → Inv X pins σ H s' → Qe ys H → Q acc s') : wpAny (model X.prog X.w) A (collect u) Q E s := by
  obtain ⟨a, g, c, H1, rfl, I, ha0, hal, hg, hgs, wake⟩ := h
  have hcl : cStatics < s.heap.objs.size := let ⟨_, hn, _⟩ := I.nolimit; hn.lt
  have hSc : s.heap.objs.size ≠ cStatics := Nat.ne_of_gt hcl
  have hSa : s.heap.objs.size ≠ a := Nat.ne_of_gt hal
  unfold collect
  refine wpAny_bind (wpAny_runValue (codeAny_builtin F.entry_proto_collect ?_))
  rw [Around.under_plainId F.plain_proto_collect _]
  show wpAny _ A.in1 (newList [] >>= fun l => again (.builtin "list.__iadd__" ⟨[l, .ref a], []⟩)) _ _ s
  refine wpAny_bind (wpAny_newObj_type ?_)
  refine wpAny_pure ⟨plainId_quiet F.plain_list_iadd _, codeAny_builtin F.entry_list_iadd ?_⟩
  rw [Around.under_plainId F.plain_list_iadd _]
  have up : ∀ (h : Heap) (f : Obj → Obj), (∀ b o, s.heap.get? b = some o → h.get? b = some o) → ∀ b o, s.heap.get? b = some o → (h.update s.heap.objs.size f).get? b = some o := fun h f q b o e =>
    (Heap.get?_update_other _ _ (Ne.symm (Nat.ne_of_lt (Heap.lt_size e)))).trans (q b o e)
  have k1 : ∀ b o, s.heap.get? b = some o → (s.heap.push { cls := .type "list", data := .seq ([] : List Value).toArray }).get? b = some o := fun b o e => Heap.get?_push_of_some _ e
  have gty : ∀ {h : Heap}, (∀ b o, s.heap.get? b = some o → h.get? b = some o) → h.IsGen a g := fun {h} q => hg.keeps q
  show wpAny _ A.in1 (Builtin.List.listExtendWith (.ref s.heap.objs.size) (.ref a) (.ref s.heap.objs.size)) _ _ _
  unfold Builtin.List.listExtendWith
  refine wpAny_bind (wpAny_typeOf (Heap.IsGen.typeIs (s := { s with heap := _ }) (gty k1)) ?_)
  have h1 : Builtin.List.listSameRef (.ref s.heap.objs.size) (.ref a) = false := by simp [Builtin.List.listSameRef, hSa]
  have h2 : (Value.type "generator" == Value.type "list") = false := by decide
  have h3 : (Value.type "generator" == Value.type "tuple") = false := by decide
  simp only [h1, h2, h3, Bool.or_false, Bool.false_eq_true, if_false]
  refine wpAny_bind (wpAny_pyIter_gen (s := { s with heap := _ }) (gty k1) ?_)
  refine wpAny_bind (wpAny_holding ?_)
  unfold Builtin.List.listLengthHint
  refine wpAny_bind (wpAny_specialOf (Heap.IsGen.typeIs (s := { s with heap := _ }) (gty k1)) F.gen_no_len ?_)
  show wpAny _ A.in1 (specialOf (Value.ref a) (Str.ofString "__length_hint__") >>= _) _ _ _
  refine wpAny_bind (wpAny_specialOf (Heap.IsGen.typeIs (s := { s with heap := _ }) (gty k1)) F.gen_no_hint ?_)
  refine wpAny_pure ?_
  show wpAny _ A.in1 (rule "list.extend.makes-room" >>= fun _ => Builtin.List.listTouch (.ref s.heap.objs.size) >>= fun _ =>
    again (.builtin "list.extend.loop" ⟨[.ref s.heap.objs.size, .ref a, .ref s.heap.objs.size], []⟩)) _ _ _
  refine wpAny_bind (wpAny_rule ?_)
  have hS1 : (s.heap.push { cls := .type "list", data := .seq ([] : List Value).toArray }).get? s.heap.objs.size = some { cls := .type "list", data := .seq ([] : List Value).toArray } := Heap.get?_push_size _ rfl
  refine wpAny_bind ?_
  show wpAny _ A.in1 (updateSeq s.heap.objs.size (·.push .none) >>= fun _ => updateSeq s.heap.objs.size (·.pop)) _ _ _
  refine wpAny_bind (wpAny_updateSeq hS1 rfl ?_)
  have hS2 := Heap.get?_update_self (Obj.mapSeq (·.push Value.none)) hS1 rfl
  refine wpAny_updateSeq (hz := by seq_fits) hS2 rfl ?_
  have hS3 := Heap.get?_update_self (Obj.mapSeq (·.pop)) hS2 rfl
  have k3 := up _ (Obj.mapSeq (·.pop)) (up _ (Obj.mapSeq (·.push Value.none)) k1)
  refine wpAny_pure ⟨plainId_quiet F.plain_extend_loop _, ?_⟩
  refine drain_md (X := X) (pins := pins) (σ := σ) (N := N) (Qy := Qy) (Rs := Rs) (Qe := Qe) (g := g) hr.hd (by have := hr.dp; show A.depth < _; omega) hSa hSc hN hrs (fun s' acc c' H ys q1 q2 q3 q4 q5 => ?_) N _ (gty k3) (I.nolimit.keeps k3) ⟨_, hgs, rfl, ?_⟩
  · show wpAny _ A (load s.heap.objs.size >>= _) _ _ _
    refine wpAny_bind (wpAny_load q1 (wpAny_pure ?_))
    exact hQ s' acc.toList H ys q2 q3 q4 q5
  · refine wake _ (some s.heap.objs.size) [s.heap.objs.size] _ ⟨hr.hd, ?_, ?_⟩ hfr (by simp) (fun b hb => ?_) (fun S hS => ?_) k3 rfl (allBare_setGen (s := { s with heap := _ }) I.bare rfl)
    · have := hr.dp
      show A.depth + 3 * (k + 1) + 5 < _
      omega
    · have := hr.un
      show A.units + 1 + 1 + 16 * (k + 1) + 200 < _
      omega
    · rw [List.mem_singleton.mp hb]
      exact ⟨Nat.le_refl _, _, hS3, fun v q => by cases q⟩
    · cases hS
      exact ⟨by simp, _, hS3⟩
end
end GX

set_option maxRecDepth 100000
set_option maxHeartbeats 4000000
set_option pp.maxSteps 900
namespace GX
open PySem PySem.Spec PyProof.Rows L2 GenW
open PySem.W (CodeHd)
open AutoSeq1 (wpAny_loadPart')
section
variable {X : Cx} {pins : List (Addr × Obj)} {σ : L2.St} {N : Nat} {Qy : List V → V → Hp → Prop} {Rs : List V → V → Prop} {Qe : List V → Hp → Prop} {A : Around} {E : Value → Shared → Prop}
theorem GMd.isGen {k : Nat} {u : Value} {s : Shared} (h : GMd X k pins σ N Qy Rs Qe u s) : s.TypeIs u "generator" := by
  obtain ⟨a, g, c, H1, rfl, I, ha0, hal, hg, hgs, wake⟩ := h
  exact hg.typeIs
theorem code_tuple_new_md {k : Nat} {u : Value} {s : Shared} {Q₁ : Value → Shared → Prop} (hr : Room (k + 4) A) (hfr : A.frames = some X.stack) (hN : N ≤ sizeLine) (hrs : ∀ ys x, Rs ys x) (h : GMd X k pins σ N Qy Rs Qe u s)
    (hQ : ∀ (s' : Shared) (acc : List Value) H ys, Vals ys acc → ys.length ≤ N → Inv X pins σ H s' → Qe ys H → Q₁ (.ref s'.heap.objs.size) { s' with heap := s'.heap.push { cls := .type "tuple", data := .seq acc.toArray } }) :
    codeAny (model X.prog X.w) A (.call (.builtin "tuple.__new__") ⟨[.type "tuple", u], []⟩) (wants Q₁ E) s := by
  have hTI := h.isGen
  obtain ⟨a, e⟩ : ∃ a, u = .ref a := let ⟨a, _, _, _, e, _⟩ := h; ⟨a, e⟩
  subst e
  refine codeAny_of_tree ?_
  show wpAny _ A.in1 (do checkBuiltinCall "tuple.__new__" ⟨[.type "tuple", .ref a], []⟩; again (.builtin "tuple.__new__" ⟨[.type "tuple", .ref a], []⟩)) _ _ s
  refine wpAny_bind (wpAny_of_eq (F.newCall_tuple_1 _) (wpAny_pure ⟨plainId_quiet F.plain_tuple_new _, codeAny_builtin F.entry_tuple_new ?_⟩))
  rw [Around.under_plainId F.plain_tuple_new _]
  have hsub := sub_tuple_self
  have hinit := init_tuple_lookup
  have hmh := madeHere_tuple
  wp_walk using wpAny_typeOf hTI, collect_md (X := X) (k := k) hr.in1 hfr hN hrs h
  intro s' acc H ys hv hl I qe
  show wpAny _ _ (Builtin.Tuple.tupleExact acc.toArray >>= fun v => ret v) _ _ _
  unfold Builtin.Tuple.tupleExact
  refine wpAny_bind (wpAny_newObj_type ?_ (by
    have := hv.length
    show acc.toArray.size ≤ sizeLine
    rw [List.size_toArray]
    omega))
  refine wpAny_pure ?_
  exact hQ s' acc H ys hv hl I qe
theorem call_tuple_md {k : Nat} {u : Value} {s : Shared} {Q : Value → Shared → Prop} (hr : Room (k + 5) A) (hfr : A.frames = some X.stack) (hN : N ≤ sizeLine) (hrs : ∀ ys x, Rs ys x) (h : GMd X k pins σ N Qy Rs Qe u s)
    (hQ : ∀ (s' : Shared) (acc : List Value) H ys, Vals ys acc → ys.length ≤ N → Inv X pins σ H s' → Qe ys H → Q (.ref s'.heap.objs.size) { s' with heap := s'.heap.push { cls := .type "tuple", data := .seq acc.toArray } }) :
    wpAny (model X.prog X.w) A (call (.type "tuple") [u]) Q E s := by
  refine callType_codes (Q₁ := fun obj s₁ => s₁.TypeIs obj "tuple" ∧ Q obj s₁) F.called_tuple (F.typeCall_tuple_1 _) F.entry_object_init
    (code_tuple_new_md hr.in1 hfr hN hrs h fun s' acc H ys hv hl I qe => ⟨⟨_, Heap.get?_push_size _ rfl, rfl⟩, hQ s' acc H ys hv hl I qe⟩) fun obj s₁ h₁ => ?_
  exact ⟨h₁.1, F.args_object_init_2 obj _, object_init_meets F.called_tuple.init.lookup F.called_tuple.made (by decide) X.prog X.w A.in1 _ s₁ ⟨h₁.1, rfl, h₁.2⟩⟩

/-! ### all, any: of truth values -/
theorem slo_none {v : Value} {s s' : Shared} (h1 : s'.os = s.os) (h2 : AllBare s'.gens) (h3 : s'.heap = s.heap) : Slo none [] v s s' :=
  ⟨h1, h2, fun b o _ e => by rw [h3]; exact e, fun b hb => absurd hb (by simp)⟩
theorem all_loop_md {R : Result → Shared → Prop} {a : Addr} {g : Nat} {Qf Qt : Hp → Prop} (hh : A.handled = none) (hd : A.depth < recursionLimit)
    (hT : ∀ s' H, Inv X pins σ H s' → Qt H → R (.ok (.ret (.bool true))) s') (hF : ∀ s' H, Inv X pins σ H s' → Qf H → R (.ok (.ret (.bool false))) s') :
    ∀ (m : Nat) (s : Shared), s.heap.IsGen a g → s.heap.NoLimit →
      (∃ gs, s.gens[g]? = some gs ∧ gs.Goes (model X.prog X.w) A.in1.in1 (RC X pins σ none [] N fun _ H => Qt H) (YC X pins σ a g none [] N (fun _ x H => ∃ b, x = .bl b ∧ (b = false → Qf H)) fun _ x => x = .bl true) m (.send .none) (s.setGen g .running)) →
      codeAny (model X.prog X.w) A (.builtin "all.loop" ⟨[.ref a], []⟩) R s := by
  intro m
  induction m with
  | zero =>
    intro s hg hl ⟨gs, hgs, hgo⟩
    refine codeAny_builtin F.entry_all_loop ?_
    rw [Around.under_plainId F.plain_all_loop _]
    show wpAny _ A.in1 (pyNext (.ref a) >>= _) _ _ s
    refine wpAny_bind (next_md (A := A.in1) hh hl hd hg hgs hgo (fun v s₁ gs' ys x H hb e1 rv I ig cs qy hgl hw => ?_) fun s₁ ys H e1 I cs qe h' hk => ?_)
    · obtain ⟨b, rfl, qf⟩ := qy
      cases rv
      refine wpAny_bind (wpAny_holding (wpAny_truthy_bool ?_))
      refine wpAny_bind (wpAny_letGo ?_)
      cases b with
      | true =>
        obtain ⟨m, hm, _⟩ := hw rfl _ (slo_none rfl I.bare rfl)
        cases hm
      | false =>
        simp only [Bool.false_eq_true, if_false]
        refine wpAny_bind (wpAny_rule (wpAny_pure ?_))
        exact hF _ H (I.call' (ch := []) rfl (Un.kept fun _ _ z => z) I.hok (allBare_setGen I.bare hb) fun b z => by simp at z) (qf rfl)
    · refine wpAny_bind (wpAny_rule (wpAny_pure ?_))
      exact hT _ H (I.call' (ch := []) rfl (Un.kept hk) (I.hok.kept hk) (allBare_setGen I.bare rfl) fun b z => by simp at z) qe
  | succ m ih =>
    intro s hg hl ⟨gs, hgs, hgo⟩
    refine codeAny_builtin F.entry_all_loop ?_
    rw [Around.under_plainId F.plain_all_loop _]
    show wpAny _ A.in1 (pyNext (.ref a) >>= _) _ _ s
    refine wpAny_bind (next_md (A := A.in1) hh hl hd hg hgs hgo (fun v s₁ gs' ys x H hb e1 rv I ig cs qy hgl hw => ?_) fun s₁ ys H e1 I cs qe h' hk => ?_)
    · obtain ⟨b, rfl, qf⟩ := qy
      cases rv
      refine wpAny_bind (wpAny_holding (wpAny_truthy_bool ?_))
      refine wpAny_bind (wpAny_letGo ?_)
      cases b with
      | true =>
        simp only [if_true]
        obtain ⟨m', hm, go'⟩ := hw rfl ((s₁.setGen g gs').setGen g .running) (slo_none rfl (allBare_setGen (allBare_setGen I.bare hb) rfl) rfl)
        have em : m' = m := by omega
        subst em
        refine wpAny_pure ⟨plainId_quiet F.plain_all_loop _, ih (s₁.setGen g gs') ig I.nolimit ⟨gs', setGen_at hgl, go'⟩⟩
      | false =>
        simp only [Bool.false_eq_true, if_false]
        refine wpAny_bind (wpAny_rule (wpAny_pure ?_))
        exact hF _ H (I.call' (ch := []) rfl (Un.kept fun _ _ z => z) I.hok (allBare_setGen I.bare hb) fun b z => by simp at z) (qf rfl)
    · refine wpAny_bind (wpAny_rule (wpAny_pure ?_))
      exact hT _ H (I.call' (ch := []) rfl (Un.kept hk) (I.hok.kept hk) (allBare_setGen I.bare rfl) fun b z => by simp at z) qe
theorem any_loop_md {R : Result → Shared → Prop} {a : Addr} {g : Nat} {Qf Qt : Hp → Prop} (hh : A.handled = none) (hd : A.depth < recursionLimit)
    (hT : ∀ s' H, Inv X pins σ H s' → Qt H → R (.ok (.ret (.bool true))) s') (hF : ∀ s' H, Inv X pins σ H s' → Qf H → R (.ok (.ret (.bool false))) s') :
    ∀ (m : Nat) (s : Shared), s.heap.IsGen a g → s.heap.NoLimit →
      (∃ gs, s.gens[g]? = some gs ∧ gs.Goes (model X.prog X.w) A.in1.in1 (RC X pins σ none [] N fun _ H => Qf H) (YC X pins σ a g none [] N (fun _ x H => ∃ b, x = .bl b ∧ (b = true → Qt H)) fun _ x => x = .bl false) m (.send .none) (s.setGen g .running)) →
      codeAny (model X.prog X.w) A (.builtin "any.loop" ⟨[.ref a], []⟩) R s := by
  intro m
  induction m with
  | zero =>
    intro s hg hl ⟨gs, hgs, hgo⟩
    refine codeAny_builtin F.entry_any_loop ?_
    rw [Around.under_plainId F.plain_any_loop _]
    show wpAny _ A.in1 (pyNext (.ref a) >>= _) _ _ s
    refine wpAny_bind (next_md (A := A.in1) hh hl hd hg hgs hgo (fun v s₁ gs' ys x H hb e1 rv I ig cs qy hgl hw => ?_) fun s₁ ys H e1 I cs qe h' hk => ?_)
    · obtain ⟨b, rfl, qf⟩ := qy
      cases rv
      refine wpAny_bind (wpAny_holding (wpAny_truthy_bool ?_))
      refine wpAny_bind (wpAny_letGo ?_)
      cases b with
      | false =>
        obtain ⟨m, hm, _⟩ := hw rfl _ (slo_none rfl I.bare rfl)
        cases hm
      | true =>
        simp only [if_true]
        refine wpAny_bind (wpAny_rule (wpAny_pure ?_))
        exact hT _ H (I.call' (ch := []) rfl (Un.kept fun _ _ z => z) I.hok (allBare_setGen I.bare hb) fun b z => by simp at z) (qf rfl)
    · refine wpAny_bind (wpAny_rule (wpAny_pure ?_))
      exact hF _ H (I.call' (ch := []) rfl (Un.kept hk) (I.hok.kept hk) (allBare_setGen I.bare rfl) fun b z => by simp at z) qe
  | succ m ih =>
    intro s hg hl ⟨gs, hgs, hgo⟩
    refine codeAny_builtin F.entry_any_loop ?_
    rw [Around.under_plainId F.plain_any_loop _]
    show wpAny _ A.in1 (pyNext (.ref a) >>= _) _ _ s
    refine wpAny_bind (next_md (A := A.in1) hh hl hd hg hgs hgo (fun v s₁ gs' ys x H hb e1 rv I ig cs qy hgl hw => ?_) fun s₁ ys H e1 I cs qe h' hk => ?_)
    · obtain ⟨b, rfl, qf⟩ := qy
      cases rv
      refine wpAny_bind (wpAny_holding (wpAny_truthy_bool ?_))
      refine wpAny_bind (wpAny_letGo ?_)
      cases b with
      | false =>
        simp only [Bool.false_eq_true, if_false]
        obtain ⟨m', hm, go'⟩ := hw rfl ((s₁.setGen g gs').setGen g .running) (slo_none rfl (allBare_setGen (allBare_setGen I.bare hb) rfl) rfl)
        have em : m' = m := by omega
        subst em
        refine wpAny_pure ⟨plainId_quiet F.plain_any_loop _, ih (s₁.setGen g gs') ig I.nolimit ⟨gs', setGen_at hgl, go'⟩⟩
      | true =>
        simp only [if_true]
        refine wpAny_bind (wpAny_rule (wpAny_pure ?_))
        exact hT _ H (I.call' (ch := []) rfl (Un.kept fun _ _ z => z) I.hok (allBare_setGen I.bare hb) fun b z => by simp at z) (qf rfl)
    · refine wpAny_bind (wpAny_rule (wpAny_pure ?_))
      exact hF _ H (I.call' (ch := []) rfl (Un.kept hk) (I.hok.kept hk) (allBare_setGen I.bare rfl) fun b z => by simp at z) qe
theorem call_all_md {k : Nat} {u : Value} {s : Shared} {Q : Value → Shared → Prop} {Qf Qt : Hp → Prop} (hr : Room (k + 4) A) (hfr : A.frames = some X.stack)
    (h : GMd X k pins σ N (fun _ x H => ∃ b, x = .bl b ∧ (b = false → Qf H)) (fun _ x => x = .bl true) (fun _ H => Qt H) u s)
    (hT : ∀ s' H, Inv X pins σ H s' → Qt H → Q (.bool true) s') (hF : ∀ s' H, Inv X pins σ H s' → Qf H → Q (.bool false) s') :
    wpAny (model X.prog X.w) A (call (.builtin "all") [u]) Q E s := by
  obtain ⟨a, g, c, H1, rfl, I, ha0, hal, hg, hgs, wake⟩ := h
  refine call_function_tree F.kind_all F.plain_all F.entry_all (F.args_all1 _) ?_
  unfold Builtin.«all»
  refine wpAny_bind (m := oneArg "all" _) (wpAny_pure ?_)
  refine wpAny_bind (wpAny_pyIter_gen hg ?_)
  refine wpAny_pure ⟨plainId_quiet F.plain_all_loop _, ?_⟩
  refine all_loop_md (X := X) (pins := pins) (σ := σ) (N := N) (g := g) (Qf := Qf) (Qt := Qt) hr.hd (by have := hr.dp; show A.depth < _; omega) (fun s' H I q => hT s' H I q) (fun s' H I q => hF s' H I q) N s hg I.nolimit ⟨_, hgs, rfl, ?_⟩
  refine wake _ none [] _ ⟨hr.hd, ?_, ?_⟩ hfr (by simp) (fun b hb => absurd hb (by simp)) (fun S hS => by cases hS) (fun b o e => e) rfl (allBare_setGen I.bare rfl)
  · have := hr.dp
    show A.depth + 3 * (k + 1) + 5 < _
    omega
  · have := hr.un
    show A.units + 1 + 1 + 16 * (k + 1) + 200 < _
    omega
theorem call_any_md {k : Nat} {u : Value} {s : Shared} {Q : Value → Shared → Prop} {Qf Qt : Hp → Prop} (hr : Room (k + 4) A) (hfr : A.frames = some X.stack)
    (h : GMd X k pins σ N (fun _ x H => ∃ b, x = .bl b ∧ (b = true → Qt H)) (fun _ x => x = .bl false) (fun _ H => Qf H) u s)
    (hT : ∀ s' H, Inv X pins σ H s' → Qt H → Q (.bool true) s') (hF : ∀ s' H, Inv X pins σ H s' → Qf H → Q (.bool false) s') :
    wpAny (model X.prog X.w) A (call (.builtin "any") [u]) Q E s := by
  obtain ⟨a, g, c, H1, rfl, I, ha0, hal, hg, hgs, wake⟩ := h
  refine call_function_tree F.kind_any F.plain_any F.entry_any (F.args_any1 _) ?_
  unfold Builtin.«any»
  refine wpAny_bind (m := oneArg "any" _) (wpAny_pure ?_)
  refine wpAny_bind (wpAny_pyIter_gen hg ?_)
  refine wpAny_pure ⟨plainId_quiet F.plain_any_loop _, ?_⟩
  refine any_loop_md (X := X) (pins := pins) (σ := σ) (N := N) (g := g) (Qf := Qf) (Qt := Qt) hr.hd (by have := hr.dp; show A.depth < _; omega) (fun s' H I q => hT s' H I q) (fun s' H I q => hF s' H I q) N s hg I.nolimit ⟨_, hgs, rfl, ?_⟩
  refine wake _ none [] _ ⟨hr.hd, ?_, ?_⟩ hfr (by simp) (fun b hb => absurd hb (by simp)) (fun S hS => by cases hS) (fun b o e => e) rfl (allBare_setGen I.bare rfl)
  · have := hr.dp
    show A.depth + 3 * (k + 1) + 5 < _
    omega
  · have := hr.un
    show A.units + 1 + 1 + 16 * (k + 1) + 200 < _
    omega
end
end GX

set_option maxRecDepth 100000
set_option maxHeartbeats 4000000
set_option pp.maxSteps 900
/-! GenZ2: generator expressions with two fors. -/
namespace GX
open PySem PySem.Spec PyProof.Rows L2 GenW
open PySem.W (CodeHd)
abbrev gx2 (elt t1 it1 : Expr) (ifs1 : List Expr) (t2 it2 : Expr) (ifs2 : List Expr) (scope : Scope) (pos : Pos) : Expr := .GeneratorExp elt [⟨t1, it1, ifs1, 0⟩, ⟨t2, it2, ifs2, 0⟩] scope pos
theorem compTurn_gx2_in (elt t1 it1 : Expr) (ifs1 : List Expr) (t2 it2 : Expr) (ifs2 : List Expr) (scope : Scope) (pos : Pos) (it acc : Value) (env : Env) :
    compTurn (gx2 elt t1 it1 ifs1 t2 it2 ifs2 scope pos) 1 it acc env = (do
      standAt it2.pos
      match ← pyNext it with
      | none => pure (.done .next)
      | some v =>
        letOwnedTupleGo t2 it v
        assign t2 env v
        let mut ok := true
        for c in ifs2 do
          if ok then ok ← isTrue c env (eval c env)
        if ok then
          (do let v ← eval elt env; standAt elt.pos; let _ ← yieldOut env v)
        again (.compLoop (gx2 elt t1 it1 ifs1 t2 it2 ifs2 scope pos) 1 it acc env)) := by rfl
theorem compTurn_gx2_out (elt t1 it1 : Expr) (ifs1 : List Expr) (t2 it2 : Expr) (ifs2 : List Expr) (scope : Scope) (pos : Pos) (it acc : Value) (env : Env) :
    compTurn (gx2 elt t1 it1 ifs1 t2 it2 ifs2 scope pos) 0 it acc env = (do
      standAt it1.pos
      match ← pyNext it with
      | none => pure (.done .next)
      | some v =>
        letOwnedTupleGo t1 it v
        assign t1 env v
        let mut ok := true
        for c in ifs1 do
          if ok then ok ← isTrue c env (eval c env)
        if ok then
          let x ← eval it2 env
          standAt it2.pos
          let x ← foldedSetIterable it2 env x
          let _ ← runOwn (.compStart (gx2 elt t1 it1 ifs1 t2 it2 ifs2 scope pos) 1 (← holding [x] (pyIter x)) acc env) env
        again (.compLoop (gx2 elt t1 it1 ifs1 t2 it2 ifs2 scope pos) 0 it acc env)) := by rfl
section
variable {A : Around} {elt t1 it1 t2 it2 : Expr} {ifs1 ifs2 : List Expr} {scope : Scope} {pos : Pos} {it it' acc acc' : Value} {env : Env}
theorem ov2_h : (A.over (.compLoop (gx2 elt t1 it1 ifs1 t2 it2 ifs2 scope pos) 0 it acc env) []).handled = A.handled := rfl
theorem ov2_d : (A.over (.compLoop (gx2 elt t1 it1 ifs1 t2 it2 ifs2 scope pos) 0 it acc env) []).depth = A.depth + 1 := by
  first | rfl | simp [Around.over, frameCount, Code.weight, Code.frames, Code.isFrame]
theorem ov2_f {l : List Env} (h : A.frames = some l) : (A.over (.compLoop (gx2 elt t1 it1 ifs1 t2 it2 ifs2 scope pos) 0 it acc env) []).frames = some (env :: l) := by
  simp [Around.over, pushEnvs, envsOf, Code.envs, Code.env?, Code.isFrame, h]
theorem ov2_u : (A.over (.compLoop (gx2 elt t1 it1 ifs1 t2 it2 ifs2 scope pos) 0 it acc env) []).units = A.units + 3 := by
  first | rfl | simp [Around.over, unitsOf, Code.cUnits, Code.frames, Code.isFrame]
theorem ov2_room {k : Nat} (hr : Room (k + 1) A) : Room k (A.over (.compLoop (gx2 elt t1 it1 ifs1 t2 it2 ifs2 scope pos) 0 it acc env) []) :=
  ⟨by rw [ov2_h]; exact hr.hd, by rw [ov2_d]; have := hr.dp; omega, by rw [ov2_u]; have := hr.un; omega⟩
variable {k : Result → Sem Fin} {l : List Value} {p₁ : Pos} {kp : List Value}
abbrev fr2 (elt t1 it1 : Expr) (ifs1 : List Expr) (t2 it2 : Expr) (ifs2 : List Expr) (scope : Scope) (pos : Pos) (it acc : Value) (env : Env) (k : Result → Sem Fin) (l : List Value) (p₁ : Pos) (kp : List Value) : Frame :=
  .ret k none false l (.compLoop (gx2 elt t1 it1 ifs1 t2 it2 ifs2 scope pos) 0 it acc env) p₁ kp
theorem ov3_h (hh : A.handled = none) : (A.over (.compLoop (gx2 elt t1 it1 ifs1 t2 it2 ifs2 scope pos) 1 it' acc' env) [fr2 elt t1 it1 ifs1 t2 it2 ifs2 scope pos it acc env k l p₁ kp]).handled = none := by
  simp [Around.over, marksOver, Frame.marks, hh, markOver]
theorem ov3_d : (A.over (.compLoop (gx2 elt t1 it1 ifs1 t2 it2 ifs2 scope pos) 1 it' acc' env) [fr2 elt t1 it1 ifs1 t2 it2 ifs2 scope pos it acc env k l p₁ kp]).depth = A.depth + 1 := by
  first | rfl | simp [Around.over, frameCount, Code.weight, Code.frames, Code.isFrame, Frame.where_]
theorem ov3_f {l0 : List Env} (h : A.frames = some l0) : (A.over (.compLoop (gx2 elt t1 it1 ifs1 t2 it2 ifs2 scope pos) 1 it' acc' env) [fr2 elt t1 it1 ifs1 t2 it2 ifs2 scope pos it acc env k l p₁ kp]).frames = some (env :: l0) := by
  simp [Around.over, pushEnvs, envsOf, Code.envs, Code.env?, Code.isFrame, Frame.where_, h]
theorem ov3_u : (A.over (.compLoop (gx2 elt t1 it1 ifs1 t2 it2 ifs2 scope pos) 1 it' acc' env) [fr2 elt t1 it1 ifs1 t2 it2 ifs2 scope pos it acc env k l p₁ kp]).units = A.units + 3 := by
  first | rfl | simp [Around.over, unitsOf, Code.cUnits, Code.frames, Code.isFrame, Frame.where_]
theorem ov3_room {j : Nat} (hr : Room (j + 1) A) : Room j (A.over (.compLoop (gx2 elt t1 it1 ifs1 t2 it2 ifs2 scope pos) 1 it' acc' env) [fr2 elt t1 it1 ifs1 t2 it2 ifs2 scope pos it acc env k l p₁ kp]) :=
  ⟨ov3_h hr.hd, by rw [ov3_d]; have := hr.dp; omega, by rw [ov3_u]; have := hr.un; omega⟩
end

/-- what stands of an iterator's objects, whatever the heap -/
def FpS (X : Cx) (b : Addr) : Prop := b ≠ X.env.locals ∧ b ∉ X.fs ∧ (b ∈ X.ex ∨ X.s_0.heap.objs.size ≤ b) ∧ ∀ x c, X.env.cells.lookup x = some c → c ≠ b
theorem FpS.ok {X : Cx} {b : Addr} {H : Hp} {pins : List (Addr × Obj)} (h : FpS X b) (hn : H b = none) (hp : ∀ p ∈ X.pn ++ pins, p.1 ≠ b) : FpOk X pins H b := ⟨hn, h.1, h.2.1, h.2.2.1, h.2.2.2, hp⟩
abbrev Cxw (X : Cx) (pn : List (Addr × Obj)) (A : Around) : Cx := { X with pn := pn, A := A }
theorem inv_cxw {X : Cx} {pins : List (Addr × Obj)} {pn : List (Addr × Obj)} {σ : L2.St} {H : Hp} {s : Shared} {A : Around} {pins' : List (Addr × Obj)} (I : Inv X pins σ H s) (hh : X.calm = true → A.handled = none) (hf : A.frames = some X.stack)
    (h : ∀ p ∈ pn ++ pins', s.heap.get? p.1 = some p.2 ∧ H p.1 = none ∧ p.1 ≠ X.env.locals ∧ p.1 ∉ X.fs ∧ ∀ v, p.2.data ≠ .cell v) : Inv (Cxw X pn A) pins' σ H s :=
  ⟨⟨I.ok.mod, I.ok.kind, I.ok.glob, I.ok.blt, I.ok.above, I.ok.inj, I.ok.has, I.ok.cab, hh, hf, I.ok.stk, I.ok.exf, I.ok.bs, I.ok.bsz, I.ok.noex, I.ok.exfs, I.ok.funs, I.ok.frf⟩, I.os, I.bare, I.base, I.loc, I.cell, I.free, I.freeC, h, I.hok, I.len⟩
theorem inv_uncxw {X : Cx} {pins : List (Addr × Obj)} {pn : List (Addr × Obj)} {σ : L2.St} {H : Hp} {s : Shared} {A : Around} {pins' : List (Addr × Obj)} (I : Inv (Cxw X pn A) pins' σ H s) (ok : X.Ok)
    (h : ∀ p ∈ X.pn ++ pins, p ∈ pn ++ pins') : Inv X pins σ H s :=
  ⟨ok, I.os, I.bare, I.base, I.loc, I.cell, I.free, I.freeC, fun p hp => I.pin p (h p hp), I.hok, I.len⟩

section
variable {X : Cx} {elt t1 it1 t2 it2 : Expr} {ifs1 ifs2 : List Expr} {scope : Scope} {pos : Pos} {it ito : Addr} {fp : List Addr} {tn : Nat → Heap → Prop} {J : It} {g : TG} {tt : TT} {te : TE} {vs : List Nat} {σg : L2.St} {N : Nat}
  {Qy : List V → V → Hp → Prop} {Rs : List V → V → Prop} {Qe : List V → Hp → Prop} {W : Nat → Nat → List V → Hp → Prop} {So : Option Addr} {Cs : List Addr} {A A' : Around} {pn : List (Addr × Obj)} {R : GenEnd} {k : Result → Sem Fin} {l kp : List Value} {p₁ : Pos}
theorem seg_in2 (hA : A.over (.compLoop (gx2 elt t1 it1 ifs1 t2 it2 ifs2 scope pos) 1 (.ref it) .none X.env) [fr2 elt t1 it1 ifs1 t2 it2 ifs2 scope pos (.ref ito) .none X.env k l p₁ kp] = A') (hc : X.calm = true) (hfx : ∀ b ∈ fp, FpS X b) (hxe : X.xe = fun _ _ => False) (hco : X.env.scope.isCoroutine = false)
    (T : Turn X.prog X.w X.K t2 J fp it tn) (hnd : Cs.Nodup) (hAp : ApartC (Cxw X pn A') Cs) (hSo : ∀ S, So = some S → S ∈ Cs) (hfpC : ∀ b ∈ fp, b ∉ Cs ∧ ∀ p ∈ pn, p.1 ≠ b)
    (pg : PG (Cxw X pn A') t2 g) (pt : PTs (Cxw X pn A') ifs2 tt) (pe : PE (Cxw X pn A') elt te) (turn : GTurn J g tt te vs σg N Qy Rs Qe W) (hlen : σg.length = X.N.length)
    (hcv : ∀ {ys σ H s}, GIo (Cxw X pn A') So Cs ys σ H s → GIo X So Cs ys σ H s)
    (hend : ∀ n ys s₀ s H, n + ys.length = N → GIo (Cxw X pn A') So Cs ys σg H s → Qe ys H → Seg (model X.prog X.w) A R (YO X So Cs N Qy Rs) n s₀ (.compLoop (gx2 elt t1 it1 ifs1 t2 it2 ifs2 scope pos) 0 (.ref ito) .none X.env) (k (.ok .next)) [] s) :
    ∀ (m i n : Nat) (ys : List V) (s₀ s : Shared) (H : Hp), W i m ys H → n + ys.length = N → GIo (Cxw X pn A') So Cs ys σg H s → tn i s.heap → (∀ b ∈ fp, H b = none) →
      Seg (model X.prog X.w) A R (YO X So Cs N Qy Rs) n s₀ (.compLoop (gx2 elt t1 it1 ifs1 t2 it2 ifs2 scope pos) 1 (.ref it) .none X.env)
        ((model X.prog X.w).den (.compLoop (gx2 elt t1 it1 ifs1 t2 it2 ifs2 scope pos) 1 (.ref it) .none X.env)) [fr2 elt t1 it1 ifs1 t2 it2 ifs2 scope pos (.ref ito) .none X.env k l p₁ kp] s := by
  intro m
  induction m using Nat.strongRecOn with
  | ind m ih =>
    intro i n ys s₀ s H w hn hI st nfp
    obtain ⟨pins, hpin, I⟩ := hI
    have hpo : ∀ {pins'}, PinOk So Cs ys pins' → ∀ b ∈ fp, ∀ p ∈ pn ++ pins', p.1 ≠ b := fun {pins'} hp b hb p hp' e => by
      rcases List.mem_append.mp hp' with z | z
      · exact (hfpC b hb).2 p z e
      · refine (hfpC b hb).1 ?_
        rw [← hp.1, ← e]
        exact List.mem_map.mpr ⟨p, z, rfl⟩
    have hfo : ∀ {pins' : List (Addr × Obj)} {H : Hp}, PinOk So Cs ys pins' → (∀ b ∈ fp, H b = none) → ∀ b ∈ fp, FpOk (Cxw X pn A') pins' H b := fun {pins' H} hp hn b hb => FpS.ok (X := Cxw X pn A') (hfx b hb) (hn b hb) (hpo hp b hb)
    show Seg _ A _ _ _ s₀ _ ((compTurn (gx2 elt t1 it1 ifs1 t2 it2 ifs2 scope pos) 1 (.ref it) .none X.env).onRaise _) _ s
    rw [compTurn_gx2_in, Sem.onRaise_eq_wrap]
    refine seg_bind_wrap (wpAny_standAt ?_)
    rcases turn i m ys H w with ⟨stop, qq⟩ | ⟨go, step⟩
    · refine seg_bind_wrap ?_
      rw [hA]
      refine wpAny_mono (T.done (Cxw X pn A') rfl rfl rfl hc i pins s σg H (fun _ _ => False) I (hfo hpin nfp) st stop) (fun r s1 hr => ?_) fun _ _ z => z.elim
      obtain ⟨hr, I1⟩ := hr
      subst hr
      exact seg_leaf (.ok .next) (hend n ys s₀ s1 H hn ⟨pins, hpin, I1⟩ qq)
    · refine seg_bind_wrap ?_
      rw [hA]
      refine wpAny_mono (T.item (Cxw X pn A') rfl rfl rfl hc i pins s σg H (fun _ _ => False) I (hfo hpin nfp) st go) (fun r s1 hr => ?_) fun _ _ z => z.elim
      obtain ⟨u, hr, hgo⟩ := hr
      subst hr
      refine seg_bind_wrap ?_
      rw [hA]
      refine wpAny_mono hgo (fun _ s2 h2 => ?_) fun _ _ z => z.elim
      obtain ⟨x, H', I2, rx, hy, st2, nfp2⟩ := h2
      refine seg_bind_wrap ?_
      rw [hA]
      have fo2 := hfo hpin nfp2
      have I2' := I2.pinned fo2 (T.obj _ _ st2)
      refine wpAny_mono (pg.run _ s2 σg H' x u _ I2' rx (step x H' hy)) (fun _ s3 h3 => ?_) fun e s' z => by rw [show (Cxw X pn A').xe = X.xe from rfl, hxe] at z; exact z.elim
      obtain ⟨σ3, H3, I3, hw3, q3⟩ := h3
      have fin : ∀ {s' : Shared} {H' : Hp}, Inv (Cxw X pn A') (pins ++ pinsAt fp s2.heap) σ3 H' s' → Inv (Cxw X pn A') pins σg H' s' ∧ tn (i + 1) s'.heap ∧ ∀ b ∈ fp, H' b = none := fun {s' H'} I' => by
        have pin' : ∀ b ∈ fp, ∀ o, s2.heap.get? b = some o → s'.heap.get? b = some o ∧ H' b = none := fun b hb o e =>
          let z := I'.pin (b, o) (List.mem_append_right _ (List.mem_append_right _ (mem_pinsAt hb e)))
          ⟨z.1, z.2.1⟩
        have hl : σg.length = σ3.length := by rw [← hw3, wipe_length]
        refine ⟨(I'.unpinned (pins := pins)).weak hl (fun j v e => ?_), T.keep _ _ _ st2 fun b hb o e => (pin' b hb o e).1, fun b hb => ?_⟩
        · rw [← hw3] at e
          exact (wipe_some e).1
        · obtain ⟨o, e, _⟩ := T.obj _ _ st2 b hb
          exact (pin' b hb o e).2
      refine seg_bind_wrap ?_
      rw [hA]
      refine wpAny_mono (pt.run _ s3 σ3 H3 _ I3 q3) (fun b s4 h4 => ?_) fun e s' z => by rw [show (Cxw X pn A').xe = X.xe from rfl, hxe] at z; exact z.elim
      obtain ⟨H4, I4, q4⟩ := h4
      cases b with
      | false =>
        simp only [Bool.false_eq_true, if_false] at q4 ⊢
        obtain ⟨m', hm, w'⟩ := q4
        obtain ⟨I5, st5, n5⟩ := fin I4
        exact seg_again rfl (ih m' hm (i + 1) n ys s₀ s4 H4 w' hn ⟨pins, hpin, I5⟩ st5 n5)
      | true =>
        simp only [if_true] at q4 ⊢
        have hy' : ∀ v, yieldOut X.env v = yieldValue v := fun v => by simp only [yieldOut, hco, Bool.false_eq_true, if_false]
        simp only [hy']
        rw [Sem.bind_eq_wrap', Sem.bind_eq_wrap', Sem.wrap_wrap, Sem.wrap_wrap]
        refine seg_wrap ?_
        rw [hA]
        refine wpAny_mono (pe.run _ s4 σ3 H4 _ I4 q4) (fun z s5 h5 => ?_) fun e s' z => by rw [show (Cxw X pn A').xe = X.xe from rfl, hxe] at z; exact z.elim
        obtain ⟨y, H5, I5, ry, hlt, hQy, hnext⟩ := h5
        obtain ⟨I6, st6, n6⟩ := fin I5
        obtain ⟨n, rfl⟩ : ∃ k, n = k + 1 := ⟨n - 1, by omega⟩
        have G6 : GIo (Cxw X pn A') So Cs ys σg H5 s5 := ⟨pins, hpin, I6⟩
        refine seg_at (seg_yield rfl rfl rfl ⟨ys, y, σg, H5, hn, ry, hcv G6, hQy, fun hrs s'' hsl => ?_⟩)
        obtain ⟨m', hm, w'⟩ := hnext hrs
        refine seg_again rfl (ih m' hm (i + 1) n (ys ++ [y]) s'' s'' H5 w' (by rw [List.length_append, List.length_singleton]; omega) (G6.woken hnd hAp hSo ry hsl) ?_ n6)
        exact T.keep _ _ _ st6 fun b hb o e => hsl.keep b o (hfpC b hb).1 e
end

def GTurn2 (J : It) (g : TG) (tt : TT) (wi : TI) (g2 : TG) (tt2 : TT) (te : TE) (vs vs2 : List Nat) (σg : L2.St) (N : Nat) (Qy : List V → V → Hp → Prop) (Rs : List V → V → Prop) (Qe : List V → Hp → Prop) (W : Nat → Nat → List V → Hp → Prop) : Prop :=
  ∀ i m ys H, W i m ys H → (J.stop i H ∧ Qe ys H) ∨ (J.go i H ∧ ∀ x H', J.yld i H x H' → g x σg H' fun σ2 H2 => wipe σ2 vs = σg ∧ tt σ2 H2 fun b H3 =>
    if b = true then wi σ2 H3 fun J2 H4 => ∃ W2, (∃ m2, W2 0 m2 ys H4) ∧ GTurn J2 g2 tt2 te vs2 (wipe σ2 vs2) N Qy Rs (fun ys' H5 => ∃ m', m' < m ∧ W (i + 1) m' ys' H5) W2
    else ∃ m', m' < m ∧ W (i + 1) m' ys H3)
theorem wipe_get {σ : L2.St} {j : Nat} {v : V} : ∀ {vs : List Nat}, σ[j]? = some (some v) → j ∉ vs → (wipe σ vs)[j]? = some (some v)
  | [], h, _ => h
  | w :: vs, h, hn => by
    unfold wipe
    have h1 : w ≠ j := fun e => hn (by rw [e]; exact List.mem_cons_self)
    rw [List.getElem?_set_ne h1]
    exact wipe_get h fun hm => hn (List.mem_cons_of_mem _ hm)
section
variable {X : Cx} {elt t1 it1 t2 it2 : Expr} {ifs1 ifs2 : List Expr} {scope : Scope} {pos : Pos} {ito : Addr} {fp : List Addr} {tn : Nat → Heap → Prop} {J : It} {g g2 : TG} {tt tt2 : TT} {te : TE} {wi : TI} {vs vs2 : List Nat} {σg : L2.St} {N : Nat}
  {Qy : List V → V → Hp → Prop} {Rs : List V → V → Prop} {Qe : List V → Hp → Prop} {W : Nat → Nat → List V → Hp → Prop} {So : Option Addr} {Cs : List Addr} {A : Around}
theorem seg_loop2 {kr : Nat} (hrA : Room (kr + 1) A) (hfrA : ∃ l, A.frames = some l ∧ X.stack = X.env :: l) (hA : A.over (.compLoop (gx2 elt t1 it1 ifs1 t2 it2 ifs2 scope pos) 0 (.ref ito) .none X.env) [] = X.A) (hc : X.calm = true) (hex : X.ex = fp) (hxe : X.xe = fun _ _ => False) (hco : X.env.scope.isCoroutine = false)
    (T : Turn X.prog X.w X.K t1 J fp ito tn) (hnd : Cs.Nodup) (hAp : ApartC X Cs) (hSo : ∀ S, So = some S → S ∈ Cs) (hfpC : ∀ b ∈ fp, b ∉ Cs ∧ ∀ p ∈ X.pn, p.1 ≠ b)
    (pg : PG X t1 g) (pt : PTs X ifs1 tt) (pi : PI X t2 it2 wi) (hs : ∀ x, foldedSetIterable it2 X.env x = pure x)
    (hin : ∀ (pn : List (Addr × Obj)) (A' : Around), Room kr A' → PG (Cxw X pn A') t2 g2 ∧ PTs (Cxw X pn A') ifs2 tt2 ∧ PE (Cxw X pn A') elt te)
    (turn : GTurn2 J g tt wi g2 tt2 te vs vs2 σg N Qy Rs Qe W) (hvs : ∀ j ∈ vs2, j ∈ vs) (hlen : σg.length = X.N.length) :
    ∀ (m i n : Nat) (ys : List V) (s₀ s : Shared) (H : Hp), W i m ys H → n + ys.length = N → GIo X So Cs ys σg H s → tn i s.heap → (∀ b ∈ fp, H b = none) →
      Seg (model X.prog X.w) A (RO X So Cs N Qe) (YO X So Cs N Qy Rs) n s₀ (.compLoop (gx2 elt t1 it1 ifs1 t2 it2 ifs2 scope pos) 0 (.ref ito) .none X.env)
        ((model X.prog X.w).den (.compLoop (gx2 elt t1 it1 ifs1 t2 it2 ifs2 scope pos) 0 (.ref ito) .none X.env)) [] s := by
  intro m
  induction m using Nat.strongRecOn with
  | ind m ih =>
    intro i n ys s₀ s H w hn hI st nfp
    obtain ⟨pins, hpin, I⟩ := hI
    have hpo : ∀ {pins'}, PinOk So Cs ys pins' → ∀ b ∈ fp, ∀ p ∈ X.pn ++ pins', p.1 ≠ b := fun {pins'} hp b hb p hp' e => by
      rcases List.mem_append.mp hp' with z | z
      · exact (hfpC b hb).2 p z e
      · refine (hfpC b hb).1 ?_
        rw [← hp.1, ← e]
        exact List.mem_map.mpr ⟨p, z, rfl⟩
    show Seg _ A _ _ _ s₀ _ ((compTurn (gx2 elt t1 it1 ifs1 t2 it2 ifs2 scope pos) 0 (.ref ito) .none X.env).onRaise (leaving X.env)) [] s
    rw [compTurn_gx2_out, Sem.onRaise_eq_wrap]
    refine seg_bind_wrap (wpAny_standAt ?_)
    rcases turn i m ys H w with ⟨stop, qq⟩ | ⟨go, step⟩
    · refine seg_bind_wrap ?_
      rw [hA]
      refine wpAny_mono (T.done X rfl rfl rfl hc i pins s σg H (fun _ _ => False) I (fp_ok I nfp hex (hpo hpin)) st stop) (fun r s1 hr => ?_) fun _ _ z => z.elim
      obtain ⟨hr, I1⟩ := hr
      subst hr
      exact seg_end (.ok .next) ⟨rfl, ys, σg, H, hn, ⟨pins, hpin, I1⟩, qq⟩
    · refine seg_bind_wrap ?_
      rw [hA]
      refine wpAny_mono (T.item X rfl rfl rfl hc i pins s σg H (fun _ _ => False) I (fp_ok I nfp hex (hpo hpin)) st go) (fun r s1 hr => ?_) fun _ _ z => z.elim
      obtain ⟨u, hr, hgo⟩ := hr
      subst hr
      refine seg_bind_wrap ?_
      rw [hA]
      refine wpAny_mono hgo (fun _ s2 h2 => ?_) fun _ _ z => z.elim
      obtain ⟨x, H', I2, rx, hy, st2, nfp2⟩ := h2
      refine seg_bind_wrap ?_
      rw [hA]
      have fo2 := fp_ok I2 nfp2 hex (hpo hpin)
      have I2' := I2.pinned fo2 (T.obj _ _ st2)
      refine wpAny_mono (pg.run _ s2 σg H' x u _ I2' rx (step x H' hy)) (fun _ s3 h3 => ?_) fun e s' z => by rw [hxe] at z; exact z.elim
      obtain ⟨σ3, H3, I3, hw3, q3⟩ := h3
      have fin : ∀ {s' : Shared} {H' : Hp}, Inv X (pins ++ pinsAt fp s2.heap) σ3 H' s' → Inv X pins σg H' s' ∧ tn (i + 1) s'.heap ∧ ∀ b ∈ fp, H' b = none := fun {s' H'} I' => by
        have pin' : ∀ b ∈ fp, ∀ o, s2.heap.get? b = some o → s'.heap.get? b = some o ∧ H' b = none := fun b hb o e =>
          let z := I'.pin (b, o) (List.mem_append_right _ (List.mem_append_right _ (mem_pinsAt hb e)))
          ⟨z.1, z.2.1⟩
        have hl : σg.length = σ3.length := by rw [← hw3, wipe_length]
        refine ⟨(I'.unpinned (pins := pins)).weak hl (fun j v e => ?_), T.keep _ _ _ st2 fun b hb o e => (pin' b hb o e).1, fun b hb => ?_⟩
        · rw [← hw3] at e
          exact (wipe_some e).1
        · obtain ⟨o, e, _⟩ := T.obj _ _ st2 b hb
          exact (pin' b hb o e).2
      refine seg_bind_wrap ?_
      rw [hA]
      refine wpAny_mono (pt.run _ s3 σ3 H3 _ I3 q3) (fun b s4 h4 => ?_) fun e s' z => by rw [hxe] at z; exact z.elim
      obtain ⟨H4, I4, q4⟩ := h4
      cases b with
      | false =>
        simp only [Bool.false_eq_true, if_false] at q4 ⊢
        obtain ⟨m', hm, w'⟩ := q4
        obtain ⟨I5, st5, n5⟩ := fin I4
        exact seg_again rfl (ih m' hm (i + 1) n ys s₀ s4 H4 w' hn ⟨pins, hpin, I5⟩ st5 n5)
      | true =>
        simp only [if_true] at q4 ⊢
        refine seg_bind_wrap ?_
        rw [hA]
        refine wpAny_mono (pi.run _ s4 σ3 H4 _ I4 q4) (fun xv s5 h5 => ?_) fun e s' z => by rw [hxe] at z; exact z.elim
        refine seg_bind_wrap (wpAny_standAt ?_)
        refine seg_bind_wrap (wpAny_of_eq (hs xv) ?_)
        refine seg_bind_wrap ?_
        rw [hA]
        refine wpAny_holding (wpAny_mono h5 (fun itv s6 h6 => ?_) fun e s' z => by rw [hxe] at z; exact z.elim)
        obtain ⟨it, fp2, tn2, J2, H6, rfl, I6, T2, st6, f6, W2, ⟨m2, w2⟩, turn2⟩ := h6
        unfold runOwn run
        simp only [Sem.onRaise_eq_wrap]
        rw [Sem.bind_eq_wrap']
        simp only [Sem.wrap_wrap, Sem.wrap]
        refine seg_call fun p => ?_
        generalize hk : (fun r : Result => _) = k
        generalize hA' : A.over (.compLoop (gx2 elt t1 it1 ifs1 t2 it2 ifs2 scope pos) 1 (.ref it) .none X.env) [fr2 elt t1 it1 ifs1 t2 it2 ifs2 scope pos (.ref ito) .none X.env k [] p []] = A'
        have hrA' : Room kr A' := by rw [← hA']; exact ov3_room hrA
        obtain ⟨l0, hl0, hl1⟩ := hfrA
        have hfA' : A'.frames = some X.stack := by rw [← hA', hl1]; exact ov3_f hl0
        obtain ⟨pg2, pt2, pe2⟩ := hin (X.pn ++ pinsAt fp s2.heap) A' hrA'
        have I6' : Inv (Cxw X (X.pn ++ pinsAt fp s2.heap) A') pins σ3 H6 s6 := inv_cxw I6 (fun _ => hrA'.hd) hfA' fun q hq => I6.pin q (by
          rcases List.mem_append.mp hq with z | z
          · rcases List.mem_append.mp z with z | z
            · exact List.mem_append_left _ z
            · exact List.mem_append_right _ (List.mem_append_right _ z)
          · exact List.mem_append_right _ (List.mem_append_left _ z))
        have hpc : ∀ b ∈ Cs, ∃ o, (b, o) ∈ pins := fun b hb => by
          rw [← hpin.1] at hb
          obtain ⟨q, hq, e⟩ := List.mem_map.mp hb
          exact ⟨q.2, by rw [← e]; exact hq⟩
        have loop := seg_in2 (X := X) (A := A) (A' := A') (k := k) (l := []) (kp := []) (p₁ := p) (pn := X.pn ++ pinsAt fp s2.heap) (R := RO X So Cs N Qe) (σg := wipe σ3 vs2) (vs := vs2) (W := W2) (Qe := fun ys' H5 => ∃ m', m' < m ∧ W (i + 1) m' ys' H5) (Qy := Qy) (Rs := Rs) (N := N) (ito := ito) (it1 := it1) (t1 := t1) (ifs1 := ifs1)
          hA' hc (fun b hb => let f := f6 b hb; ⟨f.2.1, f.2.2.1, f.2.2.2.1, f.2.2.2.2.1⟩) hxe hco T2 hnd
          (fun b hb => let ⟨a1, a2, a3, a4⟩ := hAp b hb; ⟨a1, a2, a3, fun q hq e => by
            rcases List.mem_append.mp hq with z | z
            · exact a4 q z e
            · obtain ⟨hb2, _⟩ := of_pinsAt z
              exact (hfpC q.1 hb2).1 (by rw [e]; exact hb)⟩) hSo
          (fun b hb => ⟨fun hm => by
            obtain ⟨o, ho⟩ := hpc b hm
            exact (f6 b hb).2.2.2.2.2 (b, o) (List.mem_append_right _ (List.mem_append_left _ ho)) rfl, fun q hq => (f6 b hb).2.2.2.2.2 q (by
            rcases List.mem_append.mp hq with z | z
            · exact List.mem_append_left _ z
            · exact List.mem_append_right _ (List.mem_append_right _ z))⟩)
          pg2 pt2 pe2 turn2 (by rw [wipe_length, ← hlen, ← hw3, wipe_length])
          (fun {ys σ H s} hG => let ⟨pins', hp', I'⟩ := hG; ⟨pins', hp', inv_uncxw I' I.ok fun q hq => by
            rcases List.mem_append.mp hq with z | z
            · exact List.mem_append_left _ (List.mem_append_left _ z)
            · exact List.mem_append_right _ z⟩)
          (fun n' ys' s₀' s' H' hn' hG hQ => by
            obtain ⟨pins', hp', I'⟩ := hG
            obtain ⟨m', hm, w'⟩ := hQ
            have pin' : ∀ b ∈ fp, ∀ o, s2.heap.get? b = some o → s'.heap.get? b = some o ∧ H' b = none := fun b hb o e =>
              let z := I'.pin (b, o) (List.mem_append_left _ (List.mem_append_right _ (mem_pinsAt hb e)))
              ⟨z.1, z.2.1⟩
            have Io : Inv X pins' σg H' s' := (inv_uncxw (pins := pins') I' I.ok fun q hq => by
              rcases List.mem_append.mp hq with z | z
              · exact List.mem_append_left _ (List.mem_append_left _ z)
              · exact List.mem_append_right _ z).weak (by rw [wipe_length, ← hw3, wipe_length]) fun j v e => by
                rw [← hw3] at e
                obtain ⟨e1, e2⟩ := wipe_some e
                exact wipe_get e1 fun hm => e2 (hvs j hm)
            rw [← hk]
            exact seg_again rfl (ih m' hm (i + 1) n' ys' s₀' s' H' w' hn' ⟨pins', hp', Io⟩ (T.keep _ _ _ st2 fun b hb o e => (pin' b hb o e).1) fun b hb => let ⟨o, e, _⟩ := T.obj _ _ st2 b hb; (pin' b hb o e).2))
          m2 0 n ys s₀ s6 H6 w2 hn ⟨pins, hpin, I6'.weak (wipe_length _ _) fun j v e => (wipe_some e).1⟩ st6 (fun b hb => (f6 b hb).1)
        show Seg _ A _ _ _ s₀ _ ((compStart (gx2 elt t1 it1 ifs1 t2 it2 ifs2 scope pos) 1 (.ref it) .none X.env).onRaise _) _ s6
        unfold compStart
        rw [Sem.onRaise_eq_wrap]
        show Seg _ A _ _ _ s₀ _ ((ask >>= _).wrap _ _ _ _) _ s6
        refine seg_bind_wrap (wpAny_askSetting ?_)
        split
        · exact seg_again rfl loop
        · first
            | exact seg_bind_wrap (wpAny_rule (seg_bind_wrap (wpAny_standAt (seg_bind_wrap (T2.self _ 0 s6 _ _ st6 (seg_again rfl loop))))))
            | (refine seg_bind_wrap (wpAny_rule ?_); show Seg _ A _ _ _ s₀ _ ((standAt it2.pos >>= _).wrap _ _ _ _) _ s6; exact seg_bind_wrap (wpAny_standAt (seg_bind_wrap (T2.self _ 0 s6 _ _ st6 (seg_again rfl loop)))))
end
end GX

set_option maxRecDepth 100000
set_option maxHeartbeats 4000000
set_option pp.maxSteps 900
namespace GX
open PySem PySem.Spec PyProof.Rows L2 GenW
open PySem.W (CodeHd)
theorem eval_gx2 (elt t1 it1 : Expr) (ifs1 : List Expr) (t2 it2 : Expr) (ifs2 : List Expr) (scope : Scope) (pos : Pos) (env : Env) (hco : scope.isCoroutine = false) :
    eval (gx2 elt t1 it1 ifs1 t2 it2 ifs2 scope pos) env = (do
      let x ← eval it1 env
      standAt it1.pos
      let x ← genFold it1 env x
      let it ← holding [x] (pyIter x)
      enterFrame
      let cl ← closureFor scope env
      let code ← genexprCode env pos (env.qual ++ "<genexpr>") scope
      let bi ← builtinsFor env.globals env.builtins
      let cenv ← newFunctionEnv scope env.globals cl [(".0", it)] (env.qual ++ "<genexpr>.") none code none bi
      newGenerator (.compStart (gx2 elt t1 it1 ifs1 t2 it2 ifs2 scope pos) 0 it .none cenv) "<genexpr>" (env.qual ++ "<genexpr>")) := by
  rw [arm_eval_GeneratorExp]
  simp only [hco, Bool.false_eq_true, if_false]
  rfl
section
variable {X : Cx} {elt t1 it1 t2 it2 : Expr} {ifs1 ifs2 : List Expr} {scope : Scope} {pos : Pos} {ito : Addr} {fp : List Addr} {tn : Nat → Heap → Prop} {J : It} {g g2 : TG} {tt tt2 : TT} {te : TE} {wi : TI} {vs vs2 : List Nat} {σg : L2.St} {N : Nat}
  {Qy : List V → V → Hp → Prop} {Rs : List V → V → Prop} {Qe : List V → Hp → Prop} {W : Nat → Nat → List V → Hp → Prop} {So : Option Addr} {Cs : List Addr} {A : Around}
theorem seg_start2 {kr : Nat} (hrA : Room (kr + 1) A) (hfrA : ∃ l, A.frames = some l ∧ X.stack = X.env :: l) (hA : A.over (.compLoop (gx2 elt t1 it1 ifs1 t2 it2 ifs2 scope pos) 0 (.ref ito) .none X.env) [] = X.A) (hc : X.calm = true) (hex : X.ex = fp) (hxe : X.xe = fun _ _ => False) (hco : X.env.scope.isCoroutine = false)
    (T : Turn X.prog X.w X.K t1 J fp ito tn) (hnd : Cs.Nodup) (hAp : ApartC X Cs) (hSo : ∀ S, So = some S → S ∈ Cs) (hfpC : ∀ b ∈ fp, b ∉ Cs ∧ ∀ p ∈ X.pn, p.1 ≠ b)
    (pg : PG X t1 g) (pt : PTs X ifs1 tt) (pi : PI X t2 it2 wi) (hs : ∀ x, foldedSetIterable it2 X.env x = pure x)
    (hin : ∀ (pn : List (Addr × Obj)) (A' : Around), Room kr A' → PG (Cxw X pn A') t2 g2 ∧ PTs (Cxw X pn A') ifs2 tt2 ∧ PE (Cxw X pn A') elt te)
    (turn : GTurn2 J g tt wi g2 tt2 te vs vs2 σg N Qy Rs Qe W) (hvs : ∀ j ∈ vs2, j ∈ vs) (hlen : σg.length = X.N.length)
    {m n : Nat} {ys : List V} {s₀ s : Shared} {H : Hp} (w : W 0 m ys H) (hn : n + ys.length = N) (hI : GIo X So Cs ys σg H s) (st : tn 0 s.heap) (nfp : ∀ b ∈ fp, H b = none) :
      Seg (model X.prog X.w) A (RO X So Cs N Qe) (YO X So Cs N Qy Rs) n s₀ (.compStart (gx2 elt t1 it1 ifs1 t2 it2 ifs2 scope pos) 0 (.ref ito) .none X.env)
        ((model X.prog X.w).den (.compStart (gx2 elt t1 it1 ifs1 t2 it2 ifs2 scope pos) 0 (.ref ito) .none X.env)) [] s := by
  have loop := seg_loop2 (So := So) (Cs := Cs) (Qy := Qy) (Rs := Rs) (Qe := Qe) hrA hfrA hA hc hex hxe hco T hnd hAp hSo hfpC pg pt pi hs hin turn hvs hlen m 0 n ys s₀ s H w hn hI st nfp
  show Seg _ A _ _ _ s₀ _ ((compStart (gx2 elt t1 it1 ifs1 t2 it2 ifs2 scope pos) 0 (.ref ito) .none X.env).onRaise (leaving X.env)) [] s
  unfold compStart
  rw [Sem.onRaise_eq_wrap]
  show Seg _ A _ _ _ s₀ _ ((ask >>= _).wrap _ _ _ _) [] s
  refine seg_bind_wrap (wpAny_askSetting ?_)
  split
  · exact seg_again rfl loop
  · first
      | exact seg_bind_wrap (wpAny_rule (seg_bind_wrap (wpAny_standAt (seg_bind_wrap (T.self _ 0 s _ _ st (seg_again rfl loop))))))
      | (refine seg_bind_wrap (wpAny_rule ?_); show Seg _ A _ _ _ s₀ _ ((standAt it1.pos >>= _).wrap _ _ _ _) [] s; exact seg_bind_wrap (wpAny_standAt (seg_bind_wrap (T.self _ 0 s _ _ st (seg_again rfl loop)))))
end
section
variable {X : Cx} {pins : List (Addr × Obj)} {σ : L2.St} {H : Hp} {s : Shared}
theorem gx_made2 {k N : Nat} {elt tg iter t2 it2 : Expr} {ifs ifs2 : List Expr} {vs2 : List Nat} {scope : Scope} {own : List (Str × Nat)} {pos : Pos} {wi : TI} {Qy : List V → V → Hp → Prop} {Rs : List V → V → Prop} {Qe : List V → Hp → Prop}
    (hr : Room 1 X.A) (hcalm : X.calm = true) (hN : X.N.Nodup) (hi : PI X tg iter wi) (ok : BlkOk X.N X.env.scope scope own) (hco : scope.isCoroutine = false) (h0 : scope.names.lookup (".0" : Str) = some .local)
    (bm : ∃ P, X.base.BuiltinsAt X.mg P) (hs : ∀ v, genFold iter X.env v = pure v) (hs2 : ∀ env v, foldedSetIterable it2 env v = pure v) (hvs : ∀ j ∈ vs2, j ∈ own.map (·.2)) (I : Inv X pins σ H s)
    (h : wi σ H fun J H1 => ∃ T c P, X.env.code = .ref c ∧ TabI X.base T H1 ∧ T c P ∧ ∀ (H' : Hp) (T' : Tb) (c' P' : Addr), TabI X.base T' H' → (∀ a b, T a b → T' a b) → T' c' P' → Grown H1 H' →
      ∀ (s' : Shared) (L : Addr) (cl : List (Str × Addr)) (q : Str) (fp : List Addr) (pn : List (Addr × Obj)) (A : Around), Room k A → ∃ g tt wi2 g2 tt2 te W, PG (gx X s' H' scope L cl q (.ref c') fp pn A) tg g ∧ PTs (gx X s' H' scope L cl q (.ref c') fp pn A) ifs tt ∧ PI (gx X s' H' scope L cl q (.ref c') fp pn A) t2 it2 wi2 ∧
        (∀ pn' A', Room k A' → PG (Cxw (gx X s' H' scope L cl q (.ref c') fp pn A) pn' A') t2 g2 ∧ PTs (Cxw (gx X s' H' scope L cl q (.ref c') fp pn A) pn' A') ifs2 tt2 ∧ PE (Cxw (gx X s' H' scope L cl q (.ref c') fp pn A) pn' A') elt te) ∧ (∃ m, W 0 m [] H') ∧ GTurn2 J g tt wi2 g2 tt2 te (own.map (·.2)) vs2 (wipe σ (own.map (·.2))) N Qy Rs Qe W) :
    wpAny (model X.prog X.w) X.A (eval (gx2 elt tg iter ifs t2 it2 ifs2 scope pos) X.env) (GMd X k pins σ N Qy Rs Qe) X.xe s := by
  have hfree : ∀ y ∈ scope.names, y.2 = .free → ∃ c, X.env.cells.lookup y.1 = some c := fun y hy e => by
    rcases ok.free y hy e with k | k
    · exact I.ok.has _ (.inl k)
    · exact I.ok.has _ (.inr k)
  rw [eval_gx2 _ _ _ _ _ _ _ _ _ _ hco, closure_ok hfree]
  refine wpAny_bind (thn (hi.run pins s σ H _ I h) fun xv s1 hx => ?_)
  refine wpAny_bind (wpAny_standAt ?_)
  refine wpAny_bind (wpAny_of_eq (hs xv) ?_)
  refine wpAny_bind (wpAny_holding (thn hx fun itv s2 h2 => ?_))
  obtain ⟨it, fp, tn, J, H2, e, I2, T, st2, f2, T0, c, P, hcode, hTabI, hTcP, hq⟩ := h2
  subst e
  refine wpAny_bind (wpAny_enterFrame I2.nolimit hr.depth ?_)
  refine wpAny_bind (wpAny_pure ?_)
  refine wpAny_bind (genexpr_code I2 hTabI hcode hTcP fun H3 T' c' P' s3 I3 hTabI' hTT hT' hk1 hk2 hk3 hsz3 => ?_)
  have q3 := hq H3 T' c' P' hTabI' hTT hT' ⟨hk1, hk2⟩
  obtain ⟨Pb, bmm, ob, e1, e2, e3, e4, e5, e6, e7, e8⟩ := bm
  refine wpAny_bind (wpAny_builtinsFor (m := X.mg) (by rw [I.ok.glob]; exact I3.mod.glob.keeps I3.bk) e1 e2 (I3.bk _ _ e5) e6 e7 e8 ?_)
  have f3 : ∀ b ∈ fp, FpOk X pins H3 b ∧ b < s3.heap.objs.size := fun b hb => by
    obtain ⟨o, ho, _⟩ := T.obj _ _ st2 b hb
    obtain ⟨g1, g2⟩ := hk3 b o ho (f2 b hb).1
    exact ⟨⟨g2, (f2 b hb).2⟩, Heap.lt_size g1⟩
  have st3 : tn 0 s3.heap := T.keep _ _ _ st2 fun b hb o ho => (hk3 b o ho (f2 b hb).1).1
  have cm : ∀ p ∈ cloFrom X.env.cells scope.names [], p.2 < s3.heap.objs.size := fun p hp => by
    rcases cloFrom_mem (n := p.1) (c := p.2) hp with hm | ⟨h1, e⟩
    · cases hm
    · obtain ⟨c, hc⟩ := hfree _ h1 rfl
      rw [e, hc]
      obtain ⟨w, z⟩ := I3.cell _ _ hc
      exact z.lt
  refine wpAny_bind (newEnv_gx (globals := X.env.globals) ok.kind h0 cm fun h4 tk4 hns4 hk4 hc4 hcl4 hsz4 => ?_)
  simp only [newGenerator, newFields]
  refine wpAny_bind (wpAny_newGen (wpAny_bind (wpAny_mkText (wpAny_bind (wpAny_mkText (wpAny_newObj_type ?_ (by size_fits)))))))
  show GMd X k pins σ N Qy Rs Qe (.ref h4.objs.size) { s3 with gens := s3.gens.push (.fresh (.compStart (gx2 elt tg iter ifs t2 it2 ifs2 scope pos) 0 (.ref it) .none (gxEnv X scope s3.heap.objs.size (cellsFrom (s3.heap.objs.size + 1) scope.names (cloFrom X.env.cells scope.names [])) (X.env.qual ++ "<genexpr>.") (.ref c')))), toks := tk4 + 1 + 1, heap := h4.push { cls := .type "generator", data := .fields #[rawInt s3.gens.size, .str "<genexpr>" tk4, .str (X.env.qual ++ "<genexpr>") (tk4 + 1)] } }
  generalize hgo : ({ cls := .type "generator", data := .fields #[rawInt s3.gens.size, .str "<genexpr>" tk4, .str (X.env.qual ++ "<genexpr>") (tk4 + 1)] } : Obj) = go
  have hgc : NoCell go := fun v q => by rw [← hgo] at q; cases q
  have hpush : (h4.push go).get? h4.objs.size = some go := by rw [← hgo]; exact Heap.get?_push_size _ rfl
  have hgen : ∀ hh : Heap, hh.get? h4.objs.size = some go → hh.IsGen h4.objs.size s3.gens.size := fun hh e => ⟨go, _, _, e, by rw [← hgo], by rw [← hgo]; rfl, by rw [← hgo]⟩
  have kp6 : ∀ b o, s3.heap.get? b = some o → (h4.push go).get? b = some o := fun b o e => Heap.get?_push_of_some _ (hk4 b o e)
  have age : s3.heap.objs.size ≤ h4.objs.size := Nat.le_of_lt hsz4
  have ha0 : H3 h4.objs.size = none := I3.hok.fresh age
  refine ⟨h4.objs.size, s3.gens.size, _, H3, rfl, ?_, ha0, ?_, hgen _ hpush, Array.getElem?_push_size .., ?_⟩
  · exact I3.call' (ch := []) rfl (Un.kept kp6) (I3.hok.kept kp6) (I3.bare.push rfl) fun b z => by simp at z
  · show _ < (h4.push go).objs.size
    rw [Heap.size_push]; exact Nat.lt_succ_self _
  intro A So Cs s6 hrA hfrA hnd hCs hSo hk6 hos6 hba6
  obtain ⟨gg, tt, wi2, gg2, tt2, te, W, pg, pt, pi2, hin, ⟨m0, w0⟩, turn⟩ := q3 s3 s3.heap.objs.size (cellsFrom (s3.heap.objs.size + 1) scope.names (cloFrom X.env.cells scope.names [])) (X.env.qual ++ "<genexpr>.") fp [(h4.objs.size, go)]
    (A.over (.compLoop (gx2 elt tg iter ifs t2 it2 ifs2 scope pos) 0 (.ref it) .none (gxEnv X scope s3.heap.objs.size (cellsFrom (s3.heap.objs.size + 1) scope.names (cloFrom X.env.cells scope.names [])) (X.env.qual ++ "<genexpr>.") (.ref c'))) []) (ov2_room hrA)
  have kp7 : ∀ b o, s3.heap.get? b = some o → s6.heap.get? b = some o := fun b o e => hk6 b o (kp6 b o e)
  have hg6 : s6.heap.get? h4.objs.size = some go := hk6 _ _ hpush
  have hs6 : ∀ b ∈ Cs, h4.objs.size < b := fun b hb => by
    have q : (h4.push go).objs.size ≤ b := (hCs b hb).1
    rw [Heap.size_push] at q
    exact q
  have astk : ∀ b, s3.heap.objs.size ≤ b → b ∉ frs X.stack := fun b hb hm => by
    rcases List.mem_cons.mp (I3.stkSub b hm) with z | z
    · have := I3.lt
      rw [← z] at this
      exact absurd (Nat.lt_of_lt_of_le this hb) (Nat.lt_irrefl _)
    · exact I3.nofs hb z
  have IY := gx_start (A := A.over (.compLoop (gx2 elt tg iter ifs t2 it2 ifs2 scope pos) 0 (.ref it) .none (gxEnv X scope s3.heap.objs.size (cellsFrom (s3.heap.objs.size + 1) scope.names (cloFrom X.env.cells scope.names [])) (X.env.qual ++ "<genexpr>.") (.ref c'))) [])
    (code := .ref c') (q := X.env.qual ++ "<genexpr>.") (pn := [(h4.objs.size, go)]) (s5 := s6) I3 ok hN f3 hrA.hd (ov2_f hfrA) hos6 hba6 kp7
    (let ⟨m, hm⟩ := hns4; ⟨m, (hm.push go).keeps hk6⟩) (fun y c hm hge => let ⟨v, z⟩ := hc4 y c hm hge; ⟨v, (z.keeps fun b o e => Heap.get?_push_of_some _ e).keeps hk6⟩)
    (fun p hp => by
      rw [List.mem_singleton.mp hp]
      exact ⟨hg6, ha0, Nat.ne_of_gt hsz4, astk _ age, hgc⟩)
  -- the consumer's pins
  have hpins : ∃ pl : List (Addr × Obj), pl.map (·.1) = Cs ∧ ∀ p ∈ pl, s6.heap.get? p.1 = some p.2 ∧ NoCell p.2 := by
    clear hnd hSo hs6
    induction Cs with
    | nil => exact ⟨[], rfl, fun p hp => absurd hp (by simp)⟩
    | cons b r ih =>
      obtain ⟨pl, h1, h2⟩ := ih fun d hd => hCs d (List.mem_cons_of_mem _ hd)
      obtain ⟨_, o, h3, h4⟩ := hCs b List.mem_cons_self
      refine ⟨(b, o) :: pl, by simp [h1], fun p hp => ?_⟩
      rcases List.mem_cons.mp hp with rfl | hp
      · exact ⟨h3, h4⟩
      · exact h2 p hp
  obtain ⟨pl, hpl1, hpl2⟩ := hpins
  have big : ∀ b ∈ Cs, s3.heap.objs.size ≤ b := fun b hb => Nat.le_trans age (Nat.le_of_lt (hs6 b hb))
  have G0 : GIo (gx X s3 H3 scope s3.heap.objs.size (cellsFrom (s3.heap.objs.size + 1) scope.names (cloFrom X.env.cells scope.names [])) (X.env.qual ++ "<genexpr>.") (.ref c') fp [(h4.objs.size, go)]
      (A.over (.compLoop (gx2 elt tg iter ifs t2 it2 ifs2 scope pos) 0 (.ref it) .none (gxEnv X scope s3.heap.objs.size (cellsFrom (s3.heap.objs.size + 1) scope.names (cloFrom X.env.cells scope.names [])) (X.env.qual ++ "<genexpr>.") (.ref c'))) []))
      So Cs [] (wipe σ (own.map (·.2))) H3 s6 := by
    refine ⟨pl, ⟨hpl1, fun S hS => ?_⟩, IY.pins_of fun p hp => ?_⟩
    · obtain ⟨h1, c, h2⟩ := hSo S hS
      rw [← hpl1] at h1
      obtain ⟨p, hp, e⟩ := List.mem_map.mp h1
      have h3 := (hpl2 p hp).1
      rw [e, h2] at h3
      refine ⟨#[], c, ?_, .nil⟩
      have : p = (S, lstObj #[] c) := by
        obtain ⟨p1, p2⟩ := p
        simp only at e h3
        rw [e, Option.some.inj h3]
      rw [← this]; exact hp
    · have hb : p.1 ∈ Cs := by rw [← hpl1]; exact List.mem_map.mpr ⟨p, hp, rfl⟩
      exact ⟨(hpl2 p hp).1, I3.hok.fresh (big _ hb), fun z => absurd (show (p.1 : Nat) = s3.heap.objs.size from z) (Nat.ne_of_gt (Nat.lt_trans hsz4 (hs6 _ hb))), astk _ (big _ hb), (hpl2 p hp).2⟩
  have conv : ∀ {ys : List V} {σ' : L2.St} {H' : Hp} {s' : Shared}, GIo (gx X s3 H3 scope s3.heap.objs.size (cellsFrom (s3.heap.objs.size + 1) scope.names (cloFrom X.env.cells scope.names [])) (X.env.qual ++ "<genexpr>.") (.ref c') fp [(h4.objs.size, go)]
      (A.over (.compLoop (gx2 elt tg iter ifs t2 it2 ifs2 scope pos) 0 (.ref it) .none (gxEnv X scope s3.heap.objs.size (cellsFrom (s3.heap.objs.size + 1) scope.names (cloFrom X.env.cells scope.names [])) (X.env.qual ++ "<genexpr>.") (.ref c'))) []))
      So Cs ys σ' H' s' → Inv X pins σ H' s' ∧ s'.heap.IsGen h4.objs.size s3.gens.size ∧ CsOk So Cs ys H' s' := fun {ys σ' H' s'} hG => by
    obtain ⟨pins', ⟨hp1, hp2⟩, IYs⟩ := hG
    refine ⟨I3.call' (ch := fp) IYs.os IYs.base IYs.hok IYs.bare fun b hb => ⟨(f3 b hb).1.2.2.2.1, (f3 b hb).1.2.1, (f3 b hb).1.2.2.2.2.1, (f3 b hb).1.2.2.2.2.2⟩, hgen _ (IYs.pin (h4.objs.size, go) (List.mem_append_left _ (List.mem_singleton.mpr rfl))).1, fun b hb => ?_, fun S hS => ?_⟩
    · rw [← hp1] at hb
      obtain ⟨p, hp, e⟩ := List.mem_map.mp hb
      obtain ⟨g1, g2, _, _, g3⟩ := IYs.pin p (List.mem_append_right _ hp)
      rw [← e]
      exact ⟨g2, p.2, g1, g3⟩
    · obtain ⟨acc, c, m1, m2⟩ := hp2 S hS
      exact ⟨acc, c, (IYs.pin _ (List.mem_append_right _ m1)).1, m2⟩
  refine seg_imp (fun n s₀ r s' hR => ?_) (fun n s₀ v s' kap kap' hkk hY => ?_) N
    (seg_start2 (kr := k) hrA ⟨_, hfrA, rfl⟩ (X := gx X s3 H3 scope s3.heap.objs.size (cellsFrom (s3.heap.objs.size + 1) scope.names (cloFrom X.env.cells scope.names [])) (X.env.qual ++ "<genexpr>.") (.ref c') fp [(h4.objs.size, go)]
      (A.over (.compLoop (gx2 elt tg iter ifs t2 it2 ifs2 scope pos) 0 (.ref it) .none (gxEnv X scope s3.heap.objs.size (cellsFrom (s3.heap.objs.size + 1) scope.names (cloFrom X.env.cells scope.names [])) (X.env.qual ++ "<genexpr>.") (.ref c'))) []))
      (So := So) (Cs := Cs) rfl hcalm rfl rfl hco T hnd (fun b hb => ⟨big b hb, Nat.ne_of_gt (Nat.lt_trans hsz4 (hs6 b hb)), fun x c e z => ?_, fun p hp => ?_⟩) (fun S hS => (hSo S hS).1) (fun b hb => ⟨fun hm => ?_, fun p hp => ?_⟩) pg pt pi2 (hs2 _) hin turn hvs (by rw [wipe_length]; exact I.len)
      w0 (Nat.add_zero _) G0 (T.keep _ _ _ st3 fun b _ o e => kp7 b o e) (fun b hb => (f3 b hb).1.1))
  · obtain ⟨hr1, ys, σ', H', hn, hG, hQ⟩ := hR
    obtain ⟨c1, _, c3⟩ := conv hG
    exact ⟨hr1, ys, H', hn, c1, c3, hQ⟩
  · obtain ⟨ys, x, σ', H', hn, rv, hG, hQ, hw⟩ := hY
    obtain ⟨c1, c2, c3⟩ := conv hG
    exact ⟨ys, x, H', hn, rv, c1, c2, c3, hQ, fun hrs s'' hsl => hkk _ _ (hw hrs s'' hsl)⟩
  · have h1 := hcl4 x c (PySem.mem_of_lookup e)
    rw [z] at h1
    exact absurd (Nat.lt_trans h1 (hs6 b hb)) (Nat.lt_irrefl _)
  · rw [List.mem_singleton.mp hp]
    exact Nat.ne_of_lt (hs6 b hb)
  · exact absurd (Nat.lt_of_lt_of_le (f3 b hb).2 (big b hm)) (Nat.lt_irrefl _)
  · rw [List.mem_singleton.mp hp]
    exact Nat.ne_of_gt (Nat.lt_of_lt_of_le (f3 b hb).2 age)
end
end GX

set_option maxRecDepth 100000
set_option maxHeartbeats 4000000
set_option pp.maxSteps 900
/-! DL: what code computes, as plain functions of values. -/
namespace DL
open PySem PySem.Spec PyProof.Rows L2 GX

/-- values: tuples and lists that nobody changes are trees; an object that may change is a number in a store -/
inductive D where
  | non | bl (b : Bool) | int (i : Int) | str (x : Str) | tup (xs : List D) | lst (xs : List D) | scr (xs : List D) | obj (k : Nat)
instance : Inhabited D := ⟨.non⟩
inductive Cell where
  | lst (xs : List D)
  | dct (kvs : List (D × D))
  | dead
abbrev Sto := List Cell
abbrev En := List (Option D)
inductive Out where
  | nx (ρ : En) (S : Sto) | rt (d : D) (S : Sto) | bk (ρ : En) (S : Sto) | ct (ρ : En) (S : Sto)
/-- where the store's objects lie; what is frozen; the code objects known -/
structure Wd where
  al : Nat → Addr
  fr : Hp
  tb : Tb
mutual
inductive Den (w : Wd) (n : Nat) : V → D → Prop where
  | non : Den w n .non .non
  | bl (b : Bool) : Den w n (.bl b) (.bl b)
  | int (i : Int) : Den w n (.int i) (.int i)
  | str (x : Str) : Den w n (.str x) (.str x)
  | tup {a : Addr} {vs : List V} {ds : List D} : w.fr a = some (.tup vs) → DenL w n vs ds → Den w n (.ref a) (.tup ds)
  | lst {a : Addr} {vs : List V} {ds : List D} : w.fr a = some (.lst vs) → DenL w n vs ds → Den w n (.ref a) (.lst ds)
  | scr {a : Addr} {vs : List V} {ds : List D} : Rd w.fr a (.lst vs) → DenL w n vs ds → Den w n (.ref a) (.scr ds)
  | obj {k : Nat} : k < n → Den w n (.ref (w.al k)) (.obj k)
inductive DenL (w : Wd) (n : Nat) : List V → List D → Prop where
  | nil : DenL w n [] []
  | cons {v : V} {d : D} {vs : List V} {ds : List D} : Den w n v d → DenL w n vs ds → DenL w n (v :: vs) (d :: ds)
end
/-- no table, no code -/
def NoTab (o : HO) : Prop := (∀ ps, o ≠ .tbl ps) ∧ ∀ c P, o ≠ .ext fun h => PySem.W.CodeHd h c P
/-! dicts: keys are trees -/
mutual
def kOf : D → Option NestedKey
  | .non => some .none
  | .bl b => some (.num (if b = true then 1 else 0))
  | .int i => some (.num i)
  | .str x => some (.text x)
  | .tup xs => match kOfs xs with | some ks => some (.tup ks) | none => none
  | _ => none
def kOfs : List D → Option (List NestedKey)
  | [] => some []
  | x :: r => match kOf x with
    | some k => (match kOfs r with | some ks => some (k :: ks) | none => none)
    | none => none
end
/-- the dict's own object, its entries -/
def dctF (wo : World) (a : Addr) (xs : List (NestedKey × Addr × Value)) (h : Heap) : Prop :=
  ∃ o es ep, h.get? a = some o ∧ o.ExactDict ∧ o.data = .dict es ep ∧ es.toList = xs.map fun x => (⟨x.1.hash wo, .ref x.2.1, x.2.2⟩ : DictEntry)
def dctO (wo : World) (a : Addr) (xs : List (NestedKey × Addr × Value)) : HO := .ext (dctF wo a xs)
inductive DenK (w : Wd) (n : Nat) : List (D × D) → List (NestedKey × Addr × Value) → Prop where
  | nil : DenK w n [] []
  | cons {kd vd : D} {k : NestedKey} {b : Addr} {u : Value} {v : V} {kvs : List (D × D)} {xs : List (NestedKey × Addr × Value)} : kOf kd = some k → k.depth ≤ 8 → Den w n (.ref b) kd → RelV v u → Den w n v vd → DenK w n kvs xs → DenK w n ((kd, vd) :: kvs) ((k, b, u) :: xs)
def CellOk (wo : World) (w : Wd) (n : Nat) (H : Hp) (a : Addr) : Cell → Prop
  | .lst ds => ∃ vs, H a = some (.lst vs) ∧ DenL w n vs ds
  | .dct kvs => ∃ xs, H a = some (dctO wo a xs) ∧ (a == sysModules) = false ∧ (xs.map (·.1)).Nodup ∧ DenK w n kvs xs
  | .dead => True
structure Gc where
  base : Heap
  K : PySem.W.Frag
  t0 : Tb
  cv : Option Value
  wo : World
structure Core (G : Gc) (w : Wd) (S : Sto) (H : Hp) : Prop where
  sub : ∀ a o, w.fr a = some o → H a = some o
  fro : ∀ a o, w.fr a = some o → (∃ xs, o = .tup xs) ∨ (∃ xs, o = .lst xs) ∨ ∃ ob u, o = .frz ob u
  cel : ∀ k c, S[k]? = some c → w.fr (w.al k) = none ∧ (∃ o, H (w.al k) = some o ∧ NoTab o) ∧ CellOk G.wo w S.length H (w.al k) c
  inj : ∀ j k, j < S.length → k < S.length → w.al j = w.al k → j = k
  tab : TabI G.base w.tb H
  t0 : ∀ c P, G.t0 c P → w.tb c P
structure Sat (G : Gc) (w : Wd) (ρ : En) (S : Sto) (σ : L2.St) (H : Hp) : Prop where
  core : Core G w S H
  env : ∀ (i : Nat) (d : D), ρ[i]? = some (some d) → ∃ v, σ[i]? = some (some v) ∧ Den w S.length v d
  len : ρ.length = σ.length
  code : ∀ v, G.cv = some v → ∃ c P, v = .ref c ∧ w.tb c P
structure Ext (w : Wd) (S : Sto) (H : Hp) (w' : Wd) (S' : Sto) (H' : Hp) : Prop where
  al : ∀ k, k < S.length → w'.al k = w.al k
  fr : ∀ a o, w.fr a = some o → w'.fr a = some o
  tb : ∀ c P, w.tb c P → w'.tb c P
  sz : S.length ≤ S'.length
  new : ∀ k, S.length ≤ k → k < S'.length → H (w'.al k) = none
  keep : ∀ a o, H a = some o → (∀ k, k < S.length → a ≠ w.al k) → (∀ ps, o ≠ .tbl ps) → H' a = some o
  non : ∀ a, H' a = none → H a = none
  frn : ∀ a o, w'.fr a = some o → w.fr a = some o ∨ H a = none ∨ ∃ k, k < S.length ∧ a = w.al k
theorem Ext.refl (w : Wd) (S : Sto) (H : Hp) : Ext w S H w S H :=
  ⟨fun _ _ => rfl, fun _ _ e => e, fun _ _ e => e, Nat.le_refl _, fun k h1 h2 => absurd h2 (Nat.not_lt.mpr h1), fun _ _ e _ _ => e, fun _ e => e, fun _ _ e => .inl e⟩
theorem Ext.trans {w w1 w2 : Wd} {S S1 S2 : Sto} {H H1 H2 : Hp} (a : Ext w S H w1 S1 H1) (b : Ext w1 S1 H1 w2 S2 H2) : Ext w S H w2 S2 H2 where
  al := fun k h => (b.al k (Nat.lt_of_lt_of_le h a.sz)).trans (a.al k h)
  fr := fun x o e => b.fr x o (a.fr x o e)
  tb := fun c P e => b.tb c P (a.tb c P e)
  sz := Nat.le_trans a.sz b.sz
  new := fun k h1 h2 => by
    by_cases h : k < S1.length
    · rw [b.al k h]; exact a.new k h1 h
    · exact a.non _ (b.new k (Nat.not_lt.mp h) h2)
  keep := fun x o e h1 h2 => b.keep x o (a.keep x o e h1 h2) (fun k hk z => by
    by_cases h : k < S.length
    · exact h1 k h (by rw [z, a.al k h])
    · have := a.new k (Nat.not_lt.mp h) hk
      rw [← z, e] at this; cases this) h2
  non := fun x e => a.non x (b.non x e)
  frn := fun x o e => by
    rcases b.frn x o e with h | h | ⟨k, hk, h⟩
    · exact a.frn x o h
    · exact .inr (.inl (a.non x h))
    · by_cases hk2 : k < S.length
      · exact .inr (.inr ⟨k, hk2, by rw [h, a.al k hk2]⟩)
      · exact .inr (.inl (by rw [h]; exact a.new k (Nat.not_lt.mp hk2) hk))

theorem rd_sub {F F' : Hp} (h : ∀ a o, F a = some o → F' a = some o) {a : Addr} {u : HO} (r : Rd F a u) : Rd F' a u := by
  rcases r with r | ⟨o, r⟩
  · exact .inl (h a _ r)
  · exact .inr ⟨o, h a _ r⟩
mutual
theorem Den.mono {w w' : Wd} {n n' : Nat} (hf : ∀ a o, w.fr a = some o → w'.fr a = some o) (ha : ∀ k, k < n → w'.al k = w.al k) (hn : n ≤ n') : ∀ {v : V} {d : D}, Den w n v d → Den w' n' v d
  | _, _, .non => .non
  | _, _, .bl b => .bl b
  | _, _, .int i => .int i
  | _, _, .str x => .str x
  | _, _, .tup r h => .tup (hf _ _ r) (DenL.mono hf ha hn h)
  | _, _, .lst r h => .lst (hf _ _ r) (DenL.mono hf ha hn h)
  | _, _, .scr r h => .scr (rd_sub hf r) (DenL.mono hf ha hn h)
  | _, _, .obj (k := k) h => by rw [← ha k h]; exact .obj (Nat.lt_of_lt_of_le h hn)
theorem DenL.mono {w w' : Wd} {n n' : Nat} (hf : ∀ a o, w.fr a = some o → w'.fr a = some o) (ha : ∀ k, k < n → w'.al k = w.al k) (hn : n ≤ n') : ∀ {vs : List V} {ds : List D}, DenL w n vs ds → DenL w' n' vs ds
  | _, _, .nil => .nil
  | _, _, .cons h t => .cons (Den.mono hf ha hn h) (DenL.mono hf ha hn t)
end
theorem Den.ext {w w' : Wd} {S S' : Sto} {H H' : Hp} (e : Ext w S H w' S' H') {v : V} {d : D} (h : Den w S.length v d) : Den w' S'.length v d := h.mono e.fr e.al e.sz
theorem DenL.ext {w w' : Wd} {S S' : Sto} {H H' : Hp} (e : Ext w S H w' S' H') {v : List V} {d : List D} (h : DenL w S.length v d) : DenL w' S'.length v d := h.mono e.fr e.al e.sz
theorem DenL.len {w : Wd} {n : Nat} : ∀ {vs : List V} {ds : List D}, DenL w n vs ds → vs.length = ds.length
  | _, _, .nil => rfl
  | _, _, .cons _ t => by rw [List.length_cons, List.length_cons, t.len]
theorem DenL.get {w : Wd} {n : Nat} : ∀ {vs : List V} {ds : List D} {i : Nat} {d : D}, DenL w n vs ds → ds[i]? = some d → ∃ v, vs[i]? = some v ∧ Den w n v d
  | _, _, 0, _, .cons h _, e => by simp at e; subst e; exact ⟨_, rfl, h⟩
  | _, _, i + 1, d, .cons _ t, e => by
    obtain ⟨v, h1, h2⟩ := DenL.get (i := i) (d := d) t (by simpa using e)
    exact ⟨v, by simpa using h1, h2⟩
theorem DenL.get' {w : Wd} {n : Nat} : ∀ {vs : List V} {ds : List D} {i : Nat} {v : V}, DenL w n vs ds → vs[i]? = some v → ∃ d, ds[i]? = some d ∧ Den w n v d
  | _, _, 0, _, .cons h _, e => by simp at e; subst e; exact ⟨_, rfl, h⟩
  | _, _, i + 1, v, .cons _ t, e => by
    obtain ⟨d, h1, h2⟩ := DenL.get' (i := i) (v := v) t (by simpa using e)
    exact ⟨d, by simpa using h1, h2⟩
theorem DenL.app {w : Wd} {n : Nat} : ∀ {vs us : List V} {ds es : List D}, DenL w n vs ds → DenL w n us es → DenL w n (vs ++ us) (ds ++ es)
  | _, _, _, _, .nil, h => h
  | _, _, _, _, .cons h t, h' => .cons h (DenL.app t h')
theorem DenL.take {w : Wd} {n : Nat} : ∀ {vs : List V} {ds : List D} (k : Nat), DenL w n vs ds → DenL w n (vs.take k) (ds.take k)
  | _, _, 0, _ => .nil
  | _, _, _ + 1, .nil => .nil
  | _, _, k + 1, .cons h t => .cons h (DenL.take k t)
theorem DenL.drop {w : Wd} {n : Nat} : ∀ {vs : List V} {ds : List D} (k : Nat), DenL w n vs ds → DenL w n (vs.drop k) (ds.drop k)
  | _, _, 0, h => h
  | _, _, _ + 1, .nil => .nil
  | _, _, k + 1, .cons _ t => DenL.drop k t
theorem DenL.set {w : Wd} {n : Nat} {v : V} {d : D} (hd : Den w n v d) : ∀ {vs : List V} {ds : List D} (k : Nat), DenL w n vs ds → DenL w n (vs.set k v) (ds.set k d)
  | _, _, _, .nil => .nil
  | _, _, 0, .cons _ t => .cons hd t
  | _, _, k + 1, .cons h t => .cons h (DenL.set hd k t)
theorem DenL.rep {w : Wd} {n : Nat} {vs : List V} {ds : List D} (h : DenL w n vs ds) : ∀ k : Nat, DenL w n (List.replicate k vs).flatten (List.replicate k ds).flatten
  | 0 => .nil
  | k + 1 => by rw [List.replicate_succ, List.replicate_succ, List.flatten_cons, List.flatten_cons]; exact h.app (DenL.rep h k)
theorem DenL.ints {w : Wd} {n : Nat} : ∀ ns : List Int, DenL w n (ns.map V.int) (ns.map D.int)
  | [] => .nil
  | i :: r => .cons (.int i) (DenL.ints r)

theorem DenK.mono {w w' : Wd} {n n' : Nat} (hf : ∀ a o, w.fr a = some o → w'.fr a = some o) (ha : ∀ k, k < n → w'.al k = w.al k) (hn : n ≤ n') {kvs : List (D × D)} {xs : List (NestedKey × Addr × Value)} (h : DenK w n kvs xs) : DenK w' n' kvs xs := by
  induction h with
  | nil => exact .nil
  | cons h1 h2 h3 h4 h5 _ ih => exact .cons h1 h2 (h3.mono hf ha hn) h4 (h5.mono hf ha hn) ih
theorem code_ne_dct (wo : World) (a : Addr) (xs : List (NestedKey × Addr × Value)) : NoTab (dctO wo a xs) := by
  refine ⟨fun ps e => (by cases e), fun c P e => ?_⟩
  have e2 : dctF wo a xs = fun h => PySem.W.CodeHd h c P := HO.ext.inj e
  generalize hes : (xs.map fun x => (⟨x.1.hash wo, .ref x.2.1, x.2.2⟩ : DictEntry)).toArray = es
  generalize hO : ({ cls := .type "dict", data := .dict es } : Obj) = O
  have hget : ∀ b, (Heap.mk (Array.replicate (a + 1) O) {}).get? b = if b < a + 1 then some O else none := fun b => by
    subst hO
    unfold Heap.get?
    by_cases hb : b < a + 1
    · rw [if_pos hb, Array.getElem?_eq_getElem (by simpa using hb)]
      simp
    · rw [if_neg hb, Array.getElem?_eq_none (by simpa using hb)]
  have h1 : dctF wo a xs (Heap.mk (Array.replicate (a + 1) O) {}) := by
    refine ⟨O, es, 0, by rw [hget, if_pos (Nat.lt_succ_self a)], ?_, ?_, ?_⟩
    · subst hO; exact ⟨rfl, rfl, rfl⟩
    · subst hO; rfl
    · rw [← hes]
  rw [e2] at h1
  obtain ⟨o, vs, file, tf, flags, tg, inF, text, tt, g1, g2, _⟩ := h1
  rw [hget] at g1
  split at g1
  · cases g1
    subst hO
    have g2 : Value.type "dict" = Value.type "code" := g2
    exact absurd (Value.type.inj g2) (by decide)
  · cases g1
/-- what the world's step must keep -/
theorem CellOk.mono {wo : World} {w w' : Wd} {n n' : Nat} {H H' : Hp} {a : Addr} {c : Cell} (hf : ∀ a o, w.fr a = some o → w'.fr a = some o) (ha : ∀ k, k < n → w'.al k = w.al k) (hn : n ≤ n') (hH : ∀ o, H a = some o → H' a = some o) (h : CellOk wo w n H a c) : CellOk wo w' n' H' a c := by
  cases c with
  | lst ds =>
    obtain ⟨vs, e, l⟩ := h
    exact ⟨vs, hH _ e, l.mono hf ha hn⟩
  | dct _ =>
    obtain ⟨xs, e, r1, r2, l⟩ := h
    exact ⟨xs, hH _ e, r1, r2, l.mono hf ha hn⟩
  | dead => trivial
theorem Sat.ofCore {G : Gc} {w w' : Wd} {ρ : En} {S S' : Sto} {σ : L2.St} {H H' : Hp} (s : Sat G w ρ S σ H) (c : Core G w' S' H') (e : Ext w S H w' S' H') : Sat G w' ρ S' σ H' :=
  ⟨c, fun i d h => let ⟨v, h1, h2⟩ := s.env i d h; ⟨v, h1, h2.ext e⟩, s.len, fun v h => let ⟨c, P, h1, h2⟩ := s.code v h; ⟨c, P, h1, e.tb _ _ h2⟩⟩

/-! ### a new frozen object -/
section
variable {G : Gc} {w : Wd} {ρ : En} {S : Sto} {σ : L2.St} {H : Hp} {p : Addr} {o : HO}
theorem Core.newF (c : Core G w S H) (hp : H p = none) (ho : (∃ xs, o = .tup xs) ∨ (∃ xs, o = .lst xs)) :
    Core G { w with fr := upd w.fr p o } S (upd H p o) ∧ Ext w S H { w with fr := upd w.fr p o } S (upd H p o) := by
  have hw : w.fr p = none := by
    cases q : w.fr p with
    | none => rfl
    | some u => rw [c.sub p u q] at hp; cases hp
  have nt : ∀ ps, o ≠ .tbl ps := fun ps e => by rcases ho with ⟨xs, z⟩ | ⟨xs, z⟩ <;> rw [z] at e <;> cases e
  have old : ∀ a u, H a = some u → a ≠ p := fun a u e => ne_of_none e hp
  have fm : ∀ a u, w.fr a = some u → upd w.fr p o a = some u := fun a u e => by rw [upd_ne (ne_of_none e hw)]; exact e
  have hm : ∀ a u, H a = some u → upd H p o a = some u := fun a u e => by rw [upd_ne (old a u e)]; exact e
  refine ⟨⟨fun a u e => ?_, fun a u e => ?_, fun k ce h => ?_, c.inj, c.tab.stay fun a u e _ _ => hm a u e, c.t0⟩, ⟨fun _ _ => rfl, fm, fun _ _ e => e, Nat.le_refl _, fun k h1 h2 => absurd h2 (Nat.not_lt.mpr h1), fun a u e _ _ => hm a u e, fun a e => ?_, fun a u e => ?_⟩⟩
  · by_cases h : a = p
    · subst h
      have e : upd w.fr a o a = some u := e
      rw [upd_same] at e ⊢; exact e
    · have e : upd w.fr p o a = some u := e
      rw [upd_ne h] at e ⊢; exact c.sub a u e
  · by_cases h : a = p
    · subst h
      have e : upd w.fr a o a = some u := e
      rw [upd_same] at e
      cases e
      rcases ho with z | z
      · exact .inl z
      · exact .inr (.inl z)
    · have e : upd w.fr p o a = some u := e
      rw [upd_ne h] at e; exact c.fro a u e
  · obtain ⟨h1, ⟨u, h2, h3⟩, h4⟩ := c.cel k ce h
    have hk : w.al k ≠ p := old _ u h2
    refine ⟨by show upd w.fr p o (w.al k) = none; rw [upd_ne hk]; exact h1, ⟨u, hm _ u h2, h3⟩, CellOk.mono (w := w) fm (fun _ _ => rfl) (Nat.le_refl _) (fun u e => hm _ u e) h4⟩
  · by_cases h : a = p
    · subst h; rw [upd_same] at e; cases e
    · rw [upd_ne h] at e; exact e
  · by_cases h : a = p
    · exact .inr (.inl (by rw [h]; exact hp))
    · have e : upd w.fr p o a = some u := e
      rw [upd_ne h] at e; exact .inl e
theorem Sat.newF (s : Sat G w ρ S σ H) (hp : H p = none) (ho : (∃ xs, o = .tup xs) ∨ (∃ xs, o = .lst xs)) :
    Sat G { w with fr := upd w.fr p o } ρ S σ (upd H p o) ∧ Ext w S H { w with fr := upd w.fr p o } S (upd H p o) :=
  let ⟨c, e⟩ := s.core.newF hp ho; ⟨s.ofCore c e, e⟩
theorem den_newT {vs : List V} {ds : List D} {n : Nat} (h : DenL w n vs ds) (hw : w.fr p = none) : Den { w with fr := upd w.fr p (.tup vs) } n (.ref p) (.tup ds) :=
  .tup upd_same (DenL.mono (w := w) (w' := { w with fr := upd w.fr p (.tup vs) }) (n' := n) (fun a u e => by show upd w.fr p _ a = some u; rw [upd_ne (ne_of_none e hw)]; exact e) (fun _ _ => rfl) (Nat.le_refl _) h)
theorem den_newL {vs : List V} {ds : List D} {n : Nat} (h : DenL w n vs ds) (hw : w.fr p = none) : Den { w with fr := upd w.fr p (.lst vs) } n (.ref p) (.lst ds) :=
  .lst upd_same (DenL.mono (w := w) (w' := { w with fr := upd w.fr p (.lst vs) }) (n' := n) (fun a u e => by show upd w.fr p _ a = some u; rw [upd_ne (ne_of_none e hw)]; exact e) (fun _ _ => rfl) (Nat.le_refl _) h)
theorem Core.fresh (c : Core G w S H) (hp : H p = none) : w.fr p = none := by
  cases q : w.fr p with
  | none => rfl
  | some u => rw [c.sub p u q] at hp; cases hp
/-- a new object of the store -/
theorem Core.newO {vs : List V} {ds : List D} (c : Core G w S H) (hp : H p = none) (h : DenL w S.length vs ds) :
    Core G { w with al := fun k => if k = S.length then p else w.al k } (S ++ [.lst ds]) (upd H p (.lst vs)) ∧ Ext w S H { w with al := fun k => if k = S.length then p else w.al k } (S ++ [.lst ds]) (upd H p (.lst vs)) := by
  have hw := c.fresh hp
  have old : ∀ a u, H a = some u → a ≠ p := fun a u e => ne_of_none e hp
  have hm : ∀ a u, H a = some u → upd H p (.lst vs) a = some u := fun a u e => by rw [upd_ne (old a u e)]; exact e
  have al : ∀ k, k < S.length → (if k = S.length then p else w.al k) = w.al k := fun k hk => if_neg (Nat.ne_of_lt hk)
  have ln : (S ++ [Cell.lst ds]).length = S.length + 1 := by simp
  have onew : ∀ k, k < S.length → w.al k ≠ p := fun k hk => by
    obtain ⟨_, ⟨u, h2, _⟩, _⟩ := c.cel k _ (List.getElem?_eq_getElem hk)
    exact old _ u h2
  refine ⟨⟨fun a u e => hm a u (c.sub a u e), c.fro, fun k ce hk => ?_, fun j k hj hk e => ?_, c.tab.stay fun a u e _ _ => hm a u e, c.t0⟩, ⟨al, fun _ _ e => e, fun _ _ e => e, by rw [ln]; exact Nat.le_succ _, fun k h1 h2 => ?_, fun a u e _ _ => hm a u e, fun a e => ?_, fun _ _ e => .inl e⟩⟩
  · by_cases hk2 : k < S.length
    · rw [List.getElem?_append_left hk2] at hk
      obtain ⟨h1, ⟨u, h2, h3⟩, h4⟩ := c.cel k ce hk
      show w.fr (if k = S.length then p else w.al k) = none ∧ (∃ o, upd H p (.lst vs) (if k = S.length then p else w.al k) = some o ∧ _) ∧ CellOk _ _ _ _ (if k = S.length then p else w.al k) ce
      rw [al k hk2]
      exact ⟨h1, ⟨u, hm _ u h2, h3⟩, CellOk.mono (w := w) (fun _ _ e => e) al (by rw [ln]; exact Nat.le_succ _) (fun u e => hm _ u e) h4⟩
    · have ek : k = S.length := by
        have := (List.getElem?_eq_some_iff.mp hk).1
        rw [ln] at this; omega
      subst ek
      rw [List.getElem?_append_right (Nat.le_refl _), Nat.sub_self] at hk
      cases hk
      show w.fr (if S.length = S.length then p else w.al S.length) = none ∧ (∃ o, upd H p (.lst vs) (if S.length = S.length then p else w.al S.length) = some o ∧ _) ∧ CellOk _ _ _ _ (if S.length = S.length then p else w.al S.length) _
      rw [if_pos rfl]
      exact ⟨hw, ⟨_, upd_same, fun ps e => (by cases e), fun _ _ e => (by cases e)⟩, vs, upd_same, DenL.mono (w := w) (w' := { w with al := fun k => if k = S.length then p else w.al k }) (n' := (S ++ [Cell.lst ds]).length) (fun _ _ e => e) al (by rw [ln]; exact Nat.le_succ _) h⟩
  · rw [ln] at hj hk
    have e : (if j = S.length then p else w.al j) = (if k = S.length then p else w.al k) := e
    by_cases h1 : j < S.length <;> by_cases h2 : k < S.length
    · rw [al j h1, al k h2] at e; exact c.inj j k h1 h2 e
    · have ek : k = S.length := by omega
      rw [al j h1, if_pos ek] at e; exact absurd e (onew j h1)
    · have ej : j = S.length := by omega
      rw [al k h2, if_pos ej] at e; exact absurd e.symm (onew k h2)
    · omega
  · rw [ln] at h2
    have ek : k = S.length := by omega
    show H (if k = S.length then p else w.al k) = none
    rw [if_pos ek]; exact hp
  · by_cases h : a = p
    · subst h; rw [upd_same] at e; cases e
    · rw [upd_ne h] at e; exact e
/-- a list of the store changes -/
theorem Core.setL {vs : List V} {ds : List D} {k : Nat} {c0 : Cell} (c : Core G w S H) (hk : S[k]? = some c0) (h : DenL w S.length vs ds) :
    Core G w (S.set k (.lst ds)) (upd H (w.al k) (.lst vs)) ∧ Ext w S H w (S.set k (.lst ds)) (upd H (w.al k) (.lst vs)) := by
  have hkl : k < S.length := (List.getElem?_eq_some_iff.mp hk).1
  obtain ⟨g1, ⟨u0, g2, g3⟩, _⟩ := c.cel k c0 hk
  have ln : (S.set k (Cell.lst ds)).length = S.length := List.length_set
  refine ⟨⟨fun a u e => ?_, c.fro, fun j ce hj => ?_, fun i j hi hj e => c.inj i j (by rw [ln] at hi; exact hi) (by rw [ln] at hj; exact hj) e, c.tab.stay fun a u e h1 h2 => ?_, c.t0⟩, ⟨fun _ _ => rfl, fun _ _ e => e, fun _ _ e => e, by rw [ln]; exact Nat.le_refl _, fun j h1 h2 => ?_, fun a u e h1 _ => ?_, fun a e => ?_, fun _ _ e => .inl e⟩⟩
  · have : a ≠ w.al k := fun z => by rw [z, g1] at e; cases e
    rw [upd_ne this]; exact c.sub a u e
  · by_cases hjk : j = k
    · subst hjk
      rw [List.getElem?_set_self hkl] at hj
      cases hj
      exact ⟨g1, ⟨_, upd_same, fun ps e => (by cases e), fun _ _ e => (by cases e)⟩, vs, upd_same, by rw [ln]; exact h⟩
    · rw [List.getElem?_set_ne (Ne.symm hjk)] at hj
      obtain ⟨h1, ⟨u, h2, h3⟩, h4⟩ := c.cel j ce hj
      have hjl : j < S.length := (List.getElem?_eq_some_iff.mp hj).1
      have ne : w.al j ≠ w.al k := fun e => hjk (c.inj j k hjl hkl e)
      exact ⟨h1, ⟨u, by rw [upd_ne ne]; exact h2, h3⟩, h4.mono (fun _ _ e => e) (fun _ _ => rfl) (by rw [ln]; exact Nat.le_refl _) (fun u e => by rw [upd_ne ne]; exact e)⟩
  · by_cases z : a = w.al k
    · rw [z, g2] at e
      cases e
      rcases h2 with ⟨ps, h2⟩ | ⟨c', P', h2⟩
      · exact absurd h2 (g3.1 ps)
      · exact absurd h2 (g3.2 c' P')
    · rw [upd_ne z]; exact e
  · rw [ln] at h2; exact absurd h2 (Nat.not_lt.mpr h1)
  · rw [upd_ne (h1 k hkl)]; exact e
  · by_cases z : a = w.al k
    · rw [z, upd_same] at e; cases e
    · rw [upd_ne z] at e; exact e
/-- an object that the world does not know changes -/
theorem Core.updX {dd : Addr} {o o' : HO} (c : Core G w S H) (hD : H dd = some o) (ho : NoTab o) (hf : w.fr dd = none) (hk : ∀ k, k < S.length → w.al k ≠ dd) : Core G w S (upd H dd o') := by
  refine ⟨fun a u e => ?_, c.fro, fun j ce hj => ?_, c.inj, c.tab.stay fun a u e _ h2 => ?_, c.t0⟩
  · have : a ≠ dd := fun z => by rw [z, hf] at e; cases e
    rw [upd_ne this]; exact c.sub a u e
  · obtain ⟨h1, ⟨u, h2, h3⟩, h4⟩ := c.cel j ce hj
    have ne := hk j (List.getElem?_eq_some_iff.mp hj).1
    exact ⟨h1, ⟨u, by rw [upd_ne ne]; exact h2, h3⟩, h4.mono (fun _ _ e => e) (fun _ _ => rfl) (Nat.le_refl _) (fun u e => by rw [upd_ne ne]; exact e)⟩
  · by_cases z : a = dd
    · rw [z, hD] at e
      cases e
      rcases h2 with ⟨ps, h2⟩ | ⟨c', P', h2⟩
      · exact absurd h2 (ho.1 ps)
      · exact absurd h2 (ho.2 c' P')
    · rw [upd_ne z]; exact e
/-- a list of the heap that the world does not know is frozen -/
theorem Core.freeze {dd : Addr} {o : HO} (c : Core G w S H) (hD : H dd = some o) (ho : (∃ xs, o = .tup xs) ∨ (∃ xs, o = .lst xs)) (hf : w.fr dd = none) (hk : ∀ k, k < S.length → w.al k ≠ dd) : Core G { w with fr := upd w.fr dd o } S H := by
  have fm : ∀ a u, w.fr a = some u → upd w.fr dd o a = some u := fun a u e => by rw [upd_ne (ne_of_none e hf)]; exact e
  refine ⟨fun a u e => ?_, fun a u e => ?_, fun j ce hj => ?_, c.inj, c.tab, c.t0⟩
  · by_cases h : a = dd
    · subst h
      have e : upd w.fr a o a = some u := e
      rw [upd_same] at e; rw [hD]; exact e
    · have e : upd w.fr dd o a = some u := e
      rw [upd_ne h] at e; exact c.sub a u e
  · by_cases h : a = dd
    · subst h
      have e : upd w.fr a o a = some u := e
      rw [upd_same] at e
      cases e
      rcases ho with z | z
      · exact .inl z
      · exact .inr (.inl z)
    · have e : upd w.fr dd o a = some u := e
      rw [upd_ne h] at e; exact c.fro a u e
  · obtain ⟨h1, h2, h4⟩ := c.cel j ce hj
    have ne := hk j (List.getElem?_eq_some_iff.mp hj).1
    exact ⟨by show upd w.fr dd o (w.al j) = none; rw [upd_ne ne]; exact h1, h2, CellOk.mono (w := w) (w' := { w with fr := upd w.fr dd o }) (n' := S.length) fm (fun _ _ => rfl) (Nat.le_refl _) (fun u e => e) h4⟩
/-- .. becomes an object of the store -/
theorem Core.adopt {dd : Addr} {vs : List V} {ds : List D} (c : Core G w S H) (hD : H dd = some (.lst vs)) (h : DenL w S.length vs ds) (hf : w.fr dd = none) (hk : ∀ k, k < S.length → w.al k ≠ dd) :
    Core G { w with al := fun k => if k = S.length then dd else w.al k } (S ++ [.lst ds]) H := by
  have al : ∀ k, k < S.length → (if k = S.length then dd else w.al k) = w.al k := fun k hk => if_neg (Nat.ne_of_lt hk)
  have ln : (S ++ [Cell.lst ds]).length = S.length + 1 := by simp
  refine ⟨c.sub, c.fro, fun k ce hkk => ?_, fun j k hj hk' e => ?_, c.tab, c.t0⟩
  · by_cases hk2 : k < S.length
    · rw [List.getElem?_append_left hk2] at hkk
      obtain ⟨h1, h2, h4⟩ := c.cel k ce hkk
      show w.fr (if k = S.length then dd else w.al k) = none ∧ (∃ o, H (if k = S.length then dd else w.al k) = some o ∧ _) ∧ CellOk _ _ _ _ (if k = S.length then dd else w.al k) ce
      rw [al k hk2]
      exact ⟨h1, h2, CellOk.mono (w := w) (w' := { w with al := fun k => if k = S.length then dd else w.al k }) (n' := (S ++ [Cell.lst ds]).length) (fun _ _ e => e) al (by rw [ln]; exact Nat.le_succ _) (fun u e => e) h4⟩
    · have ek : k = S.length := by
        have := (List.getElem?_eq_some_iff.mp hkk).1
        rw [ln] at this; omega
      subst ek
      rw [List.getElem?_append_right (Nat.le_refl _), Nat.sub_self] at hkk
      cases hkk
      show w.fr (if S.length = S.length then dd else w.al S.length) = none ∧ (∃ o, H (if S.length = S.length then dd else w.al S.length) = some o ∧ _) ∧ CellOk _ _ _ _ (if S.length = S.length then dd else w.al S.length) _
      rw [if_pos rfl]
      exact ⟨hf, ⟨_, hD, fun ps e => (by cases e), fun _ _ e => (by cases e)⟩, vs, hD, DenL.mono (w := w) (w' := { w with al := fun k => if k = S.length then dd else w.al k }) (n' := (S ++ [Cell.lst ds]).length) (fun _ _ e => e) al (by rw [ln]; exact Nat.le_succ _) h⟩
  · rw [ln] at hj hk'
    have e : (if j = S.length then dd else w.al j) = (if k = S.length then dd else w.al k) := e
    by_cases h1 : j < S.length <;> by_cases h2 : k < S.length
    · rw [al j h1, al k h2] at e; exact c.inj j k h1 h2 e
    · have ek : k = S.length := by omega
      rw [al j h1, if_pos ek] at e; exact absurd e (hk j h1)
    · have ej : j = S.length := by omega
      rw [al k h2, if_pos ej] at e; exact absurd e.symm (hk k h2)
    · omega
/-- what an evaluation leaves of an object that the world does not know -/
theorem Ext.away {w w' : Wd} {S S' : Sto} {H H' : Hp} {dd : Addr} {o : HO} (x : Ext w S H w' S' H') (hD : H dd = some o) (ho : NoTab o) (hf : w.fr dd = none) (hk : ∀ k, k < S.length → w.al k ≠ dd) :
    H' dd = some o ∧ w'.fr dd = none ∧ ∀ k, k < S'.length → w'.al k ≠ dd := by
  refine ⟨x.keep dd o hD (fun k h z => hk k h z.symm) ho.1, ?_, fun k h z => ?_⟩
  · cases q : w'.fr dd with
    | none => rfl
    | some u =>
      rcases x.frn dd u q with h | h | ⟨k, h1, h2⟩
      · rw [hf] at h; cases h
      · rw [hD] at h; cases h
      · exact absurd h2.symm (hk k h1)
  · by_cases h2 : k < S.length
    · rw [x.al k h2] at z; exact hk k h2 z
    · have := x.new k (Nat.not_lt.mp h2) h
      rw [z, hD] at this; cases this
end
end DL

set_option maxRecDepth 100000
set_option maxHeartbeats 4000000
set_option pp.maxSteps 900
namespace DL
open PySem PySem.Spec PyProof.Rows L2 GX

abbrev RE := En → Sto → Option (D × Sto)
abbrev RT := En → Sto → Option (Bool × Sto)
abbrev RA := En → Sto → Option (List D × Sto)
abbrev RS := En → Sto → Option Out
def Ev (G : Gc) (te : TE) (t : RE) : Prop := ∀ (ρ : En) (S : Sto) (d : D) (S' : Sto), t ρ S = some (d, S') → ∀ (w : Wd) (σ : L2.St) (H : Hp), Sat G w ρ S σ H → ∀ Q : VK,
  (∀ w' v H', Sat G w' ρ S' σ H' → Ext w S H w' S' H' → Den w' S'.length v d → Q v H') → te σ H Q
def EvT (G : Gc) (tt : TT) (t : RT) : Prop := ∀ (ρ : En) (S : Sto) (b : Bool) (S' : Sto), t ρ S = some (b, S') → ∀ (w : Wd) (σ : L2.St) (H : Hp), Sat G w ρ S σ H → ∀ Q : Bool → Hp → Prop,
  (∀ w' H', Sat G w' ρ S' σ H' → Ext w S H w' S' H' → Q b H') → tt σ H Q
def EvA (G : Gc) (ta : TA) (t : RA) : Prop := ∀ (ρ : En) (S : Sto) (ds : List D) (S' : Sto), t ρ S = some (ds, S') → ∀ (w : Wd) (σ : L2.St) (H : Hp), Sat G w ρ S σ H → ∀ Q : List V → Hp → Prop,
  (∀ w' vs H', Sat G w' ρ S' σ H' → Ext w S H w' S' H' → DenL w' S'.length vs ds → Q vs H') → ta σ H Q
/-- an expression computes t -/
def DE (X : Cx) (G : Gc) (e : Expr) (t : RE) : Prop := ∃ te, PE X e te ∧ Ev G te t
def DT (X : Cx) (G : Gc) (e : Expr) (t : RT) : Prop := ∃ tt, PT X e tt ∧ EvT G tt t
def DW (X : Cx) (G : Gc) (e : Expr) (t : RT) : Prop := ∃ tt, PW X e tt ∧ EvT G tt t
def DA (X : Cx) (G : Gc) (es : List Expr) (t : RA) : Prop := ∃ ta, PA X es ta ∧ EvA G ta t

/-! ### what is computed -/
@[simp] def eC (d : D) : RE := fun _ S => some (d, S)
@[simp] def eV (i : Nat) : RE := fun ρ S => match ρ[i]? with | some (some d) => some (d, S) | _ => none
@[simp] def e1 (f : D → Sto → Option D) (a : RE) : RE := fun ρ S => match a ρ S with | some (x, S1) => (match f x S1 with | some z => some (z, S1) | none => none) | none => none
@[simp] def e2 (f : D → D → Sto → Option D) (a b : RE) : RE := fun ρ S => match a ρ S with
  | some (x, S1) => (match b ρ S1 with | some (y, S2) => (match f x y S2 with | some z => some (z, S2) | none => none) | none => none)
  | none => none
@[simp] def aNil : RA := fun _ S => some ([], S)
@[simp] def aCons (a : RE) (r : RA) : RA := fun ρ S => match a ρ S with
  | some (x, S1) => (match r ρ S1 with | some (xs, S2) => some (x :: xs, S2) | none => none)
  | none => none
/-- of the arguments' values; the store may change -/
@[simp] def eA (f : List D → Sto → Option (D × Sto)) (a : RA) : RE := fun ρ S => match a ρ S with | some (xs, S1) => f xs S1 | none => none

section
variable {G : Gc} {X : Cx} {pos : Pos}
theorem ev_c {v : V} {d : D} (h : ∀ w n, Den w n v d) : Ev G (tC v) (eC d) := fun ρ S d' S' e w σ H s Q q => by
  cases e
  exact q w v H s (Ext.refl ..) (h _ _)
theorem de_int {i : Int} {j : Nat} : DE X G (.Constant (.int i) j pos) (eC (.int i)) := ⟨_, pe_int, ev_c fun _ _ => .int i⟩
theorem de_bl {b : Bool} {j : Nat} : DE X G (.Constant (.bool b) j pos) (eC (.bl b)) := ⟨_, pe_bl, ev_c fun _ _ => .bl b⟩
theorem de_non {j : Nat} : DE X G (.Constant .none j pos) (eC .non) := ⟨_, pe_non, ev_c fun _ _ => .non⟩
theorem de_str {x : Str} {j : Nat} : DE X G (.Constant (.str x) j pos) (eC (.str x)) := ⟨_, pe_str, ev_c fun _ _ => .str x⟩
theorem ev_var {i : Nat} : Ev G (tVar i) (eV i) := fun ρ S d S' e w σ H s Q q => by
  unfold eV at e
  split at e
  · rename_i d0 h
    cases e
    obtain ⟨v, h1, h2⟩ := s.env i d h
    exact ⟨v, h1, q w v H s (Ext.refl ..) h2⟩
  · cases e
theorem dv (i : Nat) {x : Str} (hN : X.N[i]? = some x := by rfl) (hv : Vis X.env.scope x := by first | exact Or.inl rfl | exact Or.inr (Or.inl rfl) | exact Or.inr (Or.inr rfl)) (hd : (x == ("__debug__" : Str)) = false := by decide) (hcd : (x == ("__classdict__" : Str)) = false := by decide) :
    DE X G (.Name x pos) (eV i) := ⟨_, pe_var hN hv hd hcd, ev_var⟩
/-- two operands, an operation that leaves the heap -/
def R2Ok (G : Gc) (r : R2) (f : D → D → Sto → Option D) : Prop := ∀ (w : Wd) (S : Sto) (H : Hp) (x y : V) (dx dy d : D) (Q : VK), Core G w S H → Den w S.length x dx → Den w S.length y dy → f dx dy S = some d → (∀ v, Den w S.length v d → Q v H) → r x y H Q
theorem ev_2 {r : R2} {f : D → D → Sto → Option D} {ta tb : TE} {a b : RE} (hr : R2Ok G r f) (ha : Ev G ta a) (hb : Ev G tb b) : Ev G (tOp r ta tb) (e2 f a b) := fun ρ S d S' e w σ H s Q q => by
  unfold e2 at e
  split at e
  · rename_i x S1 h1
    split at e
    · rename_i y S2 h2
      split at e
      · rename_i z h3
        cases e
        refine ha ρ S x S1 h1 w σ H s _ fun w1 v H1 s1 x1 d1 => hb ρ S1 y _ h2 w1 σ H1 s1 _ fun w2 u H2 s2 x2 d2 => ?_
        exact hr w2 _ H2 v u x y d Q s2.core (d1.ext x2) d2 h3 fun z hz => q w2 z H2 s2 (x1.trans x2) hz
      · cases e
    · cases e
  · cases e
def R1Ok (G : Gc) (r : V → Hp → VK → Prop) (f : D → Sto → Option D) : Prop := ∀ (w : Wd) (S : Sto) (H : Hp) (x : V) (dx d : D) (Q : VK), Core G w S H → Den w S.length x dx → f dx S = some d → (∀ v, Den w S.length v d → Q v H) → r x H Q
theorem ev_1 {r : V → Hp → VK → Prop} {f : D → Sto → Option D} {ta : TE} {a : RE} (hr : R1Ok G r f) (ha : Ev G ta a) : Ev G (tUn r ta) (e1 f a) := fun ρ S d S' e w σ H s Q q => by
  unfold e1 at e
  split at e
  · rename_i x S1 h1
    split at e
    · rename_i z h3
      cases e
      refine ha ρ S x _ h1 w σ H s _ fun w1 v H1 s1 x1 d1 => ?_
      exact hr w1 _ H1 v x d Q s1.core d1 h3 fun z hz => q w1 z H1 s1 x1 hz
    · cases e
  · cases e

/-! ### ints -/
def Nar (i : Int) : Prop := i.natAbs < 2 ^ 400000
def fAdd : D → D → Sto → Option D := fun x y _ => match x, y with | .int i, .int j => some (.int (i + j)) | _, _ => none
@[simp] def fSub : D → D → Sto → Option D := fun x y _ => match x, y with | .int i, .int j => some (.int (i - j)) | _, _ => none
def MulC (i j : Int) : Prop := CMulW i j ∨ CMul i j
theorem op_mulC {X : Cx} : OpR X (binaryOp .Mult) (rI MulC fun i j => .int (i * j)) := fun pins s σ H x y v u Q I r1 r2 h => by
  obtain ⟨i, j, e1, e2, hc, q⟩ := h
  rcases hc with hc | hc
  · exact op_mulW pins s σ H x y v u Q I r1 r2 ⟨i, j, e1, e2, hc, q⟩
  · exact op_mul pins s σ H x y v u Q I r1 r2 ⟨i, j, e1, e2, hc, q⟩
open Classical in
noncomputable def fMul : D → D → Sto → Option D := fun x y _ => match x, y with | .int i, .int j => if MulC i j then some (.int (i * j)) else none | _, _ => none
open Classical in
@[simp] noncomputable def fDiv : D → D → Sto → Option D := fun x y _ => match x, y with | .int i, .int j => if CDivW i j ∨ CDivN i j then some (.int (i.fdiv j)) else none | _, _ => none
@[simp] def fMod : D → D → Sto → Option D := fun x y _ => match x, y with | .int i, .int j => if j ≠ 0 then some (.int (i.fmod j)) else none | _, _ => none
@[simp] def fNeg : D → Sto → Option D := fun x _ => match x with | .int i => some (.int (-i)) | _ => none
@[simp] def fCmp (p : Int → Int → Bool) : D → D → Sto → Option D := fun x y _ => match x, y with | .int i, .int j => some (.bl (p i j)) | _, _ => none
theorem den_int {w : Wd} {n : Nat} {v : V} {i : Int} (h : Den w n v (.int i)) : v = .int i := by cases h; rfl
theorem den_bl {w : Wd} {n : Nat} {v : V} {i : Bool} (h : Den w n v (.bl i)) : v = .bl i := by cases h; rfl
theorem den_str {w : Wd} {n : Nat} {v : V} {i : Str} (h : Den w n v (.str i)) : v = .str i := by cases h; rfl
theorem den_non {w : Wd} {n : Nat} {v : V} (h : Den w n v .non) : v = .non := by cases h; rfl
theorem r_I0 {g : Int → Int → V} {f : D → D → Sto → Option D} (h : ∀ x y S d, f x y S = some d → ∃ i j, x = .int i ∧ y = .int j ∧ ∀ w n, Den w n (g i j) d) : R2Ok G (rI0 g) f := fun w S H x y dx dy d Q c hx hy e q => by
  obtain ⟨i, j, rfl, rfl, hd⟩ := h _ _ _ _ e
  exact ⟨i, j, den_int hx, den_int hy, q _ (hd _ _)⟩
theorem r_I {C : Int → Int → Prop} {g : Int → Int → V} {f : D → D → Sto → Option D} (h : ∀ x y S d, f x y S = some d → ∃ i j, x = .int i ∧ y = .int j ∧ C i j ∧ ∀ w n, Den w n (g i j) d) : R2Ok G (rI C g) f := fun w S H x y dx dy d Q c hx hy e q => by
  obtain ⟨i, j, rfl, rfl, hc, hd⟩ := h _ _ _ _ e
  exact ⟨i, j, den_int hx, den_int hy, hc, q _ (hd _ _)⟩
theorem op_div : OpR X (binaryOp .FloorDiv) (rI (fun i j => CDivW i j ∨ CDivN i j) fun i j => .int (i.fdiv j)) := fun pins s σ H x y v u Q I r1 r2 h => by
  obtain ⟨i, j, e1, e2, hc, q⟩ := h
  rcases hc with hc | hc
  · exact op_fdivW pins s σ H x y v u Q I r1 r2 ⟨i, j, e1, e2, hc, by show Q (V.int (i / j)) H; rw [← Int.fdiv_eq_ediv_of_nonneg _ (Int.le_of_lt hc.1)]; exact q⟩
  · exact op_fdivN pins s σ H x y v u Q I r1 r2 ⟨i, j, e1, e2, hc, q⟩
variable {a b c : Expr} {ta tb tc : RE}
theorem de_add (ha : DE X G a ta) (hb : DE X G b tb) : DE X G (.BinOp a .Add b pos) (e2 fAdd ta tb) :=
  let ⟨_, pa, ea⟩ := ha; let ⟨_, pb, eb⟩ := hb
  ⟨_, pe_op op_add pa pb, ev_2 (r_I0 fun x y S d e => by unfold fAdd at e; split at e <;> cases e; exact ⟨_, _, rfl, rfl, fun _ _ => .int _⟩) ea eb⟩
theorem de_sub (ha : DE X G a ta) (hb : DE X G b tb) : DE X G (.BinOp a .Sub b pos) (e2 fSub ta tb) :=
  let ⟨_, pa, ea⟩ := ha; let ⟨_, pb, eb⟩ := hb
  ⟨_, pe_op op_sub pa pb, ev_2 (r_I0 fun x y S d e => by unfold fSub at e; split at e <;> cases e; exact ⟨_, _, rfl, rfl, fun _ _ => .int _⟩) ea eb⟩
theorem de_mul (ha : DE X G a ta) (hb : DE X G b tb) : DE X G (.BinOp a .Mult b pos) (e2 fMul ta tb) :=
  let ⟨_, pa, ea⟩ := ha; let ⟨_, pb, eb⟩ := hb
  ⟨_, pe_op op_mulC pa pb, ev_2 (r_I fun x y S d e => by
    unfold fMul at e
    split at e
    · split at e
      · rename_i hc; cases e; exact ⟨_, _, rfl, rfl, hc, fun _ _ => .int _⟩
      · cases e
    · cases e) ea eb⟩
theorem de_div (ha : DE X G a ta) (hb : DE X G b tb) : DE X G (.BinOp a .FloorDiv b pos) (e2 fDiv ta tb) :=
  let ⟨_, pa, ea⟩ := ha; let ⟨_, pb, eb⟩ := hb
  ⟨_, pe_op op_div pa pb, ev_2 (r_I fun x y S d e => by
    unfold fDiv at e
    split at e
    · split at e
      · rename_i hc; cases e; exact ⟨_, _, rfl, rfl, hc, fun _ _ => .int _⟩
      · cases e
    · cases e) ea eb⟩
theorem de_mod (ha : DE X G a ta) (hb : DE X G b tb) : DE X G (.BinOp a .Mod b pos) (e2 fMod ta tb) :=
  let ⟨_, pa, ea⟩ := ha; let ⟨_, pb, eb⟩ := hb
  ⟨_, pe_op op_modN pa pb, ev_2 (r_I fun x y S d e => by
    unfold fMod at e
    split at e
    · split at e
      · rename_i hc; cases e; exact ⟨_, _, rfl, rfl, hc, fun _ _ => .int _⟩
      · cases e
    · cases e) ea eb⟩
theorem de_neg (ha : DE X G a ta) : DE X G (.UnaryOp .USub a pos) (e1 fNeg ta) :=
  let ⟨_, pa, ea⟩ := ha
  ⟨_, pe_un un_neg pa, ev_1 (fun w S H x dx d Q c hx e q => by
    unfold fNeg at e
    split at e <;> cases e
    exact ⟨_, den_int hx, q _ (.int _)⟩) ea⟩
theorem r_cmp {p : Int → Int → Bool} : R2Ok G (rI0 fun i j => .bl (p i j)) (fCmp p) := r_I0 fun x y S d e => by
  unfold fCmp at e; split at e <;> cases e; exact ⟨_, _, rfl, rfl, fun _ _ => .bl _⟩
theorem de_lt (ha : DE X G a ta) (hb : DE X G b tb) : DE X G (.Compare a [.Lt] [b] pos) (e2 (fCmp fun i j => decide (i < j)) ta tb) :=
  let ⟨_, pa, ea⟩ := ha; let ⟨_, pb, eb⟩ := hb
  ⟨_, pe_cmpR op_lt pa pb (nobehind _ (by decide) (by decide)), ev_2 r_cmp ea eb⟩
theorem de_le (ha : DE X G a ta) (hb : DE X G b tb) : DE X G (.Compare a [.LtE] [b] pos) (e2 (fCmp fun i j => decide (i ≤ j)) ta tb) :=
  let ⟨_, pa, ea⟩ := ha; let ⟨_, pb, eb⟩ := hb
  ⟨_, pe_cmpR op_le pa pb (nobehind _ (by decide) (by decide)), ev_2 r_cmp ea eb⟩
theorem de_gt (ha : DE X G a ta) (hb : DE X G b tb) : DE X G (.Compare a [.Gt] [b] pos) (e2 (fCmp fun i j => decide (j < i)) ta tb) :=
  let ⟨_, pa, ea⟩ := ha; let ⟨_, pb, eb⟩ := hb
  ⟨_, pe_cmpR op_gt pa pb (nobehind _ (by decide) (by decide)), ev_2 r_cmp ea eb⟩
theorem de_ge (ha : DE X G a ta) (hb : DE X G b tb) : DE X G (.Compare a [.GtE] [b] pos) (e2 (fCmp fun i j => decide (j ≤ i)) ta tb) :=
  let ⟨_, pa, ea⟩ := ha; let ⟨_, pb, eb⟩ := hb
  ⟨_, pe_cmpR op_ge pa pb (nobehind _ (by decide) (by decide)), ev_2 r_cmp ea eb⟩

/-! ### == of trees -/
mutual
@[simp] def toP : D → Option PyData
  | .non => some .none
  | .bl b => some (.bool b)
  | .int i => some (.int i)
  | .str x => some (.str x)
  | .tup xs => match toPs xs with | some ps => some (.tuple ps) | none => none
  | .lst xs => match toPs xs with | some ps => some (.list ps) | none => none
  | .scr xs => match toPs xs with | some ps => some (.list ps) | none => none
  | .obj _ => none
@[simp] def toPs : List D → Option (List PyData)
  | [] => some []
  | x :: r => match toP x with
    | some p => (match toPs r with | some ps => some (p :: ps) | none => none)
    | none => none
end
end
end DL

set_option maxRecDepth 100000
set_option maxHeartbeats 4000000
set_option pp.maxSteps 900
namespace DL
open PySem PySem.Spec PyProof.Rows L2 GX

/-! ### == -/
open PySem.SeqAt (shaped) in
def fEq : D → D → Sto → Option D := fun x y _ => match toP x, toP y with
  | some p, some q => if shaped p = true ∧ shaped q = true then some (.bl (PyData.eqv p q)) else none
  | _, _ => none
open PySem.SeqAt (shaped) in
def fNe : D → D → Sto → Option D := fun x y _ => match toP x, toP y with
  | some p, some q => if shaped p = true ∧ shaped q = true then some (.bl (!PyData.eqv p q)) else none
  | _, _ => none
mutual
theorem dp_of {K : PySem.W.Frag} {w : Wd} {n : Nat} {H : Hp} (hs : ∀ a o, w.fr a = some o → H a = some o) : ∀ {v : V} {d : D} {p : PyData}, Den w n v d → toP d = some p → Dp K H v p
  | _, _, _, .non, e => by simp only [toP] at e; cases e; exact .non
  | _, _, _, .bl b, e => by simp only [toP] at e; cases e; exact .bl b
  | _, _, _, .int b, e => by simp only [toP] at e; cases e; exact .int b
  | _, _, _, .str b, e => by simp only [toP] at e; cases e; exact .str b
  | _, _, _, .tup r h, e => by
    simp only [toP] at e
    split at e
    · rename_i ps hp; cases e; exact .tup (.inl (.inl (hs _ _ r))) (dps_of hs h hp)
    · cases e
  | _, _, _, .lst r h, e => by
    simp only [toP] at e
    split at e
    · rename_i ps hp; cases e; exact .lst (.inl (.inl (hs _ _ r))) (dps_of hs h hp)
    · cases e
  | _, _, _, .scr r h, e => by
    simp only [toP] at e
    split at e
    · rename_i ps hp; cases e; exact .lst (.inl (rd_sub hs r)) (dps_of hs h hp)
    · cases e
  | _, _, _, .obj h, e => by simp only [toP] at e; cases e
theorem dps_of {K : PySem.W.Frag} {w : Wd} {n : Nat} {H : Hp} (hs : ∀ a o, w.fr a = some o → H a = some o) : ∀ {vs : List V} {ds : List D} {ps : List PyData}, DenL w n vs ds → toPs ds = some ps → DpAll K H vs ps
  | _, _, _, .nil, e => by simp only [toPs] at e; cases e; exact .nil
  | _, _, _, .cons h t, e => by
    simp only [toPs] at e
    split at e
    · rename_i p hp
      split at e
      · rename_i qs hq; cases e; exact .cons (dp_of hs h hp) (dps_of hs t hq)
      · cases e
    · cases e
end
/-- a comparison: its rule, what it computes -/
def CmpOk (X : Cx) (G : Gc) (op : CmpOp) (f : D → D → Sto → Option D) : Prop := ∃ r, OpR X (compareOp op) r ∧ R2Ok G r f
section
variable {G : Gc} {X : Cx} {pos : Pos} {a b c e : Expr} {es rest : List Expr} {ta tb tc t : RE} {ra : RA} {k : Nat}
theorem c_lt : CmpOk X G .Lt (fCmp fun i j => decide (i < j)) := ⟨_, op_lt, r_cmp⟩
theorem c_le : CmpOk X G .LtE (fCmp fun i j => decide (i ≤ j)) := ⟨_, op_le, r_cmp⟩
theorem c_gt : CmpOk X G .Gt (fCmp fun i j => decide (j < i)) := ⟨_, op_gt, r_cmp⟩
theorem c_ge : CmpOk X G .GtE (fCmp fun i j => decide (j ≤ i)) := ⟨_, op_ge, r_cmp⟩
theorem c_eq (hr : Room k X.A) : CmpOk X G .Eq fEq := ⟨_, op_eqD hr.units, fun w S H x y dx dy d Q c hx hy e q => by
  unfold fEq at e
  split at e
  · rename_i p p' h1 h2
    split at e
    · rename_i h3
      cases e
      exact ⟨p, p', dp_of c.sub hx h1, dp_of c.sub hy h2, h3.1, h3.2, q _ (.bl _)⟩
    · cases e
  · cases e⟩
theorem c_ne (hr : Room k X.A) : CmpOk X G .NotEq fNe := ⟨_, op_neD hr.units, fun w S H x y dx dy d Q c hx hy e q => by
  unfold fNe at e
  split at e
  · rename_i p p' h1 h2
    split at e
    · rename_i h3
      cases e
      exact ⟨p, p', dp_of c.sub hx h1, dp_of c.sub hy h2, h3.1, h3.2, q _ (.bl _)⟩
    · cases e
  · cases e⟩
@[simp] def isNon : D → Bool | .non => true | _ => false
@[simp] def fIsN : D → D → Sto → Option D := fun x y _ => match y with | .non => some (.bl (isNon x)) | _ => none
@[simp] def fNotN : D → D → Sto → Option D := fun x y _ => match y with | .non => some (.bl (!isNon x)) | _ => none
theorem isNon_of {w : Wd} {n : Nat} {v : V} {d : D} (h : Den w n v d) : decide (v = .non) = isNon d := by
  cases h <;> simp [isNon]
theorem c_isN : CmpOk X G .Is fIsN := ⟨_, op_isN, fun w S H x y dx dy d Q c hx hy e q => by
  unfold fIsN at e
  split at e
  · cases e; exact ⟨den_non hy, q _ (by rw [isNon_of hx]; exact .bl _)⟩
  · cases e⟩
theorem c_notN : CmpOk X G .IsNot fNotN := ⟨_, op_notN, fun w S H x y dx dy d Q c hx hy e q => by
  unfold fNotN at e
  split at e
  · cases e; exact ⟨den_non hy, q _ (by rw [isNon_of hx]; exact .bl _)⟩
  · cases e⟩
theorem de_cmp {op : CmpOp} {f : D → D → Sto → Option D} (ho : CmpOk X G op f) (ha : DE X G a ta) (hb : DE X G b tb) (hm : behindInMarks op b = false := by first | exact nobehind _ (by decide) (by decide) | rfl) : DE X G (.Compare a [op] [b] pos) (e2 f ta tb) :=
  let ⟨_, h1, h2⟩ := ho; let ⟨_, pa, ea⟩ := ha; let ⟨_, pb, eb⟩ := hb
  ⟨_, pe_cmpR h1 pa pb hm, ev_2 h2 ea eb⟩

/-! ### tests -/
@[simp] def tBl (t : RE) : RT := fun ρ S => match t ρ S with | some (.bl b, S1) => some (b, S1) | _ => none
theorem evt_test {te : TE} (h : Ev G te t) : EvT G (tTest te) (tBl t) := fun ρ S b S' e w σ H s Q q => by
  unfold tBl at e
  split at e
  · rename_i c S1 h1
    cases e
    exact h ρ S _ _ h1 w σ H s _ fun w1 v H1 s1 x1 d1 => ⟨_, den_bl d1, q w1 H1 s1 x1⟩
  · cases e
theorem dt_cmp {op : CmpOp} {f : D → D → Sto → Option D} (ho : CmpOk X G op f) (ha : DE X G a ta) (hb : DE X G b tb) (hm : behindInMarks op b = false := by first | exact nobehind _ (by decide) (by decide) | rfl) : DT X G (.Compare a [op] [b] pos) (tBl (e2 f ta tb)) :=
  let ⟨_, h1, h2⟩ := ho; let ⟨_, pa, ea⟩ := ha; let ⟨_, pb, eb⟩ := hb
  ⟨_, pt_cmpR h1 pa pb hm, evt_test (ev_2 h2 ea eb)⟩
/-- a < b < c -/
@[simp] def eChain (f g : D → D → Sto → Option D) (a b c : RE) : RE := fun ρ S => match a ρ S with
  | some (x, S1) => (match b ρ S1 with
    | some (y, S2) => (match f x y S2 with
      | some (.bl true) => (match c ρ S2 with | some (z, S3) => (match g y z S3 with | some r => some (r, S3) | none => none) | none => none)
      | some (.bl false) => some (.bl false, S2)
      | _ => none)
    | none => none)
  | none => none
theorem ev_chain {r r' : R2} {f g : D → D → Sto → Option D} {xa xb xc : TE} (hr : R2Ok G r f) (hr' : R2Ok G r' g) (ha : Ev G xa ta) (hb : Ev G xb tb) (hc : Ev G xc tc) : Ev G (tChain r r' xa xb xc) (eChain f g ta tb tc) := fun ρ S d S' e w σ H s Q q => by
  unfold eChain at e
  split at e
  · rename_i x S1 h1
    split at e
    · rename_i y S2 h2
      refine ha ρ S x S1 h1 w σ H s _ fun w1 v H1 s1 x1 d1 => hb ρ S1 y _ h2 w1 σ H1 s1 _ fun w2 u H2 s2 x2 d2 => ?_
      split at e
      · rename_i h3
        split at e
        · rename_i z S3 h4
          split at e
          · rename_i rr h5
            cases e
            refine hr w2 _ H2 v u x y _ _ s2.core (d1.ext x2) d2 h3 fun z hz => ⟨true, den_bl hz, iteT ?_⟩
            refine hc ρ S2 _ _ h4 w2 σ H2 s2 _ fun w3 zz H3 s3 x3 d3 => ?_
            exact hr' w3 _ H3 u zz y _ _ _ s3.core (d2.ext x3) d3 h5 fun o ho => q w3 o H3 s3 ((x1.trans x2).trans x3) ho
          · cases e
        · cases e
      · rename_i h3
        cases e
        exact hr w2 _ H2 v u x y _ _ s2.core (d1.ext x2) d2 h3 fun z hz => ⟨false, den_bl hz, iteF (q w2 _ H2 s2 (x1.trans x2) (.bl _))⟩
      · cases e
    · cases e
  · cases e
theorem de_chain {op op' : CmpOp} {f g : D → D → Sto → Option D} (ho : CmpOk X G op f) (ho' : CmpOk X G op' g) (ha : DE X G a ta) (hb : DE X G b tb) (hc : DE X G c tc) (hm : lastMarks [op, op'] [b, c] = false := by with_unfolding_all rfl) :
    DE X G (.Compare a [op, op'] [b, c] pos) (eChain f g ta tb tc) :=
  let ⟨_, h1, h2⟩ := ho; let ⟨_, h1', h2'⟩ := ho'; let ⟨_, pa, ea⟩ := ha; let ⟨_, pb, eb⟩ := hb; let ⟨_, pc, ec⟩ := hc
  ⟨_, pe_chain h1 h1' pa pb pc hm, ev_chain h2 h2' ea eb ec⟩
theorem dt_chain {op op' : CmpOp} {f g : D → D → Sto → Option D} (ho : CmpOk X G op f) (ho' : CmpOk X G op' g) (ha : DE X G a ta) (hb : DE X G b tb) (hc : DE X G c tc) (hm : lastMarks [op, op'] [b, c] = false := by with_unfolding_all rfl) :
    DT X G (.Compare a [op, op'] [b, c] pos) (tBl (eChain f g ta tb tc)) :=
  let ⟨_, h1, h2⟩ := ho; let ⟨_, h1', h2'⟩ := ho'; let ⟨_, pa, ea⟩ := ha; let ⟨_, pb, eb⟩ := hb; let ⟨_, pc, ec⟩ := hc
  ⟨_, pt_chain h1 h1' pa pb pc hm, evt_test (ev_chain h2 h2' ea eb ec)⟩
/-- truth -/
@[simp] def tru : D → Sto → Option Bool := fun d S => match d with
  | .non => some false
  | .bl b => some b
  | .int i => some (i != 0)
  | .str x => if x.length ≤ sizeLine then some ((x.length : Int) != 0) else none
  | .tup xs => some (!xs.isEmpty)
  | .lst xs => some (!xs.isEmpty)
  | .scr xs => some (!xs.isEmpty)
  | .obj k => match S[k]? with | some (.lst xs) => some (!xs.isEmpty) | _ => none
theorem DenL.emp {w : Wd} {n : Nat} {vs : List V} {ds : List D} (h : DenL w n vs ds) : vs.isEmpty = ds.isEmpty := by cases h <;> rfl
theorem tru_ok {K : PySem.W.Frag} {w : Wd} {S : Sto} {H : Hp} (c : Core G w S H) {v : V} {d : D} {b : Bool} (h : Den w S.length v d) (e : tru d S = some b) : TruV K v H b := by
  cases h with
  | non => simp only [tru] at e; cases e; rfl
  | bl b => simp only [tru] at e; cases e; rfl
  | int b => simp only [tru] at e; cases e; rfl
  | str x =>
    simp only [tru] at e
    split at e
    · rename_i hx; cases e; exact ⟨hx, rfl⟩
    · cases e
  | tup r l => simp only [tru] at e; cases e; exact .inr (.inl ⟨_, .inl (.inl (c.sub _ _ r)), by rw [l.emp]⟩)
  | lst r l => simp only [tru] at e; cases e; exact .inl ⟨_, .inl (.inl (c.sub _ _ r)), by rw [l.emp]⟩
  | scr r l => simp only [tru] at e; cases e; exact .inl ⟨_, .inl (rd_sub c.sub r), by rw [l.emp]⟩
  | obj hk =>
    simp only [tru] at e
    split at e
    · rename_i xs hx
      cases e
      obtain ⟨_, _, vs, hv, l⟩ := c.cel _ _ hx
      exact .inl ⟨_, .inl (.inl hv), by rw [l.emp]⟩
    · cases e
@[simp] def tTru (t : RE) : RT := fun ρ S => match t ρ S with | some (d, S1) => (match tru d S1 with | some b => some (b, S1) | none => none) | none => none
theorem dt_tru (ha : DE X G a ta) (he : ∀ whole, isTrue a X.env whole = (do let v ← whole; standAt a.pos; holding [v] (truthy v)) := by intro _; rfl) : DT X G a (tTru ta) :=
  let ⟨_, pa, ea⟩ := ha
  ⟨_, pt_truth pa he, fun ρ S b S' e w σ H s Q q => by
    unfold tTru at e
    split at e
    · rename_i d S1 h1
      split at e
      · rename_i bb h2
        cases e
        exact ea ρ S _ _ h1 w σ H s _ fun w1 v H1 s1 x1 d1 => ⟨_, tru_ok s1.core d1 h2, q w1 H1 s1 x1⟩
      · cases e
    · cases e⟩
@[simp] def tNotD (t : RT) : RT := fun ρ S => match t ρ S with | some (b, S1) => some (!b, S1) | none => none
@[simp] def tAndD (t u : RT) : RT := fun ρ S => match t ρ S with | some (true, S1) => u ρ S1 | some (false, S1) => some (false, S1) | none => none
@[simp] def tOrD (t u : RT) : RT := fun ρ S => match t ρ S with | some (true, S1) => some (true, S1) | some (false, S1) => u ρ S1 | none => none
variable {t1 t2 : RT}
theorem dt_not (h : DT X G a t1) : DT X G (.UnaryOp .Not a pos) (tNotD t1) :=
  let ⟨_, pa, ea⟩ := h
  ⟨_, pt_not pa, fun ρ S b S' e w σ H s Q q => by
    unfold tNotD at e
    split at e
    · rename_i d S1 h1
      cases e
      exact ea ρ S _ _ h1 w σ H s _ fun w1 H1 s1 x1 => q w1 H1 s1 x1
    · cases e⟩
theorem evt_and {xa xb : TT} (h1 : EvT G xa t1) (h2 : EvT G xb t2) : EvT G (tAnd xa xb) (tAndD t1 t2) := fun ρ S b S' e w σ H s Q q => by
  unfold tAndD at e
  split at e
  · rename_i S1 g1
    exact h1 ρ S _ _ g1 w σ H s _ fun w1 H1 s1 x1 => iteT (h2 ρ S1 _ _ e w1 σ H1 s1 _ fun w2 H2 s2 x2 => q w2 H2 s2 (x1.trans x2))
  · rename_i S1 g1
    cases e
    exact h1 ρ S _ _ g1 w σ H s _ fun w1 H1 s1 x1 => iteF (q w1 H1 s1 x1)
  · cases e
theorem evt_or {xa xb : TT} (h1 : EvT G xa t1) (h2 : EvT G xb t2) : EvT G (tOr xa xb) (tOrD t1 t2) := fun ρ S b S' e w σ H s Q q => by
  unfold tOrD at e
  split at e
  · rename_i S1 g1
    cases e
    exact h1 ρ S _ _ g1 w σ H s _ fun w1 H1 s1 x1 => iteT (q w1 H1 s1 x1)
  · rename_i S1 g1
    exact h1 ρ S _ _ g1 w σ H s _ fun w1 H1 s1 x1 => iteF (h2 ρ S1 _ _ e w1 σ H1 s1 _ fun w2 H2 s2 x2 => q w2 H2 s2 (x1.trans x2))
  · cases e
theorem dw_and1 (h : DT X G a t1) : DW X G (.BoolOp .And [a] pos) t1 := let ⟨_, pa, ea⟩ := h; ⟨_, pw_and1 pa, ea⟩
theorem dw_or1 (h : DT X G a t1) : DW X G (.BoolOp .Or [a] pos) t1 := let ⟨_, pa, ea⟩ := h; ⟨_, pw_or1 pa, ea⟩
theorem dw_and (h : DT X G a t1) (h2 : DW X G (.BoolOp .And (b :: rest) pos) t2) : DW X G (.BoolOp .And (a :: b :: rest) pos) (tAndD t1 t2) :=
  let ⟨_, pa, ea⟩ := h; let ⟨_, pb, eb⟩ := h2; ⟨_, pw_and pa pb, evt_and ea eb⟩
theorem dw_or (h : DT X G a t1) (h2 : DW X G (.BoolOp .Or (b :: rest) pos) t2) : DW X G (.BoolOp .Or (a :: b :: rest) pos) (tOrD t1 t2) :=
  let ⟨_, pa, ea⟩ := h; let ⟨_, pb, eb⟩ := h2; ⟨_, pw_or pa pb, evt_or ea eb⟩
theorem dt_w (h : DW X G a t1) : DT X G a t1 := let ⟨_, pa, ea⟩ := h; ⟨_, pa.pt, ea⟩
/-- and, or, not as values: of truth values -/
@[simp] def eAnd (a b : RE) : RE := fun ρ S => match a ρ S with | some (.bl true, S1) => b ρ S1 | some (.bl false, S1) => some (.bl false, S1) | _ => none
@[simp] def eOr (a b : RE) : RE := fun ρ S => match a ρ S with | some (.bl true, S1) => some (.bl true, S1) | some (.bl false, S1) => b ρ S1 | _ => none
@[simp] def fNot : D → Sto → Option D := fun d _ => match d with | .bl b => some (.bl (!b)) | _ => none
theorem de_one {op : BoolOp} (h : DE X G a ta) : DE X G (.BoolOp op [a] pos) ta := let ⟨_, pa, ea⟩ := h; ⟨_, pe_one pa, ea⟩
theorem de_and (h : DE X G a ta) (h2 : DE X G (.BoolOp .And (b :: rest) pos) tb) : DE X G (.BoolOp .And (a :: b :: rest) pos) (eAnd ta tb) :=
  let ⟨_, pa, ea⟩ := h; let ⟨_, pb, eb⟩ := h2
  ⟨_, pe_and pa pb, fun ρ S d S' e w σ H s Q q => by
    unfold eAnd at e
    split at e
    · rename_i S1 g1
      exact ea ρ S _ _ g1 w σ H s _ fun w1 v H1 s1 x1 d1 => ⟨true, den_bl d1, iteT (eb ρ S1 _ _ e w1 σ H1 s1 _ fun w2 v2 H2 s2 x2 d2 => q w2 v2 H2 s2 (x1.trans x2) d2)⟩
    · rename_i S1 g1
      cases e
      exact ea ρ S _ _ g1 w σ H s _ fun w1 v H1 s1 x1 d1 => ⟨false, den_bl d1, iteF (q w1 _ H1 s1 x1 (.bl _))⟩
    · cases e⟩
theorem de_or (h : DE X G a ta) (h2 : DE X G (.BoolOp .Or (b :: rest) pos) tb) : DE X G (.BoolOp .Or (a :: b :: rest) pos) (eOr ta tb) :=
  let ⟨_, pa, ea⟩ := h; let ⟨_, pb, eb⟩ := h2
  ⟨_, pe_or pa pb, fun ρ S d S' e w σ H s Q q => by
    unfold eOr at e
    split at e
    · rename_i S1 g1
      cases e
      exact ea ρ S _ _ g1 w σ H s _ fun w1 v H1 s1 x1 d1 => ⟨true, den_bl d1, iteT (q w1 _ H1 s1 x1 (.bl _))⟩
    · rename_i S1 g1
      exact ea ρ S _ _ g1 w σ H s _ fun w1 v H1 s1 x1 d1 => ⟨false, den_bl d1, iteF (eb ρ S1 _ _ e w1 σ H1 s1 _ fun w2 v2 H2 s2 x2 d2 => q w2 v2 H2 s2 (x1.trans x2) d2)⟩
    · cases e⟩
theorem de_not (h : DE X G a ta) : DE X G (.UnaryOp .Not a pos) (e1 fNot ta) :=
  let ⟨_, pa, ea⟩ := h
  ⟨_, pe_not pa, by
    refine ev_1 (r := fun x H1 Q => ∃ c, x = .bl c ∧ Q (.bl (!c)) H1) (fun w S H x dx d Q c hx e q => ?_) ea
    unfold fNot at e
    split at e <;> cases e
    exact ⟨_, den_bl hx, q _ (.bl _)⟩⟩
@[simp] def eIf (t : RT) (a b : RE) : RE := fun ρ S => match t ρ S with | some (true, S1) => a ρ S1 | some (false, S1) => b ρ S1 | none => none
theorem de_if (h : DT X G c t1) (ha : DE X G a ta) (hb : DE X G b tb) : DE X G (.IfExp c a b pos) (eIf t1 ta tb) :=
  let ⟨_, pc, ec⟩ := h; let ⟨_, pa, ea⟩ := ha; let ⟨_, pb, eb⟩ := hb
  ⟨_, pe_ifExp pc pa pb, fun ρ S d S' e w σ H s Q q => by
    unfold eIf at e
    split at e
    · rename_i S1 g1
      exact ec ρ S _ _ g1 w σ H s _ fun w1 H1 s1 x1 => iteT (ea ρ S1 _ _ e w1 σ H1 s1 _ fun w2 v2 H2 s2 x2 d2 => q w2 v2 H2 s2 (x1.trans x2) d2)
    · rename_i S1 g1
      exact ec ρ S _ _ g1 w σ H s _ fun w1 H1 s1 x1 => iteF (eb ρ S1 _ _ e w1 σ H1 s1 _ fun w2 v2 H2 s2 x2 d2 => q w2 v2 H2 s2 (x1.trans x2) d2)
    · cases e⟩
end
end DL

set_option maxRecDepth 100000
set_option maxHeartbeats 4000000
set_option pp.maxSteps 900
namespace DL
open PySem PySem.Spec PyProof.Rows L2 GX

theorem le_line {n : Nat} (h : n ≤ 1000000) : n ≤ sizeLine := Nat.le_trans h (by decide)
theorem lt_line {n : Nat} (h : n < 1000000) : n < sizeLine := Nat.lt_of_lt_of_le h (by decide)
/-- of two values; the store may change -/
@[simp] def e2s (f : D → D → Sto → Option (D × Sto)) (a b : RE) : RE := fun ρ S => match a ρ S with
  | some (x, S1) => (match b ρ S1 with | some (y, S2) => f x y S2 | none => none)
  | none => none
@[simp] def e1s (f : D → Sto → Option (D × Sto)) (a : RE) : RE := fun ρ S => match a ρ S with | some (x, S1) => f x S1 | none => none
section
variable {G : Gc} {X : Cx} {pos : Pos} {a b c e : Expr} {es rest : List Expr} {ta tb tc t : RE} {ra : RA} {k : Nat}
def R2New (G : Gc) (r : R2) (f : D → D → Sto → Option (D × Sto)) : Prop := ∀ (w : Wd) (ρ : En) (S : Sto) (σ : L2.St) (H : Hp) (x y : V) (dx dy d : D) (S' : Sto) (Q : VK), Sat G w ρ S σ H → Den w S.length x dx → Den w S.length y dy → f dx dy S = some (d, S') →
  (∀ w' v H', Sat G w' ρ S' σ H' → Ext w S H w' S' H' → Den w' S'.length v d → Q v H') → r x y H Q
theorem ev_2s {r : R2} {f : D → D → Sto → Option (D × Sto)} {xa xb : TE} (hr : R2New G r f) (ha : Ev G xa ta) (hb : Ev G xb tb) : Ev G (tOp r xa xb) (e2s f ta tb) := fun ρ S d S' e w σ H s Q q => by
  unfold e2s at e
  split at e
  · rename_i x S1 h1
    split at e
    · rename_i y S2 h2
      refine ha ρ S x S1 h1 w σ H s _ fun w1 v H1 s1 x1 d1 => hb ρ S1 y _ h2 w1 σ H1 s1 _ fun w2 u H2 s2 x2 d2 => ?_
      exact hr w2 ρ S2 σ H2 v u x y d S' Q s2 (d1.ext x2) d2 e fun w3 z H3 s3 x3 d3 => q w3 z H3 s3 ((x1.trans x2).trans x3) d3
    · cases e
  · cases e
/-- a call by values -/
def RCNew (G : Gc) (r : List V → Hp → VK → Prop) (f : List D → Sto → Option (D × Sto)) : Prop := ∀ (w : Wd) (ρ : En) (S : Sto) (σ : L2.St) (H : Hp) (xs : List V) (ds : List D) (d : D) (S' : Sto) (Q : VK), Sat G w ρ S σ H → DenL w S.length xs ds → f ds S = some (d, S') →
  (∀ w' v H', Sat G w' ρ S' σ H' → Ext w S H w' S' H' → Den w' S'.length v d → Q v H') → r xs H Q
theorem ev_cb {r : List V → Hp → VK → Prop} {f : List D → Sto → Option (D × Sto)} {xa : TA} (hr : RCNew G r f) (ha : EvA G xa ra) : Ev G (tCB r xa) (eA f ra) := fun ρ S d S' e w σ H s Q q => by
  unfold eA at e
  split at e
  · rename_i xs S1 h1
    exact ha ρ S xs S1 h1 w σ H s _ fun w1 vs H1 s1 x1 d1 => hr w1 ρ S1 σ H1 vs xs d S' Q s1 d1 e fun w2 z H2 s2 x2 d2 => q w2 z H2 s2 (x1.trans x2) d2
  · cases e
theorem da_nil : DA X G [] aNil := ⟨_, pa_nil, fun ρ S ds S' e w σ H s Q q => by cases e; exact q w [] H s (Ext.refl ..) .nil⟩
theorem da_cons (h : DE X G e ta) (h2 : DA X G es ra) (hs : starEach (e :: es) X.env = (false, eval e X.env) :: starEach es X.env := by rfl) : DA X G (e :: es) (aCons ta ra) :=
  let ⟨_, pa, ea⟩ := h; let ⟨_, pb, eb⟩ := h2
  ⟨_, pa_cons pa pb hs, fun ρ S ds S' e w σ H s Q q => by
    unfold aCons at e
    split at e
    · rename_i x S1 h1
      split at e
      · rename_i xs S2 h2
        cases e
        exact ea ρ S x S1 h1 w σ H s _ fun w1 v H1 s1 x1 d1 => eb ρ S1 xs _ h2 w1 σ H1 s1 _ fun w2 vs H2 s2 x2 d2 => q w2 _ H2 s2 (x1.trans x2) (.cons (d1.ext x2) d2)
      · cases e
    · cases e⟩
/-! ### displays -/
@[simp] def fTup : List D → Sto → Option (D × Sto) := fun ds S => if ds.length ≤ 1000000 then some (.tup ds, S) else none
@[simp] def fLst : List D → Sto → Option (D × Sto) := fun ds S => if ds.length ≤ 1000000 then some (.lst ds, S) else none
/-- a list that may change -/
@[simp] def fObj : List D → Sto → Option (D × Sto) := fun ds S => if ds.length ≤ 1000000 then some (.obj S.length, S ++ [.lst ds]) else none
theorem new_tup {w : Wd} {ρ : En} {S S' : Sto} {σ : L2.St} {H : Hp} {xs : List V} {ds : List D} {d : D} {Q : VK} (s : Sat G w ρ S σ H) (hd : DenL w S.length xs ds) (e : fTup ds S = some (d, S'))
    (q : ∀ w' v H', Sat G w' ρ S' σ H' → Ext w S H w' S' H' → Den w' S'.length v d → Q v H') : xs.length ≤ sizeLine ∧ ∀ p, H p = none → Q (.ref p) (upd H p (.tup xs)) := by
  unfold fTup at e
  split at e
  · rename_i hl
    cases e
    refine ⟨by rw [hd.len]; exact le_line hl, fun p hp => ?_⟩
    obtain ⟨s1, x1⟩ := s.newF (o := .tup xs) hp (.inl ⟨xs, rfl⟩)
    exact q _ _ _ s1 x1 (den_newT hd (s.core.fresh hp))
  · cases e
theorem new_lst {w : Wd} {ρ : En} {S S' : Sto} {σ : L2.St} {H : Hp} {xs : List V} {ds : List D} {d : D} {Q : VK} (s : Sat G w ρ S σ H) (hd : DenL w S.length xs ds) (e : fLst ds S = some (d, S'))
    (q : ∀ w' v H', Sat G w' ρ S' σ H' → Ext w S H w' S' H' → Den w' S'.length v d → Q v H') : xs.length ≤ sizeLine ∧ ∀ p, H p = none → Q (.ref p) (upd H p (.lst xs)) := by
  unfold fLst at e
  split at e
  · rename_i hl
    cases e
    refine ⟨by rw [hd.len]; exact le_line hl, fun p hp => ?_⟩
    obtain ⟨s1, x1⟩ := s.newF (o := .lst xs) hp (.inr ⟨xs, rfl⟩)
    exact q _ _ _ s1 x1 (den_newL hd (s.core.fresh hp))
  · cases e
theorem den_newO {w : Wd} {S : Sto} {p : Addr} {ds : List D} : Den { w with al := fun k => if k = S.length then p else w.al k } (S ++ [Cell.lst ds]).length (.ref p) (.obj S.length) := by
  have h : Den { w with al := fun k => if k = S.length then p else w.al k } (S ++ [Cell.lst ds]).length (.ref (({ w with al := fun k => if k = S.length then p else w.al k } : Wd).al S.length)) (.obj S.length) := .obj (by simp)
  have e : ({ w with al := fun k => if k = S.length then p else w.al k } : Wd).al S.length = p := if_pos rfl
  rw [e] at h
  exact h
theorem new_obj {w : Wd} {ρ : En} {S S' : Sto} {σ : L2.St} {H : Hp} {xs : List V} {ds : List D} {d : D} {Q : VK} (s : Sat G w ρ S σ H) (hd : DenL w S.length xs ds) (e : fObj ds S = some (d, S'))
    (q : ∀ w' v H', Sat G w' ρ S' σ H' → Ext w S H w' S' H' → Den w' S'.length v d → Q v H') : xs.length ≤ sizeLine ∧ ∀ p, H p = none → Q (.ref p) (upd H p (.lst xs)) := by
  unfold fObj at e
  split at e
  · rename_i hl
    cases e
    refine ⟨by rw [hd.len]; exact le_line hl, fun p hp => ?_⟩
    obtain ⟨c1, x1⟩ := s.core.newO hp hd
    exact q _ _ _ (s.ofCore c1 x1) x1 den_newO
  · cases e
theorem ev_disp {mk : List V → HO} {f : List D → Sto → Option (D × Sto)} {xa : TA} (hn : ∀ {w : Wd} {ρ : En} {S S' : Sto} {σ : L2.St} {H : Hp} {xs : List V} {ds : List D} {d : D} {Q : VK}, Sat G w ρ S σ H → DenL w S.length xs ds → f ds S = some (d, S') →
      (∀ w' v H', Sat G w' ρ S' σ H' → Ext w S H w' S' H' → Den w' S'.length v d → Q v H') → xs.length ≤ sizeLine ∧ ∀ p, H p = none → Q (.ref p) (upd H p (mk xs))) (ha : EvA G xa ra) :
    Ev G (fun σ H Q => xa σ H fun xs H1 => xs.length ≤ sizeLine ∧ ∀ p, H1 p = none → Q (.ref p) (upd H1 p (mk xs))) (eA f ra) := fun ρ S d S' e w σ H s Q q => by
  unfold eA at e
  split at e
  · rename_i xs S1 h1
    exact ha ρ S xs S1 h1 w σ H s _ fun w1 vs H1 s1 x1 d1 => hn s1 d1 e fun w2 z H2 s2 x2 d2 => q w2 z H2 s2 (x1.trans x2) d2
  · cases e
theorem de_tup {k0 : Nat} (h : DA X G es ra) : DE X G (.Tuple es k0 pos) (eA fTup ra) := let ⟨_, pa, ea⟩ := h; ⟨_, pe_tup pa, ev_disp (fun s hd e q => new_tup s hd e q) ea⟩
theorem de_lst (h : DA X G es ra) : DE X G (.List es pos) (eA fLst ra) := let ⟨_, pa, ea⟩ := h; ⟨_, pe_lst pa, ev_disp (fun s hd e q => new_lst s hd e q) ea⟩
theorem de_lstO (h : DA X G es ra) : DE X G (.List es pos) (eA fObj ra) := let ⟨_, pa, ea⟩ := h; ⟨_, pe_lst pa, ev_disp (fun s hd e q => new_obj s hd e q) ea⟩

/-! ### items, lengths, kinds -/
/-- the items of a sequence -/
@[simp] def seqD (d : D) (S : Sto) : Option (List D) := match d with
  | .tup xs => some xs
  | .lst xs => some xs
  | .scr xs => some xs
  | .obj k => match S[k]? with | some (.lst xs) => some xs | _ => none
  | _ => none
theorem seq_ok {K : PySem.W.Frag} {w : Wd} {S : Sto} {H : Hp} (c : Core G w S H) {v : V} {d : D} {xs : List D} (h : Den w S.length v d) (e : seqD d S = some xs) : ∃ p vs, v = .ref p ∧ (SqL K H p vs ∨ SqT K H p vs) ∧ DenL w S.length vs xs := by
  cases h with
  | non => simp [seqD] at e
  | bl b => simp [seqD] at e
  | int b => simp [seqD] at e
  | str x => simp [seqD] at e
  | tup r l => simp only [seqD] at e; cases e; exact ⟨_, _, rfl, .inr (.inl (.inl (c.sub _ _ r))), l⟩
  | lst r l => simp only [seqD] at e; cases e; exact ⟨_, _, rfl, .inl (.inl (.inl (c.sub _ _ r))), l⟩
  | scr r l => simp only [seqD] at e; cases e; exact ⟨_, _, rfl, .inl (.inl (rd_sub c.sub r)), l⟩
  | obj hk =>
    simp only [seqD] at e
    split at e
    · rename_i ys hx
      cases e
      obtain ⟨_, _, vs, hv, l⟩ := c.cel _ _ hx
      exact ⟨_, _, rfl, .inl (.inl (.inl hv)), l⟩
    · cases e
theorem DenL.at {w : Wd} {n : Nat} {vs : List V} {ds : List D} {i : Int} {d : D} (h : DenL w n vs ds) (e : atI ds i = some d) : ∃ v, atI vs i = some v ∧ Den w n v d := by
  unfold atI at e ⊢
  rw [h.len]
  cases q : ixN ds.length i with
  | none => rw [q] at e; cases e
  | some j =>
    rw [q] at e
    exact h.get e
@[simp] def fIx : D → D → Sto → Option D := fun x y S => match y with
  | .int i => (match seqD x S with | some xs => atI xs i | none => none)
  | _ => none
theorem de_ix (ha : DE X G a ta) (hb : DE X G b tb) (hs : PlainIx b := by intro _ _; rfl) : DE X G (.Subscript a b pos) (e2 fIx ta tb) :=
  let ⟨_, pa, ea⟩ := ha; let ⟨_, pb, eb⟩ := hb
  ⟨_, pe_ix ix_seq pa pb hs, ev_2 (fun w S H x y dx dy d Q c hx hy e q => by
    unfold fIx at e
    split at e
    · rename_i i
      split at e
      · rename_i xs h1
        obtain ⟨p, vs, rfl, hq, l⟩ := seq_ok (K := X.K) c hx h1
        obtain ⟨v, hv, dv⟩ := l.at e
        rcases hq with hq | hq
        · exact .inl ⟨p, vs, i, v, rfl, den_int hy, hq, hv, q v dv⟩
        · exact .inr (.inl ⟨p, vs, i, v, rfl, den_int hy, hq, hv, q v dv⟩)
      · cases e
    · cases e) ea eb⟩
@[simp] def fLen : List D → Sto → Option (D × Sto) := fun ds S => match ds with
  | [d] => (match d with
    | .str x => if x.length ≤ sizeLine then some (.int x.length, S) else none
    | d => (match seqD d S with | some xs => some (.int xs.length, S) | none => none))
  | _ => none
theorem r_len : RCNew G (fun xs H Q => ∃ x n, xs = [x] ∧ LenV X.K x H n ∧ Q (.int n) H) fLen := fun w ρ S σ H xs ds d S' Q s hd e q => by
  unfold fLen at e
  split at e
  · rename_i dd
    obtain ⟨v, rfl, hv⟩ : ∃ v, xs = [v] ∧ Den w S.length v dd := by
      cases hd with
      | cons h t => cases t; exact ⟨_, rfl, h⟩
    split at e
    · rename_i x
      split at e
      · rename_i hx
        cases e
        cases den_str hv
        exact ⟨_, _, rfl, ⟨hx, rfl⟩, q w _ H s (Ext.refl ..) (.int _)⟩
      · cases e
    · split at e
      · rename_i ys h1
        cases e
        obtain ⟨p, vs, rfl, hq, l⟩ := seq_ok (K := X.K) s.core hv h1
        refine ⟨_, ys.length, rfl, ?_, q w _ H s (Ext.refl ..) (.int _)⟩
        rcases hq with hq | hq
        · exact .inl ⟨_, hq, l.len.symm⟩
        · exact .inr ⟨_, hq, l.len.symm⟩
      · cases e
  · cases e
theorem de_len {p : Pos} (hm : X.mg "len" = none) (ha : DE X G a ta) (hg : Gl X "len" := by rfl) (hs : starEach [a] X.env = (false, eval a X.env) :: starEach [] X.env := by rfl) (hpl : (backTo pos (starEach [] X.env)).any (·.1) = false := by rfl) :
    DE X G (.Call (.Name "len" p) [a] [] pos) (eA fLen (aCons ta aNil)) :=
  let ⟨_, pa, ea⟩ := da_cons ha da_nil hs
  ⟨_, pe_callB call_len hg hm PySem.boot_len pa (by decide) (by decide) hs hpl, ev_cb r_len ea⟩
/-- the kind of a value -/
@[simp] def kindD (d : D) (S : Sto) : Option String := match d with
  | .non => some "NoneType" | .bl _ => some "bool" | .int _ => some "int" | .str _ => some "str" | .tup _ => some "tuple" | .lst _ => some "list" | .scr _ => some "list"
  | .obj k => match S[k]? with | some (.lst _) => some "list" | _ => none
@[simp] def fIsi (T : String) : D → Sto → Option D := fun d S => match kindD d S with
  | some k => (match kitB k T with | some b => some (.bl b) | none => none)
  | none => none
theorem kind_ok {K : PySem.W.Frag} {w : Wd} {S : Sto} {H : Hp} (c : Core G w S H) {v : V} {d : D} {k : String} (h : Den w S.length v d) (e : kindD d S = some k) : TyX K H v (.type k) := by
  cases h with
  | non => simp only [kindD] at e; cases e; exact .base .non
  | bl b => simp only [kindD] at e; cases e; exact .base (.bl b)
  | int b => simp only [kindD] at e; cases e; exact .base (.int b)
  | str x => simp only [kindD] at e; cases e; exact .base (.str x)
  | tup r l => simp only [kindD] at e; cases e; exact .base (.tup (c.sub _ _ r))
  | lst r l => simp only [kindD] at e; cases e; exact .base (.lst (c.sub _ _ r))
  | scr r l =>
    simp only [kindD] at e; cases e
    rcases r with r | ⟨o, r⟩
    · exact .base (.lst (c.sub _ _ r))
    · exact .base (.frz (c.sub _ _ r))
  | obj hk =>
    simp only [kindD] at e
    split at e
    · rename_i ys hx
      cases e
      obtain ⟨_, _, vs, hv, l⟩ := c.cel _ _ hx
      exact .base (.lst hv)
    · cases e
theorem boot_isinstance : bootBuiltins "isinstance" = some (.builtin "isinstance") := by decide +kernel
theorem de_isi {T : String} {x : Str} {p p2 : Pos} (hm : X.mg "isinstance" = none) (ha : DE X G a ta) (hx : X.mg x = none) (hv : bootBuiltins x = some (.type T)) (hgx : Gl X x := by rfl) (hg : Gl X "isinstance" := by rfl) (hn : x ≠ "__name__" := by decide) (hdb : (x == ("__debug__" : Str)) = false := by decide)
    (hs : starEach [a, .Name x p2] X.env = (false, eval a X.env) :: starEach [.Name x p2] X.env := by rfl) (hs2 : starEach [.Name x p2] X.env = (false, eval (.Name x p2) X.env) :: starEach [] X.env := by rfl) (hpl : (backTo pos (starEach [.Name x p2] X.env)).any (·.1) = false := by rfl) :
    DE X G (.Call (.Name "isinstance" p) [a, .Name x p2] [] pos) (e1 (fIsi T) ta) :=
  let ⟨_, pa, ea⟩ := ha
  ⟨_, pe_callB call_isi hg hm boot_isinstance (pa_cons pa (pa_cons (pe_bltn (v := .ty T) hgx hx hv rfl hn hdb) pa_nil hs2) hs) (by decide) (by decide) hs hpl, fun ρ S d S' e w σ H s Q q => by
    unfold e1 at e
    split at e
    · rename_i y S1 h1
      split at e
      · rename_i z h2
        cases e
        refine ea ρ S y _ h1 w σ H s _ fun w1 v H1 s1 x1 d1 => ?_
        unfold fIsi at h2
        split at h2
        · rename_i k hk
          split at h2
          · rename_i b hb
            cases h2
            exact ⟨v, .ty T, .type k, .type T, b, rfl, .ty T, kind_ok s1.core d1 hk, kit_ty hb, q w1 _ H1 s1 x1 (.bl b)⟩
          · cases h2
        · cases h2
      · cases e
    · cases e⟩
theorem kb_ii : kitB "int" "int" = some true := by decide +kernel
/-! ### abs, max, min, int -/
@[simp] def fAbs : List D → Sto → Option (D × Sto) := fun ds S => match ds with | [.int i] => some (.int (if i < 0 then -i else i), S) | _ => none
@[simp] def fMax2 : List D → Sto → Option (D × Sto) := fun ds S => match ds with | [.int i, .int j] => some (.int (if j > i then j else i), S) | _ => none
@[simp] def fMin2 : List D → Sto → Option (D × Sto) := fun ds S => match ds with | [.int i, .int j] => some (.int (if j < i then j else i), S) | _ => none
@[simp] def fInt1 : List D → Sto → Option (D × Sto) := fun ds S => match ds with | [.int i] => some (.int i, S) | [.bl b] => some (.int (if b then 1 else 0), S) | _ => none
theorem denL1 {w : Wd} {n : Nat} {xs : List V} {d : D} (h : DenL w n xs [d]) : ∃ v, xs = [v] ∧ Den w n v d := by
  cases h with
  | cons h t => cases t; exact ⟨_, rfl, h⟩
theorem denL2 {w : Wd} {n : Nat} {xs : List V} {d d2 : D} (h : DenL w n xs [d, d2]) : ∃ v u, xs = [v, u] ∧ Den w n v d ∧ Den w n u d2 := by
  cases h with
  | cons h t =>
    obtain ⟨u, rfl, h2⟩ := denL1 t
    exact ⟨_, _, rfl, h, h2⟩
theorem de_abs {p : Pos} (hm : X.mg "abs" = none) (ha : DE X G a ta) (hg : Gl X "abs" := by rfl) (hs : starEach [a] X.env = (false, eval a X.env) :: starEach [] X.env := by rfl) (hpl : (backTo pos (starEach [] X.env)).any (·.1) = false := by rfl) :
    DE X G (.Call (.Name "abs" p) [a] [] pos) (eA fAbs (aCons ta aNil)) :=
  let ⟨_, pa, ea⟩ := da_cons ha da_nil hs
  ⟨_, pe_callB call_abs hg hm (by decide +kernel) pa (by decide) (by decide) hs hpl, ev_cb (fun w ρ S σ H xs ds d S' Q s hd e q => by
    unfold fAbs at e
    split at e <;> cases e
    obtain ⟨v, rfl, hv⟩ := denL1 hd
    cases den_int hv
    exact ⟨_, rfl, q w _ H s (Ext.refl ..) (.int _)⟩) ea⟩
theorem de_max2 {p : Pos} (hc : X.calm = true) (hm : X.mg "max" = none) (ha : DE X G a ta) (hb : DE X G b tb) (hg : Gl X "max" := by rfl) (hs : starEach [a, b] X.env = (false, eval a X.env) :: starEach [b] X.env := by rfl) (hs2 : starEach [b] X.env = (false, eval b X.env) :: starEach [] X.env := by rfl) (hpl : (backTo pos (starEach [b] X.env)).any (·.1) = false := by rfl) :
    DE X G (.Call (.Name "max" p) [a, b] [] pos) (eA fMax2 (aCons ta (aCons tb aNil))) :=
  let ⟨_, pa, ea⟩ := da_cons ha (da_cons hb da_nil hs2) hs
  ⟨_, pe_callB (call_max2 hc) hg hm (by decide +kernel) pa (by decide) (by decide) hs hpl, ev_cb (fun w ρ S σ H xs ds d S' Q s hd e q => by
    unfold fMax2 at e
    split at e <;> cases e
    obtain ⟨v, u, rfl, hv, hu⟩ := denL2 hd
    cases den_int hv; cases den_int hu
    exact ⟨_, _, rfl, q w _ H s (Ext.refl ..) (.int _)⟩) ea⟩
theorem de_min2 {p : Pos} (hc : X.calm = true) (hm : X.mg "min" = none) (ha : DE X G a ta) (hb : DE X G b tb) (hg : Gl X "min" := by rfl) (hs : starEach [a, b] X.env = (false, eval a X.env) :: starEach [b] X.env := by rfl) (hs2 : starEach [b] X.env = (false, eval b X.env) :: starEach [] X.env := by rfl) (hpl : (backTo pos (starEach [b] X.env)).any (·.1) = false := by rfl) :
    DE X G (.Call (.Name "min" p) [a, b] [] pos) (eA fMin2 (aCons ta (aCons tb aNil))) :=
  let ⟨_, pa, ea⟩ := da_cons ha (da_cons hb da_nil hs2) hs
  ⟨_, pe_callB (call_min2 hc) hg hm (by decide +kernel) pa (by decide) (by decide) hs hpl, ev_cb (fun w ρ S σ H xs ds d S' Q s hd e q => by
    unfold fMin2 at e
    split at e <;> cases e
    obtain ⟨v, u, rfl, hv, hu⟩ := denL2 hd
    cases den_int hv; cases den_int hu
    exact ⟨_, _, rfl, q w _ H s (Ext.refl ..) (.int _)⟩) ea⟩
theorem de_int1 {p : Pos} (hm : X.mg "int" = none) (ha : DE X G a ta) (hg : Gl X "int" := by rfl) (hs : starEach [a] X.env = (false, eval a X.env) :: starEach [] X.env := by rfl) (hpl : (backTo pos (starEach [] X.env)).any (·.1) = false := by rfl) :
    DE X G (.Call (.Name "int" p) [a] [] pos) (eA fInt1 (aCons ta aNil)) :=
  let ⟨_, pa, ea⟩ := da_cons ha da_nil hs
  ⟨_, pe_callTy call_int1 hg hm (by decide +kernel) pa (by decide) (by decide) hs hpl, ev_cb (fun w ρ S σ H xs ds d S' Q s hd e q => by
    unfold fInt1 at e
    split at e
    · cases e
      obtain ⟨v, rfl, hv⟩ := denL1 hd
      cases den_int hv
      exact .inl ⟨_, rfl, q w _ H s (Ext.refl ..) (.int _)⟩
    · cases e
      obtain ⟨v, rfl, hv⟩ := denL1 hd
      cases den_bl hv
      exact .inr ⟨_, rfl, q w _ H s (Ext.refl ..) (.int _)⟩
    · cases e) ea⟩
/-! ### list(..), tuple(..) of a sequence; + and * of sequences -/
@[simp] def fListF : List D → Sto → Option (D × Sto) := fun ds S => match ds with | [d] => (match seqD d S with | some xs => some (.lst xs, S) | none => none) | _ => none
@[simp] def fListO : List D → Sto → Option (D × Sto) := fun ds S => match ds with | [d] => (match seqD d S with | some xs => some (.obj S.length, S ++ [.lst xs]) | none => none) | _ => none
@[simp] def fTupOf : List D → Sto → Option (D × Sto) := fun ds S => match ds with | [d] => (match seqD d S with | some xs => some (.tup xs, S) | none => none) | _ => none
theorem r_listF : RCNew G (fun xs H Q => ∃ p ys, xs = [.ref p] ∧ (SqL X.K H p ys ∨ SqT X.K H p ys) ∧ ∀ l, H l = none → Q (.ref l) (upd H l (.lst ys))) fListF := fun w ρ S σ H xs ds d S' Q s hd e q => by
  unfold fListF at e
  split at e
  · split at e
    · rename_i ys h1
      cases e
      obtain ⟨v, rfl, hv⟩ := denL1 hd
      obtain ⟨p, vs, rfl, hq, l⟩ := seq_ok (K := X.K) s.core hv h1
      refine ⟨p, vs, rfl, hq, fun a ha => ?_⟩
      obtain ⟨s1, x1⟩ := s.newF (o := .lst vs) ha (.inr ⟨vs, rfl⟩)
      exact q _ _ _ s1 x1 (den_newL l (s.core.fresh ha))
    · cases e
  · cases e
theorem r_listO : RCNew G (fun xs H Q => ∃ p ys, xs = [.ref p] ∧ (SqL X.K H p ys ∨ SqT X.K H p ys) ∧ ∀ l, H l = none → Q (.ref l) (upd H l (.lst ys))) fListO := fun w ρ S σ H xs ds d S' Q s hd e q => by
  unfold fListO at e
  split at e
  · split at e
    · rename_i ys h1
      cases e
      obtain ⟨v, rfl, hv⟩ := denL1 hd
      obtain ⟨p, vs, rfl, hq, l⟩ := seq_ok (K := X.K) s.core hv h1
      refine ⟨p, vs, rfl, hq, fun a ha => ?_⟩
      obtain ⟨c1, x1⟩ := s.core.newO ha l
      exact q _ _ _ (s.ofCore c1 x1) x1 den_newO
    · cases e
  · cases e
theorem seq_ok' {K : PySem.W.Frag} {w : Wd} {S : Sto} {H : Hp} (c : Core G w S H) {v : V} {d : D} {xs : List D} (h : Den w S.length v d) (e : seqD d S = some xs) : ∃ p vs, v = .ref p ∧ DenL w S.length vs xs ∧ (SqL K H p vs ∨ (SqT K H p vs ∧ w.fr p = some (.tup vs))) := by
  cases h with
  | non => simp [seqD] at e
  | bl b => simp [seqD] at e
  | int b => simp [seqD] at e
  | str x => simp [seqD] at e
  | tup r l => simp only [seqD] at e; cases e; exact ⟨_, _, rfl, l, .inr ⟨.inl (.inl (c.sub _ _ r)), r⟩⟩
  | lst r l => simp only [seqD] at e; cases e; exact ⟨_, _, rfl, l, .inl (.inl (.inl (c.sub _ _ r)))⟩
  | scr r l => simp only [seqD] at e; cases e; exact ⟨_, _, rfl, l, .inl (.inl (rd_sub c.sub r))⟩
  | obj hk =>
    simp only [seqD] at e
    split at e
    · rename_i ys hx
      cases e
      obtain ⟨_, _, vs, hv, l⟩ := c.cel _ _ hx
      exact ⟨_, _, rfl, l, .inl (.inl (.inl hv))⟩
    · cases e
theorem r_tupOf : RCNew G (fun xs H Q => ∃ p ys, xs = [.ref p] ∧ ((SqL X.K H p ys ∧ ∀ l, H l = none → Q (.ref l) (upd H l (.tup ys))) ∨ (SqT X.K H p ys ∧ Q (.ref p) H))) fTupOf := fun w ρ S σ H xs ds d S' Q s hd e q => by
  unfold fTupOf at e
  split at e
  · split at e
    · rename_i ys h1
      cases e
      obtain ⟨v, rfl, hv⟩ := denL1 hd
      obtain ⟨p, vs, rfl, l, hq⟩ := seq_ok' (K := X.K) s.core hv h1
      rcases hq with hq | ⟨hq, hf⟩
      · refine ⟨p, vs, rfl, .inl ⟨hq, fun a ha => ?_⟩⟩
        obtain ⟨s1, x1⟩ := s.newF (o := .tup vs) ha (.inl ⟨vs, rfl⟩)
        exact q _ _ _ s1 x1 (den_newT l (s.core.fresh ha))
      · exact ⟨p, vs, rfl, .inr ⟨hq, q w _ H s (Ext.refl ..) (.tup hf l)⟩⟩
    · cases e
  · cases e
theorem de_listF {p : Pos} (hm : X.mg "list" = none) (ha : DE X G a ta) (hg : Gl X "list" := by rfl) (hs : starEach [a] X.env = (false, eval a X.env) :: starEach [] X.env := by rfl) (hpl : (backTo pos (starEach [] X.env)).any (·.1) = false := by rfl) :
    DE X G (.Call (.Name "list" p) [a] [] pos) (eA fListF (aCons ta aNil)) :=
  let ⟨_, pa, ea⟩ := da_cons ha da_nil hs
  ⟨_, pe_callTy call_list_of hg hm (by decide +kernel) pa (by decide) (by decide) hs hpl, ev_cb r_listF ea⟩
theorem de_listO {p : Pos} (hm : X.mg "list" = none) (ha : DE X G a ta) (hg : Gl X "list" := by rfl) (hs : starEach [a] X.env = (false, eval a X.env) :: starEach [] X.env := by rfl) (hpl : (backTo pos (starEach [] X.env)).any (·.1) = false := by rfl) :
    DE X G (.Call (.Name "list" p) [a] [] pos) (eA fListO (aCons ta aNil)) :=
  let ⟨_, pa, ea⟩ := da_cons ha da_nil hs
  ⟨_, pe_callTy call_list_of hg hm (by decide +kernel) pa (by decide) (by decide) hs hpl, ev_cb r_listO ea⟩
theorem de_tupOf {p : Pos} (hm : X.mg "tuple" = none) (ha : DE X G a ta) (hg : Gl X "tuple" := by rfl) (hs : starEach [a] X.env = (false, eval a X.env) :: starEach [] X.env := by rfl) (hpl : (backTo pos (starEach [] X.env)).any (·.1) = false := by rfl) :
    DE X G (.Call (.Name "tuple" p) [a] [] pos) (eA fTupOf (aCons ta aNil)) :=
  let ⟨_, pa, ea⟩ := da_cons ha da_nil hs
  ⟨_, pe_callTy call_tuple_of hg hm (by decide +kernel) pa (by decide) (by decide) hs hpl, ev_cb r_tupOf ea⟩
@[simp] def fCatT : D → D → Sto → Option (D × Sto) := fun x y S => match x, y with | .tup xs, .tup ys => if xs.length + ys.length ≤ 1000000 then some (.tup (xs ++ ys), S) else none | _, _ => none
theorem den_tup {w : Wd} {n : Nat} {v : V} {ds : List D} (h : Den w n v (.tup ds)) : ∃ p vs, v = .ref p ∧ w.fr p = some (.tup vs) ∧ DenL w n vs ds := by
  cases h with
  | tup r l => exact ⟨_, _, rfl, r, l⟩
theorem den_lst {w : Wd} {n : Nat} {v : V} {ds : List D} (h : Den w n v (.lst ds)) : ∃ p vs, v = .ref p ∧ w.fr p = some (.lst vs) ∧ DenL w n vs ds := by
  cases h with
  | lst r l => exact ⟨_, _, rfl, r, l⟩
theorem DenL.nil_iff {w : Wd} {n : Nat} {vs : List V} {ds : List D} (h : DenL w n vs ds) : vs = [] ↔ ds = [] := by
  cases h <;> simp
theorem de_catT (ha : DE X G a ta) (hb : DE X G b tb) : DE X G (.BinOp a .Add b pos) (e2s fCatT ta tb) :=
  let ⟨_, pa, ea⟩ := ha; let ⟨_, pb, eb⟩ := hb
  ⟨_, pe_op op_catA pa pb, ev_2s (fun w ρ S σ H x y dx dy d S' Q s hx hy e q => by
    unfold fCatT at e
    split at e
    · rename_i xs ys
      split at e
      · rename_i hl
        cases e
        obtain ⟨p, vs, rfl, hp, l⟩ := den_tup hx
        obtain ⟨p', us, rfl, hp', l'⟩ := den_tup hy
        refine ⟨p, p', vs, us, rfl, rfl, .inl (.inl (s.core.sub _ _ hp)), .inl (.inl (s.core.sub _ _ hp')), by rw [l.len, l'.len]; exact le_line hl, fun h => ?_, fun h h' => ?_, fun h h' r hr => ?_⟩
        · have : xs = [] := l.nil_iff.mp h
          exact q w _ H s (Ext.refl ..) (by rw [this, List.nil_append]; exact .tup hp' l')
        · have : ys = [] := l'.nil_iff.mp h'
          exact q w _ H s (Ext.refl ..) (by rw [this, List.append_nil]; exact .tup hp l)
        · obtain ⟨s1, x1⟩ := s.newF (o := .tup (vs ++ us)) hr (.inl ⟨_, rfl⟩)
          exact q _ _ _ s1 x1 (den_newT (l.app l') (s.core.fresh hr))
      · cases e
    · cases e) ea eb⟩
/-- a list that stands in the heap by itself -/
@[simp] def lstD (d : D) (S : Sto) : Option (List D) := match d with
  | .lst xs => some xs
  | .obj k => match S[k]? with | some (.lst xs) => some xs | _ => none
  | _ => none
theorem lst_ok {w : Wd} {S : Sto} {H : Hp} (c : Core G w S H) {v : V} {d : D} {xs : List D} (h : Den w S.length v d) (e : lstD d S = some xs) : ∃ p vs, v = .ref p ∧ H p = some (.lst vs) ∧ DenL w S.length vs xs := by
  cases h with
  | non => simp [lstD] at e
  | bl b => simp [lstD] at e
  | int b => simp [lstD] at e
  | str x => simp [lstD] at e
  | tup r l => simp [lstD] at e
  | lst r l => simp only [lstD] at e; cases e; exact ⟨_, _, rfl, c.sub _ _ r, l⟩
  | scr r l => simp [lstD] at e
  | obj hk =>
    simp only [lstD] at e
    split at e
    · rename_i ys hx
      cases e
      obtain ⟨_, _, vs, hv, l⟩ := c.cel _ _ hx
      exact ⟨_, _, rfl, hv, l⟩
    · cases e
@[simp] def fCatL (mk : List D → Sto → Option (D × Sto)) : D → D → Sto → Option (D × Sto) := fun x y S => match lstD x S, lstD y S with | some xs, some ys => mk (xs ++ ys) S | _, _ => none
theorem r_catL {mk : List D → Sto → Option (D × Sto)} (hn : ∀ {w : Wd} {ρ : En} {S S' : Sto} {σ : L2.St} {H : Hp} {xs : List V} {ds : List D} {d : D} {Q : VK}, Sat G w ρ S σ H → DenL w S.length xs ds → mk ds S = some (d, S') →
      (∀ w' v H', Sat G w' ρ S' σ H' → Ext w S H w' S' H' → Den w' S'.length v d → Q v H') → xs.length ≤ sizeLine ∧ ∀ p, H p = none → Q (.ref p) (upd H p (.lst xs))) : R2New G rCat (fCatL mk) := fun w ρ S σ H x y dx dy d S' Q s hx hy e q => by
  unfold fCatL at e
  split at e
  · rename_i xs ys h1 h2
    obtain ⟨p, vs, rfl, hp, l⟩ := lst_ok s.core hx h1
    obtain ⟨p', us, rfl, hp', l'⟩ := lst_ok s.core hy h2
    obtain ⟨g1, g2⟩ := hn s (l.app l') e q
    exact ⟨p, p', vs, us, rfl, rfl, hp, hp', by rw [← List.length_append]; exact g1, g2⟩
  · cases e
theorem de_catL (ha : DE X G a ta) (hb : DE X G b tb) : DE X G (.BinOp a .Add b pos) (e2s (fCatL fLst) ta tb) :=
  let ⟨_, pa, ea⟩ := ha; let ⟨_, pb, eb⟩ := hb
  ⟨_, pe_op op_cat pa pb, ev_2s (r_catL fun s hd e q => new_lst s hd e q) ea eb⟩
theorem de_catO (ha : DE X G a ta) (hb : DE X G b tb) : DE X G (.BinOp a .Add b pos) (e2s (fCatL fObj) ta tb) :=
  let ⟨_, pa, ea⟩ := ha; let ⟨_, pb, eb⟩ := hb
  ⟨_, pe_op op_cat pa pb, ev_2s (r_catL fun s hd e q => new_obj s hd e q) ea eb⟩
@[simp] def fRepL (mk : List D → Sto → Option (D × Sto)) : D → D → Sto → Option (D × Sto) := fun x y S => match y with
  | .int k => (match lstD x S with | some xs => if -(2 ^ 63) ≤ k ∧ k < 2 ^ 63 ∧ xs.length * k.toNat ≤ 1000000 then mk (List.replicate k.toNat xs).flatten S else none | none => none)
  | _ => none
theorem r_repL {mk : List D → Sto → Option (D × Sto)} (hn : ∀ {w : Wd} {ρ : En} {S S' : Sto} {σ : L2.St} {H : Hp} {xs : List V} {ds : List D} {d : D} {Q : VK}, Sat G w ρ S σ H → DenL w S.length xs ds → mk ds S = some (d, S') →
      (∀ w' v H', Sat G w' ρ S' σ H' → Ext w S H w' S' H' → Den w' S'.length v d → Q v H') → xs.length ≤ sizeLine ∧ ∀ p, H p = none → Q (.ref p) (upd H p (.lst xs))) : R2New G rRep (fRepL mk) := fun w ρ S σ H x y dx dy d S' Q s hx hy e q => by
  unfold fRepL at e
  split at e
  · rename_i k
    split at e
    · rename_i xs h1
      split at e
      · rename_i hc
        obtain ⟨p, vs, rfl, hp, l⟩ := lst_ok s.core hx h1
        obtain ⟨g1, g2⟩ := hn s (l.rep k.toNat) e q
        exact ⟨p, k, vs, rfl, den_int hy, hp, hc.1, hc.2.1, by rw [l.len]; exact le_line hc.2.2, g2⟩
      · cases e
    · cases e
  · cases e
theorem de_repL (ha : DE X G a ta) (hb : DE X G b tb) : DE X G (.BinOp a .Mult b pos) (e2s (fRepL fLst) ta tb) :=
  let ⟨_, pa, ea⟩ := ha; let ⟨_, pb, eb⟩ := hb
  ⟨_, pe_op op_rep pa pb, ev_2s (r_repL fun s hd e q => new_lst s hd e q) ea eb⟩
theorem de_repO (ha : DE X G a ta) (hb : DE X G b tb) : DE X G (.BinOp a .Mult b pos) (e2s (fRepL fObj) ta tb) :=
  let ⟨_, pa, ea⟩ := ha; let ⟨_, pb, eb⟩ := hb
  ⟨_, pe_op op_rep pa pb, ev_2s (r_repL fun s hd e q => new_obj s hd e q) ea eb⟩
end
end DL

set_option maxRecDepth 100000
set_option maxHeartbeats 4000000
set_option pp.maxSteps 900
namespace DL
open PySem PySem.Spec PyProof.Rows L2 GX
open AutoSeq1 (wpAny_loadPart')
theorem tuple_mul1 (l : Addr) (items : Array Value) (n : Nat) (dd : Option Addr) (sl : Array (Option Value)) (u : Tok) :
    Meets (Builtin.«tuple.__mul__» ⟨[.ref l, .int 1 u], []⟩) (fun _ R s => s.heap.get? l = some { cls := .type "tuple", dict := dd, data := .seq items n, slots := sl } ∧ R (.ok (.ret (Value.ref l))) s) :=
  .of_wp fun prog w A R s h => by
    obtain ⟨hp, g, d, tk, os⟩ := s
    obtain ⟨hl, h⟩ := h
    have f1 := AutoSeq1.idx_int
    wp_walk using wpAny_loadPart' hl
    exact ⟨_, rfl, h⟩
def rRep1 (K : PySem.W.Frag) : R2 := fun x y H Q => ∃ l xs, x = .ref l ∧ y = .int 1 ∧ SqT K H l xs ∧ Q (.ref l) H
section
variable {G : Gc} {X : Cx} {pos : Pos} {a b : Expr} {ta tb : RE}
theorem op_repT1 : OpR X (binaryOp .Mult) (rRep1 X.K) := by
  intro pins s σ H x y v u Q I rx ry h
  obtain ⟨l, xs, rfl, rfl, hT, q⟩ := h
  cases rx
  obtain ⟨t, rfl⟩ := ry
  obtain ⟨its, r, ⟨⟨cls, dd, data, sl⟩, ho, hc, n, hd⟩, hs⟩ := I.tuple hT
  simp only at hc hd
  subst hc hd
  refine wpAny_binaryOp_repeat_ref (T := "tuple") (U := "int") (by decide) ⟨_, ho, rfl⟩ (fun s' => typeIs_int s' 1 t) noFill_tuple_mul F.fills_int_mul F.slot_int_rmul repeat_tuple F.slot_int_index.lookup
    (call_meets F.slot_int_rmul (typeIs_int s 1 t) F.entry_int_rmul (F.args_int_rmul_2 _ _) (int_rmul_tuple 1 t l its.toArray n dd sl)
      ⟨ho, rfl, ⟨_, ho, rfl⟩, call_meets F.slot_tuple_mul ⟨_, ho, rfl⟩ F.entry_tuple_mul (F.args_tuple_mul_2 _ _) (tuple_mul1 l its.toArray n dd sl t) ⟨ho, ?_⟩⟩)
  exact ⟨.ref l, H, I, rfl, q⟩
@[simp] def fRepT : D → D → Sto → Option (D × Sto) := fun x y S => match x, y with
  | .tup xs, .int k => if xs ≠ [] ∧ 1 ≤ k ∧ k ≤ 1000 ∧ xs.length ≤ 1000 then some (.tup (List.replicate k.toNat xs).flatten, S) else none
  | _, _ => none
theorem de_repT (ha : DE X G a ta) (hb : DE X G b tb) : DE X G (.BinOp a .Mult b pos) (e2s fRepT ta tb) :=
  let ⟨_, pa, ea⟩ := ha; let ⟨_, pb, eb⟩ := hb
  ⟨_, pe_op (r := fun x y H Q => rRep1 X.K x y H Q ∨ rRepT X.K x y H Q) (fun pins s σ H x y v u Q I r1 r2 h => h.elim (op_repT1 pins s σ H x y v u Q I r1 r2) (op_repT pins s σ H x y v u Q I r1 r2)) pa pb, ev_2s (fun w ρ S σ H x y dx dy d S' Q s hx hy e q => by
    unfold fRepT at e
    split at e
    · rename_i xs k
      split at e
      · rename_i hc
        obtain ⟨h1, h2, h3, h4⟩ := hc
        cases e
        obtain ⟨p, vs, rfl, hp, l⟩ := den_tup hx
        cases den_int hy
        by_cases hk : k = 1
        · subst hk
          refine .inl ⟨p, vs, rfl, rfl, .inl (.inl (s.core.sub _ _ hp)), q w _ H s (Ext.refl ..) ?_⟩
          have : (List.replicate (1 : Int).toNat xs).flatten = xs := by simp
          rw [this]
          exact .tup hp l
        · refine .inr ⟨p, k, vs, rfl, rfl, .inl (.inl (s.core.sub _ _ hp)), fun z => h1 (l.nil_iff.mp z), by omega, h3, by rw [l.len]; exact h4, fun r hr => ?_⟩
          obtain ⟨s1, x1⟩ := s.newF (o := .tup (List.replicate k.toNat vs).flatten) hr (.inl ⟨_, rfl⟩)
          exact q _ _ _ s1 x1 (den_newT (l.rep k.toNat) (s.core.fresh hr))
      · cases e
    · cases e) ea eb⟩
end
end DL

set_option maxRecDepth 100000
set_option maxHeartbeats 4000000
set_option pp.maxSteps 900
namespace DL
open PySem PySem.Spec PyProof.Rows L2 GX

def Post (G : Gc) (w : Wd) (S : Sto) (H : Hp) (D : Ends) : Out → Prop
  | .nx ρ' S' => ∀ w' σ' H', Sat G w' ρ' S' σ' H' → Ext w S H w' S' H' → D.nx σ' H'
  | .bk ρ' S' => ∀ w' σ' H', Sat G w' ρ' S' σ' H' → Ext w S H w' S' H' → D.bk σ' H'
  | .ct ρ' S' => ∀ w' σ' H', Sat G w' ρ' S' σ' H' → Ext w S H w' S' H' → D.ct σ' H'
  | .rt d S' => ∀ w' v H', Core G w' S' H' → Ext w S H w' S' H' → Den w' S'.length v d → D.rt v H'
def EvS (G : Gc) (ts : TS) (t : RS) : Prop := ∀ (ρ : En) (S : Sto) (o : Out), t ρ S = some o → ∀ (w : Wd) (σ : L2.St) (H : Hp), Sat G w ρ S σ H → ∀ D : Ends, Post G w S H D o → ts D σ H
def DS (X : Cx) (G : Gc) (st : Stmt) (t : RS) : Prop := ∃ ts, PS X st ts ∧ EvS G ts t
def DSs (X : Cx) (G : Gc) (sts : List Stmt) (t : RS) : Prop := ∃ ts, PSs X sts ts ∧ EvS G ts t
abbrev RG := D → En → Sto → Option (En × Sto)
def EvG (G : Gc) (g : TG) (t : RG) : Prop := ∀ (d : D) (ρ : En) (S : Sto) (ρ' : En) (S' : Sto), t d ρ S = some (ρ', S') → ∀ (w : Wd) (σ : L2.St) (H : Hp) (v : V), Sat G w ρ S σ H → Den w S.length v d → ∀ Q : L2.St → Hp → Prop,
  (∀ w' σ' H', Sat G w' ρ' S' σ' H' → Ext w S H w' S' H' → Q σ' H') → g v σ H Q
def DG (X : Cx) (G : Gc) (tg : Expr) (t : RG) : Prop := ∃ g, PG X tg g ∧ EvG G g t
abbrev RGs := List D → En → Sto → Option (En × Sto)
def EvGs (G : Gc) (g : TGs) (t : RGs) : Prop := ∀ (ds : List D) (ρ : En) (S : Sto) (ρ' : En) (S' : Sto), t ds ρ S = some (ρ', S') → ∀ (w : Wd) (σ : L2.St) (H : Hp) (vs : List V), Sat G w ρ S σ H → DenL w S.length vs ds → ∀ Q : L2.St → Hp → Prop,
  (∀ w' σ' H', Sat G w' ρ' S' σ' H' → Ext w S H w' S' H' → Q σ' H') → g vs σ H Q
def DGs (X : Cx) (G : Gc) (tgs : List Expr) (t : RGs) : Prop := ∃ g, PGs X tgs g ∧ EvGs G g t
theorem Post.ext {G : Gc} {w w1 : Wd} {S S1 : Sto} {H H1 : Hp} {D : Ends} {o : Out} (x : Ext w S H w1 S1 H1) (p : Post G w S H D o) : Post G w1 S1 H1 D o := by
  cases o with
  | nx ρ' S' => exact fun w' σ' H' s x' => p w' σ' H' s (x.trans x')
  | bk ρ' S' => exact fun w' σ' H' s x' => p w' σ' H' s (x.trans x')
  | ct ρ' S' => exact fun w' σ' H' s x' => p w' σ' H' s (x.trans x')
  | rt d S' => exact fun w' v H' s x' => p w' v H' s (x.trans x')
theorem Sat.set {G : Gc} {w : Wd} {ρ : En} {S : Sto} {σ : L2.St} {H : Hp} {v : V} {d : D} (s : Sat G w ρ S σ H) (hd : Den w S.length v d) (i : Nat) : Sat G w (ρ.set i (some d)) S (σ.set i (some v)) H := by
  refine ⟨s.core, fun j e h => ?_, by rw [List.length_set, List.length_set]; exact s.len, s.code⟩
  by_cases hj : i = j
  · subst hj
    have hl : i < ρ.length := by
      have := (List.getElem?_eq_some_iff.mp h).1
      rwa [List.length_set] at this
    rw [List.getElem?_set_self hl] at h
    cases h
    exact ⟨v, List.getElem?_set_self (by rw [← s.len]; exact hl), hd⟩
  · rw [List.getElem?_set_ne hj] at h
    obtain ⟨u, h1, h2⟩ := s.env j e h
    exact ⟨u, by rw [List.getElem?_set_ne hj]; exact h1, h2⟩

/-! ### what is computed -/
@[simp] def sPass : RS := fun ρ S => some (.nx ρ S)
@[simp] def sBreak : RS := fun ρ S => some (.bk ρ S)
@[simp] def sCont : RS := fun ρ S => some (.ct ρ S)
@[simp] def sSeq (a b : RS) : RS := fun ρ S => match a ρ S with | some (.nx ρ1 S1) => b ρ1 S1 | o => o
@[simp] def sSet (i : Nat) (e : RE) : RS := fun ρ S => match e ρ S with | some (d, S1) => some (.nx (ρ.set i (some d)) S1) | none => none
@[simp] def sExpr (e : RE) : RS := fun ρ S => match e ρ S with | some (_, S1) => some (.nx ρ S1) | none => none
@[simp] def sRet (e : RE) : RS := fun ρ S => match e ρ S with | some (d, S1) => some (.rt d S1) | none => none
@[simp] def sRetN : RS := fun _ S => some (.rt .non S)
@[simp] def sIf (c : RT) (a b : RS) : RS := fun ρ S => match c ρ S with | some (true, S1) => a ρ S1 | some (false, S1) => b ρ S1 | none => none
@[simp] def sAsg (e : RE) (g : RG) : RS := fun ρ S => match e ρ S with
  | some (d, S1) => (match g d ρ S1 with | some (ρ2, S2) => some (.nx ρ2 S2) | none => none)
  | none => none
@[simp] def sPar (i j : Nat) (a : RA) : RS := fun ρ S => match a ρ S with | some ([d, e], S1) => some (.nx ((ρ.set i (some d)).set j (some e)) S1) | _ => none
def sNever : RS := fun _ _ => none
@[simp] def gNm (i : Nat) : RG := fun d ρ S => some (ρ.set i (some d), S)
@[simp] def gsNil : RGs := fun ds ρ S => match ds with | [] => some (ρ, S) | _ => none
@[simp] def gsCons (g : RG) (r : RGs) : RGs := fun ds ρ S => match ds with
  | d :: rest => (match g d ρ S with | some (ρ1, S1) => r rest ρ1 S1 | none => none)
  | [] => none
@[simp] def gTp (n : Nat) (g : RGs) : RG := fun d ρ S => match d with | .tup ds => if ds.length = n then g ds ρ S else none | _ => none
/-- x[i] = v, a list of the store -/
@[simp] def gIx (o i : RE) : RG := fun d ρ S => match o ρ S with
  | some (.obj k, S1) => (match i ρ S1 with
    | some (.int z, S2) => (match S2[k]? with
      | some (.lst xs) => (match ixN xs.length z with | some j => some (ρ, S2.set k (.lst (xs.set j d))) | none => none)
      | _ => none)
    | _ => none)
  | _ => none
/-- loops -/
def whileL (c : RT) (b : RS) : Nat → En → Sto → Option Out
  | 0, _, _ => none
  | n + 1, ρ, S => match c ρ S with
    | some (true, S1) => (match b ρ S1 with
      | some (.nx ρ2 S2) => whileL c b n ρ2 S2
      | some (.ct ρ2 S2) => whileL c b n ρ2 S2
      | some (.bk ρ2 S2) => some (.nx ρ2 S2)
      | o => o)
    | some (false, S1) => some (.nx ρ S1)
    | none => none
@[simp] def sWhile (n : En → Sto → Nat) (c : RT) (b : RS) : RS := fun ρ S => whileL c b (n ρ S) ρ S
section
variable {G : Gc} {X : Cx} {pos : Pos} {e a b c : Expr} {es : List Expr} {te ta tb : RE} {ra : RA} {st : Stmt} {sts sts2 : List Stmt} {t u : RS} {tt : RT}
theorem ds_pass : DS X G (.Pass pos) sPass := ⟨_, ps_pass, fun ρ S o e w σ H s D p => by cases e; exact p w σ H s (Ext.refl ..)⟩
theorem ds_break : DS X G (.Break pos) sBreak := ⟨_, ps_break, fun ρ S o e w σ H s D p => by cases e; exact p w σ H s (Ext.refl ..)⟩
theorem ds_cont : DS X G (.Continue pos) sCont := ⟨_, ps_continue, fun ρ S o e w σ H s D p => by cases e; exact p w σ H s (Ext.refl ..)⟩
theorem ds_never : DS X G st sNever := ⟨_, ps_never, fun ρ S o e w σ H s D p => by cases e⟩
theorem dss_never : DSs X G sts sNever := ⟨_, pss_never, fun ρ S o e w σ H s D p => by cases e⟩
theorem dss_nil : DSs X G [] sPass := ⟨_, pss_nil, fun ρ S o e w σ H s D p => by cases e; exact p w σ H s (Ext.refl ..)⟩
theorem dss_one (h : DS X G st t) : DSs X G [st] t := let ⟨_, p, q⟩ := h; ⟨_, pss_one p, q⟩
theorem dss_cons (h : DS X G st t) (h2 : DSs X G sts u) : DSs X G (st :: sts) (sSeq t u) :=
  let ⟨_, pa, ea⟩ := h; let ⟨_, pb, eb⟩ := h2
  ⟨_, pss_cons pa pb, fun ρ S o e w σ H s D p => by
    unfold sSeq at e
    split at e
    · rename_i ρ1 S1 h1
      exact ea ρ S _ h1 w σ H s _ fun w1 σ1 H1 s1 x1 => eb ρ1 S1 o e w1 σ1 H1 s1 D (p.ext x1)
    · rename_i hno
      refine ea ρ S o e w σ H s _ ?_
      cases o with
      | nx ρ' S' => exact absurd e (hno ρ' S')
      | bk _ _ => exact p
      | ct _ _ => exact p
      | rt _ _ => exact p⟩
theorem ds_expr (h : DE X G e te) (hs : swapsWith e none pos.line X.env = pure false := by rfl) : DS X G (.Expr e pos) (sExpr te) :=
  let ⟨_, pa, ea⟩ := h
  ⟨_, ps_expr pa hs, fun ρ S o e w σ H s D p => by
    unfold sExpr at e
    split at e
    · rename_i d S1 h1
      cases e
      exact ea ρ S d S1 h1 w σ H s _ fun w1 v H1 s1 x1 _ => p w1 σ H1 s1 x1
    · cases e⟩
theorem ds_doc {x : Str} {j : Nat} {pos' : Pos} : DS X G (.Expr (.Constant (.str x) j pos) pos') sPass := ⟨_, ps_doc, fun ρ S o e w σ H s D p => by cases e; exact p w σ H s (Ext.refl ..)⟩
theorem ds_ret (h : DE X G e te) : DS X G (.Return (some e) pos) (sRet te) :=
  let ⟨_, pa, ea⟩ := h
  ⟨_, ps_ret pa, fun ρ S o e w σ H s D p => by
    unfold sRet at e
    split at e
    · rename_i d S1 h1
      cases e
      exact ea ρ S d S1 h1 w σ H s _ fun w1 v H1 s1 x1 d1 => p w1 v H1 s1.core x1 d1
    · cases e⟩
theorem ds_retN : DS X G (.Return none pos) sRetN := ⟨_, ps_retN, fun ρ S o e w σ H s D p => by cases e; exact p w _ H s.core (Ext.refl ..) .non⟩
theorem ds_if (hc : DT X G c tt) (ha : DSs X G sts t) (hb : DSs X G sts2 u) : DS X G (.If c sts sts2 pos) (sIf tt t u) :=
  let ⟨_, pc, ec⟩ := hc; let ⟨_, pa, ea⟩ := ha; let ⟨_, pb, eb⟩ := hb
  ⟨_, ps_if pc pa pb, fun ρ S o e w σ H s D p => by
    unfold sIf at e
    split at e
    · rename_i S1 h1
      exact ec ρ S _ _ h1 w σ H s _ fun w1 H1 s1 x1 => iteT (ea ρ S1 o e w1 σ H1 s1 D (p.ext x1))
    · rename_i S1 h1
      exact ec ρ S _ _ h1 w σ H s _ fun w1 H1 s1 x1 => iteF (eb ρ S1 o e w1 σ H1 s1 D (p.ext x1))
    · cases e⟩
theorem dg_name {i : Nat} {x : Str} (hN : X.N.Nodup) (hi : X.N[i]? = some x) (hx : Loc X.env.scope x) (hf : X.fn x = true ∨ X.env.scope.names.lookup x = some .local) : DG X G (.Name x pos) (gNm i) :=
  ⟨_, pg_name hN hi hx hf, fun d ρ S ρ' S' e w σ H v s hd Q q => by
    unfold gNm at e
    cases e
    exact q w _ H (s.set hd i) (Ext.refl ..)⟩
theorem dgs_nil : DGs X G [] gsNil := ⟨_, pgs_nil, fun ds ρ S ρ' S' e w σ H vs s hd Q q => by
  unfold gsNil at e
  split at e
  · cases e; cases hd; exact ⟨rfl, q w σ H s (Ext.refl ..)⟩
  · cases e⟩
theorem dgs_cons {t1 : RG} {t2 : RGs} (h : DG X G e t1) (h2 : DGs X G es t2) (hs : (assignEach (e :: es) X.env).map (·.2) = assign e X.env :: (assignEach es X.env).map (·.2) := by rfl) : DGs X G (e :: es) (gsCons t1 t2) :=
  let ⟨_, pa, ea⟩ := h; let ⟨_, pb, eb⟩ := h2
  ⟨_, pgs_cons pa pb hs, fun ds ρ S ρ' S' e w σ H vs s hd Q q => by
    unfold gsCons at e
    split at e
    · rename_i d rest
      cases hd with
      | cons hv hr =>
        split at e
        · rename_i ρ1 S1 h1
          exact ⟨_, _, rfl, ea d ρ S ρ1 S1 h1 w σ H _ s hv _ fun w1 σ1 H1 s1 x1 => eb rest ρ1 S1 ρ' S' e w1 σ1 H1 _ s1 (hr.ext x1) Q fun w2 σ2 H2 s2 x2 => q w2 σ2 H2 s2 (x1.trans x2)⟩
        · cases e
    · cases e⟩
theorem dg_tup {k n : Nat} {t1 : RGs} (hc : X.calm = true) (h : DGs X G es t1) (hn : (assignEach es X.env).length = n := by rfl) (hst : (assignEach es X.env).findIdx? (·.1) = none := by rfl) : DG X G (.Tuple es k pos) (gTp n t1) :=
  let ⟨_, pa, ea⟩ := h
  ⟨_, pg_tup hc pa hn hst, fun d ρ S ρ' S' e w σ H v s hd Q q => by
    unfold gTp at e
    split at e
    · rename_i ds
      split at e
      · rename_i hl
        obtain ⟨p, vs, rfl, hp, l⟩ := den_tup hd
        exact ⟨p, vs, rfl, .inl (.inl (s.core.sub _ _ hp)), by rw [l.len]; exact hl, ea ds ρ S ρ' S' e w σ H vs s l Q q⟩
      · cases e
    · cases e⟩
theorem dg_ix (ho : DE X G a ta) (hi : DE X G b tb)
    (hs : ∀ v, assign (.Subscript a b pos) X.env v = (do
      let ov ← holding [v] (eval a X.env)
      let iv ← holding [v, ov] (eval b X.env)
      standAt pos
      holding [v, ov, iv] (setItem ov iv v)
      release [v, ov, iv] []) := by intro _; rfl) : DG X G (.Subscript a b pos) (gIx ta tb) :=
  let ⟨_, pa, ea⟩ := ho; let ⟨_, pb, eb⟩ := hi
  ⟨_, pg_sub pa pb set_list hs, fun d ρ S ρ' S' e w σ H v s hd Q q => by
    unfold gIx at e
    split at e
    · rename_i k S1 h1
      split at e
      · rename_i z S2 h2
        split at e
        · rename_i xs h3
          split at e
          · rename_i j h4
            cases e
            refine ea ρ S _ _ h1 w σ H s _ fun w1 o H1 s1 x1 d1 => eb ρ S1 _ _ h2 w1 σ H1 s1 _ fun w2 iv H2 s2 x2 d2 => ?_
            have d1' := d1.ext x2
            obtain ⟨_, _, vs, hv, l⟩ := s2.core.cel _ _ h3
            have hdv := hd.ext (x1.trans x2)
            cases d1' with
            | obj hk =>
              refine ⟨_, vs, z, j, rfl, den_int d2, hv, by rw [l.len]; exact h4, ?_⟩
              obtain ⟨c3, x3⟩ := s2.core.setL h3 (l.set hdv j)
              exact q w2 σ _ (s2.ofCore c3 x3) ((x1.trans x2).trans x3)
          · cases e
        · cases e
      · cases e
    · cases e⟩
theorem ds_asg {tg : Expr} {g : RG} (he : DE X G e te) (hg : DG X G tg g) (hs : swapsWithSole [tg] e pos.line X.env = pure false := by rfl) (hw : swappedStores [tg] e X.env = pure none := by rfl)
    (h1 : (assignEach [tg] X.env).map (·.2) = [assign tg X.env] := by rfl) : DS X G (.Assign [tg] e pos) (sAsg te g) :=
  let ⟨_, pa, ea⟩ := he; let ⟨_, pb, eb⟩ := hg
  ⟨_, ps_asg pa pb hs hw h1, fun ρ S o e w σ H s D p => by
    unfold sAsg at e
    split at e
    · rename_i d S1 h1
      split at e
      · rename_i ρ2 S2 h2
        cases e
        exact ea ρ S d S1 h1 w σ H s _ fun w1 v H1 s1 x1 d1 => eb d ρ S1 ρ2 S2 h2 w1 σ H1 v s1 d1 _ fun w2 σ2 H2 s2 x2 => p w2 σ2 H2 s2 (x1.trans x2)
      · cases e
    · cases e⟩
theorem ds_set {i : Nat} {x : Str} {pos' : Pos} (hN : X.N.Nodup) (hi : X.N[i]? = some x) (hx : Loc X.env.scope x) (he : DE X G e te) (hs : swapsWith e (some (.Name x pos')) pos.line X.env = pure false) (hf : X.fn x = true ∨ X.env.scope.names.lookup x = some .local) :
    DS X G (.Assign [.Name x pos'] e pos) (sSet i te) :=
  let ⟨_, pa, ea⟩ := he
  ⟨_, ps_set hN hi hx pa hs hf, fun ρ S o e w σ H s D p => by
    unfold sSet at e
    split at e
    · rename_i d S1 h1
      cases e
      exact ea ρ S d S1 h1 w σ H s _ fun w1 v H1 s1 x1 d1 => p w1 _ H1 (s1.set d1 i) x1
    · cases e⟩
theorem ds_par {i j : Nat} {x y : Str} {px py pt : Pos} {kt k2 : Nat} {pt2 : Pos} (hc : X.calm = true) (hN : X.N.Nodup) (hi : X.N[i]? = some x) (hj : X.N[j]? = some y) (hij : i ≠ j)
    (hx : X.env.scope.names.lookup x = some .local) (hy : X.env.scope.names.lookup y = some .local) (ha : DA X G [a, b] ra)
    (hw : swappedStores [.Tuple [.Name x px, .Name y py] kt pt] (.Tuple [a, b] k2 pt2) X.env = pure (some [x, y]))
    (hs : swapsWithSole [.Tuple [.Name x px, .Name y py] kt pt] (.Tuple [a, b] k2 pt2) pos.line X.env = pure false := by rfl) :
    DS X G (.Assign [.Tuple [.Name x px, .Name y py] kt pt] (.Tuple [a, b] k2 pt2) pos) (sPar i j ra) :=
  let ⟨_, pa, ea⟩ := ha
  ⟨_, ps_par hc hN hi hj hij hx hy pa hw hs, fun ρ S o e w σ H s D p => by
    unfold sPar at e
    split at e
    · rename_i d d2 S1 h1
      cases e
      refine ea ρ S _ _ h1 w σ H s _ fun w1 vs H1 s1 x1 d1 => ?_
      obtain ⟨v, u, rfl, hv, hu⟩ := denL2 d1
      exact ⟨v, u, rfl, p w1 _ H1 ((s1.set hv i).set hu j) x1⟩
    · cases e⟩
theorem ds_while {n : En → Sto → Nat} (hp : PassesOwn (model X.prog X.w) X.A X.env X.xe) (hc : DT X G c tt) (hb : DSs X G sts t) : DS X G (.While c sts [] pos) (sWhile n tt t) :=
  let ⟨_, pc, ec⟩ := hc; let ⟨_, pb, eb⟩ := hb
  ⟨_, ps_while hp pc pb, fun ρ0 S0 o e w0 σ0 H0 s0 D p => by
    unfold sWhile at e
    refine ⟨fun m σ H => ∃ w ρ S, Sat G w ρ S σ H ∧ Ext w0 S0 H0 w S H ∧ whileL tt t m ρ S = some o, ⟨n ρ0 S0, w0, ρ0, S0, s0, Ext.refl .., e⟩, fun m σ H ⟨w, ρ, S, s, x, e⟩ => ?_⟩
    cases m with
    | zero => unfold whileL at e; cases e
    | succ m =>
      unfold whileL at e
      split at e
      · rename_i S1 h1
        refine ec ρ S _ _ h1 w σ H s _ fun w1 H1 s1 x1 => iteT ⟨fun σ' H' => ∃ w ρ S, Sat G w ρ S σ' H' ∧ Ext w0 S0 H0 w S H' ∧ whileL tt t m ρ S = some o, fun σ' H' ⟨w', ρ', S', q1, q2, q3⟩ => ⟨m, Nat.lt_succ_self m, w', ρ', S', q1, q2, q3⟩, ?_⟩
        split at e
        · rename_i ρ2 S2 h2
          exact eb ρ S1 _ h2 w1 σ H1 s1 _ fun w2 σ2 H2 s2 x2 => ⟨w2, ρ2, S2, s2, (x.trans x1).trans x2, e⟩
        · rename_i ρ2 S2 h2
          exact eb ρ S1 _ h2 w1 σ H1 s1 _ fun w2 σ2 H2 s2 x2 => ⟨w2, ρ2, S2, s2, (x.trans x1).trans x2, e⟩
        · rename_i ρ2 S2 h2
          cases e
          exact eb ρ S1 _ h2 w1 σ H1 s1 _ fun w2 σ2 H2 s2 x2 => p w2 σ2 H2 s2 ((x.trans x1).trans x2)
        · rename_i h2 h3 h4
          refine eb ρ S1 o e w1 σ H1 s1 _ ?_
          cases o with
          | nx ρ' S' => exact absurd e (h2 ρ' S')
          | bk ρ' S' => exact absurd e (h4 ρ' S')
          | ct ρ' S' => exact absurd e (h3 ρ' S')
          | rt d S' => exact p.ext (x.trans x1)
      · rename_i S1 h1
        cases e
        exact ec ρ S _ _ h1 w σ H s _ fun w1 H1 s1 x1 => iteF (p w1 σ H1 s1 (x.trans x1))
      · cases e⟩
end
end DL

set_option maxRecDepth 100000
set_option maxHeartbeats 4000000
set_option pp.maxSteps 900
namespace DL
open PySem PySem.Spec PyProof.Rows L2 GX
open Classical

abbrev RI := En → Sto → Option (List D × (Sto → Prop) × Sto)
/-- what is walked hands out ds -/
def JD (G : Gc) (J : It) (ds : List D) (w : Wd) (n : Nat) (chk : Sto → Prop) : Prop := ∀ (i : Nat) (w1 : Wd) (S1 : Sto) (H1 : Hp), Core G w1 S1 H1 → (∀ a o, w.fr a = some o → w1.fr a = some o) → (∀ k, k < n → w1.al k = w.al k) → n ≤ S1.length → chk S1 →
  (i = ds.length → J.stop i H1) ∧ ∀ d, ds[i]? = some d → J.go i H1 ∧ ∀ x H2, J.yld i H1 x H2 → ∃ w2, Core G w2 S1 H2 ∧ Ext w1 S1 H1 w2 S1 H2 ∧ Den w2 S1.length x d
def EvI (G : Gc) (wi : TI) (t : RI) : Prop := ∀ (ρ : En) (S : Sto) (ds : List D) (chk : Sto → Prop) (S' : Sto), t ρ S = some (ds, chk, S') → ∀ (w : Wd) (σ : L2.St) (H : Hp), Sat G w ρ S σ H → ∀ R : It → Hp → Prop,
  (∀ J w' H', Sat G w' ρ S' σ H' → Ext w S H w' S' H' → JD G J ds w' S'.length chk → chk S' → R J H') → wi σ H R
def DI (X : Cx) (G : Gc) (tg iter : Expr) (t : RI) : Prop := ∃ wi, PI X tg iter wi ∧ EvI G wi t

noncomputable def forL (g : RG) (b : RS) (chk : Sto → Prop) : List D → En → Sto → Option Out
  | [], ρ, S => some (.nx ρ S)
  | d :: ds, ρ, S => match g d ρ S with
    | some (ρ1, S1) => (match b ρ1 S1 with
      | some (.nx ρ2 S2) => if chk S2 then forL g b chk ds ρ2 S2 else none
      | some (.ct ρ2 S2) => if chk S2 then forL g b chk ds ρ2 S2 else none
      | some (.bk ρ2 S2) => some (.nx ρ2 S2)
      | o => o)
    | none => none
@[simp] noncomputable def sFor (it : RI) (g : RG) (b : RS) : RS := fun ρ S => match it ρ S with | some (ds, chk, S1) => forL g b chk ds ρ S1 | none => none
theorem JD.next {G : Gc} {J : It} {ds : List D} {w0 w1 : Wd} {S0 S1 : Sto} {H0 H1 : Hp} {chk : Sto → Prop} (j : JD G J ds w0 S0.length chk) (x : Ext w0 S0 H0 w1 S1 H1) (c : Core G w1 S1 H1) (hc : chk S1) (i : Nat) :
    (i = ds.length → J.stop i H1) ∧ ∀ d, ds[i]? = some d → J.go i H1 ∧ ∀ x H2, J.yld i H1 x H2 → ∃ w2, Core G w2 S1 H2 ∧ Ext w1 S1 H1 w2 S1 H2 ∧ Den w2 S1.length x d := j i w1 S1 H1 c x.fr x.al x.sz hc
section
variable {G : Gc} {X : Cx} {pos : Pos} {e a b c tg iter : Expr} {es : List Expr} {te ta tb : RE} {ra : RA} {st : Stmt} {sts sts2 : List Stmt} {t u : RS} {tt : RT} {g : RG} {ri : RI}
theorem ds_for (hp : PassesOwn (model X.prog X.w) X.A X.env X.xe) (hc : X.calm = true) (hs : ∀ x, foldedSetIterable iter X.env x = pure x) (hi : DI X G tg iter ri) (hg : DG X G tg g) (hb : DSs X G sts t) : DS X G (.For tg iter sts [] pos) (sFor ri g t) :=
  let ⟨_, pi, ei⟩ := hi; let ⟨_, pg, eg⟩ := hg; let ⟨_, pb, eb⟩ := hb
  ⟨_, ps_for hp hc pi pg pb (hs := hs), fun ρ0 S0 o e w0 σ0 H0 s0 D p => by
    unfold sFor at e
    split at e
    · rename_i ds chk S1 h1
      refine ei ρ0 S0 ds chk S1 h1 w0 σ0 H0 s0 _ fun J w1 H1 s1 x1 jd hck => ?_
      refine ⟨fun i m σ H => ∃ w ρ S, Sat G w ρ S σ H ∧ Ext w1 S1 H1 w S H ∧ chk S ∧ i + m = ds.length ∧ forL g t chk (ds.drop i) ρ S = some o, ⟨ds.length, w1, ρ0, S1, s1, Ext.refl .., hck, Nat.zero_add _, e⟩, fun i m σ H ⟨w, ρ, S, s, x, hc, hm, e⟩ => ?_⟩
      obtain ⟨hstop, hgo⟩ := jd.next x s.core hc i
      cases m with
      | zero =>
        have hi : i = ds.length := by omega
        rw [hi, List.drop_length] at e
        unfold forL at e
        cases e
        exact .inl ⟨hstop hi, p w σ H s (x1.trans x)⟩
      | succ m =>
        have hil : i < ds.length := by omega
        rw [List.drop_eq_getElem_cons hil] at e
        obtain ⟨go, hy⟩ := hgo ds[i] (List.getElem?_eq_getElem hil)
        unfold forL at e
        refine .inr ⟨go, fun σ' H' => ∃ w ρ S, Sat G w ρ S σ' H' ∧ Ext w1 S1 H1 w S H' ∧ chk S ∧ forL g t chk (ds.drop (i + 1)) ρ S = some o, fun σ' H' ⟨w', ρ', S', q1, q2, q3, q4⟩ => ⟨m, Nat.lt_succ_self m, w', ρ', S', q1, q2, q3, by omega, q4⟩, fun v H2 hyld => ?_⟩
        obtain ⟨w2, c2, x2, d2⟩ := hy v H2 hyld
        split at e
        · rename_i ρ1 S2 h2
          refine eg ds[i] ρ S ρ1 S2 h2 w2 σ H2 v (s.ofCore c2 x2) d2 _ fun w3 σ3 H3 s3 x3 => ?_
          split at e
          · rename_i ρ2 S3 h3
            split at e
            · rename_i hck3
              exact eb ρ1 S2 _ h3 w3 σ3 H3 s3 _ fun w4 σ4 H4 s4 x4 => ⟨w4, ρ2, S3, s4, ((x.trans x2).trans x3).trans x4, hck3, e⟩
            · cases e
          · rename_i ρ2 S3 h3
            split at e
            · rename_i hck3
              exact eb ρ1 S2 _ h3 w3 σ3 H3 s3 _ fun w4 σ4 H4 s4 x4 => ⟨w4, ρ2, S3, s4, ((x.trans x2).trans x3).trans x4, hck3, e⟩
            · cases e
          · rename_i ρ2 S3 h3
            cases e
            exact eb ρ1 S2 _ h3 w3 σ3 H3 s3 _ fun w4 σ4 H4 s4 x4 => p w4 σ4 H4 s4 (((x1.trans (x.trans x2)).trans x3).trans x4)
          · rename_i h3 h4 h5
            refine eb ρ1 S2 o e w3 σ3 H3 s3 _ ?_
            cases o with
            | nx ρ' S' => exact absurd e (h3 ρ' S')
            | bk ρ' S' => exact absurd e (h5 ρ' S')
            | ct ρ' S' => exact absurd e (h4 ρ' S')
            | rt d S' => exact p.ext ((x1.trans (x.trans x2)).trans x3)
        · cases e
    · cases e⟩

/-! ### what is walked: a sequence, a range -/
def iSeqT (K : PySem.W.Frag) (tl : TE) : TI := fun σ H R => tl σ H fun x H1 => ∃ a, x = .ref a ∧ (((∃ xs, SqL K H1 a xs) ∧ R (Itl K a) H1) ∨ ((∃ xs, SqT K H1 a xs) ∧ R (Itt K a) H1))
theorem pi_seqA {l : Expr} {tl : TE} (hl : PE X l tl) : PI X tg l (iSeqT X.K tl) := by
  refine ⟨fun pins s σ H R I h => ?_⟩
  refine thn (hl.run pins s σ H _ I h) fun v s1 ⟨x, H1, I1, r1, q1⟩ => ?_
  obtain ⟨a, e, q1⟩ := q1
  subst e
  cases r1
  rcases q1 with ⟨⟨xs, hq⟩, q⟩ | ⟨⟨xs, hq⟩, q⟩
  · obtain ⟨its, rv, p, hz⟩ := I1.list hq
    refine wpAny_pyIter_list p.isList ?_
    refine ⟨s1.heap.objs.size, [s1.heap.objs.size], _, _, H1, rfl, I1.kept (t' := s1.toks) fun b o e => Heap.get?_push_of_some _ e, turn_list a _, ⟨_, Heap.get?_push_size _ rfl, rfl, rfl⟩, fun b hb => ?_, q⟩
    have e : b = s1.heap.objs.size := by simpa using hb
    subst e
    exact I1.fpOk (Nat.le_refl _) (I1.hok.fresh (Nat.le_refl _))
  · obtain ⟨its, rv, p, hz⟩ := I1.tuple hq
    refine wpAny_pyIter_tuple (show s1.heap.IsTuple a its.toArray from p) ?_
    refine ⟨s1.heap.objs.size, [s1.heap.objs.size], _, _, H1, rfl, I1.kept (t' := s1.toks) fun b o e => Heap.get?_push_of_some _ e, turn_tuple a _, ⟨_, Heap.get?_push_size _ rfl, rfl, rfl⟩, fun b hb => ?_, q⟩
    have e : b = s1.heap.objs.size := by simpa using hb
    subst e
    exact I1.fpOk (Nat.le_refl _) (I1.hok.fresh (Nat.le_refl _))
/-- the list of the store is as it was -/
def chkD (d : D) (xs : List D) : Sto → Prop := fun S => seqD d S = some xs
@[simp] def iSeq (a : RE) : RI := fun ρ S => match a ρ S with
  | some (d, S1) => (match d with
    | .tup xs => some (xs, fun _ => True, S1)
    | .lst xs => some (xs, fun _ => True, S1)
    | .scr xs => some (xs, fun _ => True, S1)
    | .obj k => (match S1[k]? with | some (.lst xs) => some (xs, fun S => S[k]? = some (.lst xs), S1) | _ => none)
    | _ => none)
  | none => none
theorem jd_l {K : PySem.W.Frag} {w : Wd} {n : Nat} {a : Addr} {ds : List D} {chk : Sto → Prop}
    (h : ∀ (w1 : Wd) (S1 : Sto) (H1 : Hp), Core G w1 S1 H1 → (∀ a o, w.fr a = some o → w1.fr a = some o) → (∀ k, k < n → w1.al k = w.al k) → n ≤ S1.length → chk S1 → ∃ vs, SqL K H1 a vs ∧ DenL w1 S1.length vs ds) : JD G (Itl K a) ds w n chk := by
  intro i w1 S1 H1 c hf ha hn hk
  obtain ⟨vs, hq, l⟩ := h w1 S1 H1 c hf ha hn hk
  refine ⟨fun hi => ⟨vs, hq, by rw [l.len]; omega⟩, fun d hd => ?_⟩
  obtain ⟨v, hv, dv⟩ := l.get hd
  refine ⟨⟨vs, v, hq, hv⟩, fun x H2 ⟨e, hx⟩ => ?_⟩
  subst e
  have := hx vs hq
  rw [hv] at this
  cases this
  exact ⟨w1, c, Ext.refl .., dv⟩
theorem jd_t {K : PySem.W.Frag} {w : Wd} {n : Nat} {a : Addr} {ds : List D} {chk : Sto → Prop}
    (h : ∀ (w1 : Wd) (S1 : Sto) (H1 : Hp), Core G w1 S1 H1 → (∀ a o, w.fr a = some o → w1.fr a = some o) → (∀ k, k < n → w1.al k = w.al k) → n ≤ S1.length → chk S1 → ∃ vs, SqT K H1 a vs ∧ DenL w1 S1.length vs ds) : JD G (Itt K a) ds w n chk := by
  intro i w1 S1 H1 c hf ha hn hk
  obtain ⟨vs, hq, l⟩ := h w1 S1 H1 c hf ha hn hk
  refine ⟨fun hi => ⟨vs, hq, by rw [l.len]; omega⟩, fun d hd => ?_⟩
  obtain ⟨v, hv, dv⟩ := l.get hd
  refine ⟨⟨vs, v, hq, hv⟩, fun x H2 ⟨e, hx⟩ => ?_⟩
  subst e
  have := hx vs hq
  rw [hv] at this
  cases this
  exact ⟨w1, c, Ext.refl .., dv⟩
theorem di_seq (ha : DE X G a ta) : DI X G tg a (iSeq ta) :=
  let ⟨_, pa, ea⟩ := ha
  ⟨_, pi_seqA pa, fun ρ S ds chk S' e w σ H s R q => by
    unfold iSeq at e
    split at e
    · rename_i d S1 h1
      refine ea ρ S d S1 h1 w σ H s _ fun w1 v H1 s1 x1 d1 => ?_
      split at e
      · rename_i xs
        cases e
        obtain ⟨p, vs, rfl, hp, l⟩ := den_tup d1
        exact ⟨p, rfl, .inr ⟨⟨vs, .inl (.inl (s1.core.sub _ _ hp))⟩, q _ w1 H1 s1 x1 (jd_t fun w2 S2 H2 c2 hf ha hn _ => ⟨vs, .inl (.inl (c2.sub _ _ (hf _ _ hp))), l.mono hf ha hn⟩) trivial⟩⟩
      · rename_i xs
        cases e
        obtain ⟨p, vs, rfl, hp, l⟩ := den_lst d1
        exact ⟨p, rfl, .inl ⟨⟨vs, .inl (.inl (s1.core.sub _ _ hp))⟩, q _ w1 H1 s1 x1 (jd_l fun w2 S2 H2 c2 hf ha hn _ => ⟨vs, .inl (.inl (c2.sub _ _ (hf _ _ hp))), l.mono hf ha hn⟩) trivial⟩⟩
      · rename_i xs
        cases e
        cases d1 with
        | scr hp l =>
          exact ⟨_, rfl, .inl ⟨⟨_, .inl (rd_sub s1.core.sub hp)⟩, q _ w1 H1 s1 x1 (jd_l fun w2 S2 H2 c2 hf ha hn _ => ⟨_, .inl (rd_sub c2.sub (rd_sub hf hp)), l.mono hf ha hn⟩) trivial⟩⟩
      · rename_i k
        split at e
        · rename_i xs hk
          cases e
          obtain ⟨_, _, vs, hv, l⟩ := s1.core.cel _ _ hk
          cases d1 with
          | obj hkl =>
            refine ⟨_, rfl, .inl ⟨⟨vs, .inl (.inl hv)⟩, q _ w1 H1 s1 x1 (jd_l fun w2 S2 H2 c2 hf ha hn hck => ?_) hk⟩⟩
            obtain ⟨_, _, vs2, hv2, l2⟩ := c2.cel _ _ hck
            rw [ha k hkl] at hv2
            exact ⟨vs2, .inl (.inl hv2), l2⟩
        · cases e
      · cases e
    · cases e⟩
def rangeD (lo : Int) (n : Nat) : List D := (List.range n).map fun i => .int (lo + (i : Nat))
theorem jd_r {w : Wd} {n m : Nat} {lo : Int} : JD G (Itr lo m) (rangeD lo m) w n (fun _ => True) := by
  intro i w1 S1 H1 c hf ha hn hk
  have ln : (rangeD lo m).length = m := by simp [rangeD]
  refine ⟨fun hi => by show m ≤ i; omega, fun d hd => ?_⟩
  have hi : i < m := by rw [← ln]; exact (List.getElem?_eq_some_iff.mp hd).1
  refine ⟨hi, fun x H2 ⟨e, hx⟩ => ?_⟩
  subst e hx
  have : (rangeD lo m)[i]? = some (.int (lo + (i : Nat))) := by simp [rangeD, hi]
  rw [this] at hd
  cases hd
  exact ⟨w1, c, Ext.refl .., .int _⟩
@[simp] def iRange1 (a : RE) : RI := fun ρ S => match a ρ S with
  | some (.int j, S1) => if -(2 ^ 62) ≤ j ∧ j < 2 ^ 62 then some (rangeD 0 j.toNat, fun _ => True, S1) else none
  | _ => none
@[simp] def iRange2 (a b : RE) : RI := fun ρ S => match a ρ S with
  | some (.int i, S1) => (match b ρ S1 with
    | some (.int j, S2) => if -(2 ^ 62) ≤ i ∧ i < 2 ^ 62 ∧ -(2 ^ 62) ≤ j ∧ j < 2 ^ 62 then some (rangeD i (j - i).toNat, fun _ => True, S2) else none
    | _ => none)
  | _ => none
theorem di_range1 {p : Pos} (hm : X.mg "range" = none) (ha : DE X G a ta) (hg : Gl X "range" := by rfl) (hs : starEach [a] X.env = [(false, eval a X.env)] := by rfl) : DI X G tg (.Call (.Name "range" p) [a] [] pos) (iRange1 ta) :=
  let ⟨_, pa, ea⟩ := da_cons ha da_nil hs
  ⟨_, pi_range1 hg hm pa hs, fun ρ S ds chk S' e w σ H s R q => by
    unfold iRange1 at e
    split at e
    · rename_i j S1 h1
      split at e
      · rename_i hj
        cases e
        refine ea ρ S [.int j] S' (by simp only [aCons, h1, aNil]) w σ H s _ fun w1 vs H1 s1 x1 d1 => ?_
        obtain ⟨v, rfl, hv⟩ := denL1 d1
        cases den_int hv
        exact ⟨j, rfl, hj.1, hj.2, q _ w1 H1 s1 x1 jd_r trivial⟩
      · cases e
    · cases e⟩
theorem di_range2 {p : Pos} (hm : X.mg "range" = none) (ha : DE X G a ta) (hb : DE X G b tb) (hg : Gl X "range" := by rfl) (hs : starEach [a, b] X.env = [(false, eval a X.env), (false, eval b X.env)] := by rfl) (hs2 : starEach [b] X.env = [(false, eval b X.env)] := by rfl) :
    DI X G tg (.Call (.Name "range" p) [a, b] [] pos) (iRange2 ta tb) :=
  let ⟨_, pa, ea⟩ := da_cons ha (da_cons hb da_nil hs2) (by rw [hs, hs2])
  ⟨_, pi_range2 hg hm pa hs hs2, fun ρ S ds chk S' e w σ H s R q => by
    unfold iRange2 at e
    split at e
    · rename_i i S1 h1
      split at e
      · rename_i j S2 h2
        split at e
        · rename_i hj
          cases e
          refine ea ρ S [.int i, .int j] S' (by simp only [aCons, h1, h2, aNil]) w σ H s _ fun w1 vs H1 s1 x1 d1 => ?_
          obtain ⟨v, u, rfl, hv, hu⟩ := denL2 d1
          cases den_int hv; cases den_int hu
          exact ⟨i, j, rfl, hj, q _ w1 H1 s1 x1 jd_r trivial⟩
        · cases e
      · cases e
    · cases e⟩

/-! ### comprehensions -/
@[simp] def wipeD (ρ : En) : List Nat → En
  | [] => ρ
  | v :: vs => (wipeD ρ vs).set v none
theorem Sat.wipe {w : Wd} {ρ : En} {S : Sto} {σ : L2.St} {H : Hp} (s : Sat G w ρ S σ H) : ∀ vs : List Nat, Sat G w (wipeD ρ vs) S (L2.wipe σ vs) H
  | [] => s
  | v :: vs => by
    have ih := s.wipe vs
    refine ⟨ih.core, fun j e h => ?_, by show ((wipeD ρ vs).set v none).length = ((L2.wipe σ vs).set v none).length; rw [List.length_set, List.length_set]; exact ih.len, ih.code⟩
    have h : ((wipeD ρ vs).set v none)[j]? = some (some e) := h
    by_cases hj : v = j
    · subst hj
      by_cases hl : v < (wipeD ρ vs).length
      · rw [List.getElem?_set_self hl] at h; cases h
      · rw [List.getElem?_eq_none (by rw [List.length_set]; omega)] at h; cases h
    · rw [List.getElem?_set_ne hj] at h
      obtain ⟨u, h1, h2⟩ := ih.env j e h
      exact ⟨u, by show ((L2.wipe σ vs).set v none)[j]? = _; rw [List.getElem?_set_ne hj]; exact h1, h2⟩
/-- the items, from the wiped environment -/
noncomputable def compL (g : RG) (c : RT) (e : RE) (chk : Sto → Prop) (ρ : En) : List D → Sto → Option (List D × Sto)
  | [], S => some ([], S)
  | d :: ds, S => match g d ρ S with
    | some (ρ1, S1) => (match c ρ1 S1 with
      | some (true, S2) => (match e ρ1 S2 with
        | some (y, S3) => if chk S3 then (match compL g c e chk ρ ds S3 with | some (ys, S4) => some (y :: ys, S4) | none => none) else none
        | none => none)
      | some (false, S2) => if chk S2 then compL g c e chk ρ ds S2 else none
      | none => none)
    | none => none
/-- a target stores within the given places -/
def GIn (g : RG) (vs : List Nat) : Prop := ∀ d ρ S ρ' S', g d ρ S = some (ρ', S') → wipeD ρ' vs = wipeD ρ vs ∧ ρ'.length = ρ.length
@[simp] def tYesD : RT := fun _ S => some (true, S)
def DTs (X : Cx) (G : Gc) (ifs : List Expr) (t : RT) : Prop := ∃ tt, PTs X ifs tt ∧ EvT G tt t
theorem dts_nil : DTs X G [] tYesD := ⟨_, pts_nil, fun ρ S b S' e w σ H s Q q => by cases e; exact q w H s (Ext.refl ..)⟩
theorem dts_one (h : DT X G c tt) : DTs X G [c] tt := let ⟨_, p, q⟩ := h; ⟨_, pts_one p, q⟩
end
end DL

set_option maxRecDepth 100000
set_option maxHeartbeats 4000000
set_option pp.maxSteps 900
namespace DL
open PySem PySem.Spec PyProof.Rows L2 GX
open Classical

def teOf (G : Gc) (t : RE) : TE := fun σ H Q => ∃ ρ S d S' w, t ρ S = some (d, S') ∧ Sat G w ρ S σ H ∧ ∀ w' v H', Sat G w' ρ S' σ H' → Ext w S H w' S' H' → Den w' S'.length v d → Q v H'
def ttOf (G : Gc) (t : RT) : TT := fun σ H Q => ∃ ρ S b S' w, t ρ S = some (b, S') ∧ Sat G w ρ S σ H ∧ ∀ w' H', Sat G w' ρ S' σ H' → Ext w S H w' S' H' → Q b H'
def tiOf (G : Gc) (t : RI) : TI := fun σ H R => ∃ ρ S ds chk S' w, t ρ S = some (ds, chk, S') ∧ Sat G w ρ S σ H ∧ ∀ J w' H', Sat G w' ρ S' σ H' → Ext w S H w' S' H' → JD G J ds w' S'.length chk → chk S' → R J H'
def EvGw (G : Gc) (vs : List Nat) (g : TG) (t : RG) : Prop := ∀ (d : D) (ρ : En) (S : Sto) (ρ' : En) (S' : Sto), t d ρ S = some (ρ', S') → ∀ (w : Wd) (σ : L2.St) (H : Hp) (v : V), Sat G w ρ S σ H → Den w S.length v d → ∀ Q : L2.St → Hp → Prop,
  (∀ w' σ' H', L2.wipe σ' vs = L2.wipe σ vs → Sat G w' ρ' S' σ' H' → Ext w S H w' S' H' → Q σ' H') → g v σ H Q
def DGw (X : Cx) (G : Gc) (vs : List Nat) (tg : Expr) (t : RG) : Prop := ∃ g, PG X tg g ∧ EvGw G vs g t
def EvGsw (G : Gc) (vs : List Nat) (g : TGs) (t : RGs) : Prop := ∀ (ds : List D) (ρ : En) (S : Sto) (ρ' : En) (S' : Sto), t ds ρ S = some (ρ', S') → ∀ (w : Wd) (σ : L2.St) (H : Hp) (us : List V), Sat G w ρ S σ H → DenL w S.length us ds → ∀ Q : L2.St → Hp → Prop,
  (∀ w' σ' H', L2.wipe σ' vs = L2.wipe σ vs → Sat G w' ρ' S' σ' H' → Ext w S H w' S' H' → Q σ' H') → g us σ H Q
def DGsw (X : Cx) (G : Gc) (vs : List Nat) (tgs : List Expr) (t : RGs) : Prop := ∃ g, PGs X tgs g ∧ EvGsw G vs g t
def tgOf (G : Gc) (vs : List Nat) (t : RG) : TG := fun v σ H Q => ∃ d ρ S ρ' S' w, t d ρ S = some (ρ', S') ∧ Sat G w ρ S σ H ∧ Den w S.length v d ∧ ∀ w' σ' H', L2.wipe σ' vs = L2.wipe σ vs → Sat G w' ρ' S' σ' H' → Ext w S H w' S' H' → Q σ' H'
section
variable {G : Gc} {X : Cx} {pos : Pos} {e a b c tg iter : Expr} {es : List Expr} {te ta tb : RE} {ri : RI} {tt : RT} {g : RG} {vs : List Nat}
theorem ev_of : Ev G (teOf G te) te := fun ρ S d S' e w σ H s Q q => ⟨ρ, S, d, S', w, e, s, q⟩
theorem evt_of : EvT G (ttOf G tt) tt := fun ρ S d S' e w σ H s Q q => ⟨ρ, S, d, S', w, e, s, q⟩
theorem evi_of : EvI G (tiOf G ri) ri := fun ρ S ds chk S' e w σ H s R q => ⟨ρ, S, ds, chk, S', w, e, s, q⟩
theorem evg_of : EvGw G vs (tgOf G vs g) g := fun d ρ S ρ' S' e w σ H v s hd Q q => ⟨d, ρ, S, ρ', S', w, e, s, hd, q⟩
theorem DE.pe (h : DE X G e te) : PE X e (teOf G te) := let ⟨_, p, ev⟩ := h; ⟨fun pins s σ H Q I ⟨ρ, S, d, S', w, e, st, q⟩ => p.run pins s σ H Q I (ev ρ S d S' e w σ H st Q q)⟩
theorem DTs.pts {ifs : List Expr} (h : DTs X G ifs tt) : PTs X ifs (ttOf G tt) := let ⟨_, p, ev⟩ := h; ⟨fun pins s σ H Q I ⟨ρ, S, d, S', w, e, st, q⟩ => p.run pins s σ H Q I (ev ρ S d S' e w σ H st Q q)⟩
theorem DI.pi (h : DI X G tg iter ri) : PI X tg iter (tiOf G ri) := let ⟨_, p, ev⟩ := h; ⟨fun pins s σ H R I ⟨ρ, S, ds, chk, S', w, e, st, q⟩ => p.run pins s σ H R I (ev ρ S ds chk S' e w σ H st R q)⟩
theorem DGw.pg (h : DGw X G vs tg g) : PG X tg (tgOf G vs g) := let ⟨_, p, ev⟩ := h; ⟨fun pins s σ H v u Q I r ⟨d, ρ, S, ρ', S', w, e, st, hd, q⟩ => p.run pins s σ H v u Q I r (ev d ρ S ρ' S' e w σ H v st hd Q q)⟩

theorem wipe_in {σ : L2.St} {j : Nat} : ∀ {vs : List Nat}, j ∈ vs → (L2.wipe σ vs)[j]? = if j < σ.length then some none else none
  | v :: vs, h => by
    show ((L2.wipe σ vs).set v none)[j]? = _
    by_cases hj : v = j
    · subst hj
      by_cases hl : v < σ.length
      · rw [List.getElem?_set_self (by rw [L2.wipe_length]; exact hl), if_pos hl]
      · rw [List.getElem?_eq_none (by rw [List.length_set, L2.wipe_length]; omega), if_neg hl]
    · rw [List.getElem?_set_ne hj]
      have h : j ∈ vs := by
        rcases List.mem_cons.mp h with z | z
        · exact absurd z.symm hj
        · exact z
      exact wipe_in h
theorem wipe_congr {σ σ' : L2.St} (hl : σ'.length = σ.length) (h : ∀ j, j ∉ vs → σ'[j]? = σ[j]?) : L2.wipe σ' vs = L2.wipe σ vs := by
  apply List.ext_getElem?
  intro j
  by_cases hj : j ∈ vs
  · rw [wipe_in hj, wipe_in hj, hl]
  · rw [L2.wipe_out hj, L2.wipe_out hj]; exact h j hj
theorem wipe_set {σ : L2.St} {i : Nat} {x : Option V} (hi : i ∈ vs) : L2.wipe (σ.set i x) vs = L2.wipe σ vs :=
  wipe_congr List.length_set fun j hj => List.getElem?_set_ne fun z => hj (by rw [← z]; exact hi)
theorem wipe_wipe {σ : L2.St} : L2.wipe (L2.wipe σ vs) vs = L2.wipe σ vs :=
  wipe_congr (L2.wipe_length σ vs) fun j hj => L2.wipe_out hj
theorem dgw_name {i : Nat} {x : Str} (hN : X.N.Nodup) (hi : X.N[i]? = some x) (hx : Loc X.env.scope x) (hf : X.fn x = true ∨ X.env.scope.names.lookup x = some .local) (hm : i ∈ vs) : DGw X G vs (.Name x pos) (gNm i) :=
  ⟨_, pg_name hN hi hx hf, fun d ρ S ρ' S' e w σ H v s hd Q q => by
    unfold gNm at e
    cases e
    exact q w _ H (wipe_set hm) (s.set hd i) (Ext.refl ..)⟩
theorem dgsw_nil : DGsw X G vs [] gsNil := ⟨_, pgs_nil, fun ds ρ S ρ' S' e w σ H us s hd Q q => by
  unfold gsNil at e
  split at e
  · cases e; cases hd; exact ⟨rfl, q w σ H rfl s (Ext.refl ..)⟩
  · cases e⟩
theorem dgsw_cons {t1 : RG} {t2 : RGs} (h : DGw X G vs e t1) (h2 : DGsw X G vs es t2) (hs : (assignEach (e :: es) X.env).map (·.2) = assign e X.env :: (assignEach es X.env).map (·.2) := by rfl) : DGsw X G vs (e :: es) (gsCons t1 t2) :=
  let ⟨_, pa, ea⟩ := h; let ⟨_, pb, eb⟩ := h2
  ⟨_, pgs_cons pa pb hs, fun ds ρ S ρ' S' e w σ H us s hd Q q => by
    unfold gsCons at e
    split at e
    · rename_i d rest
      cases hd with
      | cons hv hr =>
        split at e
        · rename_i ρ1 S1 h1
          exact ⟨_, _, rfl, ea d ρ S ρ1 S1 h1 w σ H _ s hv _ fun w1 σ1 H1 z1 s1 x1 => eb rest ρ1 S1 ρ' S' e w1 σ1 H1 _ s1 (hr.ext x1) Q fun w2 σ2 H2 z2 s2 x2 => q w2 σ2 H2 (z2.trans z1) s2 (x1.trans x2)⟩
        · cases e
    · cases e⟩
theorem dgw_tup {k n : Nat} {t1 : RGs} (hc : X.calm = true) (h : DGsw X G vs es t1) (hn : (assignEach es X.env).length = n := by rfl) (hst : (assignEach es X.env).findIdx? (·.1) = none := by rfl) : DGw X G vs (.Tuple es k pos) (gTp n t1) :=
  let ⟨_, pa, ea⟩ := h
  ⟨_, pg_tup hc pa hn hst, fun d ρ S ρ' S' e w σ H v s hd Q q => by
    unfold gTp at e
    split at e
    · rename_i ds
      split at e
      · rename_i hl
        obtain ⟨p, us, rfl, hp, l⟩ := den_tup hd
        exact ⟨p, us, rfl, .inl (.inl (s.core.sub _ _ hp)), by rw [l.len]; exact hl, ea ds ρ S ρ' S' e w σ H us s l Q q⟩
      · cases e
    · cases e⟩

/-! ### an object that the world does not know yet -/
theorem ntL {us : List V} : NoTab (.lst us) := ⟨fun ps e => (by cases e), fun _ _ e => (by cases e)⟩
theorem Core.newX {w : Wd} {S : Sto} {H : Hp} {p : Addr} {o : HO} (c : Core G w S H) (hp : H p = none) : Core G w S (upd H p o) ∧ Ext w S H w S (upd H p o) := by
  have old : ∀ a u, H a = some u → a ≠ p := fun a u e => ne_of_none e hp
  have hm : ∀ a u, H a = some u → upd H p o a = some u := fun a u e => by rw [upd_ne (old a u e)]; exact e
  refine ⟨⟨fun a u e => hm a u (c.sub a u e), c.fro, fun k ce h => ?_, c.inj, c.tab.stay fun a u e _ _ => hm a u e, c.t0⟩, ⟨fun _ _ => rfl, fun _ _ e => e, fun _ _ e => e, Nat.le_refl _, fun k h1 h2 => absurd h2 (Nat.not_lt.mpr h1), fun a u e _ _ => hm a u e, fun a e => ?_, fun a u e => .inl e⟩⟩
  · obtain ⟨h1, ⟨u, h2, h3⟩, h4⟩ := c.cel k ce h
    exact ⟨h1, ⟨u, hm _ u h2, h3⟩, h4.mono (fun _ _ e => e) (fun _ _ => rfl) (Nat.le_refl _) (fun u e => hm _ u e)⟩
  · by_cases h : a = p
    · rw [h, upd_same] at e; cases e
    · rw [upd_ne h] at e; exact e
theorem Ext.updX {w w' : Wd} {S S' : Sto} {H H' : Hp} {p : Addr} {o : HO} (x : Ext w S H w' S' H') (hp : H p = none) : Ext w S H w' S' (upd H' p o) :=
  ⟨x.al, x.fr, x.tb, x.sz, x.new, fun a u e h1 h2 => by rw [upd_ne (ne_of_none e hp)]; exact x.keep a u e h1 h2, fun a e => by
    by_cases h : a = p
    · subst h; exact hp
    · rw [upd_ne h] at e; exact x.non a e, x.frn⟩
/-- the list that grows -/
structure Aw (w : Wd) (S : Sto) (H : Hp) (D : Addr) (acc : List V) : Prop where
  at_ : H D = some (.lst acc)
  fr : w.fr D = none
  al : ∀ k, k < S.length → w.al k ≠ D
theorem Aw.ext {w w' : Wd} {S S' : Sto} {H H' : Hp} {D : Addr} {acc : List V} (a : Aw w S H D acc) (x : Ext w S H w' S' H') : Aw w' S' H' D acc :=
  let ⟨h1, h2, h3⟩ := x.away a.at_ ntL a.fr a.al; ⟨h1, h2, h3⟩
theorem Aw.new {w : Wd} {S : Sto} {H : Hp} {D : Addr} (c : Core G w S H) (hp : H D = none) : Aw w S (upd H D (.lst [])) D [] :=
  ⟨upd_same, c.fresh hp, fun k hk z => by
    obtain ⟨_, ⟨u, h2, _⟩, _⟩ := c.cel k _ (List.getElem?_eq_getElem hk)
    rw [z, hp] at h2; cases h2⟩
/-- how a new list is made known: frozen, or an object of the store -/
def MkL (mk : List D → Sto → Option (D × Sto)) : Prop := (∀ ys S d S', mk ys S = some (d, S') → ys.length ≤ 1000000) ∧ ∀ (G : Gc) (w0 w : Wd) (S0 S S' : Sto) (H0 H : Hp) (P : Addr) (acc : List V) (ys : List D) (d : D), Core G w S H → Ext w0 S0 H0 w S H → H0 P = none → w0.fr P = none → Aw w S H P acc → DenL w S.length acc ys → mk ys S = some (d, S') →
  ∃ w', Core G w' S' H ∧ Ext w0 S0 H0 w' S' H ∧ Den w' S'.length (.ref P) d
theorem mkF : MkL fLst := ⟨(fun ys S d S' e => by
  unfold fLst at e
  split at e
  · assumption
  · cases e), fun G w0 w S0 S S' H0 H P acc ys d c x hp hw a l e => by
  unfold fLst at e
  split at e
  · rename_i hl
    cases e
    refine ⟨_, c.freeze a.at_ (.inr ⟨acc, rfl⟩) a.fr a.al, ⟨x.al, fun b u e => ?_, x.tb, x.sz, x.new, x.keep, x.non, fun b u e => ?_⟩, den_newL l a.fr⟩
    · have e := x.fr b u e
      show upd w.fr P _ b = some u
      rw [upd_ne (ne_of_none e a.fr)]; exact e
    · by_cases h : b = P
      · exact .inr (.inl (by rw [h]; exact hp))
      · have e : upd w.fr P (.lst acc) b = some u := e
        rw [upd_ne h] at e; exact x.frn b u e
  · cases e⟩
theorem mkO : MkL fObj := ⟨(fun ys S d S' e => by
  unfold fObj at e
  split at e
  · assumption
  · cases e), fun G w0 w S0 S S' H0 H P acc ys d c x hp hw a l e => by
  unfold fObj at e
  split at e
  · rename_i hl
    cases e
    refine ⟨_, c.adopt a.at_ l a.fr a.al, ⟨fun k hk => ?_, x.fr, x.tb, ?_, fun k h1 h2 => ?_, x.keep, x.non, x.frn⟩, den_newO⟩
    · have h2 : k ≠ S.length := Nat.ne_of_lt (Nat.lt_of_lt_of_le hk x.sz)
      show (if k = S.length then P else w.al k) = w0.al k
      rw [if_neg h2]; exact x.al k hk
    · rw [List.length_append]; exact Nat.le_trans x.sz (Nat.le_add_right _ _)
    · show H0 (if k = S.length then P else w.al k) = none
      by_cases hk : k = S.length
      · rw [if_pos hk]; exact hp
      · rw [if_neg hk]
        refine x.new k h1 ?_
        rw [List.length_append] at h2
        have h2 : k < S.length + 1 := h2
        omega
  · cases e⟩

/-- the part of Ext that sees no heap -/
structure WR (w : Wd) (n : Nat) (w' : Wd) (n' : Nat) : Prop where
  al : ∀ k, k < n → w'.al k = w.al k
  fr : ∀ a o, w.fr a = some o → w'.fr a = some o
  tb : ∀ c P, w.tb c P → w'.tb c P
  sz : n ≤ n'
theorem Ext.wr {w w' : Wd} {S S' : Sto} {H H' : Hp} (x : Ext w S H w' S' H') : WR w S.length w' S'.length := ⟨x.al, x.fr, x.tb, x.sz⟩
theorem WR.trans {w w1 w2 : Wd} {n n1 n2 : Nat} (a : WR w n w1 n1) (b : WR w1 n1 w2 n2) : WR w n w2 n2 :=
  ⟨fun k h => (b.al k (Nat.lt_of_lt_of_le h a.sz)).trans (a.al k h), fun x o e => b.fr x o (a.fr x o e), fun c P e => b.tb c P (a.tb c P e), Nat.le_trans a.sz b.sz⟩
theorem Sat.ofWR {w w' : Wd} {ρ : En} {S S' : Sto} {σ : L2.St} {H H' : Hp} (s : Sat G w ρ S σ H) (c : Core G w' S' H') (e : WR w S.length w' S'.length) : Sat G w' ρ S' σ H' :=
  ⟨c, fun i d h => let ⟨v, h1, h2⟩ := s.env i d h; ⟨v, h1, h2.mono e.fr e.al e.sz⟩, s.len, fun v h => let ⟨c, P, h1, h2⟩ := s.code v h; ⟨c, P, h1, e.tb _ _ h2⟩⟩

/-! ### the loop of a clause -/
theorem loop_ok {J : It} {ds : List D} {chk : Sto → Prop} {gg : TG} {xt : TT} {xe : TE} {w0 w1 w2 : Wd} {S0 S1 S2 S3 : Sto} {H0 H2 : Hp} {ρ0 : En} {σ : L2.St} {P : Addr} {acc : List V} {accD ys : List D} {Qd : Hp → Prop}
    (eg : EvGw G vs gg g) (et : EvT G xt tt) (ee : Ev G xe te) (jd : JD G J ds w1 S1.length chk) (r12 : WR w1 S1.length w2 S2.length) (x02 : Ext w0 S0 H0 w2 S2 H2) (s2 : Sat G w2 ρ0 S2 σ H2) (hk : chk S2) (aw : Aw w2 S2 H2 P acc) (ln : DenL w2 S2.length acc accD) (hP : H0 P = none)
    (e : compL g tt te chk (wipeD ρ0 vs) ds S2 = some (ys, S3)) (hz : (accD ++ ys).length ≤ 1000000)
    (q : ∀ w3 H3 acc3, Core G w3 S3 H3 → Ext w0 S0 H0 w3 S3 H3 → WR w2 S2.length w3 S3.length → Aw w3 S3 H3 P acc3 → DenL w3 S3.length acc3 (accD ++ ys) → chk S3 → Qd H3) :
    ∃ W : Nat → Nat → Hp → Prop, (∃ m, W 0 m H2) ∧ ∀ i m H, W i m H → (J.stop i H ∧ Qd H) ∨ (J.go i H ∧ ∃ Nx : Hp → Prop, (∀ H', Nx H' → ∃ m', m' < m ∧ W (i + 1) m' H') ∧ ∀ x H', J.yld i H x H' → gg x (L2.wipe σ vs) H' fun σ2 H2 => L2.wipe σ2 vs = L2.wipe σ vs ∧ xt σ2 H2 fun b H3 =>
      if b = true then xe σ2 H3 fun y H4 => ∃ acc, H4 P = some (.lst acc) ∧ acc.length < sizeLine ∧ Nx (upd H4 P (.lst (acc ++ [y]))) else Nx H3) := by
  refine ⟨fun i m H => ∃ w S acc aD ys', Sat G w ρ0 S σ H ∧ Ext w0 S0 H0 w S H ∧ WR w2 S2.length w S.length ∧ chk S ∧ i + m = ds.length ∧ Aw w S H P acc ∧ DenL w S.length acc aD ∧ compL g tt te chk (wipeD ρ0 vs) (ds.drop i) S = some (ys', S3) ∧ aD ++ ys' = accD ++ ys,
    ⟨ds.length, w2, S2, acc, accD, ys, s2, x02, ⟨fun _ _ => rfl, fun _ _ e => e, fun _ _ e => e, Nat.le_refl _⟩, hk, Nat.zero_add _, aw, ln, e, rfl⟩, fun i m H ⟨w, S, acc, aD, ys', s, x, r, hc, hm, aw, ln, e, hy⟩ => ?_⟩
  have rr := r12.trans r
  obtain ⟨hstop, hgo⟩ := jd i w S H s.core rr.fr rr.al rr.sz hc
  cases m with
  | zero =>
    have hi : i = ds.length := by omega
    rw [hi, List.drop_length] at e
    unfold compL at e
    cases e
    rw [List.append_nil] at hy
    rw [← hy] at q
    exact .inl ⟨hstop hi, q w H acc s.core x r aw ln hc⟩
  | succ m =>
    have hil : i < ds.length := by omega
    rw [List.drop_eq_getElem_cons hil] at e
    obtain ⟨go, hyl⟩ := hgo ds[i] (List.getElem?_eq_getElem hil)
    unfold compL at e
    refine .inr ⟨go, fun H' => ∃ w S acc aD ys', Sat G w ρ0 S σ H' ∧ Ext w0 S0 H0 w S H' ∧ WR w2 S2.length w S.length ∧ chk S ∧ Aw w S H' P acc ∧ DenL w S.length acc aD ∧ compL g tt te chk (wipeD ρ0 vs) (ds.drop (i + 1)) S = some (ys', S3) ∧ aD ++ ys' = accD ++ ys,
      fun H' ⟨w', S', acc', aD', ys'', q1, q2, q3, q4, q5, q6, q7, q8⟩ => ⟨m, Nat.lt_succ_self m, w', S', acc', aD', ys'', q1, q2, q3, q4, by omega, q5, q6, q7, q8⟩, fun v H2 hyld => ?_⟩
    obtain ⟨w4, c4, x4, d4⟩ := hyl v H2 hyld
    have s4 := s.ofCore c4 x4
    split at e
    · rename_i ρ1 Sa h1
      refine eg ds[i] (wipeD ρ0 vs) S ρ1 Sa h1 w4 _ H2 v (s4.wipe vs) d4 _ fun w5 σ5 H5 z5 s5 x5 => ⟨z5.trans wipe_wipe, ?_⟩
      split at e
      · rename_i Sb h2
        refine et ρ1 Sa true Sb h2 w5 σ5 H5 s5 _ fun w6 H6 s6 x6 => ?_
        rw [if_pos rfl]
        split at e
        · rename_i y Sc h3
          refine ee ρ1 Sb y Sc h3 w6 σ5 H6 s6 _ fun w7 vy H7 s7 x7 d7 => ?_
          split at e
          · rename_i hck
            split at e
            · rename_i ys2 Sd h4
              cases e
              have xx := ((x4.trans x5).trans x6).trans x7
              have aw7 := aw.ext xx
              have ln7 := ln.ext xx
              have c8 := s7.core.updX (o' := .lst (acc ++ [vy])) aw7.at_ ntL aw7.fr aw7.al
              have ex8 : Ext w0 S0 H0 w7 Sc (upd H7 P (.lst (acc ++ [vy]))) := (x.trans xx).updX hP
              refine ⟨acc, aw7.at_, ?_, w7, Sc, acc ++ [vy], aD ++ [y], ys2, s.ofWR c8 xx.wr, ex8, r.trans xx.wr, hck, ⟨upd_same, aw7.fr, aw7.al⟩, ln7.app (.cons d7 .nil), h4, by rw [List.append_assoc]; exact hy⟩
              refine lt_line ?_
              have hlen := congrArg List.length hy
              rw [List.length_append, List.length_cons, ← ln.len] at hlen
              omega
            · cases e
          · cases e
        · cases e
      · rename_i Sb h2
        refine et ρ1 Sa false Sb h2 w5 σ5 H5 s5 _ fun w6 H6 s6 x6 => ?_
        rw [if_neg (by decide)]
        split at e
        · rename_i hck
          have xx := (x4.trans x5).trans x6
          exact ⟨w6, Sb, acc, aD, ys', s.ofCore s6.core xx, x.trans xx, r.trans xx.wr, hck, aw.ext xx, ln.ext xx, e, hy⟩
        · cases e
      · cases e
    · cases e
@[simp] noncomputable def eLc (mk : List D → Sto → Option (D × Sto)) (it : RI) (g : RG) (c : RT) (e : RE) (vs : List Nat) : RE := fun ρ S => match it ρ S with
  | some (ds, chk, S1) => (match compL g c e chk (wipeD ρ vs) ds S1 with
    | some (ys, S2) => mk ys S2
    | none => none)
  | none => none
theorem ev_lc {mk : List D → Sto → Option (D × Sto)} {wi : TI} {gg : TG} {xt : TT} {xe : TE} (hmk : MkL mk) (ei : EvI G wi ri) (eg : EvGw G vs gg g) (et : EvT G xt tt) (ee : Ev G xe te) : Ev G (tLc wi gg xt xe vs) (eLc mk ri g tt te vs) := fun ρ S d S' e w σ H s Q q => by
  unfold eLc at e
  split at e
  · rename_i ds chk S1 h1
    split at e
    · rename_i ys S2 h2
      refine ei ρ S ds chk S1 h1 w σ H s _ fun J w1 H1 s1 x1 jd hk P hP => ?_
      obtain ⟨c2, x2⟩ := s1.core.newX (o := .lst []) hP
      have hyz : ys.length ≤ 1000000 := hmk.1 _ _ _ _ e
      exact loop_ok eg et ee jd x2.wr x2 (s1.ofCore c2 x2) hk (Aw.new s1.core hP) .nil hP h2 (by rw [List.nil_append]; exact hyz) fun w3 H3 acc3 c3 x3 r3 aw3 ln3 hk3 => by
        obtain ⟨w4, c4, x4, d4⟩ := hmk.2 G w1 w3 S1 S2 S' H1 H3 P acc3 ys d c3 x3 hP (s1.core.fresh hP) aw3 ln3 e
        exact q w4 _ H3 (s1.ofCore c4 x4) (x1.trans x4) d4
    · cases e
  · cases e
/-! ### two clauses -/
noncomputable def compL2 (g : RG) (c : RT) (it1 : RI) (g1 : RG) (c1 : RT) (e : RE) (vs1 : List Nat) (chk : Sto → Prop) (ρ : En) : List D → Sto → Option (List D × Sto)
  | [], S => some ([], S)
  | d :: ds, S => match g d ρ S with
    | some (ρ1, S1) => (match c ρ1 S1 with
      | some (true, S2) => (match it1 ρ1 S2 with
        | some (ds1, chk1, S3) => (match compL g1 c1 e chk1 (wipeD ρ1 vs1) ds1 S3 with
          | some (ys, S4) => if chk S4 then (match compL2 g c it1 g1 c1 e vs1 chk ρ ds S4 with | some (zs, S5) => some (ys ++ zs, S5) | none => none) else none
          | none => none)
        | none => none)
      | some (false, S2) => if chk S2 then compL2 g c it1 g1 c1 e vs1 chk ρ ds S2 else none
      | none => none)
    | none => none
@[simp] noncomputable def eLc2 (mk : List D → Sto → Option (D × Sto)) (it : RI) (g : RG) (c : RT) (it1 : RI) (g1 : RG) (c1 : RT) (e : RE) (vs vs1 : List Nat) : RE := fun ρ S => match it ρ S with
  | some (ds, chk, S1) => (match compL2 g c it1 g1 c1 e vs1 chk (wipeD ρ vs) ds S1 with
    | some (ys, S2) => mk ys S2
    | none => none)
  | none => none
theorem ev_lc2 {mk : List D → Sto → Option (D × Sto)} {wi wi1 : TI} {gg gg1 : TG} {xt xt1 : TT} {xe : TE} {ri1 : RI} {g1 : RG} {tt1 : RT} {vs1 : List Nat} (hmk : MkL mk) (ei : EvI G wi ri) (eg : EvGw G vs gg g) (et : EvT G xt tt) (ei1 : EvI G wi1 ri1) (eg1 : EvGw G vs1 gg1 g1) (et1 : EvT G xt1 tt1) (ee : Ev G xe te) :
    Ev G (tLc2 wi gg xt wi1 gg1 xt1 xe vs vs1) (eLc2 mk ri g tt ri1 g1 tt1 te vs vs1) := fun ρ S d S' e w σ H s Q q => by
  unfold eLc2 at e
  split at e
  · rename_i ds chk S1 h1
    split at e
    · rename_i yall S2 h2
      refine ei ρ S ds chk S1 h1 w σ H s _ fun J w1 H1 s1 x1 jd hk P hP => ?_
      obtain ⟨c2, x2⟩ := s1.core.newX (o := .lst []) hP
      have hyz : yall.length ≤ 1000000 := hmk.1 _ _ _ _ e
      refine ⟨fun i m H => ∃ w S acc aD ys', Sat G w ρ S σ H ∧ Ext w1 S1 H1 w S H ∧ chk S ∧ i + m = ds.length ∧ Aw w S H P acc ∧ DenL w S.length acc aD ∧ compL2 g tt ri1 g1 tt1 te vs1 chk (wipeD ρ vs) (ds.drop i) S = some (ys', S2) ∧ aD ++ ys' = yall,
        ⟨ds.length, w1, S1, [], [], yall, s1.ofCore c2 x2, x2, hk, Nat.zero_add _, Aw.new s1.core hP, .nil, h2, rfl⟩, fun i m H ⟨w, S, acc, aD, ys', s, x, hc, hm, aw, ln, e2, hy⟩ => ?_⟩
      obtain ⟨hstop, hgo⟩ := jd.next x s.core hc i
      cases m with
      | zero =>
        have hi : i = ds.length := by omega
        rw [hi, List.drop_length] at e2
        unfold compL2 at e2
        cases e2
        rw [List.append_nil] at hy
        refine .inl ⟨hstop hi, ?_⟩
        rw [← hy] at e
        obtain ⟨w4, c4, x4, d4⟩ := hmk.2 G w1 w S1 S2 S' H1 H P acc aD d s.core x hP (s1.core.fresh hP) aw ln e
        exact q w4 _ H (s1.ofCore c4 x4) (x1.trans x4) d4
      | succ m =>
        have hil : i < ds.length := by omega
        rw [List.drop_eq_getElem_cons hil] at e2
        obtain ⟨go, hyl⟩ := hgo ds[i] (List.getElem?_eq_getElem hil)
        unfold compL2 at e2
        refine .inr ⟨go, fun H' => ∃ w S acc aD ys', Sat G w ρ S σ H' ∧ Ext w1 S1 H1 w S H' ∧ chk S ∧ Aw w S H' P acc ∧ DenL w S.length acc aD ∧ compL2 g tt ri1 g1 tt1 te vs1 chk (wipeD ρ vs) (ds.drop (i + 1)) S = some (ys', S2) ∧ aD ++ ys' = yall,
          fun H' ⟨w', S', acc', aD', ys'', q1, q2, q3, q4, q5, q6, q7⟩ => ⟨m, Nat.lt_succ_self m, w', S', acc', aD', ys'', q1, q2, q3, by omega, q4, q5, q6, q7⟩, fun v H2 hyld => ?_⟩
        obtain ⟨w4, c4, x4, d4⟩ := hyl v H2 hyld
        have s4 := s.ofCore c4 x4
        split at e2
        · rename_i ρ1 Sa h1
          refine eg ds[i] (wipeD ρ vs) S ρ1 Sa h1 w4 _ H2 v (s4.wipe vs) d4 _ fun w5 σ5 H5 z5 s5 x5 => ⟨z5.trans wipe_wipe, ?_⟩
          split at e2
          · rename_i Sb h2
            refine et ρ1 Sa true Sb h2 w5 σ5 H5 s5 _ fun w6 H6 s6 x6 => ?_
            rw [if_pos rfl]
            split at e2
            · rename_i ds1 chk1 Sc h3
              split at e2
              · rename_i ys Sd h4
                split at e2
                · rename_i hck
                  split at e2
                  · rename_i zs Se h5
                    cases e2
                    refine ei1 ρ1 Sb ds1 chk1 Sc h3 w6 σ5 H6 s6 _ fun J1 w7 H7 s7 x7 jd1 hk1 => ?_
                    have xx := ((x4.trans x5).trans x6).trans x7
                    refine loop_ok eg1 et1 ee jd1 ⟨fun _ _ => rfl, fun _ _ e => e, fun _ _ e => e, Nat.le_refl _⟩ (x.trans xx) s7 hk1 (aw.ext xx) (ln.ext xx) hP h4 ?_ fun w8 H8 acc8 c8 x8 r8 aw8 ln8 _ => ?_
                    · have hlen := congrArg List.length hy
                      simp only [List.length_append] at hlen ⊢
                      omega
                    · exact ⟨w8, Sd, acc8, aD ++ ys, zs, s.ofWR c8 (xx.wr.trans r8), x8, hck, aw8, ln8, h5, by rw [List.append_assoc]; exact hy⟩
                  · cases e2
                · cases e2
              · cases e2
            · cases e2
          · rename_i Sb h2
            refine et ρ1 Sa false Sb h2 w5 σ5 H5 s5 _ fun w6 H6 s6 x6 => ?_
            rw [if_neg (by decide)]
            split at e2
            · rename_i hck
              have xx := (x4.trans x5).trans x6
              exact ⟨w6, Sb, acc, aD, ys', s.ofCore s6.core xx, x.trans xx, hck, aw.ext xx, ln.ext xx, e2, hy⟩
            · cases e2
          · cases e2
        · cases e2
    · cases e
  · cases e

/-! ### the rules -/
variable {scope : Scope} {own : List (Str × Nat)} {ifs ifs1 : List Expr} {elt tg1 iter1 : Expr} {mk : List D → Sto → Option (D × Sto)} {ri1 : RI} {g1 : RG} {tt1 : RT} {vs1 : List Nat}
theorem de_lc (hmk : MkL mk) (hc : X.calm = true) (hN : X.N.Nodup) (hi : DI X G tg iter ri) (ok : BlkOk X.N X.env.scope scope own)
    (hg : ∀ (s : Shared) (H : Hp) (C : Addr) (cl : List (Str × Addr)) (fp : List Addr), DGw (X.blk s H scope (compEnvC scope cl C X.env) fp) G (own.map (·.2)) tg g) (ht : ∀ (s : Shared) (H : Hp) (C : Addr) (cl : List (Str × Addr)) (fp : List Addr), DTs (X.blk s H scope (compEnvC scope cl C X.env) fp) G ifs tt)
    (he : ∀ (s : Shared) (H : Hp) (C : Addr) (cl : List (Str × Addr)) (fp : List Addr), DE (X.blk s H scope (compEnvC scope cl C X.env) fp) G elt te) (hs : ∀ x, foldedSetIterable iter X.env x = pure x := by intro _; rfl) :
    DE X G (.ListComp elt [⟨tg, iter, ifs, 0⟩] scope pos) (eLc mk ri g tt te (own.map (·.2))) :=
  ⟨_, pe_lc hc hN hi.pi ok (fun s H C cl fp => (hg s H C cl fp).pg) (fun s H C cl fp => (ht s H C cl fp).pts) (fun s H C cl fp => (he s H C cl fp).pe) hs, ev_lc hmk evi_of evg_of evt_of ev_of⟩
theorem evs_setE {i : Nat} {xe : TE} (h : Ev G xe te) : EvS G (tAsg xe (gName i)) (sSet i te) := fun ρ S o e w σ H s D p => by
  unfold sSet at e
  split at e
  · rename_i d S1 h1
    cases e
    exact h ρ S d S1 h1 w σ H s _ fun w1 v H1 s1 x1 d1 => p w1 _ H1 (s1.set d1 i) x1
  · cases e
theorem ds_setLc {i : Nat} {y : Str} {py spos : Pos} (hmk : MkL mk) (hc : X.calm = true) (hN : X.N.Nodup) (hy : X.N[i]? = some y) (hyl : X.env.scope.names.lookup y = some .local)
    (hsw : swapsWith (.ListComp elt [⟨tg, iter, ifs, 0⟩] scope pos) (some (.Name y py)) spos.line X.env = pure true) (hi : DI X G tg iter ri) (ok : BlkOk X.N X.env.scope scope own)
    (hg : ∀ (s : Shared) (H : Hp) (C : Addr) (cl : List (Str × Addr)) (fp : List Addr), DGw (X.blk s H scope (compEnvC scope cl C X.env) fp) G (own.map (·.2)) tg g) (ht : ∀ (s : Shared) (H : Hp) (C : Addr) (cl : List (Str × Addr)) (fp : List Addr), DTs (X.blk s H scope (compEnvC scope cl C X.env) fp) G ifs tt)
    (he : ∀ (s : Shared) (H : Hp) (C : Addr) (cl : List (Str × Addr)) (fp : List Addr), DE (X.blk s H scope (compEnvC scope cl C X.env) fp) G elt te) (hs : ∀ x, foldedSetIterable iter X.env x = pure x := by intro _; rfl) :
    DS X G (.Assign [.Name y py] (.ListComp elt [⟨tg, iter, ifs, 0⟩] scope pos) spos) (sSet i (eLc mk ri g tt te (own.map (·.2)))) :=
  ⟨_, ps_setLc hc hN hy hyl hsw hi.pi ok (fun s H C cl fp => (hg s H C cl fp).pg) (fun s H C cl fp => (ht s H C cl fp).pts) (fun s H C cl fp => (he s H C cl fp).pe) hs, evs_setE (ev_lc hmk evi_of evg_of evt_of ev_of)⟩
theorem de_lc2 (hmk : MkL mk) (hc : X.calm = true) (hN : X.N.Nodup) (hi : DI X G tg iter ri) (ok : BlkOk X.N X.env.scope scope own) (hv : ∀ i ∈ vs1, i ∈ own.map (·.2))
    (hg : ∀ (s : Shared) (H : Hp) (C : Addr) (cl : List (Str × Addr)) (fp : List Addr), DGw (X.blk s H scope (compEnvC scope cl C X.env) fp) G (own.map (·.2)) tg g) (ht : ∀ (s : Shared) (H : Hp) (C : Addr) (cl : List (Str × Addr)) (fp : List Addr), DTs (X.blk s H scope (compEnvC scope cl C X.env) fp) G ifs tt)
    (hi1 : ∀ (s : Shared) (H : Hp) (C : Addr) (cl : List (Str × Addr)) (fp : List Addr), DI (X.blk s H scope (compEnvC scope cl C X.env) fp) G tg1 iter1 ri1)
    (hg1 : ∀ (s : Shared) (H : Hp) (C : Addr) (cl : List (Str × Addr)) (fp : List Addr), DGw (X.blk s H scope (compEnvC scope cl C X.env) fp) G vs1 tg1 g1) (ht1 : ∀ (s : Shared) (H : Hp) (C : Addr) (cl : List (Str × Addr)) (fp : List Addr), DTs (X.blk s H scope (compEnvC scope cl C X.env) fp) G ifs1 tt1)
    (he : ∀ (s : Shared) (H : Hp) (C : Addr) (cl : List (Str × Addr)) (fp : List Addr), DE (X.blk s H scope (compEnvC scope cl C X.env) fp) G elt te) (hs : ∀ x, foldedSetIterable iter X.env x = pure x := by intro _; rfl) (hs1 : ∀ env x, foldedSetIterable iter1 env x = pure x := by intro _ _; rfl) :
    DE X G (.ListComp elt [⟨tg, iter, ifs, 0⟩, ⟨tg1, iter1, ifs1, 0⟩] scope pos) (eLc2 mk ri g tt ri1 g1 tt1 te (own.map (·.2)) vs1) :=
  ⟨_, pe_lc2 hc hN hi.pi ok hv (fun s H C cl fp => (hg s H C cl fp).pg) (fun s H C cl fp => (ht s H C cl fp).pts) (fun s H C cl fp => (hi1 s H C cl fp).pi) (fun s H C cl fp => (hg1 s H C cl fp).pg) (fun s H C cl fp => (ht1 s H C cl fp).pts) (fun s H C cl fp => (he s H C cl fp).pe) hs hs1,
    ev_lc2 hmk evi_of evg_of evt_of evi_of evg_of evt_of ev_of⟩
theorem ds_setLc2 {i : Nat} {y : Str} {py spos : Pos} (hmk : MkL mk) (hc : X.calm = true) (hN : X.N.Nodup) (hy : X.N[i]? = some y) (hyl : X.env.scope.names.lookup y = some .local)
    (hsw : swapsWith (.ListComp elt [⟨tg, iter, ifs, 0⟩, ⟨tg1, iter1, ifs1, 0⟩] scope pos) (some (.Name y py)) spos.line X.env = pure true) (hi : DI X G tg iter ri) (ok : BlkOk X.N X.env.scope scope own) (hv : ∀ i ∈ vs1, i ∈ own.map (·.2))
    (hg : ∀ (s : Shared) (H : Hp) (C : Addr) (cl : List (Str × Addr)) (fp : List Addr), DGw (X.blk s H scope (compEnvC scope cl C X.env) fp) G (own.map (·.2)) tg g) (ht : ∀ (s : Shared) (H : Hp) (C : Addr) (cl : List (Str × Addr)) (fp : List Addr), DTs (X.blk s H scope (compEnvC scope cl C X.env) fp) G ifs tt)
    (hi1 : ∀ (s : Shared) (H : Hp) (C : Addr) (cl : List (Str × Addr)) (fp : List Addr), DI (X.blk s H scope (compEnvC scope cl C X.env) fp) G tg1 iter1 ri1)
    (hg1 : ∀ (s : Shared) (H : Hp) (C : Addr) (cl : List (Str × Addr)) (fp : List Addr), DGw (X.blk s H scope (compEnvC scope cl C X.env) fp) G vs1 tg1 g1) (ht1 : ∀ (s : Shared) (H : Hp) (C : Addr) (cl : List (Str × Addr)) (fp : List Addr), DTs (X.blk s H scope (compEnvC scope cl C X.env) fp) G ifs1 tt1)
    (he : ∀ (s : Shared) (H : Hp) (C : Addr) (cl : List (Str × Addr)) (fp : List Addr), DE (X.blk s H scope (compEnvC scope cl C X.env) fp) G elt te) (hs : ∀ x, foldedSetIterable iter X.env x = pure x := by intro _; rfl) (hs1 : ∀ env x, foldedSetIterable iter1 env x = pure x := by intro _ _; rfl) :
    DS X G (.Assign [.Name y py] (.ListComp elt [⟨tg, iter, ifs, 0⟩, ⟨tg1, iter1, ifs1, 0⟩] scope pos) spos) (sSet i (eLc2 mk ri g tt ri1 g1 tt1 te (own.map (·.2)) vs1)) :=
  ⟨_, ps_setLc2 hc hN hy hyl hsw hi.pi ok hv (fun s H C cl fp => (hg s H C cl fp).pg) (fun s H C cl fp => (ht s H C cl fp).pts) (fun s H C cl fp => (hi1 s H C cl fp).pi) (fun s H C cl fp => (hg1 s H C cl fp).pg) (fun s H C cl fp => (ht1 s H C cl fp).pts) (fun s H C cl fp => (he s H C cl fp).pe) hs hs1,
    evs_setE (ev_lc2 hmk evi_of evg_of evt_of evi_of evg_of evt_of ev_of)⟩
end
end DL

set_option maxRecDepth 100000
set_option maxHeartbeats 4000000
set_option pp.maxSteps 900
namespace DL
open PySem PySem.Spec PyProof.Rows L2 GX
open Classical

abbrev Gc.at (G : Gc) (v : Value) : Gc := { G with cv := some v }
section
variable {G : Gc} {X : Cx} {pos gpos p : Pos} {elt tg iter : Expr} {ifs : List Expr} {te : RE} {ri : RI} {tt : RT} {g : RG} {vs : List Nat} {scope : Scope} {own : List (Str × Nat)}
theorem Core.at {w : Wd} {S : Sto} {H : Hp} {v : Value} (c : Core G w S H) : Core (G.at v) w S H := ⟨c.sub, c.fro, c.cel, c.inj, c.tab, c.t0⟩
theorem Core.off {w : Wd} {S : Sto} {H : Hp} {v : Value} (c : Core (G.at v) w S H) : Core G w S H := ⟨c.sub, c.fro, c.cel, c.inj, c.tab, c.t0⟩
/-- the heap behind the making of a code object -/
theorem Core.grown {w : Wd} {S : Sto} {H H' : Hp} {T' : Tb} (c : Core G w S H) (t : TabI G.base T' H') (hT : ∀ a b, w.tb a b → T' a b) (gr : Grown H H') : Core G { w with tb := T' } S H' ∧ Ext w S H { w with tb := T' } S H' := by
  have nt : ∀ a o, w.fr a = some o → ∀ ps, o ≠ .tbl ps := fun a o e ps z => by
    rcases c.fro a o e with ⟨xs, h⟩ | ⟨xs, h⟩ | ⟨ob, u, h⟩ <;> rw [h] at z <;> cases z
  refine ⟨⟨fun a o e => gr.keep a o (c.sub a o e) (nt a o e), c.fro, fun k ce h => ?_, c.inj, t, fun a b e => hT a b (c.t0 a b e)⟩, ⟨fun _ _ => rfl, fun _ _ e => e, hT, Nat.le_refl _, fun k h1 h2 => absurd h2 (Nat.not_lt.mpr h1), fun a o e _ h => gr.keep a o e h, gr.none, fun a u e => .inl e⟩⟩
  obtain ⟨h1, ⟨u, h2, h3⟩, h4⟩ := c.cel k ce h
  refine ⟨h1, ⟨u, gr.keep _ u h2 h3.1, h3⟩, ?_⟩
  cases ce with
  | lst ds =>
    obtain ⟨us, e, l⟩ := h4
    exact ⟨us, gr.keep _ _ e (fun ps z => by cases z), DenL.mono (w := w) (w' := { w with tb := T' }) (n := S.length) (fun _ _ e => e) (fun _ _ => rfl) (Nat.le_refl _) l⟩
  | dct _ =>
    obtain ⟨xs, e, r1, r2, l⟩ := h4
    exact ⟨xs, gr.keep _ _ e (fun ps z => by cases z), r1, r2, DenK.mono (w := w) (w' := { w with tb := T' }) (n := S.length) (fun _ _ e => e) (fun _ _ => rfl) (Nat.le_refl _) l⟩
  | dead => trivial
theorem gturn_tup {J : It} {ds : List D} {chk : Sto → Prop} {gg : TG} {xt : TT} {xe : TE} {w1 w1' : Wd} {S1 S2 : Sto} {H1 H1' : Hp} {ρ : En} {σ : L2.St} {yall : List D} {cv : Value}
    (eg : EvGw (G.at cv) vs gg g) (et : EvT (G.at cv) xt tt) (ee : Ev (G.at cv) xe te) (jd : JD G J ds w1 S1.length chk) (s1 : Sat (G.at cv) w1' (wipeD ρ vs) S1 (L2.wipe σ vs) H1') (x1 : Ext w1 S1 H1 w1' S1 H1') (hk : chk S1)
    (e : compL g tt te chk (wipeD ρ vs) ds S1 = some (yall, S2)) :
    ∃ W, (∃ m, W 0 m [] H1') ∧ GTurn J gg xt xe vs (L2.wipe σ vs) yall.length (fun _ _ _ => True) (fun _ _ => True) (fun ys H => ∃ w, Core G w S2 H ∧ Ext w1' S1 H1' w S2 H ∧ DenL w S2.length ys yall) W := by
  refine ⟨fun i m acc H => ∃ w S aD ys', Core G w S H ∧ Ext w1' S1 H1' w S H ∧ chk S ∧ i + m = ds.length ∧ DenL w S.length acc aD ∧ compL g tt te chk (wipeD ρ vs) (ds.drop i) S = some (ys', S2) ∧ aD ++ ys' = yall,
    ⟨ds.length, w1', S1, [], yall, s1.core.off, Ext.refl .., hk, Nat.zero_add _, .nil, e, rfl⟩, fun i m acc H ⟨w, S, aD, ys', c, x, hc, hm, ln, e, hy⟩ => ?_⟩
  have rr := x1.trans x
  obtain ⟨hstop, hgo⟩ := jd i w S H c rr.fr rr.al rr.sz hc
  cases m with
  | zero =>
    have hi : i = ds.length := by omega
    rw [hi, List.drop_length] at e
    unfold compL at e
    cases e
    rw [List.append_nil] at hy
    subst hy
    exact .inl ⟨hstop hi, w, c, x, ln⟩
  | succ m =>
    have hil : i < ds.length := by omega
    rw [List.drop_eq_getElem_cons hil] at e
    obtain ⟨go, hyl⟩ := hgo ds[i] (List.getElem?_eq_getElem hil)
    unfold compL at e
    refine .inr ⟨go, fun v H2 hyld => ?_⟩
    obtain ⟨w4, c4, x4, d4⟩ := hyl v H2 hyld
    have s4 := s1.ofCore c4.at (x.trans x4)
    split at e
    · rename_i ρ1 Sa h1
      refine eg ds[i] (wipeD ρ vs) S ρ1 Sa h1 w4 _ H2 v s4 d4 _ fun w5 σ5 H5 z5 s5 x5 => ⟨z5.trans wipe_wipe, ?_⟩
      split at e
      · rename_i Sb h2
        refine et ρ1 Sa true Sb h2 w5 σ5 H5 s5 _ fun w6 H6 s6 x6 => ?_
        rw [if_pos rfl]
        split at e
        · rename_i y Sc h3
          refine ee ρ1 Sb y Sc h3 w6 σ5 H6 s6 _ fun w7 vy H7 s7 x7 d7 => ?_
          split at e
          · rename_i hck
            split at e
            · rename_i ys2 Sd h4
              cases e
              have xx := ((x4.trans x5).trans x6).trans x7
              refine ⟨?_, trivial, fun _ => ⟨m, Nat.lt_succ_self m, w7, Sc, aD ++ [y], ys2, s7.core.off, x.trans xx, hck, by omega, (ln.ext xx).app (.cons d7 .nil), h4, by rw [List.append_assoc]; exact hy⟩⟩
              have hlen := congrArg List.length hy
              rw [List.length_append, List.length_cons, ← ln.len] at hlen
              omega
            · cases e
          · cases e
        · cases e
      · rename_i Sb h2
        refine et ρ1 Sa false Sb h2 w5 σ5 H5 s5 _ fun w6 H6 s6 x6 => ?_
        rw [if_neg (by decide)]
        split at e
        · rename_i hck
          have xx := (x4.trans x5).trans x6
          exact ⟨m, Nat.lt_succ_self m, w6, Sb, aD, ys', s6.core.off, x.trans xx, hck, by omega, ln.ext xx, e, hy⟩
        · cases e
      · cases e
    · cases e
/-- what the body of a generator expression computes -/
def GBody (X : Cx) (G : Gc) (k : Nat) (scope : Scope) (vs : List Nat) (tg : Expr) (ifs : List Expr) (elt : Expr) (g : RG) (tt : RT) (te : RE) : Prop :=
  ∀ (s : Shared) (H : Hp) (L : Addr) (cl : List (Str × Addr)) (q : Str) (c' : Addr) (fp : List Addr) (pn : List (Addr × Obj)) (A : Around), Room k A →
    DGw (gx X s H scope L cl q (.ref c') fp pn A) (G.at (.ref c')) vs tg g ∧ DTs (gx X s H scope L cl q (.ref c') fp pn A) (G.at (.ref c')) ifs tt ∧ DE (gx X s H scope L cl q (.ref c') fp pn A) (G.at (.ref c')) elt te
theorem boot_tuple : bootBuiltins "tuple" = some (.type "tuple") := by decide +kernel
theorem boot_all : bootBuiltins "all" = some (.builtin "all") := by decide +kernel
theorem boot_any : bootBuiltins "any" = some (.builtin "any") := by decide +kernel
theorem de_tupGen {k : Nat} (hr : Room (k + 5) X.A) (hm : X.mg "tuple" = none) (hb : G.base = X.base) (hcv : G.cv = some X.env.code) (hc : X.calm = true) (hN : X.N.Nodup) (bm : ∃ P, X.base.BuiltinsAt X.mg P) (hi : DI X G tg iter ri) (ok : BlkOk X.N X.env.scope scope own)
    (hbd : GBody X G k scope (own.map (·.2)) tg ifs elt g tt te) (hg : Gl X "tuple" := by rfl) (hco : scope.isCoroutine = false := by rfl) (h0 : scope.names.lookup (".0" : Str) = some .local := by rfl) (hs : ∀ v, genFold iter X.env v = pure v := by intro _; rfl)
    (he : starEach [.GeneratorExp elt [⟨tg, iter, ifs, 0⟩] scope gpos] X.env = (false, eval (.GeneratorExp elt [⟨tg, iter, ifs, 0⟩] scope gpos) X.env) :: starEach [] X.env := by rfl) :
    DE X G (.Call (.Name "tuple" p) [.GeneratorExp elt [⟨tg, iter, ifs, 0⟩] scope gpos] [] pos) (eLc fTup ri g tt te (own.map (·.2))) := by
  refine ⟨teOf G _, ⟨fun pins s σ H Q I ⟨ρ, S, d, S', w, e, st, q⟩ => ?_⟩, ev_of⟩
  unfold eLc at e
  split at e
  · rename_i ds chk S1 h1
    split at e
    · rename_i yall S2 h2
      have hz : yall.length ≤ 1000000 := by
        unfold fTup at e
        split at e
        · assumption
        · cases e
      refine wpAny_Call_Name_kw (ld_blt I hg hm boot_tuple ?_)
      refine PyProof.Rows.callWith_type1 ?_ he (by rfl)
      rw [he]
      show wpAny _ _ (spliced ((false, eval (.GeneratorExp elt [⟨tg, iter, ifs, 0⟩] scope gpos) X.env) :: backTo pos (starEach [] X.env))) _ _ s
      refine Calls.spliced_cons (thn (gx_made (k := k) (N := yall.length) (Qy := fun _ _ _ => True) (Rs := fun _ _ => True) (Qe := fun ys H2 => ∃ w2, Core G w2 S2 H2 ∧ Ext w S H w2 S2 H2 ∧ DenL w2 S2.length ys yall) (hr.mono (by omega)) hc hN hi.pi ok hco h0 bm hs I ?_) fun u s1 hmd => ?_)
      · refine evi_of ρ S ds chk S1 h1 w σ H st _ fun J w1 H1 s1 x1 jd hk => ?_
        obtain ⟨c, P, hcc, hT⟩ := s1.code _ hcv
        refine ⟨w1.tb, c, P, hcc, hb ▸ s1.core.tab, hT, fun H' T' c' P' t' hTT hT' gr s' L cl qn fp pn A hrA => ?_⟩
        obtain ⟨b1, b2, b3⟩ := hbd s' H' L cl qn c' fp pn A hrA
        obtain ⟨c2, x2⟩ := s1.core.grown (hb ▸ t') hTT gr
        have s2 : Sat (G.at (.ref c')) { w1 with tb := T' } (wipeD ρ (own.map (·.2))) S1 (L2.wipe σ (own.map (·.2))) H' := by
          have z := (s1.ofCore c2 x2).wipe (own.map (·.2))
          exact ⟨z.core.at, z.env, z.len, fun v hv => by cases hv; exact ⟨c', P', rfl, hT'⟩⟩
        obtain ⟨W, hW, ht⟩ := gturn_tup (G := G) evg_of evt_of ev_of jd s2 x2 hk h2
        refine ⟨_, _, _, W, b1.pg, b2.pts, b3.pe, hW, fun i m ys Hh hw => ?_⟩
        rcases ht i m ys Hh hw with ⟨a1, w2, b1, b2, b3⟩ | z
        · exact .inl ⟨a1, w2, b1, (x1.trans x2).trans b2, b3⟩
        · exact .inr z
      · refine Calls.spliced_nil ?_
        refine call_tuple_md hr I.ok.frames (le_line hz) (fun _ _ => trivial) hmd fun s2 acc H2 ys hv hl I2 ⟨w2, c2, x2, l2⟩ => ?_
        have hf : H2 s2.heap.objs.size = none := I2.hok.fresh (Nat.le_refl _)
        refine ⟨.ref s2.heap.objs.size, upd H2 s2.heap.objs.size (.tup ys), I2.laid (t' := s2.toks) (fun b u e => Heap.get?_push_of_some _ e) (Nat.le_refl _) ?_, rfl, ?_⟩
        · exact ⟨Nat.le_trans hl (le_line hz), acc, hv, ⟨_, Heap.get?_push_size _ rfl, rfl, _, rfl⟩⟩
        · exact (new_tup (st.ofCore c2 x2) l2 e fun w3 v3 H3 s3 x3 d3 => q w3 v3 H3 s3 (x2.trans x3) d3).2 _ hf
    · cases e
  · cases e

/-! ### all, any -/
noncomputable def quantL (stop : Bool) (g : RG) (c : RT) (e : RE) (chk : Sto → Prop) (ρ : En) : List D → Sto → Option (Bool × Sto)
  | [], S => some (!stop, S)
  | d :: ds, S => match g d ρ S with
    | some (ρ1, S1) => (match c ρ1 S1 with
      | some (true, S2) => (match e ρ1 S2 with
        | some (.bl b, S3) => if b = stop then some (stop, S3) else if chk S3 then quantL stop g c e chk ρ ds S3 else none
        | _ => none)
      | some (false, S2) => if chk S2 then quantL stop g c e chk ρ ds S2 else none
      | none => none)
    | none => none
@[simp] noncomputable def tGenQ (stop : Bool) (it : RI) (g : RG) (c : RT) (e : RE) (vs : List Nat) : RT := fun ρ S => match it ρ S with
  | some (ds, chk, S1) => quantL stop g c e chk (wipeD ρ vs) ds S1
  | none => none
@[simp] def eBl (t : RT) : RE := fun ρ S => match t ρ S with | some (b, S1) => some (.bl b, S1) | none => none
theorem gturn_q {J : It} {ds : List D} {chk : Sto → Prop} {gg : TG} {xt : TT} {xe : TE} {w1 w1' : Wd} {S1 S2 : Sto} {H1 H1' : Hp} {ρ : En} {σ : L2.St} {stop r : Bool} {cv : Value}
    (eg : EvGw (G.at cv) vs gg g) (et : EvT (G.at cv) xt tt) (ee : Ev (G.at cv) xe te) (jd : JD G J ds w1 S1.length chk) (s1 : Sat (G.at cv) w1' (wipeD ρ vs) S1 (L2.wipe σ vs) H1') (x1 : Ext w1 S1 H1 w1' S1 H1') (hk : chk S1)
    (e : quantL stop g tt te chk (wipeD ρ vs) ds S1 = some (r, S2)) :
    ∃ W, (∃ m, W 0 m [] H1') ∧ GTurn J gg xt xe vs (L2.wipe σ vs) ds.length (fun _ x H => ∃ b, x = .bl b ∧ (b = stop → r = stop ∧ ∃ w, Core G w S2 H ∧ Ext w1' S1 H1' w S2 H)) (fun _ x => x = .bl (!stop)) (fun _ H => r = !stop ∧ ∃ w, Core G w S2 H ∧ Ext w1' S1 H1' w S2 H) W := by
  refine ⟨fun i m acc H => ∃ w S, Core G w S H ∧ Ext w1' S1 H1' w S H ∧ chk S ∧ i + m = ds.length ∧ acc.length ≤ i ∧ quantL stop g tt te chk (wipeD ρ vs) (ds.drop i) S = some (r, S2),
    ⟨ds.length, w1', S1, s1.core.off, Ext.refl .., hk, Nat.zero_add _, Nat.le_refl _, e⟩, fun i m acc H ⟨w, S, c, x, hc, hm, hl, e⟩ => ?_⟩
  have rr := x1.trans x
  obtain ⟨hstop, hgo⟩ := jd i w S H c rr.fr rr.al rr.sz hc
  cases m with
  | zero =>
    have hi : i = ds.length := by omega
    rw [hi, List.drop_length] at e
    unfold quantL at e
    cases e
    exact .inl ⟨hstop hi, rfl, w, c, x⟩
  | succ m =>
    have hil : i < ds.length := by omega
    rw [List.drop_eq_getElem_cons hil] at e
    obtain ⟨go, hyl⟩ := hgo ds[i] (List.getElem?_eq_getElem hil)
    unfold quantL at e
    refine .inr ⟨go, fun v H2 hyld => ?_⟩
    obtain ⟨w4, c4, x4, d4⟩ := hyl v H2 hyld
    have s4 := s1.ofCore c4.at (x.trans x4)
    split at e
    · rename_i ρ1 Sa h1
      refine eg ds[i] (wipeD ρ vs) S ρ1 Sa h1 w4 _ H2 v s4 d4 _ fun w5 σ5 H5 z5 s5 x5 => ⟨z5.trans wipe_wipe, ?_⟩
      split at e
      · rename_i Sb h2
        refine et ρ1 Sa true Sb h2 w5 σ5 H5 s5 _ fun w6 H6 s6 x6 => ?_
        rw [if_pos rfl]
        split at e
        · rename_i b Sc h3
          refine ee ρ1 Sb _ Sc h3 w6 σ5 H6 s6 _ fun w7 vy H7 s7 x7 d7 => ?_
          have xx := ((x4.trans x5).trans x6).trans x7
          cases den_bl d7
          refine ⟨by omega, ⟨b, rfl, fun hb => ?_⟩, fun hb => ?_⟩
          · rw [if_pos hb] at e
            cases e
            exact ⟨rfl, w7, s7.core.off, x.trans xx⟩
          · have hb : b = !stop := by cases hb; rfl
            rw [if_neg (by rw [hb]; cases stop <;> decide)] at e
            split at e
            · rename_i hck
              exact ⟨m, Nat.lt_succ_self m, w7, Sc, s7.core.off, x.trans xx, hck, by omega, by rw [List.length_append]; show acc.length + 1 ≤ i + 1; omega, e⟩
            · cases e
        · cases e
      · rename_i Sb h2
        refine et ρ1 Sa false Sb h2 w5 σ5 H5 s5 _ fun w6 H6 s6 x6 => ?_
        rw [if_neg (by decide)]
        split at e
        · rename_i hck
          have xx := (x4.trans x5).trans x6
          exact ⟨m, Nat.lt_succ_self m, w6, Sb, s6.core.off, x.trans xx, hck, by omega, by omega, e⟩
        · cases e
      · cases e
    · cases e
theorem gen_q {k : Nat} {stop : Bool} {pins : List (Addr × Obj)} {s : Shared} {σ : L2.St} {H : Hp} {ρ : En} {S S1 S2 : Sto} {w : Wd} {ds : List D} {chk : Sto → Prop} {r : Bool} (hr : Room 1 X.A) (hb : G.base = X.base) (hcv : G.cv = some X.env.code) (hc : X.calm = true) (hN : X.N.Nodup) (bm : ∃ P, X.base.BuiltinsAt X.mg P) (hi : DI X G tg iter ri) (ok : BlkOk X.N X.env.scope scope own)
    (hbd : GBody X G k scope (own.map (·.2)) tg ifs elt g tt te) (hco : scope.isCoroutine = false) (h0 : scope.names.lookup (".0" : Str) = some .local) (hs : ∀ v, genFold iter X.env v = pure v) (I : Inv X pins σ H s) (st : Sat G w ρ S σ H)
    (h1 : ri ρ S = some (ds, chk, S1)) (h2 : quantL stop g tt te chk (wipeD ρ (own.map (·.2))) ds S1 = some (r, S2)) :
    wpAny (model X.prog X.w) X.A (eval (.GeneratorExp elt [⟨tg, iter, ifs, 0⟩] scope gpos) X.env) (GMd X k pins σ ds.length (fun _ x H' => ∃ b, x = .bl b ∧ (b = stop → r = stop ∧ ∃ w', Core G w' S2 H' ∧ Ext w S H w' S2 H')) (fun _ x => x = .bl (!stop)) (fun _ H' => r = !stop ∧ ∃ w', Core G w' S2 H' ∧ Ext w S H w' S2 H')) X.xe s := by
  refine gx_made (k := k) hr hc hN hi.pi ok hco h0 bm hs I ?_
  refine evi_of ρ S ds chk S1 h1 w σ H st _ fun J w1 H1 s1 x1 jd hk => ?_
  obtain ⟨c, P, hcc, hT⟩ := s1.code _ hcv
  refine ⟨w1.tb, c, P, hcc, hb ▸ s1.core.tab, hT, fun H' T' c' P' t' hTT hT' gr s' L cl qn fp pn A hrA => ?_⟩
  obtain ⟨b1, b2, b3⟩ := hbd s' H' L cl qn c' fp pn A hrA
  obtain ⟨c2, x2⟩ := s1.core.grown (hb ▸ t') hTT gr
  have s2 : Sat (G.at (.ref c')) { w1 with tb := T' } (wipeD ρ (own.map (·.2))) S1 (L2.wipe σ (own.map (·.2))) H' := by
    have z := (s1.ofCore c2 x2).wipe (own.map (·.2))
    exact ⟨z.core.at, z.env, z.len, fun v hv => by cases hv; exact ⟨c', P', rfl, hT'⟩⟩
  obtain ⟨W, hW, ht⟩ := gturn_q (G := G) evg_of evt_of ev_of jd s2 x2 hk h2
  have xx := x1.trans x2
  refine ⟨_, _, _, W, b1.pg, b2.pts, b3.pe, hW, fun i m ys Hh hw => ?_⟩
  rcases ht i m ys Hh hw with ⟨a1, b1, w2, b2, b3⟩ | ⟨a1, z⟩
  · exact .inl ⟨a1, b1, w2, b2, xx.trans b3⟩
  · refine .inr ⟨a1, fun x H' hy => ?_⟩
    have z := z x H' hy
    obtain ⟨d, ρ2, Sx, ρ', S', w', z1, z2, z3, z4⟩ := z
    refine ⟨d, ρ2, Sx, ρ', S', w', z1, z2, z3, fun w'' σ' H'' y1 y2 y3 => ?_⟩
    obtain ⟨z5, ρa, Sa, b, Sa', wa, z6, z7, z8⟩ := z4 w'' σ' H'' y1 y2 y3
    refine ⟨z5, ρa, Sa, b, Sa', wa, z6, z7, fun wb Hb y4 y5 => ?_⟩
    have z9 := z8 wb Hb y4 y5
    cases b with
    | false => exact z9
    | true =>
      show teOf (G.at (Value.ref c')) te σ' Hb _
      obtain ⟨ρc, Sc, dc, Sc', wc, y6, y7, y8⟩ := z9
      refine ⟨ρc, Sc, dc, Sc', wc, y6, y7, fun wd vd Hd y9 y10 y11 => ?_⟩
      obtain ⟨u1, ⟨b, u2, u3⟩, u4⟩ := y8 wd vd Hd y9 y10 y11
      exact ⟨u1, ⟨b, u2, fun hb => let ⟨q1, w9, q2, q3⟩ := u3 hb; ⟨q1, w9, q2, xx.trans q3⟩⟩, u4⟩
theorem de_allGen {k : Nat} (hr : Room (k + 5) X.A) (hm : X.mg "all" = none) (hb : G.base = X.base) (hcv : G.cv = some X.env.code) (hc : X.calm = true) (hN : X.N.Nodup) (bm : ∃ P, X.base.BuiltinsAt X.mg P) (hi : DI X G tg iter ri) (ok : BlkOk X.N X.env.scope scope own)
    (hbd : GBody X G k scope (own.map (·.2)) tg ifs elt g tt te) (hg : Gl X "all" := by rfl) (hco : scope.isCoroutine = false := by rfl) (h0 : scope.names.lookup (".0" : Str) = some .local := by rfl) (hs : ∀ v, genFold iter X.env v = pure v := by intro _; rfl)
    (he : starEach [.GeneratorExp elt [⟨tg, iter, ifs, 0⟩] scope gpos] X.env = (false, eval (.GeneratorExp elt [⟨tg, iter, ifs, 0⟩] scope gpos) X.env) :: starEach [] X.env := by rfl) :
    DE X G (.Call (.Name "all" p) [.GeneratorExp elt [⟨tg, iter, ifs, 0⟩] scope gpos] [] pos) (eBl (tGenQ false ri g tt te (own.map (·.2)))) := by
  refine ⟨teOf G _, ⟨fun pins s σ H Q I ⟨ρ, S, d, S', w, e, st, q⟩ => ?_⟩, ev_of⟩
  unfold eBl tGenQ at e
  split at e
  · rename_i r S2 e0
    cases e
    split at e0
    · rename_i ds chk S1 h1
      refine wpAny_Call_Name_kw (ld_blt I hg hm boot_all ?_)
      refine PyProof.Rows.callWith_builtin1 ?_ he (by rfl)
      rw [he]
      show wpAny _ _ (spliced ((false, eval (.GeneratorExp elt [⟨tg, iter, ifs, 0⟩] scope gpos) X.env) :: backTo pos (starEach [] X.env))) _ _ s
      refine Calls.spliced_cons (thn (gen_q (stop := false) (hr.mono (by omega)) hb hcv hc hN bm hi ok hbd hco h0 hs I st h1 e0) fun u s1 hmd => ?_)
      refine Calls.spliced_nil ?_
      refine call_all_md (hr.mono (by omega)) I.ok.frames hmd (fun s2 H2 I2 ⟨hb2, w2, c2, x2⟩ => ?_) (fun s2 H2 I2 ⟨hb2, w2, c2, x2⟩ => ?_)
      · exact ⟨.bl true, H2, I2, rfl, q w2 _ H2 (st.ofCore c2 x2) x2 (by rw [hb2]; exact .bl true)⟩
      · exact ⟨.bl false, H2, I2, rfl, q w2 _ H2 (st.ofCore c2 x2) x2 (by rw [hb2]; exact .bl false)⟩
    · cases e0
  · cases e
theorem de_anyGen {k : Nat} (hr : Room (k + 5) X.A) (hm : X.mg "any" = none) (hb : G.base = X.base) (hcv : G.cv = some X.env.code) (hc : X.calm = true) (hN : X.N.Nodup) (bm : ∃ P, X.base.BuiltinsAt X.mg P) (hi : DI X G tg iter ri) (ok : BlkOk X.N X.env.scope scope own)
    (hbd : GBody X G k scope (own.map (·.2)) tg ifs elt g tt te) (hg : Gl X "any" := by rfl) (hco : scope.isCoroutine = false := by rfl) (h0 : scope.names.lookup (".0" : Str) = some .local := by rfl) (hs : ∀ v, genFold iter X.env v = pure v := by intro _; rfl)
    (he : starEach [.GeneratorExp elt [⟨tg, iter, ifs, 0⟩] scope gpos] X.env = (false, eval (.GeneratorExp elt [⟨tg, iter, ifs, 0⟩] scope gpos) X.env) :: starEach [] X.env := by rfl) :
    DE X G (.Call (.Name "any" p) [.GeneratorExp elt [⟨tg, iter, ifs, 0⟩] scope gpos] [] pos) (eBl (tGenQ true ri g tt te (own.map (·.2)))) := by
  refine ⟨teOf G _, ⟨fun pins s σ H Q I ⟨ρ, S, d, S', w, e, st, q⟩ => ?_⟩, ev_of⟩
  unfold eBl tGenQ at e
  split at e
  · rename_i r S2 e0
    cases e
    split at e0
    · rename_i ds chk S1 h1
      refine wpAny_Call_Name_kw (ld_blt I hg hm boot_any ?_)
      refine PyProof.Rows.callWith_builtin1 ?_ he (by rfl)
      rw [he]
      show wpAny _ _ (spliced ((false, eval (.GeneratorExp elt [⟨tg, iter, ifs, 0⟩] scope gpos) X.env) :: backTo pos (starEach [] X.env))) _ _ s
      refine Calls.spliced_cons (thn (gen_q (stop := true) (hr.mono (by omega)) hb hcv hc hN bm hi ok hbd hco h0 hs I st h1 e0) fun u s1 hmd => ?_)
      refine Calls.spliced_nil ?_
      refine call_any_md (hr.mono (by omega)) I.ok.frames hmd (fun s2 H2 I2 ⟨hb2, w2, c2, x2⟩ => ?_) (fun s2 H2 I2 ⟨hb2, w2, c2, x2⟩ => ?_)
      · exact ⟨.bl true, H2, I2, rfl, q w2 _ H2 (st.ofCore c2 x2) x2 (by rw [hb2]; exact .bl true)⟩
      · exact ⟨.bl false, H2, I2, rfl, q w2 _ H2 (st.ofCore c2 x2) x2 (by rw [hb2]; exact .bl false)⟩
    · cases e0
  · cases e
end
end DL

set_option maxRecDepth 100000
set_option maxHeartbeats 4000000
set_option pp.maxSteps 900
namespace DL
open PySem PySem.Spec PyProof.Rows L2 GX
open Classical

abbrev FD := List D → Sto → Option (D × Sto)
def SpD (G : Gc) (F : FD) : Sp := fun vs H Q _ => ∃ w S ds d S', Core G w S H ∧ DenL w S.length vs ds ∧ F ds S = some (d, S') ∧ ∀ w' v H', Core G w' S' H' → Ext w S H w' S' H' → Den w' S'.length v d → Q v H'
/-- a def of the text that computes F -/
structure DFn (P : Program) (wd : World) (G : Gc) (mg : Str → Option Value) (k : Nat) (x : Str) (f : Addr) (fd : FuncData) (ps : List Str) (F : FD) : Prop where
  ok : FnOk P wd G.K mg G.base CX0 k f fd ps (SpD G F)
  kp : PySem.W.keepIn G.K (.ref f) = true
  bd : Binds G.K fd ps []
  mg : mg x = some (.ref f)
section
variable {G : Gc} {X : Cx} {pos p : Pos} {e : Expr} {es : List Expr} {ra : RA} {x : Str} {f : Addr} {fd : FuncData} {ps : List Str} {F : FD} {k : Nat}
theorem sp_cv {G : Gc} {cv : Option Value} {F : FD} {vs : List V} {H : Hp} {Q : VK} {E : XK} {w : Wd} {S S' : Sto} {ds : List D} {d : D} (c : Core { G with cv := cv } w S H) (l : DenL w S.length vs ds) (e : F ds S = some (d, S'))
    (q : ∀ w' v H', Core { G with cv := cv } w' S' H' → Ext w S H w' S' H' → Den w' S'.length v d → Q v H') : SpD G F vs H Q E :=
  ⟨w, S, ds, d, S', ⟨c.sub, c.fro, c.cel, c.inj, c.tab, c.t0⟩, l, e, fun w' v H' c' x d => q w' v H' ⟨c'.sub, c'.fro, c'.cel, c'.inj, c'.tab, c'.t0⟩ x d⟩
theorem ev_call {cv : Option Value} {E : XK} {ta : TA} (ha : EvA { G with cv := cv } ta ra) : Ev { G with cv := cv } (tCall (SpD G F) [] E ta) (eA F ra) := fun ρ S d S' e w σ H s Q q => by
  unfold eA at e
  split at e
  · rename_i xs S1 h1
    refine ha ρ S xs S1 h1 w σ H s _ fun w1 vs H1 s1 x1 d1 => ?_
    rw [List.append_nil]
    exact sp_cv s1.core d1 e fun w2 v H2 c2 x2 d2 => q w2 v H2 (s1.ofCore c2 x2) (x1.trans x2) d2
  · cases e
theorem de_call {cv : Option Value} (hf : DFn X.prog X.w G X.mg k x f fd ps F) (hr : Room k X.A) (hK : X.K = G.K) (hB : X.base = G.base) (ha : DA X { G with cv := cv } (e :: es) ra) (hg : Gl X x := by rfl) (hdb : (x == ("__debug__" : Str)) = false := by decide)
    (he : starEach (e :: es) X.env = (false, eval e X.env) :: starEach es X.env := by rfl) (hpl : (backTo pos (starEach es X.env)).any (·.1) = false := by rfl) : DE X { G with cv := cv } (.Call (.Name x p) (e :: es) [] pos) (eA F ra) :=
  let ⟨_, pa, ea⟩ := ha
  ⟨_, pe_call (E := E0) (by rw [hK, hB]; exact hf.ok) hr hg hf.mg (by rw [hK]; exact hf.kp) (by rw [hK]; exact hf.bd) .nil pass0 pa hdb he hpl, ev_call ea⟩

/-! ### the end of a def -/
mutual
@[simp] def clos (n : Nat) : D → Bool
  | .obj k => decide (k < n)
  | .tup xs => closL n xs
  | .lst xs => closL n xs
  | .scr xs => closL n xs
  | _ => true
@[simp] def closL (n : Nat) : List D → Bool
  | [] => true
  | x :: r => clos n x && closL n r
end
mutual
theorem Den.clos {w : Wd} {n m : Nat} : ∀ {v : V} {d : D}, Den w n v d → clos m d = true → Den w m v d
  | _, _, .non, _ => .non
  | _, _, .bl b, _ => .bl b
  | _, _, .int i, _ => .int i
  | _, _, .str x, _ => .str x
  | _, _, .tup r h, e => .tup r (DenL.clos h (by simpa [DL.clos] using e))
  | _, _, .lst r h, e => .lst r (DenL.clos h (by simpa [DL.clos] using e))
  | _, _, .scr r h, e => .scr r (DenL.clos h (by simpa [DL.clos] using e))
  | _, _, .obj h, e => .obj (by simpa [DL.clos] using e)
theorem DenL.clos {w : Wd} {n m : Nat} : ∀ {v : List V} {d : List D}, DenL w n v d → closL m d = true → DenL w m v d
  | _, _, .nil, _ => .nil
  | _, _, .cons h t, e => by
    have e : (DL.clos m _ && closL m _) = true := e
    rw [Bool.and_eq_true] at e
    exact .cons (Den.clos h e.1) (DenL.clos t e.2)
end
mutual
theorem Den.is_clos {w : Wd} {n : Nat} : ∀ {v : V} {d : D}, Den w n v d → clos n d = true
  | _, _, .non => rfl
  | _, _, .bl b => rfl
  | _, _, .int i => rfl
  | _, _, .str x => rfl
  | _, _, .tup r h => DenL.is_clos h
  | _, _, .lst r h => DenL.is_clos h
  | _, _, .scr r h => DenL.is_clos h
  | _, _, .obj h => decide_eq_true h
theorem DenL.is_clos {w : Wd} {n : Nat} : ∀ {v : List V} {d : List D}, DenL w n v d → closL n d = true
  | _, _, .nil => rfl
  | _, _, .cons h t => by
    show (DL.clos n _ && closL n _) = true
    rw [h.is_clos, t.is_clos]; rfl
end
theorem DenK.clos {w : Wd} {n m : Nat} {kvs : List (D × D)} {xs : List (NestedKey × Addr × Value)} (h : DenK w n kvs xs) (e : kvs.all (fun p => DL.clos m p.1 && DL.clos m p.2) = true) : DenK w m kvs xs := by
  induction h with
  | nil => exact .nil
  | cons h1 h2 h3 h4 h5 _ ih =>
    rw [List.all_cons, Bool.and_eq_true, Bool.and_eq_true] at e
    exact .cons h1 h2 (h3.clos e.1.1) h4 (h5.clos e.1.2) (ih e.2)
theorem DenK.is_clos {w : Wd} {n : Nat} {kvs : List (D × D)} {xs : List (NestedKey × Addr × Value)} (h : DenK w n kvs xs) : kvs.all (fun p => DL.clos n p.1 && DL.clos n p.2) = true := by
  induction h with
  | nil => rfl
  | cons h1 h2 h3 h4 h5 _ ih => rw [List.all_cons, ih, h3.is_clos, h5.is_clos]; rfl
@[simp] def cellClos (n : Nat) : Cell → Bool
  | .lst xs => closL n xs
  | .dct kvs => kvs.all fun p => clos n p.1 && clos n p.2
  | _ => true
theorem Core.cell_clos {w : Wd} {S : Sto} {H : Hp} (c : Core G w S H) : ∀ ce ∈ S, cellClos S.length ce = true := fun ce h => by
  obtain ⟨k, hk⟩ := List.getElem?_of_mem h
  obtain ⟨_, _, h4⟩ := c.cel k ce hk
  cases ce with
  | lst ds => obtain ⟨vs, _, l⟩ := h4; exact l.is_clos
  | dct _ => obtain ⟨xs, _, _, _, l⟩ := h4; exact l.is_clos
  | dead => rfl
/-- what lies behind the first n is forgotten -/
theorem Core.take {w0 w : Wd} {S0 S : Sto} {H0 H : Hp} (c : Core G w S H) (x : Ext w0 S0 H0 w S H) (hc : ∀ ce ∈ S.take S0.length, cellClos S0.length ce = true) :
    Core G w (S.take S0.length) H ∧ Ext w0 S0 H0 w (S.take S0.length) H := by
  have ln : (S.take S0.length).length = S0.length := by rw [List.length_take]; have := x.sz; omega
  refine ⟨⟨c.sub, c.fro, fun k ce h => ?_, fun j k hj hk e => ?_, c.tab, c.t0⟩, ⟨x.al, x.fr, x.tb, by rw [ln]; exact Nat.le_refl _, fun k h1 h2 => by rw [ln] at h2; omega, x.keep, x.non, x.frn⟩⟩
  · have hk : k < S0.length := by have := (List.getElem?_eq_some_iff.mp h).1; rw [ln] at this; exact this
    have hm : ce ∈ S.take S0.length := List.mem_of_getElem? h
    rw [List.getElem?_take_of_lt hk] at h
    obtain ⟨h1, h2, h4⟩ := c.cel k ce h
    refine ⟨h1, h2, ?_⟩
    have hcc := hc ce hm
    cases ce with
    | lst ds => obtain ⟨vs, e, l⟩ := h4; exact ⟨vs, e, by rw [ln]; exact l.clos hcc⟩
    | dct _ => obtain ⟨xs, e, r1, r2, l⟩ := h4; exact ⟨xs, e, r1, r2, by rw [ln]; exact l.clos hcc⟩
    | dead => trivial
  · rw [ln] at hj hk
    have := x.sz
    exact c.inj j k (by omega) (by omega) e
/-- how a def ends: the result and the store for the caller -/
def FinOk (fin : D → Sto → Sto → Option (D × Sto)) : Prop := ∀ (G : Gc) (w0 w : Wd) (S0 S S' : Sto) (H0 H : Hp) (v : V) (d d' : D), Core G w0 S0 H0 → Core G w S H → Ext w0 S0 H0 w S H → Den w S.length v d → fin d S0 S = some (d', S') →
  ∃ w', Core G w' S' H ∧ Ext w0 S0 H0 w' S' H ∧ Den w' S'.length v d'
/-- all stays -/
@[simp] def finK : D → Sto → Sto → Option (D × Sto) := fun d _ S => some (d, S)
theorem finK_ok : FinOk finK := fun G w0 w S0 S S' H0 H v d d' c0 c x hd e => by cases e; exact ⟨w, c, x, hd⟩
/-- own lists are forgotten, a returned one is frozen -/
@[simp] def frzD (n : Nat) (d : D) (S : Sto) : Option D := match d with
  | .obj k => if k < n then some (.obj k) else (match S[k]? with | some (.lst xs) => if closL n xs = true then some (.lst xs) else none | _ => none)
  | d => if clos n d = true then some d else none
theorem frz_ok {w0 w : Wd} {S0 S : Sto} {H0 H : Hp} {v : V} {d d' : D} (c : Core G w S H) (x : Ext w0 S0 H0 w S H) (hd : Den w S.length v d) (e : frzD S0.length d S = some d') (hc : ∀ ce ∈ S.take S0.length, cellClos S0.length ce = true) :
    ∃ w', Core G w' (S.take S0.length) H ∧ Ext w0 S0 H0 w' (S.take S0.length) H ∧ Den w' (S.take S0.length).length v d' := by
  have ln : (S.take S0.length).length = S0.length := by rw [List.length_take]; have := x.sz; omega
  obtain ⟨c1, x1⟩ := c.take x hc
  unfold frzD at e
  split at e
  · rename_i k
    split at e
    · rename_i hk
      cases e
      exact ⟨w, c1, x1, hd.clos (by rw [ln]; exact decide_eq_true hk)⟩
    · rename_i hk
      split at e
      · rename_i xs hx
        split at e
        · rename_i hcl
          cases e
          have hkl : k < S.length := (List.getElem?_eq_some_iff.mp hx).1
          obtain ⟨g1, _, vs, g3, l⟩ := c.cel k _ hx
          cases hd with
          | obj _ =>
            have al : ∀ j, j < (S.take S0.length).length → w.al j ≠ w.al k := fun j hj z => by
              rw [ln] at hj
              have := c.inj j k (by have := x.sz; omega) hkl z
              omega
            refine ⟨_, c1.freeze g3 (.inr ⟨vs, rfl⟩) g1 al, ⟨x1.al, fun b u e => ?_, x1.tb, x1.sz, x1.new, x1.keep, x1.non, fun b u e => ?_⟩, den_newL (l.clos (by rw [ln]; exact hcl)) g1⟩
            · have e := x1.fr b u e
              show upd w.fr (w.al k) _ b = some u
              rw [upd_ne (ne_of_none e g1)]; exact e
            · by_cases h : b = w.al k
              · exact .inr (.inl (by rw [h]; exact x.new k (Nat.not_lt.mp hk) hkl))
              · have e : upd w.fr (w.al k) (.lst vs) b = some u := e
                rw [upd_ne h] at e; exact x1.frn b u e
        · cases e
      · cases e
  · split at e
    · rename_i hcl
      cases e
      exact ⟨w, c1, x1, hd.clos (by rw [ln]; exact hcl)⟩
    · cases e
/-- .. the store is as it was -/
@[simp] noncomputable def finP : D → Sto → Sto → Option (D × Sto) := fun d S0 S => match frzD S0.length d S with
  | some d' => if S.take S0.length = S0 then some (d', S0) else none
  | none => none
theorem finP_ok : FinOk finP := fun G w0 w S0 S S' H0 H v d d' c0 c x hd e => by
  unfold finP at e
  split at e
  · rename_i d2 h2
    split at e
    · rename_i ht
      cases e
      obtain ⟨w', c', x', d'⟩ := frz_ok c x hd h2 (by rw [ht]; exact c0.cell_clos)
      rw [ht] at c' x' d'
      exact ⟨w', c', x', d'⟩
    · cases e
  · cases e
/-- .. the store may have changed -/
@[simp] def finM : D → Sto → Sto → Option (D × Sto) := fun d S0 S => match frzD S0.length d S with
  | some d' => if ((S.take S0.length).all (cellClos S0.length)) = true then some (d', S.take S0.length) else none
  | none => none
theorem finM_ok : FinOk finM := fun G w0 w S0 S S' H0 H v d d' c0 c x hd e => by
  unfold finM at e
  split at e
  · rename_i d2 h2
    split at e
    · rename_i ht
      cases e
      exact frz_ok c x hd h2 (by rw [List.all_eq_true] at ht; exact ht)
    · cases e
  · cases e
/-- a def: n parameters, m names -/
@[simp] def startD (m : Nat) (ds : List D) : En := ds.map some ++ List.replicate (m - ds.length) none
@[simp] def fnD (n m : Nat) (fin : D → Sto → Sto → Option (D × Sto)) (t : RS) : FD := fun ds S => if ds.length = n then (match t (startD m ds) S with
  | some (.rt d S1) => fin d S S1
  | some (.nx _ S1) => fin .non S S1
  | _ => none) else none
theorem sat_start {cv : Option Value} {w : Wd} {S : Sto} {H : Hp} {vs : List V} {ds : List D} {N : List Str} (c : Core G w S H) (l : DenL w S.length vs ds) (hcv : ∀ v, cv = some v → ∃ c P, v = .ref c ∧ G.t0 c P) : Sat { G with cv := cv } w (startD N.length ds) S (start N vs) H := by
  refine ⟨⟨c.sub, c.fro, c.cel, c.inj, c.tab, c.t0⟩, fun i d h => ?_, ?_, fun v hv => let ⟨a, b, h1, h2⟩ := hcv v hv; ⟨a, b, h1, c.t0 _ _ h2⟩⟩
  · unfold startD at h
    by_cases hi : i < ds.length
    · rw [List.getElem?_append_left (by simpa using hi), List.getElem?_map] at h
      cases q : ds[i]? with
      | none => rw [q] at h; cases h
      | some d0 =>
        rw [q] at h
        cases h
        obtain ⟨v, hv, dv⟩ := l.get q
        refine ⟨v, ?_, dv⟩
        unfold L2.start
        rw [List.getElem?_append_left (by rw [List.length_map, l.len]; exact hi), List.getElem?_map, hv]
        rfl
    · rw [List.getElem?_append_right (by simpa using hi), List.getElem?_replicate] at h
      split at h <;> cases h
  · unfold startD L2.start
    simp only [List.length_append, List.length_map, List.length_replicate, l.len]
theorem fn_d {P : Program} {wd : World} {mg : Str → Option Value} {name qual : Str} {params : Arguments} {body : List Stmt} {scope : Scope} {dV kV doc pm cdv ct oc : Value} {an od : Option Addr} {osl : Array (Option Value)} {N : List Str} {fin : D → Sto → Sto → Option (D × Sto)} {t : RS} {cv : Option Value}
    (lk : G.K.lookup f = some ⟨oc, od, .func (PySem.W.fnOf name qual params body scope dV kV doc pm an cdv ct), osl⟩) (hcd : PySem.W.codeIn G.K cdv qual = true) (Sc : FnScope N ps scope) (hfin : FinOk fin)
    (hcv : ∀ v, cv = some v → ∃ c P, v = .ref c ∧ G.t0 c P)
    (hbody : ∀ (A : Around) (outer : List Env) (s : Shared) (H : Hp) (E : XK), Room k (A.deeper (envOfC qual scope s.heap.objs.size f cdv)) → DSs (cxOf CX0 P wd G.K mg G.base N qual scope f cdv A outer s H E).nox { G with cv := cv } body t) :
    FnOk P wd G.K mg G.base CX0 (k + 1) f (PySem.W.fnOf name qual params body scope dV kV doc pm an cdv ct) ps (SpD G (fnD ps.length N.length fin t)) := by
  refine fn_of lk hcd Sc (fun vs H Q E h => ?_) fun A outer s H vs Q E hr h => ?_
  · obtain ⟨w, S, ds, d, S', c, l, e, q⟩ := h
    unfold fnD at e
    split at e
    · rename_i hl; rw [l.len]; exact hl
    · cases e
  · obtain ⟨w, S, ds, d, S', c, l, e, q⟩ := h
    unfold fnD at e
    split at e
    · rename_i hl
      obtain ⟨ts, p, ev⟩ := hbody A outer s H E hr
      have st := sat_start (N := N) (cv := cv) c l hcv
      split at e
      · rename_i d1 S1 h1
        refine ⟨ts, p.nox, ev _ _ _ h1 w _ H st _ fun w1 v H1 c1 x1 d1 => ?_⟩
        have c1 : Core G w1 S1 H1 := ⟨c1.sub, c1.fro, c1.cel, c1.inj, c1.tab, c1.t0⟩
        obtain ⟨w2, c2, x2, d2⟩ := hfin G w w1 S S1 S' H H1 v _ d c c1 x1 d1 e
        exact q w2 v H1 c2 x2 d2
      · rename_i ρ1 S1 h1
        refine ⟨ts, p.nox, ev _ _ _ h1 w _ H st _ fun w1 σ1 H1 s1 x1 => ?_⟩
        have c1 : Core G w1 S1 H1 := ⟨s1.core.sub, s1.core.fro, s1.core.cel, s1.core.inj, s1.core.tab, s1.core.t0⟩
        obtain ⟨w2, c2, x2, d2⟩ := hfin G w w1 S S1 S' H H1 .non _ d c c1 x1 .non e
        exact q w2 .non H1 c2 x2 d2
      · cases e
    · cases e
end
end DL

set_option maxRecDepth 100000
set_option maxHeartbeats 4000000
set_option pp.maxSteps 900
namespace DL
open PySem PySem.Spec PyProof.Rows L2 GX
open Classical

/-! ### a list or a tuple -/
inductive SK where | l | t
def SqX (k : SK) (K : PySem.W.Frag) (H : Hp) (a : Addr) (xs : List V) : Prop := match k with | .l => SqL K H a xs | .t => SqT K H a xs
def IsX (k : SK) (h : Heap) (a : Addr) (its : Array Value) : Prop := match k with | .l => h.IsList a its | .t => h.IsTuple a its
def ItX (k : SK) (h : Heap) (it a : Addr) (i : Nat) : Prop := match k with | .l => h.IsListIter it a i | .t => h.IsTupleIter it a i
def obX (k : SK) (a : Addr) : Obj := match k with | .l => { cls := .type "list_iterator", data := .fields #[.ref a, .int 0 0] } | .t => { cls := .type "tuple_iterator", data := .fields #[.ref a, .int 0 0] }
section
variable {X : Cx} {G : Gc} {pins : List (Addr × Obj)} {σ : L2.St} {H : Hp} {s : Shared} {a : Addr} {xs ys : List V} {k k2 : SK}
theorem inv_sx (I : Inv X pins σ H s) (h : SqX k X.K H a xs) : ∃ its : List Value, Vals xs its ∧ IsX k s.heap a its.toArray ∧ a < s.heap.objs.size := by
  cases k with
  | l => obtain ⟨its, r, p, _⟩ := I.list h; exact ⟨its, r, p.isList, p.lt⟩
  | t => obtain ⟨its, r, p, _⟩ := I.tuple h; exact ⟨its, r, p, let ⟨o, e, _⟩ := p; Heap.lt_size e⟩
theorem sx_inj (I : Inv X pins σ H s) (h : SqX k X.K H a xs) (h' : SqX k X.K H a ys) : xs = ys := by
  cases k with
  | l => exact I.list_inj h h'
  | t => exact I.tuple_inj h h'
theorem dr_x {prog : Program} {w : World} {A : Around} (hh : A.handled = none) (it : Addr) (hne : a ≠ it) (items : Array Value) : Draws prog w A it [it, a] items.size (fun i v => items[i]? = some v) (fun i h => ItX k h it a i ∧ IsX k h a items) := by
  cases k with
  | l => exact Draws.list hh it a hne items
  | t => exact Draws.tuple hh it a hne items
theorem bg_x (items : Array Value) : Begins (.ref a) (obX k a) fun h => IsX k h a items := by
  cases k with
  | l => exact begins_list a items
  | t => exact begins_tuple a items
theorem it_new {h : Heap} {it : Addr} (e : h.get? it = some (obX k a)) : ItX k h it a 0 := by
  cases k with
  | l => exact ⟨_, e, rfl, rfl⟩
  | t => exact ⟨_, e, rfl, rfl⟩
theorem it_at {h h' : Heap} {it : Addr} {i : Nat} (x : ItX k h it a i) (e : ∀ o, h.get? it = some o → h'.get? it = some o) : ItX k h' it a i := by
  cases k with
  | l => exact Heap.IsListIter.at x e
  | t => exact Heap.IsTupleIter.at x e
theorem it_obj {h : Heap} {it : Addr} {i : Nat} (x : ItX k h it a i) : ∃ o, h.get? it = some o ∧ ∀ v, o.data ≠ .cell v := by
  cases k with
  | l => obtain ⟨o, e, _, d⟩ := x; exact ⟨o, e, fun v q => by rw [d] at q; cases q⟩
  | t => obtain ⟨o, e, _, d⟩ := x; exact ⟨o, e, fun v q => by rw [d] at q; cases q⟩
theorem is_at {h h' : Heap} {its : Array Value} (x : IsX k h a its) (e : ∀ o, h.get? a = some o → h'.get? a = some o) : IsX k h' a its := by
  cases k with
  | l => exact Heap.IsList.at x e
  | t => exact Heap.IsTuple.at x e

/-! ### enumerate -/
def ItE (k : SK) (K : PySem.W.Frag) (a : Addr) : It :=
  ⟨fun i H => ∃ (xs : List V) (x : V), SqX k K H a xs ∧ xs[i]? = some x, fun i H v H' => ∃ T x, v = .ref T ∧ H T = none ∧ H' = upd H T (.tup [.int (i : Nat), x]) ∧ ∀ xs, SqX k K H a xs → xs[i]? = some x, fun i H => ∃ xs : List V, SqX k K H a xs ∧ xs.length = i⟩
theorem turn_e {P : Program} {w : World} {K : PySem.W.Frag} {elts : List Expr} {kk : Nat} {tpos : Pos} (e it : Addr) (hei : e ≠ it) (hea : e ≠ a) (hia : a ≠ it) :
    L2.Turn P w K (.Tuple elts kk tpos) (ItE k K a) [e, it] e (fun i h => (∃ old, IsEnum h e it ((i : Nat) : Int) old) ∧ ItX k h it a i) where
  mem := by simp
  obj := fun i h st b hb => by
    obtain ⟨⟨old, he⟩, hit⟩ := st
    have z : b = e ∨ b = it := by simpa using hb
    rcases z with z | z
    · rw [z]; exact ⟨_, he, fun v q => nomatch q⟩
    · rw [z]; exact it_obj hit
  keep := fun i h h' st q => let ⟨⟨old, he⟩, hi⟩ := st; ⟨⟨old, q e (by simp) _ he⟩, it_at hi fun o z => q it (by simp) o z⟩
  item := by
    intro X hP hw hK hc i pins s σ H E I hf st hg
    subst hP hw hK
    obtain ⟨⟨old, he⟩, hit⟩ := st
    obtain ⟨xs, x, hq, hx⟩ := hg
    obtain ⟨its, rv, p, hal⟩ := inv_sx I hq
    obtain ⟨u, hu, ru⟩ := rv.get hx
    have hel : e < s.heap.objs.size := Heap.lt_size he
    have hil : it < s.heap.objs.size := by obtain ⟨_, q, _⟩ := it_obj hit; exact Heap.lt_size q
    have hlt : i < its.toArray.size := by
      rw [List.size_toArray, ← rv.length]
      exact (List.getElem?_eq_some_iff.mp hx).1
    refine wpAny_pyNext_enum_itemD (dr_x (A := X.A.in1) (k := k) (I.ok.hd hc) it hia its.toArray) he ⟨hit, p⟩ hlt hei (by simp [hei, hea]) fun u' h' tk hu' ho st' hT hsz hk => ?_
    have eu : u' = u := by
      have z : its.toArray[i]? = some u := by simpa using hu
      rw [z] at hu'; cases hu'; rfl
    subst eu
    refine ⟨_, rfl, wpAny_letOwnedTupleGo_enum (s := { s with heap := h', toks := tk + 1 }) ho fun h'' he' sb => ?_⟩
    have hT2 : h''.get? s.heap.objs.size = some { cls := .type "tuple", data := .seq #[.int i tk, u'] } := (sb.2 _ (Nat.ne_of_gt hel)).trans hT
    have new : ObjOk X.prog X.w (upd H s.heap.objs.size (.tup [.int (i : Nat), x])) h'' s.heap.objs.size (.tup [.int (i : Nat), x]) :=
      ⟨by show 2 ≤ sizeLine; decide, [.int i tk, u'], .cons ⟨_, rfl⟩ (.cons ru .nil), ⟨_, hT2, rfl, _, rfl⟩⟩
    have I1 : Inv X pins σ (upd H s.heap.objs.size (.tup [.int (i : Nat), x])) { s with heap := h'', toks := tk + 1 } :=
      I.turnedNew (ch := [e, it]) (fun b ob hb q => (sb.2 b (fun z => hb (by simp [z]))).trans (hk b ob (fun z => hb (by simp [z])) (fun z => hb (by simp [z])) q)) hf (Nat.le_refl _) new
    refine ⟨.ref s.heap.objs.size, _, I1, rfl, ⟨_, x, rfl, I.hok.fresh (Nat.le_refl _), rfl, fun l hl => by rw [sx_inj I hl hq]; exact hx⟩, ⟨⟨u', ?_⟩, it_at st'.1 fun o q => (sb.2 it (Ne.symm hei)).trans q⟩, fun b hb => ?_⟩
    · have e1 : ((i + 1 : Nat) : Int) = (i : Int) + 1 := by omega
      rw [e1]; exact he'
    · have hb2 : b < s.heap.objs.size := by
        have z : b = e ∨ b = it := by simpa using hb
        rcases z with z | z
        · rw [z]; exact hel
        · rw [z]; exact hil
      rw [upd_ne (Nat.ne_of_lt hb2)]
      exact (hf b hb).1
  done := by
    intro X hP hw hK hc i pins s σ H E I hf st hg
    subst hP hw hK
    obtain ⟨⟨old, he⟩, hit⟩ := st
    obtain ⟨xs, hq, hx⟩ := hg
    obtain ⟨its, rv, p, hal⟩ := inv_sx I hq
    obtain ⟨f0, f1, f2, f3, f4, f5⟩ := hf it (by simp)
    have hi : i = its.toArray.size := by rw [List.size_toArray, ← rv.length]; exact hx.symm
    refine wpAny_pyNext_enum_endD (dr_x (A := X.A.in1) (k := k) (I.ok.hd hc) it hia its.toArray) he ⟨by rw [← hi]; exact hit, p⟩ fun h' eb => ⟨rfl, I.turned (t' := s.toks) (fun b o hb q => eb b o hb q) f0 f1 f3 f4 f5⟩
  self := fun A i s Q E st h => let ⟨⟨_, he⟩, _⟩ := st; wpAny_pyIter_enum he h
theorem meets_enum1 {v : Value} {o : Obj} {Hh : Heap → Prop} (B : Begins v o Hh) :
    Meets (Builtin.«enumerate.__new__» ⟨[.type "enumerate", v], []⟩) (fun _ R s => Hh s.heap ∧
      R (.ok (.ret (.ref (s.heap.push o).objs.size))) { s with heap := (s.heap.push o).push { cls := .type "enumerate", data := .fields #[.none, .bool false, .ref s.heap.objs.size, rawInt 0, .none, .none] } }) :=
  .of_wp fun prog w A R s h => by
    obtain ⟨hp, g, d, tk, os⟩ := s
    obtain ⟨h1, h⟩ := h
    have hsub := sub_enumerate
    have q1 : ∀ {A' : Around} {E : Value → Shared → Prop} {Q : Value → Shared → Prop}, Q (.ref hp.objs.size) ⟨hp.push o, g, d, tk, os⟩ → wpAny (model prog w) A' (pyIter v) Q E ⟨hp, g, d, tk, os⟩ :=
      fun q => B.iter prog w _ _ ⟨hp, g, d, tk, os⟩ _ h1 q
    wp_walk using q1
    refine wpAny_stack_any fun st => wpAny_pure ?_
    split
    · rename_i c _ _ _ _ _
      cases (c == Value.type "enumerate")
      · wp_walk using q1
        exact ⟨_, rfl, h⟩
      · wp_walk using q1
        exact ⟨_, rfl, h⟩
    · wp_walk using q1
      exact ⟨_, rfl, h⟩
theorem enum1_begins {prog : Program} {w : World} {A : Around} {E : Value → Shared → Prop} {s : Shared} {v : Value} {o : Obj} {Hh : Heap → Prop} {Q : Value → Shared → Prop} (B : Begins v o Hh) (h1 : Hh s.heap)
    (h : ∀ h', IsEnum h' (s.heap.objs.size + 1) s.heap.objs.size 0 .none → h'.get? s.heap.objs.size = some o → (∀ b o, s.heap.get? b = some o → h'.get? b = some o) → Q (.ref (s.heap.objs.size + 1)) { s with heap := h' }) :
    wpAny (model prog w) A (call (.type "enumerate") [v]) Q E s := by
  refine callType_new F.called_enumerate (by decide) (F.typeCall_enumerate_1 _) (F.newCall_enumerate_1 _) (fun obj => F.args_object_init_2 obj _) F.entry_enumerate_new (meets_enum1 B) ⟨h1, ?_⟩
  have hz : (s.heap.push o).objs.size = s.heap.objs.size + 1 := Heap.size_push ..
  show _ ∧ _
  rw [hz]
  have he : IsEnum ((s.heap.push o).push { cls := .type "enumerate", data := .fields #[.none, .bool false, .ref s.heap.objs.size, rawInt 0, .none, .none] }) (s.heap.objs.size + 1) s.heap.objs.size 0 .none := by
    have q := Heap.get?_push_size (s.heap.push o) (o := { cls := .type "enumerate", data := .fields #[.none, .bool false, .ref s.heap.objs.size, rawInt 0, .none, .none] }) rfl
    rw [hz] at q; exact q
  exact ⟨⟨_, he, rfl⟩, h _ he (Heap.get?_push_of_some _ (Heap.get?_push_size _ B.free)) fun b o x => Heap.get?_push_of_some _ (Heap.get?_push_of_some _ x)⟩
def iEnX (K : PySem.W.Frag) (ta : TA) : TI := fun σ H R => ta σ H fun vs H1 => ∃ k a xs, vs = [.ref a] ∧ SqX k K H1 a xs ∧ R (ItE k K a) H1
theorem pi_enX {X : Cx} {e : Expr} {ta : TA} {p pos tpos : Pos} {elts : List Expr} {kk : Nat} (hg : Gl X "enumerate") (hm : X.mg "enumerate" = none) (ha : PA X [e] ta) (hs : starEach [e] X.env = [(false, eval e X.env)] := by rfl) :
    PI X (.Tuple elts kk tpos) (.Call (.Name "enumerate" p) [e] [] pos) (iEnX X.K ta) := by
  refine ⟨fun pins s σ H R I h => ?_⟩
  refine Call_ (ld_blt I hg hm boot_enumerate (PyProof.Rows.callWith_type1 (thn (ha.run pos pins s σ H _ I h) fun us s1 ⟨vs, H1, I1, r1, q1⟩ => ?_) hs rfl))
  obtain ⟨k, a, xs, ex, hq, q⟩ := q1
  subst ex
  cases r1 with
  | cons r rr =>
    cases rr
    cases r
    obtain ⟨its, rv, p', hal⟩ := inv_sx I1 hq
    refine enum1_begins (bg_x (k := k) its.toArray) p' fun h' he hit hk => wpAny_pyIter_enum he ?_
    have I2 : Inv X pins σ H1 { s1 with heap := h' } := I1.kept (t' := s1.toks) hk
    refine ⟨s1.heap.objs.size + 1, [s1.heap.objs.size + 1, s1.heap.objs.size], _, _, H1, rfl, I2, turn_e (k := k) (a := a) (s1.heap.objs.size + 1) s1.heap.objs.size (Nat.succ_ne_self _) (Nat.ne_of_gt (Nat.lt_succ_of_lt hal)) (Nat.ne_of_lt hal), ⟨⟨.none, he⟩, it_new hit⟩, fun b hb => ?_, q⟩
    have z : b = s1.heap.objs.size + 1 ∨ b = s1.heap.objs.size := by simpa using hb
    have hle : s1.heap.objs.size ≤ b := by
      rcases z with z | z
      · rw [z]; exact Nat.le_add_right _ _
      · rw [z]; exact Nat.le_refl _
    exact I1.fpOk hle (I1.hok.fresh hle)

/-! ### zip of two -/
def ItZ (k k2 : SK) (K : PySem.W.Frag) (a b : Addr) : It :=
  ⟨fun i H => ∃ (xs ys : List V) (x y : V), SqX k K H a xs ∧ SqX k2 K H b ys ∧ xs[i]? = some x ∧ ys[i]? = some y,
    fun i H v H' => ∃ T x y, v = .ref T ∧ H T = none ∧ H' = upd H T (.tup [x, y]) ∧ (∀ xs, SqX k K H a xs → xs[i]? = some x) ∧ ∀ ys, SqX k2 K H b ys → ys[i]? = some y,
    fun i H => ∃ xs ys : List V, SqX k K H a xs ∧ SqX k2 K H b ys ∧ i ≤ xs.length ∧ i ≤ ys.length ∧ (i = xs.length ∨ i = ys.length)⟩
theorem turn_z {P : Program} {w : World} {K : PySem.W.Frag} {elts : List Expr} {kk : Nat} {tpos : Pos} {b z TI TO i1 i2 : Addr} (Sp : ZipSep2 z TI TO i1 i2 [i1, a] [i2, b]) (ha : a ≠ i1) (hb : b ≠ i2) :
    L2.Turn P w K (.Tuple elts kk tpos) (ItZ k k2 K a b) [z, TI, TO, i1, i2] z (fun i h => IsZip h z TI TO .none ∧ IsTupOf2 h TI (.ref i1) (.ref i2) ∧ (∃ x y, IsTupOf2 h TO x y) ∧ ItX k h i1 a i ∧ ItX k2 h i2 b i) where
  mem := by simp
  obj := fun i h st c hc => by
    obtain ⟨hz, hTI, ⟨x, y, hTO⟩, h1, h2⟩ := st
    have q : c = z ∨ c = TI ∨ c = TO ∨ c = i1 ∨ c = i2 := by simpa using hc
    rcases q with q | q | q | q | q
    · rw [q]; exact ⟨_, hz, fun v q => nomatch q⟩
    · rw [q]; exact ⟨_, hTI, fun v q => nomatch q⟩
    · rw [q]; exact ⟨_, hTO, fun v q => nomatch q⟩
    · rw [q]; exact it_obj h1
    · rw [q]; exact it_obj h2
  keep := fun i h h' st k => by
    obtain ⟨hz, hTI, ⟨x, y, hTO⟩, h1, h2⟩ := st
    exact ⟨k z (by simp) _ hz, k TI (by simp) _ hTI, ⟨x, y, k TO (by simp) _ hTO⟩, it_at h1 fun o q => k i1 (by simp) o q, it_at h2 fun o q => k i2 (by simp) o q⟩
  item := by
    intro X hP hw hK hc i pins s σ H E I hf st hg
    subst hP hw hK
    obtain ⟨hz, hTI, ⟨x0, y0, hTO⟩, h1, h2⟩ := st
    obtain ⟨xs, ys, x, y, hqx, hqy, hx, hy⟩ := hg
    obtain ⟨its, rv, p, _⟩ := inv_sx I hqx
    obtain ⟨its2, rv2, p2, _⟩ := inv_sx I hqy
    obtain ⟨u, hu, ru⟩ := rv.get hx
    obtain ⟨u2, hu2, ru2⟩ := rv2.get hy
    have hzl : z < s.heap.objs.size := Heap.lt_size hz
    have lt1 : i < its.toArray.size := by rw [List.size_toArray, ← rv.length]; exact (List.getElem?_eq_some_iff.mp hx).1
    have lt2 : i < its2.toArray.size := by rw [List.size_toArray, ← rv2.length]; exact (List.getElem?_eq_some_iff.mp hy).1
    refine wpAny_pyNext_zipD2_item Sp (dr_x (A := X.A.in1) (k := k) (I.ok.hd hc) i1 ha its.toArray) (dr_x (A := X.A.in1) (k := k2) (I.ok.hd hc) i2 hb its2.toArray) hz hTI hTO ⟨h1, p⟩ ⟨h2, p2⟩ lt1 lt2 fun u' u2' h' tk hu' hu2' z' TO' st1 st2 hT hsz hk => ?_
    have eu : u' = u := by
      have q : its.toArray[i]? = some u := by simpa using hu
      rw [q] at hu'; cases hu'; rfl
    have eu2 : u2' = u2 := by
      have q : its2.toArray[i]? = some u2 := by simpa using hu2
      rw [q] at hu2'; cases hu2'; rfl
    subst eu eu2
    refine ⟨_, rfl, wpAny_letOwnedTupleGo_zip (s := { s with heap := h', toks := tk }) z' fun h'' z'' sb => ?_⟩
    have hT2 : h''.get? s.heap.objs.size = some { cls := .type "tuple", data := .seq #[u', u2'] } := (sb.2 _ (Nat.ne_of_gt hzl)).trans hT
    have new : ObjOk X.prog X.w (upd H s.heap.objs.size (.tup [x, y])) h'' s.heap.objs.size (.tup [x, y]) :=
      ⟨by show 2 ≤ sizeLine; decide, [u', u2'], .cons ru (.cons ru2 .nil), ⟨_, hT2, rfl, _, rfl⟩⟩
    have I1 : Inv X pins σ (upd H s.heap.objs.size (.tup [x, y])) { s with heap := h'', toks := tk } :=
      I.turnedNew (t' := tk) (ch := [z, TI, TO, i1, i2]) (fun c o hb q => (sb.2 c (fun q' => hb (by simp [q']))).trans (hk c o (fun q' => hb (by simp [q'])) (fun q' => hb (by simp [q'])) (fun q' => hb (by simp [q'])) (fun q' => hb (by simp [q'])) q)) hf (Nat.le_refl _) new
    refine ⟨.ref s.heap.objs.size, _, I1, rfl, ⟨_, x, y, rfl, I.hok.fresh (Nat.le_refl _), rfl, fun l hl => by rw [sx_inj I hl hqx]; exact hx, fun l hl => by rw [sx_inj I hl hqy]; exact hy⟩, ⟨z'', ?_, ⟨u', u2', ?_⟩, ?_, ?_⟩, fun c hcm => ?_⟩
    · exact (sb.2 _ Sp.TIz).trans (hk _ _ Sp.TIz Sp.TITO Sp.TIi1 Sp.TIi2 hTI)
    · exact (sb.2 _ Sp.TOz).trans TO'
    · exact it_at st1.1 fun o q => (sb.2 _ Sp.zi1.symm).trans q
    · exact it_at st2.1 fun o q => (sb.2 _ Sp.zi2.symm).trans q
    · have hlt : c < s.heap.objs.size := by
        have q : c = z ∨ c = TI ∨ c = TO ∨ c = i1 ∨ c = i2 := by simpa using hcm
        rcases q with q | q | q | q | q
        · rw [q]; exact hzl
        · rw [q]; exact Heap.lt_size hTI
        · rw [q]; exact Heap.lt_size hTO
        · rw [q]; obtain ⟨_, e1, _⟩ := it_obj h1; exact Heap.lt_size e1
        · rw [q]; obtain ⟨_, e2, _⟩ := it_obj h2; exact Heap.lt_size e2
      rw [upd_ne (Nat.ne_of_lt hlt)]
      exact (hf c hcm).1
  done := by
    intro X hP hw hK hc i pins s σ H E I hf st hg
    subst hP hw hK
    obtain ⟨hz, hTI, ⟨x0, y0, hTO⟩, h1, h2⟩ := st
    obtain ⟨xs, ys, hqx, hqy, hl1, hl2, hend⟩ := hg
    obtain ⟨its, rv, p, _⟩ := inv_sx I hqx
    obtain ⟨its2, rv2, p2, _⟩ := inv_sx I hqy
    rw [rv.length] at hl1 hend
    rw [rv2.length] at hl2 hend
    exact wpAny_pyNext_zipD2_end Sp (dr_x (A := X.A.in1) (k := k) (I.ok.hd hc) i1 ha its.toArray) (dr_x (A := X.A.in1) (k := k2) (I.ok.hd hc) i2 hb its2.toArray) hz hTI hTO ⟨h1, p⟩ ⟨h2, p2⟩ (by simpa using hl1) (by simpa using hl2) (by simpa using hend) fun h' tk hk => ⟨rfl, I.turnedL (t' := tk) (ch := [z, TI, TO, i1, i2]) (fun c o hb q =>
      hk c o (fun q' => hb (by simp [q'])) (fun q' => hb (by simp [q'])) (fun q' => hb (by simp [q'])) (fun q' => hb (by simp [q'])) q) hf⟩
  self := fun A i s Q E st h => wpAny_pyIter_zip st.1 h
def iZpX (K : PySem.W.Frag) (ta : TA) : TI := fun σ H R => ta σ H fun vs H1 => ∃ k k2 a b xs ys, vs = [.ref a, .ref b] ∧ SqX k K H1 a xs ∧ SqX k2 K H1 b ys ∧ R (ItZ k k2 K a b) H1
theorem pi_zpX {X : Cx} {e e2 : Expr} {ta : TA} {p pos tpos : Pos} {elts : List Expr} {kk : Nat} (hg : Gl X "zip") (hm : X.mg "zip" = none) (ha : PA X [e, e2] ta)
    (hs : starEach [e, e2] X.env = (false, eval e X.env) :: starEach [e2] X.env := by rfl) (hpl : (backTo pos (starEach [e2] X.env)).any (·.1) = false := by rfl) :
    PI X (.Tuple elts kk tpos) (.Call (.Name "zip" p) [e, e2] [] pos) (iZpX X.K ta) := by
  refine ⟨fun pins s σ H R I h => ?_⟩
  refine Call_ (ld_blt I hg hm PyProof.Rows.boot_zip (PyProof.Rows.callWith_type1 (thn (ha.run pos pins s σ H _ I h) fun us s1 ⟨vs, H1, I1, r1, q1⟩ => ?_) hs hpl))
  obtain ⟨k, k2, a, b, xs, ys, ex, hqx, hqy, q⟩ := q1
  subst ex
  cases r1 with
  | cons r rr =>
    cases rr with
    | cons r' rr =>
      cases rr
      cases r
      cases r'
      obtain ⟨its, rv, p1, la⟩ := inv_sx I1 hqx
      obtain ⟨its2, rv2, p2, lb⟩ := inv_sx I1 hqy
      refine zip_begins2 (bg_x (k := k) its.toArray) (bg_x (k := k2) its2.toArray) p1 p2 fun h' hz hTI hTO g1 g2 hsz hk => wpAny_pyIter_zip hz ?_
      have I2 : Inv X pins σ H1 { s1 with heap := h' } := I1.kept (t' := s1.toks) hk
      have sep := zip_sep2 (N := s1.heap.objs.size) (fp1 := [a]) (fp2 := [b]) (fun c hc => by rw [List.mem_singleton.mp hc]; exact la) (fun c hc => by rw [List.mem_singleton.mp hc]; exact lb)
      refine ⟨s1.heap.objs.size + 4, [s1.heap.objs.size + 4, s1.heap.objs.size + 2, s1.heap.objs.size + 3, s1.heap.objs.size, s1.heap.objs.size + 1], _, _, H1, rfl, I2, turn_z (k := k) (k2 := k2) sep (Nat.ne_of_lt la) (Nat.ne_of_lt (Nat.lt_succ_of_lt lb)), ⟨hz, hTI, ⟨_, _, hTO⟩, it_new g1, it_new g2⟩, fun c hcm => ?_, q⟩
      have e' : c = s1.heap.objs.size + 4 ∨ c = s1.heap.objs.size + 2 ∨ c = s1.heap.objs.size + 3 ∨ c = s1.heap.objs.size ∨ c = s1.heap.objs.size + 1 := by simpa using hcm
      have hle : s1.heap.objs.size ≤ c := by
        rcases e' with z | z | z | z | z <;> (rw [z]; first | exact Nat.le_add_right _ _ | exact Nat.le_refl _)
      exact I1.fpOk hle (I1.hok.fresh hle)

/-! ### the rules -/
/-- the items of a sequence, and that they stay -/
@[simp] def seqC (d : D) (S : Sto) : Option (List D × (Sto → Prop)) := match d with
  | .tup xs => some (xs, fun _ => True)
  | .lst xs => some (xs, fun _ => True)
  | .scr xs => some (xs, fun _ => True)
  | .obj k => match S[k]? with | some (.lst xs) => some (xs, fun S' => S'[k]? = some (.lst xs)) | _ => none
  | _ => none
theorem seqC_ok {K : PySem.W.Frag} {w : Wd} {S : Sto} {H : Hp} (c : Core G w S H) {v : V} {d : D} {ds : List D} {chk : Sto → Prop} (h : Den w S.length v d) (e : seqC d S = some (ds, chk)) :
    ∃ a k, v = .ref a ∧ chk S ∧ ∀ (w1 : Wd) (S1 : Sto) (H1 : Hp), Core G w1 S1 H1 → (∀ a o, w.fr a = some o → w1.fr a = some o) → (∀ k, k < S.length → w1.al k = w.al k) → S.length ≤ S1.length → chk S1 → ∃ vs, SqX k K H1 a vs ∧ DenL w1 S1.length vs ds := by
  cases h with
  | non => simp [seqC] at e
  | bl b => simp [seqC] at e
  | int b => simp [seqC] at e
  | str x => simp [seqC] at e
  | tup r l => simp only [seqC] at e; cases e; exact ⟨_, .t, rfl, trivial, fun w1 S1 H1 c1 hf ha hn _ => ⟨_, .inl (.inl (c1.sub _ _ (hf _ _ r))), l.mono hf ha hn⟩⟩
  | lst r l => simp only [seqC] at e; cases e; exact ⟨_, .l, rfl, trivial, fun w1 S1 H1 c1 hf ha hn _ => ⟨_, .inl (.inl (c1.sub _ _ (hf _ _ r))), l.mono hf ha hn⟩⟩
  | scr r l => simp only [seqC] at e; cases e; exact ⟨_, .l, rfl, trivial, fun w1 S1 H1 c1 hf ha hn _ => ⟨_, .inl (rd_sub c1.sub (rd_sub hf r)), l.mono hf ha hn⟩⟩
  | obj hk =>
    simp only [seqC] at e
    split at e
    · rename_i xs hx
      cases e
      refine ⟨_, .l, rfl, hx, fun w1 S1 H1 c1 hf ha hn hck => ?_⟩
      obtain ⟨_, _, vs, hv, l⟩ := c1.cel _ _ hck
      rw [ha _ hk] at hv
      exact ⟨vs, .inl (.inl hv), l⟩
    · cases e
def pairsE (ds : List D) : List D := ds.mapIdx fun i d => .tup [.int (i : Nat), d]
def pairsZ (ds es : List D) : List D := (ds.zip es).map fun p => .tup [p.1, p.2]
@[simp] def iEnum (a : RA) : RI := fun ρ S => match a ρ S with
  | some ([d], S1) => (match seqC d S1 with | some (ds, chk) => some (pairsE ds, chk, S1) | none => none)
  | _ => none
@[simp] def iZip (a : RA) : RI := fun ρ S => match a ρ S with
  | some ([d, e], S1) => (match seqC d S1, seqC e S1 with | some (ds, chk), some (es, chk2) => some (pairsZ ds es, fun S => chk S ∧ chk2 S, S1) | _, _ => none)
  | _ => none
theorem di_enum {p pos tpos : Pos} {elts : List Expr} {kk : Nat} {e : Expr} {ta : RE} (hm : X.mg "enumerate" = none) (ha : DE X G e ta) (hg : Gl X "enumerate" := by rfl) (hs : starEach [e] X.env = [(false, eval e X.env)] := by rfl) :
    DI X G (.Tuple elts kk tpos) (.Call (.Name "enumerate" p) [e] [] pos) (iEnum (aCons ta aNil)) :=
  let ⟨_, pa, ea⟩ := da_cons ha da_nil hs
  ⟨_, pi_enX hg hm pa hs, fun ρ S ds chk S' e w σ H s R q => by
    unfold iEnum at e
    split at e
    · rename_i d S1 h1
      split at e
      · rename_i ds0 chk0 h2
        cases e
        refine ea ρ S _ _ h1 w σ H s _ fun w1 vs H1 s1 x1 d1 => ?_
        obtain ⟨v, rfl, hv⟩ := denL1 d1
        obtain ⟨a, k, rfl, hck, hsq⟩ := seqC_ok (K := X.K) s1.core hv h2
        obtain ⟨vs0, hq0, l0⟩ := hsq w1 _ H1 s1.core (fun _ _ e => e) (fun _ _ => rfl) (Nat.le_refl _) hck
        refine ⟨k, a, vs0, rfl, hq0, q _ w1 H1 s1 x1 (fun i w2 S2 H2 c2 hf ha hn hk2 => ?_) hck⟩
        obtain ⟨vs2, hq2, l2⟩ := hsq w2 S2 H2 c2 hf ha hn hk2
        refine ⟨fun hi => ⟨vs2, hq2, by rw [l2.len, hi]; simp [pairsE]⟩, fun d hd => ?_⟩
        unfold pairsE at hd
        rw [List.getElem?_mapIdx] at hd
        cases hdi : ds0[i]? with
        | none => rw [hdi] at hd; cases hd
        | some di =>
          rw [hdi] at hd
          cases hd
          obtain ⟨u, hu, du⟩ := l2.get hdi
          refine ⟨⟨vs2, u, hq2, hu⟩, fun x H3 ⟨T, x', ex, hT, eH, hx'⟩ => ?_⟩
          subst ex eH
          have hxu := hx' vs2 hq2
          rw [hu] at hxu
          cases hxu
          obtain ⟨c3, x3⟩ := c2.newF (o := .tup [.int (i : Nat), u]) hT (.inl ⟨_, rfl⟩)
          exact ⟨_, c3, x3, den_newT (.cons (.int _) (.cons du .nil)) (c2.fresh hT)⟩
      · cases e
    · cases e⟩
theorem di_zip {p pos tpos : Pos} {elts : List Expr} {kk : Nat} {e e2 : Expr} {ta tb : RE} (hm : X.mg "zip" = none) (ha : DE X G e ta) (hb : DE X G e2 tb) (hg : Gl X "zip" := by rfl) (hs : starEach [e, e2] X.env = (false, eval e X.env) :: starEach [e2] X.env := by rfl) (hs2 : starEach [e2] X.env = (false, eval e2 X.env) :: starEach [] X.env := by rfl) (hpl : (backTo pos (starEach [e2] X.env)).any (·.1) = false := by rfl) :
    DI X G (.Tuple elts kk tpos) (.Call (.Name "zip" p) [e, e2] [] pos) (iZip (aCons ta (aCons tb aNil))) :=
  let ⟨_, pa, ea⟩ := da_cons ha (da_cons hb da_nil hs2) hs
  ⟨_, pi_zpX hg hm pa hs hpl, fun ρ S ds chk S' e w σ H s R q => by
    unfold iZip at e
    split at e
    · rename_i d d' S1 h1
      split at e
      · rename_i ds0 chk0 es0 chk1 h2 h3
        cases e
        refine ea ρ S _ _ h1 w σ H s _ fun w1 vs H1 s1 x1 d1 => ?_
        obtain ⟨v, v2, rfl, hv, hv2⟩ := denL2 d1
        obtain ⟨a, k, rfl, hck, hsq⟩ := seqC_ok (K := X.K) s1.core hv h2
        obtain ⟨b, k2, rfl, hck2, hsq2⟩ := seqC_ok (K := X.K) s1.core hv2 h3
        obtain ⟨vs0, hq0, l0⟩ := hsq w1 _ H1 s1.core (fun _ _ e => e) (fun _ _ => rfl) (Nat.le_refl _) hck
        obtain ⟨us0, hu0, m0⟩ := hsq2 w1 _ H1 s1.core (fun _ _ e => e) (fun _ _ => rfl) (Nat.le_refl _) hck2
        refine ⟨k, k2, a, b, vs0, us0, rfl, hq0, hu0, q _ w1 H1 s1 x1 (fun i w2 S2 H2 c2 hf ha hn hk2 => ?_) ⟨hck, hck2⟩⟩
        obtain ⟨vs2, hq2, l2⟩ := hsq w2 S2 H2 c2 hf ha hn hk2.1
        obtain ⟨us2, hu2, m2⟩ := hsq2 w2 S2 H2 c2 hf ha hn hk2.2
        refine ⟨fun hi => ⟨vs2, us2, hq2, hu2, ?_⟩, fun d hd => ?_⟩
        · rw [l2.len, m2.len, hi]
          unfold pairsZ
          rw [List.length_map, List.length_zip]
          omega
        · unfold pairsZ at hd
          rw [List.getElem?_map] at hd
          cases hz : (ds0.zip es0)[i]? with
          | none => rw [hz] at hd; cases hd
          | some pr =>
            rw [hz] at hd
            cases hd
            obtain ⟨g1, g2⟩ := List.getElem?_zip_eq_some.mp hz
            obtain ⟨u, hu, du⟩ := l2.get g1
            obtain ⟨u', hu', du'⟩ := m2.get g2
            refine ⟨⟨vs2, us2, u, u', hq2, hu2, hu, hu'⟩, fun x H3 ⟨T, x', y', ex, hT, eH, hx', hy'⟩ => ?_⟩
            subst ex eH
            have e1 := hx' vs2 hq2
            rw [hu] at e1
            cases e1
            have e2 := hy' us2 hu2
            rw [hu'] at e2
            cases e2
            obtain ⟨c3, x3⟩ := c2.newF (o := .tup [u, u']) hT (.inl ⟨_, rfl⟩)
            exact ⟨_, c3, x3, den_newT (.cons du (.cons du' .nil)) (c2.fresh hT)⟩
      · cases e
    · cases e⟩
end
end DL

set_option maxRecDepth 100000
set_option maxHeartbeats 4000000
set_option pp.maxSteps 900
namespace DL
open PySem PySem.Spec PyProof.Rows L2 GX
open Classical
section
variable {G : Gc} {X : Cx} {pos p : Pos} {a b c e o : Expr} {es : List Expr} {ta tb tc te : RE} {ra : RA}

/-! ### name op= e, o[i] op= e -/
def AugOk (X : Cx) (G : Gc) (op : Operator) (f : D → D → Sto → Option D) : Prop := ∃ r, PIp X op r ∧ R2Ok G r f
theorem iop_mulW : OpR X (inplaceOp .Mult) (rI MulC fun i j => .int (i * j)) := opI fun _ _ _ _ _ _ _ hc q => by
  rcases hc with hc | hc
  · exact imul_int q hc.ok
  · exact imul_int q hc.ok
theorem g_add : AugOk X G .Add fAdd := ⟨_, iop_add, r_I0 fun x y S d e => by unfold fAdd at e; split at e <;> cases e; exact ⟨_, _, rfl, rfl, fun _ _ => .int _⟩⟩
theorem g_sub : AugOk X G .Sub fSub := ⟨_, iop_sub, r_I0 fun x y S d e => by unfold fSub at e; split at e <;> cases e; exact ⟨_, _, rfl, rfl, fun _ _ => .int _⟩⟩
theorem g_mul : AugOk X G .Mult fMul := ⟨_, iop_mulW, r_I fun x y S d e => by
  unfold fMul at e
  split at e
  · split at e
    · rename_i hc; cases e; exact ⟨_, _, rfl, rfl, hc, fun _ _ => .int _⟩
    · cases e
  · cases e⟩
@[simp] def sAug (i : Nat) (f : D → D → Sto → Option D) (e : RE) : RS := fun ρ S => match ρ[i]? with
  | some (some x) => (match e ρ S with
    | some (y, S1) => (match f x y S1 with | some z => some (.nx (ρ.set i (some z)) S1) | none => none)
    | none => none)
  | _ => none
theorem ds_aug {i : Nat} {x : Str} {op : Operator} {f : D → D → Sto → Option D} {pos' : Pos} (ho : AugOk X G op f) (hN : X.N.Nodup) (hi : X.N[i]? = some x) (hx : Loc X.env.scope x) (he : DE X G e te) (hf : X.fn x = true ∨ X.env.scope.names.lookup x = some .local) :
    DS X G (.AugAssign (.Name x pos') op e pos) (sAug i f te) :=
  let ⟨_, po, eo⟩ := ho; let ⟨_, pa, ea⟩ := he
  ⟨_, ps_aug hN hi hx pa po hf, fun ρ S o e w σ H s D p => by
    unfold sAug at e
    split at e
    · rename_i x0 h0
      split at e
      · rename_i y S1 h1
        split at e
        · rename_i z h2
          cases e
          obtain ⟨v, hv, dv⟩ := s.env i x0 h0
          refine ⟨v, hv, ea ρ S y S1 h1 w σ H s _ fun w1 u H1 s1 x1 d1 => ?_⟩
          exact eo w1 S1 H1 v u x0 y z _ s1.core (dv.ext x1) d1 h2 fun zv dz => p w1 _ H1 (s1.set dz i) x1
        · cases e
      · cases e
    · cases e⟩
/-- o[i] op= e, a list of the store -/
@[simp] def sAugIx (f : D → D → Sto → Option D) (o i e : RE) : RS := fun ρ S => match o ρ S with
  | some (.obj k, S1) => (match i ρ S1 with
    | some (.int z, S2) => (match S2[k]? with
      | some (.lst xs) => (match ixN xs.length z with
        | some j => (match xs[j]? with
          | some x => (match e ρ S2 with
            | some (y, S3) => (match f x y S3 with
              | some r => (match S3[k]? with
                | some (.lst xs2) => if xs2.length = xs.length then some (.nx ρ (S3.set k (.lst (xs2.set j r)))) else none
                | _ => none)
              | none => none)
            | none => none)
          | none => none)
        | none => none)
      | _ => none)
    | _ => none)
  | _ => none
theorem get_seq : PGet X (fun x y H Q => ∃ l xs i v, x = .ref l ∧ y = .int i ∧ SqL X.K H l xs ∧ atI xs i = some v ∧ Q v H) := by
  intro pins s σ H o i ov iv Q I rx ry h
  obtain ⟨p, xs, i, z, rfl, rfl, hq, he, q⟩ := h
  cases rx
  obtain ⟨t, rfl⟩ := ry
  obtain ⟨its, r, pl, hz⟩ := I.list hq
  obtain ⟨j, h1, h2, h3, h4, h5⟩ := atI_get he
  obtain ⟨w, ew, rw'⟩ := r.get h2
  have hl := r.length
  have hn := line63
  have fin : EP X pins σ Q w s := ⟨z, H, I, rw', q⟩
  by_cases h0 : 0 ≤ i
  · have hj : i.toNat = j := by rw [seqIndex_of h0 h5] at h1; exact Option.some.inj h1
    exact wpAny_getItem_list pl.isList h0 (by omega) (by rw [hj]; simpa using ew) fin
  · have hj : (i + (its.toArray.size : Int)).toNat = j := by
      rw [seqIndex_neg (by omega) h4] at h1
      rw [List.size_toArray, ← hl]; exact Option.some.inj h1
    exact wpAny_getItem_list_neg pl.isList (by omega) (by rw [List.size_toArray]; omega) (by omega) (by rw [hj]; simpa using ew) fin
theorem ds_augIx {op : Operator} {f : D → D → Sto → Option D} {tpos : Pos} (hop : AugOk X G op f) (ho : DE X G a ta) (hi : DE X G b tb) (he : DE X G e te)
    (hs : ∀ ov iv new, augStore b ov iv new = (do holding [new, ov, iv] (setItem ov iv new); release [new, ov, iv] []; pure .next) := by intros; rfl) : DS X G (.AugAssign (.Subscript a b tpos) op e pos) (sAugIx f ta tb te) :=
  let ⟨_, pop, eop⟩ := hop; let ⟨_, pa, ea⟩ := ho; let ⟨_, pb, eb⟩ := hi; let ⟨_, pe, ee⟩ := he
  ⟨_, ps_augS pa pb get_seq pe pop set_list hs, fun ρ S out e w σ H s D p => by
    unfold sAugIx at e
    split at e
    · rename_i k S1 h1
      split at e
      · rename_i z S2 h2
        split at e
        · rename_i xs h3
          split at e
          · rename_i j h4
            split at e
            · rename_i x h5
              split at e
              · rename_i y S3 h6
                split at e
                · rename_i r h7
                  split at e
                  · rename_i xs2 h8
                    split at e
                    · rename_i hl
                      cases e
                      refine ea ρ S _ _ h1 w σ H s _ fun w1 ov H1 s1 x1 d1 => eb ρ S1 _ _ h2 w1 σ H1 s1 _ fun w2 iv H2 s2 x2 d2 => ?_
                      have d1' := d1.ext x2
                      obtain ⟨_, _, vs, hv, l⟩ := s2.core.cel _ _ h3
                      cases d1' with
                      | obj hk =>
                        obtain ⟨xv, hxv, dx⟩ := l.get h5
                        refine ⟨_, vs, z, xv, rfl, den_int d2, .inl (.inl hv), by unfold atI; rw [l.len, h4]; exact hxv, ee ρ S2 y S3 h6 w2 σ H2 s2 _ fun w3 yv H3 s3 x3 d3 => ?_⟩
                        refine eop w3 S3 H3 xv yv x y r _ s3.core (dx.ext x3) d3 h7 fun rv dr => ?_
                        obtain ⟨_, _, us, hu, l2⟩ := s3.core.cel _ _ h8
                        rw [x3.al k hk] at hu
                        refine ⟨_, us, z, j, rfl, den_int d2, hu, by rw [l2.len, hl]; exact h4, ?_⟩
                        obtain ⟨c4, x4⟩ := s3.core.setL h8 (l2.set dr j)
                        have e4 : w3.al k = w2.al k := x3.al k hk
                        rw [e4] at c4 x4
                        exact p w3 σ _ (s3.ofCore c4 x4) (((x1.trans x2).trans x3).trans x4)
                    · cases e
                  · cases e
                · cases e
              · cases e
            · cases e
          · cases e
        · cases e
      · cases e
    · cases e⟩

/-! ### constants to a power, three at once -/
@[simp] noncomputable def fPow : D → D → Sto → Option D := fun x y _ => match x, y with | .int i, .int j => if 0 ≤ j ∧ j ≤ 1000000 ∧ i.natAbs < 2 ^ 64 then some (.int (i ^ j.toNat)) else none | _, _ => none
theorem de_pow (ha : DE X G a ta) (hb : DE X G b tb) : DE X G (.BinOp a .Pow b pos) (e2 fPow ta tb) :=
  let ⟨_, pa, ea⟩ := ha; let ⟨_, pb, eb⟩ := hb
  ⟨_, pe_op op_pow pa pb, ev_2 (r_I fun x y S d e => by
    unfold fPow at e
    split at e
    · split at e
      · rename_i hc; cases e; exact ⟨_, _, rfl, rfl, hc, fun _ _ => .int _⟩
      · cases e
    · cases e) ea eb⟩
@[simp] def sPar3 (i j l : Nat) (a : RA) : RS := fun ρ S => match a ρ S with | some ([d, e, f], S1) => some (.nx (((ρ.set i (some d)).set j (some e)).set l (some f)) S1) | _ => none
theorem denL3 {w : Wd} {n : Nat} {xs : List V} {d d2 d3 : D} (h : DenL w n xs [d, d2, d3]) : ∃ v u t, xs = [v, u, t] ∧ Den w n v d ∧ Den w n u d2 ∧ Den w n t d3 := by
  cases h with
  | cons h t =>
    obtain ⟨u, t', rfl, h2, h3⟩ := denL2 t
    exact ⟨_, u, t', rfl, h, h2, h3⟩
theorem ds_par3 {i j l : Nat} {x y z : Str} {px py pz pt : Pos} {kt k2 : Nat} {pt2 : Pos} (hc : X.calm = true) (hN : X.N.Nodup) (hi : X.N[i]? = some x) (hj : X.N[j]? = some y) (hl : X.N[l]? = some z) (hij : i ≠ j) (hil : i ≠ l) (hjl : j ≠ l)
    (hx : X.env.scope.names.lookup x = some .local) (hy : X.env.scope.names.lookup y = some .local) (hz : X.env.scope.names.lookup z = some .local) (ha : DA X G [a, b, c] ra)
    (hw : swappedStores [.Tuple [.Name x px, .Name y py, .Name z pz] kt pt] (.Tuple [a, b, c] k2 pt2) X.env = pure (some [x, y, z]))
    (hs : swapsWithSole [.Tuple [.Name x px, .Name y py, .Name z pz] kt pt] (.Tuple [a, b, c] k2 pt2) pos.line X.env = pure false := by rfl) :
    DS X G (.Assign [.Tuple [.Name x px, .Name y py, .Name z pz] kt pt] (.Tuple [a, b, c] k2 pt2) pos) (sPar3 i j l ra) :=
  let ⟨_, pa, ea⟩ := ha
  ⟨_, ps_par3 hc hN hi hj hl hij hil hjl hx hy hz pa hw hs, fun ρ S o e w σ H s D p => by
    unfold sPar3 at e
    split at e
    · rename_i d d2 d3 S1 h1
      cases e
      refine ea ρ S _ _ h1 w σ H s _ fun w1 vs H1 s1 x1 d1 => ?_
      obtain ⟨v, u, t, rfl, hv, hu, ht⟩ := denL3 d1
      exact ⟨v, u, t, rfl, p w1 _ H1 (((s1.set hv i).set hu j).set ht l) x1⟩
    · cases e⟩

/-! ### sum, max, min -/
@[simp] def intsD : List D → Option (List Int)
  | [] => some []
  | .int i :: r => match intsD r with | some ns => some (i :: ns) | none => none
  | _ :: _ => none
theorem ints_of {w : Wd} {n : Nat} : ∀ {vs : List V} {ds : List D} {ns : List Int}, DenL w n vs ds → intsD ds = some ns → vs = ns.map V.int
  | _, _, _, .nil, e => by unfold intsD at e; cases e; rfl
  | _, _, _, .cons (d := d) h t, e => by
    cases d with
    | int i =>
      unfold intsD at e
      split at e
      · rename_i ns' h2
        cases e
        rw [den_int h, ints_of t h2]; rfl
      · cases e
    | _ => simp [intsD] at e
@[simp] def fSum : List D → Sto → Option (D × Sto) := fun ds S => match ds with
  | [d] => (match seqD d S with | some xs => (match intsD xs with | some ns => some (.int ns.sum, S) | none => none) | none => none)
  | _ => none
def rSumX (K : PySem.W.Frag) : List V → Hp → VK → Prop := fun vs H Q => ∃ (a : Addr) (ns : List Int), vs = [.ref a] ∧ (SqL K H a (ns.map V.int) ∨ SqT K H a (ns.map V.int)) ∧ Q (.int ns.sum) H
theorem cr_sumX (hc : X.calm = true) : CallR X (.builtin "sum") (rSumX X.K) := by
  intro pins s σ H vs us Q I r h
  obtain ⟨a, ns, rfl, hs, q⟩ := h
  rcases hs with hs | hs
  · exact cr_sum hc pins s σ H _ us Q I r ⟨a, ns, rfl, hs, q⟩
  · obtain ⟨its, rv, hl, _⟩ := I.tuple hs
    rw [Vals.ref1 r]
    have hi := rv.ints
    obtain ⟨xs, e⟩ := hi.allInts.items
    have hn : numsOf (intItems xs).toList = ns := by rw [← e]; exact hi.numsOf
    rw [nums_intItems] at hn
    have hl : s.heap.IsTuple a its.toArray := hl
    rw [e] at hl
    refine PySem.W.ktm_sumG (I.ok.hd hc) hl fun h' tk t' hk => ?_
    rw [preSum_eq, List.take_of_length_le (by simp), hn]
    exact ⟨.int _, H, I.kept hk, ⟨_, rfl⟩, q⟩
theorem boot_sum : bootBuiltins "sum" = some (.builtin "sum") := by decide +kernel
theorem de_sum {p : Pos} (hc : X.calm = true) (hm : X.mg "sum" = none) (ha : DE X G a ta) (hg : Gl X "sum" := by rfl) (hs : starEach [a] X.env = (false, eval a X.env) :: starEach [] X.env := by rfl) (hpl : (backTo pos (starEach [] X.env)).any (·.1) = false := by rfl) :
    DE X G (.Call (.Name "sum" p) [a] [] pos) (eA fSum (aCons ta aNil)) :=
  let ⟨_, pa, ea⟩ := da_cons ha da_nil hs
  ⟨_, pe_callB (cr_sumX hc) hg hm boot_sum pa (by decide) (by decide) hs hpl, ev_cb (fun w ρ S σ H xs ds d S' Q s hd e q => by
    unfold fSum at e
    split at e
    · rename_i dd
      obtain ⟨v, rfl, hv⟩ := denL1 hd
      split at e
      · rename_i ys h1
        split at e
        · rename_i ns h2
          cases e
          obtain ⟨a, vs, rfl, hq, l⟩ := seq_ok (K := X.K) s.core hv h1
          rw [ints_of l h2] at hq
          exact ⟨a, ns, rfl, hq, q w _ H s (Ext.refl ..) (.int _)⟩
        · cases e
      · cases e
    · cases e) ea⟩

/-! ### methods of a list of the store -/
@[simp] def fAppend : D → List D → Sto → Option (D × Sto) := fun o xs S => match o, xs with
  | .obj k, [y] => (match S[k]? with | some (.lst ys) => if ys.length < 1000000 then some (.non, S.set k (.lst (ys ++ [y]))) else none | _ => none)
  | _, _ => none
@[simp] def fPop : D → List D → Sto → Option (D × Sto) := fun o xs S => match o, xs with
  | .obj k, [] => (match S[k]? with | some (.lst ys) => (match ys[ys.length - 1]? with | some y => some (y, S.set k (.lst ys.dropLast)) | none => none) | _ => none)
  | _, _ => none
@[simp] def fPopAt : D → List D → Sto → Option (D × Sto) := fun o xs S => match o, xs with
  | .obj k, [.int i] => (match S[k]? with
    | some (.lst ys) => if -(2 ^ 62) ≤ i ∧ i < 2 ^ 62 then (match seqIndex? i ys.length with | some j => (match ys[j]? with | some y => some (y, S.set k (.lst (ys.eraseIdx j))) | none => none) | none => none) else none
    | _ => none)
  | _, _ => none
@[simp] def fReverse : D → List D → Sto → Option (D × Sto) := fun o xs S => match o, xs with
  | .obj k, [] => (match S[k]? with | some (.lst ys) => some (.non, S.set k (.lst ys.reverse)) | _ => none)
  | _, _ => none
/-- o.m(..), o a list of the store -/
@[simp] def eM (f : D → List D → Sto → Option (D × Sto)) (o : RE) (a : RA) : RE := fun ρ S => match o ρ S with
  | some (.obj k, S1) => (match S1[k]? with
    | some (.lst _) => (match a ρ S1 with | some (ys, S2) => f (.obj k) ys S2 | none => none)
    | _ => none)
  | _ => none
theorem DenL.dropLast {w : Wd} {n : Nat} {vs : List V} {ds : List D} (h : DenL w n vs ds) : DenL w n vs.dropLast ds.dropLast := by
  rw [List.dropLast_eq_take, List.dropLast_eq_take, h.len]
  exact h.take _
theorem DenL.erase {w : Wd} {n : Nat} : ∀ {vs : List V} {ds : List D} (k : Nat), DenL w n vs ds → DenL w n (vs.eraseIdx k) (ds.eraseIdx k)
  | _, _, _, .nil => .nil
  | _, _, 0, .cons _ t => t
  | _, _, k + 1, .cons h t => .cons h (DenL.erase k t)
theorem DenL.rev {w : Wd} {n : Nat} : ∀ {vs : List V} {ds : List D}, DenL w n vs ds → DenL w n vs.reverse ds.reverse
  | _, _, .nil => .nil
  | _, _, .cons h t => by rw [List.reverse_cons, List.reverse_cons]; exact (DenL.rev t).app (.cons h .nil)
/-- the list behind o -/
theorem obj_at {w : Wd} {S : Sto} {H : Hp} (c : Core G w S H) {v : V} {k : Nat} {ys : List D} (h : Den w S.length v (.obj k)) (e : S[k]? = some (.lst ys)) : v = .ref (w.al k) ∧ ∃ vs, H (w.al k) = some (.lst vs) ∧ DenL w S.length vs ys := by
  cases h
  obtain ⟨_, _, vs, hv, l⟩ := c.cel _ _ e
  exact ⟨rfl, vs, hv, l⟩
/-- a list's method by values -/
def MOk (G : Gc) (r : V → List V → Hp → VK → Prop) (f : D → List D → Sto → Option (D × Sto)) : Prop :=
  ∀ (w : Wd) (ρ : En) (S : Sto) (σ : L2.St) (H : Hp) (v : V) (xs : List V) (k : Nat) (ds : List D) (d : D) (S' : Sto) (Q : VK), Sat G w ρ S σ H → Den w S.length v (.obj k) → DenL w S.length xs ds → f (.obj k) ds S = some (d, S') →
      (∀ w' v H', Sat G w' ρ S' σ H' → Ext w S H w' S' H' → Den w' S'.length v d → Q v H') → r v xs H Q
theorem ev_m {K : PySem.W.Frag} {r : V → List V → Hp → VK → Prop} {f : D → List D → Sto → Option (D × Sto)} {xo : TE} {xa : TA} (hr : MOk G r f) (ho : Ev G xo ta) (ha : EvA G xa ra) :
    Ev G (tBM K "list" r xo xa) (eM f ta ra) := fun ρ S d S' e w σ H s Q q => by
  unfold eM at e
  split at e
  · rename_i k S1 h1
    split at e
    · rename_i zs hz
      split at e
      · rename_i ys S2 h2
        refine ho ρ S _ S1 h1 w σ H s _ fun w1 v H1 s1 x1 d1 => ?_
        obtain ⟨ev, vs, hv, l⟩ := obj_at s1.core d1 hz
        refine ⟨?_, ha ρ S1 ys S2 h2 w1 σ H1 s1 _ fun w2 us H2 s2 x2 d2 => hr w2 ρ S2 σ H2 v us k ys d S' Q s2 (d1.ext x2) d2 e fun w3 u H3 s3 x3 d3 => q w3 u H3 s3 ((x1.trans x2).trans x3) d3⟩
        rw [ev]
        exact .inl ⟨rfl, vs, .inl (.inl hv)⟩
      · cases e
    · cases e
  · cases e
theorem m_append : MOk G rAppend fAppend := fun w ρ S σ H v xs k ds d S' Q s hv hd e q => by
  unfold fAppend at e
  split at e
  · rename_i k' y hk'
    split at e
    · rename_i ys hy
      split at e
      · rename_i hl
        cases e
        cases hk'
        obtain ⟨rfl, vs, hvs, l⟩ := obj_at s.core hv hy
        obtain ⟨u, rfl, hu⟩ := denL1 hd
        obtain ⟨c1, x1⟩ := s.core.setL hy (l.app (.cons hu .nil))
        exact ⟨_, vs, u, rfl, rfl, hvs, by rw [l.len]; exact lt_line hl, q w _ _ (s.ofCore c1 x1) x1 .non⟩
      · cases e
    · cases e
  · cases e
theorem m_pop : MOk G rPop fPop := fun w ρ S σ H v xs k ds d S' Q s hv hd e q => by
  unfold fPop at e
  split at e
  · rename_i k' hk'
    split at e
    · rename_i ys hy
      split at e
      · rename_i y hl
        cases e
        cases hk'
        obtain ⟨rfl, vs, hvs, l⟩ := obj_at s.core hv hy
        cases hd
        obtain ⟨u, hu, du⟩ := l.get hl
        obtain ⟨c1, x1⟩ := s.core.setL hy l.dropLast
        exact ⟨_, vs, u, rfl, rfl, hvs, by rw [l.len]; exact hu, q w _ _ (s.ofCore c1 x1) x1 (du.ext x1)⟩
      · cases e
    · cases e
  · cases e
theorem m_popAt : MOk G rPopAt fPopAt := fun w ρ S σ H v xs k ds d S' Q s hv hd e q => by
  unfold fPopAt at e
  split at e
  · rename_i k' i hk'
    split at e
    · rename_i ys hy
      split at e
      · rename_i hi
        split at e
        · rename_i j hj
          split at e
          · rename_i y hl
            cases e
            cases hk'
            obtain ⟨rfl, vs, hvs, l⟩ := obj_at s.core hv hy
            obtain ⟨iv, rfl, hiv⟩ := denL1 hd
            cases den_int hiv
            obtain ⟨u, hu, du⟩ := l.get hl
            obtain ⟨c1, x1⟩ := s.core.setL hy (l.erase j)
            have h1 := hi.1
            have h2 := hi.2
            exact ⟨_, vs, i, j, u, rfl, rfl, hvs, by omega, by omega, by rw [l.len]; exact hj, hu, q w _ _ (s.ofCore c1 x1) x1 (du.ext x1)⟩
          · cases e
        · cases e
      · cases e
    · cases e
  · cases e
theorem m_reverse : MOk G rReverse fReverse := fun w ρ S σ H v xs k ds d S' Q s hv hd e q => by
  unfold fReverse at e
  split at e
  · rename_i k' hk'
    split at e
    · rename_i ys hy
      cases e
      cases hk'
      obtain ⟨rfl, vs, hvs, l⟩ := obj_at s.core hv hy
      cases hd
      obtain ⟨c1, x1⟩ := s.core.setL hy l.rev
      exact ⟨_, vs, rfl, rfl, hvs, q w _ _ (s.ofCore c1 x1) x1 .non⟩
    · cases e
  · cases e
section
variable {apos cpos : Pos}
theorem de_append (ho : DE X G o ta) (ha : DA X G (e :: es) ra) (hbase : attributeBase o "append" X.env (eval o X.env) = eval o X.env := by rfl)
    (hfew : ((backTo cpos (starEach (e :: es) X.env)).all (fun x => !x.1) && (backToKw cpos (keywordEach [] X.env)).all (fun x => x.1.isSome) && decide ((e :: es).length + ([] : List Keyword).length + (if ([] : List Keyword).isEmpty then 0 else 1) < 30)) = true := by rfl)
    (hline : (apos.endLine == cpos.line) = true := by rfl) (hs : starEach (e :: es) X.env = (false, eval e X.env) :: starEach es X.env := by rfl) (hplain : (backTo cpos (starEach es X.env)).any (·.1) = false := by rfl) :
    DE X G (.Call (.Attribute o "append" apos) (e :: es) [] cpos) (eM fAppend ta ra) :=
  let ⟨_, po, eo⟩ := ho; let ⟨_, pa, ea⟩ := ha
  ⟨_, pe_bm PySem.F.plainAttrs_list PySem.F.slot_list_append PySem.F.type_list_append mt_append po pa hbase hfew hline hs hplain, ev_m m_append eo ea⟩
theorem de_popAt (ho : DE X G o ta) (ha : DA X G (e :: es) ra) (hbase : attributeBase o "pop" X.env (eval o X.env) = eval o X.env := by rfl)
    (hfew : ((backTo cpos (starEach (e :: es) X.env)).all (fun x => !x.1) && (backToKw cpos (keywordEach [] X.env)).all (fun x => x.1.isSome) && decide ((e :: es).length + ([] : List Keyword).length + (if ([] : List Keyword).isEmpty then 0 else 1) < 30)) = true := by rfl)
    (hline : (apos.endLine == cpos.line) = true := by rfl) (hs : starEach (e :: es) X.env = (false, eval e X.env) :: starEach es X.env := by rfl) (hplain : (backTo cpos (starEach es X.env)).any (·.1) = false := by rfl) :
    DE X G (.Call (.Attribute o "pop" apos) (e :: es) [] cpos) (eM fPopAt ta ra) :=
  let ⟨_, po, eo⟩ := ho; let ⟨_, pa, ea⟩ := ha
  ⟨_, pe_bm PySem.F.plainAttrs_list PySem.F.slot_list_pop PySem.F.type_list_pop mt_popAt po pa hbase hfew hline hs hplain, ev_m m_popAt eo ea⟩
theorem ev_m0 {K : PySem.W.Frag} {r : V → List V → Hp → VK → Prop} {f : D → List D → Sto → Option (D × Sto)} {xo : TE} (hr : MOk G r f) (ho : Ev G xo ta) : Ev G (tBM0 K "list" r xo) (eM f ta aNil) := fun ρ S d S' e w σ H s Q q => by
  unfold eM at e
  split at e
  · rename_i k S1 h1
    split at e
    · rename_i zs hz
      have e : f (.obj k) [] S1 = some (d, S') := e
      refine ho ρ S _ S1 h1 w σ H s _ fun w1 v H1 s1 x1 d1 => ?_
      obtain ⟨ev, vs, hv, l⟩ := obj_at s1.core d1 hz
      refine ⟨?_, hr w1 ρ S1 σ H1 v [] k [] d S' Q s1 d1 .nil e fun w3 u H3 s3 x3 d3 => q w3 u H3 s3 (x1.trans x3) d3⟩
      rw [ev]
      exact .inl ⟨rfl, vs, .inl (.inl hv)⟩
    · cases e
  · cases e
theorem de_pop (ho : DE X G o ta) (hbase : attributeBase o "pop" X.env (eval o X.env) = eval o X.env := by rfl) (hline : (apos.endLine == cpos.line) = true := by rfl) : DE X G (.Call (.Attribute o "pop" apos) [] [] cpos) (eM fPop ta aNil) :=
  let ⟨_, po, eo⟩ := ho
  ⟨_, pe_bm0 PySem.F.plainAttrs_list PySem.F.slot_list_pop PySem.F.type_list_pop mt_pop po hbase hline, ev_m0 m_pop eo⟩
theorem de_reverse (ho : DE X G o ta) (hbase : attributeBase o "reverse" X.env (eval o X.env) = eval o X.env := by rfl) (hline : (apos.endLine == cpos.line) = true := by rfl) : DE X G (.Call (.Attribute o "reverse" apos) [] [] cpos) (eM fReverse ta aNil) :=
  let ⟨_, po, eo⟩ := ho
  ⟨_, pe_bm0 PySem.F.plainAttrs_list PySem.F.slot_list_reverse PySem.F.type_list_reverse mt_reverse po hbase hline, ev_m0 m_reverse eo⟩
end
end
end DL

set_option maxRecDepth 100000
set_option maxHeartbeats 4000000
set_option pp.maxSteps 900
namespace DL
open PySem PySem.Spec PyProof.Rows L2 GX LamX
open Classical

/-- a def of the text as it stands behind the top, its code object at c -/
structure FAt (K : PySem.W.Frag) (mg : Str → Option Value) (x : Str) (st : Stmt) (f c : Addr) : Prop where
  lk : ∃ (oc : Value) (od : Option Addr) (kV doc pm : Value) (an : Option Addr) (ct : Value) (osl : Array (Option Value)), K.lookup f = some ⟨oc, od, .func (PySem.W.fnOf x x (defArgs st) (defBody st) (defScope st) .none kV doc pm an (.ref c) ct), osl⟩
  cd : PySem.W.codeIn K (.ref c) x = true
  kp : PySem.W.keepIn K (.ref f) = true
  mg : mg x = some (.ref f)
/-- .. that computes F -/
structure DFs (P : Program) (wd : World) (G : Gc) (mg : Str → Option Value) (k : Nat) (x : Str) (st : Stmt) (f : Addr) (ps : List Str) (F : FD) : Prop where
  ok : ∃ (kV doc pm : Value) (an : Option Addr) (cdv ct : Value), (∃ (oc : Value) (od : Option Addr) (osl : Array (Option Value)), G.K.lookup f = some ⟨oc, od, .func (PySem.W.fnOf x x (defArgs st) (defBody st) (defScope st) .none kV doc pm an cdv ct), osl⟩) ∧ FnOk P wd G.K mg G.base CX0 k f (PySem.W.fnOf x x (defArgs st) (defBody st) (defScope st) .none kV doc pm an cdv ct) ps (SpD G F)
  kp : PySem.W.keepIn G.K (.ref f) = true
  mg : mg x = some (.ref f)
def BindsP (st : Stmt) (ps : List Str) : Prop := ∀ (x : Str) (kV doc pm : Value) (an : Option Addr) (cdv ct : Value) (us : List Value), us.length = ps.length → bindArgs (PySem.W.fnOf x x (defArgs st) (defBody st) (defScope st) .none kV doc pm an cdv ct) ⟨us, []⟩ = pure (ps.zip us)
@[simp] def pick {α : Type} (idx : List Nat) (xs : List α) : List α := idx.filterMap fun i => xs[i]?
def BindsK (st : Stmt) (ps ks : List Str) (idx : List Nat) : Prop := ∀ (x : Str) (kV doc pm : Value) (an : Option Addr) (cdv ct : Value) (ws : List Value), ws.length = ks.length → bindArgs (PySem.W.fnOf x x (defArgs st) (defBody st) (defScope st) .none kV doc pm an cdv ct) ⟨[], ks.zip ws⟩ = pure (ps.zip (pick idx ws))
section
variable {G : Gc} {X : Cx} {pos p : Pos} {e : Expr} {es : List Expr} {ra : RA} {te : RE} {x : Str} {st : Stmt} {f c : Addr} {ps ks : List Str} {F : FD} {k : Nat} {P : Program} {wd : World} {mg : Str → Option Value}
theorem DFs.mono {j : Nat} (h : DFs P wd G mg k x st f ps F) (hj : k ≤ j) : DFs P wd G mg j x st f ps F :=
  let ⟨a, b, c, d, e, g, lk, h1⟩ := h.ok; ⟨⟨a, b, c, d, e, g, lk, h1.mono hj⟩, h.kp, h.mg⟩
theorem DFs.cv {cv : Option Value} (h : DFs P wd G mg k x st f ps F) : DFs P wd { G with cv := cv } mg k x st f ps F :=
  let ⟨a, b, c, d, e, g, lk, h1⟩ := h.ok; ⟨⟨a, b, c, d, e, g, lk, h1.imp fun vs H Q E ⟨w, S, ds, d, S', c', l, e', q⟩ => ⟨w, S, ds, d, S', ⟨c'.sub, c'.fro, c'.cel, c'.inj, c'.tab, c'.t0⟩, l, e', fun w' v H' c2 x2 d2 => q w' v H' ⟨c2.sub, c2.fro, c2.cel, c2.inj, c2.tab, c2.t0⟩ x2 d2⟩⟩, h.kp, h.mg⟩
/-- f(..) -/
theorem dcall {cv : Option Value} (hf : DFs X.prog X.w G X.mg k x st f ps F) (hb : BindsP st ps) (hr : Room k X.A) (ha : DA X { G with cv := cv } (e :: es) ra) (hK : X.K = G.K := by rfl) (hB : X.base = G.base := by rfl) (hg : Gl X x := by rfl) (hdb : (x == ("__debug__" : Str)) = false := by decide)
    (he : starEach (e :: es) X.env = (false, eval e X.env) :: starEach es X.env := by rfl) (hpl : (backTo pos (starEach es X.env)).any (·.1) = false := by rfl) : DE X { G with cv := cv } (.Call (.Name x p) (e :: es) [] pos) (eA F ra) := by
  obtain ⟨kV, doc, pm, an, cdv, ct, _, hok⟩ := hf.ok
  exact de_call ⟨hok, hf.kp, .all (hb x kV doc pm an cdv ct), hf.mg⟩ hr hK hB ha hg hdb he hpl
def DK (X : Cx) (G : Gc) (kws : List Keyword) (t : RA) : Prop := ∃ ta, PK X kws ta ∧ EvA G ta t
theorem dk_nil : DK X G [] aNil := ⟨_, pk_nil, fun ρ S ds S' e w σ H s Q q => by cases e; exact q w [] H s (Ext.refl ..) .nil⟩
theorem dk_cons {nm : Option Str} {kpos : Pos} {kws : List Keyword} (h : DE X G e te) (h2 : DK X G kws ra) : DK X G (⟨nm, e, kpos⟩ :: kws) (aCons te ra) :=
  let ⟨_, pa, ea⟩ := h; let ⟨_, pb, eb⟩ := h2
  ⟨_, pk_cons pa pb, fun ρ S ds S' e w σ H s Q q => by
    unfold aCons at e
    split at e
    · rename_i x S1 h1
      split at e
      · rename_i xs S2 h2
        cases e
        exact ea ρ S x S1 h1 w σ H s _ fun w1 v H1 s1 x1 d1 => eb ρ S1 xs _ h2 w1 σ H1 s1 _ fun w2 vs H2 s2 x2 d2 => q w2 _ H2 s2 (x1.trans x2) (.cons (d1.ext x2) d2)
      · cases e
    · cases e⟩
theorem pick_vals {vs : List V} {us : List Value} (r : Vals vs us) : ∀ idx : List Nat, Vals (pick idx vs) (pick idx us)
  | [] => .nil
  | i :: rest => by
    have ih := pick_vals r rest
    unfold pick at ih ⊢
    by_cases hi : i < vs.length
    · obtain ⟨v, hv⟩ : ∃ v, vs[i]? = some v := ⟨_, List.getElem?_eq_getElem hi⟩
      obtain ⟨u, hu, ru⟩ := r.get hv
      rw [List.filterMap_cons, List.filterMap_cons, hv, hu]
      exact .cons ru ih
    · have h1 : vs[i]? = none := List.getElem?_eq_none (Nat.not_lt.mp hi)
      have h2 : us[i]? = none := List.getElem?_eq_none (by rw [← r.length]; exact Nat.not_lt.mp hi)
      rw [List.filterMap_cons, List.filterMap_cons, h1, h2]
      exact ih
theorem pick_den {w : Wd} {n : Nat} {vs : List V} {ds : List D} (r : DenL w n vs ds) : ∀ idx : List Nat, DenL w n (pick idx vs) (pick idx ds)
  | [] => .nil
  | i :: rest => by
    have ih := pick_den r rest
    unfold pick at ih ⊢
    by_cases hi : i < ds.length
    · obtain ⟨v, hv⟩ : ∃ v, ds[i]? = some v := ⟨_, List.getElem?_eq_getElem hi⟩
      obtain ⟨u, hu, ru⟩ := r.get hv
      rw [List.filterMap_cons, List.filterMap_cons, hv, hu]
      exact .cons ru ih
    · have h1 : ds[i]? = none := List.getElem?_eq_none (Nat.not_lt.mp hi)
      have h2 : vs[i]? = none := List.getElem?_eq_none (by rw [r.len]; exact Nat.not_lt.mp hi)
      rw [List.filterMap_cons, List.filterMap_cons, h1, h2]
      exact ih
/-- f(k = v, ..) -/
theorem dcallK {cv : Option Value} {kws : List Keyword} {idx : List Nat} (hf : DFs X.prog X.w G X.mg k x st f ps F) (hb : BindsK st ps ks idx) (hr : Room k X.A) (ha : DK X { G with cv := cv } kws ra) (hK : X.K = G.K := by rfl) (hB : X.base = G.base := by rfl) (hg : Gl X x := by rfl) (hdb : (x == ("__debug__" : Str)) = false := by decide)
    (hall : (backToKw pos (keywordEach kws X.env)).all (·.1.isSome) = true := by rfl) (hks : (backToKw pos (keywordEach kws X.env)).filterMap (·.1) = ks := by rfl) (hlen : kws.length = ks.length := by rfl)
    (hpl : ((backTo pos (starEach [] X.env)).any (·.1) || (backToKw pos (keywordEach kws X.env)).any (·.1.isNone)) = false := by rfl) (hn : ∀ (ρ : En) (S : Sto) (xs : List D) (S' : Sto), ra ρ S = some (xs, S') → xs.length = ks.length) :
    DE X { G with cv := cv } (.Call (.Name x p) [] kws pos) (eA (fun xs S => F (pick idx xs) S) ra) := by
  obtain ⟨kV, doc, pm, an, cdv, ct, _, hok⟩ := hf.ok
  obtain ⟨ta, pa, ea⟩ := ha
  refine ⟨teOf _ _, ⟨fun pins s σ H Q I ⟨ρ, S, d, S', w, e, sat, q⟩ => ?_⟩, ev_of⟩
  unfold eA at e
  split at e
  · rename_i xs S1 h1
    have hxl := hn _ _ _ _ h1
    refine wpAny_Call_Name_kw (ld_glob I hg hf.mg ?_ hdb)
    refine PySem.W.callWith_KW0 (h₀ := X.base) I.ok.mod.kin (by rw [hK]; exact hf.kp) hall ?_ hpl
    refine thn (pa.run pos pins s σ H (fun zs H1 => zs.length = xs.length ∧ SpD G F (pick idx zs) H1 Q E0) I (ea ρ S xs S1 h1 w σ H sat _ fun w1 vs H1 s1 x1 d1 => ⟨d1.len, sp_cv s1.core (pick_den d1 idx) e fun w2 v H2 c2 x2 d2 => q w2 v H2 (s1.ofCore c2 x2) (x1.trans x2) d2⟩)) fun ws s2 ⟨zs, H2, I2, rz, hzl, sp⟩ => ⟨I2.kIn, ?_⟩
    rw [hks]
    have hl := hok.len _ _ _ _ sp
    have r2 := pick_vals rz idx
    have hok : FnOk X.prog X.w X.K X.mg X.base CX0 k f (PySem.W.fnOf x x (defArgs st) (defBody st) (defScope st) .none kV doc pm an cdv ct) ps (SpD G F) := by rw [hK, hB]; exact hok
    refine wpAny_call (codeAny_mono (hok.run X.A X.stack s2 H2 ⟨[], ks.zip ws⟩ (pick idx ws) (pick idx zs) Q E0 hr I2.env0 (.of_eq (hb x kV doc pm an cdv ct ws (by rw [← rz.length, hzl, hxl]))) r2 sp) fun r s' hq => ?_)
    cases r with
    | error e => exact hq.elim
    | ok fl =>
      cases fl with
      | ret u => exact I2.after hq
      | next => exact False.elim hq
      | brk => exact False.elim hq
      | cont => exact False.elim hq
  · cases e
/-- THE RULE for a def -/
theorem fn_at {N : List Str} {fin : D → Sto → Sto → Option (D × Sto)} {t : RS} {cv : Option Value} (A : FAt G.K mg x st f c) (Sc : FnScope N ps (defScope st)) (hfin : FinOk fin) (hcv : ∀ v, cv = some v → v = .ref c ∧ ∃ P, G.t0 c P)
    (hbody : ∀ (A : Around) (outer : List Env) (s : Shared) (H : Hp) (E : XK), Room k (A.deeper (envOfC x (defScope st) s.heap.objs.size f (.ref c))) → DSs (cxOf CX0 P wd G.K mg G.base N x (defScope st) f (.ref c) A outer s H E).nox { G with cv := cv } (defBody st) t) :
    DFs P wd G mg (k + 1) x st f ps (fnD ps.length N.length fin t) := by
  obtain ⟨oc, od, kV, doc, pm, an, ct, osl, lk⟩ := A.lk
  exact ⟨⟨kV, doc, pm, an, .ref c, ct, ⟨oc, od, osl, lk⟩, fn_d lk A.cd Sc hfin (fun v hv => let ⟨e, P, h⟩ := hcv v hv; ⟨c, P, e, h⟩) hbody⟩, A.kp, A.mg⟩
end

/-! ### the law -/
def noLists (K : PySem.W.Frag) : Bool := K.all fun p => match p.2.cls with | .type "list" => false | _ => true
theorem lk_mem {a : Addr} {o : Obj} : ∀ {K : List (Addr × Obj)}, K.lookup a = some o → (a, o) ∈ K
  | [], e => by cases e
  | (b, u) :: r, e => by
    rw [List.lookup_cons] at e
    split at e
    · rename_i hb
      have hb := beq_iff_eq.mp hb
      cases e
      rw [hb]; exact List.mem_cons_self
    · exact List.mem_cons_of_mem _ (lk_mem e)
theorem noLists_of {K : PySem.W.Frag} (h : noLists K = true) {a : Addr} {o : Obj} (e : K.lookup a = some o) : o.cls ≠ .type "list" := fun hc => by
  have hm := lk_mem e
  unfold noLists at h
  rw [List.all_eq_true] at h
  have q := h _ hm
  simp only [hc] at q
  cases q
theorem triples_nil : TriplesOk ([] : List Value) := by first | exact trivial | decide | simp [TriplesOk]
theorem law_at {l : PySem.W.OpenLaw} {w : World} {K : PySem.W.Frag} {k n : Nat} {mg : Str → Option Value} {fa : Addr} {h : Heap} {st : Stmt} {x : Str} {ln : Str} {F : FD} (cs : List (Addr × Addr))
    (hT : ∀ p ∈ cs, h.get? p.2 = some { cls := .none, data := .fields #[] }) (hN : ∀ p ∈ cs, K.lookup p.2 = none) (hC : ∀ p ∈ cs, PySem.W.CodeHd h p.1 p.2) (hK : noLists K = true) (hb : BindsP st [x])
    (hlaw : ∀ ns : List Int, ns.length ≤ n → (∀ z ∈ ns, Builtin.Int.intBits z ≤ 1048576) → F [.scr (ns.map D.int)] [] = some (.bl true, []))
    {c : Addr} (A : FAt K mg ln st fa c) (hF : ∀ base : Heap, K.In base → base.Ns mainGlobals mg → (∀ p ∈ cs, TabB base mg p.1 p.2) → DFs l.prog w ⟨base, K, fun c P => (c, P) ∈ cs, none, w⟩ mg k ln st fa [x] F) : LawAtS l w K CX0 k n x mg fa h := by
  obtain ⟨oc, od, kV, doc, pm, an, ct, osl, lk⟩ := A.lk
  have hF : ∀ base : Heap, K.In base → base.Ns mainGlobals mg → (∀ p ∈ cs, TabB base mg p.1 p.2) → FnOk l.prog w K mg base CX0 k fa (PySem.W.fnOf ln ln (defArgs st) (defBody st) (defScope st) .none kV doc pm an (.ref c) ct) [x] (SpD ⟨base, K, fun c P => (c, P) ∈ cs, none, w⟩ F) := fun base hk hns ht => by
    obtain ⟨kV', doc', pm', an', cdv', ct', ⟨oc', od', osl', lk'⟩, hok⟩ := (hF base hk hns ht).ok
    have e := congrArg Obj.data (Option.some.inj (lk'.symm.trans lk))
    have e2 := Data.func.inj e
    rw [← e2]; exact hok
  refine ⟨_, cs, fun vs H Q _ => ∃ a ns, vs = [.ref a] ∧ SqL K H a (ns.map V.int) ∧ ns.length ≤ n ∧ (∀ z ∈ ns, Builtin.Int.intBits z ≤ 1048576) ∧ (∀ p ∈ cs, H p.2 = some (.tbl #[])) ∧ ∀ H', Q (.bl true) H', hT, hN, hC,
    fun s u => .of_eq (hb ln kV doc pm an (.ref c) ct [u] rfl), fun H a ns h1 h2 h3 h4 => ⟨a, ns, rfl, h4, h1, h2, h3, fun _ => rfl⟩, fun base hk hns ht => (hF base hk hns ht).imp fun vs H Q E ⟨a, ns, e, hs, h1, h2, h3, q⟩ => ?_⟩
  subst e
  have hr : Rd H a (.lst (ns.map V.int)) := by
    rcases hs with hs | ⟨o, its, m, hk2, hc, _⟩
    · exact hs
    · exact absurd hc (noLists_of hK hk2)
  obtain ⟨o, ho, hrd⟩ : ∃ o, H a = some o ∧ (o = .lst (ns.map V.int) ∨ ∃ ob, o = .frz ob (.lst (ns.map V.int))) := by
    rcases hr with hr | ⟨ob, hr⟩
    · exact ⟨_, hr, .inl rfl⟩
    · exact ⟨_, hr, .inr ⟨ob, rfl⟩⟩
  refine ⟨⟨fun _ => 0, fun b => if b = a then some o else none, fun c P => (c, P) ∈ cs⟩, [], [.scr (ns.map D.int)], .bl true, [], ?_, .cons (.scr ?_ (DenL.ints ns)) .nil, hlaw ns h1 h2, fun w' v H' _ _ d => by rw [den_bl d]; exact q H'⟩
  · refine ⟨fun b u hb => ?_, fun b u hb => ?_, fun k c hk => by simp at hk, fun j k hj _ _ => absurd hj (Nat.not_lt_zero _), ⟨fun c P hcp => ⟨.inr (ht _ hcp).code, #[], h3 _ hcp, triples_nil, fun pos cv hcv => ?_⟩⟩, fun _ _ h => h⟩
    · have hb : (if b = a then some o else none) = some u := hb
      split at hb
      · rename_i hba; cases hb; rw [hba]; exact ho
      · cases hb
    · have hb : (if b = a then some o else none) = some u := hb
      split at hb
      · cases hb
        rcases hrd with z | ⟨ob, z⟩
        · exact .inr (.inl ⟨_, z⟩)
        · exact .inr (.inr ⟨ob, _, z⟩)
      · cases hb
    · simp [codeAmong] at hcv
  · show Rd (fun b => if b = a then some o else none) a _
    rcases hrd with z | ⟨ob, z⟩
    · exact .inl ((if_pos rfl).trans (congrArg some z))
    · exact .inr ⟨ob, (if_pos rfl).trans (congrArg some z)⟩
/-- what the head's promise gives of each def's table -/
theorem walk_ofD {l : PySem.W.OpenLaw} {n k : Nat} {q : Program} {loose : List Str} {XP : (Str → Option Value) → Heap → Prop} {YP : World → Heap → Prop} {d : DefRec} {K : Params → PySem.W.Frag} {x : Str}
    (hn : l.most = some n) (hn2 : n ≤ sizeLine) (hdf : d.params.defaults = []) (hr : Room k callerA) (hY : ∀ (w : World) (h : Heap), YP w h → (K w.params).In h)
    (F : ∀ (w : World) (mg : Str → Option Value) (fa : Addr) (h : Heap), YP w h → (K w.params).In h → h.Ns mainGlobals mg → mg d.name = some (.ref fa) → (∀ y : Str, ((recsOf q).any fun e => e.name == y) = true → ∀ f, mg y = some (.ref f) → OwnTab (K w.params) f h) → LawAtS l w (K w.params) CX0 k n x mg fa h) :
    PySem.W.WalkO q loose XP YP l.row.toRowW d [] (fun f vs => PySem.call f vs) := by
  refine Att.attach_callB hn hdf fun w s₀ s₁ mg mb fa o pm cd doc a vs ns G Y ho hd hcd hmg hobj hints hlen hbits hg => ?_
  have KX := hY w _ Y
  have own : ∀ y : Str, ((recsOf q).any fun e => e.name == y) = true → ∀ f, mg y = some (.ref f) → OwnTab (K w.params) f s₁.heap := fun y hy f hmy c P o1 fd1 e dd vs1 sl k1 k2 k3 k4 k5 => by
    obtain ⟨dL, hm, hn1⟩ := List.any_eq_true.mp hy
    have hn2 : dL.name = y := beq_iff_eq.mp hn1
    obtain ⟨a', o', fd', c', P', h1, h2, h3, h4, h5, h6⟩ := G.T.tab dL hm
    rw [hn2, hmy] at h1
    cases h1
    rw [KX _ _ k1] at h2
    cases h2
    rw [k2] at h3
    cases h3
    rw [k3] at h4
    cases h4
    obtain ⟨⟨oc, vc, e1, _, e3, e4⟩, hP⟩ := h6
    rw [KX _ _ k4] at e1
    cases e1
    cases e3
    rw [k5] at e4
    cases e4
    exact hP
  obtain ⟨fd, cs, sp, hT, nT, C, hb, hsp, hF⟩ := F w mg fa _ Y KX G.T.g hmg own
  exact law_callTs KX G.T.g G.T.b G.T.builtins G.T.nolimit hg hT nT C G.T.bmain hobj hints (Nat.le_trans hlen hn2) hr hF hb (fun H hH hS => hsp H a ns hlen hbits hH hS) fun H e s' h => h.elim
end DL

set_option maxRecDepth 100000
set_option maxHeartbeats 4000000
set_option pp.maxSteps 900
namespace DL
open PySem PySem.Spec PyProof.Rows L2 GX
open Classical
section
variable {G : Gc} {X : Cx} {pos p : Pos} {a b c e o : Expr} {es : List Expr} {ta tb tc te : RE} {ra : RA} {mk : List D → Sto → Option (D × Sto)}
/-- + by what stands there -/
@[simp] def fPlus (mk : List D → Sto → Option (D × Sto)) : D → D → Sto → Option (D × Sto) := fun x y S => match x with
  | .int i => (match y with | .int j => some (.int (i + j), S) | _ => none)
  | .tup _ => fCatT x y S
  | .str u => (match y with | .str v => if u.length + v.length ≤ 1000000 then some (.str (u ++ v), S) else none | _ => none)
  | _ => fCatL mk x y S
@[simp] noncomputable def fTimes (mk : List D → Sto → Option (D × Sto)) : D → D → Sto → Option (D × Sto) := fun x y S => match x with
  | .int i => (match y with | .int j => if MulC i j then some (.int (i * j), S) else none | _ => none)
  | .tup _ => fRepT x y S
  | _ => fRepL mk x y S
/-- a made list is known: frozen, or an object of the store -/
def NewL (mk : List D → Sto → Option (D × Sto)) : Prop := ∀ {G : Gc} {w : Wd} {ρ : En} {S S' : Sto} {σ : L2.St} {H : Hp} {xs : List V} {ds : List D} {d : D} {Q : VK}, Sat G w ρ S σ H → DenL w S.length xs ds → mk ds S = some (d, S') →
      (∀ w' v H', Sat G w' ρ S' σ H' → Ext w S H w' S' H' → Den w' S'.length v d → Q v H') → xs.length ≤ sizeLine ∧ ∀ p, H p = none → Q (.ref p) (upd H p (.lst xs))
theorem newF : NewL fLst := fun s hd e q => new_lst s hd e q
theorem newO : NewL fObj := fun s hd e q => new_obj s hd e q
theorem r_catT : R2New G (rCatA X.K) fCatT := fun w ρ S σ H x y dx dy d S' Q s hx hy e q => by
  unfold fCatT at e
  split at e
  · rename_i xs ys
    split at e
    · rename_i hl
      cases e
      obtain ⟨p, vs, rfl, hp, l⟩ := den_tup hx
      obtain ⟨p', us, rfl, hp', l'⟩ := den_tup hy
      refine ⟨p, p', vs, us, rfl, rfl, .inl (.inl (s.core.sub _ _ hp)), .inl (.inl (s.core.sub _ _ hp')), by rw [l.len, l'.len]; exact le_line hl, fun h => ?_, fun h h' => ?_, fun h h' r hr => ?_⟩
      · have : xs = [] := l.nil_iff.mp h
        exact q w _ H s (Ext.refl ..) (by rw [this, List.nil_append]; exact .tup hp' l')
      · have : ys = [] := l'.nil_iff.mp h'
        exact q w _ H s (Ext.refl ..) (by rw [this, List.append_nil]; exact .tup hp l)
      · obtain ⟨s1, x1⟩ := s.newF (o := .tup (vs ++ us)) hr (.inl ⟨_, rfl⟩)
        exact q _ _ _ s1 x1 (den_newT (l.app l') (s.core.fresh hr))
    · cases e
  · cases e
theorem de_plus (hmk : NewL mk) (ha : DE X G a ta) (hb : DE X G b tb) : DE X G (.BinOp a .Add b pos) (e2s (fPlus mk) ta tb) :=
  let ⟨_, pa, ea⟩ := ha; let ⟨_, pb, eb⟩ := hb
  ⟨_, pe_op (op_add.or (op_catA.or (op_add_str.or op_cat))) pa pb, ev_2s (fun w ρ S σ H x y dx dy d S' Q s hx hy e q => by
    unfold fPlus at e
    split at e
    · split at e
      · cases e
        exact .inl ⟨_, _, den_int hx, den_int hy, q w _ H s (Ext.refl ..) (.int _)⟩
      · cases e
    · exact .inr (.inl (r_catT (X := X) w ρ S σ H x y _ dy d S' Q s hx hy e q))
    · split at e
      · split at e
        · rename_i hl
          cases e
          exact .inr (.inr (.inl ⟨_, _, den_str hx, den_str hy, le_line hl, q w _ H s (Ext.refl ..) (.str _)⟩))
        · cases e
      · cases e
    · exact .inr (.inr (.inr (r_catL (fun s hd e q => hmk s hd e q) w ρ S σ H x y _ dy d S' Q s hx hy e q)))) ea eb⟩
theorem r_repT : R2New G (fun x y H Q => rRep1 X.K x y H Q ∨ rRepT X.K x y H Q) fRepT := fun w ρ S σ H x y dx dy d S' Q s hx hy e q => by
  unfold fRepT at e
  split at e
  · rename_i xs k
    split at e
    · rename_i hc
      obtain ⟨h1, h2, h3, h4⟩ := hc
      cases e
      obtain ⟨p, vs, rfl, hp, l⟩ := den_tup hx
      cases den_int hy
      by_cases hk : k = 1
      · subst hk
        refine .inl ⟨p, vs, rfl, rfl, .inl (.inl (s.core.sub _ _ hp)), q w _ H s (Ext.refl ..) ?_⟩
        have : (List.replicate (1 : Int).toNat xs).flatten = xs := by simp
        rw [this]
        exact .tup hp l
      · refine .inr ⟨p, k, vs, rfl, rfl, .inl (.inl (s.core.sub _ _ hp)), fun z => h1 (l.nil_iff.mp z), by omega, h3, by rw [l.len]; exact h4, fun r hr => ?_⟩
        obtain ⟨s1, x1⟩ := s.newF (o := .tup (List.replicate k.toNat vs).flatten) hr (.inl ⟨_, rfl⟩)
        exact q _ _ _ s1 x1 (den_newT (l.rep k.toNat) (s.core.fresh hr))
    · cases e
  · cases e
theorem de_times (hmk : NewL mk) (ha : DE X G a ta) (hb : DE X G b tb) : DE X G (.BinOp a .Mult b pos) (e2s (fTimes mk) ta tb) :=
  let ⟨_, pa, ea⟩ := ha; let ⟨_, pb, eb⟩ := hb
  ⟨_, pe_op (op_mulC.or (OpR.or (OpR.or op_repT1 op_repT) op_rep)) pa pb, ev_2s (fun w ρ S σ H x y dx dy d S' Q s hx hy e q => by
    unfold fTimes at e
    split at e
    · split at e
      · split at e
        · rename_i hc
          cases e
          exact .inl ⟨_, _, den_int hx, den_int hy, hc, q w _ H s (Ext.refl ..) (.int _)⟩
        · cases e
      · cases e
    · exact .inr (.inl (r_repT (X := X) w ρ S σ H x y _ dy d S' Q s hx hy e q))
    · exact .inr (.inr (r_repL (fun s hd e q => hmk s hd e q) w ρ S σ H x y _ dy d S' Q s hx hy e q))) ea eb⟩
/-- steps of a while: by the ints that stand in the names -/
def fuelI : En → Sto → Nat := fun ρ _ => (ρ.map fun d => match d with | some (.int i) => i.natAbs | _ => 0).sum + 2
theorem dfs_zero {P : Program} {wd : World} {mg : Str → Option Value} {x : Str} {st : Stmt} {f c : Addr} {ps : List Str} {k : Nat} (A : FAt G.K mg x st f c) : DFs P wd G mg k x st f ps (fun _ _ => none) := by
  obtain ⟨oc, od, kV, doc, pm, an, ct, osl, lk⟩ := A.lk
  have z : ∀ vs H Q E, SpD G (fun _ _ => none) vs H Q E → False := fun vs H Q E h => by
    obtain ⟨_, _, _, _, _, _, _, e, _⟩ := h
    cases e
  exact ⟨⟨kV, doc, pm, an, .ref c, ct, ⟨oc, od, osl, lk⟩, ⟨fun vs H Q E h => (z vs H Q E h).elim, fun A outer s H args us vs Q E _ _ _ _ h => (z vs H Q E h).elim⟩⟩, A.kp, A.mg⟩
end
end DL

set_option maxRecDepth 100000
set_option maxHeartbeats 4000000
set_option pp.maxSteps 900
namespace DL
open PySem PySem.Spec PyProof.Rows L2 GX
open Classical
section
variable {G : Gc} {X : Cx} {pos p : Pos} {a b c e o : Expr} {es : List Expr} {ta tb tc te : RE} {ra : RA} {t1 : RT}
theorem bt_int : bootBuiltins "int" = some (.type "int") := by decide +kernel
theorem bt_bool : bootBuiltins "bool" = some (.type "bool") := by decide +kernel
theorem bt_str : bootBuiltins "str" = some (.type "str") := by decide +kernel
theorem bt_tuple : bootBuiltins "tuple" = some (.type "tuple") := by decide +kernel
theorem bt_list : bootBuiltins "list" = some (.type "list") := by decide +kernel
/-- how many values an argument list has -/
def AL (n : Nat) (r : RA) : Prop := ∀ (ρ : En) (S : Sto) (xs : List D) (S' : Sto), r ρ S = some (xs, S') → xs.length = n
theorem al_nil : AL 0 aNil := fun ρ S xs S' e => by cases e; rfl
theorem al_cons {n : Nat} {t : RE} {r : RA} (h : AL n r) : AL (n + 1) (aCons t r) := fun ρ S xs S' e => by
  unfold aCons at e
  split at e
  · split at e
    · rename_i h2
      cases e
      rw [List.length_cons, h _ _ _ _ h2]
    · cases e
  · cases e
/-- a look at the names of a def's scope -/
def scOk (N P : List Str) (sc : Scope) : Bool :=
  decide (sc.kind = .function) && !sc.isCoroutine && !sc.isGenerator && decide N.Nodup && decide (N.take P.length = P) && P.all (fun x => decide (sc.names.lookup x = some .local) || decide (sc.names.lookup x = some .cell)) && sc.names.all (fun y => !decide (y.2 = .free))
theorem sc_by {N P : List Str} {sc : Scope} (h : scOk N P sc = true) : FnScope N P sc := by
  unfold scOk at h
  simp only [Bool.and_eq_true, Bool.not_eq_true', decide_eq_true_eq, List.all_eq_true, Bool.or_eq_true, decide_eq_false_iff_not] at h
  obtain ⟨⟨⟨⟨⟨⟨h1, h2⟩, h3⟩, h4⟩, h5⟩, h6⟩, h7⟩ := h
  exact ⟨h1, h2, h3, h4, h5, h6, h7⟩
end
end DL


set_option maxRecDepth 100000
set_option maxHeartbeats 4000000
set_option pp.maxSteps 900
namespace DL
open PySem PySem.Spec PyProof.Rows L2 GX
open Classical
/-! ### max, min of one sequence of ints -/
@[simp] def listMax : List Int → Option Int | [] => none | x :: xs => some (xs.foldl max x)
@[simp] def listMin : List Int → Option Int | [] => none | x :: xs => some (xs.foldl min x)
theorem foldl_max : ∀ (xs : List Int) (a : Int), a ≤ xs.foldl max a ∧ (∀ y ∈ xs, y ≤ xs.foldl max a) ∧ (xs.foldl max a = a ∨ xs.foldl max a ∈ xs)
  | [], a => ⟨Int.le_refl a, (fun y h => by cases h), .inl rfl⟩
  | x :: xs, a => by
    obtain ⟨h1, h2, h3⟩ := foldl_max xs (max a x)
    refine ⟨by simp only [List.foldl_cons]; omega, fun y hy => ?_, ?_⟩
    · rcases List.mem_cons.mp hy with e | e
      · subst e; simp only [List.foldl_cons]; omega
      · exact h2 y e
    · simp only [List.foldl_cons]
      rcases h3 with h3 | h3
      · rw [h3]
        by_cases q : a ≤ x
        · right; rw [Int.max_eq_right q]; exact List.mem_cons_self
        · left; exact Int.max_eq_left (by omega)
      · exact .inr (List.mem_cons_of_mem _ h3)
theorem foldl_min : ∀ (xs : List Int) (a : Int), xs.foldl min a ≤ a ∧ (∀ y ∈ xs, xs.foldl min a ≤ y) ∧ (xs.foldl min a = a ∨ xs.foldl min a ∈ xs)
  | [], a => ⟨Int.le_refl a, (fun y h => by cases h), .inl rfl⟩
  | x :: xs, a => by
    obtain ⟨h1, h2, h3⟩ := foldl_min xs (min a x)
    refine ⟨by simp only [List.foldl_cons]; omega, fun y hy => ?_, ?_⟩
    · rcases List.mem_cons.mp hy with e | e
      · subst e; simp only [List.foldl_cons]; omega
      · exact h2 y e
    · simp only [List.foldl_cons]
      rcases h3 with h3 | h3
      · rw [h3]
        by_cases q : a ≤ x
        · left; exact Int.min_eq_left q
        · right; rw [Int.min_eq_right (by omega)]; exact List.mem_cons_self
      · exact .inr (List.mem_cons_of_mem _ h3)
theorem listMax_ok {ns : List Int} {m : Int} (h : listMax ns = some m) : 0 < ns.length ∧ ∀ k, k ∈ ns → (∀ y, y ∈ ns → y ≤ k) → k = m := by
  cases ns with
  | nil => cases h
  | cons x xs =>
    cases h
    obtain ⟨h1, h2, h3⟩ := foldl_max xs x
    refine ⟨by simp, fun k hk hb => ?_⟩
    have a : xs.foldl max x ≤ k := hb _ (by rcases h3 with e | e; · rw [e]; exact List.mem_cons_self
                                            · exact List.mem_cons_of_mem _ e)
    have b : k ≤ xs.foldl max x := by
      rcases List.mem_cons.mp hk with e | e
      · rw [e]; exact h1
      · exact h2 k e
    omega
theorem listMin_ok {ns : List Int} {m : Int} (h : listMin ns = some m) : 0 < ns.length ∧ ∀ k, k ∈ ns → (∀ y, y ∈ ns → k ≤ y) → k = m := by
  cases ns with
  | nil => cases h
  | cons x xs =>
    cases h
    obtain ⟨h1, h2, h3⟩ := foldl_min xs x
    refine ⟨by simp, fun k hk hb => ?_⟩
    have a : k ≤ xs.foldl min x := hb _ (by rcases h3 with e | e; · rw [e]; exact List.mem_cons_self
                                            · exact List.mem_cons_of_mem _ e)
    have b : xs.foldl min x ≤ k := by
      rcases List.mem_cons.mp hk with e | e
      · rw [e]; exact h1
      · exact h2 k e
    omega
@[simp] def fMax1 : List D → Sto → Option (D × Sto) := fun ds S => match ds with
  | [d] => (match seqD d S with | some xs => (match intsD xs with | some ns => (match listMax ns with | some m => some (.int m, S) | none => none) | none => none) | none => none)
  | _ => none
@[simp] def fMin1 : List D → Sto → Option (D × Sto) := fun ds S => match ds with
  | [d] => (match seqD d S with | some xs => (match intsD xs with | some ns => (match listMin ns with | some m => some (.int m, S) | none => none) | none => none) | none => none)
  | _ => none
section
variable {G : Gc} {X : Cx} {pos p p2 : Pos} {a b c e o : Expr} {lo hi : Option Expr} {es : List Expr} {ta tb tc te : RE} {ra : RA} {t1 : RT} {mk : List D → Sto → Option (D × Sto)}
/-! ### slices -/
abbrev RO := En → Sto → Option (Option Int × Sto)
@[simp] def oNo : RO := fun _ S => some (none, S)
@[simp] def oSome (t : RE) : RO := fun ρ S => match t ρ S with | some (.int i, S1) => some (some i, S1) | _ => none
def EvO (G : Gc) (to : TO) (t : RO) : Prop := ∀ (ρ : En) (S : Sto) (o : Option Int) (S' : Sto), t ρ S = some (o, S') → ∀ (w : Wd) (σ : L2.St) (H : Hp), Sat G w ρ S σ H → ∀ Q : Option Int → Hp → Prop,
  (∀ w' H', Sat G w' ρ S' σ H' → Ext w S H w' S' H' → Q o H') → to σ H Q
def DO (X : Cx) (G : Gc) (e : Option Expr) (t : RO) : Prop := ∃ to, PO X e to ∧ EvO G to t
theorem do_no : DO X G none oNo := ⟨_, po_none, fun ρ S o S' e w σ H s Q q => by cases e; exact q w H s (Ext.refl ..)⟩
theorem do_some (h : DE X G e te) : DO X G (some e) (oSome te) :=
  let ⟨_, p, ev⟩ := h
  ⟨_, po_some p, fun ρ S o S' e w σ H s Q q => by
    unfold oSome at e
    split at e
    · rename_i i S1 h1
      cases e
      exact ev ρ S _ _ h1 w σ H s _ fun w1 v H1 s1 x1 d1 => ⟨_, den_int d1, q w1 H1 s1 x1⟩
    · cases e⟩
def cutD (xs : List D) (lo hi : Option Int) : List D := (xs.drop (HT.sIx xs.length 0 lo)).take (HT.sIx xs.length xs.length hi - HT.sIx xs.length 0 lo)
@[simp] def fSl (mk : List D → Sto → Option (D × Sto)) : D → Option Int → Option Int → Sto → Option (D × Sto) := fun d l h S => match d with
  | .tup xs => some (.tup (cutD xs l h), S)
  | d => (match seqD d S with | some xs => mk (cutD xs l h) S | none => none)
@[simp] def eSl (mk : List D → Sto → Option (D × Sto)) (a : RE) (lo hi : RO) : RE := fun ρ S => match a ρ S with
  | some (d, S1) => (match lo ρ S1 with
    | some (l, S2) => (match hi ρ S2 with
      | some (h, S3) => fSl mk d l h S3
      | none => none)
    | none => none)
  | none => none
theorem DenL.cut {w : Wd} {n : Nat} {vs : List V} {ds : List D} (h : DenL w n vs ds) (l u : Option Int) : DenL w n (cutV vs l u) (cutD ds l u) := by
  unfold cutV cutD
  rw [h.len]
  exact (h.drop _).take _
theorem cutD_all {xs : List D} {l h : Option Int} (h1 : HT.sIx xs.length 0 l = 0 ∧ HT.sIx xs.length xs.length h = xs.length) : cutD xs l h = xs := by
  unfold cutD
  rw [h1.1, h1.2]
  simp
theorem seq_L {K : PySem.W.Frag} {w : Wd} {S : Sto} {H : Hp} (c : Core G w S H) {v : V} {d : D} {xs : List D} (h : Den w S.length v d) (e : seqD d S = some xs) (hn : ∀ ys, d = .tup ys → False) : ∃ p vs, v = .ref p ∧ SqL K H p vs ∧ DenL w S.length vs xs := by
  obtain ⟨p, vs, h1, h2, h3⟩ := seq_ok' (K := K) c h e
  rcases h3 with h3 | ⟨_, h4⟩
  · exact ⟨p, vs, h1, h3, h2⟩
  · subst h1
    cases h with
    | tup r l => exact (hn _ rfl).elim
    | lst r l => rw [h4] at r; cases r
    | scr r l =>
      rcases r with r | ⟨o, r⟩ <;> rw [h4] at r <;> cases r
    | obj hk =>
      simp only [seqD] at e
      split at e
      · rename_i ys hx
        obtain ⟨g, _⟩ := c.cel _ _ hx
        rw [g] at h4; cases h4
      · cases e
theorem de_sl {tl tu : RO} (hmk : NewL mk) (ha : DE X G a ta) (hl : DO X G lo tl) (hu : DO X G hi tu) : DE X G (.Subscript a (.Slice lo hi none p2) pos) (eSl mk ta tl tu) :=
  let ⟨_, pa, ea⟩ := ha; let ⟨_, pl, el⟩ := hl; let ⟨_, pu, eu⟩ := hu
  ⟨_, pe_slice (SlR.or sl_tupA sl_list) pa pl pu, fun ρ S d S' e w σ H s Q q => by
    unfold eSl at e
    split at e
    · rename_i d0 S1 h1
      split at e
      · rename_i l S2 h2
        split at e
        · rename_i u S3 h3
          refine ea ρ S d0 S1 h1 w σ H s _ fun w1 v H1 s1 x1 d1 => el ρ S1 l S2 h2 w1 σ H1 s1 _ fun w2 H2 s2 x2 => eu ρ S2 u S3 h3 w2 σ H2 s2 _ fun w3 H3 s3 x3 => ?_
          have d3 := (d1.ext x2).ext x3
          have xx := (x1.trans x2).trans x3
          unfold fSl at e
          split at e
          · rename_i xs
            cases e
            obtain ⟨pp, vs, rfl, hp, l0⟩ := den_tup d3
            refine .inl ⟨pp, vs, rfl, .inl (.inl (s3.core.sub _ _ hp)), fun hw => ?_, fun _ r hr => ?_⟩
            · rw [l0.len] at hw
              exact q w3 _ H3 s3 xx (by rw [cutD_all hw]; exact d3)
            · obtain ⟨s4, x4⟩ := s3.newF (o := .tup (cutV vs l u)) hr (.inl ⟨_, rfl⟩)
              exact q _ _ _ s4 (xx.trans x4) (den_newT (l0.cut l u) (s3.core.fresh hr))
          · rename_i hnt
            split at e
            · rename_i xs hs
              obtain ⟨pp, vs, rfl, hL, l0⟩ := seq_L (K := X.K) s3.core d3 hs hnt
              exact .inr ⟨pp, vs, rfl, hL, fun r hr => (hmk s3 (l0.cut l u) e fun w4 v4 H4 s4 x4 d4 => q w4 v4 H4 s4 (xx.trans x4) d4).2 r hr⟩
            · cases e
        · cases e
      · cases e
    · cases e⟩
/-! ### max, min of a list of ints -/
theorem boot_max : bootBuiltins "max" = some (.builtin "max") := by decide +kernel
theorem boot_min : bootBuiltins "min" = some (.builtin "min") := by decide +kernel
/-- a list, no tuple -/
@[simp] def fMax1L : List D → Sto → Option (D × Sto) := fun ds S => match ds with
  | [.tup _] => none
  | _ => fMax1 ds S
@[simp] def fMin1L : List D → Sto → Option (D × Sto) := fun ds S => match ds with
  | [.tup _] => none
  | _ => fMin1 ds S
theorem de_max1 (hc : X.calm = true) (hm : X.mg "max" = none) (ha : DE X G a ta) (hg : Gl X "max" := by rfl) (hs : starEach [a] X.env = (false, eval a X.env) :: starEach [] X.env := by rfl) (hpl : (backTo pos (starEach [] X.env)).any (·.1) = false := by rfl) :
    DE X G (.Call (.Name "max" p) [a] [] pos) (eA fMax1L (aCons ta aNil)) :=
  let ⟨_, pa, ea⟩ := da_cons ha da_nil hs
  ⟨_, pe_callB (cr_max hc) hg hm boot_max pa (by decide) (by decide) hs hpl, ev_cb (fun w ρ S σ H xs ds d S' Q s hd e q => by
    unfold fMax1L at e
    split at e
    · cases e
    · rename_i hnt
      unfold fMax1 at e
      split at e
      · rename_i dd
        obtain ⟨v, rfl, hv⟩ := denL1 hd
        split at e
        · rename_i ys h1
          split at e
          · rename_i ns h2
            split at e
            · rename_i m h3
              cases e
              obtain ⟨a, vs, rfl, hq, l⟩ := seq_L (K := X.K) s.core hv h1 (fun ys z => hnt ys (by rw [z]))
              rw [ints_of l h2] at hq
              obtain ⟨g1, g2⟩ := listMax_ok h3
              exact ⟨a, ns, rfl, hq, g1, fun m' m1 m2 => by rw [g2 m' m1 m2]; exact q w _ H s (Ext.refl ..) (.int _)⟩
            · cases e
          · cases e
        · cases e
      · cases e) ea⟩
theorem de_min1 (hc : X.calm = true) (hm : X.mg "min" = none) (ha : DE X G a ta) (hg : Gl X "min" := by rfl) (hs : starEach [a] X.env = (false, eval a X.env) :: starEach [] X.env := by rfl) (hpl : (backTo pos (starEach [] X.env)).any (·.1) = false := by rfl) :
    DE X G (.Call (.Name "min" p) [a] [] pos) (eA fMin1L (aCons ta aNil)) :=
  let ⟨_, pa, ea⟩ := da_cons ha da_nil hs
  ⟨_, pe_callB (cr_min hc) hg hm boot_min pa (by decide) (by decide) hs hpl, ev_cb (fun w ρ S σ H xs ds d S' Q s hd e q => by
    unfold fMin1L at e
    split at e
    · cases e
    · rename_i hnt
      unfold fMin1 at e
      split at e
      · rename_i dd
        obtain ⟨v, rfl, hv⟩ := denL1 hd
        split at e
        · rename_i ys h1
          split at e
          · rename_i ns h2
            split at e
            · rename_i m h3
              cases e
              obtain ⟨a, vs, rfl, hq, l⟩ := seq_L (K := X.K) s.core hv h1 (fun ys z => hnt ys (by rw [z]))
              rw [ints_of l h2] at hq
              obtain ⟨g1, g2⟩ := listMin_ok h3
              exact ⟨a, ns, rfl, hq, g1, fun m' m1 m2 => by rw [g2 m' m1 m2]; exact q w _ H s (Ext.refl ..) (.int _)⟩
            · cases e
          · cases e
        · cases e
      · cases e) ea⟩
/-! ### is True -/
@[simp] def fIsB : D → D → Sto → Option D := fun x y _ => match x, y with | .bl a, .bl b => some (.bl (decide (a = b))) | _, _ => none
@[simp] def fNotB : D → D → Sto → Option D := fun x y _ => match x, y with | .bl a, .bl b => some (.bl (!decide (a = b))) | _, _ => none
theorem c_isB : CmpOk X G .Is fIsB := ⟨_, op_isBl, fun w S H x y dx dy d Q c hx hy e q => by
  unfold fIsB at e
  split at e
  · cases e; exact ⟨_, _, den_bl hx, den_bl hy, q _ (.bl _)⟩
  · cases e⟩
theorem c_notB : CmpOk X G .IsNot fNotB := ⟨_, op_notBl, fun w S H x y dx dy d Q c hx hy e q => by
  unfold fNotB at e
  split at e
  · cases e; exact ⟨_, _, den_bl hx, den_bl hy, q _ (.bl _)⟩
  · cases e⟩
/-! ### a constant of the module -/
theorem de_gint {x : Str} {i : Int} {u : Tok} (hm : X.mg x = some (.int i u)) (hg : Gl X x := by rfl) (hd : (x == ("__debug__" : Str)) = false := by decide) : DE X G (.Name x p) (eC (.int i)) := ⟨_, pe_glob (v := .int i) hg hm ⟨_, rfl⟩ hd, ev_c fun _ _ => .int i⟩
end
end DL

set_option maxRecDepth 100000
set_option maxHeartbeats 4000000
set_option pp.maxSteps 900
namespace DL
open PySem PySem.Spec PyProof.Rows L2 GX
/-! ### x in c, x not in c: lists and tuples of trees -/
/-- the items of a tree that is a list or a tuple -/
@[simp] def itemsP : PyData → Option (List PyData) | .list xs => some xs | .tuple xs => some xs | _ => none
def fInB (neg : Bool) : D → D → Sto → Option D := fun x y _ => match toP x, toP y with
  | some p, some c => (match itemsP c with
    | some ps => if PyData.plainAll ps = true ∧ p.plain = true ∧ p.depth ≤ 60 then some (.bl (neg ^^ ps.any fun z => PyData.eqv z p)) else none
    | none => none)
  | _, _ => none
abbrev fIn := fInB false
abbrev fNotIn := fInB true
def rInD (K : PySem.W.Frag) (neg : Bool) : R2 := fun x y H Q => ∃ d c ps, Dp K H x d ∧ Dp K H y c ∧ itemsP c = some ps ∧ PyData.plainAll ps = true ∧ d.plain = true ∧ d.depth ≤ 60 ∧ Q (.bl (neg ^^ ps.any fun z => PyData.eqv z d)) H
section
variable {G : Gc} {X : Cx} {k : Nat}
theorem op_inD (hu : X.A.units + 64 < cLine) : OpR X (compareOp .In) (rInD X.K false) := by
  intro pins s σ H x y v u Q I rx ry h
  obtain ⟨d, c, ps, hd, hc, hi, h1, h2, h3, q⟩ := h
  obtain ⟨as, r1⟩ := Dp.reads I d x v hd rx
  obtain ⟨bs, r2⟩ := Dp.reads I c y u hc ry
  have hm : X.A.units + 1 + min (PyData.depthAll ps) d.depth < cLine := by
    have := Nat.min_le_right (PyData.depthAll ps) d.depth
    omega
  rw [Bool.false_xor] at q
  cases c <;> simp only [itemsP] at hi <;> cases hi
  · exact SeqAt.in_list_data r2 r1 h1 h2 hm ⟨.bl _, H, I, rfl, q⟩
  · exact SeqAt.in_tuple_data r2 r1 h1 h2 hm ⟨.bl _, H, I, rfl, q⟩
theorem op_notInD (hu : X.A.units + 64 < cLine) : OpR X (compareOp .NotIn) (rInD X.K true) := by
  intro pins s σ H x y v u Q I rx ry h
  obtain ⟨d, c, ps, hd, hc, hi, h1, h2, h3, q⟩ := h
  obtain ⟨as, r1⟩ := Dp.reads I d x v hd rx
  obtain ⟨bs, r2⟩ := Dp.reads I c y u hc ry
  have hm : X.A.units + 1 + min (PyData.depthAll ps) d.depth < cLine := by
    have := Nat.min_le_right (PyData.depthAll ps) d.depth
    omega
  rw [Bool.true_xor] at q
  cases c <;> simp only [itemsP] at hi <;> cases hi
  · exact SeqAt.notIn_list_data r2 r1 h1 h2 hm ⟨.bl _, H, I, rfl, q⟩
  · exact SeqAt.notIn_tuple_data r2 r1 h1 h2 hm ⟨.bl _, H, I, rfl, q⟩
theorem r_inD {K : PySem.W.Frag} {neg : Bool} : R2Ok G (rInD K neg) (fInB neg) := fun w S H x y dx dy d Q c hx hy e q => by
  unfold fInB at e
  split at e
  · rename_i p c' h1 h2
    split at e
    · rename_i ps h4
      split at e
      · rename_i h3
        cases e
        exact ⟨p, c', ps, dp_of c.sub hx h1, dp_of c.sub hy h2, h4, h3.1, h3.2.1, h3.2.2, q _ (.bl _)⟩
      · cases e
    · cases e
  · cases e
theorem c_in (hr : Room k X.A) : CmpOk X G .In fIn := ⟨_, op_inD hr.units, r_inD⟩
theorem c_notin (hr : Room k X.A) : CmpOk X G .NotIn fNotIn := ⟨_, op_notInD hr.units, r_inD⟩
/-! ### a test that is a choice -/
@[simp] def tIfD (c t u : RT) : RT := fun ρ S => match c ρ S with | some (true, S1) => t ρ S1 | some (false, S1) => u ρ S1 | none => none
theorem pt_ifExp {a b c : Expr} {pos : Pos} {tc ta tb : TT} (hc : PT X c tc) (ha : PT X a ta) (hb : PT X b tb) : PT X (.IfExp c a b pos) (fun σ H Q => tc σ H fun d H1 => if d = true then ta σ H1 Q else tb σ H1 Q) := by
  refine ⟨fun pins s σ H Q I h => ?_⟩
  refine isTrue_IfExp (thn (hc.run pins s σ H _ I h) fun d s1 ⟨H1, I1, q1⟩ => ?_)
  cases d with
  | true => exact ha.run pins s1 σ H1 Q I1 q1
  | false => exact hb.run pins s1 σ H1 Q I1 q1
theorem dt_if {a b c : Expr} {pos : Pos} {t1 t2 t3 : RT} (h : DT X G c t1) (ha : DT X G a t2) (hb : DT X G b t3) : DT X G (.IfExp c a b pos) (tIfD t1 t2 t3) :=
  let ⟨_, pc, ec⟩ := h; let ⟨_, pa, ea⟩ := ha; let ⟨_, pb, eb⟩ := hb
  ⟨_, pt_ifExp pc pa pb, fun ρ S d S' e w σ H s Q q => by
    unfold tIfD at e
    split at e
    · rename_i S1 g1
      exact ec ρ S _ _ g1 w σ H s _ fun w1 H1 s1 x1 => iteT (ea ρ S1 _ _ e w1 σ H1 s1 _ fun w2 H2 s2 x2 => q w2 H2 s2 (x1.trans x2))
    · rename_i S1 g1
      exact ec ρ S _ _ g1 w σ H s _ fun w1 H1 s1 x1 => iteF (eb ρ S1 _ _ e w1 σ H1 s1 _ fun w2 H2 s2 x2 => q w2 H2 s2 (x1.trans x2))
    · cases e⟩
end
end DL

set_option maxRecDepth 100000
set_option maxHeartbeats 4000000
set_option pp.maxSteps 900
/-! generator expressions with two fors: tuple(..), all(..), any(..) -/
namespace DL
open PySem PySem.Spec PyProof.Rows L2 GX
open Classical
section
variable {G : Gc} {X : Cx} {pos gpos p : Pos} {elt tg iter tg1 iter1 : Expr} {ifs ifs1 : List Expr} {te : RE} {ri ri1 : RI} {tt tt1 : RT} {g g1 : RG} {vs vs1 : List Nat} {scope : Scope} {own : List (Str × Nat)}
theorem gturn_tupA {J : It} {ds : List D} {chk : Sto → Prop} {gg : TG} {xt : TT} {xe : TE} {w1 : Wd} {S1 S2 : Sto} {H1 : Hp} {ρ : En} {σ : L2.St} {yall aD0 : List D} {ys0 : List V} {cv : Value} {N : Nat} {Qe : List V → Hp → Prop}
    (eg : EvGw (G.at cv) vs gg g) (et : EvT (G.at cv) xt tt) (ee : Ev (G.at cv) xe te) (jd : JD (G.at cv) J ds w1 S1.length chk) (s1 : Sat (G.at cv) w1 (wipeD ρ vs) S1 (L2.wipe σ vs) H1) (hk : chk S1)
    (e : compL g tt te chk (wipeD ρ vs) ds S1 = some (yall, S2)) (l0 : DenL w1 S1.length ys0 aD0) (hN : aD0.length + yall.length ≤ N)
    (hq : ∀ w ys H, Core G w S2 H → Ext w1 S1 H1 w S2 H → DenL w S2.length ys (aD0 ++ yall) → Qe ys H) :
    ∃ W, (∃ m, W 0 m ys0 H1) ∧ GTurn J gg xt xe vs (L2.wipe σ vs) N (fun _ _ _ => True) (fun _ _ => True) Qe W := by
  refine ⟨fun i m acc H => ∃ w S aD ys', Core (G.at cv) w S H ∧ Ext w1 S1 H1 w S H ∧ chk S ∧ i + m = ds.length ∧ DenL w S.length acc aD ∧ compL g tt te chk (wipeD ρ vs) (ds.drop i) S = some (ys', S2) ∧ aD ++ ys' = aD0 ++ yall,
    ⟨ds.length, w1, S1, aD0, yall, s1.core, Ext.refl .., hk, Nat.zero_add _, l0, e, rfl⟩, fun i m acc H ⟨w, S, aD, ys', c, x, hc, hm, ln, e, hy⟩ => ?_⟩
  obtain ⟨hstop, hgo⟩ := jd i w S H c x.fr x.al x.sz hc
  cases m with
  | zero =>
    have hi : i = ds.length := by omega
    rw [hi, List.drop_length] at e
    unfold compL at e
    cases e
    rw [List.append_nil] at hy
    subst hy
    exact .inl ⟨hstop hi, hq w acc H c.off x ln⟩
  | succ m =>
    have hil : i < ds.length := by omega
    rw [List.drop_eq_getElem_cons hil] at e
    obtain ⟨go, hyl⟩ := hgo ds[i] (List.getElem?_eq_getElem hil)
    unfold compL at e
    refine .inr ⟨go, fun v H2 hyld => ?_⟩
    obtain ⟨w4, c4, x4, d4⟩ := hyl v H2 hyld
    have s4 := s1.ofCore c4 (x.trans x4)
    split at e
    · rename_i ρ1 Sa h1
      refine eg ds[i] (wipeD ρ vs) S ρ1 Sa h1 w4 _ H2 v s4 d4 _ fun w5 σ5 H5 z5 s5 x5 => ⟨z5.trans wipe_wipe, ?_⟩
      split at e
      · rename_i Sb h2
        refine et ρ1 Sa true Sb h2 w5 σ5 H5 s5 _ fun w6 H6 s6 x6 => ?_
        rw [if_pos rfl]
        split at e
        · rename_i y Sc h3
          refine ee ρ1 Sb y Sc h3 w6 σ5 H6 s6 _ fun w7 vy H7 s7 x7 d7 => ?_
          split at e
          · rename_i hck
            split at e
            · rename_i ys2 Sd h4
              cases e
              have xx := ((x4.trans x5).trans x6).trans x7
              refine ⟨?_, trivial, fun _ => ⟨m, Nat.lt_succ_self m, w7, Sc, aD ++ [y], ys2, s7.core, x.trans xx, hck, by omega, (ln.ext xx).app (.cons d7 .nil), h4, by rw [List.append_assoc]; exact hy⟩⟩
              have hlen := congrArg List.length hy
              rw [List.length_append, List.length_append, List.length_cons, ← ln.len] at hlen
              omega
            · cases e
          · cases e
        · cases e
      · rename_i Sb h2
        refine et ρ1 Sa false Sb h2 w5 σ5 H5 s5 _ fun w6 H6 s6 x6 => ?_
        rw [if_neg (by decide)]
        split at e
        · rename_i hck
          have xx := (x4.trans x5).trans x6
          exact ⟨m, Nat.lt_succ_self m, w6, Sb, aD, ys', s6.core, x.trans xx, hck, by omega, ln.ext xx, e, hy⟩
        · cases e
      · cases e
    · cases e
theorem gturn_tup2 {J : It} {ds : List D} {chk : Sto → Prop} {gg gg1 : TG} {xt xt1 : TT} {wi1 : TI} {xe : TE} {w1 w1' : Wd} {S1 S2 : Sto} {H1 H1' : Hp} {ρ : En} {σ : L2.St} {yall : List D} {cv : Value}
    (eg : EvGw (G.at cv) vs gg g) (et : EvT (G.at cv) xt tt) (ei1 : EvI (G.at cv) wi1 ri1) (eg1 : EvGw (G.at cv) vs1 gg1 g1) (et1 : EvT (G.at cv) xt1 tt1) (ee : Ev (G.at cv) xe te) (jd : JD G J ds w1 S1.length chk) (s1 : Sat (G.at cv) w1' (wipeD ρ vs) S1 (L2.wipe σ vs) H1') (x1 : Ext w1 S1 H1 w1' S1 H1') (hk : chk S1)
    (e : compL2 g tt ri1 g1 tt1 te vs1 chk (wipeD ρ vs) ds S1 = some (yall, S2)) :
    ∃ W, (∃ m, W 0 m [] H1') ∧ GTurn2 J gg xt wi1 gg1 xt1 xe vs vs1 (L2.wipe σ vs) yall.length (fun _ _ _ => True) (fun _ _ => True) (fun ys H => ∃ w, Core G w S2 H ∧ Ext w1' S1 H1' w S2 H ∧ DenL w S2.length ys yall) W := by
  refine ⟨fun i m acc H => ∃ w S aD ys', Core G w S H ∧ Ext w1' S1 H1' w S H ∧ chk S ∧ i + m = ds.length ∧ DenL w S.length acc aD ∧ compL2 g tt ri1 g1 tt1 te vs1 chk (wipeD ρ vs) (ds.drop i) S = some (ys', S2) ∧ aD ++ ys' = yall,
    ⟨ds.length, w1', S1, [], yall, s1.core.off, Ext.refl .., hk, Nat.zero_add _, .nil, e, rfl⟩, fun i m acc H ⟨w, S, aD, ys', c, x, hc, hm, ln, e, hy⟩ => ?_⟩
  have rr := x1.trans x
  obtain ⟨hstop, hgo⟩ := jd i w S H c rr.fr rr.al rr.sz hc
  cases m with
  | zero =>
    have hi : i = ds.length := by omega
    rw [hi, List.drop_length] at e
    unfold compL2 at e
    cases e
    rw [List.append_nil] at hy
    subst hy
    exact .inl ⟨hstop hi, w, c, x, ln⟩
  | succ m =>
    have hil : i < ds.length := by omega
    rw [List.drop_eq_getElem_cons hil] at e
    obtain ⟨go, hyl⟩ := hgo ds[i] (List.getElem?_eq_getElem hil)
    unfold compL2 at e
    refine .inr ⟨go, fun v H2 hyld => ?_⟩
    obtain ⟨w4, c4, x4, d4⟩ := hyl v H2 hyld
    have s4 := s1.ofCore c4.at (x.trans x4)
    split at e
    · rename_i ρ1 Sa h1
      refine eg ds[i] (wipeD ρ vs) S ρ1 Sa h1 w4 _ H2 v s4 d4 _ fun w5 σ5 H5 z5 s5 x5 => ⟨z5.trans wipe_wipe, ?_⟩
      split at e
      · rename_i Sb h2
        refine et ρ1 Sa true Sb h2 w5 σ5 H5 s5 _ fun w6 H6 s6 x6 => ?_
        rw [if_pos rfl]
        split at e
        · rename_i ds1 chk1 Sc h3
          split at e
          · rename_i ys1 Sd h4
            split at e
            · rename_i hck
              split at e
              · rename_i zs Se h5
                cases e
                refine ei1 ρ1 Sb ds1 chk1 Sc h3 w6 σ5 H6 s6 _ fun J1 w7 H7 s7 x7 jd1 hk1 => ?_
                have xx := ((x4.trans x5).trans x6).trans x7
                refine gturn_tupA (G := G) eg1 et1 ee jd1 (s7.wipe vs1) hk1 h4 (ln.ext xx) ?_ fun w8 ys8 H8 c8 x8 l8 => ?_
                · have hlen := congrArg List.length hy
                  simp only [List.length_append] at hlen
                  omega
                · exact ⟨m, Nat.lt_succ_self m, w8, Sd, aD ++ ys1, zs, c8, x.trans (xx.trans x8), hck, by omega, l8, h5, by rw [List.append_assoc]; exact hy⟩
              · cases e
            · cases e
          · cases e
        · cases e
      · rename_i Sb h2
        refine et ρ1 Sa false Sb h2 w5 σ5 H5 s5 _ fun w6 H6 s6 x6 => ?_
        rw [if_neg (by decide)]
        split at e
        · rename_i hck
          have xx := (x4.trans x5).trans x6
          exact ⟨m, Nat.lt_succ_self m, w6, Sb, aD, ys', s6.core.off, x.trans xx, hck, by omega, ln.ext xx, e, hy⟩
        · cases e
      · cases e
    · cases e
/-- what the body of a generator expression with two fors computes -/
def GBody2 (X : Cx) (G : Gc) (k : Nat) (scope : Scope) (vs vs1 : List Nat) (tg : Expr) (ifs : List Expr) (tg1 iter1 : Expr) (ifs1 : List Expr) (elt : Expr) (g : RG) (tt : RT) (ri1 : RI) (g1 : RG) (tt1 : RT) (te : RE) : Prop :=
  ∀ (s : Shared) (H : Hp) (L : Addr) (cl : List (Str × Addr)) (q : Str) (c' : Addr) (fp : List Addr) (pn : List (Addr × Obj)) (A : Around), Room k A →
    DGw (gx X s H scope L cl q (.ref c') fp pn A) (G.at (.ref c')) vs tg g ∧ DTs (gx X s H scope L cl q (.ref c') fp pn A) (G.at (.ref c')) ifs tt ∧ DI (gx X s H scope L cl q (.ref c') fp pn A) (G.at (.ref c')) tg1 iter1 ri1 ∧
    DGw (gx X s H scope L cl q (.ref c') fp pn A) (G.at (.ref c')) vs1 tg1 g1 ∧ DTs (gx X s H scope L cl q (.ref c') fp pn A) (G.at (.ref c')) ifs1 tt1 ∧ DE (gx X s H scope L cl q (.ref c') fp pn A) (G.at (.ref c')) elt te
theorem de_tupGen2 {k : Nat} (hr : Room (k + 5) X.A) (hm : X.mg "tuple" = none) (hb : G.base = X.base) (hcv : G.cv = some X.env.code) (hc : X.calm = true) (hN : X.N.Nodup) (bm : ∃ P, X.base.BuiltinsAt X.mg P) (hi : DI X G tg iter ri) (ok : BlkOk X.N X.env.scope scope own) (hv : ∀ i ∈ vs1, i ∈ own.map (·.2))
    (hbd : GBody2 X G k scope (own.map (·.2)) vs1 tg ifs tg1 iter1 ifs1 elt g tt ri1 g1 tt1 te) (hg : Gl X "tuple" := by rfl) (hco : scope.isCoroutine = false := by rfl) (h0 : scope.names.lookup (".0" : Str) = some .local := by rfl) (hs : ∀ v, genFold iter X.env v = pure v := by intro _; rfl) (hs1 : ∀ env v, foldedSetIterable iter1 env v = pure v := by intro _ _; rfl)
    (he : starEach [gx2 elt tg iter ifs tg1 iter1 ifs1 scope gpos] X.env = (false, eval (gx2 elt tg iter ifs tg1 iter1 ifs1 scope gpos) X.env) :: starEach [] X.env := by rfl) :
    DE X G (.Call (.Name "tuple" p) [gx2 elt tg iter ifs tg1 iter1 ifs1 scope gpos] [] pos) (eLc2 fTup ri g tt ri1 g1 tt1 te (own.map (·.2)) vs1) := by
  refine ⟨teOf G _, ⟨fun pins s σ H Q I ⟨ρ, S, d, S', w, e, st, q⟩ => ?_⟩, ev_of⟩
  unfold eLc2 at e
  split at e
  · rename_i ds chk S1 h1
    split at e
    · rename_i yall S2 h2
      have hz : yall.length ≤ 1000000 := by
        unfold fTup at e
        split at e
        · assumption
        · cases e
      refine wpAny_Call_Name_kw (ld_blt I hg hm boot_tuple ?_)
      refine PyProof.Rows.callWith_type1 ?_ he (by rfl)
      rw [he]
      show wpAny _ _ (spliced ((false, eval (gx2 elt tg iter ifs tg1 iter1 ifs1 scope gpos) X.env) :: backTo pos (starEach [] X.env))) _ _ s
      refine Calls.spliced_cons (thn (gx_made2 (k := k) (vs2 := vs1) (N := yall.length) (Qy := fun _ _ _ => True) (Rs := fun _ _ => True) (Qe := fun ys H2 => ∃ w2, Core G w2 S2 H2 ∧ Ext w S H w2 S2 H2 ∧ DenL w2 S2.length ys yall) (hr.mono (by omega)) hc hN hi.pi ok hco h0 bm hs hs1 hv I ?_) fun u s1 hmd => ?_)
      · refine evi_of ρ S ds chk S1 h1 w σ H st _ fun J w1 H1 s1 x1 jd hk => ?_
        obtain ⟨c, P, hcc, hT⟩ := s1.code _ hcv
        refine ⟨w1.tb, c, P, hcc, hb ▸ s1.core.tab, hT, fun H' T' c' P' t' hTT hT' gr s' L cl qn fp pn A hrA => ?_⟩
        obtain ⟨b1, b2, b3, _, _, _⟩ := hbd s' H' L cl qn c' fp pn A hrA
        obtain ⟨c2, x2⟩ := s1.core.grown (hb ▸ t') hTT gr
        have s2 : Sat (G.at (.ref c')) { w1 with tb := T' } (wipeD ρ (own.map (·.2))) S1 (L2.wipe σ (own.map (·.2))) H' := by
          have z := (s1.ofCore c2 x2).wipe (own.map (·.2))
          exact ⟨z.core.at, z.env, z.len, fun v hv => by cases hv; exact ⟨c', P', rfl, hT'⟩⟩
        obtain ⟨W, hW, ht⟩ := gturn_tup2 (G := G) evg_of evt_of evi_of evg_of evt_of ev_of jd s2 x2 hk h2
        refine ⟨_, _, _, tgOf (G.at (.ref c')) vs1 g1, ttOf (G.at (.ref c')) tt1, teOf (G.at (.ref c')) te, W, b1.pg, b2.pts, b3.pi, fun pn' A' hrA' => ?_, hW, fun i m ys Hh hw => ?_⟩
        · obtain ⟨_, _, _, b4, b5, b6⟩ := hbd s' H' L cl qn c' fp pn' A' hrA'
          exact ⟨b4.pg, b5.pts, b6.pe⟩
        · rcases ht i m ys Hh hw with ⟨a1, w2, b1, b2, b3⟩ | z
          · exact .inl ⟨a1, w2, b1, (x1.trans x2).trans b2, b3⟩
          · exact .inr z
      · refine Calls.spliced_nil ?_
        refine call_tuple_md hr I.ok.frames (le_line hz) (fun _ _ => trivial) hmd fun s2 acc H2 ys hv hl I2 ⟨w2, c2, x2, l2⟩ => ?_
        have hf : H2 s2.heap.objs.size = none := I2.hok.fresh (Nat.le_refl _)
        refine ⟨.ref s2.heap.objs.size, upd H2 s2.heap.objs.size (.tup ys), I2.laid (t' := s2.toks) (fun b u e => Heap.get?_push_of_some _ e) (Nat.le_refl _) ?_, rfl, ?_⟩
        · exact ⟨Nat.le_trans hl (le_line hz), acc, hv, ⟨_, Heap.get?_push_size _ rfl, rfl, _, rfl⟩⟩
        · exact (new_tup (st.ofCore c2 x2) l2 e fun w3 v3 H3 s3 x3 d3 => q w3 v3 H3 s3 (x2.trans x3) d3).2 _ hf
    · cases e
  · cases e

/-! ### all, any -/
noncomputable def quantL2 (stop : Bool) (g : RG) (c : RT) (it1 : RI) (g1 : RG) (c1 : RT) (e : RE) (vs1 : List Nat) (chk : Sto → Prop) (ρ : En) : List D → Sto → Option (Bool × Sto)
  | [], S => some (!stop, S)
  | d :: ds, S => match g d ρ S with
    | some (ρ1, S1) => (match c ρ1 S1 with
      | some (true, S2) => (match it1 ρ1 S2 with
        | some (ds1, chk1, S3) => (match quantL stop g1 c1 e chk1 (wipeD ρ1 vs1) ds1 S3 with
          | some (b, S4) => if b = stop then some (stop, S4) else if chk S4 then quantL2 stop g c it1 g1 c1 e vs1 chk ρ ds S4 else none
          | none => none)
        | none => none)
      | some (false, S2) => if chk S2 then quantL2 stop g c it1 g1 c1 e vs1 chk ρ ds S2 else none
      | none => none)
    | none => none
/-- how many items at most -/
noncomputable def cntL2 (stop : Bool) (g : RG) (c : RT) (it1 : RI) (g1 : RG) (c1 : RT) (e : RE) (vs1 : List Nat) (ρ : En) : List D → Sto → Nat
  | [], S => 0
  | d :: ds, S => match g d ρ S with
    | some (ρ1, S1) => (match c ρ1 S1 with
      | some (true, S2) => (match it1 ρ1 S2 with
        | some (ds1, chk1, S3) => (match quantL stop g1 c1 e chk1 (wipeD ρ1 vs1) ds1 S3 with
          | some (b, S4) => ds1.length + cntL2 stop g c it1 g1 c1 e vs1 ρ ds S4
          | none => 0)
        | none => 0)
      | some (false, S2) => cntL2 stop g c it1 g1 c1 e vs1 ρ ds S2
      | none => 0)
    | none => 0
@[simp] noncomputable def tGenQ2 (stop : Bool) (it : RI) (g : RG) (c : RT) (it1 : RI) (g1 : RG) (c1 : RT) (e : RE) (vs vs1 : List Nat) : RT := fun ρ S => match it ρ S with
  | some (ds, chk, S1) => quantL2 stop g c it1 g1 c1 e vs1 chk (wipeD ρ vs) ds S1
  | none => none
theorem gturn_qA {J : It} {ds : List D} {chk : Sto → Prop} {gg : TG} {xt : TT} {xe : TE} {w1 : Wd} {S1 S2 : Sto} {H1 : Hp} {ρ : En} {σ : L2.St} {stop r : Bool} {cv : Value} {N a0 : Nat} {Qy : List V → V → Hp → Prop} {Qe : List V → Hp → Prop} {ys0 : List V}
    (eg : EvGw (G.at cv) vs gg g) (et : EvT (G.at cv) xt tt) (ee : Ev (G.at cv) xe te) (jd : JD (G.at cv) J ds w1 S1.length chk) (s1 : Sat (G.at cv) w1 (wipeD ρ vs) S1 (L2.wipe σ vs) H1) (hk : chk S1)
    (e : quantL stop g tt te chk (wipeD ρ vs) ds S1 = some (r, S2)) (h0 : ys0.length ≤ a0) (hN : a0 + ds.length ≤ N)
    (hy : ∀ ys b H, (b = stop → r = stop ∧ ∃ w, Core G w S2 H ∧ Ext w1 S1 H1 w S2 H) → Qy ys (.bl b) H) (hq : ∀ ys H, ys.length ≤ a0 + ds.length → r = !stop → (∃ w, Core G w S2 H ∧ Ext w1 S1 H1 w S2 H) → Qe ys H) :
    ∃ W, (∃ m, W 0 m ys0 H1) ∧ GTurn J gg xt xe vs (L2.wipe σ vs) N Qy (fun _ x => x = .bl (!stop)) Qe W := by
  refine ⟨fun i m acc H => ∃ w S, Core (G.at cv) w S H ∧ Ext w1 S1 H1 w S H ∧ chk S ∧ i + m = ds.length ∧ acc.length ≤ a0 + i ∧ quantL stop g tt te chk (wipeD ρ vs) (ds.drop i) S = some (r, S2),
    ⟨ds.length, w1, S1, s1.core, Ext.refl .., hk, Nat.zero_add _, h0, e⟩, fun i m acc H ⟨w, S, c, x, hc, hm, hl, e⟩ => ?_⟩
  obtain ⟨hstop, hgo⟩ := jd i w S H c x.fr x.al x.sz hc
  cases m with
  | zero =>
    have hi : i = ds.length := by omega
    rw [hi, List.drop_length] at e
    unfold quantL at e
    cases e
    exact .inl ⟨hstop hi, hq acc H (by omega) rfl ⟨w, c.off, x⟩⟩
  | succ m =>
    have hil : i < ds.length := by omega
    rw [List.drop_eq_getElem_cons hil] at e
    obtain ⟨go, hyl⟩ := hgo ds[i] (List.getElem?_eq_getElem hil)
    unfold quantL at e
    refine .inr ⟨go, fun v H2 hyld => ?_⟩
    obtain ⟨w4, c4, x4, d4⟩ := hyl v H2 hyld
    have s4 := s1.ofCore c4 (x.trans x4)
    split at e
    · rename_i ρ1 Sa h1
      refine eg ds[i] (wipeD ρ vs) S ρ1 Sa h1 w4 _ H2 v s4 d4 _ fun w5 σ5 H5 z5 s5 x5 => ⟨z5.trans wipe_wipe, ?_⟩
      split at e
      · rename_i Sb h2
        refine et ρ1 Sa true Sb h2 w5 σ5 H5 s5 _ fun w6 H6 s6 x6 => ?_
        rw [if_pos rfl]
        split at e
        · rename_i b Sc h3
          refine ee ρ1 Sb _ Sc h3 w6 σ5 H6 s6 _ fun w7 vy H7 s7 x7 d7 => ?_
          have xx := ((x4.trans x5).trans x6).trans x7
          cases den_bl d7
          refine ⟨by omega, hy _ _ _ fun hb => ?_, fun hb => ?_⟩
          · rw [if_pos hb] at e
            cases e
            exact ⟨rfl, w7, s7.core.off, x.trans xx⟩
          · have hb : b = !stop := by cases hb; rfl
            rw [if_neg (by rw [hb]; cases stop <;> decide)] at e
            split at e
            · rename_i hck
              exact ⟨m, Nat.lt_succ_self m, w7, Sc, s7.core, x.trans xx, hck, by omega, by rw [List.length_append]; show acc.length + 1 ≤ a0 + (i + 1); omega, e⟩
            · cases e
        · cases e
      · rename_i Sb h2
        refine et ρ1 Sa false Sb h2 w5 σ5 H5 s5 _ fun w6 H6 s6 x6 => ?_
        rw [if_neg (by decide)]
        split at e
        · rename_i hck
          have xx := (x4.trans x5).trans x6
          exact ⟨m, Nat.lt_succ_self m, w6, Sb, s6.core, x.trans xx, hck, by omega, by omega, e⟩
        · cases e
      · cases e
    · cases e
theorem gturn_q2 {J : It} {ds : List D} {chk : Sto → Prop} {gg gg1 : TG} {xt xt1 : TT} {wi1 : TI} {xe : TE} {w1 w1' : Wd} {S1 S2 : Sto} {H1 H1' : Hp} {ρ : En} {σ : L2.St} {stop r : Bool} {cv : Value} {Qy : List V → V → Hp → Prop} {Qe : List V → Hp → Prop}
    (eg : EvGw (G.at cv) vs gg g) (et : EvT (G.at cv) xt tt) (ei1 : EvI (G.at cv) wi1 ri1) (eg1 : EvGw (G.at cv) vs1 gg1 g1) (et1 : EvT (G.at cv) xt1 tt1) (ee : Ev (G.at cv) xe te) (jd : JD G J ds w1 S1.length chk) (s1 : Sat (G.at cv) w1' (wipeD ρ vs) S1 (L2.wipe σ vs) H1') (x1 : Ext w1 S1 H1 w1' S1 H1') (hk : chk S1)
    (e : quantL2 stop g tt ri1 g1 tt1 te vs1 chk (wipeD ρ vs) ds S1 = some (r, S2))
    (hy : ∀ ys b H, (b = stop → r = stop ∧ ∃ w, Core G w S2 H ∧ Ext w1' S1 H1' w S2 H) → Qy ys (.bl b) H) (hq : ∀ ys H, r = !stop → (∃ w, Core G w S2 H ∧ Ext w1' S1 H1' w S2 H) → Qe ys H) :
    ∃ W, (∃ m, W 0 m [] H1') ∧ GTurn2 J gg xt wi1 gg1 xt1 xe vs vs1 (L2.wipe σ vs) (cntL2 stop g tt ri1 g1 tt1 te vs1 (wipeD ρ vs) ds S1) Qy (fun _ x => x = .bl (!stop)) Qe W := by
  generalize hNN : cntL2 stop g tt ri1 g1 tt1 te vs1 (wipeD ρ vs) ds S1 = N
  refine ⟨fun i m acc H => ∃ w S, Core G w S H ∧ Ext w1' S1 H1' w S H ∧ chk S ∧ i + m = ds.length ∧ acc.length + cntL2 stop g tt ri1 g1 tt1 te vs1 (wipeD ρ vs) (ds.drop i) S ≤ N ∧ quantL2 stop g tt ri1 g1 tt1 te vs1 chk (wipeD ρ vs) (ds.drop i) S = some (r, S2),
    ⟨ds.length, w1', S1, s1.core.off, Ext.refl .., hk, Nat.zero_add _, by rw [List.drop_zero, hNN]; simp, e⟩, fun i m acc H ⟨w, S, c, x, hc, hm, hl, e⟩ => ?_⟩
  have rr := x1.trans x
  obtain ⟨hstop, hgo⟩ := jd i w S H c rr.fr rr.al rr.sz hc
  cases m with
  | zero =>
    have hi : i = ds.length := by omega
    rw [hi, List.drop_length] at e
    unfold quantL2 at e
    cases e
    exact .inl ⟨hstop hi, hq acc H rfl ⟨w, c, x⟩⟩
  | succ m =>
    have hil : i < ds.length := by omega
    rw [List.drop_eq_getElem_cons hil] at e hl
    obtain ⟨go, hyl⟩ := hgo ds[i] (List.getElem?_eq_getElem hil)
    unfold quantL2 at e
    unfold cntL2 at hl
    refine .inr ⟨go, fun v H2 hyld => ?_⟩
    obtain ⟨w4, c4, x4, d4⟩ := hyl v H2 hyld
    have s4 := s1.ofCore c4.at (x.trans x4)
    split at e
    · rename_i ρ1 Sa h1
      simp only [h1] at hl
      refine eg ds[i] (wipeD ρ vs) S ρ1 Sa h1 w4 _ H2 v s4 d4 _ fun w5 σ5 H5 z5 s5 x5 => ⟨z5.trans wipe_wipe, ?_⟩
      split at e
      · rename_i Sb h2
        simp only [h2] at hl
        refine et ρ1 Sa true Sb h2 w5 σ5 H5 s5 _ fun w6 H6 s6 x6 => ?_
        rw [if_pos rfl]
        split at e
        · rename_i ds1 chk1 Sc h3
          simp only [h3] at hl
          split at e
          · rename_i b Sd h4
            simp only [h4] at hl
            refine ei1 ρ1 Sb ds1 chk1 Sc h3 w6 σ5 H6 s6 _ fun J1 w7 H7 s7 x7 jd1 hk1 => ?_
            have xx := ((x4.trans x5).trans x6).trans x7
            refine gturn_qA (G := G) (a0 := acc.length) (N := N) eg1 et1 ee jd1 (s7.wipe vs1) hk1 h4 (Nat.le_refl _) (by omega) (fun ys b' H' hb' => hy ys b' H' fun hb => ?_) fun ys' H' hlen hr8 ⟨w8, c8, x8⟩ => ?_
            · obtain ⟨h6, w8, c8, x8⟩ := hb' hb
              rw [if_pos h6] at e
              cases e
              exact ⟨rfl, w8, c8, x.trans (xx.trans x8)⟩
            · rw [if_neg (by rw [hr8]; cases stop <;> decide)] at e
              split at e
              · rename_i hck
                exact ⟨m, Nat.lt_succ_self m, w8, Sd, c8, x.trans (xx.trans x8), hck, by omega, by omega, e⟩
              · cases e
          · cases e
        · cases e
      · rename_i Sb h2
        simp only [h2] at hl
        refine et ρ1 Sa false Sb h2 w5 σ5 H5 s5 _ fun w6 H6 s6 x6 => ?_
        rw [if_neg (by decide)]
        split at e
        · rename_i hck
          have xx := (x4.trans x5).trans x6
          exact ⟨m, Nat.lt_succ_self m, w6, Sb, s6.core.off, x.trans xx, hck, by omega, hl, e⟩
        · cases e
      · cases e
    · cases e
theorem gen_q2 {k : Nat} {stop : Bool} {pins : List (Addr × Obj)} {s : Shared} {σ : L2.St} {H : Hp} {ρ : En} {S S1 S2 : Sto} {w : Wd} {ds : List D} {chk : Sto → Prop} {r : Bool} (hr : Room 1 X.A) (hb : G.base = X.base) (hcv : G.cv = some X.env.code) (hc : X.calm = true) (hN : X.N.Nodup) (bm : ∃ P, X.base.BuiltinsAt X.mg P) (hi : DI X G tg iter ri) (ok : BlkOk X.N X.env.scope scope own) (hv : ∀ i ∈ vs1, i ∈ own.map (·.2))
    (hbd : GBody2 X G k scope (own.map (·.2)) vs1 tg ifs tg1 iter1 ifs1 elt g tt ri1 g1 tt1 te) (hco : scope.isCoroutine = false) (h0 : scope.names.lookup (".0" : Str) = some .local) (hs : ∀ v, genFold iter X.env v = pure v) (hs1 : ∀ env v, foldedSetIterable iter1 env v = pure v) (I : Inv X pins σ H s) (st : Sat G w ρ S σ H)
    (h1 : ri ρ S = some (ds, chk, S1)) (h2 : quantL2 stop g tt ri1 g1 tt1 te vs1 chk (wipeD ρ (own.map (·.2))) ds S1 = some (r, S2)) :
    wpAny (model X.prog X.w) X.A (eval (gx2 elt tg iter ifs tg1 iter1 ifs1 scope gpos) X.env) (GMd X k pins σ (cntL2 stop g tt ri1 g1 tt1 te vs1 (wipeD ρ (own.map (·.2))) ds S1) (fun _ x H' => ∃ b, x = .bl b ∧ (b = stop → r = stop ∧ ∃ w', Core G w' S2 H' ∧ Ext w S H w' S2 H')) (fun _ x => x = .bl (!stop)) (fun _ H' => r = !stop ∧ ∃ w', Core G w' S2 H' ∧ Ext w S H w' S2 H')) X.xe s := by
  refine gx_made2 (k := k) (vs2 := vs1) hr hc hN hi.pi ok hco h0 bm hs hs1 hv I ?_
  refine evi_of ρ S ds chk S1 h1 w σ H st _ fun J w1 H1 s1 x1 jd hk => ?_
  obtain ⟨c, P, hcc, hT⟩ := s1.code _ hcv
  refine ⟨w1.tb, c, P, hcc, hb ▸ s1.core.tab, hT, fun H' T' c' P' t' hTT hT' gr s' L cl qn fp pn A hrA => ?_⟩
  obtain ⟨b1, b2, b3, _, _, _⟩ := hbd s' H' L cl qn c' fp pn A hrA
  obtain ⟨c2, x2⟩ := s1.core.grown (hb ▸ t') hTT gr
  have s2 : Sat (G.at (.ref c')) { w1 with tb := T' } (wipeD ρ (own.map (·.2))) S1 (L2.wipe σ (own.map (·.2))) H' := by
    have z := (s1.ofCore c2 x2).wipe (own.map (·.2))
    exact ⟨z.core.at, z.env, z.len, fun v hv => by cases hv; exact ⟨c', P', rfl, hT'⟩⟩
  have xx := x1.trans x2
  obtain ⟨W, hW, ht⟩ := gturn_q2 (G := G) (Qy := fun _ x H' => ∃ b, x = .bl b ∧ (b = stop → r = stop ∧ ∃ w', Core G w' S2 H' ∧ Ext w S H w' S2 H')) (Qe := fun _ H' => r = !stop ∧ ∃ w', Core G w' S2 H' ∧ Ext w S H w' S2 H') evg_of evt_of evi_of evg_of evt_of ev_of jd s2 x2 hk h2
    (fun ys b H' h => ⟨b, rfl, fun hb => let ⟨q1, w9, q2, q3⟩ := h hb; ⟨q1, w9, q2, xx.trans q3⟩⟩) (fun ys H' h ⟨w9, q2, q3⟩ => ⟨h, w9, q2, xx.trans q3⟩)
  refine ⟨_, _, _, tgOf (G.at (.ref c')) vs1 g1, ttOf (G.at (.ref c')) tt1, teOf (G.at (.ref c')) te, W, b1.pg, b2.pts, b3.pi, fun pn' A' hrA' => ?_, hW, ht⟩
  obtain ⟨_, _, _, b4, b5, b6⟩ := hbd s' H' L cl qn c' fp pn' A' hrA'
  exact ⟨b4.pg, b5.pts, b6.pe⟩
theorem de_allGen2 {k : Nat} (hr : Room (k + 5) X.A) (hm : X.mg "all" = none) (hb : G.base = X.base) (hcv : G.cv = some X.env.code) (hc : X.calm = true) (hN : X.N.Nodup) (bm : ∃ P, X.base.BuiltinsAt X.mg P) (hi : DI X G tg iter ri) (ok : BlkOk X.N X.env.scope scope own) (hv : ∀ i ∈ vs1, i ∈ own.map (·.2))
    (hbd : GBody2 X G k scope (own.map (·.2)) vs1 tg ifs tg1 iter1 ifs1 elt g tt ri1 g1 tt1 te) (hg : Gl X "all" := by rfl) (hco : scope.isCoroutine = false := by rfl) (h0 : scope.names.lookup (".0" : Str) = some .local := by rfl) (hs : ∀ v, genFold iter X.env v = pure v := by intro _; rfl) (hs1 : ∀ env v, foldedSetIterable iter1 env v = pure v := by intro _ _; rfl)
    (he : starEach [gx2 elt tg iter ifs tg1 iter1 ifs1 scope gpos] X.env = (false, eval (gx2 elt tg iter ifs tg1 iter1 ifs1 scope gpos) X.env) :: starEach [] X.env := by rfl) :
    DE X G (.Call (.Name "all" p) [gx2 elt tg iter ifs tg1 iter1 ifs1 scope gpos] [] pos) (eBl (tGenQ2 false ri g tt ri1 g1 tt1 te (own.map (·.2)) vs1)) := by
  refine ⟨teOf G _, ⟨fun pins s σ H Q I ⟨ρ, S, d, S', w, e, st, q⟩ => ?_⟩, ev_of⟩
  unfold eBl tGenQ2 at e
  split at e
  · rename_i r S2 e0
    cases e
    split at e0
    · rename_i ds chk S1 h1
      refine wpAny_Call_Name_kw (ld_blt I hg hm boot_all ?_)
      refine PyProof.Rows.callWith_builtin1 ?_ he (by rfl)
      rw [he]
      show wpAny _ _ (spliced ((false, eval (gx2 elt tg iter ifs tg1 iter1 ifs1 scope gpos) X.env) :: backTo pos (starEach [] X.env))) _ _ s
      refine Calls.spliced_cons (thn (gen_q2 (stop := false) (hr.mono (by omega)) hb hcv hc hN bm hi ok hv hbd hco h0 hs hs1 I st h1 e0) fun u s1 hmd => ?_)
      refine Calls.spliced_nil ?_
      refine call_all_md (hr.mono (by omega)) I.ok.frames hmd (fun s2 H2 I2 ⟨hb2, w2, c2, x2⟩ => ?_) (fun s2 H2 I2 ⟨hb2, w2, c2, x2⟩ => ?_)
      · exact ⟨.bl true, H2, I2, rfl, q w2 _ H2 (st.ofCore c2 x2) x2 (by rw [hb2]; exact .bl true)⟩
      · exact ⟨.bl false, H2, I2, rfl, q w2 _ H2 (st.ofCore c2 x2) x2 (by rw [hb2]; exact .bl false)⟩
    · cases e0
  · cases e
theorem de_anyGen2 {k : Nat} (hr : Room (k + 5) X.A) (hm : X.mg "any" = none) (hb : G.base = X.base) (hcv : G.cv = some X.env.code) (hc : X.calm = true) (hN : X.N.Nodup) (bm : ∃ P, X.base.BuiltinsAt X.mg P) (hi : DI X G tg iter ri) (ok : BlkOk X.N X.env.scope scope own) (hv : ∀ i ∈ vs1, i ∈ own.map (·.2))
    (hbd : GBody2 X G k scope (own.map (·.2)) vs1 tg ifs tg1 iter1 ifs1 elt g tt ri1 g1 tt1 te) (hg : Gl X "any" := by rfl) (hco : scope.isCoroutine = false := by rfl) (h0 : scope.names.lookup (".0" : Str) = some .local := by rfl) (hs : ∀ v, genFold iter X.env v = pure v := by intro _; rfl) (hs1 : ∀ env v, foldedSetIterable iter1 env v = pure v := by intro _ _; rfl)
    (he : starEach [gx2 elt tg iter ifs tg1 iter1 ifs1 scope gpos] X.env = (false, eval (gx2 elt tg iter ifs tg1 iter1 ifs1 scope gpos) X.env) :: starEach [] X.env := by rfl) :
    DE X G (.Call (.Name "any" p) [gx2 elt tg iter ifs tg1 iter1 ifs1 scope gpos] [] pos) (eBl (tGenQ2 true ri g tt ri1 g1 tt1 te (own.map (·.2)) vs1)) := by
  refine ⟨teOf G _, ⟨fun pins s σ H Q I ⟨ρ, S, d, S', w, e, st, q⟩ => ?_⟩, ev_of⟩
  unfold eBl tGenQ2 at e
  split at e
  · rename_i r S2 e0
    cases e
    split at e0
    · rename_i ds chk S1 h1
      refine wpAny_Call_Name_kw (ld_blt I hg hm boot_any ?_)
      refine PyProof.Rows.callWith_builtin1 ?_ he (by rfl)
      rw [he]
      show wpAny _ _ (spliced ((false, eval (gx2 elt tg iter ifs tg1 iter1 ifs1 scope gpos) X.env) :: backTo pos (starEach [] X.env))) _ _ s
      refine Calls.spliced_cons (thn (gen_q2 (stop := true) (hr.mono (by omega)) hb hcv hc hN bm hi ok hv hbd hco h0 hs hs1 I st h1 e0) fun u s1 hmd => ?_)
      refine Calls.spliced_nil ?_
      refine call_any_md (hr.mono (by omega)) I.ok.frames hmd (fun s2 H2 I2 ⟨hb2, w2, c2, x2⟩ => ?_) (fun s2 H2 I2 ⟨hb2, w2, c2, x2⟩ => ?_)
      · exact ⟨.bl true, H2, I2, rfl, q w2 _ H2 (st.ofCore c2 x2) x2 (by rw [hb2]; exact .bl true)⟩
      · exact ⟨.bl false, H2, I2, rfl, q w2 _ H2 (st.ofCore c2 x2) x2 (by rw [hb2]; exact .bl false)⟩
    · cases e0
  · cases e
end
end DL

set_option maxRecDepth 100000
set_option maxHeartbeats 4000000
set_option pp.maxSteps 900
/-! slices of a tuple with a step; all, any of a list -/
namespace DL
open PySem PySem.Spec PyProof.Rows L2 GX HT
open Classical
/-- the places of a slice with a step -/
def stepIx (n : Nat) (lo hi st : Option Int) : List Nat :=
  (List.range (Builtin.Slice.slicePlaces (Builtin.Slice.sliceAdjust lo hi (st.getD 1) (n : Int)).1 (Builtin.Slice.sliceAdjust lo hi (st.getD 1) (n : Int)).2 (st.getD 1))).map fun (m : Nat) => ((Builtin.Slice.sliceAdjust lo hi (st.getD 1) (n : Int)).1 + (m : Int) * st.getD 1).toNat
def pickL {α : Type} (xs : List α) (is : List Nat) : List α := is.filterMap fun i => xs[i]?
theorem stp_den {w : Wd} {n : Nat} {vs : List V} {ds : List D} (h : DenL w n vs ds) : ∀ is : List Nat, DenL w n (pickL vs is) (pickL ds is)
  | [] => .nil
  | i :: is => by
    unfold pickL
    rw [List.filterMap_cons, List.filterMap_cons]
    have hl := h.len
    rcases Nat.lt_or_ge i ds.length with c | c
    · obtain ⟨v, e1, e2⟩ := h.get (List.getElem?_eq_getElem c)
      rw [List.getElem?_eq_getElem c, e1]
      exact .cons e2 (stp_den h is)
    · rw [List.getElem?_eq_none c, List.getElem?_eq_none (by omega)]
      exact stp_den h is
theorem stp_vals {vs : List V} {us : List Value} (h : Vals vs us) : ∀ is : List Nat, Vals (pickL vs is) (pickL us is)
  | [] => .nil
  | i :: is => by
    unfold pickL
    rw [List.filterMap_cons, List.filterMap_cons]
    have hl := h.length
    rcases Nat.lt_or_ge i vs.length with c | c
    · obtain ⟨v, e1, e2⟩ := h.get (List.getElem?_eq_getElem c)
      rw [List.getElem?_eq_getElem c, e1]
      exact .cons e2 (stp_vals h is)
    · rw [List.getElem?_eq_none c, List.getElem?_eq_none (by omega)]
      exact stp_vals h is
theorem pick_all {α : Type} : ∀ xs : List α, pickL xs (List.range xs.length) = xs := fun xs => by
  unfold pickL
  apply List.ext_getElem?
  intro i
  have : ∀ (k : Nat), k ≤ xs.length → (List.range k).filterMap (fun i => xs[i]?) = xs.take k := by
    intro k hk
    induction k with
    | zero => simp
    | succ k ih =>
      rw [List.range_succ, List.filterMap_append, ih (by omega)]
      have hk' : k < xs.length := by omega
      rw [List.filterMap_cons, List.getElem?_eq_getElem hk', List.take_succ, List.getElem?_eq_getElem hk']
      rfl
  rw [this _ (Nat.le_refl _), List.take_length]
/-- the slice is the whole tuple (and so the tuple itself) -/
def stepAll (n : Nat) (lo hi st : Option Int) : Prop := ((Builtin.Slice.sliceAdjust lo hi (st.getD 1) (n : Int)).1 == 0 && st.getD 1 == 1 && Builtin.Slice.slicePlaces (Builtin.Slice.sliceAdjust lo hi (st.getD 1) (n : Int)).1 (Builtin.Slice.sliceAdjust lo hi (st.getD 1) (n : Int)).2 (st.getD 1) == n) = true
theorem stepAll_ix {n : Nat} {lo hi st : Option Int} (h : stepAll n lo hi st) : stepIx n lo hi st = List.range n := by
  unfold stepAll at h
  rw [Bool.and_eq_true, Bool.and_eq_true] at h
  have h1 := eq_of_beq h.1.1
  have h2 := eq_of_beq h.1.2
  have h3 := eq_of_beq h.2
  unfold stepIx
  rw [h3]
  refine List.ext_getElem (by rw [List.length_map]) fun i a b => ?_
  rw [List.getElem_map, List.getElem_range, h1, h2]
  omega
section
variable {prog : Program} {w : World} {A : Around} {E : Value → Shared → Prop} {s : Shared}
theorem sliceApplied_st {sl : Addr} {vl vu vs : Value} {lo hi st : Option Int} {n : Nat} {Q : Int × Int × Nat → Shared → Prop} (hs : s.heap.IsSliceOf sl vl vu vs) (pl : IsPart vl lo) (pu : IsPart vu hi) (ps : IsPart vs st) (h0 : st ≠ some 0)
    (h : Q ((Builtin.Slice.sliceAdjust lo hi (st.getD 1) (n : Int)).1, st.getD 1, Builtin.Slice.slicePlaces (Builtin.Slice.sliceAdjust lo hi (st.getD 1) (n : Int)).1 (Builtin.Slice.sliceAdjust lo hi (st.getD 1) (n : Int)).2 (st.getD 1)) s) : wpAny (model prog w) A (Builtin.Slice.sliceApplied (.ref sl) (pure (n : Int))) Q E s := by
  obtain ⟨os, hos, hcs, hds⟩ := id hs
  unfold Builtin.Slice.sliceApplied Builtin.Slice.sliceFields
  refine wpAny_bind (wpAny_bind (wpAny_field hos hds (x := vl) rfl (wpAny_bind (wpAny_field hos hds (x := vu) rfl (wpAny_bind (wpAny_field hos hds (x := vs) rfl (wpAny_pure ?_)))))))
  refine wpAny_bind (slicePart_ ps ?_)
  have hst : ¬ ((st.getD 1 == 0) = true) := by
    cases st with
    | none => decide
    | some c =>
      intro hh
      have : c = 0 := by simpa using hh
      exact h0 (by rw [this])
  show wpAny _ _ (if (st.getD 1 == 0) = true then _ else _) _ _ s
  rw [if_neg hst]
  refine wpAny_bind (slicePart_ pl (wpAny_bind (slicePart_ pu (wpAny_bind (wpAny_pure ?_)))))
  exact wpAny_pure h
theorem getItem_tuple_st {t sl : Addr} {items : Array Value} {vl vu vs : Value} {lo hi st : Option Int} {Q : Value → Shared → Prop} (ht : IsTup s.heap t items) (hs : s.heap.IsSliceOf sl vl vu vs) (pl : IsPart vl lo) (pu : IsPart vu hi) (ps : IsPart vs st) (h0 : st ≠ some 0)
    (hz : (pickL items.toList (stepIx items.size lo hi st)).length ≤ sizeLine) (hw : stepAll items.size lo hi st → Q (.ref t) s)
    (h : ¬ stepAll items.size lo hi st → Q (.ref s.heap.objs.size) { s with heap := s.heap.push { cls := .type "tuple", data := .seq (pickL items.toList (stepIx items.size lo hi st)).toArray } }) : wpAny (model prog w) A (getItem (.ref t) (.ref sl)) Q E s := by
  obtain ⟨os, hos, hcs, hds⟩ := id hs
  have hTs : s.TypeIs (.ref sl) "slice" := ⟨os, hos, hcs⟩
  have hok : sizeOk (.seq (pickL items.toList (stepIx items.size lo hi st)).toArray) := by
    show (pickL items.toList (stepIx items.size lo hi st)).toArray.size ≤ sizeLine
    rw [List.size_toArray]
    exact hz
  unfold getItem
  try with_reducible refine wpAny_holding ?_
  first | refine wpAny_bind (wpAny_pure ?_) | skip
  refine wpAny_bind (wpAny_sequenceKey ht.typeIs (by decide) ?_)
  refine wpAny_bind (wpAny_callSpecial?_slot (name := Str.ofString "__getitem__") ht.typeIs PyProof.Rows.slot_tuple_getitem
    (wpAny_call_entry PyProof.Rows.slot_tuple_getitem ht.typeIs entry_tuple_getitem ?_ (args_tuple_getitem _ _)))
  show wpAny _ _ (Builtin.Tuple.tupleItemsOf (.ref t) >>= _) _ _ s
  refine wpAny_bind (tupleItemsOf_ ht ?_)
  refine wpAny_bind (wpAny_typeOf hTs ?_)
  rw [if_pos (by decide)]
  refine wpAny_bind (sliceApplied_st hs pl pu ps h0 ?_)
  show wpAny _ _ (if ((Builtin.Slice.sliceAdjust lo hi (st.getD 1) (items.size : Int)).1 == 0 && st.getD 1 == 1 && Builtin.Slice.slicePlaces (Builtin.Slice.sliceAdjust lo hi (st.getD 1) (items.size : Int)).1 (Builtin.Slice.sliceAdjust lo hi (st.getD 1) (items.size : Int)).2 (st.getD 1) == items.size) = true then _ else _) _ _ s
  by_cases hall : stepAll items.size lo hi st
  · have h := hw hall
    have hall' := hall
    unfold stepAll at hall'
    rw [if_pos hall']
    refine wpAny_bind ?_
    show wpAny _ _ (typeOf (.ref t) >>= fun T => pure (T == .type "tuple")) _ _ s
    refine wpAny_bind (wpAny_typeOf ht.typeIs (wpAny_pure ?_))
    first
      | rw [if_pos (by decide)]
      | simp only [beq_self_eq_true, if_true]
    first
      | exact wpAny_bind (wpAny_rule (wpAny_pure ⟨_, rfl, wpAny_pure h⟩))
      | exact wpAny_bind (wpAny_rule (wpAny_bind (wpAny_pure (wpAny_pure ⟨_, rfl, wpAny_pure h⟩))))
  · have h := h hall
    have hall' := hall
    unfold stepAll at hall'
    rw [if_neg hall']
    have e : ((List.range (Builtin.Slice.slicePlaces (Builtin.Slice.sliceAdjust lo hi (st.getD 1) (items.size : Int)).1 (Builtin.Slice.sliceAdjust lo hi (st.getD 1) (items.size : Int)).2 (st.getD 1))).filterMap fun (m : Nat) => items[((Builtin.Slice.sliceAdjust lo hi (st.getD 1) (items.size : Int)).1 + (m : Int) * st.getD 1).toNat]?).toArray = (pickL items.toList (stepIx items.size lo hi st)).toArray := by
      unfold pickL stepIx
      rw [List.filterMap_map, show (fun i => items.toList[i]?) = fun i => items[i]? from funext fun i => Array.getElem?_toList]
      rfl
    rw [e]
    first
      | exact wpAny_bind (m := Builtin.Tuple.tupleExact _) (wpAny_newObj_type (wpAny_pure ⟨_, rfl, wpAny_pure h⟩) hok)
      | exact wpAny_bind (m := Builtin.Tuple.tupleExact _) (wpAny_newObj_type (wpAny_bind (wpAny_pure (wpAny_pure ⟨_, rfl, wpAny_pure h⟩))) hok)
      | exact wpAny_bind (wpAny_bind (m := Builtin.Tuple.tupleExact _) (wpAny_newObj_type (wpAny_pure (wpAny_pure ⟨_, rfl, wpAny_pure h⟩)) hok))
      | exact wpAny_bind (wpAny_bind (m := Builtin.Tuple.tupleExact _) (wpAny_newObj_type (wpAny_pure ⟨_, rfl, wpAny_pure h⟩) hok))
end
def tSlS (K : PySem.W.Frag) (te : TE) (tl th ts : TO) : TE := fun σ H Q => te σ H fun x H1 => tl σ H1 fun l H2 => th σ H2 fun u H3 => ts σ H3 fun st H4 => ∃ a xs, x = .ref a ∧ SqT K H4 a xs ∧ st ≠ some 0 ∧ (pickL xs (stepIx xs.length l u st)).length ≤ sizeLine ∧
  (stepAll xs.length l u st → Q (.ref a) H4) ∧ (¬ stepAll xs.length l u st → ∀ p, H4 p = none → Q (.ref p) (upd H4 p (.tup (pickL xs (stepIx xs.length l u st)))))
section
variable {X : Cx} {G : Gc} {e st : Expr} {te ta tb : TE} {lo hi : Option Expr} {tl th ts : TO} {pos p2 p : Pos}
theorem pe_sliceS (he : PE X e te) (hl : PO X lo tl) (hu : PO X hi th) (hst : PO X (some st) ts) : PE X (.Subscript e (.Slice lo hi (some st) p2) pos) (tSlS X.K te tl th ts) := by
  refine ⟨fun pins s σ H Q I h => ?_⟩
  refine Subscript_ (thn (he.run pins s σ H _ I h) fun v s1 ⟨x, H1, I1, r1, q1⟩ => ?_)
  refine wpAny_Slice (thn (hl.run pins s1 σ H1 _ I1 q1) fun vl s2 ⟨l, H2, I2, pl, q2⟩ => thn (hu.run pins s2 σ H2 _ I2 q2) fun vu s3 ⟨u, H3, I3, pu, q3⟩ => thn (hst.run pins s3 σ H3 _ I3 q3) fun vs s4 ⟨o, H4, I4, ps, q4⟩ => ?_)
  obtain ⟨a, xs, rfl, hx, h0, hz, hw, hn⟩ := q4
  cases r1
  have I5 : Inv X pins σ H4 { s4 with heap := s4.heap.push { cls := .type "slice", data := .fields #[vl, vu, vs] } } := I4.kept (t' := s4.toks) fun b ob q => Heap.get?_push_of_some _ q
  obtain ⟨its, r, ht, hsz⟩ := I5.tuple hx
  have hlen : its.toArray.size = xs.length := by rw [List.size_toArray]; exact r.length.symm
  have hpl : (pickL its (stepIx xs.length l u o)).length = (pickL xs (stepIx xs.length l u o)).length := (stp_vals r _).length.symm
  show wpAny (model X.prog X.w) X.A (subscriptTail e (.Slice lo hi (some st) p2) (.ref a) (.ref s4.heap.objs.size)) (EP X pins σ Q) X.xe { s4 with heap := s4.heap.push { cls := .type "slice", data := .fields #[vl, vu, vs] } }
  refine tail_any (ops := [.ref a, .ref s4.heap.objs.size]) ht.typeIs (PyProof.Rows.slot_tuple_getitem.lookup) ?_ (by with_unfolding_all rfl)
  refine getItem_tuple_st ht (Heap.IsSliceOf.new _ vl vu vs) pl pu ps h0 ?_ (fun hall => ?_) fun hall => ?_
  · rw [hlen]
    show (pickL its (stepIx xs.length l u o)).length ≤ sizeLine
    rw [hpl]
    exact hz
  · rw [hlen] at hall
    exact ⟨.ref a, H4, I5, rfl, hw hall⟩
  · rw [hlen] at hall ⊢
    refine ⟨.ref _, _, I5.laid (t' := s4.toks) (o := .tup (pickL xs (stepIx xs.length l u o))) (fun b ob q => Heap.get?_push_of_some _ q) (Nat.le_refl _) ?_, rfl, hn hall _ (I5.hok.fresh (Nat.le_refl _))⟩
    exact ⟨hz, _, stp_vals r _, ⟨_, Heap.get?_push_size _ rfl, rfl, _, rfl⟩⟩
@[simp] def fSlS : D → Option Int → Option Int → Option Int → Sto → Option (D × Sto) := fun d l h st S => match d with
  | .tup xs => if st ≠ some 0 ∧ (pickL xs (stepIx xs.length l h st)).length ≤ 1000000 then some (.tup (pickL xs (stepIx xs.length l h st)), S) else none
  | _ => none
@[simp] def eSlS (a : RE) (lo hi st : RO) : RE := fun ρ S => match a ρ S with
  | some (d, S1) => (match lo ρ S1 with
    | some (l, S2) => (match hi ρ S2 with
      | some (h, S3) => (match st ρ S3 with
        | some (k, S4) => fSlS d l h k S4
        | none => none)
      | none => none)
    | none => none)
  | none => none
theorem de_slS {ea : Expr} {ra : RE} {rl rh rk : RO} (ha : DE X G ea ra) (hl : DO X G lo rl) (hu : DO X G hi rh) (hk : DO X G (some st) rk) : DE X G (.Subscript ea (.Slice lo hi (some st) p2) pos) (eSlS ra rl rh rk) :=
  let ⟨_, pa, ea⟩ := ha; let ⟨_, pl, el⟩ := hl; let ⟨_, pu, eu⟩ := hu; let ⟨_, pk, ek⟩ := hk
  ⟨_, pe_sliceS pa pl pu pk, fun ρ S d S' e w σ H s Q q => by
    unfold eSlS at e
    split at e
    · rename_i d0 S1 h1
      split at e
      · rename_i l S2 h2
        split at e
        · rename_i u S3 h3
          split at e
          · rename_i o S4 h4
            refine ea ρ S d0 S1 h1 w σ H s _ fun w1 v H1 s1 x1 d1 => el ρ S1 l S2 h2 w1 σ H1 s1 _ fun w2 H2 s2 x2 => eu ρ S2 u S3 h3 w2 σ H2 s2 _ fun w3 H3 s3 x3 => ek ρ S3 o S4 h4 w3 σ H3 s3 _ fun w4 H4 s4 x4 => ?_
            have d4 := ((d1.ext x2).ext x3).ext x4
            have xx := ((x1.trans x2).trans x3).trans x4
            unfold fSlS at e
            split at e
            · rename_i xs
              split at e
              · rename_i hc
                cases e
                obtain ⟨pp, vs, rfl, hp, l0⟩ := den_tup d4
                have hpl := (stp_den l0 (stepIx xs.length l u o)).len
                refine ⟨pp, vs, rfl, .inl (.inl (s4.core.sub _ _ hp)), hc.1, ?_, fun hw => ?_, fun _ r hr => ?_⟩
                · rw [l0.len, hpl]
                  exact le_line hc.2
                · rw [l0.len] at hw
                  refine q w4 _ H4 s4 xx ?_
                  rw [stepAll_ix hw, pick_all]
                  exact d4
                · obtain ⟨s5, x5⟩ := s4.newF (o := .tup (pickL vs (stepIx vs.length l u o))) hr (.inl ⟨_, rfl⟩)
                  refine q _ _ _ s5 (xx.trans x5) (den_newT ?_ (s4.core.fresh hr))
                  rw [l0.len]
                  exact stp_den l0 _
              · cases e
            · cases e
          · cases e
        · cases e
      · cases e
    · cases e⟩
/-! ### all, any of a list of truth values -/
def blsD : List D → Option (List Bool)
  | [] => some []
  | .bl b :: r => match blsD r with | some bs => some (b :: bs) | none => none
  | _ :: _ => none
theorem bls_of {w : Wd} {n : Nat} : ∀ {vs : List V} {ds : List D} {bs : List Bool}, DenL w n vs ds → blsD ds = some bs → vs = bs.map V.bl
  | _, _, _, .nil, e => by cases e; rfl
  | _, _, bs, .cons (d := d) h t, e => by
    cases d <;> simp only [blsD] at e <;> try cases e
    split at e
    · rename_i bs' h2
      cases e
      cases h
      rw [List.map_cons, bls_of t h2]
    · cases e
@[simp] def fAllL : List D → Sto → Option (D × Sto) := fun ds S => match ds with
  | [.tup _] => none
  | [d] => (match seqD d S with | some xs => (match blsD xs with | some bs => some (.bl (bs.all id), S) | none => none) | none => none)
  | _ => none
@[simp] def fAnyL : List D → Sto → Option (D × Sto) := fun ds S => match ds with
  | [.tup _] => none
  | [d] => (match seqD d S with | some xs => (match blsD xs with | some bs => some (.bl (bs.any id), S) | none => none) | none => none)
  | _ => none
theorem de_allL {a : Expr} (hc : X.calm = true) (hm : X.mg "all" = none) {ta : RE} (ha : DE X G a ta) (hg : Gl X "all" := by rfl) (hs : starEach [a] X.env = (false, eval a X.env) :: starEach [] X.env := by rfl) (hpl : (backTo pos (starEach [] X.env)).any (·.1) = false := by rfl) :
    DE X G (.Call (.Name "all" p) [a] [] pos) (eA fAllL (aCons ta aNil)) :=
  let ⟨_, pa, ea⟩ := da_cons ha da_nil hs
  ⟨_, pe_callB (cr_all hc) hg hm boot_all pa (by decide) (by decide) hs hpl, ev_cb (fun w ρ S σ H xs ds d S' Q s hd e q => by
    unfold fAllL at e
    split at e
    · cases e
    · rename_i dd hnt
      obtain ⟨v, rfl, hv⟩ := denL1 hd
      split at e
      · rename_i ys h1
        split at e
        · rename_i bs h2
          cases e
          obtain ⟨a, vs, rfl, hq, l⟩ := seq_L (K := X.K) s.core hv h1 (fun ys z => hnt ys (by rw [z]))
          rw [bls_of l h2] at hq
          exact ⟨a, bs, rfl, hq, q w _ H s (Ext.refl ..) (.bl _)⟩
        · cases e
      · cases e
    · cases e) ea⟩
theorem de_anyL {a : Expr} (hc : X.calm = true) (hm : X.mg "any" = none) {ta : RE} (ha : DE X G a ta) (hg : Gl X "any" := by rfl) (hs : starEach [a] X.env = (false, eval a X.env) :: starEach [] X.env := by rfl) (hpl : (backTo pos (starEach [] X.env)).any (·.1) = false := by rfl) :
    DE X G (.Call (.Name "any" p) [a] [] pos) (eA fAnyL (aCons ta aNil)) :=
  let ⟨_, pa, ea⟩ := da_cons ha da_nil hs
  ⟨_, pe_callB (cr_any hc) hg hm boot_any pa (by decide) (by decide) hs hpl, ev_cb (fun w ρ S σ H xs ds d S' Q s hd e q => by
    unfold fAnyL at e
    split at e
    · cases e
    · rename_i dd hnt
      obtain ⟨v, rfl, hv⟩ := denL1 hd
      split at e
      · rename_i ys h1
        split at e
        · rename_i bs h2
          cases e
          obtain ⟨a, vs, rfl, hq, l⟩ := seq_L (K := X.K) s.core hv h1 (fun ys z => hnt ys (by rw [z]))
          rw [bls_of l h2] at hq
          exact ⟨a, bs, rfl, hq, q w _ H s (Ext.refl ..) (.bl _)⟩
        · cases e
      · cases e
    · cases e) ea⟩
end
end DL

set_option maxRecDepth 100000
set_option maxHeartbeats 4000000
set_option pp.maxSteps 900
/-! sorted of a list of trees, max and min of a tuple of ints -/
namespace DL
open PySem PySem.Spec PyProof.Rows L2 GX
open PySem.W (AllAlike Sortable dataLe EachIs sorted_data)
open Classical
/-- the trees in order, by what they read as -/
noncomputable def sortBy {α : Type} (xs : List α) (ps : List PyData) : List α := ((xs.zip ps).mergeSort (dataLe false Prod.snd)).map Prod.fst
theorem sortBy_length {α : Type} {xs : List α} {ps : List PyData} (h : xs.length = ps.length) : (sortBy xs ps).length = xs.length := by
  unfold sortBy
  rw [List.length_map, List.length_mergeSort, List.length_zip, h, Nat.min_self]
theorem zip_snd {α : Type} : ∀ {xs : List α} {ps : List PyData}, xs.length = ps.length → (xs.zip ps).map Prod.snd = ps
  | [], [], _ => rfl
  | [], _ :: _, h => by simp at h
  | _ :: _, [], h => by simp at h
  | x :: xs, p :: ps, h => by
    rw [List.zip_cons_cons, List.map_cons, zip_snd (by simpa using h)]
theorem dp_len {K : PySem.W.Frag} {H : Hp} : ∀ {vs : List V} {ps : List PyData}, DpAll K H vs ps → vs.length = ps.length
  | _, _, .nil => rfl
  | _, _, .cons _ t => by rw [List.length_cons, List.length_cons, dp_len t]
/-- trees and values in the same order -/
theorem sort_den {w : Wd} {n : Nat} {vs : List V} {ds : List D} {ps : List PyData} (h : DenL w n vs ds) (hp : ds.length = ps.length) : DenL w n (sortBy vs ps) (sortBy ds ps) := by
  have hl := h.len
  have key : ∀ l : List ((V × D) × PyData), (∀ t ∈ l, Den w n t.1.1 t.1.2) → DenL w n (l.map fun t => t.1.1) (l.map fun t => t.1.2) := fun l => by
    induction l with
    | nil => intro _; exact .nil
    | cons t l ih => intro hm; exact .cons (hm t List.mem_cons_self) (ih fun x hx => hm x (List.mem_cons_of_mem _ hx))
  have hz : ∀ (vs : List V) (ds : List D), DenL w n vs ds → ∀ ps : List PyData, ∀ t ∈ (vs.zip ds).zip ps, Den w n t.1.1 t.1.2 := fun vs ds h => by
    induction vs generalizing ds with
    | nil => intro ps t ht; simp at ht
    | cons v vs ih =>
      intro ps t ht
      cases h with
      | cons h1 h2 =>
        cases ps with
        | nil => simp at ht
        | cons p ps =>
          rw [List.zip_cons_cons, List.zip_cons_cons] at ht
          rcases List.mem_cons.mp ht with e | e
          · subst e; exact h1
          · exact ih _ h2 ps t e
  have e1 : vs.zip ps = ((vs.zip ds).zip ps).map fun t => (t.1.1, t.2) := by
    clear hz key h
    induction vs generalizing ds ps with
    | nil => simp
    | cons v vs ih =>
      cases ds with
      | nil => simp at hl
      | cons d ds =>
        cases ps with
        | nil => simp
        | cons p ps =>
          simp only [List.zip_cons_cons, List.map_cons]
          rw [ih (by simpa using hp) (by simpa using hl)]
  have e2 : ds.zip ps = ((vs.zip ds).zip ps).map fun t => (t.1.2, t.2) := by
    clear hz key h e1
    induction vs generalizing ds ps with
    | nil =>
      cases ds with
      | nil => simp
      | cons d ds => simp at hl
    | cons v vs ih =>
      cases ds with
      | nil => simp at hl
      | cons d ds =>
        cases ps with
        | nil => simp
        | cons p ps =>
          simp only [List.zip_cons_cons, List.map_cons]
          rw [ih (by simpa using hp) (by simpa using hl)]
  unfold sortBy
  rw [e1, e2]
  have m1 := List.map_mergeSort (r := dataLe false fun t : (V × D) × PyData => t.2) (s := dataLe false (Prod.snd : V × PyData → PyData)) (f := fun t : (V × D) × PyData => (t.1.1, t.2)) (l := (vs.zip ds).zip ps) fun a _ b _ => rfl
  have m2 := List.map_mergeSort (r := dataLe false fun t : (V × D) × PyData => t.2) (s := dataLe false (Prod.snd : D × PyData → PyData)) (f := fun t : (V × D) × PyData => (t.1.2, t.2)) (l := (vs.zip ds).zip ps) fun a _ b _ => rfl
  rw [← m1, ← m2, List.map_map, List.map_map]
  exact key _ fun t ht => hz vs ds h ps t ((List.mergeSort_perm _ _).mem_iff.mp ht)
section
variable {X : Cx} {G : Gc} {a : Expr} {ta : RE} {pos p : Pos}
def rSortD (K : PySem.W.Frag) : List V → Hp → VK → Prop := fun vs H Q => ∃ (a : Addr) (xs : List V) (ps : List PyData), vs = [V.ref a] ∧ SqL K H a xs ∧ DpAll K H xs ps ∧ AllAlike ps ∧ Sortable ps ∧ (∀ q, q ∈ ps → q.depth ≤ 60) ∧ ps.length ≤ sizeLine ∧
  ∀ p : Addr, H p = none → Q (.ref p) (upd H p (.lst (sortBy xs ps)))
theorem each_zip {h : Heap} : ∀ {xs : List V} {us : List Value} {ps : List PyData} {as : List Addr}, Vals xs us → ReadsAll h us ps as → EachIs (fun v (b : V × PyData) => RelV b.1 v) us (xs.zip ps) ∧ EachIs (fun v (b : V × PyData) => ∃ as, Reads h v b.2 as) us (xs.zip ps)
  | _, _, _, _, .nil, r => by cases r; exact ⟨.nil, .nil⟩
  | _, _, _, _, .cons r1 r2, r => by
    cases r with
    | cons h1 h2 =>
      obtain ⟨a1, a2⟩ := each_zip r2 h2
      rw [List.zip_cons_cons]
      exact ⟨.cons r1 a1, .cons ⟨_, h1⟩ a2⟩
theorem vals_each : ∀ {us : List Value} {bs : List (V × PyData)}, EachIs (fun v (b : V × PyData) => RelV b.1 v) us bs → Vals (bs.map Prod.fst) us
  | _, _, .nil => .nil
  | _, _, .cons h t => .cons h (vals_each t)
theorem cr_sortedD (hu : X.A.units + 64 < cLine) : CallR X (.builtin "sorted") (rSortD X.K) := by
  intro pins s σ H vs us Q I r h
  obtain ⟨a, xs, ps, rfl, hs, hd, hal, hso, hdep, hlen, q⟩ := h
  obtain ⟨its, rv, hl, hz⟩ := I.list hs
  rw [Vals.ref1 r]
  obtain ⟨as, hr⟩ := Dp.readsAll I ps _ its hd rv
  obtain ⟨e1, e2⟩ := each_zip rv hr
  have hxl : xs.length = ps.length := dp_len hd
  have hsnd : (xs.zip ps).map Prod.snd = ps := zip_snd hxl
  have hzl : (xs.zip ps).length = ps.length := by rw [List.length_zip, hxl, Nat.min_self]
  refine sorted_data (enc := Prod.snd) hl.isList e1 e2 (by rw [hsnd]; exact hal) (by rw [hsnd]; exact hso) (by rw [hzl]; exact hlen) (fun b hb => ?_) fun out ho eo => ?_
  · have : b.2 ∈ ps := by rw [← hsnd]; exact List.mem_map.mpr ⟨b, hb, rfl⟩
    have := hdep _ this
    omega
  · obtain ⟨ep, he'⟩ := PyProof.Rows.sortedAll_at s.heap its out.toArray
    have hv := vals_each eo
    have hlen2 : (sortBy xs ps).length ≤ sizeLine := by rw [sortBy_length hxl, hxl]; exact hlen
    exact ⟨.ref _, upd H (s.heap.objs.size + 1) (.lst (sortBy xs ps)), I.laid (t' := s.toks) (fun _ _ => PyProof.Rows.sortedAll_old) (Nat.le_succ _) ⟨hlen2, out, ep, hv, by simpa using he'⟩, rfl, q _ (I.hok.fresh (Nat.le_succ _))⟩
@[simp] noncomputable def fSortedF : List D → Sto → Option (D × Sto) := fun ds S => match ds with
  | [.tup _] => none
  | [d] => (match seqD d S with | some xs => (match toPs xs with | some ps => if AllAlike ps ∧ Sortable ps ∧ (∀ q, q ∈ ps → q.depth ≤ 60) ∧ ps.length ≤ 1000000 then some (.lst (sortBy xs ps), S) else none | none => none) | none => none)
  | _ => none
@[simp] noncomputable def fSortedO : List D → Sto → Option (D × Sto) := fun ds S => match fSortedF ds S with | some (.lst xs, _) => some (.obj S.length, S ++ [.lst xs]) | _ => none
theorem boot_sorted : bootBuiltins "sorted" = some (.builtin "sorted") := by decide +kernel
theorem r_sortedF : RCNew G (rSortD X.K) fSortedF := fun w ρ S σ H xs ds d S' Q s hd e q => by
  unfold fSortedF at e
  split at e
  · cases e
  · rename_i dd hnt
    obtain ⟨v, rfl, hv⟩ := denL1 hd
    split at e
    · rename_i ys h1
      split at e
      · rename_i ps h2
        split at e
        · rename_i hc
          cases e
          obtain ⟨p, vs, rfl, hq, l⟩ := seq_L (K := X.K) s.core hv h1 (fun ys z => hnt ys (by rw [z]))
          have hdp : DpAll X.K H vs ps := dps_of s.core.sub l h2
          refine ⟨p, vs, ps, rfl, hq, hdp, hc.1, hc.2.1, hc.2.2.1, le_line hc.2.2.2, fun a ha => ?_⟩
          obtain ⟨s1, x1⟩ := s.newF (o := .lst (sortBy vs ps)) ha (.inr ⟨_, rfl⟩)
          exact q _ _ _ s1 x1 (den_newL (sort_den l (by rw [← l.len, dp_len hdp])) (s.core.fresh ha))
        · cases e
      · cases e
    · cases e
  · cases e
theorem de_sortedF {k : Nat} (hr : Room k X.A) (hm : X.mg "sorted" = none) (ha : DE X G a ta) (hg : Gl X "sorted" := by rfl) (hs : starEach [a] X.env = (false, eval a X.env) :: starEach [] X.env := by rfl) (hpl : (backTo pos (starEach [] X.env)).any (·.1) = false := by rfl) :
    DE X G (.Call (.Name "sorted" p) [a] [] pos) (eA fSortedF (aCons ta aNil)) :=
  let ⟨_, pa, ea⟩ := da_cons ha da_nil hs
  ⟨_, pe_callB (cr_sortedD hr.units) hg hm boot_sorted pa (by decide) (by decide) hs hpl, ev_cb r_sortedF ea⟩
/-! ### max of a tuple of ints -/
theorem dp_ints {K : PySem.W.Frag} {H : Hp} : ∀ ns : List Int, DpAll K H (ns.map V.int) (ns.map PyData.int)
  | [] => .nil
  | n :: ns => .cons (.int n) (dp_ints ns)
def rMaxT (K : PySem.W.Frag) : List V → Hp → VK → Prop := fun vs H Q => ∃ (a : Addr) (n : Int) (ns : List Int), vs = [V.ref a] ∧ SqT K H a ((n :: ns).map V.int) ∧ Q (.int (ns.foldl max n)) H
theorem cr_maxT (hc : X.calm = true) (hu : X.A.units + 64 < cLine) : CallR X (.builtin "max") (rMaxT X.K) := by
  intro pins s σ H vs us Q I r h
  obtain ⟨a, n, ns, rfl, hs, q⟩ := h
  obtain ⟨its, rv, ht, _⟩ := I.tuple hs
  rw [Vals.ref1 r]
  obtain ⟨as, hr⟩ := Dp.readsAll I ((n :: ns).map PyData.int) _ its (dp_ints _) rv
  have hd : PyData.depthAll ((n :: ns).map PyData.int) = 0 := PySem.W.depth_ints _
  refine PySem.W.max_tuple_data (I.ok.hd hc) (show s.heap.IsTuple a its.toArray from ht) hr ⟨fun x hx y hy => ?_, fun x hx => ?_⟩ (by rw [show PyData.int n :: ns.map PyData.int = (n :: ns).map PyData.int from rfl, hd]; omega) fun i v h' tk bs hv hrd hk => ?_
  · obtain ⟨k, _, rfl⟩ := List.mem_map.mp (show x ∈ (n :: ns).map PyData.int from hx)
    obtain ⟨k', _, rfl⟩ := List.mem_map.mp (show y ∈ (n :: ns).map PyData.int from hy)
    rfl
  · obtain ⟨k, _, rfl⟩ := List.mem_map.mp (show x ∈ (n :: ns).map PyData.int from hx)
    exact fun e => by cases e
  · have e : PySem.W.maxD (PyData.int n) (ns.map PyData.int) = .int (ns.foldl max n) := PySem.W.maxD_ints n ns
    rw [e] at hrd
    cases hrd
    exact ⟨.int _, H, I.kept hk, ⟨_, rfl⟩, q⟩
theorem cr_or {id : String} {r r' : List V → Hp → VK → Prop} (h : CallR X (.builtin id) r) (h' : CallR X (.builtin id) r') : CallR X (.builtin id) (fun vs H Q => r vs H Q ∨ r' vs H Q) := fun pins s σ H vs us Q I rr q => q.elim (h pins s σ H vs us Q I rr) (h' pins s σ H vs us Q I rr)
theorem ints_cons : ∀ {xs : List D} {ns : List Int}, intsD xs = some ns → xs = ns.map D.int
  | [], ns, e => by cases e; rfl
  | x :: xs, ns, e => by
    cases x <;> simp only [intsD] at e <;> try cases e
    split at e
    · rename_i ms h2
      cases e
      rw [ints_cons h2]
      rfl
    · cases e
/-- max of a list or a tuple of ints -/
theorem de_maxA {k : Nat} (hc : X.calm = true) (hr : Room k X.A) (hm : X.mg "max" = none) (ha : DE X G a ta) (hg : Gl X "max" := by rfl) (hs : starEach [a] X.env = (false, eval a X.env) :: starEach [] X.env := by rfl) (hpl : (backTo pos (starEach [] X.env)).any (·.1) = false := by rfl) :
    DE X G (.Call (.Name "max" p) [a] [] pos) (eA fMax1 (aCons ta aNil)) :=
  let ⟨_, pa, ea⟩ := da_cons ha da_nil hs
  ⟨_, pe_callB (cr_or (cr_max hc) (cr_maxT hc hr.units)) hg hm boot_max pa (by decide) (by decide) hs hpl, ev_cb (fun w ρ S σ H xs ds d S' Q s hd e q => by
    unfold fMax1 at e
    split at e
    · rename_i dd
      obtain ⟨v, rfl, hv⟩ := denL1 hd
      split at e
      · rename_i ys h1
        split at e
        · rename_i ns h2
          split at e
          · rename_i m h3
            cases e
            obtain ⟨p, vs, rfl, hq, l⟩ := seq_ok (K := X.K) s.core hv h1
            rw [ints_of l h2] at hq
            rcases hq with hq | hq
            · obtain ⟨g1, g2⟩ := listMax_ok h3
              exact .inl ⟨p, ns, rfl, hq, g1, fun m' m1 m2 => by rw [g2 m' m1 m2]; exact q w _ H s (Ext.refl ..) (.int _)⟩
            · cases ns with
              | nil => cases h3
              | cons n ns =>
                cases h3
                exact .inr ⟨p, n, ns, rfl, hq, q w _ H s (Ext.refl ..) (.int _)⟩
          · cases e
        · cases e
      · cases e
    · cases e) ea⟩
end
end DL

set_option maxRecDepth 100000
set_option maxHeartbeats 4000000
set_option pp.maxSteps 900
/-! what raises: an exception class of the text without own __init__, made without arguments -/
namespace DL
open PySem PySem.Spec PyProof.Rows L2 GX
open Classical
/-- an exception class of the text -/
structure XAt (K : PySem.W.Frag) (mg : Str → Option Value) (x : Str) (C : Addr) : Prop where
  g : mg x = some (.ref C)
  x : PySem.W.excIn K C [.type "ValueError", .type "Exception", .type "BaseException", .type "object"] "ValueError.__new__" = true
  k : PySem.W.keepIn K (.ref C) = true
  b : PySem.W.subIn K (.ref C) (.type "BaseException") = some true
  t : PySem.W.typeIn K (.ref C) = some (.type "type")
  m : PySem.W.exmOne K (.ref C) (.ref C) = some true
/-- where an exception leaves: the places and the store then -/
abbrev RX := En → Sto → Option (En × Sto)
abbrev FX := List D → Sto → Option Sto
def EvX (G : Gc) (C : Addr) (W : WX) (ts : TS) (x : RX) : Prop := ∀ (ρ : En) (S : Sto) (ρ' : En) (S' : Sto), x ρ S = some (ρ', S') → ∀ (w : Wd) (σ : L2.St) (H : Hp), Sat G w ρ S σ H →
  (∀ w' σ' H', Sat G w' ρ' S' σ' H' → Ext w S H w' S' H' → W (.ref C) none σ' H') → ∀ D : Ends, ts D σ H
def DX (X : Cx) (G : Gc) (C : Addr) (st : Stmt) (x : RX) : Prop := ∀ W, Takes X W → ∃ ts, PS X st ts ∧ EvX G C W ts x
def DXs (X : Cx) (G : Gc) (C : Addr) (sts : List Stmt) (x : RX) : Prop := ∀ W, Takes X W → ∃ ts, PSs X sts ts ∧ EvX G C W ts x
def EvXE (G : Gc) (C : Addr) (W : WX) (te : TE) (x : RX) : Prop := ∀ (ρ : En) (S : Sto) (ρ' : En) (S' : Sto), x ρ S = some (ρ', S') → ∀ (w : Wd) (σ : L2.St) (H : Hp), Sat G w ρ S σ H →
  (∀ w' σ' H', Sat G w' ρ' S' σ' H' → Ext w S H w' S' H' → W (.ref C) none σ' H') → ∀ Q : VK, te σ H Q
def DXE (X : Cx) (G : Gc) (C : Addr) (e : Expr) (x : RX) : Prop := ∀ W, Takes X W → ∃ te, PE X e te ∧ EvXE G C W te x
/-! ### what is computed -/
@[simp] def xNo : RX := fun _ _ => none
@[simp] def xRaise : RX := fun ρ S => some (ρ, S)
@[simp] def xIf (c : RT) (a b : RX) : RX := fun ρ S => match c ρ S with | some (true, S1) => a ρ S1 | some (false, S1) => b ρ S1 | none => none
@[simp] def xSeq (t : RS) (b : RX) : RX := fun ρ S => match t ρ S with | some (.nx ρ1 S1) => b ρ1 S1 | _ => none
@[simp] def xCall (F : FX) (a : RA) : RX := fun ρ S => match a ρ S with | some (ds, S1) => (match F ds S1 with | some S2 => some (ρ, S2) | none => none) | none => none
@[simp] def sTry (x : RX) (u : RS) : RS := fun ρ S => match x ρ S with | some (ρ1, S1) => u ρ1 S1 | none => none
@[simp] def xD (n m : Nat) (x : RX) : FX := fun ds S => if ds.length = n then (match x (startD m ds) S with | some (_, S1) => some S1 | none => none) else none
/-- a def that raises C there -/
def SpX (G : Gc) (C : Addr) (F : FX) : Sp := fun vs H _ E => ∃ w S ds S', Core G w S H ∧ DenL w S.length vs ds ∧ F ds S = some S' ∧ ∀ w' H', Core G w' S' H' → Ext w S H w' S' H' → E (.ref C) none H'
structure DFx (P : Program) (wd : World) (G : Gc) (mg : Str → Option Value) (k : Nat) (x : Str) (st : Stmt) (f : Addr) (ps : List Str) (C : Addr) (F : FX) : Prop where
  ok : ∃ (kV doc pm : Value) (an : Option Addr) (cdv ct : Value), FnOk P wd G.K mg G.base (L2.CX P wd) k f (PySem.W.fnOf x x (defArgs st) (defBody st) (defScope st) .none kV doc pm an cdv ct) ps (SpX G C F)
  kp : PySem.W.keepIn G.K (.ref f) = true
  mg : mg x = some (.ref f)
theorem pmk_own0 {X : Cx} {C : Addr} {bmB : List Value} {B newId initId : String} {x : Str} {p pos : Pos} (F : ExcBaseFacts B newId initId bmB) (q : PySem.W.excIn X.K C bmB newId = true) (gC : X.mg x = some (.ref C)) (kC : PySem.W.keepIn X.K (.ref C) = true) (r : Raises X (.ref C)) (hg : Gl X x)
    (hdb : (x == ("__debug__" : Str)) = false := by decide) : PMk X (.Call (.Name x p) [] [] pos) (fun _ H Q => Q (.ref C) none H) := by
  intro pins s σ H Q I h
  refine wpAny_Call_Name_kw (ld_glob I hg gC ?_ hdb)
  refine PySem.W.callWith_K0 I.kIn kC ?_
  show wpAny _ _ (call (.ref C) []) _ _ _
  obtain ⟨bm, N, nm, qn, bs, hdct, sn, sub, ab, col, dd, k0, k1, k2, k3, k5, mN, hC, hN, hni, T⟩ := exc_obj I.kIn q
  refine wpAny_call_exc_subT F T hC hN hni (fun h' e hm => ?_) (by show 0 ≤ sizeLine; omega)
  exact mk_of I hm r h (I.hok.gone hm.new)
section
variable {G : Gc} {X : Cx} {pos pos' np p p2 : Pos} {e c : Expr} {es : List Expr} {x : Str} {f C : Addr} {st : Stmt} {sts sts2 : List Stmt} {ps : List Str} {k : Nat} {ra : RA} {tt : RT} {t u : RS} {a b : RX} {F : FX} {b₀ : Stmt}
theorem x_no : DXs X G C sts xNo := fun W tk => ⟨_, pss_never, fun ρ S ρ' S' e => by cases e⟩
theorem x_raise {K : PySem.W.Frag} {mg : Str → Option Value} (hx : XAt K mg x C) (hc : X.calm = true) (hK : X.K = K := by rfl) (hm : X.mg = mg := by rfl) (hg : Gl X x := by rfl) (hdb : (x == ("__debug__" : Str)) = false := by decide) : DX X G C (.Raise (some (.Call (.Name x p) [] [] p2)) none pos) xRaise := fun W tk => by
  subst hK hm
  exact ⟨_, ps_raise hc tk (pmk_own0 PySem.F.excBase_ValueError hx.x hx.g hx.k (raises_own hx.b hx.t) hg hdb), fun ρ S ρ' S' e w σ H s q D => by cases e; exact q w σ H s (Ext.refl ..)⟩
theorem x_one (h : DX X G C st a) : DXs X G C [st] a := fun W tk => let ⟨_, p, q⟩ := h W tk; ⟨_, pss_one p, q⟩
theorem x_seqL (h : DX X G C st a) : DXs X G C (st :: sts) a := fun W tk => let ⟨_, p, q⟩ := h W tk; ⟨_, pss_cons p pss_never, fun ρ S ρ' S' e w σ H s r D => q ρ S ρ' S' e w σ H s r _⟩
theorem x_seqR (h : DS X G st t) (h2 : DXs X G C sts b) : DXs X G C (st :: sts) (xSeq t b) := fun W tk =>
  let ⟨_, pa, ea⟩ := h; let ⟨_, pb, eb⟩ := h2 W tk
  ⟨_, pss_cons pa pb, fun ρ S ρ' S' e w σ H s r D => by
    unfold xSeq at e
    split at e
    · rename_i ρ1 S1 h1
      exact ea ρ S _ h1 w σ H s _ fun w1 σ1 H1 s1 x1 => eb ρ1 S1 ρ' S' e w1 σ1 H1 s1 (fun w2 σ2 H2 s2 x2 => r w2 σ2 H2 s2 (x1.trans x2)) D
    · cases e⟩
theorem x_if (hc : DT X G c tt) (ha : DXs X G C sts a) (hb : DXs X G C sts2 b) : DX X G C (.If c sts sts2 pos) (xIf tt a b) := fun W tk =>
  let ⟨_, pc, ec⟩ := hc; let ⟨_, pa, ea⟩ := ha W tk; let ⟨_, pb, eb⟩ := hb W tk
  ⟨_, ps_if pc pa pb, fun ρ S ρ' S' e w σ H s r D => by
    unfold xIf at e
    split at e
    · rename_i S1 h1
      exact ec ρ S _ _ h1 w σ H s _ fun w1 H1 s1 x1 => iteT (ea ρ S1 ρ' S' e w1 σ H1 s1 (fun w2 σ2 H2 s2 x2 => r w2 σ2 H2 s2 (x1.trans x2)) D)
    · rename_i S1 h1
      exact ec ρ S _ _ h1 w σ H s _ fun w1 H1 s1 x1 => iteF (eb ρ S1 ρ' S' e w1 σ H1 s1 (fun w2 σ2 H2 s2 x2 => r w2 σ2 H2 s2 (x1.trans x2)) D)
    · cases e⟩
theorem x_expr (h : DXE X G C e a) (hs : swapsWith e none pos.line X.env = pure false := by rfl) : DX X G C (.Expr e pos) a := fun W tk =>
  let ⟨_, pa, ea⟩ := h W tk
  ⟨_, ps_expr pa hs, fun ρ S ρ' S' e w σ H s r D => ea ρ S ρ' S' e w σ H s r _⟩
theorem x_ret (h : DXE X G C e a) : DX X G C (.Return (some e) pos) a := fun W tk =>
  let ⟨_, pa, ea⟩ := h W tk
  ⟨_, ps_ret pa, fun ρ S ρ' S' e w σ H s r D => ea ρ S ρ' S' e w σ H s r _⟩
theorem x_set {i : Nat} {y : Str} {pos' : Pos} (hN : X.N.Nodup) (hi : X.N[i]? = some y) (hx : Loc X.env.scope y) (h : DXE X G C e a) (hs : swapsWith e (some (.Name y pos')) pos.line X.env = pure false) (hf : X.fn y = true ∨ X.env.scope.names.lookup y = some .local) :
    DX X G C (.Assign [.Name y pos'] e pos) a := fun W tk =>
  let ⟨_, pa, ea⟩ := h W tk
  ⟨_, ps_set hN hi hx pa hs hf, fun ρ S ρ' S' e w σ H s r D => ea ρ S ρ' S' e w σ H s r _⟩
theorem x_call {cv : Option Value} (hf : DFx X.prog X.w G X.mg k x st f ps C F) (hb : BindsP st ps) (hr : Room k X.A) (ha : DA X { G with cv := cv } (e :: es) ra) (hK : X.K = G.K := by rfl) (hB : X.base = G.base := by rfl) (hg : Gl X x := by rfl) (hdb : (x == ("__debug__" : Str)) = false := by decide)
    (he : starEach (e :: es) X.env = (false, eval e X.env) :: starEach es X.env := by rfl) (hpl : (backTo pos (starEach es X.env)).any (·.1) = false := by rfl) : DXE X { G with cv := cv } C (.Call (.Name x p) (e :: es) [] pos) (xCall F ra) := fun W tk => by
  obtain ⟨kV, doc, pm, an, cdv, ct, hok⟩ := hf.ok
  obtain ⟨ta, pa, ea⟩ := ha
  refine ⟨_, pe_callS (CX := L2.CX X.prog X.w) (E := WE W) (by rw [hK, hB]; exact hok) hr hg hf.mg (by rw [hK]; exact hf.kp) (.all (hb x kV doc pm an cdv ct)) (fun σ => passAt tk σ) pa hdb he hpl, fun ρ S ρ' S' e w σ H s r Q => ?_⟩
  unfold xCall at e
  split at e
  · rename_i ds S1 h1
    split at e
    · rename_i S2 h2
      cases e
      refine ea ρ S ds S1 h1 w σ H s _ fun w1 vs H1 s1 x1 d1 => ?_
      exact ⟨w1, S1, ds, S', ⟨s1.core.sub, s1.core.fro, s1.core.cel, s1.core.inj, s1.core.tab, s1.core.t0⟩, d1, h2, fun w2 H2 c2 x2 => r w2 σ H2 (s1.ofCore ⟨c2.sub, c2.fro, c2.cel, c2.inj, c2.tab, c2.t0⟩ x2) (x1.trans x2)⟩
    · cases e
  · cases e
/-- try: .. except C: .., where the body raises C -/
theorem ds_try {K : PySem.W.Frag} {mg : Str → Option Value} (hx : XAt K mg x C) (hs : X.stack = X.env :: X.outer) (hf : X.env.frame = some X.env.locals) (hb : ∀ (pn : List (Addr × Obj)) (xe : Value → Shared → Prop), DXs (X.tr pn xe) G C sts a)
    (hu : ∀ (a : Addr) (pn : List (Addr × Obj)), DSs (X.suite a pn) G (b₀ :: sts2) u) (hK : X.K = K := by rfl) (hm : X.mg = mg := by rfl) (hg : Gl X x := by rfl) (hdb : (x == ("__debug__" : Str)) = false := by decide) :
    DS X G (.Try sts [.ExceptHandler (some (.Name x np)) none (b₀ :: sts2) pos'] [] [] pos) (sTry a u) := by
  subst hK hm
  let tb : WX → TS := fun W D σ H => ∃ ρ S ρ' S' w, a ρ S = some (ρ', S') ∧ Sat G w ρ S σ H ∧ ∀ w' σ' H', Sat G w' ρ' S' σ' H' → Ext w S H w' S' H' → W (.ref C) none σ' H'
  have htb : ∀ (W : WX) (pn : List (Addr × Obj)) (xe : Value → Shared → Prop), Takes (X.tr pn xe) W → PSs (X.tr pn xe) sts (tb W) := fun W pn xe tk => by
    obtain ⟨ts, p, ev⟩ := hb pn xe W tk
    exact ⟨fun pins s σ H D I ⟨ρ, S, ρ', S', w, e, st, q⟩ => p.run pins s σ H D I (ev ρ S ρ' S' e w σ H st q D)⟩
  refine ⟨_, ps_try_only (tb := tb) (ts := fun _ _ _ D σ H => ∃ ρ S o w, u ρ S = some o ∧ Sat G w ρ S σ H ∧ Post G w S H D o) (Wout := fun _ _ _ _ => False) hs hf ⟨hg, hdb, .inl hx.g⟩ takes0 (fun W pn xe tk _ => htb W pn xe tk) (fun a oe cls d pn _ _ => ?_), ?_⟩
  · obtain ⟨ts, p, ev⟩ := hu a ((a, oe) :: pn)
    exact ⟨fun pins s σ H D I ⟨ρ, S, o, w, e, st, q⟩ => p.run pins s σ H D I (ev ρ S o e w σ H st D q)⟩
  · intro ρ S o e w σ H s D q
    unfold sTry at e
    split at e
    · rename_i ρ1 S1 h1
      exact ⟨ρ, S, ρ1, S1, w, h1, s, fun w1 σ1 H1 s1 x1 => ⟨true, hx.m, fun _ _ _ => ⟨ρ1, S1, o, w1, e, s1, q.ext x1⟩, fun z => by cases z⟩⟩
    · cases e
/-- THE RULE for a def that raises -/
theorem fx_at {P : Program} {wd : World} {mg : Str → Option Value} {c : Addr} {N : List Str} {cv : Option Value} (A : FAt G.K mg x st f c) (Sc : FnScope N ps (defScope st)) (hcv : ∀ v, cv = some v → v = .ref c ∧ ∃ P, G.t0 c P)
    (hbody : ∀ (A : Around) (outer : List Env) (s : Shared) (H : Hp) (E : XK), Room k (A.deeper (envOfC x (defScope st) s.heap.objs.size f (.ref c))) → DXs (cxOf (L2.CX P wd) P wd G.K mg G.base N x (defScope st) f (.ref c) A outer s H E) { G with cv := cv } C (defBody st) a) :
    DFx P wd G mg (k + 1) x st f ps C (xD ps.length N.length a) := by
  obtain ⟨oc, od, kV, doc, pm, an, ct, osl, lk⟩ := A.lk
  refine ⟨⟨kV, doc, pm, an, .ref c, ct, fn_of lk A.cd Sc (fun vs H Q E h => ?_) fun A' outer s H vs Q E hr h => ?_⟩, A.kp, A.mg⟩
  · obtain ⟨w, S, ds, S', c, l, e, q⟩ := h
    unfold xD at e
    split at e
    · rename_i hl; rw [l.len]; exact hl
    · cases e
  · obtain ⟨w, S, ds, S', c', l, e, q⟩ := h
    unfold xD at e
    split at e
    · rename_i hl
      split at e
      · rename_i ρ1 S1 h1
        cases e
        obtain ⟨ts, p, ev⟩ := hbody A' outer s H E hr (fun cls d _ H => E cls d H) (takes_of rfl rfl rfl rfl)
        have st := sat_start (N := N) (cv := cv) c' l (fun v hv => let ⟨e, P, h⟩ := hcv v hv; ⟨_, P, e, h⟩)
        refine ⟨ts, p, ev _ _ _ _ h1 w _ H st (fun w1 σ1 H1 s1 x1 => ?_) _⟩
        exact q w1 H1 ⟨s1.core.sub, s1.core.fro, s1.core.cel, s1.core.inj, s1.core.tab, s1.core.t0⟩ x1
      · cases e
    · cases e
end
end DL

set_option maxRecDepth 100000
set_option maxHeartbeats 4000000
/-! plain lemmas of loops, comprehensions, sizes, fractions -/
namespace DL
open PySem
open Classical
theorem forL_ind {g : RG} {b : RS} {chk : Sto → Prop} (I : Nat → En → Sto → Prop) : ∀ (ds : List D) (k0 : Nat) (ρ : En) (S : Sto), I k0 ρ S →
    (∀ k d ρ S, ds[k]? = some d → I (k0 + k) ρ S → ∃ ρ1 S1 ρ2 S2, g d ρ S = some (ρ1, S1) ∧ (b ρ1 S1 = some (.nx ρ2 S2) ∨ b ρ1 S1 = some (.ct ρ2 S2)) ∧ chk S2 ∧ I (k0 + k + 1) ρ2 S2) →
    ∃ ρ' S', forL g b chk ds ρ S = some (.nx ρ' S') ∧ I (k0 + ds.length) ρ' S'
  | [], k0, ρ, S, h, _ => ⟨ρ, S, rfl, h⟩
  | d :: ds, k0, ρ, S, h, hs => by
    obtain ⟨ρ1, S1, ρ2, S2, h1, h2, h3, h4⟩ := hs 0 d ρ S rfl h
    obtain ⟨ρ', S', h5, h6⟩ := forL_ind (g := g) (b := b) (chk := chk) I ds (k0 + 1) ρ2 S2 h4 fun k d ρ S hk hi => by
      have q := hs (k + 1) d ρ S hk (by rw [show k0 + (k + 1) = k0 + 1 + k by omega]; exact hi)
      rw [show k0 + (k + 1) + 1 = k0 + 1 + k + 1 by omega] at q
      exact q
    refine ⟨ρ', S', ?_, by rw [List.length_cons, show k0 + (ds.length + 1) = k0 + 1 + ds.length by omega]; exact h6⟩
    unfold forL
    rw [h1]
    rcases h2 with h2 | h2 <;> simp only [h2, if_pos h3, h5]
/-- a comprehension whose items leave the store -/
theorem compL_map {α : Type} {i : Nat} {e : RE} {chk : Sto → Prop} {ρ : En} {S : Sto} (hc : chk S) (h f : α → D) : ∀ xs : List α, (∀ x ∈ xs, e (ρ.set i (some (h x))) S = some (f x, S)) → compL (gNm i) tYesD e chk ρ (xs.map h) S = some (xs.map f, S)
  | [], _ => rfl
  | x :: xs, hx => by
    have ih := compL_map (i := i) (e := e) (ρ := ρ) hc h f xs fun y hy => hx y (List.mem_cons_of_mem _ hy)
    rw [List.map_cons, List.map_cons]
    unfold compL
    simp only [gNm, tYesD, hx x List.mem_cons_self, if_pos hc, ih]
/-- .. of pairs -/
theorem compL_map2 {α : Type} {i j : Nat} {e : RE} {chk : Sto → Prop} {ρ : En} {S : Sto} (hc : chk S) (h1 h2 f : α → D) : ∀ xs : List α, (∀ x ∈ xs, e ((ρ.set i (some (h1 x))).set j (some (h2 x))) S = some (f x, S)) →
    compL (gTp 2 (gsCons (gNm i) (gsCons (gNm j) gsNil))) tYesD e chk ρ (xs.map fun x => .tup [h1 x, h2 x]) S = some (xs.map f, S)
  | [], _ => rfl
  | x :: xs, hx => by
    have ih := compL_map2 (i := i) (j := j) (e := e) (ρ := ρ) hc h1 h2 f xs fun y hy => hx y (List.mem_cons_of_mem _ hy)
    rw [List.map_cons, List.map_cons]
    unfold compL
    simp only [gTp, gsCons, gsNil, gNm, tYesD, List.length_cons, List.length_nil, if_true, hx x List.mem_cons_self, if_pos hc, ih]
/-- .. whose store may change: an invariant of the store and what each item is -/
theorem compL_inv {i : Nat} {e : RE} {chk : Sto → Prop} {ρ : En} (I : Sto → Prop) (P : Nat → D → Prop) : ∀ (ds : List D) (k0 : Nat) (S : Sto), I S → (∀ k d S, ds[k]? = some d → I S → ∃ y S', e (ρ.set i (some d)) S = some (y, S') ∧ chk S' ∧ I S' ∧ P (k0 + k) y) →
    ∃ ys S', compL (gNm i) tYesD e chk ρ ds S = some (ys, S') ∧ I S' ∧ ys.length = ds.length ∧ ∀ (k : Nat) (y : D), ys[k]? = some y → P (k0 + k) y
  | [], k0, S, h, _ => ⟨[], S, rfl, h, rfl, fun k y hk => by simp at hk⟩
  | d :: ds, k0, S, h, hs => by
    obtain ⟨y, S1, h1, h2, h3, h4⟩ := hs 0 d S rfl h
    obtain ⟨ys, S', h5, h6, h7, h8⟩ := compL_inv (i := i) (e := e) (chk := chk) (ρ := ρ) I P ds (k0 + 1) S1 h3 fun k d S hk hi => by
      have q := hs (k + 1) d S hk hi
      rw [show k0 + (k + 1) = k0 + 1 + k by omega] at q
      exact q
    refine ⟨y :: ys, S', ?_, h6, by rw [List.length_cons, List.length_cons, h7], fun k z hk => ?_⟩
    · unfold compL
      simp only [gNm, tYesD, h1, if_pos h2, h5]
    · cases k with
      | zero => simp at hk; rw [← hk]; exact h4
      | succ k =>
        have q := h8 k z (by simpa using hk)
        rw [show k0 + (k + 1) = k0 + 1 + k by omega]
        exact q

theorem compL_id {j : Nat} {chk : Sto → Prop} {ρ : En} {S : Sto} (hc : chk S) (hj : j < ρ.length) (xs : List D) : compL (gNm j) tYesD (eV j) chk ρ xs S = some (xs, S) := by
  have h := compL_map (i := j) (e := eV j) (chk := chk) (ρ := ρ) (S := S) hc (fun d => d) (fun d => d) xs fun x _ => by
    simp [eV, List.getElem?_set_self hj]
  rwa [List.map_id'] at h
/-- [y for x in rows for y in x] -/
theorem compL2_flat {i j : Nat} {ρ : En} {S : Sto} (hi : i < ρ.length) (hj : j < ρ.length) (hij : i ≠ j) : ∀ rows : List (List D), compL2 (gNm i) tYesD (iSeq (eV i)) (gNm j) tYesD (eV j) [j] (fun _ => True) ρ (rows.map D.tup) S = some (rows.flatten, S)
  | [] => rfl
  | r :: rows => by
    have ih := compL2_flat hi hj hij rows (S := S)
    rw [List.map_cons, List.flatten_cons]
    unfold compL2
    have h1 : iSeq (eV i) (ρ.set i (some (.tup r))) S = some (r, fun _ => True, S) := by simp [iSeq, eV, List.getElem?_set_self hi]
    have h2 := compL_id (j := j) (chk := fun _ => True) (ρ := wipeD (ρ.set i (some (.tup r))) [j]) (S := S) trivial (by simpa [wipeD] using hj) r
    simp only [gNm, tYesD, h1, h2, if_true, ih]

/-! ### steps -/
theorem fnD_rt {n m : Nat} {fin : D → Sto → Sto → Option (D × Sto)} {t : RS} {ds : List D} {S S1 : Sto} {d : D} (hl : ds.length = n) (h : t (startD m ds) S = some (.rt d S1)) : fnD n m fin t ds S = fin d S S1 := by
  unfold fnD
  rw [if_pos hl, h]
theorem fnD_nx {n m : Nat} {fin : D → Sto → Sto → Option (D × Sto)} {t : RS} {ds : List D} {ρ : En} {S S1 : Sto} (hl : ds.length = n) (h : t (startD m ds) S = some (.nx ρ S1)) : fnD n m fin t ds S = fin .non S S1 := by
  unfold fnD
  rw [if_pos hl, h]
theorem sSeq_nx {a b : RS} {ρ ρ1 : En} {S S1 : Sto} (h : a ρ S = some (.nx ρ1 S1)) : sSeq a b ρ S = b ρ1 S1 := by
  unfold sSeq
  rw [h]
theorem sSeq_rt {a b : RS} {ρ : En} {S S1 : Sto} {d : D} (h : a ρ S = some (.rt d S1)) : sSeq a b ρ S = some (.rt d S1) := by
  unfold sSeq
  rw [h]
theorem sSet_ok {i : Nat} {e : RE} {ρ : En} {S S1 : Sto} {d : D} (h : e ρ S = some (d, S1)) : sSet i e ρ S = some (.nx (ρ.set i (some d)) S1) := by
  unfold sSet
  rw [h]
theorem sRet_ok {e : RE} {ρ : En} {S S1 : Sto} {d : D} (h : e ρ S = some (d, S1)) : sRet e ρ S = some (.rt d S1) := by
  unfold sRet
  rw [h]
theorem sExpr_ok {e : RE} {ρ : En} {S S1 : Sto} {d : D} (h : e ρ S = some (d, S1)) : sExpr e ρ S = some (.nx ρ S1) := by
  unfold sExpr
  rw [h]
theorem sIf_t {c : RT} {a b : RS} {ρ : En} {S S1 : Sto} (h : c ρ S = some (true, S1)) : sIf c a b ρ S = a ρ S1 := by
  unfold sIf
  rw [h]
theorem sIf_f {c : RT} {a b : RS} {ρ : En} {S S1 : Sto} (h : c ρ S = some (false, S1)) : sIf c a b ρ S = b ρ S1 := by
  unfold sIf
  rw [h]
theorem sFor_ok {it : RI} {g : RG} {b : RS} {ρ : En} {S S1 : Sto} {ds : List D} {chk : Sto → Prop} (h : it ρ S = some (ds, chk, S1)) : sFor it g b ρ S = forL g b chk ds ρ S1 := by
  unfold sFor
  rw [h]
theorem eLc_ok {mk : List D → Sto → Option (D × Sto)} {it : RI} {g : RG} {c : RT} {e : RE} {vs : List Nat} {ρ : En} {S S1 S2 : Sto} {ds ys : List D} {chk : Sto → Prop} (h : it ρ S = some (ds, chk, S1)) (h2 : compL g c e chk (wipeD ρ vs) ds S1 = some (ys, S2)) : eLc mk it g c e vs ρ S = mk ys S2 := by
  unfold eLc
  simp only [h, h2]
theorem eLc2_ok {mk : List D → Sto → Option (D × Sto)} {it it1 : RI} {g g1 : RG} {c c1 : RT} {e : RE} {vs vs1 : List Nat} {ρ : En} {S S1 S2 : Sto} {ds ys : List D} {chk : Sto → Prop} (h : it ρ S = some (ds, chk, S1)) (h2 : compL2 g c it1 g1 c1 e vs1 chk (wipeD ρ vs) ds S1 = some (ys, S2)) : eLc2 mk it g c it1 g1 c1 e vs vs1 ρ S = mk ys S2 := by
  unfold eLc2
  simp only [h, h2]
theorem eA_ok {f : List D → Sto → Option (D × Sto)} {a : RA} {ρ : En} {S S1 : Sto} {xs : List D} (h : a ρ S = some (xs, S1)) : eA f a ρ S = f xs S1 := by
  unfold eA
  rw [h]
theorem aCons_ok {a : RE} {r : RA} {ρ : En} {S S1 S2 : Sto} {x : D} {xs : List D} (h : a ρ S = some (x, S1)) (h2 : r ρ S1 = some (xs, S2)) : aCons a r ρ S = some (x :: xs, S2) := by
  unfold aCons
  rw [h]
  simp only [h2]
theorem fTup_ok {xs : List D} {S : Sto} (h : xs.length ≤ 1000000) : fTup xs S = some (.tup xs, S) := if_pos h
theorem fLst_ok {xs : List D} {S : Sto} (h : xs.length ≤ 1000000) : fLst xs S = some (.lst xs, S) := if_pos h
theorem fObj_ok {xs : List D} {S : Sto} (h : xs.length ≤ 1000000) : fObj xs S = some (.obj S.length, S ++ [.lst xs]) := if_pos h
theorem closL_map {α : Type} {n : Nat} {f : α → D} (h : ∀ x, clos n (f x) = true) : ∀ xs : List α, closL n (xs.map f) = true
  | [] => rfl
  | x :: xs => by
    show (clos n (f x) && closL n (xs.map f)) = true
    rw [h x, closL_map h xs]; rfl
theorem clos_tup {n : Nat} {xs : List D} (h : closL n xs = true) : clos n (.tup xs) = true := h
theorem clos_lst {n : Nat} {xs : List D} (h : closL n xs = true) : clos n (.lst xs) = true := h
theorem closL_nil {n : Nat} : closL n [] = true := rfl
theorem closL_cons {n : Nat} {x : D} {xs : List D} (h : clos n x = true) (h2 : closL n xs = true) : closL n (x :: xs) = true := by
  show (clos n x && closL n xs) = true
  rw [h, h2]; rfl
theorem clos_int {n : Nat} {i : Int} : clos n (.int i) = true := rfl
/-- a value without lists of the store -/
def isObj : D → Bool | .obj _ => true | _ => false
theorem frz_self {n : Nat} {d : D} {S : Sto} (h : clos n d = true) (ho : isObj d = false) : frzD n d S = some d := by
  cases d <;> simp_all [frzD, isObj]
theorem finP_self {d : D} {S : Sto} (h : clos S.length d = true) (ho : isObj d = false) : finP d S S = some (d, S) := by
  unfold finP
  rw [frz_self h ho]
  simp only [List.take_length, if_true]
theorem finP_drop {d : D} {S T : Sto} (h : clos S.length d = true) (ho : isObj d = false) : finP d S (S ++ T) = some (d, S) := by
  unfold finP
  rw [frz_self h ho]
  simp only [List.take_left', if_true]

/-! ### == -/
open PySem.SeqAt (shaped) in
theorem shaped_of {p : PyData} (h : p.canLay0 = true) (hd : p.depth ≤ 64) : shaped p = true := by
  unfold shaped
  rw [h, decide_eq_true hd]; rfl
/-- d is the data p, of depth n at most -/
structure Da (n : Nat) (d : D) (p : PyData) : Prop where
  eq : toP d = some p
  lay : p.canLay0 = true
  dep : p.depth ≤ n
structure DaL (n : Nat) (ds : List D) (ps : List PyData) : Prop where
  eq : toPs ds = some ps
  lay : PyData.canLayAll0 ps = true
  dep : PyData.depthAll ps ≤ n
theorem Da.int {n : Nat} {i : Int} : Da n (.int i) (.int i) := ⟨rfl, rfl, Nat.zero_le _⟩
theorem Da.bl {n : Nat} {b : Bool} : Da n (.bl b) (.bool b) := ⟨rfl, rfl, Nat.zero_le _⟩
theorem Da.non {n : Nat} : Da n .non .none := ⟨rfl, rfl, Nat.zero_le _⟩
theorem DaL.nil {n : Nat} : DaL n [] [] := ⟨rfl, rfl, Nat.zero_le _⟩
theorem DaL.cons {n : Nat} {d : D} {p : PyData} {ds : List D} {ps : List PyData} (h : Da n d p) (t : DaL n ds ps) : DaL n (d :: ds) (p :: ps) :=
  ⟨by simp only [toPs, h.eq, t.eq], by show (p.canLay0 && PyData.canLayAll0 ps) = true; rw [h.lay, t.lay]; rfl, Nat.max_le.mpr ⟨h.dep, t.dep⟩⟩
theorem DaL.tup {n : Nat} {ds : List D} {ps : List PyData} (h : DaL n ds ps) : Da (n + 1) (.tup ds) (.tuple ps) := ⟨by simp only [toP, h.eq], h.lay, Nat.succ_le_succ h.dep⟩
theorem DaL.lst {n : Nat} {ds : List D} {ps : List PyData} (h : DaL n ds ps) : Da (n + 1) (.lst ds) (.list ps) := ⟨by simp only [toP, h.eq], h.lay, Nat.succ_le_succ h.dep⟩
theorem DaL.map {α : Type} {n : Nat} {f : α → D} {g : α → PyData} (h : ∀ x, Da n (f x) (g x)) : ∀ xs : List α, DaL n (xs.map f) (xs.map g)
  | [] => .nil
  | x :: xs => .cons (h x) (DaL.map h xs)
theorem DaL.all {n : Nat} : ∀ {ds : List D}, (∀ d ∈ ds, ∃ p, Da n d p) → ∃ ps, DaL n ds ps
  | [], _ => ⟨[], .nil⟩
  | d :: ds, h => by
    obtain ⟨p, hp⟩ := h d List.mem_cons_self
    obtain ⟨ps, hps⟩ := DaL.all fun x hx => h x (List.mem_cons_of_mem _ hx)
    exact ⟨p :: ps, .cons hp hps⟩
theorem Da.mono {n m : Nat} {d : D} {p : PyData} (h : Da n d p) (hm : n ≤ m) : Da m d p := ⟨h.eq, h.lay, Nat.le_trans h.dep hm⟩
theorem fEq_da {n m : Nat} {x y : D} {p q : PyData} {S : Sto} (h : Da n x p) (h' : Da m y q) (hn : n ≤ 64 := by decide) (hm : m ≤ 64 := by decide) : fEq x y S = some (.bl (PyData.eqv p q)) := by
  unfold fEq
  simp only [h.eq, h'.eq, shaped_of h.lay (Nat.le_trans h.dep hn), shaped_of h'.lay (Nat.le_trans h'.dep hm), and_self, if_true]
theorem fNe_da {n m : Nat} {x y : D} {p q : PyData} {S : Sto} (h : Da n x p) (h' : Da m y q) (hn : n ≤ 64 := by decide) (hm : m ≤ 64 := by decide) : fNe x y S = some (.bl (!PyData.eqv p q)) := by
  unfold fNe
  simp only [h.eq, h'.eq, shaped_of h.lay (Nat.le_trans h.dep hn), shaped_of h'.lay (Nat.le_trans h'.dep hm), and_self, if_true]
mutual
theorem eqv_self : ∀ p : PyData, p.canLay0 = true → PyData.eqv p p = true
  | .none, _ => rfl
  | .bool b, _ => by simp [PyData.eqv]
  | .int b, _ => by simp [PyData.eqv]
  | .str b, _ => by simp [PyData.eqv]
  | .list xs, h => by
    show PyData.eqvAll xs xs = true
    exact eqvAll_self xs h
  | .tuple xs, h => by
    show PyData.eqvAll xs xs = true
    exact eqvAll_self xs h
  | .dict _, h => by cases h
theorem eqvAll_self : ∀ ps : List PyData, PyData.canLayAll0 ps = true → PyData.eqvAll ps ps = true
  | [], _ => rfl
  | p :: ps, h => by
    have h : (p.canLay0 && PyData.canLayAll0 ps) = true := h
    rw [Bool.and_eq_true] at h
    show (PyData.eqv p p && PyData.eqvAll ps ps) = true
    rw [eqv_self p h.1, eqvAll_self ps h.2]; rfl
end
@[simp] theorem fEq_int (a b : Int) (S : Sto) : fEq (.int a) (.int b) S = some (.bl (decide (a = b))) := by
  rw [fEq_da (n := 0) (m := 0) .int .int]
  simp only [PyData.eqv]
  congr 2
@[simp] theorem fNe_int (a b : Int) (S : Sto) : fNe (.int a) (.int b) S = some (.bl (!decide (a = b))) := by
  rw [fNe_da (n := 0) (m := 0) .int .int]
  simp only [PyData.eqv]
  congr 2
@[simp] theorem fEq_bl (a b : Bool) (S : Sto) : fEq (.bl a) (.bl b) S = some (.bl (a == b)) := by
  rw [fEq_da (n := 0) (m := 0) .bl .bl]
  simp only [PyData.eqv]
theorem fEq_self {n : Nat} {d : D} {p : PyData} {S : Sto} (h : Da n d p) (hn : n ≤ 64 := by decide) : fEq d d S = some (.bl true) := by
  rw [fEq_da h h hn hn, eqv_self p h.lay]
theorem fNe_self {n : Nat} {d : D} {p : PyData} {S : Sto} (h : Da n d p) (hn : n ≤ 64 := by decide) : fNe d d S = some (.bl false) := by
  rw [fNe_da h h hn hn, eqv_self p h.lay]; rfl
theorem eqvAll_nil : ∀ ps : List PyData, PyData.eqvAll ps [] = ps.isEmpty
  | [] => rfl
  | _ :: _ => rfl
theorem toPs_len : ∀ {ds : List D} {ps : List PyData}, toPs ds = some ps → ps.isEmpty = ds.isEmpty
  | [], ps, h => by cases h; rfl
  | d :: ds, ps, h => by
    simp only [toPs] at h
    split at h
    · split at h
      · cases h; rfl
      · cases h
    · cases h
theorem fEq_tnil {n : Nat} {ds : List D} {ps : List PyData} {S : Sto} (h : DaL n ds ps) (hn : n < 64 := by decide) : fEq (.tup ds) (.tup []) S = some (.bl ds.isEmpty) := by
  rw [fEq_da h.tup (DaL.tup (n := 0) .nil) (by omega) (by decide)]
  show some (D.bl (PyData.eqvAll ps [])) = _
  rw [eqvAll_nil, toPs_len h.eq]
theorem fNe_tnil {n : Nat} {ds : List D} {ps : List PyData} {S : Sto} (h : DaL n ds ps) (hn : n < 64 := by decide) : fNe (.tup ds) (.tup []) S = some (.bl (!ds.isEmpty)) := by
  rw [fNe_da h.tup (DaL.tup (n := 0) .nil) (by omega) (by decide)]
  show some (D.bl (!PyData.eqvAll ps [])) = _
  rw [eqvAll_nil, toPs_len h.eq]

/-! ### sizes -/
/-- less than n bits -/
def Bt (n : Nat) (i : Int) : Prop := i.natAbs < 2 ^ n
theorem Bt.mono {n m : Nat} {i : Int} (h : Bt n i) (hm : n ≤ m) : Bt m i := Nat.lt_of_lt_of_le h (Nat.pow_le_pow_right (by omega) hm)
theorem Bt.mul {n m : Nat} {i j : Int} (h : Bt n i) (h' : Bt m j) : Bt (n + m) (i * j) := by
  unfold Bt at *
  rw [Int.natAbs_mul, Nat.pow_add]
  exact Nat.mul_lt_mul'' h h'
theorem Bt.add {n m : Nat} {i j : Int} (h : Bt n i) (h' : Bt m j) : Bt (max n m + 1) (i + j) := by
  have a := h.mono (Nat.le_max_left n m)
  have b := h'.mono (Nat.le_max_right n m)
  unfold Bt at *
  rw [Nat.pow_succ]
  omega
theorem Bt.le {n : Nat} {i j : Int} (h : Bt n j) (h0 : 0 ≤ i) (hle : i ≤ j) : Bt n i := by
  unfold Bt at *
  omega
theorem Bt.of_nat {n k : Nat} (h : k < 2 ^ n) : Bt n (k : Int) := by unfold Bt; omega
theorem mul_ok {n m : Nat} {i j : Int} (h : Bt n i) (h' : Bt m j) (hs : n + m + 2 ≤ 1000000) : MulC i j :=
  .inl <| L2.wide_mul (a := n + 1) (b := m + 1) (h.mono (by omega)) (h'.mono (by omega)) (by omega) (by omega) (by omega)
theorem mul_sm {i j : Int} (h : j.natAbs < 18446744073709551616) : MulC i j := .inr (.inr (by omega))
theorem mul_sm' {i j : Int} (h : i.natAbs < 18446744073709551616) : MulC i j := .inr (.inl (by omega))
theorem div_ok {n : Nat} {i j : Int} (h0 : 0 < j) (h : Bt n j) (hs : n ≤ 8999) : L2.CDivW i j ∨ L2.CDivN i j :=
  .inl (L2.wide_div (b := n + 1) h0 (h.mono (by omega)) (by omega) (by omega))
theorem div_sm {i j : Int} (h0 : j ≠ 0) (h : j.natAbs < 1073741824) : L2.CDivW i j ∨ L2.CDivN i j := .inr ⟨h0, h⟩

/-! ### numbers -/
theorem fmod_nat (x y : Nat) : Int.fmod (x : Int) (y : Int) = ((x % y : Nat) : Int) := by
  rw [Int.fmod_eq_emod_of_nonneg _ (Int.natCast_nonneg _)]; rfl
theorem abs_nat (a : Int) : (if a < 0 then -a else a) = (a.natAbs : Int) := by split <;> omega
theorem gcd_ne {a b : Int} (h : b ≠ 0) : (Int.gcd a b : Int) ≠ 0 := by
  have := Int.gcd_pos_of_ne_zero_right a h
  omega
/-- a fraction in lowest terms -/
def dQ (q : Rat) : D := .tup [.int q.num, .int (q.den : Int)]
@[simp] theorem clos_dQ (n : Nat) (q : Rat) : clos n (dQ q) = true := rfl
theorem Da.dQ {n : Nat} {q : Rat} : Da (n + 1) (dQ q) (.tuple [.int q.num, .int (q.den : Int)]) := DaL.tup (.cons .int (.cons .int .nil))
theorem low_num (a b : Int) (h : 0 < b) : ((a : Rat) / (b : Rat)).num = a.fdiv (Int.gcd a b : Int) := by
  rw [← Rat.divInt_eq_div, Rat.num_divInt, Int.gcd_comm b a]
  have hd : (Int.gcd a b : Int) ∣ a := Int.gcd_dvd_left ..
  rw [Int.fdiv_eq_ediv_of_dvd hd, Int.sign_eq_one_of_pos h, Int.one_mul]
theorem low_den (a b : Int) (h : 0 < b) : (((a : Rat) / (b : Rat)).den : Int) = b.fdiv (Int.gcd a b : Int) := by
  rw [← Rat.divInt_eq_div, Rat.den_divInt, if_neg (by omega), Int.gcd_comm b a, Int.natCast_ediv]
  have hd : (Int.gcd a b : Int) ∣ b := Int.gcd_dvd_right ..
  rw [Int.fdiv_eq_ediv_of_dvd hd]
  congr 1
  omega
theorem gcd_bt {n : Nat} {a b : Int} (h : 0 < b) (hb : Bt n b) : Bt n (Int.gcd a b : Int) := by
  have hd : Int.gcd a b ∣ b.natAbs := Int.gcd_dvd_natAbs_right a b
  have := Nat.le_of_dvd (by omega) hd
  unfold Bt at *
  omega
end DL

set_option maxRecDepth 100000
set_option maxHeartbeats 4000000
/-! what is computed, read forward: one rule a construct -/
namespace DL
open PySem
open Classical
structure Kt where
  rt : D → Sto → Prop
  bk : En → Sto → Prop
  ct : En → Sto → Prop
def wE (t : RE) (ρ : En) (S : Sto) (Q : D → Sto → Prop) : Prop := ∃ d S', t ρ S = some (d, S') ∧ Q d S'
def wT (t : RT) (ρ : En) (S : Sto) (Q : Bool → Sto → Prop) : Prop := ∃ d S', t ρ S = some (d, S') ∧ Q d S'
def wA (t : RA) (ρ : En) (S : Sto) (Q : List D → Sto → Prop) : Prop := ∃ d S', t ρ S = some (d, S') ∧ Q d S'
def wI (t : RI) (ρ : En) (S : Sto) (Q : List D → (Sto → Prop) → Sto → Prop) : Prop := ∃ ds chk S', t ρ S = some (ds, chk, S') ∧ Q ds chk S'
def wG (g : RG) (d : D) (ρ : En) (S : Sto) (Q : En → Sto → Prop) : Prop := ∃ ρ' S', g d ρ S = some (ρ', S') ∧ Q ρ' S'
def wGs (g : RGs) (ds : List D) (ρ : En) (S : Sto) (Q : En → Sto → Prop) : Prop := ∃ ρ' S', g ds ρ S = some (ρ', S') ∧ Q ρ' S'
def wF (f : List D → Sto → Option (D × Sto)) (ds : List D) (S : Sto) (Q : D → Sto → Prop) : Prop := ∃ d S', f ds S = some (d, S') ∧ Q d S'
def w1 (f : D → Sto → Option D) (x : D) (S : Sto) (Q : D → Prop) : Prop := ∃ z, f x S = some z ∧ Q z
def w2 (f : D → D → Sto → Option D) (x y : D) (S : Sto) (Q : D → Prop) : Prop := ∃ z, f x y S = some z ∧ Q z
def w2s (f : D → D → Sto → Option (D × Sto)) (x y : D) (S : Sto) (Q : D → Sto → Prop) : Prop := ∃ d S', f x y S = some (d, S') ∧ Q d S'
def wM (f : D → List D → Sto → Option (D × Sto)) (x : D) (ds : List D) (S : Sto) (Q : D → Sto → Prop) : Prop := ∃ d S', f x ds S = some (d, S') ∧ Q d S'
def wFin (fin : D → Sto → Sto → Option (D × Sto)) (d : D) (S S1 : Sto) (Q : D → Sto → Prop) : Prop := ∃ d' S', fin d S S1 = some (d', S') ∧ Q d' S'
def wTru (d : D) (S : Sto) (Q : Bool → Prop) : Prop := ∃ b, tru d S = some b ∧ Q b
def outK (N : En → Sto → Prop) (K : Kt) : Out → Prop
  | .nx ρ S => N ρ S
  | .rt d S => K.rt d S
  | .bk ρ S => K.bk ρ S
  | .ct ρ S => K.ct ρ S
def wS (t : RS) (ρ : En) (S : Sto) (N : En → Sto → Prop) (K : Kt) : Prop := ∃ o, t ρ S = some o ∧ outK N K o
section
variable {a b c e o : RE} {ra : RA} {ρ : En} {S : Sto} {Q : D → Sto → Prop} {N : En → Sto → Prop} {K : Kt} {d x y : D} {i j k : Nat}
theorem wE_mono {t : RE} {Q Q' : D → Sto → Prop} (h : wE t ρ S Q) (m : ∀ d S, Q d S → Q' d S) : wE t ρ S Q' := let ⟨d, S', e, q⟩ := h; ⟨d, S', e, m _ _ q⟩
theorem wF_mono {f : List D → Sto → Option (D × Sto)} {ds : List D} {Q Q' : D → Sto → Prop} (h : wF f ds S Q) (m : ∀ d S, Q d S → Q' d S) : wF f ds S Q' := let ⟨d, S', e, q⟩ := h; ⟨d, S', e, m _ _ q⟩
theorem wS_mono {t : RS} {N N' : En → Sto → Prop} (h : wS t ρ S N K) (m : ∀ ρ S, N ρ S → N' ρ S) : wS t ρ S N' K := by
  obtain ⟨o, e, q⟩ := h
  refine ⟨o, e, ?_⟩
  cases o <;> first | exact m _ _ q | exact q
theorem wF_eq {f : List D → Sto → Option (D × Sto)} {ds : List D} {S1 : Sto} (h : f ds S = some (d, S1)) (q : Q d S1) : wF f ds S Q := ⟨d, S1, h, q⟩
theorem wF_of {f : List D → Sto → Option (D × Sto)} {ds : List D} {S1 : Sto} (h : wF f ds S fun d' S' => d' = d ∧ S' = S1) : f ds S = some (d, S1) := by
  obtain ⟨_, _, e, rfl, rfl⟩ := h
  exact e
theorem wE_eq {t : RE} {S1 : Sto} (h : t ρ S = some (d, S1)) (q : Q d S1) : wE t ρ S Q := ⟨d, S1, h, q⟩
theorem wE_of {t : RE} {S1 : Sto} (h : wE t ρ S fun d' S' => d' = d ∧ S' = S1) : t ρ S = some (d, S1) := by
  obtain ⟨_, _, e, rfl, rfl⟩ := h
  exact e
theorem wS_eq {t : RS} {ρ1 : En} {S1 : Sto} (h : t ρ S = some (.nx ρ1 S1)) (q : N ρ1 S1) : wS t ρ S N K := ⟨_, h, q⟩
theorem wS_rt {t : RS} {S1 : Sto} (h : t ρ S = some (.rt d S1)) (q : K.rt d S1) : wS t ρ S N K := ⟨_, h, q⟩
theorem wS_bk {t : RS} {ρ1 : En} {S1 : Sto} (h : t ρ S = some (.bk ρ1 S1)) (q : K.bk ρ1 S1) : wS t ρ S N K := ⟨_, h, q⟩
theorem wS_ct {t : RS} {ρ1 : En} {S1 : Sto} (h : t ρ S = some (.ct ρ1 S1)) (q : K.ct ρ1 S1) : wS t ρ S N K := ⟨_, h, q⟩
/-! expressions -/
theorem wE_c (h : Q d S) : wE (eC d) ρ S Q := ⟨_, _, rfl, h⟩
theorem wE_v (e : ρ[i]? = some (some d)) (h : Q d S) : wE (eV i) ρ S Q := ⟨d, S, by simp [eV, e], h⟩
theorem wE_1 {f : D → Sto → Option D} (h : wE a ρ S fun x S1 => w1 f x S1 fun z => Q z S1) : wE (e1 f a) ρ S Q := by
  obtain ⟨x, S1, e1, z, e2, q⟩ := h
  exact ⟨z, S1, by simp only [DL.e1, e1, e2], q⟩
theorem wE_2 {f : D → D → Sto → Option D} (h : wE a ρ S fun x S1 => wE b ρ S1 fun y S2 => w2 f x y S2 fun z => Q z S2) : wE (e2 f a b) ρ S Q := by
  obtain ⟨x, S1, e1, y, S2, e2', z, e3, q⟩ := h
  exact ⟨z, S2, by simp only [e2, e1, e2', e3], q⟩
theorem wE_2s {f : D → D → Sto → Option (D × Sto)} (h : wE a ρ S fun x S1 => wE b ρ S1 fun y S2 => w2s f x y S2 Q) : wE (e2s f a b) ρ S Q := by
  obtain ⟨x, S1, e1, y, S2, e2', z, S3, e3, q⟩ := h
  exact ⟨z, S3, by simp only [e2s, e1, e2', e3], q⟩
theorem wE_A {f : List D → Sto → Option (D × Sto)} (h : wA ra ρ S fun xs S1 => wF f xs S1 Q) : wE (eA f ra) ρ S Q := by
  obtain ⟨x, S1, e1, z, S2, e2', q⟩ := h
  exact ⟨z, S2, by simp only [eA, e1, e2'], q⟩
theorem wA_nil {Q : List D → Sto → Prop} (h : Q [] S) : wA aNil ρ S Q := ⟨_, _, rfl, h⟩
theorem wA_cons {Q : List D → Sto → Prop} (h : wE a ρ S fun x S1 => wA ra ρ S1 fun xs S2 => Q (x :: xs) S2) : wA (aCons a ra) ρ S Q := by
  obtain ⟨x, S1, e1, z, S2, e2', q⟩ := h
  exact ⟨_, S2, by simp only [aCons, e1, e2'], q⟩
theorem wE_M {f : D → List D → Sto → Option (D × Sto)} (h : wE o ρ S fun x S1 => ∃ k xs, x = .obj k ∧ S1[k]? = some (.lst xs) ∧ wA ra ρ S1 fun ys S2 => wM f (.obj k) ys S2 Q) : wE (eM f o ra) ρ S Q := by
  obtain ⟨x, S1, e1, k, xs, rfl, e2, ys, S2, e3, z, S3, e4, q⟩ := h
  exact ⟨z, S3, by simp only [eM, e1, e2, e3, e4], q⟩
theorem wE_and (h : wE a ρ S fun x S1 => ∃ c, x = .bl c ∧ (c = true → wE b ρ S1 Q) ∧ (c = false → Q (.bl false) S1)) : wE (eAnd a b) ρ S Q := by
  obtain ⟨x, S1, e1, c, rfl, h1, h2⟩ := h
  cases c with
  | true => obtain ⟨z, S2, e2, q⟩ := h1 rfl; exact ⟨z, S2, by simp only [eAnd, e1, e2], q⟩
  | false => exact ⟨_, S1, by simp only [eAnd, e1], h2 rfl⟩
theorem wE_or (h : wE a ρ S fun x S1 => ∃ c, x = .bl c ∧ (c = true → Q (.bl true) S1) ∧ (c = false → wE b ρ S1 Q)) : wE (eOr a b) ρ S Q := by
  obtain ⟨x, S1, e1, c, rfl, h1, h2⟩ := h
  cases c with
  | false => obtain ⟨z, S2, e2, q⟩ := h2 rfl; exact ⟨z, S2, by simp only [eOr, e1, e2], q⟩
  | true => exact ⟨_, S1, by simp only [eOr, e1], h1 rfl⟩
theorem wE_if {t : RT} (h : wT t ρ S fun c S1 => (c = true → wE a ρ S1 Q) ∧ (c = false → wE b ρ S1 Q)) : wE (eIf t a b) ρ S Q := by
  obtain ⟨c, S1, e1, h1, h2⟩ := h
  cases c with
  | false => obtain ⟨z, S2, e2, q⟩ := h2 rfl; exact ⟨z, S2, by simp only [eIf, e1, e2], q⟩
  | true => obtain ⟨z, S2, e2, q⟩ := h1 rfl; exact ⟨z, S2, by simp only [eIf, e1, e2], q⟩
theorem wE_chain {f g : D → D → Sto → Option D} (h : wE a ρ S fun x S1 => wE b ρ S1 fun y S2 => w2 f x y S2 fun r => ∃ c', r = .bl c' ∧ (c' = true → wE c ρ S2 fun z S3 => w2 g y z S3 fun r => Q r S3) ∧ (c' = false → Q (.bl false) S2)) : wE (eChain f g a b c) ρ S Q := by
  obtain ⟨x, S1, e1, y, S2, e2, r, e3, c', rfl, h1, h2⟩ := h
  cases c' with
  | false => exact ⟨_, S2, by simp only [eChain, e1, e2, e3], h2 rfl⟩
  | true => obtain ⟨z, S3, e4, r, e5, q⟩ := h1 rfl; exact ⟨r, S3, by simp only [eChain, e1, e2, e3, e4, e5], q⟩
/-! tests -/
theorem wT_bl {Q : Bool → Sto → Prop} (h : wE a ρ S fun x S1 => ∃ c, x = .bl c ∧ Q c S1) : wT (tBl a) ρ S Q := by
  obtain ⟨x, S1, e1, c, rfl, q⟩ := h
  exact ⟨c, S1, by simp only [tBl, e1], q⟩
theorem wT_tru {Q : Bool → Sto → Prop} (h : wE a ρ S fun x S1 => wTru x S1 fun c => Q c S1) : wT (tTru a) ρ S Q := by
  obtain ⟨x, S1, e1, c, e2, q⟩ := h
  exact ⟨c, S1, by simp only [tTru, e1, e2], q⟩
theorem wT_not {t : RT} {Q : Bool → Sto → Prop} (h : wT t ρ S fun c S1 => Q (!c) S1) : wT (tNotD t) ρ S Q := by
  obtain ⟨x, S1, e1, q⟩ := h
  exact ⟨_, S1, by simp only [tNotD, e1], q⟩
theorem wT_and {t u : RT} {Q : Bool → Sto → Prop} (h : wT t ρ S fun c S1 => (c = true → wT u ρ S1 Q) ∧ (c = false → Q false S1)) : wT (tAndD t u) ρ S Q := by
  obtain ⟨c, S1, e1, h1, h2⟩ := h
  cases c with
  | false => exact ⟨_, S1, by simp only [tAndD, e1], h2 rfl⟩
  | true => obtain ⟨z, S2, e2, q⟩ := h1 rfl; exact ⟨z, S2, by simp only [tAndD, e1, e2], q⟩
theorem wT_or {t u : RT} {Q : Bool → Sto → Prop} (h : wT t ρ S fun c S1 => (c = true → Q true S1) ∧ (c = false → wT u ρ S1 Q)) : wT (tOrD t u) ρ S Q := by
  obtain ⟨c, S1, e1, h1, h2⟩ := h
  cases c with
  | true => exact ⟨_, S1, by simp only [tOrD, e1], h1 rfl⟩
  | false => obtain ⟨z, S2, e2, q⟩ := h2 rfl; exact ⟨z, S2, by simp only [tOrD, e1, e2], q⟩
theorem wT_if {c t u : RT} {Q : Bool → Sto → Prop} (h : wT c ρ S fun d S1 => (d = true → wT t ρ S1 Q) ∧ (d = false → wT u ρ S1 Q)) : wT (tIfD c t u) ρ S Q := by
  obtain ⟨d, S1, e1, h1, h2⟩ := h
  cases d with
  | true =>
    obtain ⟨x, S2, e2, q⟩ := h1 rfl
    exact ⟨x, S2, by simp only [tIfD, e1]; exact e2, q⟩
  | false =>
    obtain ⟨x, S2, e2, q⟩ := h2 rfl
    exact ⟨x, S2, by simp only [tIfD, e1]; exact e2, q⟩
theorem wT_yes {Q : Bool → Sto → Prop} (h : Q true S) : wT tYesD ρ S Q := ⟨_, _, rfl, h⟩
theorem wE_bl {t : RT} (h : wT t ρ S fun c S1 => Q (.bl c) S1) : wE (eBl t) ρ S Q := by
  obtain ⟨x, S1, e1, q⟩ := h
  exact ⟨_, S1, by simp only [eBl, e1], q⟩
/-! values -/
theorem w1_eq {f : D → Sto → Option D} {z : D} {Q : D → Prop} (e : f x S = some z) (h : Q z) : w1 f x S Q := ⟨z, e, h⟩
theorem w2_eq {f : D → D → Sto → Option D} {z : D} {Q : D → Prop} (e : f x y S = some z) (h : Q z) : w2 f x y S Q := ⟨z, e, h⟩
theorem w2s_eq {f : D → D → Sto → Option (D × Sto)} {z : D} {S1 : Sto} (e : f x y S = some (z, S1)) (h : Q z S1) : w2s f x y S Q := ⟨z, S1, e, h⟩
theorem wM_eq {f : D → List D → Sto → Option (D × Sto)} {ds : List D} {z : D} {S1 : Sto} (e : f x ds S = some (z, S1)) (h : Q z S1) : wM f x ds S Q := ⟨z, S1, e, h⟩
theorem wTru_eq {Q : Bool → Prop} {c : Bool} (e : tru d S = some c) (h : Q c) : wTru d S Q := ⟨c, e, h⟩
theorem w2_add {m n : Int} {Q : D → Prop} (h : Q (.int (m + n))) : w2 fAdd (.int m) (.int n) S Q := ⟨_, rfl, h⟩
theorem w2_sub {m n : Int} {Q : D → Prop} (h : Q (.int (m - n))) : w2 fSub (.int m) (.int n) S Q := ⟨_, rfl, h⟩
theorem w2_mul {m n : Int} {Q : D → Prop} (hc : MulC m n) (h : Q (.int (m * n))) : w2 fMul (.int m) (.int n) S Q := ⟨_, if_pos hc, h⟩
theorem w2_div {m n : Int} {Q : D → Prop} (hc : L2.CDivW m n ∨ L2.CDivN m n) (h : Q (.int (m.fdiv n))) : w2 fDiv (.int m) (.int n) S Q := ⟨_, if_pos hc, h⟩
theorem w2_mod {m n : Int} {Q : D → Prop} (hc : n ≠ 0) (h : Q (.int (m.fmod n))) : w2 fMod (.int m) (.int n) S Q := ⟨_, if_pos hc, h⟩
theorem w2_cmp {p : Int → Int → Bool} {m n : Int} {Q : D → Prop} (h : Q (.bl (p m n))) : w2 (fCmp p) (.int m) (.int n) S Q := ⟨_, rfl, h⟩
theorem w2_eqI {m n : Int} {Q : D → Prop} (h : Q (.bl (decide (m = n)))) : w2 fEq (.int m) (.int n) S Q := ⟨_, fEq_int m n S, h⟩
theorem w2_neI {m n : Int} {Q : D → Prop} (h : Q (.bl (!decide (m = n)))) : w2 fNe (.int m) (.int n) S Q := ⟨_, fNe_int m n S, h⟩
theorem w2s_plusI {mk : List D → Sto → Option (D × Sto)} {m n : Int} (h : Q (.int (m + n)) S) : w2s (fPlus mk) (.int m) (.int n) S Q := ⟨_, _, rfl, h⟩
theorem w2s_timesI {mk : List D → Sto → Option (D × Sto)} {m n : Int} (hc : MulC m n) (h : Q (.int (m * n)) S) : w2s (fTimes mk) (.int m) (.int n) S Q := ⟨_, _, by simp only [fTimes, if_pos hc], h⟩
theorem w2s_plusT {mk : List D → Sto → Option (D × Sto)} {xs ys : List D} (hc : xs.length + ys.length ≤ 1000000) (h : Q (.tup (xs ++ ys)) S) : w2s (fPlus mk) (.tup xs) (.tup ys) S Q := ⟨_, _, by simp only [fPlus, fCatT, if_pos hc], h⟩
theorem w2s_plusL {mk : List D → Sto → Option (D × Sto)} {xs ys : List D} (hx : lstD x S = some xs) (hy : lstD y S = some ys) (h : wF mk (xs ++ ys) S Q) : w2s (fPlus mk) x y S Q := by
  obtain ⟨z, S1, e, q⟩ := h
  refine ⟨z, S1, ?_, q⟩
  cases x <;> simp_all [fPlus, fCatL, lstD]
theorem w2_ix {xs : List D} {m : Int} {z : D} {Q : D → Prop} (hs : seqD x S = some xs) (h : L2.atI xs m = some z) (q : Q z) : w2 fIx x (.int m) S Q := ⟨z, by simp only [fIx, hs, h], q⟩
theorem atI_nat {α : Type} {xs : List α} {i : Nat} {z : α} (h : xs[i]? = some z) : L2.atI xs (i : Int) = some z := by
  unfold L2.atI L2.ixN
  have := (List.getElem?_eq_some_iff.mp h).1
  rw [if_pos (Int.natCast_nonneg i), if_pos (by omega)]
  simpa using h
theorem atI_int {α : Type} {xs : List α} {m : Int} {z : α} (h0 : 0 ≤ m) (h : xs[m.toNat]? = some z) : L2.atI xs m = some z := by
  have := atI_nat h
  rwa [show ((m.toNat : Nat) : Int) = m by omega] at this
theorem wF_len {xs : List D} (hs : seqD d S = some xs) (q : Q (.int xs.length) S) : wF fLen [d] S Q := by
  refine ⟨_, _, ?_, q⟩
  cases d <;> simp_all [fLen, seqD]
theorem wF_tup {ds : List D} (h : ds.length ≤ 1000000) (q : Q (.tup ds) S) : wF fTup ds S Q := ⟨_, _, if_pos h, q⟩
theorem wF_lst {ds : List D} (h : ds.length ≤ 1000000) (q : Q (.lst ds) S) : wF fLst ds S Q := ⟨_, _, if_pos h, q⟩
theorem wF_obj {ds : List D} (h : ds.length ≤ 1000000) (q : Q (.obj S.length) (S ++ [.lst ds])) : wF fObj ds S Q := ⟨_, _, if_pos h, q⟩
theorem wF_abs {m : Int} (q : Q (.int (m.natAbs : Int)) S) : wF fAbs [.int m] S Q := by
  refine ⟨_, _, ?_, q⟩
  simp only [fAbs]
  congr 3
  split <;> omega
theorem wF_int {m : Int} (q : Q (.int m) S) : wF fInt1 [.int m] S Q := ⟨_, _, rfl, q⟩
theorem wF_intB {m : Bool} (q : Q (.int (if m then 1 else 0)) S) : wF fInt1 [.bl m] S Q := ⟨_, _, rfl, q⟩
theorem wF_listF {xs : List D} (hs : seqD d S = some xs) (q : Q (.lst xs) S) : wF fListF [d] S Q := ⟨_, _, by simp only [fListF, hs], q⟩
theorem wF_listO {xs : List D} (hs : seqD d S = some xs) (q : Q (.obj S.length) (S ++ [.lst xs])) : wF fListO [d] S Q := ⟨_, _, by simp only [fListO, hs], q⟩
theorem wF_tupOf {xs : List D} (hs : seqD d S = some xs) (q : Q (.tup xs) S) : wF fTupOf [d] S Q := ⟨_, _, by simp only [fTupOf, hs], q⟩
theorem intsD_ok : ∀ ns : List Int, intsD (ns.map D.int) = some ns
  | [] => rfl
  | i :: r => by simp only [List.map_cons, intsD, intsD_ok r]
theorem wF_sum {ns : List Int} (hs : seqD d S = some (ns.map D.int)) (q : Q (.int ns.sum) S) : wF fSum [d] S Q := ⟨_, _, by simp only [fSum, hs, intsD_ok], q⟩
theorem wF_max2 {m n : Int} (q : Q (.int (max m n)) S) : wF fMax2 [.int m, .int n] S Q := by
  refine ⟨_, _, ?_, q⟩
  simp only [fMax2]
  congr 3
  split <;> omega
theorem wF_min2 {m n : Int} (q : Q (.int (min m n)) S) : wF fMin2 [.int m, .int n] S Q := by
  refine ⟨_, _, ?_, q⟩
  simp only [fMin2]
  congr 3
  split <;> omega
/-! methods of lists -/
theorem wM_append {ys : List D} (hk : S[k]? = some (.lst ys)) (hl : ys.length < 1000000) (q : Q .non (S.set k (.lst (ys ++ [y])))) : wM fAppend (.obj k) [y] S Q := ⟨_, _, by simp only [fAppend, hk, if_pos hl], q⟩
theorem wM_popAt {ys : List D} {m : Nat} (hk : S[k]? = some (.lst ys)) (hy : ys[m]? = some y) (hm : m ≤ 1000000) (q : Q y (S.set k (.lst (ys.eraseIdx m)))) : wM fPopAt (.obj k) [.int (m : Int)] S Q := by
  refine ⟨_, _, ?_, q⟩
  have hl := (List.getElem?_eq_some_iff.mp hy).1
  have : seqIndex? (m : Int) ys.length = some m := by
    unfold seqIndex?
    simp
    omega
  simp only [fPopAt, hk, this, hy]
  rw [if_pos (by omega)]
/-! statements -/
theorem wS_pass (h : N ρ S) : wS sPass ρ S N K := ⟨_, rfl, h⟩
theorem wS_break (h : K.bk ρ S) : wS sBreak ρ S N K := ⟨_, rfl, h⟩
theorem wS_cont (h : K.ct ρ S) : wS sCont ρ S N K := ⟨_, rfl, h⟩
theorem wS_seq {s t : RS} (h : wS s ρ S (fun ρ1 S1 => wS t ρ1 S1 N K) K) : wS (sSeq s t) ρ S N K := by
  obtain ⟨o, e, q⟩ := h
  cases o with
  | nx ρ1 S1 =>
    obtain ⟨o2, e2, q2⟩ := q
    exact ⟨o2, by simp only [sSeq, e, e2], q2⟩
  | rt d S1 => exact wS_rt (by simp only [sSeq, e]) q
  | bk d S1 => exact wS_bk (by simp only [sSeq, e]) q
  | ct d S1 => exact wS_ct (by simp only [sSeq, e]) q
theorem wS_set (h : wE e ρ S fun d S1 => N (ρ.set i (some d)) S1) : wS (sSet i e) ρ S N K := by
  obtain ⟨d, S1, e1, q⟩ := h
  exact wS_eq (by simp only [sSet, e1]) q
theorem wS_expr (h : wE e ρ S fun _ S1 => N ρ S1) : wS (sExpr e) ρ S N K := by
  obtain ⟨d, S1, e1, q⟩ := h
  exact wS_eq (by simp only [sExpr, e1]) q
theorem wS_ret (h : wE e ρ S K.rt) : wS (sRet e) ρ S N K := by
  obtain ⟨d, S1, e1, q⟩ := h
  exact wS_rt (by simp only [sRet, e1]) q
theorem wS_retN (h : K.rt .non S) : wS sRetN ρ S N K := ⟨_, rfl, h⟩
theorem wS_if {t : RT} {s u : RS} (h : wT t ρ S fun c S1 => (c = true → wS s ρ S1 N K) ∧ (c = false → wS u ρ S1 N K)) : wS (sIf t s u) ρ S N K := by
  obtain ⟨c, S1, e1, h1, h2⟩ := h
  cases c with
  | false => obtain ⟨z, e2, q⟩ := h2 rfl; exact ⟨z, by simp only [sIf, e1, e2], q⟩
  | true => obtain ⟨z, e2, q⟩ := h1 rfl; exact ⟨z, by simp only [sIf, e1, e2], q⟩
theorem wS_asg {g : RG} (h : wE e ρ S fun d S1 => wG g d ρ S1 N) : wS (sAsg e g) ρ S N K := by
  obtain ⟨d, S1, e1, ρ2, S2, e2, q⟩ := h
  exact wS_eq (by simp only [sAsg, e1, e2]) q
theorem wG_nm (h : N (ρ.set i (some d)) S) : wG (gNm i) d ρ S N := ⟨_, _, rfl, h⟩
theorem wG_tp {g : RGs} {n : Nat} {ds : List D} (hl : ds.length = n) (h : wGs g ds ρ S N) : wG (gTp n g) (.tup ds) ρ S N := by
  obtain ⟨ρ2, S2, e2, q⟩ := h
  exact ⟨_, _, by simp only [gTp, if_pos hl, e2], q⟩
theorem wGs_nil (h : N ρ S) : wGs gsNil [] ρ S N := ⟨_, _, rfl, h⟩
theorem wGs_cons {g : RG} {gs : RGs} {ds : List D} (h : wG g d ρ S fun ρ1 S1 => wGs gs ds ρ1 S1 N) : wGs (gsCons g gs) (d :: ds) ρ S N := by
  obtain ⟨ρ1, S1, e1, ρ2, S2, e2, q⟩ := h
  exact ⟨_, _, by simp only [gsCons, e1, e2], q⟩
theorem wS_par {ra : RA} (h : wA ra ρ S fun ds S1 => ∃ x y, ds = [x, y] ∧ N ((ρ.set i (some x)).set j (some y)) S1) : wS (sPar i j ra) ρ S N K := by
  obtain ⟨d, S1, e1, x, y, rfl, q⟩ := h
  exact wS_eq (by simp only [sPar, e1]) q
theorem wS_par3 {ra : RA} (h : wA ra ρ S fun ds S1 => ∃ x y z, ds = [x, y, z] ∧ N (((ρ.set i (some x)).set j (some y)).set k (some z)) S1) : wS (sPar3 i j k ra) ρ S N K := by
  obtain ⟨d, S1, e1, x, y, z, rfl, q⟩ := h
  exact wS_eq (by simp only [sPar3, e1]) q
theorem wS_aug {f : D → D → Sto → Option D} (hx : ρ[i]? = some (some x)) (h : wE e ρ S fun y S1 => w2 f x y S1 fun z => N (ρ.set i (some z)) S1) : wS (sAug i f e) ρ S N K := by
  obtain ⟨y, S1, e1, z, e2, q⟩ := h
  exact wS_eq (by simp only [sAug, hx, e1, e2]) q
/-- o[i] = d -/
theorem wG_ix {m : Int} {j : Nat} {ys : List D} (h : wE o ρ S fun x S1 => x = .obj k ∧ wE e ρ S1 fun z S2 => z = .int m ∧ S2[k]? = some (.lst ys) ∧ L2.ixN ys.length m = some j ∧ N ρ (S2.set k (.lst (ys.set j d)))) : wG (gIx o e) d ρ S N := by
  obtain ⟨x, S1, e1, rfl, z, S2, e2, rfl, h1, h2, q⟩ := h
  exact ⟨ρ, _, by simp only [gIx, e1, e2, h1, h2], q⟩
/-! walked things -/
theorem iSeq_seqC {S1 : Sto} {xs : List D} {chk : Sto → Prop} (e1 : a ρ S = some (d, S1)) (e2 : seqC d S1 = some (xs, chk)) : iSeq a ρ S = some (xs, chk, S1) := by
  simp only [iSeq, e1]
  cases d with
  | obj k =>
    simp only [seqC] at e2 ⊢
    cases hk : S1[k]? with
    | none => rw [hk] at e2; cases e2
    | some c => rw [hk] at e2; cases c <;> first | (cases e2; rfl) | cases e2
  | tup xs => cases e2; rfl
  | lst xs => cases e2; rfl
  | scr xs => cases e2; rfl
  | non => cases e2
  | bl _ => cases e2
  | int _ => cases e2
  | str _ => cases e2
theorem wI_seq {Q : List D → (Sto → Prop) → Sto → Prop} (h : wE a ρ S fun d S1 => ∃ xs chk, seqC d S1 = some (xs, chk) ∧ Q xs chk S1) : wI (iSeq a) ρ S Q := by
  obtain ⟨d, S1, e1, xs, chk, e2, q⟩ := h
  exact ⟨xs, chk, S1, iSeq_seqC e1 e2, q⟩
theorem rangeD_nat (n : Nat) : rangeD 0 n = (List.range n).map fun i : Nat => D.int (i : Int) := by
  unfold rangeD
  congr 1
  funext i
  rw [Int.zero_add]
theorem wI_range {n : Nat} {Q : List D → (Sto → Prop) → Sto → Prop} (h : wE a ρ S fun d S1 => d = .int (n : Int) ∧ n ≤ 1000000 ∧ Q ((List.range n).map fun i : Nat => D.int (i : Int)) (fun _ => True) S1) : wI (iRange1 a) ρ S Q := by
  obtain ⟨d, S1, e1, rfl, hn, q⟩ := h
  refine ⟨_, _, S1, ?_, q⟩
  simp only [iRange1, e1]
  rw [if_pos (by omega), Int.toNat_natCast, rangeD_nat]
theorem wI_range2 {m n : Nat} {Q : List D → (Sto → Prop) → Sto → Prop} (h : wE a ρ S fun d S1 => d = .int (m : Int) ∧ wE b ρ S1 fun d S2 => d = .int (n : Int) ∧ m ≤ 1000000 ∧ n ≤ 1000000 ∧ Q ((List.range (n - m)).map fun i : Nat => D.int ((m + i : Nat) : Int)) (fun _ => True) S2) : wI (iRange2 a b) ρ S Q := by
  obtain ⟨d, S1, e1, rfl, d, S2, e2, rfl, hm, hn, q⟩ := h
  refine ⟨_, _, S2, ?_, q⟩
  simp only [iRange2, e1, e2]
  rw [if_pos (by omega)]
  have : ((n : Int) - (m : Int)).toNat = n - m := by omega
  rw [this]
  unfold rangeD
  congr 2
theorem pairsZ_map {α β : Type} (f : α → D) (g : β → D) (xs : List α) (ys : List β) : pairsZ (xs.map f) (ys.map g) = (xs.zip ys).map fun p => .tup [f p.1, g p.2] := by
  unfold pairsZ
  rw [List.zip_map, List.map_map]
  rfl
theorem wI_zip {α β : Type} {f : α → D} {g : β → D} {us : List α} {vs : List β} {c1 c2 : Sto → Prop} {Q : List D → (Sto → Prop) → Sto → Prop} (h : wE a ρ S fun d S1 => wE b ρ S1 fun d' S2 => seqC d S2 = some (us.map f, c1) ∧ seqC d' S2 = some (vs.map g, c2) ∧ Q ((us.zip vs).map fun p => .tup [f p.1, g p.2]) (fun S => c1 S ∧ c2 S) S2) : wI (iZip (aCons a (aCons b aNil))) ρ S Q := by
  obtain ⟨d, S1, e1, d', S2, e2, h1, h2, q⟩ := h
  refine ⟨_, _, S2, ?_, q⟩
  simp only [iZip, aCons, aNil, e1, e2, h1, h2, pairsZ_map]
theorem pairsE_map {α : Type} (f : α → D) (xs : List α) : pairsE (xs.map f) = xs.zipIdx.map fun p => .tup [.int (p.2 : Int), f p.1] := by
  unfold pairsE
  apply List.ext_getElem
  · simp
  · intro i h1 h2
    simp
theorem wI_enum {α : Type} {f : α → D} {us : List α} {c1 : Sto → Prop} {Q : List D → (Sto → Prop) → Sto → Prop} (h : wE a ρ S fun d S1 => seqC d S1 = some (us.map f, c1) ∧ Q (us.zipIdx.map fun p => .tup [.int (p.2 : Int), f p.1]) c1 S1) : wI (iEnum (aCons a aNil)) ρ S Q := by
  obtain ⟨d, S1, e1, h1, q⟩ := h
  refine ⟨_, _, S1, ?_, q⟩
  simp only [iEnum, aCons, aNil, e1, h1, pairsE_map]
/-! loops -/
theorem forL_w {g : RG} {b : RS} {chk : Sto → Prop} (I : Nat → En → Sto → Prop) : ∀ (ds : List D) (k0 : Nat) (ρ : En) (S : Sto), I k0 ρ S →
    (∀ k d ρ S, ds[k]? = some d → I (k0 + k) ρ S → wG g d ρ S fun ρ1 S1 => wS b ρ1 S1 (fun ρ2 S2 => chk S2 ∧ I (k0 + k + 1) ρ2 S2) ⟨K.rt, N, fun ρ2 S2 => chk S2 ∧ I (k0 + k + 1) ρ2 S2⟩) →
    (∀ ρ S, I (k0 + ds.length) ρ S → N ρ S) → ∃ o, forL g b chk ds ρ S = some o ∧ outK N K o
  | [], k0, ρ, S, h, _, hn => ⟨_, rfl, hn ρ S h⟩
  | d :: ds, k0, ρ, S, h, hs, hn => by
    obtain ⟨ρ1, S1, h1, o, h2, q⟩ := hs 0 d ρ S rfl h
    have nxt : ∀ ρ2 S2, I (k0 + 1) ρ2 S2 → ∃ o, forL g b chk ds ρ2 S2 = some o ∧ outK N K o := fun ρ2 S2 h4 => by
      refine forL_w (g := g) (b := b) (chk := chk) I ds (k0 + 1) ρ2 S2 h4 (fun k d ρ S hk hi => ?_) fun ρ S hi => hn ρ S (by rw [List.length_cons, show k0 + (ds.length + 1) = k0 + 1 + ds.length by omega]; exact hi)
      have q := hs (k + 1) d ρ S hk (by rw [show k0 + (k + 1) = k0 + 1 + k by omega]; exact hi)
      rw [show k0 + (k + 1) + 1 = k0 + 1 + k + 1 by omega] at q
      exact q
    unfold forL
    simp only [h1, h2]
    cases o with
    | nx ρ2 S2 => simp only; rw [if_pos q.1]; exact nxt ρ2 S2 q.2
    | ct ρ2 S2 => simp only; rw [if_pos q.1]; exact nxt ρ2 S2 q.2
    | bk ρ2 S2 => exact ⟨_, rfl, q⟩
    | rt d S2 => exact ⟨_, rfl, q⟩
theorem wS_for {α : Type} {it : RI} {g : RG} {b : RS} (I : Nat → En → Sto → Prop) (h : wI it ρ S fun ds chk S1 => ∃ (xs : List α) (f : α → D), ds = xs.map f ∧ I 0 ρ S1 ∧
    (∀ k x ρ S, xs[k]? = some x → I k ρ S → wG g (f x) ρ S fun ρ1 S1 => wS b ρ1 S1 (fun ρ2 S2 => chk S2 ∧ I (k + 1) ρ2 S2) ⟨K.rt, N, fun ρ2 S2 => chk S2 ∧ I (k + 1) ρ2 S2⟩) ∧
    ∀ ρ S, I xs.length ρ S → N ρ S) : wS (sFor it g b) ρ S N K := by
  obtain ⟨ds, chk, S1, e1, xs, f, rfl, h0, hs, hn⟩ := h
  obtain ⟨o, e, q⟩ := forL_w (g := g) (b := b) (chk := chk) (K := K) (N := N) I (xs.map f) 0 ρ S1 h0 (fun k d ρ S hk hi => by
    rw [List.getElem?_map] at hk
    obtain ⟨x, hx, rfl⟩ := Option.map_eq_some_iff.mp hk
    rw [Nat.zero_add] at hi ⊢
    exact hs k x ρ S hx hi) (fun ρ S hi => hn ρ S (by simpa using hi))
  exact ⟨o, by simp only [sFor, e1, e], q⟩
/-- .. by the part that is taken -/
theorem wS_forP {α : Type} {it : RI} {g : RG} {b : RS} (I : List α → En → Sto → Prop) (h : wI it ρ S fun ds chk S1 => ∃ (xs : List α) (f : α → D), ds = xs.map f ∧ I [] ρ S1 ∧
    (∀ pre x post ρ S, xs = pre ++ x :: post → I pre ρ S → wG g (f x) ρ S fun ρ1 S1 => wS b ρ1 S1 (fun ρ2 S2 => chk S2 ∧ I (pre ++ [x]) ρ2 S2) ⟨K.rt, N, fun ρ2 S2 => chk S2 ∧ I (pre ++ [x]) ρ2 S2⟩) ∧
    ∀ ρ S, I xs ρ S → N ρ S) : wS (sFor it g b) ρ S N K := by
  obtain ⟨ds, chk, S1, e1, xs, f, hd, h0, hs, hn⟩ := h
  refine wS_for (α := α) (fun k ρ S => I (xs.take k) ρ S) ⟨ds, chk, S1, e1, xs, f, hd, h0, fun k x ρ S hk hi => ?_, fun ρ S hi => hn ρ S (by simpa using hi)⟩
  have e : xs = xs.take k ++ x :: xs.drop (k + 1) := by
    have hl := (List.getElem?_eq_some_iff.mp hk).1
    have hx := (List.getElem?_eq_some_iff.mp hk).2
    rw [← hx, List.getElem_cons_drop, List.take_append_drop]
  have e2 : xs.take (k + 1) = xs.take k ++ [x] := by
    rw [List.take_add_one, hk]
    rfl
  have := hs (xs.take k) x (xs.drop (k + 1)) ρ S e hi
  rw [e2]
  exact this
/-! comprehensions -/
theorem compL_w {α : Type} {g : RG} {c : RT} {e : RE} {chk : Sto → Prop} {f : α → D} {p : α → Bool} {r : α → D} {S : Sto} (hc : chk S) : ∀ xs : List α, (∀ x ∈ xs, wG g (f x) ρ S fun ρ1 S1 => S1 = S ∧ wT c ρ1 S fun b S2 => b = p x ∧ S2 = S ∧ (p x = true → wE e ρ1 S fun y S3 => y = r x ∧ S3 = S)) →
    compL g c e chk ρ (xs.map f) S = some ((xs.filter p).map r, S)
  | [], _ => rfl
  | x :: xs, hx => by
    have ih := compL_w (g := g) (c := c) (e := e) (f := f) (p := p) (r := r) hc xs fun y hy => hx y (List.mem_cons_of_mem _ hy)
    obtain ⟨ρ1, S1, h1, rfl, b, S2, h2, rfl, rfl, h3⟩ := hx x List.mem_cons_self
    rw [List.map_cons, List.filter_cons]
    unfold compL
    simp only [h1, h2]
    cases hp : p x with
    | true =>
      obtain ⟨y, S3, h4, rfl, rfl⟩ := h3 hp
      simp only [h4, if_pos hc, ih, if_true, List.map_cons]
    | false =>
      simp only [if_pos hc, ih]
      simp
theorem wE_lcF {α : Type} {mk : List D → Sto → Option (D × Sto)} {it : RI} {g : RG} {c : RT} {vs : List Nat} (h : wI it ρ S fun ds chk S1 => ∃ (xs : List α) (f : α → D) (p : α → Bool) (r : α → D), ds = xs.map f ∧ chk S1 ∧
    (∀ x ∈ xs, wG g (f x) (wipeD ρ vs) S1 fun ρ1 S2 => S2 = S1 ∧ wT c ρ1 S1 fun b S2 => b = p x ∧ S2 = S1 ∧ (p x = true → wE e ρ1 S1 fun y S3 => y = r x ∧ S3 = S1)) ∧ wF mk ((xs.filter p).map r) S1 Q) : wE (eLc mk it g c e vs) ρ S Q := by
  obtain ⟨ds, chk, S1, e1, xs, f, p, r, rfl, hc, hx, z, S2, e2, q⟩ := h
  exact ⟨z, S2, by simp only [eLc, e1, compL_w hc xs hx, e2], q⟩
theorem wE_lc {α : Type} {mk : List D → Sto → Option (D × Sto)} {it : RI} {g : RG} {vs : List Nat} (h : wI it ρ S fun ds chk S1 => ∃ (xs : List α) (f : α → D) (r : α → D), ds = xs.map f ∧ chk S1 ∧
    (∀ x ∈ xs, wG g (f x) (wipeD ρ vs) S1 fun ρ1 S2 => S2 = S1 ∧ wE e ρ1 S1 fun y S3 => y = r x ∧ S3 = S1) ∧ wF mk (xs.map r) S1 Q) : wE (eLc mk it g tYesD e vs) ρ S Q := by
  obtain ⟨ds, chk, S1, e1, xs, f, r, rfl, hc, hx, q⟩ := h
  refine wE_lcF (α := α) ⟨_, chk, S1, e1, xs, f, fun _ => true, r, rfl, hc, fun x hm => ?_, by rw [List.filter_eq_self.mpr fun _ _ => rfl]; exact q⟩
  obtain ⟨ρ1, S2, h1, h2, h3⟩ := hx x hm
  exact ⟨ρ1, S2, h1, h2, true, S1, rfl, rfl, rfl, fun _ => h3⟩
/-- .. whose items change the store -/
theorem compL_wI {α β : Type} {g : RG} {e : RE} {chk : Sto → Prop} {f : α → D} {r : β → D} (I : Nat → Sto → Prop) (P : Nat → β → Prop) : ∀ (xs : List α) (k0 : Nat) (S : Sto), I k0 S →
    (∀ k x S, xs[k]? = some x → I (k0 + k) S → wG g (f x) ρ S fun ρ1 S1 => wE e ρ1 S1 fun y S2 => ∃ z, y = r z ∧ P (k0 + k) z ∧ chk S2 ∧ I (k0 + k + 1) S2) →
    ∃ (zs : List β) (S' : Sto), compL g tYesD e chk ρ (xs.map f) S = some (zs.map r, S') ∧ I (k0 + xs.length) S' ∧ zs.length = xs.length ∧ ∀ k z, zs[k]? = some z → P (k0 + k) z
  | [], k0, S, h, _ => ⟨[], S, rfl, h, rfl, fun k y hk => by simp at hk⟩
  | x :: xs, k0, S, h, hs => by
    obtain ⟨ρ1, S1, h1, y, S2, h2, z, rfl, hz, hc, hi⟩ := hs 0 x S rfl h
    obtain ⟨zs, S', h5, h6, h7, h8⟩ := compL_wI (g := g) (e := e) (chk := chk) (f := f) (r := r) I P xs (k0 + 1) S2 hi fun k x S hk hi => by
      have q := hs (k + 1) x S hk (by rw [show k0 + (k + 1) = k0 + 1 + k by omega]; exact hi)
      rw [show k0 + (k + 1) = k0 + 1 + k by omega] at q
      exact q
    refine ⟨z :: zs, S', ?_, by rw [List.length_cons, show k0 + (xs.length + 1) = k0 + 1 + xs.length by omega]; exact h6, by rw [List.length_cons, List.length_cons, h7], fun k w hk => ?_⟩
    · rw [List.map_cons, List.map_cons]
      unfold compL
      simp only [h1, tYesD, h2, if_pos hc, h5]
    · cases k with
      | zero => simp at hk; rw [← hk]; exact hz
      | succ k =>
        have q := h8 k w (by simpa using hk)
        rw [show k0 + (k + 1) = k0 + 1 + k by omega]
        exact q
theorem wE_lcI {α β : Type} {mk : List D → Sto → Option (D × Sto)} {it : RI} {g : RG} {vs : List Nat} (I : Nat → Sto → Prop) (r : β → D) (P : Nat → β → Prop) (h : wI it ρ S fun ds chk S1 => ∃ (xs : List α) (f : α → D), ds = xs.map f ∧ I 0 S1 ∧
    (∀ k x S, xs[k]? = some x → I k S → wG g (f x) (wipeD ρ vs) S fun ρ1 S1 => wE e ρ1 S1 fun y S2 => ∃ z, y = r z ∧ P k z ∧ chk S2 ∧ I (k + 1) S2) ∧
    ∀ (zs : List β) S', I xs.length S' → zs.length = xs.length → (∀ k z, zs[k]? = some z → P k z) → wF mk (zs.map r) S' Q) : wE (eLc mk it g tYesD e vs) ρ S Q := by
  obtain ⟨ds, chk, S1, e1, xs, f, rfl, h0, hs, hq⟩ := h
  obtain ⟨zs, S', e2, hi, hl, hp⟩ := compL_wI (ρ := wipeD ρ vs) (g := g) (e := e) (chk := chk) (f := f) (r := r) I P xs 0 S1 h0 fun k x S hk hi => by
    rw [Nat.zero_add] at hi ⊢
    exact hs k x S hk hi
  rw [Nat.zero_add] at hi
  obtain ⟨z, S2, e3, q⟩ := hq zs S' hi hl fun k z hz => by simpa using hp k z hz
  exact ⟨z, S2, by simp only [eLc, e1, e2, e3], q⟩
/-- two fors -/
theorem compL2_w {α β : Type} {g g1 : RG} {c c1 : RT} {it1 : RI} {e : RE} {vs1 : List Nat} {chk : Sto → Prop} {f : α → D} {r : α → List D} {S : Sto} (hc : chk S) : ∀ xs : List α, (∀ x ∈ xs, wG g (f x) ρ S fun ρ1 S1 => S1 = S ∧ wT c ρ1 S fun b S2 => b = true ∧ S2 = S ∧ wI it1 ρ1 S fun ds1 chk1 S3 => S3 = S ∧ compL g1 c1 e chk1 (wipeD ρ1 vs1) ds1 S = some (r x, S)) →
    compL2 g c it1 g1 c1 e vs1 chk ρ (xs.map f) S = some ((xs.map r).flatten, S)
  | [], _ => rfl
  | x :: xs, hx => by
    have ih := compL2_w (α := α) (β := β) (g := g) (c := c) (e := e) (f := f) (r := r) hc xs fun y hy => hx y (List.mem_cons_of_mem _ hy)
    obtain ⟨ρ1, S1, h1, rfl, b, S2, h2, rfl, rfl, ds1, chk1, S3, h3, rfl, h4⟩ := hx x List.mem_cons_self
    rw [List.map_cons, List.map_cons, List.flatten_cons]
    unfold compL2
    simp only [h1, h2, h3, h4, if_pos hc, ih]
theorem wE_lc2 {α : Type} {β : Type} {mk : List D → Sto → Option (D × Sto)} {it it1 : RI} {g g1 : RG} {vs vs1 : List Nat} (h : wI it ρ S fun ds chk S1 => ∃ (xs : List α) (f : α → D) (ys : α → List β) (r : α → β → D), ds = xs.map f ∧ chk S1 ∧
    (∀ x ∈ xs, wG g (f x) (wipeD ρ vs) S1 fun ρ1 S2 => S2 = S1 ∧ wI it1 ρ1 S1 fun ds1 chk1 S3 => S3 = S1 ∧ ∃ f1 : β → D, ds1 = (ys x).map f1 ∧ chk1 S1 ∧ ∀ y ∈ ys x, wG g1 (f1 y) (wipeD ρ1 vs1) S1 fun ρ2 S4 => S4 = S1 ∧ wE e ρ2 S1 fun d S5 => d = r x y ∧ S5 = S1) ∧
    wF mk ((xs.map fun x => (ys x).map (r x)).flatten) S1 Q) : wE (eLc2 mk it g tYesD it1 g1 tYesD e vs vs1) ρ S Q := by
  obtain ⟨ds, chk, S1, e1, xs, f, ys, r, rfl, hc, hx, z, S2, e2, q⟩ := h
  refine ⟨z, S2, ?_, q⟩
  have := compL2_w (β := β) (ρ := wipeD ρ vs) (g := g) (c := tYesD) (it1 := it1) (g1 := g1) (c1 := tYesD) (e := e) (vs1 := vs1) (chk := chk) (f := f) (r := fun x => (ys x).map (r x)) hc xs fun x hm => by
    obtain ⟨ρ1, S2, h1, rfl, ds1, chk1, S3, h3, rfl, f1, rfl, hc1, hy⟩ := hx x hm
    refine ⟨ρ1, S3, h1, rfl, true, S3, rfl, rfl, rfl, _, chk1, S3, h3, rfl, ?_⟩
    have := compL_w (ρ := wipeD ρ1 vs1) (g := g1) (c := tYesD) (e := e) (f := f1) (p := fun _ => true) (r := r x) hc1 (ys x) fun y hm => by
      obtain ⟨ρ2, S4, h5, h6, h7⟩ := hy y hm
      exact ⟨ρ2, S4, h5, h6, true, S3, rfl, rfl, rfl, fun _ => h7⟩
    rw [List.filter_eq_self.mpr fun _ _ => rfl] at this
    exact this
  simp only [eLc2, e1, this, e2]
/-- all(..), any(..) over what stays -/
theorem quantL_w {α : Type} {stop : Bool} {g : RG} {e : RE} {chk : Sto → Prop} {f : α → D} {p : α → Bool} {S : Sto} (hc : chk S) : ∀ xs : List α, (∀ x ∈ xs, (∀ y ∈ xs.takeWhile fun y => p y != stop, p y ≠ stop) → wG g (f x) ρ S fun ρ1 S1 => S1 = S ∧ wE e ρ1 S fun y S3 => y = .bl (p x) ∧ S3 = S) →
    quantL stop g tYesD e chk ρ (xs.map f) S = some ((if xs.any (fun x => p x == stop) then stop else !stop), S)
  | [], _ => by simp [quantL]
  | x :: xs, hx => by
    have hq : ∀ ys : List α, ∀ y ∈ ys.takeWhile fun y => p y != stop, p y ≠ stop := fun ys y hy => by
      have := List.all_takeWhile (l := ys) (p := fun y => p y != stop)
      rw [List.all_eq_true] at this
      simpa using this y hy
    have ih := quantL_w (stop := stop) (g := g) (e := e) (f := f) (p := p) hc xs fun y hy _ => hx y (List.mem_cons_of_mem _ hy) (hq _)
    obtain ⟨ρ1, S1, h1, rfl, y, S3, h4, rfl, rfl⟩ := hx x List.mem_cons_self (hq _)
    rw [List.map_cons]
    unfold quantL
    simp only [h1, tYesD, h4, if_pos hc, ih, List.any_cons]
    by_cases hp : p x = stop
    · simp [hp]
    · have : (p x == stop) = false := by simpa using hp
      simp [hp]
theorem wT_gen {α : Type} {stop : Bool} {it : RI} {g : RG} {vs : List Nat} {Q : Bool → Sto → Prop} (h : wI it ρ S fun ds chk S1 => ∃ (xs : List α) (f : α → D) (p : α → Bool), ds = xs.map f ∧ chk S1 ∧
    (∀ x ∈ xs, wG g (f x) (wipeD ρ vs) S1 fun ρ1 S2 => S2 = S1 ∧ wE e ρ1 S1 fun y S3 => y = .bl (p x) ∧ S3 = S1) ∧ Q (if xs.any (fun x => p x == stop) then stop else !stop) S1) : wT (tGenQ stop it g tYesD e vs) ρ S Q := by
  obtain ⟨ds, chk, S1, e1, xs, f, p, rfl, hc, hx, q⟩ := h
  exact ⟨_, S1, by simp only [tGenQ, e1, quantL_w hc xs fun x hm _ => hx x hm], q⟩
/-! defs -/
theorem wF_fn {n m : Nat} {fin : D → Sto → Sto → Option (D × Sto)} {t : RS} {ds : List D} (hl : ds.length = n) (h : wS t (startD m ds) S (fun _ S1 => wFin fin .non S S1 Q) ⟨fun d S1 => wFin fin d S S1 Q, fun _ _ => False, fun _ _ => False⟩) : wF (fnD n m fin t) ds S Q := by
  obtain ⟨o, e, q⟩ := h
  cases o with
  | nx ρ1 S1 => obtain ⟨d, S2, h, q⟩ := q; exact ⟨d, S2, by simp only [fnD, if_pos hl, e, h], q⟩
  | rt d S1 => obtain ⟨d, S2, h, q⟩ := q; exact ⟨d, S2, by simp only [fnD, if_pos hl, e, h], q⟩
  | bk ρ1 S1 => exact q.elim
  | ct ρ1 S1 => exact q.elim
theorem wFin_P {T : Sto} (hc : clos S.length d = true) (ho : isObj d = false) (q : Q d S) : wFin finP d S (S ++ T) Q := ⟨d, S, finP_drop hc ho, q⟩
theorem wFin_P0 (hc : clos S.length d = true) (ho : isObj d = false) (q : Q d S) : wFin finP d S S Q := ⟨d, S, finP_self hc ho, q⟩
theorem wFin_K {S1 : Sto} (q : Q d S1) : wFin finK d S S1 Q := ⟨_, _, rfl, q⟩
/-- a list of the def's own is handed back -/
theorem wFin_PO {T : Sto} {xs : List D} (hk : S.length ≤ k) (hx : (S ++ T)[k]? = some (.lst xs)) (hc : closL S.length xs = true) (q : Q (.lst xs) S) : wFin finP (.obj k) S (S ++ T) Q := by
  refine ⟨.lst xs, S, ?_, q⟩
  unfold finP frzD
  simp only
  rw [if_neg (by omega), hx]
  simp only [hc, if_true, List.take_left']
end
end DL

set_option maxRecDepth 100000
set_option maxHeartbeats 4000000
/-! rows by their places -/
namespace DL
open PySem
open Classical
def rg {α : Type} (m : Nat) (f : Nat → α) : List α := (List.range m).map f
section
variable {α β : Type} {m n i : Nat} {f g : Nat → α}
@[simp] theorem rg_len : (rg m f).length = m := by simp [rg]
theorem rg_at (h : i < m) : (rg m f)[i]? = some (f i) := by simp [rg, h]
theorem rg_out (h : m ≤ i) : (rg m f)[i]? = none := by simp [rg, h]
theorem rg_congr (h : ∀ i, i < m → f i = g i) : rg m f = rg m g := by
  unfold rg
  exact List.map_congr_left fun i hi => h i (List.mem_range.mp hi)
theorem rg_zero : rg 0 f = [] := rfl
theorem rg_succ : rg (m + 1) f = rg m f ++ [f m] := by
  unfold rg
  rw [List.range_succ, List.map_append]
  rfl
theorem rg_cons : rg (m + 1) f = f 0 :: rg m fun i => f (i + 1) := by
  unfold rg
  rw [List.range_succ_eq_map, List.map_cons, List.map_map]
  rfl
theorem rg_map (k : α → β) : (rg m f).map k = rg m fun i => k (f i) := by
  unfold rg
  rw [List.map_map]
  rfl
theorem rg_mem {x : α} : x ∈ rg m f ↔ ∃ i, i < m ∧ f i = x := by
  unfold rg
  simp
theorem rg_of [Inhabited α] (xs : List α) : xs = rg xs.length fun i => xs.getD i default := by
  apply List.ext_getElem
  · simp
  · intro i h1 h2
    simp [rg, h1]
theorem rg_app {f' : Nat → α} : rg m f ++ rg n f' = rg (m + n) fun i => if i < m then f i else f' (i - m) := by
  apply List.ext_getElem?
  intro i
  rw [List.getElem?_append, rg_len]
  split
  · rename_i h
    rw [rg_at h, rg_at (by omega), if_pos h]
  · rename_i h
    by_cases h2 : i - m < n
    · rw [rg_at h2, rg_at (by omega), if_neg h]
    · rw [rg_out (by omega), rg_out (by omega)]
theorem rg_flat {h : Nat → Nat → α} : ∀ m : Nat, (rg m fun i => rg n (h i)).flatten = rg (m * n) fun k => h (k / n) (k % n)
  | 0 => by simp [rg]
  | m + 1 => by
    rw [rg_succ, List.flatten_append, rg_flat m]
    simp only [List.flatten_cons, List.flatten_nil, List.append_nil]
    rw [rg_app, Nat.succ_mul]
    refine rg_congr fun i hi => ?_
    split
    · rfl
    · rename_i h1
      have hn : 0 < n := by
        rcases Nat.eq_zero_or_pos n with z | z
        · subst z; simp at hi h1
        · exact z
      have e : i = i - m * n + n * m := by rw [Nat.mul_comm n m]; omega
      have h2 : i - m * n < n := by omega
      generalize hk : i - m * n = k at e h2
      rw [e, Nat.add_mul_div_left _ _ hn, Nat.add_mul_mod_self_left, Nat.div_eq_of_lt h2, Nat.mod_eq_of_lt h2, Nat.zero_add]
theorem rg_zip {g : Nat → β} : (rg m f).zip (rg n g) = rg (min m n) fun i => (f i, g i) := by
  apply List.ext_getElem?
  intro i
  by_cases h : i < min m n
  · rw [rg_at h]
    exact List.getElem?_zip_eq_some.mpr ⟨rg_at (by omega), rg_at (by omega)⟩
  · rw [rg_out (by omega), List.getElem?_eq_none]
    simp
    omega
theorem rg_take (h : n ≤ m) : (rg m f).take n = rg n f := by
  apply List.ext_getElem?
  intro i
  rw [List.getElem?_take]
  split
  · rw [rg_at (by omega), rg_at (by omega)]
  · rw [rg_out (by omega)]
theorem rg_set {x : α} (h : i < m) : (rg m f).set i x = rg m fun k => if k = i then x else f k := by
  apply List.ext_getElem?
  intro k
  rw [List.getElem?_set, rg_len]
  by_cases e : i = k
  · subst e
    rw [if_pos rfl, if_pos h, rg_at h, if_pos rfl]
  · rw [if_neg e]
    by_cases hk : k < m
    · rw [rg_at hk, rg_at hk, if_neg (Ne.symm e)]
    · rw [rg_out (by omega), rg_out (by omega)]
end
@[simp] theorem seqD_tup {xs : List D} {S : Sto} : seqD (.tup xs) S = some xs := rfl
@[simp] theorem seqD_lst {xs : List D} {S : Sto} : seqD (.lst xs) S = some xs := rfl
section
variable {a b c e o : RE} {ra : RA} {ρ : En} {S : Sto} {Q : D → Sto → Prop} {N : En → Sto → Prop} {K : Kt} {d x y : D} {i j k m n : Nat} {f g : Nat → D}
theorem wI_seqR {Q : List D → (Sto → Prop) → Sto → Prop} (h : wE a ρ S fun d S1 => ∃ m f chk, seqC d S1 = some (rg m f, chk) ∧ Q (rg m f) chk S1) : wI (iSeq a) ρ S Q :=
  wI_seq (wE_mono h fun d S1 ⟨m, f, chk, e, q⟩ => ⟨_, chk, e, q⟩)
theorem wI_rangeR {Q : List D → (Sto → Prop) → Sto → Prop} (h : wE a ρ S fun d S1 => ∃ n : Nat, d = .int (n : Int) ∧ n ≤ 1000000 ∧ Q (rg n fun i : Nat => D.int (i : Int)) (fun _ => True) S1) : wI (iRange1 a) ρ S Q := by
  obtain ⟨d, S1, e1, n, rfl, hn, q⟩ := h
  exact wI_range ⟨_, S1, e1, rfl, hn, q⟩
theorem wI_range2R {Q : List D → (Sto → Prop) → Sto → Prop} (h : wE a ρ S fun d S1 => wE b ρ S1 fun d' S2 => ∃ m n : Nat, d = .int (m : Int) ∧ d' = .int (n : Int) ∧ m ≤ 1000000 ∧ n ≤ 1000000 ∧ Q (rg (n - m) fun i : Nat => D.int ((m + i : Nat) : Int)) (fun _ => True) S2) : wI (iRange2 a b) ρ S Q := by
  obtain ⟨d, S1, e1, d', S2, e2, m, n, rfl, rfl, hm, hn, q⟩ := h
  exact wI_range2 ⟨_, S1, e1, rfl, _, S2, e2, rfl, hm, hn, q⟩
theorem wI_zipR {Q : List D → (Sto → Prop) → Sto → Prop} (h : wE a ρ S fun d S1 => wE b ρ S1 fun d' S2 => ∃ m f g c1 c2, seqC d S2 = some (rg m f, c1) ∧ seqC d' S2 = some (rg m g, c2) ∧ Q (rg m fun i => .tup [f i, g i]) (fun S => c1 S ∧ c2 S) S2) : wI (iZip (aCons a (aCons b aNil))) ρ S Q := by
  obtain ⟨d, S1, e1, d', S2, e2, m, f, g, c1, c2, h1, h2, q⟩ := h
  refine wI_zip (us := rg m id) (vs := rg m id) (f := f) (g := g) ⟨d, S1, e1, d', S2, e2, by rw [rg_map]; exact h1, by rw [rg_map]; exact h2, ?_⟩
  rw [rg_zip, rg_map, Nat.min_self]
  exact q
theorem wI_enumR {Q : List D → (Sto → Prop) → Sto → Prop} (h : wE a ρ S fun d S1 => ∃ m f c1, seqC d S1 = some (rg m f, c1) ∧ Q (rg m fun i => .tup [.int (i : Nat), f i]) c1 S1) : wI (iEnum (aCons a aNil)) ρ S Q := by
  obtain ⟨d, S1, e1, m, f, c1, h1, q⟩ := h
  refine wI_enum (us := rg m id) (f := f) ⟨d, S1, e1, by rw [rg_map]; exact h1, ?_⟩
  have : (rg m id).zipIdx.map (fun p : Nat × Nat => D.tup [.int (p.2 : Int), f p.1]) = rg m fun i => .tup [.int (i : Nat), f i] := by
    apply List.ext_getElem?
    intro i
    by_cases h : i < m
    · rw [rg_at h, List.getElem?_map, List.getElem?_zipIdx, rg_at h]
      simp
    · rw [rg_out (by omega), List.getElem?_map, List.getElem?_zipIdx, rg_out (by omega)]
      rfl
  rw [this]
  exact q
theorem wE_lcR {mk : List D → Sto → Option (D × Sto)} {it : RI} {gt : RG} {vs : List Nat} (h : wI it ρ S fun ds chk S1 => ∃ (m : Nat) (f r : Nat → D), ds = rg m f ∧ chk S1 ∧
    (∀ i, i < m → wG gt (f i) (wipeD ρ vs) S1 fun ρ1 S2 => S2 = S1 ∧ wE e ρ1 S2 fun y S3 => y = r i ∧ S3 = S1) ∧ wF mk (rg m r) S1 Q) : wE (eLc mk it gt tYesD e vs) ρ S Q := by
  obtain ⟨ds, chk, S1, e1, m, f, r, rfl, hc, hx, q⟩ := h
  refine wE_lc (α := Nat) ⟨_, chk, S1, e1, List.range m, f, r, rfl, hc, fun i hi => ?_, q⟩
  obtain ⟨ρ1, S2, h1, rfl, h3⟩ := hx i (List.mem_range.mp hi)
  exact ⟨ρ1, S2, h1, rfl, h3⟩
/-- .. with a test -/
theorem wE_lcRF {mk : List D → Sto → Option (D × Sto)} {it : RI} {gt : RG} {tt : RT} {vs : List Nat} (h : wI it ρ S fun ds chk S1 => ∃ (m : Nat) (f : Nat → D) (p : Nat → Bool) (r : Nat → D), ds = rg m f ∧ chk S1 ∧
    (∀ i, i < m → wG gt (f i) (wipeD ρ vs) S1 fun ρ1 S2 => S2 = S1 ∧ wT tt ρ1 S2 fun b S3 => b = p i ∧ S3 = S1 ∧ (p i = true → wE e ρ1 S3 fun y S4 => y = r i ∧ S4 = S1)) ∧ wF mk (((List.range m).filter p).map r) S1 Q) : wE (eLc mk it gt tt e vs) ρ S Q := by
  obtain ⟨ds, chk, S1, e1, m, f, p, r, rfl, hc, hx, q⟩ := h
  refine wE_lcF (α := Nat) ⟨_, chk, S1, e1, List.range m, f, p, r, rfl, hc, fun i hi => ?_, q⟩
  obtain ⟨ρ1, S2, h1, rfl, b, S3, h3, rfl, rfl, h4⟩ := hx i (List.mem_range.mp hi)
  exact ⟨ρ1, S3, h1, rfl, _, S3, h3, rfl, rfl, h4⟩
/-- .. that changes the store: what comes is a row of values of a sort -/
theorem wE_lcRI {β : Type} [Inhabited β] {mk : List D → Sto → Option (D × Sto)} {it : RI} {gt : RG} {vs : List Nat} (I : Nat → Sto → Prop) (r : β → D) (P : Nat → β → Prop) (h : wI it ρ S fun ds chk S1 => ∃ m f, ds = rg m f ∧ I 0 S1 ∧
    (∀ i S, i < m → I i S → wG gt (f i) (wipeD ρ vs) S fun ρ1 S1 => wE e ρ1 S1 fun y S2 => ∃ z, y = r z ∧ P i z ∧ chk S2 ∧ I (i + 1) S2) ∧
    ∀ (z : Nat → β) S', I m S' → (∀ i, i < m → P i (z i)) → wF mk (rg m fun i => r (z i)) S' Q) : wE (eLc mk it gt tYesD e vs) ρ S Q := by
  obtain ⟨ds, chk, S1, e1, m, f, rfl, h0, hs, hq⟩ := h
  refine wE_lcI (α := Nat) (β := β) I r P ⟨_, chk, S1, e1, List.range m, f, rfl, h0, fun k x S hk hi => ?_, fun zs S' hi hl hp => ?_⟩
  · have hk2 := List.getElem?_eq_some_iff.mp hk
    obtain ⟨h1, h2⟩ := hk2
    rw [List.getElem_range] at h2
    rw [List.length_range] at h1
    subst h2
    exact hs k S h1 hi
  · rw [List.length_range] at hi hl
    have := hq (fun i => zs.getD i default) S' hi fun i h => by
      have h2 : i < zs.length := by omega
      rw [List.getD_eq_getElem?_getD, List.getElem?_eq_getElem h2]
      exact hp i _ (List.getElem?_eq_getElem h2)
    have e : zs.map r = rg m fun i => r (zs.getD i default) := by
      conv => lhs; rw [rg_of zs, rg_map, hl]
    rw [e]
    exact this
theorem wE_lc2R {mk : List D → Sto → Option (D × Sto)} {it it1 : RI} {gt g1 : RG} {vs vs1 : List Nat} (h : wI it ρ S fun ds chk S1 => ∃ (m : Nat) (f : Nat → D) (n : Nat → Nat) (r : Nat → Nat → D), ds = rg m f ∧ chk S1 ∧
    (∀ i, i < m → wG gt (f i) (wipeD ρ vs) S1 fun ρ1 S2 => S2 = S1 ∧ wI it1 ρ1 S2 fun ds1 chk1 S3 => S3 = S1 ∧ ∃ f1, ds1 = rg (n i) f1 ∧ chk1 S1 ∧ ∀ j, j < n i → wG g1 (f1 j) (wipeD ρ1 vs1) S1 fun ρ2 S4 => S4 = S1 ∧ wE e ρ2 S4 fun d S5 => d = r i j ∧ S5 = S1) ∧
    wF mk (rg m fun i => rg (n i) (r i)).flatten S1 Q) : wE (eLc2 mk it gt tYesD it1 g1 tYesD e vs vs1) ρ S Q := by
  obtain ⟨ds, chk, S1, e1, m, f, n, r, rfl, hc, hx, q⟩ := h
  refine wE_lc2 (α := Nat) (β := Nat) ⟨_, chk, S1, e1, List.range m, f, fun i => List.range (n i), r, rfl, hc, fun i hi => ?_, q⟩
  obtain ⟨ρ1, S2, h1, rfl, ds1, chk1, S3, h3, rfl, f1, rfl, h4, h5⟩ := hx i (List.mem_range.mp hi)
  refine ⟨ρ1, S3, h1, rfl, _, chk1, S3, h3, rfl, f1, rfl, h4, fun j hj => ?_⟩
  obtain ⟨ρ2, S4, h6, rfl, h7⟩ := h5 j (List.mem_range.mp hj)
  exact ⟨ρ2, S4, h6, rfl, h7⟩
theorem wS_forR {it : RI} {gt : RG} {bs : RS} (I : Nat → En → Sto → Prop) (h : wI it ρ S fun ds chk S1 => ∃ m f, ds = rg m f ∧ I 0 ρ S1 ∧
    (∀ i ρ S, i < m → I i ρ S → wG gt (f i) ρ S fun ρ1 S1 => wS bs ρ1 S1 (fun ρ2 S2 => chk S2 ∧ I (i + 1) ρ2 S2) ⟨K.rt, N, fun ρ2 S2 => chk S2 ∧ I (i + 1) ρ2 S2⟩) ∧
    ∀ ρ S, I m ρ S → N ρ S) : wS (sFor it gt bs) ρ S N K := by
  obtain ⟨ds, chk, S1, e1, m, f, rfl, h0, hs, hn⟩ := h
  refine wS_for (α := Nat) I ⟨_, chk, S1, e1, List.range m, f, rfl, h0, fun k x ρ S hk hi => ?_, fun ρ S hi => hn ρ S (by rwa [List.length_range] at hi)⟩
  obtain ⟨h1, h2⟩ := List.getElem?_eq_some_iff.mp hk
  rw [List.getElem_range] at h2
  rw [List.length_range] at h1
  subst h2
  exact hs k ρ S h1 hi
theorem wT_genR {stop : Bool} {it : RI} {gt : RG} {vs : List Nat} {Q : Bool → Sto → Prop} (h : wI it ρ S fun ds chk S1 => ∃ (m : Nat) (f : Nat → D) (p : Nat → Bool), ds = rg m f ∧ chk S1 ∧
    (∀ i, i < m → wG gt (f i) (wipeD ρ vs) S1 fun ρ1 S2 => S2 = S1 ∧ wE e ρ1 S2 fun y S3 => y = .bl (p i) ∧ S3 = S1) ∧ Q (if (List.range m).any (fun i => p i == stop) then stop else !stop) S1) : wT (tGenQ stop it gt tYesD e vs) ρ S Q := by
  obtain ⟨ds, chk, S1, e1, m, f, p, rfl, hc, hx, q⟩ := h
  refine wT_gen (α := Nat) ⟨_, chk, S1, e1, List.range m, f, p, rfl, hc, fun i hi => ?_, q⟩
  obtain ⟨ρ1, S2, h1, rfl, h3⟩ := hx i (List.mem_range.mp hi)
  exact ⟨ρ1, S2, h1, rfl, h3⟩
theorem quantL2_w {stop : Bool} {gt g1 : RG} {it1 : RI} {vs1 : List Nat} {chk : Sto → Prop} {fn : Nat → D} {n : Nat → Nat} {p : Nat → Nat → Bool} (hc : chk S) : ∀ xs : List Nat, (∀ i ∈ xs, wG gt (fn i) ρ S fun ρ1 S2 => S2 = S ∧ wI it1 ρ1 S2 fun ds1 chk1 S3 => S3 = S ∧ ∃ f1, ds1 = rg (n i) f1 ∧ chk1 S ∧ ∀ j, j < n i → wG g1 (f1 j) (wipeD ρ1 vs1) S fun ρ2 S4 => S4 = S ∧ wE e ρ2 S4 fun y S5 => y = .bl (p i j) ∧ S5 = S) →
    quantL2 stop gt tYesD it1 g1 tYesD e vs1 chk ρ (xs.map fn) S = some ((if xs.any (fun i => (List.range (n i)).any fun j => p i j == stop) then stop else !stop), S)
  | [], _ => by simp [quantL2]
  | x :: xs, hx => by
    have ih := quantL2_w (stop := stop) (fn := fn) (p := p) hc xs fun y hy => hx y (List.mem_cons_of_mem _ hy)
    obtain ⟨ρ1, S1, h1, rfl, ds1, chk1, S3, h2, rfl, f1, rfl, hc1, hj⟩ := hx x List.mem_cons_self
    have hq := quantL_w (stop := stop) (g := g1) (e := e) (f := f1) (p := p x) (ρ := wipeD ρ1 vs1) hc1 (List.range (n x)) fun j hj' _ => by
      obtain ⟨ρ2, S4, a1, rfl, a3⟩ := hj j (List.mem_range.mp hj')
      exact ⟨ρ2, S4, a1, rfl, a3⟩
    have hq' : quantL stop g1 tYesD e chk1 (wipeD ρ1 vs1) (rg (n x) f1) S3 = _ := hq
    have hA : ((x :: xs).any fun i => (List.range (n i)).any fun j => p i j == stop) = (((List.range (n x)).any fun j => p x j == stop) || xs.any fun i => (List.range (n i)).any fun j => p i j == stop) := List.any_cons
    rw [List.map_cons, hA]
    unfold quantL2
    simp only [h1, tYesD, h2, hq', if_pos hc, ih]
    generalize ((List.range (n x)).any fun j => p x j == stop) = A
    generalize (xs.any fun i => (List.range (n i)).any fun j => p i j == stop) = B
    cases stop <;> cases A <;> cases B <;> simp
theorem wT_gen2R {stop : Bool} {it it1 : RI} {gt g1 : RG} {vs vs1 : List Nat} {Q : Bool → Sto → Prop} (h : wI it ρ S fun ds chk S1 => ∃ (m : Nat) (f : Nat → D) (n : Nat → Nat) (p : Nat → Nat → Bool), ds = rg m f ∧ chk S1 ∧
    (∀ i, i < m → wG gt (f i) (wipeD ρ vs) S1 fun ρ1 S2 => S2 = S1 ∧ wI it1 ρ1 S2 fun ds1 chk1 S3 => S3 = S1 ∧ ∃ f1, ds1 = rg (n i) f1 ∧ chk1 S1 ∧ ∀ j, j < n i → wG g1 (f1 j) (wipeD ρ1 vs1) S1 fun ρ2 S4 => S4 = S1 ∧ wE e ρ2 S4 fun y S5 => y = .bl (p i j) ∧ S5 = S1) ∧
    Q (if (List.range m).any (fun i => (List.range (n i)).any fun j => p i j == stop) then stop else !stop) S1) : wT (tGenQ2 stop it gt tYesD it1 g1 tYesD e vs vs1) ρ S Q := by
  obtain ⟨ds, chk, S1, e1, m, f, n, p, rfl, hc, hx, q⟩ := h
  refine ⟨_, S1, ?_, q⟩
  simp only [tGenQ2, e1]
  exact quantL2_w hc (List.range m) fun i hi => hx i (List.mem_range.mp hi)
/-- the item at a place -/
theorem w2_ixR {Q : D → Prop} (hs : seqD x S = some (rg m f)) (hi : i < m) (q : Q (f i)) : w2 fIx x (.int (i : Int)) S Q := w2_ix hs (atI_nat (rg_at hi)) q
theorem w2_ix0 {Q : D → Prop} (hs : seqD x S = some (rg m f)) (hi : 0 < m) (q : Q (f 0)) : w2 fIx x (.int 0) S Q := w2_ixR (i := 0) hs hi q
theorem wF_lenR (hs : seqD d S = some (rg m f)) (q : Q (.int (m : Int)) S) : wF fLen [d] S Q := wF_len hs (by rw [rg_len]; exact q)
theorem wF_lstR {xs : List D} (h : xs.length ≤ 1000000) (q : Q (.lst xs) S) : wF fLst xs S Q := wF_lst h q
theorem wF_sumR {z : Nat → Int} (hs : seqD d S = some (rg m fun i => .int (z i))) (q : Q (.int (rg m z).sum) S) : wF fSum [d] S Q := wF_sum (ns := rg m z) (by rw [hs, rg_map]) q
theorem wS_env {t : RS} {ρ' : En} (h : ρ = ρ') (w : wS t ρ' S N K) : wS t ρ S N K := h ▸ w
theorem wE_env {t : RE} {ρ' : En} (h : ρ = ρ') (w : wE t ρ' S Q) : wE t ρ S Q := h ▸ w
theorem wG_env {gt : RG} {ρ' : En} (h : ρ = ρ') (w : wG gt d ρ' S N) : wG gt d ρ S N := h ▸ w
theorem closL_rg {n : Nat} (h : ∀ i, i < m → clos n (f i) = true) : closL n (rg m f) = true := by
  induction m with
  | zero => rfl
  | succ m ih =>
    rw [rg_succ]
    have : ∀ xs ys : List D, closL n xs = true → closL n ys = true → closL n (xs ++ ys) = true := fun xs ys h1 h2 => by
      induction xs with
      | nil => exact h2
      | cons x xs ih =>
        simp only [closL, Bool.and_eq_true, List.cons_append] at h1 ⊢
        exact ⟨h1.1, ih h1.2⟩
    exact this _ _ (ih fun i hi => h i (by omega)) (closL_cons (h m (by omega)) closL_nil)
end
/-- a tuple, a list by its places -/
def tF (m : Nat) (f : Nat → D) : D := .tup (rg m f)
def lF (m : Nat) (f : Nat → D) : D := .lst (rg m f)
theorem tF_congr {m : Nat} {f g : Nat → D} (h : ∀ i, i < m → f i = g i) : tF m f = tF m g := by unfold tF; rw [rg_congr h]
theorem lF_congr {m : Nat} {f g : Nat → D} (h : ∀ i, i < m → f i = g i) : lF m f = lF m g := by unfold lF; rw [rg_congr h]
theorem clos_tF {n m : Nat} {f : Nat → D} (h : ∀ i, i < m → clos n (f i) = true) : clos n (tF m f) = true := closL_rg h
theorem clos_lF {n m : Nat} {f : Nat → D} (h : ∀ i, i < m → clos n (f i) = true) : clos n (lF m f) = true := closL_rg h
theorem Da.tF {n m : Nat} {f : Nat → D} {g : Nat → PyData} (h : ∀ i, Da n (f i) (g i)) : Da (n + 1) (tF m f) (.tuple (rg m g)) := DaL.tup (DaL.map h _)
theorem Da.lF {n m : Nat} {f : Nat → D} {g : Nat → PyData} (h : ∀ i, Da n (f i) (g i)) : Da (n + 1) (lF m f) (.list (rg m g)) := DaL.lst (DaL.map h _)
end DL

set_option maxRecDepth 100000
set_option maxHeartbeats 4000000
/-! plain: fractions, sums, greatest common parts; no program in sight -/
namespace PL
open PySem DL
open Classical
theorem den_pos (q : Rat) : 0 < q.den := Nat.pos_of_ne_zero q.den_nz
theorem num_den (q : Rat) : (q.num : Rat) / ((q.den : Int) : Rat) = q := by
  rw [← Rat.divInt_eq_div]
  exact Rat.num_divInt_den q
theorem den_ne (q : Rat) : ((q.den : Int) : Rat) ≠ 0 := by
  have := den_pos q
  simp
  omega
theorem mul_den (q : Rat) : q * ((q.den : Int) : Rat) = (q.num : Rat) := by
  have h := num_den q
  have h2 := den_ne q
  grind
theorem den_dvd_iff {q : Rat} {B : Nat} (hB : 0 < B) : q.den ∣ B ↔ ∃ z : Int, q * (B : Rat) = (z : Rat) := by
  constructor
  · rintro ⟨k, rfl⟩
    refine ⟨q.num * k, ?_⟩
    have h := mul_den q
    push_cast
    have h2 : (((q.den : Nat) : Rat)) = (((q.den : Int)) : Rat) := rfl
    grind
  · rintro ⟨z, hz⟩
    have hb : ((B : Nat) : Rat) ≠ 0 := by
      have : B ≠ 0 := by omega
      simpa using this
    have e : q = (z : Rat) / (((B : Nat) : Int) : Rat) := by
      have : (((B : Nat) : Int) : Rat) = ((B : Nat) : Rat) := rfl
      grind
    rw [e, ← Rat.divInt_eq_div, Rat.den_divInt]
    split
    · exact Nat.one_dvd _
    · exact Nat.div_dvd_of_dvd (Int.gcd_dvd_natAbs_left _ _)
/-- a fraction from -M to M whose denominator divides B -/
structure In (B M : Nat) (q : Rat) : Prop where
  den : q.den ∣ B
  le : q ≤ (M : Rat)
  ge : -(M : Rat) ≤ q
theorem In.add {B M N : Nat} {x y : Rat} (hB : 0 < B) (h : In B M x) (h' : In B N y) : In B (M + N) (x + y) := by
  refine ⟨?_, ?_, ?_⟩
  · obtain ⟨a, ha⟩ := (den_dvd_iff hB).mp h.den
    obtain ⟨b, hb⟩ := (den_dvd_iff hB).mp h'.den
    refine (den_dvd_iff hB).mpr ⟨a + b, ?_⟩
    push_cast
    grind
  · have := h.le; have := h'.le; push_cast; grind
  · have := h.ge; have := h'.ge; push_cast; grind
theorem In.neg {B M : Nat} {x : Rat} (h : In B M x) : In B M (-x) := by
  refine ⟨?_, ?_, ?_⟩
  · rw [Rat.neg_den]; exact h.den
  · have := h.ge; grind
  · have := h.le; grind
theorem In.sub {B M N : Nat} {x y : Rat} (hB : 0 < B) (h : In B M x) (h' : In B N y) : In B (M + N) (x - y) := by
  rw [Rat.sub_eq_add_neg]
  exact h.add hB h'.neg
theorem mul_le_of {x y M N : Rat} (h1 : x ≤ M) (h2 : -M ≤ x) (h3 : y ≤ N) (h4 : -N ≤ y) : x * y ≤ M * N ∧ -(M * N) ≤ x * y := by
  have a1 : 0 ≤ M - x := by grind
  have a2 : 0 ≤ M + x := by grind
  have a3 : 0 ≤ N - y := by grind
  have a4 : 0 ≤ N + y := by grind
  have b1 := Rat.mul_nonneg a1 a3
  have b2 := Rat.mul_nonneg a1 a4
  have b3 := Rat.mul_nonneg a2 a3
  have b4 := Rat.mul_nonneg a2 a4
  constructor <;> grind
theorem In.mul {B C M N : Nat} {x y : Rat} (hB : 0 < B) (hC : 0 < C) (h : In B M x) (h' : In C N y) : In (B * C) (M * N) (x * y) := by
  have hm := mul_le_of h.le h.ge h'.le h'.ge
  refine ⟨?_, by push_cast; exact hm.1, by push_cast; exact hm.2⟩
  obtain ⟨a, ha⟩ := (den_dvd_iff hB).mp h.den
  obtain ⟨b, hb⟩ := (den_dvd_iff hC).mp h'.den
  refine (den_dvd_iff (Nat.mul_pos hB hC)).mpr ⟨a * b, ?_⟩
  push_cast
  grind
theorem In.mono {B C M N : Nat} {x : Rat} (h : In B M x) (hB : B ∣ C) (hM : M ≤ N) : In C N x := by
  have h2 : ((M : Nat) : Rat) ≤ ((N : Nat) : Rat) := by exact_mod_cast hM
  refine ⟨Nat.dvd_trans h.den hB, ?_, ?_⟩
  · have := h.le; grind
  · have := h.ge; grind
theorem In.zero {B M : Nat} : In B M 0 := by
  refine ⟨Nat.one_dvd _, ?_, ?_⟩
  · exact_mod_cast Nat.zero_le M
  · have : (0 : Rat) ≤ (M : Rat) := by exact_mod_cast Nat.zero_le M
    grind
theorem In.one {B M : Nat} (h : 1 ≤ M) : In B M 1 := by
  have : (1 : Rat) ≤ (M : Rat) := by exact_mod_cast h
  refine ⟨Nat.one_dvd _, this, ?_⟩
  grind
theorem In.ite {B M : Nat} {x y : Rat} {c : Prop} [Decidable c] (h : In B M x) (h' : In B M y) : In B M (if c then x else y) := by
  split
  · exact h
  · exact h'
theorem In.den_le {B M : Nat} {q : Rat} (hB : 0 < B) (h : In B M q) : q.den ≤ B := Nat.le_of_dvd hB h.den
theorem In.num_le {B M : Nat} {q : Rat} (hB : 0 < B) (h : In B M q) : q.num.natAbs ≤ M * B := by
  have h1 := mul_den q
  have h2 : ((q.den : Int) : Rat) ≤ ((B : Int) : Rat) := by
    have := h.den_le hB
    exact_mod_cast this
  have h3 : (0 : Rat) ≤ ((q.den : Int) : Rat) := by exact_mod_cast Nat.zero_le _
  have hm := mul_le_of h.le h.ge h2 (show -((B : Int) : Rat) ≤ ((q.den : Int) : Rat) by
    have : (0 : Rat) ≤ ((B : Int) : Rat) := by exact_mod_cast Nat.zero_le _
    grind)
  rw [h1] at hm
  have e : (M : Rat) * ((B : Int) : Rat) = (((M * B : Nat) : Int) : Rat) := by push_cast; rfl
  rw [e] at hm
  have i1 : q.num ≤ ((M * B : Nat) : Int) := by exact_mod_cast hm.1
  have i2 : -((M * B : Nat) : Int) ≤ q.num := by
    have := hm.2
    exact_mod_cast this
  omega
/-- numerator and denominator of less than n bits -/
structure Sm (n : Nat) (q : Rat) : Prop where
  num : Bt n q.num
  den : Bt n (q.den : Int)
theorem Sm.mono {n m : Nat} {q : Rat} (h : Sm n q) (hm : n ≤ m) : Sm m q := ⟨h.num.mono hm, h.den.mono hm⟩
theorem In.sm {B M n : Nat} {q : Rat} (h : In B M q) (hB : 0 < B) (hn : (M + 1) * B < 2 ^ n) : Sm n q := by
  have h1 := h.den_le hB
  have h2 := h.num_le hB
  rw [Nat.add_mul, Nat.one_mul] at hn
  constructor
  · unfold Bt; omega
  · unfold Bt; omega
theorem Sm.one {n : Nat} (h : 1 ≤ n) : Sm n 1 := ⟨Nat.one_lt_two_pow (by omega), Nat.one_lt_two_pow (by omega)⟩
theorem Sm.zero {n : Nat} (h : 1 ≤ n) : Sm n 0 := ⟨Nat.pow_pos (by omega), Nat.one_lt_two_pow (by omega)⟩
theorem wF_len2 {q : Rat} {S : Sto} {Q : D → Sto → Prop} (h : Q (.int 2) S) : wF fLen [dQ q] S Q := ⟨_, _, rfl, h⟩
/-! sums -/
def rs (f : Nat → Rat) : Nat → Rat
  | 0 => 0
  | m + 1 => rs f m + f m
def is (f : Nat → Int) : Nat → Int
  | 0 => 0
  | m + 1 => is f m + f m
theorem rg_sum {f : Nat → Int} : ∀ m, (rg m f).sum = is f m
  | 0 => rfl
  | m + 1 => by rw [rg_succ, List.sum_append, rg_sum m]; simp [is]
theorem rs_congr {f g : Nat → Rat} : ∀ {m : Nat}, (∀ i, i < m → f i = g i) → rs f m = rs g m
  | 0, _ => rfl
  | m + 1, h => by
    show rs f m + f m = rs g m + g m
    rw [rs_congr fun i hi => h i (by omega), h m (by omega)]
theorem rs_add {f g : Nat → Rat} : ∀ {m : Nat}, rs (fun i => f i + g i) m = rs f m + rs g m
  | 0 => by simp [rs, Rat.add_zero]
  | m + 1 => by
    show rs (fun i => f i + g i) m + (f m + g m) = (rs f m + f m) + (rs g m + g m)
    rw [rs_add]
    grind
theorem rs_mul {c : Rat} {f : Nat → Rat} : ∀ {m : Nat}, rs (fun i => c * f i) m = c * rs f m
  | 0 => by simp [rs]
  | m + 1 => by
    show rs (fun i => c * f i) m + c * f m = c * (rs f m + f m)
    rw [rs_mul]
    grind
theorem rs_mul' {c : Rat} {f : Nat → Rat} {m : Nat} : rs (fun i => f i * c) m = rs f m * c := by
  have : rs (fun i => f i * c) m = rs (fun i => c * f i) m := rs_congr fun i _ => by grind
  rw [this, rs_mul]
  grind
theorem rs_zero : ∀ {m : Nat}, rs (fun _ => 0) m = 0
  | 0 => rfl
  | m + 1 => by
    show rs (fun _ => 0) m + 0 = 0
    rw [rs_zero, Rat.add_zero]
theorem rs_swap {f : Nat → Nat → Rat} {m : Nat} : ∀ {n : Nat}, rs (fun i => rs (f i) n) m = rs (fun j => rs (fun i => f i j) m) n
  | 0 => by
    show rs (fun _ => 0) m = 0
    exact rs_zero
  | n + 1 => by
    show rs (fun i => rs (f i) n + f i n) m = rs (fun j => rs (fun i => f i j) m) n + rs (fun i => f i n) m
    rw [rs_add, rs_swap]
theorem rs_le {f g : Nat → Rat} : ∀ {m : Nat}, (∀ i, i < m → f i ≤ g i) → rs f m ≤ rs g m
  | 0, _ => Rat.le_refl
  | m + 1, h => by
    have a := rs_le (m := m) fun i hi => h i (by omega)
    have b := h m (by omega)
    show rs f m + f m ≤ rs g m + g m
    grind
theorem rs_nn {f : Nat → Rat} {m : Nat} (h : ∀ i, i < m → 0 ≤ f i) : 0 ≤ rs f m := by
  have := rs_le (f := fun _ => 0) (g := f) h
  rwa [rs_zero] at this
theorem In.rs {B M : Nat} (hB : 0 < B) {f : Nat → Rat} : ∀ {m : Nat}, (∀ i, i < m → In B M (f i)) → In B (m * M) (rs f m)
  | 0, _ => .zero
  | m + 1, h => by
    rw [Nat.succ_mul]
    exact (In.rs hB fun i hi => h i (by omega)).add hB (h m (by omega))
theorem is_cast {f : Nat → Int} : ∀ {m : Nat}, ((is f m : Int) : Rat) = rs (fun i => (f i : Rat)) m
  | 0 => rfl
  | m + 1 => by
    show ((is f m + f m : Int) : Rat) = rs (fun i => (f i : Rat)) m + (f m : Rat)
    rw [← is_cast]
    push_cast
    rfl
theorem Bt.is {n L : Nat} {f : Nat → Int} : ∀ {m : Nat}, (∀ i, i < m → (f i).natAbs ≤ L) → (is f m).natAbs ≤ m * L
  | 0, _ => by simp [PL.is]
  | m + 1, h => by
    have a := Bt.is (n := n) (m := m) fun i hi => h i (by omega)
    have b := h m (by omega)
    rw [Nat.succ_mul]
    show (PL.is f m + f m).natAbs ≤ _
    omega
/-! the least common multiple of denominators -/
def lc (f : Nat → Rat) : Nat → Nat
  | 0 => 1
  | m + 1 => Nat.lcm (lc f m) (f m).den
theorem lc_dvd {f : Nat → Rat} {B : Nat} : ∀ {m : Nat}, (∀ i, i < m → (f i).den ∣ B) → lc f m ∣ B
  | 0, _ => Nat.one_dvd _
  | m + 1, h => Nat.lcm_dvd (lc_dvd fun i hi => h i (by omega)) (h m (by omega))
theorem dvd_lc {f : Nat → Rat} : ∀ {m : Nat} {i : Nat}, i < m → (f i).den ∣ lc f m
  | m + 1, i, h => by
    by_cases e : i = m
    · subst e; exact Nat.dvd_lcm_right _ _
    · exact Nat.dvd_trans (dvd_lc (by omega)) (Nat.dvd_lcm_left _ _)
theorem lc_pos {f : Nat → Rat} : ∀ m : Nat, 0 < lc f m
  | 0 => Nat.one_pos
  | m + 1 => Nat.lcm_pos (lc_pos m) (den_pos _)
def lcM (m n : Nat) (t : Nat → Nat → Rat) : Nat := lc (fun k => t (k / n) (k % n)) (m * n)
theorem lcM_dvd {m n B : Nat} {t : Nat → Nat → Rat} (ht : ∀ i j, i < m → j < n → (t i j).den ∣ B) : lcM m n t ∣ B := lc_dvd fun k hk => by
  have hn : 0 < n := by
    rcases Nat.eq_zero_or_pos n with z | z
    · subst z; simp at hk
    · exact z
  exact ht _ _ (Nat.div_lt_of_lt_mul (by rw [Nat.mul_comm]; exact hk)) (Nat.mod_lt _ hn)
theorem dvd_lcM {m n : Nat} {t : Nat → Nat → Rat} {i j : Nat} (hi : i < m) (hj : j < n) : (t i j).den ∣ lcM m n t := by
  have h : i * n + j < m * n := by
    have : (i + 1) * n ≤ m * n := Nat.mul_le_mul_right n (by omega)
    rw [Nat.succ_mul] at this
    omega
  have := dvd_lc (f := fun k => t (k / n) (k % n)) h
  have hn : 0 < n := by omega
  have e1 : (i * n + j) / n = i := by
    rw [Nat.mul_comm, Nat.mul_add_div hn, Nat.div_eq_of_lt hj, Nat.add_zero]
  have e2 : (i * n + j) % n = j := by
    rw [Nat.mul_comm, Nat.mul_add_mod, Nat.mod_eq_of_lt hj]
  simp only [e1, e2] at this
  exact this
theorem lcM_pos {m n : Nat} {t : Nat → Nat → Rat} : 0 < lcM m n t := lc_pos _
theorem lcm_step (b d : Nat) (hb : 0 < b) : Int.fdiv (b : Int) (Int.gcd (b : Int) (d : Int) : Int) * (d : Int) = (Nat.lcm b d : Nat) := by
  rw [Int.fdiv_eq_ediv_of_nonneg _ (Int.natCast_nonneg _)]
  have h : Int.gcd (b : Int) (d : Int) = Nat.gcd b d := rfl
  rw [h, ← Int.natCast_ediv, ← Int.natCast_mul]
  congr 1
  unfold Nat.lcm
  exact Nat.div_mul_right_comm (Nat.gcd_dvd_left b d) d
/-- a fraction times a multiple of its denominator -/
def wh (b : Int) (q : Rat) : Int := q.num * (b / (q.den : Int))
theorem wh_cast {b : Nat} {q : Rat} (h : q.den ∣ b) : ((wh (b : Int) q : Int) : Rat) = q * (b : Rat) := by
  obtain ⟨k, rfl⟩ := h
  have hd := den_pos q
  unfold wh
  have e : (((q.den * k : Nat) : Int) / (q.den : Int)) = (k : Int) := by
    rw [Int.natCast_mul, Int.mul_ediv_cancel_left _ (by omega)]
  rw [e]
  have := mul_den q
  push_cast
  push_cast at this
  grind
theorem wh_le {b : Nat} {q : Rat} {M : Nat} (h : q.den ∣ b) (hb : 0 < b) (h1 : q ≤ (M : Rat)) (h2 : -(M : Rat) ≤ q) : (wh (b : Int) q).natAbs ≤ M * b := by
  have e := wh_cast h
  have hb0 : (0 : Rat) ≤ (b : Rat) := by exact_mod_cast Nat.zero_le _
  have hm := mul_le_of h1 h2 (Rat.le_refl (a := (b : Rat))) (by grind)
  rw [← e] at hm
  have e2 : (M : Rat) * (b : Rat) = (((M * b : Nat) : Int) : Rat) := by push_cast; rfl
  rw [e2] at hm
  have i1 : wh b q ≤ ((M * b : Nat) : Int) := by exact_mod_cast hm.1
  have i2 : -((M * b : Nat) : Int) ≤ wh b q := by
    have := hm.2
    exact_mod_cast this
  omega
/-! greatest ones -/
def mx (f : Nat → Rat) : Nat → Rat
  | 0 => f 0
  | k + 1 => if mx f k < f (k + 1) then f (k + 1) else mx f k
theorem mx_ge {f : Nat → Rat} : ∀ {k i : Nat}, i ≤ k → f i ≤ mx f k
  | 0, i, h => by
    have : i = 0 := by omega
    subst this
    exact Rat.le_refl
  | k + 1, i, h => by
    unfold mx
    by_cases e : i = k + 1
    · subst e
      split
      · exact Rat.le_refl
      · rename_i hn
        exact Rat.not_lt.mp hn
    · have := mx_ge (f := f) (k := k) (i := i) (by omega)
      split
      · rename_i hl
        grind
      · exact this
theorem mx_at {f : Nat → Rat} : ∀ k : Nat, ∃ i, i ≤ k ∧ mx f k = f i
  | 0 => ⟨0, Nat.le_refl _, rfl⟩
  | k + 1 => by
    unfold mx
    split
    · exact ⟨k + 1, Nat.le_refl _, rfl⟩
    · obtain ⟨i, h1, h2⟩ := mx_at (f := f) k
      exact ⟨i, by omega, h2⟩
theorem mx_uniq {f : Nat → Rat} {k : Nat} {v : Rat} (h1 : ∀ i, i ≤ k → f i ≤ v) (h2 : ∃ i, i ≤ k ∧ v = f i) : v = mx f k := by
  obtain ⟨i, hi, e⟩ := h2
  obtain ⟨j, hj, e2⟩ := mx_at (f := f) k
  have a := mx_ge (f := f) hi
  have b := h1 j hj
  grind
theorem mx_congr {f g : Nat → Rat} : ∀ {k : Nat}, (∀ i, i ≤ k → f i = g i) → mx f k = mx g k
  | 0, h => h 0 (Nat.le_refl _)
  | k + 1, h => by
    unfold mx
    rw [mx_congr (k := k) fun i hi => h i (by omega), h (k + 1) (Nat.le_refl _)]
theorem In.mx {B M : Nat} {f : Nat → Rat} {k : Nat} (h : ∀ i, i ≤ k → In B M (f i)) : In B M (mx f k) := by
  obtain ⟨i, hi, e⟩ := mx_at (f := f) k
  rw [e]
  exact h i hi
def mxi (z : Nat → Int) : Nat → Int
  | 0 => z 0
  | k + 1 => max (mxi z k) (z (k + 1))
theorem listMax_rg {z : Nat → Int} : ∀ k : Nat, listMax (rg (k + 1) z) = some (mxi z k)
  | 0 => rfl
  | k + 1 => by
    have ih := listMax_rg (z := z) k
    rw [rg_cons] at ih
    rw [rg_cons, rg_succ]
    simp only [listMax, Option.some.injEq] at ih ⊢
    rw [List.foldl_append, ih]
    rfl
theorem mxi_at {z : Nat → Int} : ∀ k : Nat, ∃ i, i ≤ k ∧ mxi z k = z i
  | 0 => ⟨0, Nat.le_refl _, rfl⟩
  | k + 1 => by
    obtain ⟨i, h1, h2⟩ := mxi_at (z := z) k
    unfold mxi
    by_cases h : mxi z k ≤ z (k + 1)
    · exact ⟨k + 1, Nat.le_refl _, by omega⟩
    · exact ⟨i, by omega, by omega⟩
theorem mxi_ge {z : Nat → Int} : ∀ {k i : Nat}, i ≤ k → z i ≤ mxi z k
  | 0, i, h => by
    have : i = 0 := by omega
    subst this
    exact Int.le_refl _
  | k + 1, i, h => by
    unfold mxi
    by_cases e : i = k + 1
    · subst e; omega
    · have := mxi_ge (z := z) (k := k) (i := i) (by omega)
      omega
theorem mxi_scale {z : Nat → Int} {f : Nat → Rat} {c : Rat} {k : Nat} (hc : 0 ≤ c) (h : ∀ i, i ≤ k → ((z i : Int) : Rat) = f i * c) : ((mxi z k : Int) : Rat) = mx f k * c := by
  obtain ⟨i, hi, e⟩ := mxi_at (z := z) k
  obtain ⟨j, hj, e2⟩ := mx_at (f := f) k
  have a := mxi_ge (z := z) hj
  have b := mx_ge (f := f) hi
  have a' : ((z j : Int) : Rat) ≤ ((mxi z k : Int) : Rat) := by exact_mod_cast a
  rw [h j hj] at a'
  have e' : ((mxi z k : Int) : Rat) = f i * c := by rw [e, h i hi]
  have := Rat.mul_le_mul_of_nonneg_right b hc
  rw [e2] at this ⊢
  grind
theorem In.wh {B M n b : Nat} {q : Rat} (h : In B M q) (hd : q.den ∣ b) (hb : 0 < b) (hbB : b ≤ B) (hn : (M + 1) * B < 2 ^ n) : Bt n (wh (b : Nat) q) := by
  have := wh_le hd hb h.le h.ge
  have h2 : M * b ≤ M * B := Nat.mul_le_mul_left M hbB
  rw [Nat.add_mul, Nat.one_mul] at hn
  unfold Bt
  omega
theorem In.lt {B M n : Nat} (hn : (M + 1) * B < 2 ^ n) : B < 2 ^ n := by
  rw [Nat.add_mul, Nat.one_mul] at hn
  omega
/-- fractions from 0 with sum 1 -/
structure Row (B m : Nat) (r : Nat → Rat) : Prop where
  inB : ∀ i, i < m → In B 1 (r i)
  nn : ∀ i, i < m → 0 ≤ r i
  sum : rs r m = 1
theorem Row.mono {B C m : Nat} {r : Nat → Rat} (h : Row B m r) (hd : B ∣ C) : Row C m r := ⟨fun i hi => (h.inB i hi).mono hd (Nat.le_refl _), h.nn, h.sum⟩
theorem rs_getD : ∀ ys : List Nat, rs (fun i => ((ys.getD i 0 : Nat) : Rat)) ys.length = ((ys.sum : Nat) : Rat)
  | [] => rfl
  | y :: ys => by
    have h : ∀ (f : Nat → Rat) (m : Nat), rs f (m + 1) = f 0 + rs (fun i => f (i + 1)) m := fun f m => by
      induction m with
      | zero => show rs f 0 + f 0 = f 0 + rs _ 0; simp [rs, Rat.add_zero, Rat.zero_add]
      | succ m ih => show rs f (m + 1) + f (m + 1) = _ ; rw [ih]; show _ = f 0 + (rs (fun i => f (i + 1)) m + f (m + 1)); grind
    rw [List.length_cons, h]
    have ih := rs_getD ys
    simp only [List.getD_cons_zero, List.getD_cons_succ] at ih ⊢
    rw [ih, List.sum_cons]
    push_cast
    rfl
theorem inv_nn (s : Rat) (h : 0 < s) : 0 ≤ s⁻¹ := by
  by_cases h2 : 0 ≤ s⁻¹
  · exact h2
  · have h3 : 0 ≤ -s⁻¹ := by grind
    have h4 := Rat.mul_nonneg h3 (show (0 : Rat) ≤ s by grind)
    have h5 : s * s⁻¹ = 1 := Rat.mul_inv_cancel s (by grind)
    grind
theorem div_nn (x s : Rat) (h : 0 < s) (h2 : 0 ≤ x) : 0 ≤ x / s := by
  rw [Rat.div_def]; exact Rat.mul_nonneg h2 (inv_nn s h)
theorem div_le1 (x s : Rat) (h : 0 < s) (h2 : x ≤ s) : x / s ≤ 1 := by
  rw [Rat.div_def]
  have := Rat.mul_le_mul_of_nonneg_right h2 (inv_nn s h)
  have h5 : s * s⁻¹ = 1 := Rat.mul_inv_cancel s (by grind)
  grind
theorem div_den (z : Int) (W : Nat) (h : 0 < W) : ((z : Rat) / (W : Rat)).den ∣ W := by
  refine (den_dvd_iff h).mpr ⟨z, ?_⟩
  have : (W : Rat) ≠ 0 := by
    have : W ≠ 0 := by omega
    exact_mod_cast this
  grind
theorem In.div {z : Int} {W M : Nat} (h : 0 < W) (h1 : z ≤ (M * W : Nat)) (h2 : -((M * W : Nat) : Int) ≤ z) : In W M ((z : Rat) / (W : Rat)) := by
  have hp : (0 : Rat) < (W : Rat) := by exact_mod_cast h
  have hi := inv_nn _ hp
  have hc : (W : Rat) * (W : Rat)⁻¹ = 1 := Rat.mul_inv_cancel _ (by grind)
  have a1 : (z : Rat) ≤ (M : Rat) * (W : Rat) := by exact_mod_cast h1
  have a2 : -((M : Rat) * (W : Rat)) ≤ (z : Rat) := by
    have : (((-((M * W : Nat) : Int)) : Int) : Rat) ≤ (z : Rat) := by exact_mod_cast h2
    push_cast at this
    exact this
  have b1 := Rat.mul_le_mul_of_nonneg_right a1 hi
  have b2 := Rat.mul_le_mul_of_nonneg_right a2 hi
  have e1 : (M : Rat) * (W : Rat) * (W : Rat)⁻¹ = M := by rw [Rat.mul_assoc, hc, Rat.mul_one]
  have e2 : -((M : Rat) * (W : Rat)) * (W : Rat)⁻¹ = -(M : Rat) := by rw [Rat.neg_mul, e1]
  rw [e1] at b1
  rw [e2] at b2
  refine ⟨div_den z W h, ?_, ?_⟩
  · rw [Rat.div_def]; exact b1
  · rw [Rat.div_def]; exact b2
theorem sum_getD : ∀ (ys : List Nat) (i : Nat), ys.getD i 0 ≤ ys.sum
  | [], i => by simp
  | y :: ys, 0 => by simp
  | y :: ys, i + 1 => by
    have := sum_getD ys i
    simp only [List.getD_cons_succ, List.sum_cons]
    omega
theorem row_of {ys : List Nat} {W : Nat} (hW : 0 < W) (hs : ys.sum = W) : Row W ys.length (fun i => (((ys.getD i 0 : Nat) : Int) : Rat) / (W : Rat)) := by
  have hp : (0 : Rat) < (W : Rat) := by exact_mod_cast hW
  refine ⟨fun i hi => In.div hW ?_ (by omega), fun i hi => div_nn _ _ hp (by exact_mod_cast Nat.zero_le _), ?_⟩
  · have := sum_getD ys i
    omega
  · have e : rs (fun i => (((ys.getD i 0 : Nat) : Int) : Rat) / (W : Rat)) ys.length = rs (fun i => ((ys.getD i 0 : Nat) : Rat) * (W : Rat)⁻¹) ys.length := rs_congr fun i hi => by
      rw [Rat.div_def]
      rfl
    rw [e, rs_mul', rs_getD, hs]
    exact Rat.mul_inv_cancel _ (by grind)
theorem ints_rg (ys : List Nat) : (ys.map fun z : Nat => D.int (z : Int)) = rg ys.length fun i => D.int ((ys.getD i 0 : Nat) : Int) := by
  apply List.ext_getElem
  · simp
  · intro i h1 h2
    simp at h1
    simp [rg, h1]
/-! rows -/
def dT (m : Nat) (f : Nat → Rat) : D := tF m fun i => dQ (f i)
def dL (m : Nat) (f : Nat → Rat) : D := lF m fun i => dQ (f i)
def dM (m n : Nat) (t : Nat → Nat → Rat) : D := tF m fun w => dT n (t w)
def iT (m : Nat) (f : Nat → Int) : D := tF m fun i => .int (f i)
def iL (m : Nat) (f : Nat → Int) : D := lF m fun i => .int (f i)
@[simp] theorem clos_dT {n m : Nat} {f : Nat → Rat} : clos n (dT m f) = true := clos_tF fun i _ => rfl
@[simp] theorem clos_dL {n m : Nat} {f : Nat → Rat} : clos n (dL m f) = true := clos_lF fun i _ => rfl
@[simp] theorem clos_dM {n m k : Nat} {t : Nat → Nat → Rat} : clos n (dM m k t) = true := clos_tF fun i _ => clos_dT
@[simp] theorem clos_iT {n m : Nat} {f : Nat → Int} : clos n (iT m f) = true := clos_tF fun i _ => rfl
@[simp] theorem clos_iL {n m : Nat} {f : Nat → Int} : clos n (iL m f) = true := clos_lF fun i _ => rfl
theorem dT_congr {m : Nat} {f g : Nat → Rat} (h : ∀ i, i < m → f i = g i) : dT m f = dT m g := tF_congr fun i hi => by rw [h i hi]
theorem dL_congr {m : Nat} {f g : Nat → Rat} (h : ∀ i, i < m → f i = g i) : dL m f = dL m g := lF_congr fun i hi => by rw [h i hi]
theorem dM_congr {m n : Nat} {f g : Nat → Nat → Rat} (h : ∀ i j, i < m → j < n → f i j = g i j) : dM m n f = dM m n g := tF_congr fun i hi => dT_congr fun j hj => h i j hi hj
/-- Euclid's steps -/
def Eu : Nat → Nat → Nat → Prop
  | 0, _, y => y = 0
  | k + 1, x, y => y = 0 ∨ Eu k y (x % y)
theorem eu_bound : ∀ (m x y : Nat), y < 2 ^ m → Eu (2 * m) x y
  | 0, x, y, h => by show y = 0; omega
  | m + 1, x, y, h => by
    show y = 0 ∨ (x % y = 0 ∨ Eu (2 * m) (x % y) (y % (x % y)))
    by_cases h0 : y = 0
    · exact .inl h0
    · by_cases h1 : x % y = 0
      · exact .inr (.inl h1)
      · refine .inr (.inr (eu_bound m _ _ ?_))
        have a := Nat.mod_lt x (Nat.pos_of_ne_zero h0)
        have b := Nat.mod_lt y (Nat.pos_of_ne_zero h1)
        have c : y % (x % y) ≤ y - x % y := by
          rw [Nat.mod_eq_sub_mod (by omega)]
          exact Nat.mod_le _ _
        rw [Nat.pow_succ] at h
        omega
theorem eu_more : ∀ (k x y : Nat), Eu k x y → Eu (k + 1) x y
  | 0, x, y, h => .inl h
  | k + 1, x, y, h => by
    rcases h with h | h
    · exact .inl h
    · exact .inr (eu_more k _ _ h)
theorem eu_le {k j x y : Nat} (h : Eu k x y) (hj : k ≤ j) : Eu j x y := by
  induction hj with
  | refl => exact h
  | step _ ih => exact eu_more _ _ _ ih
theorem wF_max1 {d : D} {S : Sto} {Q : D → Sto → Prop} {k : Nat} {z : Nat → Int} (hn : ∀ xs, d = .tup xs → False) (hs : seqD d S = some (rg (k + 1) fun i => .int (z i))) (q : Q (.int (mxi z k)) S) : wF fMax1 [d] S Q := by
  refine ⟨_, _, ?_, q⟩
  have e : (rg (k + 1) fun i => D.int (z i)) = (rg (k + 1) z).map D.int := by rw [rg_map]
  rw [e] at hs
  simp only [fMax1, hs, intsD_ok, listMax_rg]
theorem wF_maxA {d : D} {S : Sto} {Q : D → Sto → Prop} {k : Nat} {z : Nat → Int} (hs : seqD d S = some (rg (k + 1) fun i => .int (z i))) (q : Q (.int (mxi z k)) S) : wF fMax1 [d] S Q := by
  refine ⟨_, _, ?_, q⟩
  have e : (rg (k + 1) fun i => D.int (z i)) = (rg (k + 1) z).map D.int := by rw [rg_map]
  rw [e] at hs
  simp only [fMax1, hs, intsD_ok, listMax_rg]
end PL

set_option maxRecDepth 100000
set_option maxHeartbeats 4000000
/-! a pool of draws at the head of the store -/
namespace DL
open PySem
open Classical
structure Pool where
  n : Nat
  ok : Sto → Prop
  len : ∀ P, ok P → P.length = n
  clos : ∀ P, ok P → ∀ ce ∈ P, ∀ m, n ≤ m → cellClos m ce = true
def St (p : Pool) (T S : Sto) : Prop := ∃ P, p.ok P ∧ S = P ++ T
def Cl (p : Pool) (T : Sto) : Prop := ∀ ce ∈ T, cellClos (p.n + T.length) ce = true
mutual
theorem clos_mono {n m : Nat} (h : n ≤ m) : ∀ d : D, clos n d = true → clos m d = true
  | .non, _ => rfl
  | .bl _, _ => rfl
  | .int _, _ => rfl
  | .str _, _ => rfl
  | .tup xs, e => closL_mono h xs e
  | .lst xs, e => closL_mono h xs e
  | .scr xs, e => closL_mono h xs e
  | .obj k, e => by
    have e : decide (k < n) = true := e
    exact decide_eq_true (Nat.lt_of_lt_of_le (of_decide_eq_true e) h)
theorem closL_mono {n m : Nat} (h : n ≤ m) : ∀ ds : List D, closL n ds = true → closL m ds = true
  | [], _ => rfl
  | d :: ds, e => by
    have e : (clos n d && closL n ds) = true := e
    rw [Bool.and_eq_true] at e
    exact closL_cons (clos_mono h d e.1) (closL_mono h ds e.2)
end
theorem cellClos_mono {n m : Nat} (h : n ≤ m) {ce : Cell} (e : cellClos n ce = true) : cellClos m ce = true := by
  cases ce with
  | lst ds => exact closL_mono h ds e
  | dct kvs =>
    have e : (kvs.all fun p => clos n p.1 && clos n p.2) = true := e
    show (kvs.all fun p => clos m p.1 && clos m p.2) = true
    rw [List.all_eq_true] at e ⊢
    intro p hp
    have := e p hp
    rw [Bool.and_eq_true] at this ⊢
    exact ⟨clos_mono h _ this.1, clos_mono h _ this.2⟩
  | dead => rfl
section
variable {p : Pool} {T U S S1 : Sto} {d : D} {Q : D → Sto → Prop} {xs : List D} {c : Cell} {i k : Nat}
theorem St.len (h : St p T S) : S.length = p.n + T.length := by
  obtain ⟨P, hp, rfl⟩ := h
  rw [List.length_append, p.len P hp]
theorem St.push (h : St p T S) : St p (T ++ [c]) (S ++ [c]) := by
  obtain ⟨P, hp, rfl⟩ := h
  exact ⟨P, hp, by rw [List.append_assoc]⟩
theorem St.get (h : St p T S) (hi : T[i]? = some c) : S[p.n + i]? = some c := by
  obtain ⟨P, hp, rfl⟩ := h
  rw [List.getElem?_append_right (by rw [p.len P hp]; omega), p.len P hp, Nat.add_sub_cancel_left]
  exact hi
theorem St.set (h : St p T S) : St p (T.set i c) (S.set (p.n + i) c) := by
  obtain ⟨P, hp, rfl⟩ := h
  refine ⟨P, hp, ?_⟩
  rw [List.set_append_right _ _ (by rw [p.len P hp]; omega), p.len P hp, Nat.add_sub_cancel_left]
theorem St.last (h : St p (T ++ [c]) S) : S[p.n + T.length]? = some c := h.get (by simp)
theorem St.setLast {c' : Cell} (h : St p (T ++ [c]) S) : St p (T ++ [c']) (S.set (p.n + T.length) c') := by
  have := h.set (i := T.length) (c := c')
  simpa using this
theorem Cl.nil : Cl p [] := fun ce h => by cases h
theorem Cl.push (hT : Cl p T) (hx : closL (p.n + T.length + 1) xs = true) : Cl p (T ++ [.lst xs]) := by
  intro ce hce
  have hl : p.n + (T ++ [Cell.lst xs]).length = p.n + T.length + 1 := by simp; omega
  rw [hl]
  rcases List.mem_append.mp hce with h | h
  · exact cellClos_mono (by omega) (hT ce h)
  · rw [List.mem_singleton.mp h]
    exact hx
theorem wFin_M (h0 : St p T S) (h : St p (T ++ U) S1) (hT : Cl p T) (hd : clos (p.n + T.length) d = true) (ho : isObj d = false) (q : ∀ S', St p T S' → Q d S') : wFin finM d S S1 Q := by
  obtain ⟨P, hp, rfl⟩ := h
  refine ⟨d, P ++ T, ?_, q _ ⟨P, hp, rfl⟩⟩
  have hl := h0.len
  unfold finM
  rw [hl, frz_self hd ho]
  have e : (P ++ (T ++ U)).take (p.n + T.length) = P ++ T := by
    rw [← List.append_assoc, List.take_append_of_le_length (by rw [List.length_append, p.len P hp]; omega), List.take_of_length_le (by rw [List.length_append, p.len P hp]; omega)]
  simp only [e]
  rw [if_pos]
  rw [List.all_eq_true]
  intro ce hce
  rcases List.mem_append.mp hce with h | h
  · exact p.clos P hp ce h _ (by omega)
  · exact hT ce h
theorem wFin_MO {j k : Nat} (h0 : St p T S) (h : St p (T ++ U) S1) (hT : Cl p T) (hk : k = p.n + (T.length + j)) (hU : U[j]? = some (.lst xs)) (hc : closL (p.n + T.length) xs = true) (q : ∀ S', St p T S' → Q (.lst xs) S') : wFin finM (.obj k) S S1 Q := by
  have hg : S1[k]? = some (.lst xs) := by
    rw [hk]
    exact h.get (by rw [List.getElem?_append_right (by omega)]; simpa using hU)
  obtain ⟨P, hp, rfl⟩ := h
  refine ⟨.lst xs, P ++ T, ?_, q _ ⟨P, hp, rfl⟩⟩
  have hl := h0.len
  have e : (P ++ (T ++ U)).take (p.n + T.length) = P ++ T := by
    rw [← List.append_assoc, List.take_append_of_le_length (by rw [List.length_append, p.len P hp]; omega), List.take_of_length_le (by rw [List.length_append, p.len P hp]; omega)]
  unfold finM frzD
  simp only
  rw [if_neg (by omega), hg, hl]
  simp only [hc, if_true, e]
  rw [if_pos]
  rw [List.all_eq_true]
  intro ce hce
  rcases List.mem_append.mp hce with h | h
  · exact p.clos P hp ce h _ (by omega)
  · exact hT ce h
theorem wS_sto {t : RS} {ρ : En} {S S' : Sto} {N : En → Sto → Prop} {K : Kt} (h : S = S') (w : wS t ρ S' N K) : wS t ρ S N K := h ▸ w
theorem wE_sto {t : RE} {ρ : En} {S S' : Sto} {Q : D → Sto → Prop} (h : S = S') (w : wE t ρ S' Q) : wE t ρ S Q := h ▸ w
theorem wG_ix2 {o e : RE} {ρ : En} {S : Sto} {d : D} {N : En → Sto → Prop} (h : wE o ρ S fun x S1 => wE e ρ S1 fun z S2 => ∃ (k : Nat) (m : Int) (j : Nat) (ys : List D), x = .obj k ∧ z = .int m ∧ S2[k]? = some (.lst ys) ∧ L2.ixN ys.length m = some j ∧ N ρ (S2.set k (.lst (ys.set j d)))) : wG (gIx o e) d ρ S N := by
  obtain ⟨x, S1, e1, z, S2, e2, k, m, j, ys, rfl, rfl, h1, h2, q⟩ := h
  exact ⟨ρ, _, by simp only [gIx, e1, e2, h1, h2], q⟩
theorem w2_pow {m n : Int} {S : Sto} {Q : D → Prop} (h1 : 0 ≤ n) (h2 : n ≤ 1000000) (h3 : m.natAbs < 2 ^ 64) (h : Q (.int (m ^ n.toNat))) : w2 fPow (.int m) (.int n) S Q := ⟨_, by simp only [fPow]; rw [if_pos ⟨h1, h2, h3⟩], h⟩
theorem fmod_m (x m : Int) (h : 1 ≤ m) : ∃ r : Nat, Int.fmod x m = (r : Int) ∧ (r : Int) < m := by
  rw [Int.fmod_eq_emod_of_nonneg _ (by omega)]
  have a := Int.emod_nonneg x (b := m) (by omega)
  have b := Int.emod_lt_of_pos x (b := m) (by omega)
  exact ⟨(x % m).toNat, by omega, by omega⟩
theorem ints_at {ns : List Int} {c : Int} (h0 : 0 ≤ c) (h : c < (ns.length : Int)) : ∃ z : Int, L2.atI (ns.map D.int) c = some (.int z) := by
  obtain ⟨k, rfl⟩ : ∃ k : Nat, c = (k : Int) := ⟨c.toNat, by omega⟩
  have hk : k < ns.length := by omega
  exact ⟨ns[k], atI_nat (by simp [hk])⟩
theorem wS_cut {s t : RS} {ρ : En} {S : Sto} {N : En → Sto → Prop} {K : Kt} (Mid : En → Sto → Prop) (h : wS s ρ S Mid K) (h2 : ∀ ρ S, Mid ρ S → wS t ρ S N K) : wS (sSeq s t) ρ S N K := wS_seq (wS_mono h h2)
/-- a new list of the store -/
theorem wF_objS (h : St p T S) (hl : xs.length ≤ 1000000) (q : St p (T ++ [.lst xs]) (S ++ [.lst xs]) → Q (.obj (p.n + T.length)) (S ++ [.lst xs])) : wF fObj xs S Q := by
  refine wF_obj hl ?_
  rw [h.len]
  exact q h.push
theorem wF_listOS (h : St p T S) (hs : seqD d S = some xs) (q : St p (T ++ [.lst xs]) (S ++ [.lst xs]) → Q (.obj (p.n + T.length)) (S ++ [.lst xs])) : wF fListO [d] S Q := by
  refine wF_listO hs ?_
  rw [h.len]
  exact q h.push
/-- append to the last list -/
theorem wM_appS {y : D} (h : St p (T ++ [.lst xs]) S) (hl : xs.length < 1000000) (q : ∀ S', St p (T ++ [.lst (xs ++ [y])]) S' → Q .non S') : wM fAppend (.obj (p.n + T.length)) [y] S Q :=
  wM_append h.last hl (q _ h.setLast)
end
end DL

set_option maxRecDepth 100000
set_option maxHeartbeats 4000000
/-! more plain lemmas -/
namespace PL
open PySem DL
open Classical
theorem atI_last {m : Nat} {f : Nat → D} (h : 0 < m) : L2.atI (rg m f) (-1) = some (f (m - 1)) := by
  unfold L2.atI L2.ixN
  rw [if_neg (by omega), rg_len]
  rw [if_pos (by omega)]
  have : ((m : Int) + -1).toNat = m - 1 := by omega
  simp only [Option.bind]
  rw [show (-1 + (m : Int)).toNat = m - 1 by omega]
  exact rg_at (by omega)
theorem ix_zero {m : Nat} (h : 0 < m) : L2.ixN m 0 = some 0 := by
  unfold L2.ixN
  rw [if_pos (by omega), if_pos (by omega)]
  rfl
theorem da_dT {m n : Nat} {t : Nat → Rat} : Da (n + 2) (dT m t) (.tuple (rg m fun s => .tuple [.int (t s).num, .int ((t s).den : Int)])) := Da.tF fun s => Da.dQ
theorem da_dM {m k n : Nat} {t : Nat → Nat → Rat} : Da (n + 3) (dM m k t) (.tuple (rg m fun w => .tuple (rg k fun s => .tuple [.int (t w s).num, .int ((t w s).den : Int)]))) := Da.tF fun w => da_dT
theorem ne_dM {m k : Nat} {t : Nat → Nat → Rat} {S : Sto} : fNe (dM m k t) (dM m k t) S = some (.bl false) := fNe_self (n := 3) da_dM
theorem eq_dM {m k : Nat} {t : Nat → Nat → Rat} {S : Sto} : fEq (dM m k t) (dM m k t) S = some (.bl true) := fEq_self (n := 3) da_dM
theorem ne_dQ {q : Rat} {S : Sto} : fNe (dQ q) (dQ q) S = some (.bl false) := fNe_self (n := 1) Da.dQ
theorem filter_no {α : Type} {m : Nat} {r : Nat → α} : ((List.range m).filter fun _ => false).map r = [] := by simp
/-! slices -/
def wO (t : RO) (ρ : En) (S : Sto) (Q : Option Int → Sto → Prop) : Prop := ∃ o S', t ρ S = some (o, S') ∧ Q o S'
def wSl (mk : List D → Sto → Option (D × Sto)) (d : D) (l h : Option Int) (S : Sto) (Q : D → Sto → Prop) : Prop := ∃ z S', fSl mk d l h S = some (z, S') ∧ Q z S'
section
variable {a e : RE} {ρ : En} {S : Sto} {Q : D → Sto → Prop} {lo hi : RO} {mk : List D → Sto → Option (D × Sto)} {d : D}
theorem wE_sl (h : wE a ρ S fun d S1 => wO lo ρ S1 fun l S2 => wO hi ρ S2 fun u S3 => wSl mk d l u S3 Q) : wE (eSl mk a lo hi) ρ S Q := by
  obtain ⟨d, S1, e1, l, S2, e2, u, S3, e3, z, S4, e4, q⟩ := h
  exact ⟨z, S4, by simp only [eSl, e1, e2, e3, e4], q⟩
theorem wO_no {Q : Option Int → Sto → Prop} (h : Q none S) : wO oNo ρ S Q := ⟨_, _, rfl, h⟩
theorem wO_some {Q : Option Int → Sto → Prop} (h : wE e ρ S fun d S1 => ∃ i, d = .int i ∧ Q (some i) S1) : wO (oSome e) ρ S Q := by
  obtain ⟨d, S1, e1, i, rfl, q⟩ := h
  exact ⟨_, S1, by simp only [oSome, e1], q⟩
theorem wSl_tup {xs : List D} {l h : Option Int} (q : Q (.tup (cutD xs l h)) S) : wSl mk (.tup xs) l h S Q := ⟨_, _, rfl, q⟩
theorem wSl_lst {xs : List D} {l h : Option Int} (q : wF mk (cutD xs l h) S Q) : wSl mk (.lst xs) l h S Q := q
theorem wSl_scr {xs : List D} {l h : Option Int} (q : wF mk (cutD xs l h) S Q) : wSl mk (.scr xs) l h S Q := q
theorem cutD_to {xs : List D} {k : Nat} : cutD xs none (some (k : Int)) = xs.take k := by
  unfold cutD
  rw [HT.sIx_none, HT.sIx_nat]
  simp
theorem cutD_from {xs : List D} {k : Nat} : cutD xs (some (k : Int)) none = xs.drop k := by
  unfold cutD
  rw [HT.sIx_none, HT.sIx_nat]
  by_cases h : k ≤ xs.length
  · rw [Nat.min_eq_left h, List.take_of_length_le (by simp)]
  · rw [Nat.min_eq_right (by omega), List.drop_of_length_le (Nat.le_refl _), List.drop_of_length_le (by omega)]
    simp
theorem cutD_mid {xs : List D} {j k : Nat} (h1 : j ≤ k) (h2 : k ≤ xs.length) : cutD xs (some (j : Int)) (some (k : Int)) = (xs.drop j).take (k - j) := by
  unfold cutD
  rw [HT.sIx_nat, HT.sIx_nat, Nat.min_eq_left h2, Nat.min_eq_left (by omega)]
theorem rep_tup {x : D} {m : Nat} : (List.replicate m [x]).flatten = rg m fun _ => x := by
  induction m with
  | zero => rfl
  | succ m ih => rw [List.replicate_succ, List.flatten_cons, ih, rg_cons]; rfl
theorem w2s_rep {x : D} {m : Nat} (h1 : 1 ≤ m) (h2 : m ≤ 1000) (q : Q (tF m fun _ => x) S) : w2s (fTimes mk) (.tup [x]) (.int (m : Int)) S Q := by
  refine ⟨_, _, ?_, q⟩
  simp only [fTimes, fRepT]
  rw [if_pos ⟨by simp, by omega, by omega, by simp⟩, Int.toNat_natCast, rep_tup]
  rfl
end
end PL

set_option maxRecDepth 100000
set_option maxHeartbeats 4000000
/-! sizes of sums, products, quotients; equality of fractions; lists of fractions -/
namespace PL
open PySem DL
open Classical
theorem fdiv_bt {n : Nat} {a b : Int} (h : DL.Bt n a) (hb : 0 < b) : DL.Bt n (a.fdiv (Int.gcd a b : Int)) := by
  have hg : (Int.gcd a b : Int) ∣ a := Int.gcd_dvd_left ..
  rw [Int.fdiv_eq_ediv_of_dvd hg]
  unfold DL.Bt at *
  have := Int.natAbs_ediv_le_natAbs a (Int.gcd a b : Int)
  omega
theorem Sm.divI {n : Nat} {a b : Int} (hb : 0 < b) (ha : DL.Bt n a) (hb2 : DL.Bt n b) : Sm n ((a : Rat) / (b : Rat)) := by
  constructor
  · rw [low_num a b hb]; exact fdiv_bt ha hb
  · rw [low_den a b hb]
    have hg : (Int.gcd a b : Int) ∣ b := Int.gcd_dvd_right ..
    rw [Int.fdiv_eq_ediv_of_dvd hg]
    unfold DL.Bt at *
    have := Int.natAbs_ediv_le_natAbs b (Int.gcd a b : Int)
    omega
theorem den_posI (q : Rat) : (0 : Int) < (q.den : Int) := by have := den_pos q; omega
theorem mul_eq (x y : Rat) : x * y = ((x.num * y.num : Int) : Rat) / (((x.den : Int) * (y.den : Int) : Int) : Rat) := by
  have a := mul_den x
  have b := mul_den y
  have c := den_ne x
  have d := den_ne y
  push_cast
  push_cast at a b c d
  grind
theorem add_eq (x y : Rat) : x + y = ((x.num * (y.den : Int) + y.num * (x.den : Int) : Int) : Rat) / (((x.den : Int) * (y.den : Int) : Int) : Rat) := by
  have a := mul_den x
  have b := mul_den y
  have c := den_ne x
  have d := den_ne y
  push_cast
  push_cast at a b c d
  grind
theorem Sm.mul {n m : Nat} {x y : Rat} (hx : Sm n x) (hy : Sm m y) : Sm (n + m) (x * y) := by
  rw [mul_eq]
  exact Sm.divI (Int.mul_pos (den_posI x) (den_posI y)) (hx.num.mul hy.num) (hx.den.mul hy.den)
theorem Sm.add {n m : Nat} {x y : Rat} (hx : Sm n x) (hy : Sm m y) : Sm (n + m + 1) (x + y) := by
  rw [add_eq]
  refine Sm.divI (Int.mul_pos (den_posI x) (den_posI y)) ?_ ((hx.den.mul hy.den).mono (by omega))
  exact ((hx.num.mul hy.den).add (hy.num.mul hx.den)).mono (by omega)
theorem Sm.neg {n : Nat} {x : Rat} (hx : Sm n x) : Sm n (-x) := by
  constructor
  · have := hx.num
    unfold DL.Bt at *
    rw [Rat.neg_num]
    omega
  · exact hx.den
theorem Sm.sub {n m : Nat} {x y : Rat} (hx : Sm n x) (hy : Sm m y) : Sm (n + m + 1) (x - y) := by
  rw [Rat.sub_eq_add_neg]
  exact hx.add hy.neg
theorem num_pos {x : Rat} (h : 0 < x) : 0 < x.num := by
  have h1 : 0 ≤ x.num := Rat.num_nonneg.mpr (Rat.le_of_lt h)
  have h2 : x.num ≠ 0 := fun e => by
    have := Rat.num_eq_zero.mp e
    subst this
    exact absurd h (by decide +kernel)
  omega
theorem inv_eq {x : Rat} (h : 0 < x) : x⁻¹ = (((x.den : Nat) : Int) : Rat) / ((x.num : Int) : Rat) := by
  have a := mul_den x
  have c := den_ne x
  have e : ((x.num : Int) : Rat) ≠ 0 := by
    have := num_pos h
    have : x.num ≠ 0 := by omega
    exact_mod_cast this
  have h0 : x ≠ 0 := by grind
  grind
theorem inv_num {x : Rat} (h : 0 < x) : x⁻¹.num = (x.den : Int) := by
  rw [inv_eq h, low_num _ _ (num_pos h)]
  have : Int.gcd (x.den : Int) x.num = 1 := by
    have := x.reduced
    unfold Nat.Coprime at this
    rw [Int.gcd_comm]
    simpa [Int.gcd] using this
  rw [this]
  simp
theorem inv_den {x : Rat} (h : 0 < x) : (x⁻¹.den : Int) = x.num := by
  rw [inv_eq h, low_den _ _ (num_pos h)]
  have : Int.gcd (x.den : Int) x.num = 1 := by
    have := x.reduced
    unfold Nat.Coprime at this
    rw [Int.gcd_comm]
    simpa [Int.gcd] using this
  rw [this]
  simp
theorem dQ_inv {x : Rat} (h : 0 < x) : D.tup [.int (x.den : Int), .int x.num] = dQ x⁻¹ := by
  unfold dQ
  rw [inv_num h, inv_den h]
theorem Sm.inv {n : Nat} {x : Rat} (hx : Sm n x) (h : 0 < x) : Sm n x⁻¹ := ⟨by rw [inv_num h]; exact hx.den, by rw [inv_den h]; exact hx.num⟩
/-- a common bottom of a few small fractions -/
theorem In.of_sm {n : Nat} {f : Nat → Rat} : ∀ (m : Nat), (∀ i, i < m → Sm n (f i)) → ∃ B, 0 < B ∧ B < 2 ^ (n * m + 1) ∧ ∀ i, i < m → In B (2 ^ n) (f i)
  | 0, _ => ⟨1, by omega, by simp, fun i hi => by omega⟩
  | m + 1, h => by
    obtain ⟨B, h0, h1, h2⟩ := In.of_sm m fun i hi => h i (by omega)
    have hm := h m (by omega)
    have hd : (f m).den < 2 ^ n := by have := hm.den; unfold DL.Bt at this; omega
    have hp := den_pos (f m)
    refine ⟨B * (f m).den, Nat.mul_pos h0 hp, ?_, fun i hi => ?_⟩
    · rw [show n * (m + 1) + 1 = (n * m + 1) + n from by rw [Nat.mul_add]; omega, Nat.pow_add]
      exact Nat.mul_lt_mul'' h1 hd
    · by_cases e : i = m
      · subst e
        have hN : (f i).num.natAbs < 2 ^ n := hm.num
        have e1 := mul_den (f i)
        have hp1 : (1 : Rat) ≤ (((f i).den : Int) : Rat) := by
          have : (1 : Int) ≤ ((f i).den : Int) := by omega
          exact_mod_cast this
        generalize 2 ^ n = M at hN ⊢
        have a1 : ((f i).num : Rat) ≤ ((M : Int) : Rat) := by
          have : (f i).num ≤ (M : Int) := by omega
          exact_mod_cast this
        have a2 : ((-(M : Int) : Int) : Rat) ≤ ((f i).num : Rat) := by
          have : -(M : Int) ≤ (f i).num := by omega
          exact_mod_cast this
        have a0 : (0 : Rat) ≤ ((M : Int) : Rat) := by
          have : (0 : Int) ≤ (M : Int) := by omega
          exact_mod_cast this
        rw [Rat.intCast_neg] at a2
        refine ⟨⟨B, Nat.mul_comm _ _⟩, ?_, ?_⟩
        · show f i ≤ ((M : Int) : Rat)
          generalize ((M : Int) : Rat) = N at a0 a1 a2 ⊢
          refine Classical.byContradiction fun hc => ?_
          have hc : N < f i := by grind
          have : f i * 1 ≤ f i * (((f i).den : Int) : Rat) := Rat.mul_le_mul_of_nonneg_left hp1 (by grind)
          grind
        · show -((M : Int) : Rat) ≤ f i
          generalize ((M : Int) : Rat) = N at a0 a1 a2 ⊢
          refine Classical.byContradiction fun hc => ?_
          have hc : f i < -N := by grind
          have : (-f i) * 1 ≤ (-f i) * (((f i).den : Int) : Rat) := Rat.mul_le_mul_of_nonneg_left hp1 (by grind)
          grind
      · exact (h2 i (by omega)).mono (Nat.dvd_mul_right _ _) (Nat.le_refl _)
theorem eqv_int (a b : Int) : PyData.eqv (.int a) (.int b) = decide (a = b) := by simp only [PyData.eqv]; rfl
theorem rat_ext {x y : Rat} (h : x.num = y.num) (h2 : x.den = y.den) : x = y := Rat.ext h h2
theorem eqv_dQ (x y : Rat) : PyData.eqv (.tuple [.int x.num, .int (x.den : Int)]) (.tuple [.int y.num, .int (y.den : Int)]) = decide (x = y) := by
  simp only [PyData.eqv, PyData.eqvAll, Bool.and_true]
  by_cases h : x = y
  · subst h; simp
  · rw [decide_eq_false h]
    rw [Bool.and_eq_false_iff]
    by_cases h1 : x.num = y.num
    · right
      have : ¬ x.den = y.den := fun e => h (rat_ext h1 e)
      simp only [beq_eq_false_iff_ne, ne_eq]
      omega
    · left
      simpa using h1
theorem eq_dQ {x y : Rat} {S : Sto} : fEq (dQ x) (dQ y) S = some (.bl (decide (x = y))) := by
  rw [fEq_da (n := 1) (m := 1) Da.dQ Da.dQ, eqv_dQ]
theorem ne_dQs {x y : Rat} {S : Sto} : fNe (dQ x) (dQ y) S = some (.bl (!decide (x = y))) := by
  rw [fNe_da (n := 1) (m := 1) Da.dQ Da.dQ, eqv_dQ]
theorem tup0_da : Da 1 (.tup []) (.tuple []) := DaL.tup .nil
theorem eq_dQ0 {x : Rat} {S : Sto} : fEq (dQ x) (.tup []) S = some (.bl false) := by
  rw [fEq_da (n := 1) (m := 1) Da.dQ tup0_da]; rfl
theorem eq_00 {S : Sto} : fEq (.tup []) (.tup []) S = some (.bl true) := by
  rw [fEq_da (n := 1) (m := 1) tup0_da tup0_da]; rfl
theorem ne_00 {S : Sto} : fNe (.tup []) (.tup []) S = some (.bl false) := by
  rw [fNe_da (n := 1) (m := 1) tup0_da tup0_da]; rfl
/-! ### lists of fractions, of natural numbers -/
theorem rs_getD_q : ∀ qs : List Rat, rs (fun i => qs.getD i 0) qs.length = qs.sum := by
  intro qs
  have : ∀ (qs : List Rat) (k : Nat), k ≤ qs.length → rs (fun i => qs.getD i 0) k = (qs.take k).sum := by
    intro qs k hk
    induction k with
    | zero => simp [rs]
    | succ k ih =>
      have hk' : k < qs.length := by omega
      have e : qs.take (k + 1) = qs.take k ++ [qs[k]] := by rw [List.take_succ, List.getElem?_eq_getElem hk']; rfl
      rw [e, List.sum_append]
      show rs _ k + qs.getD k 0 = _
      rw [ih (by omega)]
      have : qs.getD k 0 = qs[k] := by simp [hk']
      rw [this]
      simp [List.sum_cons, Rat.add_zero]
  have := this qs qs.length (Nat.le_refl _)
  rwa [List.take_length] at this
theorem dqs_rg (qs : List Rat) : qs.map dQ = rg qs.length fun i => dQ (qs.getD i 0) := by
  refine List.ext_getElem (by simp) fun i h1 h2 => ?_
  have h3 : i < qs.length := by simpa using h1
  simp [rg, h3]
theorem isum_nat : ∀ l : List Nat, (l.map fun z : Nat => (z : Int)).sum = ((l.sum : Nat) : Int)
  | [] => rfl
  | z :: l => by simp [isum_nat l]
def dN (l : List Nat) : D := .tup (l.map fun z : Nat => D.int (z : Int))
theorem wF_sumN {l : List Nat} {S : Sto} {Q : D → Sto → Prop} (q : Q (.int ((l.sum : Nat) : Int)) S) : wF fSum [dN l] S Q :=
  wF_sum (ns := l.map fun z : Nat => (z : Int)) (by simp [dN]) (by rw [isum_nat]; exact q)
theorem seq_dN {l : List Nat} {S : Sto} : seqD (dN l) S = some (rg l.length fun i => D.int ((l.getD i 0 : Nat) : Int)) := by
  unfold dN
  rw [seqD_tup, ints_rg]
theorem seqC_dN {l : List Nat} {S : Sto} : seqC (dN l) S = some (rg l.length fun i => D.int ((l.getD i 0 : Nat) : Int), fun _ => True) := by
  unfold dN
  rw [← ints_rg]
  rfl
theorem getD_le_sum (l : List Nat) (i : Nat) : l.getD i 0 ≤ l.sum := sum_getD l i
/-- all powers of so many worlds with a sum up to most -/
def pwr (most : Nat) : Nat → List (List Nat)
  | 0 => [[]]
  | m + 1 => (pwr most m).flatMap fun l => (List.range (most + 1 - l.sum)).map fun k => l ++ [k]
theorem pwr_mem {most : Nat} : ∀ {m : Nat} {l : List Nat}, l ∈ pwr most m → l.length = m ∧ l.sum ≤ most
  | 0, l, h => by
    simp [pwr] at h
    subst h
    simp
  | m + 1, l, h => by
    simp only [pwr, List.mem_flatMap, List.mem_map, List.mem_range] at h
    obtain ⟨a, ha, k, hk, rfl⟩ := h
    obtain ⟨h1, h2⟩ := pwr_mem ha
    refine ⟨by simp [h1], ?_⟩
    simp
    omega
theorem len_flatMap_le {α β : Type} {f : α → List β} {c : Nat} : ∀ {l : List α}, (∀ x ∈ l, (f x).length ≤ c) → (l.flatMap f).length ≤ l.length * c
  | [], _ => by simp
  | x :: l, h => by
    rw [List.flatMap_cons, List.length_append, List.length_cons, Nat.add_mul, Nat.one_mul]
    have a := h x List.mem_cons_self
    have b := len_flatMap_le (l := l) fun y hy => h y (List.mem_cons_of_mem _ hy)
    omega
theorem pwr_len {most : Nat} : ∀ m : Nat, (pwr most m).length ≤ (most + 1) ^ m
  | 0 => by simp [pwr]
  | m + 1 => by
    unfold pwr
    rw [Nat.pow_succ]
    refine Nat.le_trans (len_flatMap_le (c := most + 1) fun l _ => ?_) (Nat.mul_le_mul_right _ (pwr_len m))
    simp
/-- those that are not all 0 -/
def pws (most m : Nat) : List (List Nat) := (pwr most m).filter fun l => decide (0 < l.sum)
theorem pws_mem {most m : Nat} {l : List Nat} (h : l ∈ pws most m) : l.length = m ∧ l.sum ≤ most := pwr_mem (List.mem_filter.mp h).1
theorem pws_len {most m : Nat} : (pws most m).length ≤ (most + 1) ^ m := Nat.le_trans (List.length_filter_le _ _) (pwr_len m)
theorem clos_dN {n : Nat} {l : List Nat} : clos n (dN l) = true := closL_map (f := fun z : Nat => D.int (z : Int)) (fun _ => rfl) l
theorem da_dN {n : Nat} {l : List Nat} : Da (n + 1) (dN l) (.tuple (l.map fun z : Nat => PyData.int (z : Int))) := DaL.tup (DaL.map (fun _ => .int) l)
theorem w2s_dNpush {mk : List D → Sto → Option (D × Sto)} {l : List Nat} {k : Nat} {S : Sto} {Q : D → Sto → Prop} (h : l.length ≤ 1000) (q : Q (dN (l ++ [k])) S) : w2s (fPlus mk) (dN l) (.tup [.int (k : Int)]) S Q := by
  unfold dN at *
  refine w2s_plusT (by simp; omega) ?_
  rw [List.map_append] at q
  exact q
/-- sizes that multiply exactly -/
structure Sw (n : Nat) (q : Rat) : Prop where
  num : q.num.natAbs ≤ 2 ^ n
  den : q.den ≤ 2 ^ n
theorem Sw.sm {n : Nat} {q : Rat} (h : Sw n q) : Sm (n + 1) q := by
  have := h.num
  have := h.den
  have : 0 < 2 ^ n := Nat.pow_pos (by omega)
  constructor <;> unfold DL.Bt <;> rw [Nat.pow_succ] <;> omega
theorem Sm.sw {n : Nat} {q : Rat} (h : Sm n q) : Sw n q := by
  have a := h.num
  have b := h.den
  unfold DL.Bt at *
  constructor <;> omega
theorem Sw.one {n : Nat} : Sw n 1 := ⟨Nat.pow_pos (by omega), Nat.pow_pos (by omega)⟩
theorem Sw.mono {n m : Nat} {q : Rat} (h : Sw n q) (hm : n ≤ m) : Sw m q := ⟨Nat.le_trans h.num (Nat.pow_le_pow_right (by omega) hm), Nat.le_trans h.den (Nat.pow_le_pow_right (by omega) hm)⟩
theorem Sw.divI {n : Nat} {a b : Int} (hb : 0 < b) (ha : a.natAbs ≤ 2 ^ n) (hb2 : b.natAbs ≤ 2 ^ n) : Sw n ((a : Rat) / (b : Rat)) := by
  constructor
  · rw [low_num a b hb]
    have hg : (Int.gcd a b : Int) ∣ a := Int.gcd_dvd_left ..
    rw [Int.fdiv_eq_ediv_of_dvd hg]
    have := Int.natAbs_ediv_le_natAbs a (Int.gcd a b : Int)
    omega
  · have e := low_den a b hb
    have hg : (Int.gcd a b : Int) ∣ b := Int.gcd_dvd_right ..
    rw [Int.fdiv_eq_ediv_of_dvd hg] at e
    have := Int.natAbs_ediv_le_natAbs b (Int.gcd a b : Int)
    omega
theorem Sw.mul {n m : Nat} {x y : Rat} (hx : Sw n x) (hy : Sw m y) : Sw (n + m) (x * y) := by
  rw [mul_eq]
  refine Sw.divI (Int.mul_pos (den_posI x) (den_posI y)) ?_ ?_
  · rw [Int.natAbs_mul, Nat.pow_add]
    exact Nat.mul_le_mul hx.num hy.num
  · rw [Int.natAbs_mul, Nat.pow_add, Int.natAbs_natCast, Int.natAbs_natCast]
    exact Nat.mul_le_mul hx.den hy.den
theorem Sw.pow {n : Nat} {x : Rat} (hx : Sw n x) : ∀ k : Nat, Sw (n * k) (x ^ k)
  | 0 => by rw [Rat.pow_zero]; exact .one
  | k + 1 => by rw [Rat.pow_succ, Nat.mul_succ]; exact (Sw.pow hx k).mul hx
theorem Sw.inv {n : Nat} {x : Rat} (hx : Sw n x) (h : 0 < x) : Sw n x⁻¹ := by
  have e1 := inv_num h
  have e2 := inv_den h
  have a := hx.num
  have b := hx.den
  have := num_pos h
  constructor <;> omega
open PySem.PyData in
theorem fIn_lst {α : Type} {n m : Nat} {neg : Bool} {f : α → D} {g : α → PyData} {x : D} {p : PyData} {xs : List α} {S : Sto} (h : ∀ y, Da n (f y) (g y)) (hx : Da m x p) (hm : m ≤ 60 := by decide) :
    fInB neg x (.lst (xs.map f)) S = some (.bl (neg ^^ xs.any fun y => PyData.eqv (g y) p)) := by
  have hl := DaL.map h xs
  unfold fInB
  simp only [hx.eq, toP, hl.eq, itemsP]
  rw [if_pos ⟨plainAll_of_canLay0 _ hl.lay, plain_of_canLay0 _ hx.lay, Nat.le_trans hx.dep hm⟩, List.any_map]
  rfl
theorem big {a n : Nat} (h : a < 2 ^ 100) (hn : 100 ≤ n) : a < 2 ^ n := Nat.lt_of_lt_of_le h (Nat.pow_le_pow_right (by omega) hn)
def garb (n : Nat) (t tab : Nat → Nat → Rat) : Nat → Nat → Rat := fun w j => rs (fun s => t w s * tab s j) n
def pull (n : Nat) (g tab : Nat → Nat → Rat) : Nat → Nat → Rat := fun w s => rs (fun j => tab s j * g w j) n
def heardv (m n : Nat) (t : Nat → Nat → Rat) (ws : Nat → Rat) (g : Nat → Nat → Rat) : Rat := rs (fun w => rs (fun s => ws w * (t w s * g w s)) n) m
theorem In.rs_le {B M : Nat} (hB : 0 < B) {f : Nat → Rat} {m i : Nat} (h : ∀ i, i < m → In B M (f i)) (hi : i ≤ m) : In B (m * M) (PL.rs f i) :=
  (In.rs hB fun j hj => h j (by omega)).mono (Nat.dvd_refl _) (Nat.mul_le_mul_right M hi)
theorem dQ_num {a b : Int} {q : Rat} (hb : 0 < b) (e : (a : Rat) / (b : Rat) = q) : D.tup [.int (a.fdiv (Int.gcd a b : Int)), .int (b.fdiv (Int.gcd a b : Int))] = dQ q := by
  rw [← e]
  unfold dQ
  rw [low_num a b hb, low_den a b hb]
def nsum (p : Nat → Nat) : Nat → Nat
  | 0 => 0
  | k + 1 => nsum p k + p k
theorem nsum_list (l : List Nat) : nsum (fun i => l.getD i 0) l.length = l.sum := by
  have : ∀ k, k ≤ l.length → nsum (fun i => l.getD i 0) k = (l.take k).sum := by
    intro k hk
    induction k with
    | zero => simp [nsum]
    | succ k ih =>
      have hk' : k < l.length := by omega
      have e : l.take (k + 1) = l.take k ++ [l[k]] := by rw [List.take_succ, List.getElem?_eq_getElem hk']; rfl
      rw [e, List.sum_append]
      show nsum _ k + l.getD k 0 = _
      rw [ih (by omega)]
      have : l.getD k 0 = l[k] := by simp [hk']
      rw [this]
      simp
  have := this l.length (Nat.le_refl _)
  rwa [List.take_length] at this
theorem nsum_le {p : Nat → Nat} : ∀ {m k : Nat}, k ≤ m → nsum p k ≤ nsum p m
  | 0, k, h => by cases Nat.le_zero.mp h; exact Nat.le_refl _
  | m + 1, k, h => by
    rcases Nat.lt_or_ge k (m + 1) with h1 | h1
    · exact Nat.le_trans (nsum_le (Nat.le_of_lt_succ h1)) (Nat.le_add_right _ _)
    · cases Nat.le_antisymm h h1; exact Nat.le_refl _
theorem dQ_of {a b : Int} {q : Rat} (h1 : q.num = a) (h2 : (q.den : Int) = b) : D.tup [.int a, .int b] = dQ q := by unfold dQ; rw [h1, h2]
theorem is_nsum {z : Nat → Nat} : ∀ {m : Nat}, is (fun i => ((z i : Nat) : Int)) m = ((nsum z m : Nat) : Int)
  | 0 => rfl
  | m + 1 => by
    show is _ m + ((z m : Nat) : Int) = ((nsum z m + z m : Nat) : Int)
    rw [is_nsum]
    omega
theorem nsum_bound {z : Nat → Nat} {c : Nat} : ∀ {m : Nat}, (∀ i, i < m → z i ≤ c) → nsum z m ≤ m * c
  | 0, _ => by simp [nsum]
  | m + 1, h => by
    have a := nsum_bound (m := m) fun i hi => h i (by omega)
    have b := h m (by omega)
    rw [Nat.add_mul, Nat.one_mul]
    show nsum z m + z m ≤ _
    omega
theorem nsum_ge {z : Nat → Nat} : ∀ {m i : Nat}, i < m → z i ≤ nsum z m
  | m + 1, i, h => by
    show z i ≤ nsum z m + z m
    rcases Nat.lt_or_ge i m with c | c
    · exact Nat.le_trans (nsum_ge c) (Nat.le_add_right _ _)
    · have : i = m := by omega
      subst this
      exact Nat.le_add_left _ _
theorem ix_nat {n r : Nat} (h : r < n) : L2.ixN n (r : Int) = some r := by
  unfold L2.ixN
  rw [if_pos (by omega), if_pos (by omega)]
  rfl
theorem Sm.lit {q : Rat} {n : Nat} (h1 : q.num.natAbs < 2 ^ n) (h2 : q.den < 2 ^ n) : Sm n q := ⟨h1, by unfold DL.Bt; omega⟩
/-! slices with a step, all, any of a list -/
def wSlS (d : D) (l h k : Option Int) (S : Sto) (Q : D → Sto → Prop) : Prop := ∃ z S', fSlS d l h k S = some (z, S') ∧ Q z S'
theorem wE_slS {a : RE} {lo hi st : RO} {ρ : En} {S : Sto} {Q : D → Sto → Prop} (h : wE a ρ S fun d S1 => wO lo ρ S1 fun l S2 => wO hi ρ S2 fun u S3 => wO st ρ S3 fun k S4 => wSlS d l u k S4 Q) : wE (eSlS a lo hi st) ρ S Q := by
  obtain ⟨d, S1, e1, l, S2, e2, u, S3, e3, k, S4, e4, z, S', e5, q⟩ := h
  exact ⟨z, S', by simp only [eSlS, e1, e2, e3, e4]; exact e5, q⟩
theorem wSlS_tup {xs : List D} {l h k : Option Int} {S : Sto} {Q : D → Sto → Prop} (h0 : k ≠ some 0) (hl : (pickL xs (stepIx xs.length l h k)).length ≤ 1000000) (q : Q (.tup (pickL xs (stepIx xs.length l h k))) S) : wSlS (.tup xs) l h k S Q :=
  ⟨_, S, by simp only [fSlS]; rw [if_pos ⟨h0, hl⟩], q⟩
theorem blsD_map {α : Type} {p : α → Bool} : ∀ xs : List α, blsD (xs.map fun x => D.bl (p x)) = some (xs.map p)
  | [] => rfl
  | x :: xs => by
    rw [List.map_cons]
    unfold blsD
    rw [blsD_map xs]
    rfl
theorem wF_allL {m : Nat} {p : Nat → Bool} {S : Sto} {Q : D → Sto → Prop} (q : Q (.bl ((List.range m).all p)) S) : wF fAllL [.lst (rg m fun i => .bl (p i))] S Q :=
  ⟨_, S, by
    unfold rg
    simp only [fAllL, seqD, blsD_map]
    rw [List.all_map]
    rfl, q⟩
theorem wF_anyL {m : Nat} {p : Nat → Bool} {S : Sto} {Q : D → Sto → Prop} (q : Q (.bl ((List.range m).any p)) S) : wF fAnyL [.lst (rg m fun i => .bl (p i))] S Q :=
  ⟨_, S, by
    unfold rg
    simp only [fAnyL, seqD, blsD_map]
    rw [List.any_map]
    rfl, q⟩
/-- every k-th item from i on -/
theorem pick_step {m k i c : Nat} {f : Nat → D} (hk : 1 ≤ k) (hi : i < k) (hm : m = c * k) : pickL (rg m f) (stepIx m (some (i : Int)) none (some (k : Int))) = rg c fun j => f (i + j * k) := by
  have e1 : Builtin.Slice.sliceAdjust (some (i : Int)) none ((some (k : Int)).getD 1) (m : Int) = (((min i m : Nat) : Int), (m : Int)) := by
    have h1 : ¬ ((k : Int) < 0) := by omega
    have h2 : ¬ ((i : Int) < 0) := by omega
    unfold Builtin.Slice.sliceAdjust
    simp only [Option.getD_some, h1, h2, if_false]
    refine Prod.ext ?_ rfl
    show min (i : Int) (m : Int) = _
    omega
  have e2 : stepIx m (some (i : Int)) none (some (k : Int)) = (List.range c).map fun j => i + j * k := by
    unfold stepIx
    rw [e1]
    have hp : Builtin.Slice.slicePlaces (((min i m : Nat) : Int)) (m : Int) ((some (k : Int)).getD 1) = c := by
      unfold Builtin.Slice.slicePlaces
      simp only [Option.getD_some]
      rw [if_pos (by omega)]
      rcases Nat.eq_zero_or_pos c with z | z
      · subst z
        rw [Nat.zero_mul] at hm
        subst hm
        rfl
      · have hle : k ≤ m := by rw [hm]; exact Nat.le_mul_of_pos_left k z
        have hmin : min i m = i := by omega
        rw [hmin, if_pos (by omega)]
        have : ((m : Int) - (i : Int) - 1) / (k : Int) = (c : Int) - 1 := by
          have e : (m : Int) - (i : Int) - 1 = ((k : Int) - 1 - (i : Int)) + ((c : Int) - 1) * (k : Int) := by
            have : (m : Int) = (c : Int) * (k : Int) := by rw [hm]; push_cast; rfl
            rw [this, Int.sub_mul]
            omega
          rw [e, Int.add_mul_ediv_right _ _ (by omega), Int.ediv_eq_zero_of_lt (by omega) (by omega)]
          omega
        rw [this]
        omega
    rw [hp]
    refine List.map_congr_left fun j hj => ?_
    have hj := List.mem_range.mp hj
    have hle : k ≤ m := by rw [hm]; exact Nat.le_mul_of_pos_left k (by omega)
    have hmin : min i m = i := by omega
    rw [hmin]
    simp only [Option.getD_some]
    have : ((i : Nat) : Int) + (j : Int) * (k : Int) = ((i + j * k : Nat) : Int) := by push_cast; rfl
    rw [this]
    rfl
  rw [e2]
  unfold pickL
  rw [List.filterMap_map]
  have : ∀ c', c' ≤ c → (List.range c').filterMap ((fun a => (rg m f)[a]?) ∘ fun j => i + j * k) = rg c' fun j => f (i + j * k) := by
    intro c' hc
    induction c' with
    | zero => rfl
    | succ c' ih =>
      have hlt : i + c' * k < m := by
        have : (c' + 1) * k ≤ c * k := Nat.mul_le_mul_right _ hc
        rw [Nat.add_mul, Nat.one_mul] at this
        omega
      rw [List.range_succ, List.filterMap_append, ih (by omega), rg_succ]
      congr 1
      rw [List.filterMap_cons]
      have e : ((fun a => (rg m f)[a]?) ∘ fun j => i + j * k) c' = some (f (i + c' * k)) := rg_at hlt
      rw [e]
      rfl
  exact this c (Nat.le_refl _)
/-! == of rows; a filtered list beside the empty one -/
theorem eqvAll_map {α : Type} {g h : α → PyData} : ∀ xs : List α, PyData.eqvAll (xs.map g) (xs.map h) = xs.all fun x => PyData.eqv (g x) (h x)
  | [] => rfl
  | x :: xs => by
    rw [List.map_cons, List.map_cons, List.all_cons, ← eqvAll_map xs]
    rfl
theorem eqv_dT {m : Nat} {f g : Nat → Rat} : PyData.eqv (.tuple (rg m fun s => .tuple [.int (f s).num, .int ((f s).den : Int)])) (.tuple (rg m fun s => .tuple [.int (g s).num, .int ((g s).den : Int)])) = decide (∀ i, i < m → f i = g i) := by
  show PyData.eqvAll _ _ = _
  unfold rg
  rw [eqvAll_map]
  simp only [eqv_dQ]
  by_cases h : ∀ i, i < m → f i = g i
  · rw [decide_eq_true h, List.all_eq_true]
    exact fun i hi => decide_eq_true (h i (List.mem_range.mp hi))
  · rw [decide_eq_false h, List.all_eq_false]
    refine Classical.byContradiction fun hc => h fun i hi => Classical.byContradiction fun hne => hc ⟨i, List.mem_range.mpr hi, ?_⟩
    rw [decide_eq_false hne]
    decide
theorem eq_dTs {m : Nat} {f g : Nat → Rat} {S : Sto} : fEq (dT m f) (dT m g) S = some (.bl (decide (∀ i, i < m → f i = g i))) := by
  rw [fEq_da (n := 2) (m := 2) (da_dT (n := 0)) (da_dT (n := 0)), eqv_dT]
theorem eq_dMs {m n : Nat} {f g : Nat → Nat → Rat} {S : Sto} : fEq (dM m n f) (dM m n g) S = some (.bl (decide (∀ i, i < m → ∀ j, j < n → f i j = g i j))) := by
  rw [fEq_da (n := 3) (m := 3) (da_dM (n := 0)) (da_dM (n := 0))]
  congr 2
  show PyData.eqvAll _ _ = _
  unfold rg
  rw [eqvAll_map]
  have e : ∀ w : Nat, PyData.eqv (.tuple ((List.range n).map fun s => .tuple [.int (f w s).num, .int ((f w s).den : Int)])) (.tuple ((List.range n).map fun s => .tuple [.int (g w s).num, .int ((g w s).den : Int)])) = decide (∀ j, j < n → f w j = g w j) := fun w => eqv_dT (f := f w) (g := g w)
  simp only [e]
  by_cases h : ∀ i, i < m → ∀ j, j < n → f i j = g i j
  · rw [decide_eq_true h, List.all_eq_true]
    exact fun i hi => decide_eq_true (h i (List.mem_range.mp hi))
  · rw [decide_eq_false h, List.all_eq_false]
    refine Classical.byContradiction fun hc => h fun i hi => Classical.byContradiction fun hne => hc ⟨i, List.mem_range.mpr hi, ?_⟩
    rw [decide_eq_false hne]
    decide
theorem fEq_lnil {n : Nat} {ds : List D} {ps : List PyData} {S : Sto} (h : DaL n ds ps) (hn : n < 64 := by decide) : fEq (.lst ds) (.lst []) S = some (.bl ds.isEmpty) := by
  rw [fEq_da h.lst (DaL.lst (n := 0) .nil) (by omega) (by decide)]
  show some (D.bl (PyData.eqvAll ps [])) = _
  rw [eqvAll_nil, toPs_len h.eq]
theorem fNe_lnil {n : Nat} {ds : List D} {ps : List PyData} {S : Sto} (h : DaL n ds ps) (hn : n < 64 := by decide) : fNe (.lst ds) (.lst []) S = some (.bl (!ds.isEmpty)) := by
  rw [fNe_da h.lst (DaL.lst (n := 0) .nil) (by omega) (by decide)]
  show some (D.bl (!PyData.eqvAll ps [])) = _
  rw [eqvAll_nil, toPs_len h.eq]
theorem filt_empty {α : Type} {m : Nat} {p : Nat → Bool} {r : Nat → α} : (((List.range m).filter p).map r).isEmpty = decide (∀ i, i < m → p i = false) := by
  by_cases h : ∀ i, i < m → p i = false
  · have e : (List.range m).filter p = [] := List.filter_eq_nil_iff.mpr fun i hi hp => by rw [h i (List.mem_range.mp hi)] at hp; cases hp
    rw [decide_eq_true h, e]
    rfl
  · rw [decide_eq_false h]
    have : ¬ (List.range m).filter p = [] := fun e => h fun i hi => by
      have := List.filter_eq_nil_iff.mp e i (List.mem_range.mpr hi)
      simpa using this
    cases hf : (List.range m).filter p with
    | nil => exact absurd hf this
    | cons a b => rfl
theorem filt_eq {n m : Nat} {p : Nat → Bool} {r : Nat → D} {g : Nat → PyData} {S : Sto} (h : ∀ i, Da n (r i) (g i)) (hn : n < 64 := by decide) : fEq (.lst (((List.range m).filter p).map r)) (.lst []) S = some (.bl (decide (∀ i, i < m → p i = false))) := by
  rw [fEq_lnil (DaL.map h _) hn, filt_empty]
theorem filt_ne {n m : Nat} {p : Nat → Bool} {r : Nat → D} {g : Nat → PyData} {S : Sto} (h : ∀ i, Da n (r i) (g i)) (hn : n < 64 := by decide) : fNe (.lst (((List.range m).filter p).map r)) (.lst []) S = some (.bl (!decide (∀ i, i < m → p i = false))) := by
  rw [fNe_lnil (DaL.map h _) hn, filt_empty]
theorem rs_update {f : Nat → Rat} {x : Rat} {i : Nat} : ∀ {m : Nat}, i < m → rs (fun c => if c = i then x else f c) m = rs f m - f i + x
  | m + 1, h => by
    show rs (fun c => if c = i then x else f c) m + (if m = i then x else f m) = rs f m + f m - f i + x
    by_cases e : m = i
    · subst e
      rw [if_pos rfl, rs_congr (f := fun c => if c = m then x else f c) (g := f) fun c hc => if_neg (by omega)]
      grind
    · rw [if_neg e, rs_update (m := m) (by omega)]
      grind
end PL

set_option maxRecDepth 100000
set_option maxHeartbeats 4000000
set_option pp.maxSteps 900
namespace LW
open PySem PySem.Spec PyProof.Rows L2 GX DL LamX
open Classical
def topS (i : Nat) : Stmt := PySem.Challenge.pw_moretold_k82_worth_step_by_step.main.body.getD i (.Pass ⟨0, 0, 0, 0⟩)
abbrev s_common_part : Stmt := topS 1
abbrev N_common_part : List Str := ["one", "other"]
theorem sc_common_part : FnScope N_common_part ["one", "other"] (defScope s_common_part) := sc_by (by decide +kernel)
theorem bd_common_part : BindsP s_common_part ["one", "other"] := fun _ _ _ _ _ _ _ us hl => match us, hl with | [_, _], _ => rfl
noncomputable def t_common_part : RS := (sSeq (sPar 0 1 (aCons (eA fAbs (aCons (eV 0) aNil)) (aCons (eA fAbs (aCons (eV 1) aNil)) aNil)))
    (sSeq (sWhile fuelI (tTru (eV 1)) (sPar 0 1 (aCons (eV 1) (aCons (e2 fMod (eV 0) (eV 1)) aNil))))
    (sRet (eV 0))))
noncomputable def F_common_part : FD := fnD 2 2 finP t_common_part
abbrev s_lowest : Stmt := topS 2
abbrev N_lowest : List Str := ["top", "bottom", "part"]
theorem sc_lowest : FnScope N_lowest ["top", "bottom"] (defScope s_lowest) := sc_by (by decide +kernel)
theorem bd_lowest : BindsP s_lowest ["top", "bottom"] := fun _ _ _ _ _ _ _ us hl => match us, hl with | [_, _], _ => rfl
noncomputable def t_lowest : RS := (sSeq (sSet 2 (eA F_common_part (aCons (eV 0) (aCons (eV 1) aNil))))
    (sSeq (sIf (tBl (e2 (fCmp fun i j => decide (i < j)) (eV 1) (eC (.int 0)))) (sSet 2 (e1 fNeg (eV 2))) sPass)
    (sRet (eA fTup (aCons (e2 fDiv (eV 0) (eV 2)) (aCons (e2 fDiv (eV 1) (eV 2)) aNil))))))
noncomputable def F_lowest : FD := fnD 2 3 finP t_lowest
abbrev s_bottom_of : Stmt := topS 3
abbrev N_bottom_of : List Str := ["fractions", "bottom", "one"]
theorem sc_bottom_of : FnScope N_bottom_of ["fractions"] (defScope s_bottom_of) := sc_by (by decide +kernel)
theorem bd_bottom_of : BindsP s_bottom_of ["fractions"] := fun _ _ _ _ _ _ _ us hl => match us, hl with | [_], _ => rfl
noncomputable def t_bottom_of : RS := (sSeq (sSet 1 (eC (.int 1)))
    (sSeq (sFor (iSeq (eV 0)) (gNm 2) (sSet 1 (e2s (fTimes fLst) (e2 fDiv (eV 1) (eA F_common_part (aCons (eV 1) (aCons (e2 fIx (eV 2) (eC (.int 1))) aNil)))) (e2 fIx (eV 2) (eC (.int 1))))))
    (sRet (eV 1))))
noncomputable def F_bottom_of : FD := fnD 1 3 finP t_bottom_of
abbrev s_wholes : Stmt := topS 4
abbrev N_wholes : List Str := ["fractions", "bottom", "one"]
theorem sc_wholes : FnScope N_wholes ["fractions", "bottom"] (defScope s_wholes) := sc_by (by decide +kernel)
theorem bd_wholes : BindsP s_wholes ["fractions", "bottom"] := fun _ _ _ _ _ _ _ us hl => match us, hl with | [_, _], _ => rfl
noncomputable def t_wholes : RS := (sRet (eLc fTup (iSeq (eV 0)) (gNm 2) tYesD (e2s (fTimes fLst) (e2 fIx (eV 2) (eC (.int 0))) (e2 fDiv (eV 1) (e2 fIx (eV 2) (eC (.int 1))))) [2]))
noncomputable def F_wholes : FD := fnD 2 3 finP t_wholes
abbrev s_rows_over : Stmt := topS 5
abbrev N_rows_over : List Str := ["rows", "bottom", "row", "one"]
theorem sc_rows_over : FnScope N_rows_over ["rows"] (defScope s_rows_over) := sc_by (by decide +kernel)
theorem bd_rows_over : BindsP s_rows_over ["rows"] := fun _ _ _ _ _ _ _ us hl => match us, hl with | [_], _ => rfl
noncomputable def t_rows_over : RS := (sSeq (sSet 1 (eA F_bottom_of (aCons (eLc2 fLst (iSeq (eV 0)) (gNm 2) tYesD (iSeq (eV 2)) (gNm 3) tYesD (eV 3) [2, 3] [3]) aNil)))
    (sRet (eA fTup (aCons (eV 1) (aCons (eLc fTup (iSeq (eV 0)) (gNm 2) tYesD (eA F_wholes (aCons (eV 2) (aCons (eV 1) aNil))) [2]) aNil)))))
noncomputable def F_rows_over : FD := fnD 1 4 finP t_rows_over
abbrev s__check_sizes : Stmt := topS 11
abbrev N__check_sizes : List Str := ["telling"]
theorem sc__check_sizes : FnScope N__check_sizes ["telling"] (defScope s__check_sizes) := sc_by (by decide +kernel)
theorem bd__check_sizes : BindsP s__check_sizes ["telling"] := fun _ _ _ _ _ _ _ us hl => match us, hl with | [_], _ => rfl
noncomputable def t__check_sizes : RS := (sIf (tOrD (tBl (e2 (fCmp fun i j => decide (j < i)) (eA fLen (aCons (eV 0) aNil)) (eC (.int 4)))) (tBl (e2 (fCmp fun i j => decide (j < i)) (eA fLen (aCons (e2 fIx (eV 0) (eC (.int 0))) aNil)) (eC (.int 4))))) sNever sPass)
noncomputable def F__check_sizes : FD := fnD 1 1 finP t__check_sizes
noncomputable def x__check_sizes : RX := (xIf (tOrD (tBl (e2 (fCmp fun i j => decide (j < i)) (eA fLen (aCons (eV 0) aNil)) (eC (.int 4)))) (tBl (e2 (fCmp fun i j => decide (j < i)) (eA fLen (aCons (e2 fIx (eV 0) (eC (.int 0))) aNil)) (eC (.int 4))))) xRaise xNo)
noncomputable def Fx__check_sizes : FX := xD 1 1 x__check_sizes
abbrev s__changed : Stmt := topS 12
abbrev N__changed : List Str := ["numbers", "moves", "at", "one", "row"]
theorem sc__changed : FnScope N__changed ["numbers", "moves"] (defScope s__changed) := sc_by (by decide +kernel)
theorem bd__changed : BindsP s__changed ["numbers", "moves"] := fun _ _ _ _ _ _ _ us hl => match us, hl with | [_, _], _ => rfl
noncomputable def t__changed : RS := (sRet (eLc fLst (iRange1 (eA fLen (aCons (eV 1) aNil))) (gNm 2) tYesD (eA fSum (aCons (eLc fLst (iZip (aCons (eV 0) (aCons (eV 1) aNil))) (gTp 2 (gsCons (gNm 3) (gsCons (gNm 4) gsNil))) tYesD (e2s (fTimes fLst) (eV 3) (e2 fIx (eV 4) (eV 2))) [3, 4]) aNil)) [2]))
noncomputable def F__changed : FD := fnD 2 5 finP t__changed
abbrev s__heard : Stmt := topS 13
abbrev N__heard : List Str := ["numbers", "chances", "sign", "one", "row"]
theorem sc__heard : FnScope N__heard ["numbers", "chances", "sign"] (defScope s__heard) := sc_by (by decide +kernel)
theorem bd__heard : BindsP s__heard ["numbers", "chances", "sign"] := fun _ _ _ _ _ _ _ us hl => match us, hl with | [_, _, _], _ => rfl
noncomputable def t__heard : RS := (sRet (eLc fLst (iZip (aCons (eV 0) (aCons (eV 1) aNil))) (gTp 2 (gsCons (gNm 3) (gsCons (gNm 4) gsNil))) tYesD (e2s (fTimes fLst) (eV 3) (e2 fIx (eV 4) (eV 2))) [3, 4]))
noncomputable def F__heard : FD := fnD 3 5 finP t__heard
abbrev s__all_heard : Stmt := topS 14
abbrev N__all_heard : List Str := ["lots", "chances", "numbers", "sign"]
theorem sc__all_heard : FnScope N__all_heard ["lots", "chances"] (defScope s__all_heard) := sc_by (by decide +kernel)
theorem bd__all_heard : BindsP s__all_heard ["lots", "chances"] := fun _ _ _ _ _ _ _ us hl => match us, hl with | [_, _], _ => rfl
noncomputable def t__all_heard : RS := (sRet (eLc2 fLst (iSeq (eV 0)) (gNm 2) tYesD (iRange1 (eA fLen (aCons (e2 fIx (eV 1) (eC (.int 0))) aNil))) (gNm 3) tYesD (eA F__heard (aCons (eV 2) (aCons (eV 1) (aCons (eV 3) aNil)))) [2, 3] [3]))
noncomputable def F__all_heard : FD := fnD 2 4 finP t__all_heard
abbrev s__best : Stmt := topS 15
abbrev N__best : List Str := ["numbers", "rows", "act", "one", "row"]
theorem sc__best : FnScope N__best ["numbers", "rows"] (defScope s__best) := sc_by (by decide +kernel)
theorem bd__best : BindsP s__best ["numbers", "rows"] := fun _ _ _ _ _ _ _ us hl => match us, hl with | [_, _], _ => rfl
noncomputable def t__best : RS := (sRet (eA fMax1 (aCons (eLc fLst (iRange1 (eA fLen (aCons (e2 fIx (eV 1) (eC (.int 0))) aNil))) (gNm 2) tYesD (eA fSum (aCons (eLc fLst (iZip (aCons (eV 0) (aCons (eV 1) aNil))) (gTp 2 (gsCons (gNm 3) (gsCons (gNm 4) gsNil))) tYesD (e2s (fTimes fLst) (eV 3) (e2 fIx (eV 4) (eV 2))) [3, 4]) aNil)) [2]) aNil)))
noncomputable def F__best : FD := fnD 2 5 finP t__best
abbrev s_step_worth : Stmt := topS 16
abbrev N_step_worth : List Str := ["weights", "change", "telling", "gains", "steps", "bottom", "under", "moves", "low", "chances", "high", "rows", "lots", "gained", "numbers", "_"]
theorem sc_step_worth : FnScope N_step_worth ["weights", "change", "telling", "gains", "steps"] (defScope s_step_worth) := sc_by (by decide +kernel)
theorem bd_step_worth : BindsP s_step_worth ["weights", "change", "telling", "gains", "steps"] := fun _ _ _ _ _ _ _ us hl => match us, hl with | [_, _, _, _, _], _ => rfl
noncomputable def t_step_worth : RS := (sSeq (sExpr (eA F__check_sizes (aCons (eV 2) aNil)))
    (sSeq (sSet 5 (eA F_bottom_of (aCons (eV 0) aNil)))
    (sSeq (sAsg (eA F_rows_over (aCons (eV 1) aNil)) (gTp 2 (gsCons (gNm 6) (gsCons (gNm 7) gsNil))))
    (sSeq (sAsg (eA F_rows_over (aCons (eV 2) aNil)) (gTp 2 (gsCons (gNm 8) (gsCons (gNm 9) gsNil))))
    (sSeq (sAsg (eA F_rows_over (aCons (eV 3) aNil)) (gTp 2 (gsCons (gNm 10) (gsCons (gNm 11) gsNil))))
    (sSeq (sAug 5 fMul (e2s (fTimes fLst) (eV 8) (eV 10)))
    (sSeq (sSet 12 (eA F__all_heard (aCons (eA fLst (aCons (eA F_wholes (aCons (eV 0) (aCons (eA F_bottom_of (aCons (eV 0) aNil)) aNil))) aNil)) (aCons (eV 9) aNil))))
    (sSeq (sSet 13 (eA fSum (aCons (eLc fLst (iSeq (eV 12)) (gNm 14) tYesD (eA F__best (aCons (eV 14) (aCons (eV 11) aNil))) [14]) aNil)))
    (sSeq (sFor (iRange1 (e2 fSub (eV 4) (eC (.int 1)))) (gNm 15) (sSeq (sSet 12 (eA F__all_heard (aCons (eLc fLst (iSeq (eV 12)) (gNm 14) tYesD (eA F__changed (aCons (eV 14) (aCons (eV 7) aNil))) [14]) (aCons (eV 9) aNil))))
    (sSeq (sSet 13 (e2s (fPlus fLst) (e2s (fTimes fLst) (e2s (fTimes fLst) (eV 13) (eV 6)) (eV 8)) (eA fSum (aCons (eLc fLst (iSeq (eV 12)) (gNm 14) tYesD (eA F__best (aCons (eV 14) (aCons (eV 11) aNil))) [14]) aNil))))
    (sAug 5 fMul (e2s (fTimes fLst) (eV 6) (eV 8))))))
    (sRet (eA F_lowest (aCons (eV 13) (aCons (eV 5) aNil)))))))))))))
noncomputable def F_step_worth : FD := fnD 5 16 finP t_step_worth
noncomputable def x_step_worth : RX := (xCall Fx__check_sizes (aCons (eV 2) aNil))
noncomputable def Fx_step_worth : FX := xD 5 16 x_step_worth
abbrev s__law_pool : Stmt := topS 18
abbrev N__law_pool : List Str := ["script"]
theorem sc__law_pool : FnScope N__law_pool ["script"] (defScope s__law_pool) := sc_by (by decide +kernel)
theorem bd__law_pool : BindsP s__law_pool ["script"] := fun _ _ _ _ _ _ _ us hl => match us, hl with | [_], _ => rfl
noncomputable def t__law_pool : RS := (sRet (e2s (fPlus fObj) (eA fLst (aCons (eC (.int 0)) (aCons (eC (.int 7)) (aCons (eC (.int 3)) aNil)))) (eA fListF (aCons (eV 0) aNil))))
noncomputable def F__law_pool : FD := fnD 1 1 finK t__law_pool
abbrev s__law_draw : Stmt := topS 19
abbrev N__law_draw : List Str := ["pool", "many", "cell", "digit", "mixed"]
theorem sc__law_draw : FnScope N__law_draw ["pool", "many"] (defScope s__law_draw) := sc_by (by decide +kernel)
theorem bd__law_draw : BindsP s__law_draw ["pool", "many"] := fun _ _ _ _ _ _ _ us hl => match us, hl with | [_, _], _ => rfl
noncomputable def t__law_draw : RS := (sSeq (sIf (tAndD (tBl (e2 fEq (e2 fIx (eV 0) (eC (.int 0))) (eC (.int 0)))) (tBl (e2 (fCmp fun i j => decide (i < j)) (e2 fIx (eV 0) (eC (.int 2))) (eA fLen (aCons (eV 0) aNil))))) (sSeq (sSet 2 (e2 fIx (eV 0) (e2 fIx (eV 0) (eC (.int 2)))))
    (sSeq (sAsg (e2s (fPlus fLst) (e2 fIx (eV 0) (eC (.int 2))) (eC (.int 1))) (gIx (eV 0) (eC (.int 2))))
    (sSeq (sAsg (e2 fMod (eA fInt1 (aCons (e2s (fPlus fLst) (e2s (fTimes fLst) (e2 fIx (eV 0) (eC (.int 1))) (eC (.int 31))) (eV 2)) aNil)) (eC (.int 2147483647))) (gIx (eV 0) (eC (.int 1))))
    (sIf (tBl (e2 (fCmp fun i j => decide (j ≤ i)) (eA fAbs (aCons (eV 2) aNil)) (e2 fPow (eC (.int 10)) (eC (.int 18))))) (sAsg (eA fAbs (aCons (eV 2) aNil)) (gIx (eV 0) (eC (.int 0)))) sPass)))) sPass)
    (sSeq (sIf (tBl (e2 (fCmp fun i j => decide (j < i)) (e2 fIx (eV 0) (eC (.int 0))) (eC (.int 0)))) (sSeq (sSet 3 (e2 fMod (eA fInt1 (aCons (e2 fIx (eV 0) (eC (.int 0))) aNil)) (eV 1)))
    (sSeq (sAsg (e2 fDiv (e2 fIx (eV 0) (eC (.int 0))) (eV 1)) (gIx (eV 0) (eC (.int 0))))
    (sRet (eV 3)))) sPass)
    (sSeq (sAsg (e2 fMod (eA fInt1 (aCons (e2s (fPlus fLst) (e2s (fTimes fLst) (e2 fIx (eV 0) (eC (.int 1))) (eC (.int 48271))) (eC (.int 12345))) aNil)) (eC (.int 2147483647))) (gIx (eV 0) (eC (.int 1))))
    (sSeq (sSet 4 (e2 fMod (eA fInt1 (aCons (e2s (fPlus fLst) (e2s (fPlus fLst) (e2s (fTimes fLst) (e2 fIx (eV 0) (eC (.int 1))) (eC (.int 69621))) (e2 fDiv (e2 fIx (eV 0) (eC (.int 1))) (eC (.int 65536)))) (eC (.int 17))) aNil)) (eC (.int 2147483629))))
    (sRet (e2 fMod (eA fInt1 (aCons (e2 fDiv (eV 4) (eC (.int 16))) aNil)) (eV 1)))))))
noncomputable def F__law_draw : FD := fnD 2 5 finM t__law_draw
abbrev s__law_pick : Stmt := topS 20
abbrev N__law_pick : List Str := ["pool", "things"]
theorem sc__law_pick : FnScope N__law_pick ["pool", "things"] (defScope s__law_pick) := sc_by (by decide +kernel)
theorem bd__law_pick : BindsP s__law_pick ["pool", "things"] := fun _ _ _ _ _ _ _ us hl => match us, hl with | [_, _], _ => rfl
noncomputable def t__law_pick : RS := (sRet (e2 fIx (eV 1) (eA F__law_draw (aCons (eV 0) (aCons (eA fLen (aCons (eV 1) aNil)) aNil)))))
noncomputable def F__law_pick : FD := fnD 2 2 finM t__law_pick
abbrev s__law_same : Stmt := topS 21
abbrev N__law_same : List Str := ["told", "due", "k"]
theorem sc__law_same : FnScope N__law_same ["told", "due"] (defScope s__law_same) := sc_by (by decide +kernel)
theorem bd__law_same : BindsP s__law_same ["told", "due"] := fun _ _ _ _ _ _ _ us hl => match us, hl with | [_, _], _ => rfl
noncomputable def t__law_same (self : FD) : RS := (sSeq (sIf (tTru (e1 (fIsi "tuple") (eV 1))) (sSeq (sIf (tOrD (tNotD (tTru (e1 (fIsi "tuple") (eV 0)))) (tBl (e2 fNe (eA fLen (aCons (eV 0) aNil)) (eA fLen (aCons (eV 1) aNil))))) (sRet (eC (.bl false))) sPass)
    (sRet (e2 fEq (eLc fLst (iRange1 (eA fLen (aCons (eV 1) aNil))) (gNm 2) (tNotD (tTru (eA self (aCons (e2 fIx (eV 0) (eV 2)) (aCons (e2 fIx (eV 1) (eV 2)) aNil))))) (eV 2) [2]) (eA fLst aNil)))) sPass)
    (sSeq (sIf (tTru (e1 (fIsi "str") (eV 1))) (sRet (eAnd (e1 (fIsi "str") (eV 0)) (e2 fEq (eV 0) (eV 1)))) sPass)
    (sSeq (sIf (tBl (e2 fIsN (eV 1) (eC .non))) (sRet (e2 fIsN (eV 0) (eC .non))) sPass)
    (sRet (eAnd (e1 (fIsi "int") (eV 0)) (eAnd (e2 fEq (e1 (fIsi "bool") (eV 0)) (e1 (fIsi "bool") (eV 1))) (e2 fEq (eV 0) (eV 1))))))))
noncomputable def F__law_same : Nat → FD
  | 0 => fun _ _ => none
  | m + 1 => fnD 2 3 finP (t__law_same (F__law_same m))
abbrev s__law_fraction : Stmt := topS 22
abbrev N__law_fraction : List Str := ["over", "under", "one", "other", "turn", "sign"]
theorem sc__law_fraction : FnScope N__law_fraction ["over", "under"] (defScope s__law_fraction) := sc_by (by decide +kernel)
theorem bd__law_fraction : BindsP s__law_fraction ["over", "under"] := fun _ _ _ _ _ _ _ us hl => match us, hl with | [_, _], _ => rfl
noncomputable def t__law_fraction : RS := (sSeq (sPar 2 3 (aCons (eA fAbs (aCons (eV 0) aNil)) (aCons (eA fAbs (aCons (eV 1) aNil)) aNil)))
    (sSeq (sFor (iRange1 (eC (.int 20000))) (gNm 4) (sSeq (sIf (tBl (e2 fEq (eV 3) (eC (.int 0)))) sBreak sPass)
    (sPar 2 3 (aCons (eV 3) (aCons (e2 fMod (eA fInt1 (aCons (eV 2) aNil)) (eV 3)) aNil)))))
    (sSeq (sSet 5 (eIf (tBl (e2 (fCmp fun i j => decide (j < i)) (eV 1) (eC (.int 0)))) (eC (.int 1)) (e1 fNeg (eC (.int 1)))))
    (sRet (eA fTup (aCons (e2 fDiv (e2s (fTimes fLst) (eV 5) (eV 0)) (eA fMax2 (aCons (eC (.int 1)) (aCons (eV 2) aNil)))) (aCons (e2 fDiv (eA fAbs (aCons (eV 1) aNil)) (eA fMax2 (aCons (eC (.int 1)) (aCons (eV 2) aNil)))) aNil)))))))
noncomputable def F__law_fraction : FD := fnD 2 6 finP t__law_fraction
abbrev s__law_plus : Stmt := topS 23
abbrev N__law_plus : List Str := ["a", "b"]
theorem sc__law_plus : FnScope N__law_plus ["a", "b"] (defScope s__law_plus) := sc_by (by decide +kernel)
theorem bd__law_plus : BindsP s__law_plus ["a", "b"] := fun _ _ _ _ _ _ _ us hl => match us, hl with | [_, _], _ => rfl
noncomputable def t__law_plus : RS := (sRet (eA F__law_fraction (aCons (e2s (fPlus fLst) (e2s (fTimes fLst) (e2 fIx (eV 0) (eC (.int 0))) (e2 fIx (eV 1) (eC (.int 1)))) (e2s (fTimes fLst) (e2 fIx (eV 1) (eC (.int 0))) (e2 fIx (eV 0) (eC (.int 1))))) (aCons (e2s (fTimes fLst) (e2 fIx (eV 0) (eC (.int 1))) (e2 fIx (eV 1) (eC (.int 1)))) aNil))))
noncomputable def F__law_plus : FD := fnD 2 2 finP t__law_plus
abbrev s__law_times : Stmt := topS 24
abbrev N__law_times : List Str := ["a", "b"]
theorem sc__law_times : FnScope N__law_times ["a", "b"] (defScope s__law_times) := sc_by (by decide +kernel)
theorem bd__law_times : BindsP s__law_times ["a", "b"] := fun _ _ _ _ _ _ _ us hl => match us, hl with | [_, _], _ => rfl
noncomputable def t__law_times : RS := (sRet (eA F__law_fraction (aCons (e2s (fTimes fLst) (e2 fIx (eV 0) (eC (.int 0))) (e2 fIx (eV 1) (eC (.int 0)))) (aCons (e2s (fTimes fLst) (e2 fIx (eV 0) (eC (.int 1))) (e2 fIx (eV 1) (eC (.int 1)))) aNil))))
noncomputable def F__law_times : FD := fnD 2 2 finP t__law_times
abbrev s__law_less : Stmt := topS 25
abbrev N__law_less : List Str := ["a", "b"]
theorem sc__law_less : FnScope N__law_less ["a", "b"] (defScope s__law_less) := sc_by (by decide +kernel)
theorem bd__law_less : BindsP s__law_less ["a", "b"] := fun _ _ _ _ _ _ _ us hl => match us, hl with | [_, _], _ => rfl
noncomputable def t__law_less : RS := (sRet (eA F__law_fraction (aCons (e2 fSub (e2s (fTimes fLst) (e2 fIx (eV 0) (eC (.int 0))) (e2 fIx (eV 1) (eC (.int 1)))) (e2s (fTimes fLst) (e2 fIx (eV 1) (eC (.int 0))) (e2 fIx (eV 0) (eC (.int 1))))) (aCons (e2s (fTimes fLst) (e2 fIx (eV 0) (eC (.int 1))) (e2 fIx (eV 1) (eC (.int 1)))) aNil))))
noncomputable def F__law_less : FD := fnD 2 2 finP t__law_less
abbrev s__law_total : Stmt := topS 26
abbrev N__law_total : List Str := ["some", "found", "one"]
theorem sc__law_total : FnScope N__law_total ["some"] (defScope s__law_total) := sc_by (by decide +kernel)
theorem bd__law_total : BindsP s__law_total ["some"] := fun _ _ _ _ _ _ _ us hl => match us, hl with | [_], _ => rfl
noncomputable def t__law_total : RS := (sSeq (sSet 1 (eA fTup (aCons (eC (.int 0)) (aCons (eC (.int 1)) aNil))))
    (sSeq (sFor (iSeq (eV 0)) (gNm 2) (sSet 1 (eA F__law_plus (aCons (eV 1) (aCons (eV 2) aNil)))))
    (sRet (eV 1))))
noncomputable def F__law_total : FD := fnD 1 3 finP t__law_total
abbrev s__law_row : Stmt := topS 27
abbrev N__law_row : List Str := ["pool", "many", "numbers", "k", "number"]
theorem sc__law_row : FnScope N__law_row ["pool", "many"] (defScope s__law_row) := sc_by (by decide +kernel)
theorem bd__law_row : BindsP s__law_row ["pool", "many"] := fun _ _ _ _ _ _ _ us hl => match us, hl with | [_, _], _ => rfl
noncomputable def t__law_row : RS := (sSeq (sSet 2 (eLc fObj (iRange1 (eV 1)) (gNm 3) tYesD (eA F__law_pick (aCons (eV 0) (aCons (eA fLst (aCons (eC (.int 0)) (aCons (eC (.int 0)) (aCons (eC (.int 1)) (aCons (eC (.int 1)) (aCons (eC (.int 2)) (aCons (eC (.int 3)) (aCons (eC (.int 5)) aNil)))))))) aNil))) [3]))
    (sSeq (sIf (tBl (e2 fEq (eA fSum (aCons (eV 2) aNil)) (eC (.int 0)))) (sAsg (eC (.int 1)) (gIx (eV 2) (eA F__law_draw (aCons (eV 0) (aCons (eV 1) aNil))))) sPass)
    (sRet (eA fTupOf (aCons (eLc fLst (iSeq (eV 2)) (gNm 4) tYesD (eA F__law_fraction (aCons (eV 4) (aCons (eA fSum (aCons (eV 2) aNil)) aNil))) [4]) aNil)))))
noncomputable def F__law_row : FD := fnD 2 5 finM t__law_row
abbrev s__law_telling : Stmt := topS 28
abbrev N__law_telling : List Str := ["pool", "worlds", "signs", "rows", "w"]
theorem sc__law_telling : FnScope N__law_telling ["pool", "worlds", "signs"] (defScope s__law_telling) := sc_by (by decide +kernel)
theorem bd__law_telling : BindsP s__law_telling ["pool", "worlds", "signs"] := fun _ _ _ _ _ _ _ us hl => match us, hl with | [_, _, _], _ => rfl
noncomputable def t__law_telling : RS := (sSeq (sSet 3 (eLc fObj (iRange1 (eV 1)) (gNm 4) tYesD (eA F__law_row (aCons (eV 0) (aCons (eV 2) aNil))) [4]))
    (sSeq (sIf (tAndD (tBl (e2 (fCmp fun i j => decide (j < i)) (eV 1) (eC (.int 1)))) (tBl (e2 fEq (eA F__law_draw (aCons (eV 0) (aCons (eC (.int 4)) aNil))) (eC (.int 0))))) (sAsg (e2 fIx (eV 3) (eA F__law_draw (aCons (eV 0) (aCons (eV 1) aNil)))) (gIx (eV 3) (eA F__law_draw (aCons (eV 0) (aCons (eV 1) aNil))))) sPass)
    (sRet (eA fTupOf (aCons (eV 3) aNil)))))
noncomputable def F__law_telling : FD := fnD 3 5 finM t__law_telling
abbrev s__law_gains : Stmt := topS 29
abbrev N__law_gains : List Str := ["pool", "worlds", "acts", "found", "w", "a"]
theorem sc__law_gains : FnScope N__law_gains ["pool", "worlds", "acts"] (defScope s__law_gains) := sc_by (by decide +kernel)
theorem bd__law_gains : BindsP s__law_gains ["pool", "worlds", "acts"] := fun _ _ _ _ _ _ _ us hl => match us, hl with | [_, _, _], _ => rfl
noncomputable def t__law_gains : RS := (sSeq (sSet 3 (eA fObj aNil))
    (sSeq (sFor (iRange1 (eV 1)) (gNm 4) (sExpr (eM fAppend (eV 3) (aCons (eA fTupOf (aCons (eLc fLst (iRange1 (eV 2)) (gNm 5) tYesD (eA F__law_fraction (aCons (e2 fSub (eA F__law_draw (aCons (eV 0) (aCons (eC (.int 9)) aNil))) (eC (.int 4))) (aCons (eA F__law_pick (aCons (eV 0) (aCons (eA fLst (aCons (eC (.int 1)) (aCons (eC (.int 1)) (aCons (eC (.int 1)) (aCons (eC (.int 2)) (aCons (eC (.int 3)) aNil)))))) aNil))) aNil))) [5]) aNil)) aNil))))
    (sRet (eA fTupOf (aCons (eV 3) aNil)))))
noncomputable def F__law_gains : FD := fnD 3 6 finM t__law_gains
abbrev s__law_change : Stmt := topS 30
abbrev N__law_change : List Str := ["pool", "worlds", "w", "v"]
theorem sc__law_change : FnScope N__law_change ["pool", "worlds"] (defScope s__law_change) := sc_by (by decide +kernel)
theorem bd__law_change : BindsP s__law_change ["pool", "worlds"] := fun _ _ _ _ _ _ _ us hl => match us, hl with | [_, _], _ => rfl
noncomputable def t__law_change : RS := (sSeq (sIf (tBl (e2 fEq (eA F__law_draw (aCons (eV 0) (aCons (eC (.int 4)) aNil))) (eC (.int 0)))) (sRet (eA fTupOf (aCons (eLc fLst (iRange1 (eV 1)) (gNm 2) tYesD (eA fTupOf (aCons (eLc fLst (iRange1 (eV 1)) (gNm 3) tYesD (eIf (tBl (e2 fEq (eV 2) (eV 3))) (eA fTup (aCons (eC (.int 1)) (aCons (eC (.int 1)) aNil))) (eA fTup (aCons (eC (.int 0)) (aCons (eC (.int 1)) aNil)))) [3]) aNil)) [2]) aNil))) sPass)
    (sRet (eA fTupOf (aCons (eLc fLst (iRange1 (eV 1)) (gNm 2) tYesD (eA F__law_row (aCons (eV 0) (aCons (eV 1) aNil))) [2]) aNil))))
noncomputable def F__law_change : FD := fnD 2 4 finM t__law_change
abbrev s__law_moved : Stmt := topS 31
abbrev N__law_moved : List Str := ["change", "numbers", "found", "v", "w"]
theorem sc__law_moved : FnScope N__law_moved ["change", "numbers"] (defScope s__law_moved) := sc_by (by decide +kernel)
theorem bd__law_moved : BindsP s__law_moved ["change", "numbers"] := fun _ _ _ _ _ _ _ us hl => match us, hl with | [_, _], _ => rfl
noncomputable def t__law_moved : RS := (sSeq (sSet 2 (eA fObj aNil))
    (sSeq (sFor (iRange1 (eA fLen (aCons (eV 0) aNil))) (gNm 3) (sExpr (eM fAppend (eV 2) (aCons (eA F__law_total (aCons (eLc fLst (iRange1 (eA fLen (aCons (eV 0) aNil))) (gNm 4) tYesD (eA F__law_times (aCons (e2 fIx (eV 1) (eV 4)) (aCons (e2 fIx (e2 fIx (eV 0) (eV 4)) (eV 3)) aNil))) [4]) aNil)) aNil))))
    (sRet (eV 2))))
noncomputable def F__law_moved : FD := fnD 2 5 finP t__law_moved
abbrev s__law_joint : Stmt := topS 32
abbrev N__law_joint : List Str := ["weights", "change", "telling", "signs", "numbers", "k", "w"]
theorem sc__law_joint : FnScope N__law_joint ["weights", "change", "telling", "signs"] (defScope s__law_joint) := sc_by (by decide +kernel)
theorem bd__law_joint : BindsP s__law_joint ["weights", "change", "telling", "signs"] := fun _ _ _ _ _ _ _ us hl => match us, hl with | [_, _, _, _], _ => rfl
noncomputable def t__law_joint : RS := (sSeq (sSet 4 (eA fListF (aCons (eV 0) aNil)))
    (sSeq (sFor (iRange1 (eA fLen (aCons (eV 3) aNil))) (gNm 5) (sSeq (sIf (tBl (e2 (fCmp fun i j => decide (j < i)) (eV 5) (eC (.int 0)))) (sSet 4 (eA F__law_moved (aCons (eV 1) (aCons (eV 4) aNil)))) sPass)
    (sSet 4 (eLc fLst (iRange1 (eA fLen (aCons (eV 4) aNil))) (gNm 6) tYesD (eA F__law_times (aCons (e2 fIx (eV 4) (eV 6)) (aCons (e2 fIx (e2 fIx (eV 2) (eV 6)) (e2 fIx (eV 3) (eV 5))) aNil))) [6]))))
    (sRet (eV 4))))
noncomputable def F__law_joint : FD := fnD 4 7 finP t__law_joint
abbrev s__law_rows_of : Stmt := topS 33
abbrev N__law_rows_of : List Str := ["signs", "steps", "found", "k", "longer", "row", "s"]
theorem sc__law_rows_of : FnScope N__law_rows_of ["signs", "steps"] (defScope s__law_rows_of) := sc_by (by decide +kernel)
theorem bd__law_rows_of : BindsP s__law_rows_of ["signs", "steps"] := fun _ _ _ _ _ _ _ us hl => match us, hl with | [_, _], _ => rfl
noncomputable def t__law_rows_of : RS := (sSeq (sSet 2 (eA fLst (aCons (eA fTup aNil) aNil)))
    (sSeq (sFor (iRange1 (eV 1)) (gNm 3) (sSeq (sSet 4 (eA fLst aNil))
    (sSeq (sFor (iSeq (eV 2)) (gNm 5) (sSet 4 (e2s (fPlus fLst) (eV 4) (eLc fLst (iRange1 (eV 0)) (gNm 6) tYesD (e2s (fPlus fLst) (eV 5) (eA fTup (aCons (eV 6) aNil))) [6]))))
    (sSet 2 (eV 4)))))
    (sRet (eV 2))))
noncomputable def F__law_rows_of : FD := fnD 2 7 finP t__law_rows_of
abbrev s__law_worth : Stmt := topS 34
abbrev N__law_worth : List Str := ["weights", "change", "telling", "gains", "steps", "found", "many", "signs", "a", "joint", "best", "here", "w"]
theorem sc__law_worth : FnScope N__law_worth ["weights", "change", "telling", "gains", "steps"] (defScope s__law_worth) := sc_by (by decide +kernel)
theorem bd__law_worth : BindsP s__law_worth ["weights", "change", "telling", "gains", "steps"] := fun _ _ _ _ _ _ _ us hl => match us, hl with | [_, _, _, _, _], _ => rfl
noncomputable def t__law_worth : RS := (sSeq (sSet 5 (eA fObj aNil))
    (sSeq (sFor (iRange2 (eC (.int 1)) (e2s (fPlus fLst) (eV 4) (eC (.int 1)))) (gNm 6) (sFor (iSeq (eA F__law_rows_of (aCons (eA fLen (aCons (e2 fIx (eV 2) (eC (.int 0))) aNil)) (aCons (eV 6) aNil)))) (gNm 7) (sSeq (sAsg (eA fTup (aCons (eA F__law_joint (aCons (eV 0) (aCons (eV 1) (aCons (eV 2) (aCons (eV 7) aNil))))) (aCons (eC .non) aNil))) (gTp 2 (gsCons (gNm 9) (gsCons (gNm 10) gsNil))))
    (sSeq (sFor (iRange1 (eA fLen (aCons (e2 fIx (eV 3) (eC (.int 0))) aNil))) (gNm 8) (sSeq (sSet 11 (eA F__law_total (aCons (eLc fLst (iRange1 (eA fLen (aCons (eV 9) aNil))) (gNm 12) tYesD (eA F__law_times (aCons (e2 fIx (eV 9) (eV 12)) (aCons (e2 fIx (e2 fIx (eV 3) (eV 12)) (eV 8)) aNil))) [12]) aNil)))
    (sIf (tOrD (tBl (e2 fIsN (eV 10) (eC .non))) (tBl (e2 (fCmp fun i j => decide (j < i)) (e2 fIx (eA F__law_less (aCons (eV 11) (aCons (eV 10) aNil))) (eC (.int 0))) (eC (.int 0))))) (sSet 10 (eV 11)) sPass)))
    (sExpr (eM fAppend (eV 5) (aCons (eV 10) aNil)))))))
    (sRet (eA F__law_total (aCons (eV 5) aNil)))))
noncomputable def F__law_worth : FD := fnD 5 13 finP t__law_worth
abbrev s__law_garbled : Stmt := topS 35
abbrev N__law_garbled : List Str := ["telling", "table", "found", "row", "j", "s"]
theorem sc__law_garbled : FnScope N__law_garbled ["telling", "table"] (defScope s__law_garbled) := sc_by (by decide +kernel)
theorem bd__law_garbled : BindsP s__law_garbled ["telling", "table"] := fun _ _ _ _ _ _ _ us hl => match us, hl with | [_, _], _ => rfl
noncomputable def t__law_garbled : RS := (sSeq (sSet 2 (eA fObj aNil))
    (sSeq (sFor (iSeq (eV 0)) (gNm 3) (sExpr (eM fAppend (eV 2) (aCons (eA fTupOf (aCons (eLc fLst (iRange1 (eA fLen (aCons (e2 fIx (eV 1) (eC (.int 0))) aNil))) (gNm 4) tYesD (eA F__law_total (aCons (eLc fLst (iRange1 (eA fLen (aCons (eV 3) aNil))) (gNm 5) tYesD (eA F__law_times (aCons (e2 fIx (eV 3) (eV 5)) (aCons (e2 fIx (e2 fIx (eV 1) (eV 5)) (eV 4)) aNil))) [5]) aNil)) [4]) aNil)) aNil))))
    (sRet (eA fTupOf (aCons (eV 2) aNil)))))
noncomputable def F__law_garbled : FD := fnD 2 6 finP t__law_garbled
abbrev s__law_is_far : Stmt := topS 36
abbrev N__law_is_far : List Str := ["worlds", "signs", "rows", "w", "s", "change", "v"]
theorem sc__law_is_far : FnScope N__law_is_far ["worlds", "signs"] (defScope s__law_is_far) := sc_by (by decide +kernel)
theorem bd__law_is_far : BindsP s__law_is_far ["worlds", "signs"] := fun _ _ _ _ _ _ _ us hl => match us, hl with | [_, _], _ => rfl
noncomputable def t__law_is_far : RS := (sSeq (sSet 2 (eA fTupOf (aCons (eLc fLst (iRange1 (eV 0)) (gNm 3) tYesD (eA fTupOf (aCons (eLc fLst (iRange1 (eV 1)) (gNm 4) tYesD (eIf (tBl (e2 fEq (eV 4) (eC (.int 0)))) (eA fTup (aCons (eC (.int 1)) (aCons (eC (.int 1)) aNil))) (eA fTup (aCons (eC (.int 0)) (aCons (eC (.int 1)) aNil)))) [4]) aNil)) [3]) aNil)))
    (sSeq (sSet 5 (eA fTupOf (aCons (eLc fLst (iRange1 (eV 0)) (gNm 3) tYesD (eA fTupOf (aCons (eLc fLst (iRange1 (eV 0)) (gNm 6) tYesD (eA fTup (aCons (eC (.int 1)) (aCons (eV 0) aNil))) [6]) aNil)) [3]) aNil)))
    (sSeq (sTry (xCall Fx_step_worth (aCons (e2 fIx (eV 5) (eC (.int 0))) (aCons (eV 5) (aCons (eV 2) (aCons (e2s (fTimes fLst) (eA fTup (aCons (eA fTup (aCons (eA fTup (aCons (eC (.int 1)) (aCons (eC (.int 1)) aNil))) (aCons (eA fTup (aCons (eC (.int 0)) (aCons (eC (.int 1)) aNil))) aNil))) aNil)) (eV 0)) (aCons (eC (.int 1)) aNil)))))) (sRet (eC (.bl true))))
    (sRet (eC (.bl false))))))
noncomputable def F__law_is_far : FD := fnD 2 7 finP t__law_is_far
abbrev s_law : Stmt := topS 37
abbrev N_law : List Str := ["script", "pool", "turn", "steps", "gains", "due", "less", "worlds", "signs", "weights", "change", "telling", "s"]
theorem sc_law : FnScope N_law ["script"] (defScope s_law) := sc_by (by decide +kernel)
theorem bd_law : BindsP s_law ["script"] := fun _ _ _ _ _ _ _ us hl => match us, hl with | [_], _ => rfl
noncomputable def t_law : RS := (sSeq (sSet 1 (eA F__law_pool (aCons (eV 0) aNil)))
    (sSeq (sFor (iRange1 (eC (.int 3))) (gNm 2) (sSeq (sPar 7 8 (aCons (eA F__law_pick (aCons (eV 1) (aCons (eA fLst (aCons (eC (.int 1)) (aCons (eC (.int 2)) (aCons (eC (.int 2)) (aCons (eC (.int 3)) (aCons (eC (.int 4)) aNil)))))) aNil))) (aCons (eA F__law_pick (aCons (eV 1) (aCons (eA fLst (aCons (eC (.int 1)) (aCons (eC (.int 2)) (aCons (eC (.int 2)) (aCons (eC (.int 3)) aNil))))) aNil))) aNil)))
    (sSeq (sSet 3 (eA F__law_pick (aCons (eV 1) (aCons (eIf (tBl (e2 (fCmp fun i j => decide (i < j)) (eV 8) (eC (.int 3)))) (eA fLst (aCons (eC (.int 1)) (aCons (eC (.int 2)) (aCons (eC (.int 3)) (aCons (eC (.int 4)) aNil))))) (eA fLst (aCons (eC (.int 1)) (aCons (eC (.int 2)) (aCons (eC (.int 3)) aNil))))) aNil))))
    (sSeq (sPar3 9 10 11 (aCons (eA F__law_row (aCons (eV 1) (aCons (eV 7) aNil))) (aCons (eA F__law_change (aCons (eV 1) (aCons (eV 7) aNil))) (aCons (eA F__law_telling (aCons (eV 1) (aCons (eV 7) (aCons (eV 8) aNil)))) aNil))))
    (sSeq (sSet 4 (eA F__law_gains (aCons (eV 1) (aCons (eV 7) (aCons (e2s (fPlus fLst) (eC (.int 1)) (eA F__law_draw (aCons (eV 1) (aCons (eC (.int 4)) aNil)))) aNil)))))
    (sSeq (sSet 5 (eA F__law_worth (aCons (eV 9) (aCons (eV 10) (aCons (eV 11) (aCons (eV 4) (aCons (eV 3) aNil)))))))
    (sSeq (sIf (tNotD (tTru (eA (F__law_same 8) (aCons (eA F_step_worth (aCons (eV 9) (aCons (eV 10) (aCons (eV 11) (aCons (eV 4) (aCons (eV 3) aNil)))))) (aCons (eV 5) aNil))))) (sRet (eC (.bl false))) sPass)
    (sSeq (sIf (tNotD (tTru (eA (F__law_same 8) (aCons (eA (fun xs S => F_step_worth (pick [0, 1, 2, 3, 4] xs) S) (aCons (eV 9) (aCons (eV 10) (aCons (eV 11) (aCons (eV 4) (aCons (eV 3) aNil)))))) (aCons (eV 5) aNil))))) (sRet (eC (.bl false))) sPass)
    (sSeq (sSet 6 (eA F__law_garbled (aCons (eV 11) (aCons (eA fTupOf (aCons (eLc fLst (iRange1 (eV 8)) (gNm 12) tYesD (eA F__law_row (aCons (eV 1) (aCons (eC (.int 2)) aNil))) [12]) aNil)) aNil))))
    (sIf (tBl (e2 (fCmp fun i j => decide (i < j)) (e2 fIx (eA F__law_less (aCons (eV 5) (aCons (eA F_step_worth (aCons (eV 9) (aCons (eV 10) (aCons (eV 6) (aCons (eV 4) (aCons (eV 3) aNil)))))) aNil))) (eC (.int 0))) (eC (.int 0)))) (sRet (eC (.bl false))) sPass))))))))))
    (sSeq (sAsg (eA F__law_pick (aCons (eV 1) (aCons (eA fLst (aCons (eA fTup (aCons (eC (.int 5)) (aCons (eC (.int 2)) aNil))) (aCons (eA fTup (aCons (eC (.int 2)) (aCons (eC (.int 5)) aNil))) (aCons (eA fTup (aCons (eC (.int 6)) (aCons (eC (.int 5)) aNil))) (aCons (eA fTup (aCons (eC (.int 4)) (aCons (eC (.int 12)) aNil))) aNil))))) aNil))) (gTp 2 (gsCons (gNm 7) (gsCons (gNm 8) gsNil))))
    (sRet (eA F__law_is_far (aCons (eV 7) (aCons (eV 8) aNil)))))))
noncomputable def F_law : FD := fnD 1 13 finP t_law
theorem bk_step_worth_01234 : BindsK s_step_worth ["weights", "change", "telling", "gains", "steps"] ["weights", "change", "telling", "gains", "steps"] [0, 1, 2, 3, 4] := fun _ _ _ _ _ _ _ us hl => match us, hl with | [_, _, _, _, _], _ => rfl
section
variable {P : Program} {G : Gc} {mg : Str → Option Value}
theorem ok_common_part {f c  : Addr}  (A : FAt G.K mg "common_part" s_common_part f c) (z_abs : mg "abs" = none) : DFs P G.wo G mg 2 "common_part" s_common_part f ["one", "other"] F_common_part := by
  refine fn_at (k := 1) (cv := none) (N := N_common_part) (ps := ["one", "other"]) (fin := finP) (t := t_common_part) A sc_common_part finP_ok (fun v hv => by cases hv) fun A1 outer s H E hr => ?_
  exact (dss_cons (ds_par (i := 0) (j := 1) rfl sc_common_part.nd rfl rfl (by decide) rfl rfl (da_cons (de_abs z_abs (dv 0)) (da_cons (de_abs z_abs (dv 1)) da_nil)) rfl)
    (dss_cons (ds_while (n := fuelI) PassesOwn.never (dt_tru (dv 1)) (dss_one (ds_par (i := 0) (j := 1) rfl sc_common_part.nd rfl rfl (by decide) rfl rfl (da_cons (dv 1) (da_cons (de_mod (dv 0) (dv 1)) da_nil)) rfl)))
    (dss_one (ds_ret (dv 0)))))
theorem ok_lowest {f c f_common_part : Addr}  (A : FAt G.K mg "lowest" s_lowest f c) (h_common_part : DFs P G.wo G mg 2 "common_part" s_common_part f_common_part ["one", "other"] F_common_part) : DFs P G.wo G mg 3 "lowest" s_lowest f ["top", "bottom"] F_lowest := by
  refine fn_at (k := 2) (cv := none) (N := N_lowest) (ps := ["top", "bottom"]) (fin := finP) (t := t_lowest) A sc_lowest finP_ok (fun v hv => by cases hv) fun A1 outer s H E hr => ?_
  exact (dss_cons (ds_set (i := 2) sc_lowest.nd rfl (by first | exact .inl rfl | exact .inr rfl) (dcall (G := G) h_common_part bd_common_part (hr.mono (by omega)) (da_cons (dv 0) (da_cons (dv 1) da_nil))) rfl (by first | exact .inl rfl | exact .inr rfl))
    (dss_cons (ds_if (dt_cmp c_lt (dv 1) de_int) (dss_one (ds_set (i := 2) sc_lowest.nd rfl (by first | exact .inl rfl | exact .inr rfl) (de_neg (dv 2)) rfl (by first | exact .inl rfl | exact .inr rfl))) dss_nil)
    (dss_one (ds_ret (de_tup (da_cons (de_div (dv 0) (dv 2)) (da_cons (de_div (dv 1) (dv 2)) da_nil)))))))
theorem ok_bottom_of {f c f_common_part : Addr}  (A : FAt G.K mg "bottom_of" s_bottom_of f c) (h_common_part : DFs P G.wo G mg 2 "common_part" s_common_part f_common_part ["one", "other"] F_common_part) : DFs P G.wo G mg 3 "bottom_of" s_bottom_of f ["fractions"] F_bottom_of := by
  refine fn_at (k := 2) (cv := none) (N := N_bottom_of) (ps := ["fractions"]) (fin := finP) (t := t_bottom_of) A sc_bottom_of finP_ok (fun v hv => by cases hv) fun A1 outer s H E hr => ?_
  exact (dss_cons (ds_set (i := 1) sc_bottom_of.nd rfl (by first | exact .inl rfl | exact .inr rfl) de_int rfl (by first | exact .inl rfl | exact .inr rfl))
    (dss_cons (ds_for PassesOwn.never rfl (fun _ => rfl) (di_seq (dv 0)) (dg_name (i := 2) sc_bottom_of.nd rfl (by first | exact .inl rfl | exact .inr rfl) (by first | exact .inl rfl | exact .inr rfl)) (dss_one (ds_set (i := 1) sc_bottom_of.nd rfl (by first | exact .inl rfl | exact .inr rfl) (de_times newF (de_div (dv 1) (dcall (G := G) h_common_part bd_common_part (hr.mono (by omega)) (da_cons (dv 1) (da_cons (de_ix (dv 2) de_int) da_nil)))) (de_ix (dv 2) de_int)) rfl (by first | exact .inl rfl | exact .inr rfl))))
    (dss_one (ds_ret (dv 1)))))
theorem ok_wholes {f c  : Addr}  (A : FAt G.K mg "wholes" s_wholes f c) (z_tuple : mg "tuple" = none) (bm : ∃ B, G.base.BuiltinsAt mg B) (ht : ∃ B, G.t0 c B) : DFs P G.wo G mg 6 "wholes" s_wholes f ["fractions", "bottom"] F_wholes := by
  refine fn_at (k := 5) (cv := some (.ref c)) (N := N_wholes) (ps := ["fractions", "bottom"]) (fin := finP) (t := t_wholes) A sc_wholes finP_ok (fun v hv => by cases hv; exact ⟨rfl, ht⟩) fun A1 outer s H E hr => ?_
  exact (dss_one (ds_ret (de_tupGen (k := 0) (own := [("one", 2)]) (hr.mono (by omega)) z_tuple rfl rfl rfl sc_wholes.nd bm (di_seq (dv 0)) (blkOk_by (by kernel_rfl)) (fun s H L cl qn c0 fp pn A0 hr => ⟨(dgw_name (i := 2) sc_wholes.nd rfl (by first | exact .inl rfl | exact .inr rfl) (by first | exact .inl rfl | exact .inr rfl) (by decide)), dts_nil, (de_times newF (de_ix (dv 2) de_int) (de_div (dv 1) (de_ix (dv 2) de_int)))⟩))))
theorem ok_rows_over {f c f_bottom_of f_wholes : Addr}  (A : FAt G.K mg "rows_over" s_rows_over f c) (z_tuple : mg "tuple" = none) (h_bottom_of : DFs P G.wo G mg 3 "bottom_of" s_bottom_of f_bottom_of ["fractions"] F_bottom_of) (h_wholes : DFs P G.wo G mg 6 "wholes" s_wholes f_wholes ["fractions", "bottom"] F_wholes) (bm : ∃ B, G.base.BuiltinsAt mg B) (ht : ∃ B, G.t0 c B) : DFs P G.wo G mg 12 "rows_over" s_rows_over f ["rows"] F_rows_over := by
  refine fn_at (k := 11) (cv := some (.ref c)) (N := N_rows_over) (ps := ["rows"]) (fin := finP) (t := t_rows_over) A sc_rows_over finP_ok (fun v hv => by cases hv; exact ⟨rfl, ht⟩) fun A1 outer s H E hr => ?_
  exact (dss_cons (ds_set (i := 1) sc_rows_over.nd rfl (by first | exact .inl rfl | exact .inr rfl) (dcall (G := G) h_bottom_of bd_bottom_of (hr.mono (by omega)) (da_cons (de_lc2 (own := [("row", 2), ("one", 3)]) (vs1 := [3]) mkF rfl sc_rows_over.nd (di_seq (dv 0)) (blkOk_by (by kernel_rfl)) (by decide) (fun s H C cl fp => (dgw_name (i := 2) sc_rows_over.nd rfl (by first | exact .inl rfl | exact .inr rfl) (by first | exact .inl rfl | exact .inr rfl) (by decide))) (fun s H C cl fp => dts_nil) (fun s H C cl fp => (di_seq (dv 2))) (fun s H C cl fp => (dgw_name (i := 3) sc_rows_over.nd rfl (by first | exact .inl rfl | exact .inr rfl) (by first | exact .inl rfl | exact .inr rfl) (by decide))) (fun s H C cl fp => dts_nil) (fun s H C cl fp => (dv 3))) da_nil)) rfl (by first | exact .inl rfl | exact .inr rfl))
    (dss_one (ds_ret (de_tup (da_cons (dv 1) (da_cons (de_tupGen (k := 6) (own := [("row", 2)]) (hr.mono (by omega)) z_tuple rfl rfl rfl sc_rows_over.nd bm (di_seq (dv 0)) (blkOk_by (by kernel_rfl)) (fun s H L cl qn c0 fp pn A0 hr => ⟨(dgw_name (i := 2) sc_rows_over.nd rfl (by first | exact .inl rfl | exact .inr rfl) (by first | exact .inl rfl | exact .inr rfl) (by decide)), dts_nil, (dcall (G := G) h_wholes bd_wholes (hr.mono (by omega)) (da_cons (dv 2) (da_cons (dv 1) da_nil)))⟩)) da_nil))))))
theorem ok__check_sizes {f c  : Addr} {u_MOST : Tok} (A : FAt G.K mg "_check_sizes" s__check_sizes f c) (z_len : mg "len" = none) (g_MOST : mg "MOST" = some (.int 4 u_MOST)) : DFs P G.wo G mg 2 "_check_sizes" s__check_sizes f ["telling"] F__check_sizes := by
  refine fn_at (k := 1) (cv := none) (N := N__check_sizes) (ps := ["telling"]) (fin := finP) (t := t__check_sizes) A sc__check_sizes finP_ok (fun v hv => by cases hv) fun A1 outer s H E hr => ?_
  exact (dss_one (ds_if (dt_w (dw_or (dt_cmp c_gt (de_len z_len (dv 0)) (de_gint g_MOST)) (dw_or1 (dt_cmp c_gt (de_len z_len (de_ix (dv 0) de_int)) (de_gint g_MOST))))) (dss_one ds_never) dss_nil))
theorem okx__check_sizes {f c C_TooFar : Addr} {u_MOST : Tok} (A : FAt G.K mg "_check_sizes" s__check_sizes f c) (z_len : mg "len" = none) (g_MOST : mg "MOST" = some (.int 4 u_MOST)) (X_TooFar : XAt G.K mg "TooFar" C_TooFar) : DFx P G.wo G mg 2 "_check_sizes" s__check_sizes f ["telling"] C_TooFar Fx__check_sizes := by
  refine fx_at (k := 1) (cv := none) (N := N__check_sizes) (ps := ["telling"]) (a := x__check_sizes) A sc__check_sizes (fun v hv => by cases hv) fun A1 outer s H E hr => ?_
  exact (x_one (x_if (dt_w (dw_or (dt_cmp c_gt (de_len z_len (dv 0)) (de_gint g_MOST)) (dw_or1 (dt_cmp c_gt (de_len z_len (de_ix (dv 0) de_int)) (de_gint g_MOST))))) (x_one (x_raise X_TooFar rfl)) x_no))
theorem ok__changed {f c  : Addr}  (A : FAt G.K mg "_changed" s__changed f c) (z_len : mg "len" = none) (z_range : mg "range" = none) (z_sum : mg "sum" = none) (z_zip : mg "zip" = none) : DFs P G.wo G mg 2 "_changed" s__changed f ["numbers", "moves"] F__changed := by
  refine fn_at (k := 1) (cv := none) (N := N__changed) (ps := ["numbers", "moves"]) (fin := finP) (t := t__changed) A sc__changed finP_ok (fun v hv => by cases hv) fun A1 outer s H E hr => ?_
  exact (dss_one (ds_ret (de_lc (own := [("at", 2)]) mkF rfl sc__changed.nd (di_range1 z_range (de_len z_len (dv 1))) (blkOk_by (by kernel_rfl)) (fun s H C cl fp => (dgw_name (i := 2) sc__changed.nd rfl (by first | exact .inl rfl | exact .inr rfl) (by first | exact .inl rfl | exact .inr rfl) (by decide))) (fun s H C cl fp => dts_nil) (fun s H C cl fp => (de_sum rfl z_sum (de_lc (own := [("one", 3), ("row", 4)]) mkF rfl sc__changed.nd (di_zip z_zip (dv 0) (dv 1)) (blkOk_by (by kernel_rfl)) (fun s H C cl fp => (dgw_tup rfl (dgsw_cons (dgw_name (i := 3) sc__changed.nd rfl (by first | exact .inl rfl | exact .inr rfl) (by first | exact .inl rfl | exact .inr rfl) (by decide)) (dgsw_cons (dgw_name (i := 4) sc__changed.nd rfl (by first | exact .inl rfl | exact .inr rfl) (by first | exact .inl rfl | exact .inr rfl) (by decide)) dgsw_nil)))) (fun s H C cl fp => dts_nil) (fun s H C cl fp => (de_times newF (dv 3) (de_ix (dv 4) (dv 2))))))))))
theorem ok__heard {f c  : Addr}  (A : FAt G.K mg "_heard" s__heard f c) (z_zip : mg "zip" = none) : DFs P G.wo G mg 2 "_heard" s__heard f ["numbers", "chances", "sign"] F__heard := by
  refine fn_at (k := 1) (cv := none) (N := N__heard) (ps := ["numbers", "chances", "sign"]) (fin := finP) (t := t__heard) A sc__heard finP_ok (fun v hv => by cases hv) fun A1 outer s H E hr => ?_
  exact (dss_one (ds_ret (de_lc (own := [("one", 3), ("row", 4)]) mkF rfl sc__heard.nd (di_zip z_zip (dv 0) (dv 1)) (blkOk_by (by kernel_rfl)) (fun s H C cl fp => (dgw_tup rfl (dgsw_cons (dgw_name (i := 3) sc__heard.nd rfl (by first | exact .inl rfl | exact .inr rfl) (by first | exact .inl rfl | exact .inr rfl) (by decide)) (dgsw_cons (dgw_name (i := 4) sc__heard.nd rfl (by first | exact .inl rfl | exact .inr rfl) (by first | exact .inl rfl | exact .inr rfl) (by decide)) dgsw_nil)))) (fun s H C cl fp => dts_nil) (fun s H C cl fp => (de_times newF (dv 3) (de_ix (dv 4) (dv 2)))))))
theorem ok__all_heard {f c f__heard : Addr}  (A : FAt G.K mg "_all_heard" s__all_heard f c) (z_len : mg "len" = none) (z_range : mg "range" = none) (h__heard : DFs P G.wo G mg 2 "_heard" s__heard f__heard ["numbers", "chances", "sign"] F__heard) : DFs P G.wo G mg 3 "_all_heard" s__all_heard f ["lots", "chances"] F__all_heard := by
  refine fn_at (k := 2) (cv := none) (N := N__all_heard) (ps := ["lots", "chances"]) (fin := finP) (t := t__all_heard) A sc__all_heard finP_ok (fun v hv => by cases hv) fun A1 outer s H E hr => ?_
  exact (dss_one (ds_ret (de_lc2 (own := [("numbers", 2), ("sign", 3)]) (vs1 := [3]) mkF rfl sc__all_heard.nd (di_seq (dv 0)) (blkOk_by (by kernel_rfl)) (by decide) (fun s H C cl fp => (dgw_name (i := 2) sc__all_heard.nd rfl (by first | exact .inl rfl | exact .inr rfl) (by first | exact .inl rfl | exact .inr rfl) (by decide))) (fun s H C cl fp => dts_nil) (fun s H C cl fp => (di_range1 z_range (de_len z_len (de_ix (dv 1) de_int)))) (fun s H C cl fp => (dgw_name (i := 3) sc__all_heard.nd rfl (by first | exact .inl rfl | exact .inr rfl) (by first | exact .inl rfl | exact .inr rfl) (by decide))) (fun s H C cl fp => dts_nil) (fun s H C cl fp => (dcall (G := G) h__heard bd__heard (hr.mono (by omega)) (da_cons (dv 2) (da_cons (dv 1) (da_cons (dv 3) da_nil))))))))
theorem ok__best {f c  : Addr}  (A : FAt G.K mg "_best" s__best f c) (z_len : mg "len" = none) (z_max : mg "max" = none) (z_range : mg "range" = none) (z_sum : mg "sum" = none) (z_zip : mg "zip" = none) : DFs P G.wo G mg 2 "_best" s__best f ["numbers", "rows"] F__best := by
  refine fn_at (k := 1) (cv := none) (N := N__best) (ps := ["numbers", "rows"]) (fin := finP) (t := t__best) A sc__best finP_ok (fun v hv => by cases hv) fun A1 outer s H E hr => ?_
  exact (dss_one (ds_ret (de_maxA rfl hr z_max (de_lc (own := [("act", 2)]) mkF rfl sc__best.nd (di_range1 z_range (de_len z_len (de_ix (dv 1) de_int))) (blkOk_by (by kernel_rfl)) (fun s H C cl fp => (dgw_name (i := 2) sc__best.nd rfl (by first | exact .inl rfl | exact .inr rfl) (by first | exact .inl rfl | exact .inr rfl) (by decide))) (fun s H C cl fp => dts_nil) (fun s H C cl fp => (de_sum rfl z_sum (de_lc (own := [("one", 3), ("row", 4)]) mkF rfl sc__best.nd (di_zip z_zip (dv 0) (dv 1)) (blkOk_by (by kernel_rfl)) (fun s H C cl fp => (dgw_tup rfl (dgsw_cons (dgw_name (i := 3) sc__best.nd rfl (by first | exact .inl rfl | exact .inr rfl) (by first | exact .inl rfl | exact .inr rfl) (by decide)) (dgsw_cons (dgw_name (i := 4) sc__best.nd rfl (by first | exact .inl rfl | exact .inr rfl) (by first | exact .inl rfl | exact .inr rfl) (by decide)) dgsw_nil)))) (fun s H C cl fp => dts_nil) (fun s H C cl fp => (de_times newF (dv 3) (de_ix (dv 4) (dv 2)))))))))))
theorem ok_step_worth {f c f__all_heard f__best f__changed f__check_sizes f_bottom_of f_lowest f_rows_over f_wholes : Addr}  (A : FAt G.K mg "step_worth" s_step_worth f c) (z_range : mg "range" = none) (z_sum : mg "sum" = none) (h__all_heard : DFs P G.wo G mg 3 "_all_heard" s__all_heard f__all_heard ["lots", "chances"] F__all_heard) (h__best : DFs P G.wo G mg 2 "_best" s__best f__best ["numbers", "rows"] F__best) (h__changed : DFs P G.wo G mg 2 "_changed" s__changed f__changed ["numbers", "moves"] F__changed) (h__check_sizes : DFs P G.wo G mg 2 "_check_sizes" s__check_sizes f__check_sizes ["telling"] F__check_sizes) (h_bottom_of : DFs P G.wo G mg 3 "bottom_of" s_bottom_of f_bottom_of ["fractions"] F_bottom_of) (h_lowest : DFs P G.wo G mg 3 "lowest" s_lowest f_lowest ["top", "bottom"] F_lowest) (h_rows_over : DFs P G.wo G mg 12 "rows_over" s_rows_over f_rows_over ["rows"] F_rows_over) (h_wholes : DFs P G.wo G mg 6 "wholes" s_wholes f_wholes ["fractions", "bottom"] F_wholes) : DFs P G.wo G mg 13 "step_worth" s_step_worth f ["weights", "change", "telling", "gains", "steps"] F_step_worth := by
  refine fn_at (k := 12) (cv := none) (N := N_step_worth) (ps := ["weights", "change", "telling", "gains", "steps"]) (fin := finP) (t := t_step_worth) A sc_step_worth finP_ok (fun v hv => by cases hv) fun A1 outer s H E hr => ?_
  exact (dss_cons (ds_expr (dcall (G := G) h__check_sizes bd__check_sizes (hr.mono (by omega)) (da_cons (dv 2) da_nil)))
    (dss_cons (ds_set (i := 5) sc_step_worth.nd rfl (by first | exact .inl rfl | exact .inr rfl) (dcall (G := G) h_bottom_of bd_bottom_of (hr.mono (by omega)) (da_cons (dv 0) da_nil)) rfl (by first | exact .inl rfl | exact .inr rfl))
    (dss_cons (ds_asg (dcall (G := G) h_rows_over bd_rows_over (hr.mono (by omega)) (da_cons (dv 1) da_nil)) (dg_tup rfl (dgs_cons (dg_name (i := 6) sc_step_worth.nd rfl (by first | exact .inl rfl | exact .inr rfl) (by first | exact .inl rfl | exact .inr rfl)) (dgs_cons (dg_name (i := 7) sc_step_worth.nd rfl (by first | exact .inl rfl | exact .inr rfl) (by first | exact .inl rfl | exact .inr rfl)) dgs_nil))))
    (dss_cons (ds_asg (dcall (G := G) h_rows_over bd_rows_over (hr.mono (by omega)) (da_cons (dv 2) da_nil)) (dg_tup rfl (dgs_cons (dg_name (i := 8) sc_step_worth.nd rfl (by first | exact .inl rfl | exact .inr rfl) (by first | exact .inl rfl | exact .inr rfl)) (dgs_cons (dg_name (i := 9) sc_step_worth.nd rfl (by first | exact .inl rfl | exact .inr rfl) (by first | exact .inl rfl | exact .inr rfl)) dgs_nil))))
    (dss_cons (ds_asg (dcall (G := G) h_rows_over bd_rows_over (hr.mono (by omega)) (da_cons (dv 3) da_nil)) (dg_tup rfl (dgs_cons (dg_name (i := 10) sc_step_worth.nd rfl (by first | exact .inl rfl | exact .inr rfl) (by first | exact .inl rfl | exact .inr rfl)) (dgs_cons (dg_name (i := 11) sc_step_worth.nd rfl (by first | exact .inl rfl | exact .inr rfl) (by first | exact .inl rfl | exact .inr rfl)) dgs_nil))))
    (dss_cons (ds_aug (i := 5) g_mul sc_step_worth.nd rfl (by first | exact .inl rfl | exact .inr rfl) (de_times newF (dv 8) (dv 10)) (by first | exact .inl rfl | exact .inr rfl))
    (dss_cons (ds_set (i := 12) sc_step_worth.nd rfl (by first | exact .inl rfl | exact .inr rfl) (dcall (G := G) h__all_heard bd__all_heard (hr.mono (by omega)) (da_cons (de_lst (da_cons (dcall (G := G) h_wholes bd_wholes (hr.mono (by omega)) (da_cons (dv 0) (da_cons (dcall (G := G) h_bottom_of bd_bottom_of (hr.mono (by omega)) (da_cons (dv 0) da_nil)) da_nil))) da_nil)) (da_cons (dv 9) da_nil))) rfl (by first | exact .inl rfl | exact .inr rfl))
    (dss_cons (ds_set (i := 13) sc_step_worth.nd rfl (by first | exact .inl rfl | exact .inr rfl) (de_sum rfl z_sum (de_lc (own := [("numbers", 14)]) mkF rfl sc_step_worth.nd (di_seq (dv 12)) (blkOk_by (by kernel_rfl)) (fun s H C cl fp => (dgw_name (i := 14) sc_step_worth.nd rfl (by first | exact .inl rfl | exact .inr rfl) (by first | exact .inl rfl | exact .inr rfl) (by decide))) (fun s H C cl fp => dts_nil) (fun s H C cl fp => (dcall (G := G) h__best bd__best (hr.mono (by omega)) (da_cons (dv 14) (da_cons (dv 11) da_nil)))))) rfl (by first | exact .inl rfl | exact .inr rfl))
    (dss_cons (ds_for PassesOwn.never rfl (fun _ => rfl) (di_range1 z_range (de_sub (dv 4) de_int)) (dg_name (i := 15) sc_step_worth.nd rfl (by first | exact .inl rfl | exact .inr rfl) (by first | exact .inl rfl | exact .inr rfl)) (dss_cons (ds_set (i := 12) sc_step_worth.nd rfl (by first | exact .inl rfl | exact .inr rfl) (dcall (G := G) h__all_heard bd__all_heard (hr.mono (by omega)) (da_cons (de_lc (own := [("numbers", 14)]) mkF rfl sc_step_worth.nd (di_seq (dv 12)) (blkOk_by (by kernel_rfl)) (fun s H C cl fp => (dgw_name (i := 14) sc_step_worth.nd rfl (by first | exact .inl rfl | exact .inr rfl) (by first | exact .inl rfl | exact .inr rfl) (by decide))) (fun s H C cl fp => dts_nil) (fun s H C cl fp => (dcall (G := G) h__changed bd__changed (hr.mono (by omega)) (da_cons (dv 14) (da_cons (dv 7) da_nil))))) (da_cons (dv 9) da_nil))) rfl (by first | exact .inl rfl | exact .inr rfl))
    (dss_cons (ds_set (i := 13) sc_step_worth.nd rfl (by first | exact .inl rfl | exact .inr rfl) (de_plus newF (de_times newF (de_times newF (dv 13) (dv 6)) (dv 8)) (de_sum rfl z_sum (de_lc (own := [("numbers", 14)]) mkF rfl sc_step_worth.nd (di_seq (dv 12)) (blkOk_by (by kernel_rfl)) (fun s H C cl fp => (dgw_name (i := 14) sc_step_worth.nd rfl (by first | exact .inl rfl | exact .inr rfl) (by first | exact .inl rfl | exact .inr rfl) (by decide))) (fun s H C cl fp => dts_nil) (fun s H C cl fp => (dcall (G := G) h__best bd__best (hr.mono (by omega)) (da_cons (dv 14) (da_cons (dv 11) da_nil))))))) rfl (by first | exact .inl rfl | exact .inr rfl))
    (dss_one (ds_aug (i := 5) g_mul sc_step_worth.nd rfl (by first | exact .inl rfl | exact .inr rfl) (de_times newF (dv 6) (dv 8)) (by first | exact .inl rfl | exact .inr rfl))))))
    (dss_one (ds_ret (dcall (G := G) h_lowest bd_lowest (hr.mono (by omega)) (da_cons (dv 13) (da_cons (dv 5) da_nil))))))))))))))
theorem okx_step_worth {f c fx__check_sizes C_TooFar : Addr}  (A : FAt G.K mg "step_worth" s_step_worth f c) (hx__check_sizes : DFx P G.wo G mg 2 "_check_sizes" s__check_sizes fx__check_sizes ["telling"] C_TooFar Fx__check_sizes) : DFx P G.wo G mg 3 "step_worth" s_step_worth f ["weights", "change", "telling", "gains", "steps"] C_TooFar Fx_step_worth := by
  refine fx_at (k := 2) (cv := none) (N := N_step_worth) (ps := ["weights", "change", "telling", "gains", "steps"]) (a := x_step_worth) A sc_step_worth (fun v hv => by cases hv) fun A1 outer s H E hr => ?_
  exact (x_seqL (x_expr (x_call (G := G) hx__check_sizes bd__check_sizes (hr.mono (by omega)) (da_cons (dv 2) da_nil))))
theorem ok__law_pool {f c  : Addr}  (A : FAt G.K mg "_law_pool" s__law_pool f c) (z_list : mg "list" = none) : DFs P G.wo G mg 2 "_law_pool" s__law_pool f ["script"] F__law_pool := by
  refine fn_at (k := 1) (cv := none) (N := N__law_pool) (ps := ["script"]) (fin := finK) (t := t__law_pool) A sc__law_pool finK_ok (fun v hv => by cases hv) fun A1 outer s H E hr => ?_
  exact (dss_one (ds_ret (de_plus newO (de_lst (da_cons de_int (da_cons de_int (da_cons de_int da_nil)))) (de_listF z_list (dv 0)))))
theorem ok__law_draw {f c  : Addr}  (A : FAt G.K mg "_law_draw" s__law_draw f c) (z_abs : mg "abs" = none) (z_int : mg "int" = none) (z_len : mg "len" = none) : DFs P G.wo G mg 2 "_law_draw" s__law_draw f ["pool", "many"] F__law_draw := by
  refine fn_at (k := 1) (cv := none) (N := N__law_draw) (ps := ["pool", "many"]) (fin := finM) (t := t__law_draw) A sc__law_draw finM_ok (fun v hv => by cases hv) fun A1 outer s H E hr => ?_
  exact (dss_cons (ds_if (dt_w (dw_and (dt_cmp (c_eq hr) (de_ix (dv 0) de_int) de_int) (dw_and1 (dt_cmp c_lt (de_ix (dv 0) de_int) (de_len z_len (dv 0)))))) (dss_cons (ds_set (i := 2) sc__law_draw.nd rfl (by first | exact .inl rfl | exact .inr rfl) (de_ix (dv 0) (de_ix (dv 0) de_int)) rfl (by first | exact .inl rfl | exact .inr rfl))
    (dss_cons (ds_asg (de_plus newF (de_ix (dv 0) de_int) de_int) (dg_ix (dv 0) de_int))
    (dss_cons (ds_asg (de_mod (de_int1 z_int (de_plus newF (de_times newF (de_ix (dv 0) de_int) de_int) (dv 2))) de_int) (dg_ix (dv 0) de_int))
    (dss_one (ds_if (dt_cmp c_ge (de_abs z_abs (dv 2)) (de_pow de_int de_int)) (dss_one (ds_asg (de_abs z_abs (dv 2)) (dg_ix (dv 0) de_int))) dss_nil))))) dss_nil)
    (dss_cons (ds_if (dt_cmp c_gt (de_ix (dv 0) de_int) de_int) (dss_cons (ds_set (i := 3) sc__law_draw.nd rfl (by first | exact .inl rfl | exact .inr rfl) (de_mod (de_int1 z_int (de_ix (dv 0) de_int)) (dv 1)) rfl (by first | exact .inl rfl | exact .inr rfl))
    (dss_cons (ds_asg (de_div (de_ix (dv 0) de_int) (dv 1)) (dg_ix (dv 0) de_int))
    (dss_one (ds_ret (dv 3))))) dss_nil)
    (dss_cons (ds_asg (de_mod (de_int1 z_int (de_plus newF (de_times newF (de_ix (dv 0) de_int) de_int) de_int)) de_int) (dg_ix (dv 0) de_int))
    (dss_cons (ds_set (i := 4) sc__law_draw.nd rfl (by first | exact .inl rfl | exact .inr rfl) (de_mod (de_int1 z_int (de_plus newF (de_plus newF (de_times newF (de_ix (dv 0) de_int) de_int) (de_div (de_ix (dv 0) de_int) de_int)) de_int)) de_int) rfl (by first | exact .inl rfl | exact .inr rfl))
    (dss_one (ds_ret (de_mod (de_int1 z_int (de_div (dv 4) de_int)) (dv 1))))))))
theorem ok__law_pick {f c f__law_draw : Addr}  (A : FAt G.K mg "_law_pick" s__law_pick f c) (z_len : mg "len" = none) (h__law_draw : DFs P G.wo G mg 2 "_law_draw" s__law_draw f__law_draw ["pool", "many"] F__law_draw) : DFs P G.wo G mg 3 "_law_pick" s__law_pick f ["pool", "things"] F__law_pick := by
  refine fn_at (k := 2) (cv := none) (N := N__law_pick) (ps := ["pool", "things"]) (fin := finM) (t := t__law_pick) A sc__law_pick finM_ok (fun v hv => by cases hv) fun A1 outer s H E hr => ?_
  exact (dss_one (ds_ret (de_ix (dv 1) (dcall (G := G) h__law_draw bd__law_draw (hr.mono (by omega)) (da_cons (dv 0) (da_cons (de_len z_len (dv 1)) da_nil))))))
theorem ok__law_same {f c  : Addr}  (A : FAt G.K mg "_law_same" s__law_same f c) (z_bool : mg "bool" = none) (z_int : mg "int" = none) (z_isinstance : mg "isinstance" = none) (z_len : mg "len" = none) (z_range : mg "range" = none) (z_str : mg "str" = none) (z_tuple : mg "tuple" = none) : ∀ m : Nat, DFs P G.wo G mg (1 + 1 * m) "_law_same" s__law_same f ["told", "due"] (F__law_same m)
  | 0 => dfs_zero A
  | m + 1 => by
    have ih := ok__law_same A z_bool z_int z_isinstance z_len z_range z_str z_tuple   m
    refine DFs.mono (fn_at (k := 1 + 1 * m + 0) (cv := none) (N := N__law_same) (ps := ["told", "due"]) (fin := finP) (t := t__law_same (F__law_same m)) A sc__law_same finP_ok (fun v hv => by cases hv) fun A1 outer s H E hr => ?_) (by omega)
    exact (dss_cons (ds_if (dt_tru (de_isi z_isinstance (dv 1) z_tuple bt_tuple)) (dss_cons (ds_if (dt_w (dw_or (dt_not (dt_tru (de_isi z_isinstance (dv 0) z_tuple bt_tuple))) (dw_or1 (dt_cmp (c_ne hr) (de_len z_len (dv 0)) (de_len z_len (dv 1)))))) (dss_one (ds_ret de_bl)) dss_nil)
    (dss_one (ds_ret (de_cmp (c_eq hr) (de_lc (own := [("k", 2)]) mkF rfl sc__law_same.nd (di_range1 z_range (de_len z_len (dv 1))) (blkOk_by (by kernel_rfl)) (fun s H C cl fp => (dgw_name (i := 2) sc__law_same.nd rfl (by first | exact .inl rfl | exact .inr rfl) (by first | exact .inl rfl | exact .inr rfl) (by decide))) (fun s H C cl fp => (dts_one (dt_not (dt_tru (dcall (G := G) ih bd__law_same (hr.mono (by omega)) (da_cons (de_ix (dv 0) (dv 2)) (da_cons (de_ix (dv 1) (dv 2)) da_nil))))))) (fun s H C cl fp => (dv 2))) (de_lst da_nil))))) dss_nil)
    (dss_cons (ds_if (dt_tru (de_isi z_isinstance (dv 1) z_str bt_str)) (dss_one (ds_ret (de_and (de_isi z_isinstance (dv 0) z_str bt_str) (de_one (de_cmp (c_eq hr) (dv 0) (dv 1)))))) dss_nil)
    (dss_cons (ds_if (dt_cmp c_isN (dv 1) de_non) (dss_one (ds_ret (de_cmp c_isN (dv 0) de_non))) dss_nil)
    (dss_one (ds_ret (de_and (de_isi z_isinstance (dv 0) z_int bt_int) (de_and (de_cmp (c_eq hr) (de_isi z_isinstance (dv 0) z_bool bt_bool) (de_isi z_isinstance (dv 1) z_bool bt_bool)) (de_one (de_cmp (c_eq hr) (dv 0) (dv 1))))))))))
theorem ok__law_fraction {f c  : Addr}  (A : FAt G.K mg "_law_fraction" s__law_fraction f c) (z_abs : mg "abs" = none) (z_int : mg "int" = none) (z_max : mg "max" = none) (z_range : mg "range" = none) : DFs P G.wo G mg 2 "_law_fraction" s__law_fraction f ["over", "under"] F__law_fraction := by
  refine fn_at (k := 1) (cv := none) (N := N__law_fraction) (ps := ["over", "under"]) (fin := finP) (t := t__law_fraction) A sc__law_fraction finP_ok (fun v hv => by cases hv) fun A1 outer s H E hr => ?_
  exact (dss_cons (ds_par (i := 2) (j := 3) rfl sc__law_fraction.nd rfl rfl (by decide) rfl rfl (da_cons (de_abs z_abs (dv 0)) (da_cons (de_abs z_abs (dv 1)) da_nil)) rfl)
    (dss_cons (ds_for PassesOwn.never rfl (fun _ => rfl) (di_range1 z_range de_int) (dg_name (i := 4) sc__law_fraction.nd rfl (by first | exact .inl rfl | exact .inr rfl) (by first | exact .inl rfl | exact .inr rfl)) (dss_cons (ds_if (dt_cmp (c_eq hr) (dv 3) de_int) (dss_one ds_break) dss_nil)
    (dss_one (ds_par (i := 2) (j := 3) rfl sc__law_fraction.nd rfl rfl (by decide) rfl rfl (da_cons (dv 3) (da_cons (de_mod (de_int1 z_int (dv 2)) (dv 3)) da_nil)) rfl))))
    (dss_cons (ds_set (i := 5) sc__law_fraction.nd rfl (by first | exact .inl rfl | exact .inr rfl) (de_if (dt_cmp c_gt (dv 1) de_int) de_int (de_neg de_int)) rfl (by first | exact .inl rfl | exact .inr rfl))
    (dss_one (ds_ret (de_tup (da_cons (de_div (de_times newF (dv 5) (dv 0)) (de_max2 rfl z_max de_int (dv 2))) (da_cons (de_div (de_abs z_abs (dv 1)) (de_max2 rfl z_max de_int (dv 2))) da_nil))))))))
theorem ok__law_plus {f c f__law_fraction : Addr}  (A : FAt G.K mg "_law_plus" s__law_plus f c) (h__law_fraction : DFs P G.wo G mg 2 "_law_fraction" s__law_fraction f__law_fraction ["over", "under"] F__law_fraction) : DFs P G.wo G mg 3 "_law_plus" s__law_plus f ["a", "b"] F__law_plus := by
  refine fn_at (k := 2) (cv := none) (N := N__law_plus) (ps := ["a", "b"]) (fin := finP) (t := t__law_plus) A sc__law_plus finP_ok (fun v hv => by cases hv) fun A1 outer s H E hr => ?_
  exact (dss_one (ds_ret (dcall (G := G) h__law_fraction bd__law_fraction (hr.mono (by omega)) (da_cons (de_plus newF (de_times newF (de_ix (dv 0) de_int) (de_ix (dv 1) de_int)) (de_times newF (de_ix (dv 1) de_int) (de_ix (dv 0) de_int))) (da_cons (de_times newF (de_ix (dv 0) de_int) (de_ix (dv 1) de_int)) da_nil)))))
theorem ok__law_times {f c f__law_fraction : Addr}  (A : FAt G.K mg "_law_times" s__law_times f c) (h__law_fraction : DFs P G.wo G mg 2 "_law_fraction" s__law_fraction f__law_fraction ["over", "under"] F__law_fraction) : DFs P G.wo G mg 3 "_law_times" s__law_times f ["a", "b"] F__law_times := by
  refine fn_at (k := 2) (cv := none) (N := N__law_times) (ps := ["a", "b"]) (fin := finP) (t := t__law_times) A sc__law_times finP_ok (fun v hv => by cases hv) fun A1 outer s H E hr => ?_
  exact (dss_one (ds_ret (dcall (G := G) h__law_fraction bd__law_fraction (hr.mono (by omega)) (da_cons (de_times newF (de_ix (dv 0) de_int) (de_ix (dv 1) de_int)) (da_cons (de_times newF (de_ix (dv 0) de_int) (de_ix (dv 1) de_int)) da_nil)))))
theorem ok__law_less {f c f__law_fraction : Addr}  (A : FAt G.K mg "_law_less" s__law_less f c) (h__law_fraction : DFs P G.wo G mg 2 "_law_fraction" s__law_fraction f__law_fraction ["over", "under"] F__law_fraction) : DFs P G.wo G mg 3 "_law_less" s__law_less f ["a", "b"] F__law_less := by
  refine fn_at (k := 2) (cv := none) (N := N__law_less) (ps := ["a", "b"]) (fin := finP) (t := t__law_less) A sc__law_less finP_ok (fun v hv => by cases hv) fun A1 outer s H E hr => ?_
  exact (dss_one (ds_ret (dcall (G := G) h__law_fraction bd__law_fraction (hr.mono (by omega)) (da_cons (de_sub (de_times newF (de_ix (dv 0) de_int) (de_ix (dv 1) de_int)) (de_times newF (de_ix (dv 1) de_int) (de_ix (dv 0) de_int))) (da_cons (de_times newF (de_ix (dv 0) de_int) (de_ix (dv 1) de_int)) da_nil)))))
theorem ok__law_total {f c f__law_plus : Addr}  (A : FAt G.K mg "_law_total" s__law_total f c) (h__law_plus : DFs P G.wo G mg 3 "_law_plus" s__law_plus f__law_plus ["a", "b"] F__law_plus) : DFs P G.wo G mg 4 "_law_total" s__law_total f ["some"] F__law_total := by
  refine fn_at (k := 3) (cv := none) (N := N__law_total) (ps := ["some"]) (fin := finP) (t := t__law_total) A sc__law_total finP_ok (fun v hv => by cases hv) fun A1 outer s H E hr => ?_
  exact (dss_cons (ds_set (i := 1) sc__law_total.nd rfl (by first | exact .inl rfl | exact .inr rfl) (de_tup (da_cons de_int (da_cons de_int da_nil))) rfl (by first | exact .inl rfl | exact .inr rfl))
    (dss_cons (ds_for PassesOwn.never rfl (fun _ => rfl) (di_seq (dv 0)) (dg_name (i := 2) sc__law_total.nd rfl (by first | exact .inl rfl | exact .inr rfl) (by first | exact .inl rfl | exact .inr rfl)) (dss_one (ds_set (i := 1) sc__law_total.nd rfl (by first | exact .inl rfl | exact .inr rfl) (dcall (G := G) h__law_plus bd__law_plus (hr.mono (by omega)) (da_cons (dv 1) (da_cons (dv 2) da_nil))) rfl (by first | exact .inl rfl | exact .inr rfl))))
    (dss_one (ds_ret (dv 1)))))
theorem ok__law_row {f c f__law_draw f__law_fraction f__law_pick : Addr}  (A : FAt G.K mg "_law_row" s__law_row f c) (z_range : mg "range" = none) (z_sum : mg "sum" = none) (z_tuple : mg "tuple" = none) (h__law_draw : DFs P G.wo G mg 2 "_law_draw" s__law_draw f__law_draw ["pool", "many"] F__law_draw) (h__law_fraction : DFs P G.wo G mg 2 "_law_fraction" s__law_fraction f__law_fraction ["over", "under"] F__law_fraction) (h__law_pick : DFs P G.wo G mg 3 "_law_pick" s__law_pick f__law_pick ["pool", "things"] F__law_pick) : DFs P G.wo G mg 4 "_law_row" s__law_row f ["pool", "many"] F__law_row := by
  refine fn_at (k := 3) (cv := none) (N := N__law_row) (ps := ["pool", "many"]) (fin := finM) (t := t__law_row) A sc__law_row finM_ok (fun v hv => by cases hv) fun A1 outer s H E hr => ?_
  exact (dss_cons (ds_set (i := 2) sc__law_row.nd rfl (by first | exact .inl rfl | exact .inr rfl) (de_lc (own := [("k", 3)]) mkO rfl sc__law_row.nd (di_range1 z_range (dv 1)) (blkOk_by (by kernel_rfl)) (fun s H C cl fp => (dgw_name (i := 3) sc__law_row.nd rfl (by first | exact .inl rfl | exact .inr rfl) (by first | exact .inl rfl | exact .inr rfl) (by decide))) (fun s H C cl fp => dts_nil) (fun s H C cl fp => (dcall (G := G) h__law_pick bd__law_pick (hr.mono (by omega)) (da_cons (dv 0) (da_cons (de_lst (da_cons de_int (da_cons de_int (da_cons de_int (da_cons de_int (da_cons de_int (da_cons de_int (da_cons de_int da_nil)))))))) da_nil))))) rfl (by first | exact .inl rfl | exact .inr rfl))
    (dss_cons (ds_if (dt_cmp (c_eq hr) (de_sum rfl z_sum (dv 2)) de_int) (dss_one (ds_asg de_int (dg_ix (dv 2) (dcall (G := G) h__law_draw bd__law_draw (hr.mono (by omega)) (da_cons (dv 0) (da_cons (dv 1) da_nil)))))) dss_nil)
    (dss_one (ds_ret (de_tupOf z_tuple (de_lc (own := [("number", 4)]) mkF rfl sc__law_row.nd (di_seq (dv 2)) (blkOk_by (by kernel_rfl)) (fun s H C cl fp => (dgw_name (i := 4) sc__law_row.nd rfl (by first | exact .inl rfl | exact .inr rfl) (by first | exact .inl rfl | exact .inr rfl) (by decide))) (fun s H C cl fp => dts_nil) (fun s H C cl fp => (dcall (G := G) h__law_fraction bd__law_fraction (hr.mono (by omega)) (da_cons (dv 4) (da_cons (de_sum rfl z_sum (dv 2)) da_nil))))))))))
theorem ok__law_telling {f c f__law_draw f__law_row : Addr}  (A : FAt G.K mg "_law_telling" s__law_telling f c) (z_range : mg "range" = none) (z_tuple : mg "tuple" = none) (h__law_draw : DFs P G.wo G mg 2 "_law_draw" s__law_draw f__law_draw ["pool", "many"] F__law_draw) (h__law_row : DFs P G.wo G mg 4 "_law_row" s__law_row f__law_row ["pool", "many"] F__law_row) : DFs P G.wo G mg 5 "_law_telling" s__law_telling f ["pool", "worlds", "signs"] F__law_telling := by
  refine fn_at (k := 4) (cv := none) (N := N__law_telling) (ps := ["pool", "worlds", "signs"]) (fin := finM) (t := t__law_telling) A sc__law_telling finM_ok (fun v hv => by cases hv) fun A1 outer s H E hr => ?_
  exact (dss_cons (ds_setLc (own := [("w", 4)]) mkO rfl sc__law_telling.nd (i := 3) rfl rfl (sw_true rfl rfl rfl rfl) (di_range1 z_range (dv 1)) (blkOk_by (by kernel_rfl)) (fun s H C cl fp => (dgw_name (i := 4) sc__law_telling.nd rfl (by first | exact .inl rfl | exact .inr rfl) (by first | exact .inl rfl | exact .inr rfl) (by decide))) (fun s H C cl fp => dts_nil) (fun s H C cl fp => (dcall (G := G) h__law_row bd__law_row (hr.mono (by omega)) (da_cons (dv 0) (da_cons (dv 2) da_nil)))))
    (dss_cons (ds_if (dt_w (dw_and (dt_cmp c_gt (dv 1) de_int) (dw_and1 (dt_cmp (c_eq hr) (dcall (G := G) h__law_draw bd__law_draw (hr.mono (by omega)) (da_cons (dv 0) (da_cons de_int da_nil))) de_int)))) (dss_one (ds_asg (de_ix (dv 3) (dcall (G := G) h__law_draw bd__law_draw (hr.mono (by omega)) (da_cons (dv 0) (da_cons (dv 1) da_nil)))) (dg_ix (dv 3) (dcall (G := G) h__law_draw bd__law_draw (hr.mono (by omega)) (da_cons (dv 0) (da_cons (dv 1) da_nil)))))) dss_nil)
    (dss_one (ds_ret (de_tupOf z_tuple (dv 3))))))
theorem ok__law_gains {f c f__law_draw f__law_fraction f__law_pick : Addr}  (A : FAt G.K mg "_law_gains" s__law_gains f c) (z_range : mg "range" = none) (z_tuple : mg "tuple" = none) (h__law_draw : DFs P G.wo G mg 2 "_law_draw" s__law_draw f__law_draw ["pool", "many"] F__law_draw) (h__law_fraction : DFs P G.wo G mg 2 "_law_fraction" s__law_fraction f__law_fraction ["over", "under"] F__law_fraction) (h__law_pick : DFs P G.wo G mg 3 "_law_pick" s__law_pick f__law_pick ["pool", "things"] F__law_pick) : DFs P G.wo G mg 4 "_law_gains" s__law_gains f ["pool", "worlds", "acts"] F__law_gains := by
  refine fn_at (k := 3) (cv := none) (N := N__law_gains) (ps := ["pool", "worlds", "acts"]) (fin := finM) (t := t__law_gains) A sc__law_gains finM_ok (fun v hv => by cases hv) fun A1 outer s H E hr => ?_
  exact (dss_cons (ds_set (i := 3) sc__law_gains.nd rfl (by first | exact .inl rfl | exact .inr rfl) (de_lstO da_nil) rfl (by first | exact .inl rfl | exact .inr rfl))
    (dss_cons (ds_for PassesOwn.never rfl (fun _ => rfl) (di_range1 z_range (dv 1)) (dg_name (i := 4) sc__law_gains.nd rfl (by first | exact .inl rfl | exact .inr rfl) (by first | exact .inl rfl | exact .inr rfl)) (dss_one (ds_expr (de_append (dv 3) (da_cons (de_tupOf z_tuple (de_lc (own := [("a", 5)]) mkF rfl sc__law_gains.nd (di_range1 z_range (dv 2)) (blkOk_by (by kernel_rfl)) (fun s H C cl fp => (dgw_name (i := 5) sc__law_gains.nd rfl (by first | exact .inl rfl | exact .inr rfl) (by first | exact .inl rfl | exact .inr rfl) (by decide))) (fun s H C cl fp => dts_nil) (fun s H C cl fp => (dcall (G := G) h__law_fraction bd__law_fraction (hr.mono (by omega)) (da_cons (de_sub (dcall (G := G) h__law_draw bd__law_draw (hr.mono (by omega)) (da_cons (dv 0) (da_cons de_int da_nil))) de_int) (da_cons (dcall (G := G) h__law_pick bd__law_pick (hr.mono (by omega)) (da_cons (dv 0) (da_cons (de_lst (da_cons de_int (da_cons de_int (da_cons de_int (da_cons de_int (da_cons de_int da_nil)))))) da_nil))) da_nil)))))) da_nil)))))
    (dss_one (ds_ret (de_tupOf z_tuple (dv 3))))))
theorem ok__law_change {f c f__law_draw f__law_row : Addr}  (A : FAt G.K mg "_law_change" s__law_change f c) (z_range : mg "range" = none) (z_tuple : mg "tuple" = none) (h__law_draw : DFs P G.wo G mg 2 "_law_draw" s__law_draw f__law_draw ["pool", "many"] F__law_draw) (h__law_row : DFs P G.wo G mg 4 "_law_row" s__law_row f__law_row ["pool", "many"] F__law_row) : DFs P G.wo G mg 5 "_law_change" s__law_change f ["pool", "worlds"] F__law_change := by
  refine fn_at (k := 4) (cv := none) (N := N__law_change) (ps := ["pool", "worlds"]) (fin := finM) (t := t__law_change) A sc__law_change finM_ok (fun v hv => by cases hv) fun A1 outer s H E hr => ?_
  exact (dss_cons (ds_if (dt_cmp (c_eq hr) (dcall (G := G) h__law_draw bd__law_draw (hr.mono (by omega)) (da_cons (dv 0) (da_cons de_int da_nil))) de_int) (dss_one (ds_ret (de_tupOf z_tuple (de_lc (own := [("w", 2)]) mkF rfl sc__law_change.nd (di_range1 z_range (dv 1)) (blkOk_by (by kernel_rfl)) (fun s H C cl fp => (dgw_name (i := 2) sc__law_change.nd rfl (by first | exact .inl rfl | exact .inr rfl) (by first | exact .inl rfl | exact .inr rfl) (by decide))) (fun s H C cl fp => dts_nil) (fun s H C cl fp => (de_tupOf z_tuple (de_lc (own := [("v", 3)]) mkF rfl sc__law_change.nd (di_range1 z_range (dv 1)) (blkOk_by (by kernel_rfl)) (fun s H C cl fp => (dgw_name (i := 3) sc__law_change.nd rfl (by first | exact .inl rfl | exact .inr rfl) (by first | exact .inl rfl | exact .inr rfl) (by decide))) (fun s H C cl fp => dts_nil) (fun s H C cl fp => (de_if (dt_cmp (c_eq hr) (dv 2) (dv 3)) (de_tup (da_cons de_int (da_cons de_int da_nil))) (de_tup (da_cons de_int (da_cons de_int da_nil)))))))))))) dss_nil)
    (dss_one (ds_ret (de_tupOf z_tuple (de_lc (own := [("w", 2)]) mkF rfl sc__law_change.nd (di_range1 z_range (dv 1)) (blkOk_by (by kernel_rfl)) (fun s H C cl fp => (dgw_name (i := 2) sc__law_change.nd rfl (by first | exact .inl rfl | exact .inr rfl) (by first | exact .inl rfl | exact .inr rfl) (by decide))) (fun s H C cl fp => dts_nil) (fun s H C cl fp => (dcall (G := G) h__law_row bd__law_row (hr.mono (by omega)) (da_cons (dv 0) (da_cons (dv 1) da_nil)))))))))
theorem ok__law_moved {f c f__law_times f__law_total : Addr}  (A : FAt G.K mg "_law_moved" s__law_moved f c) (z_len : mg "len" = none) (z_range : mg "range" = none) (h__law_times : DFs P G.wo G mg 3 "_law_times" s__law_times f__law_times ["a", "b"] F__law_times) (h__law_total : DFs P G.wo G mg 4 "_law_total" s__law_total f__law_total ["some"] F__law_total) : DFs P G.wo G mg 5 "_law_moved" s__law_moved f ["change", "numbers"] F__law_moved := by
  refine fn_at (k := 4) (cv := none) (N := N__law_moved) (ps := ["change", "numbers"]) (fin := finP) (t := t__law_moved) A sc__law_moved finP_ok (fun v hv => by cases hv) fun A1 outer s H E hr => ?_
  exact (dss_cons (ds_set (i := 2) sc__law_moved.nd rfl (by first | exact .inl rfl | exact .inr rfl) (de_lstO da_nil) rfl (by first | exact .inl rfl | exact .inr rfl))
    (dss_cons (ds_for PassesOwn.never rfl (fun _ => rfl) (di_range1 z_range (de_len z_len (dv 0))) (dg_name (i := 3) sc__law_moved.nd rfl (by first | exact .inl rfl | exact .inr rfl) (by first | exact .inl rfl | exact .inr rfl)) (dss_one (ds_expr (de_append (dv 2) (da_cons (dcall (G := G) h__law_total bd__law_total (hr.mono (by omega)) (da_cons (de_lc (own := [("w", 4)]) mkF rfl sc__law_moved.nd (di_range1 z_range (de_len z_len (dv 0))) (blkOk_by (by kernel_rfl)) (fun s H C cl fp => (dgw_name (i := 4) sc__law_moved.nd rfl (by first | exact .inl rfl | exact .inr rfl) (by first | exact .inl rfl | exact .inr rfl) (by decide))) (fun s H C cl fp => dts_nil) (fun s H C cl fp => (dcall (G := G) h__law_times bd__law_times (hr.mono (by omega)) (da_cons (de_ix (dv 1) (dv 4)) (da_cons (de_ix (de_ix (dv 0) (dv 4)) (dv 3)) da_nil))))) da_nil)) da_nil)))))
    (dss_one (ds_ret (dv 2)))))
theorem ok__law_joint {f c f__law_moved f__law_times : Addr}  (A : FAt G.K mg "_law_joint" s__law_joint f c) (z_len : mg "len" = none) (z_list : mg "list" = none) (z_range : mg "range" = none) (h__law_moved : DFs P G.wo G mg 5 "_law_moved" s__law_moved f__law_moved ["change", "numbers"] F__law_moved) (h__law_times : DFs P G.wo G mg 3 "_law_times" s__law_times f__law_times ["a", "b"] F__law_times) : DFs P G.wo G mg 6 "_law_joint" s__law_joint f ["weights", "change", "telling", "signs"] F__law_joint := by
  refine fn_at (k := 5) (cv := none) (N := N__law_joint) (ps := ["weights", "change", "telling", "signs"]) (fin := finP) (t := t__law_joint) A sc__law_joint finP_ok (fun v hv => by cases hv) fun A1 outer s H E hr => ?_
  exact (dss_cons (ds_set (i := 4) sc__law_joint.nd rfl (by first | exact .inl rfl | exact .inr rfl) (de_listF z_list (dv 0)) rfl (by first | exact .inl rfl | exact .inr rfl))
    (dss_cons (ds_for PassesOwn.never rfl (fun _ => rfl) (di_range1 z_range (de_len z_len (dv 3))) (dg_name (i := 5) sc__law_joint.nd rfl (by first | exact .inl rfl | exact .inr rfl) (by first | exact .inl rfl | exact .inr rfl)) (dss_cons (ds_if (dt_cmp c_gt (dv 5) de_int) (dss_one (ds_set (i := 4) sc__law_joint.nd rfl (by first | exact .inl rfl | exact .inr rfl) (dcall (G := G) h__law_moved bd__law_moved (hr.mono (by omega)) (da_cons (dv 1) (da_cons (dv 4) da_nil))) rfl (by first | exact .inl rfl | exact .inr rfl))) dss_nil)
    (dss_one (ds_set (i := 4) sc__law_joint.nd rfl (by first | exact .inl rfl | exact .inr rfl) (de_lc (own := [("w", 6)]) mkF rfl sc__law_joint.nd (di_range1 z_range (de_len z_len (dv 4))) (blkOk_by (by kernel_rfl)) (fun s H C cl fp => (dgw_name (i := 6) sc__law_joint.nd rfl (by first | exact .inl rfl | exact .inr rfl) (by first | exact .inl rfl | exact .inr rfl) (by decide))) (fun s H C cl fp => dts_nil) (fun s H C cl fp => (dcall (G := G) h__law_times bd__law_times (hr.mono (by omega)) (da_cons (de_ix (dv 4) (dv 6)) (da_cons (de_ix (de_ix (dv 2) (dv 6)) (de_ix (dv 3) (dv 5))) da_nil))))) rfl (by first | exact .inl rfl | exact .inr rfl)))))
    (dss_one (ds_ret (dv 4)))))
theorem ok__law_rows_of {f c  : Addr}  (A : FAt G.K mg "_law_rows_of" s__law_rows_of f c) (z_range : mg "range" = none) : DFs P G.wo G mg 2 "_law_rows_of" s__law_rows_of f ["signs", "steps"] F__law_rows_of := by
  refine fn_at (k := 1) (cv := none) (N := N__law_rows_of) (ps := ["signs", "steps"]) (fin := finP) (t := t__law_rows_of) A sc__law_rows_of finP_ok (fun v hv => by cases hv) fun A1 outer s H E hr => ?_
  exact (dss_cons (ds_set (i := 2) sc__law_rows_of.nd rfl (by first | exact .inl rfl | exact .inr rfl) (de_lst (da_cons (de_tup da_nil) da_nil)) rfl (by first | exact .inl rfl | exact .inr rfl))
    (dss_cons (ds_for PassesOwn.never rfl (fun _ => rfl) (di_range1 z_range (dv 1)) (dg_name (i := 3) sc__law_rows_of.nd rfl (by first | exact .inl rfl | exact .inr rfl) (by first | exact .inl rfl | exact .inr rfl)) (dss_cons (ds_set (i := 4) sc__law_rows_of.nd rfl (by first | exact .inl rfl | exact .inr rfl) (de_lst da_nil) rfl (by first | exact .inl rfl | exact .inr rfl))
    (dss_cons (ds_for PassesOwn.never rfl (fun _ => rfl) (di_seq (dv 2)) (dg_name (i := 5) sc__law_rows_of.nd rfl (by first | exact .inl rfl | exact .inr rfl) (by first | exact .inl rfl | exact .inr rfl)) (dss_one (ds_set (i := 4) sc__law_rows_of.nd rfl (by first | exact .inl rfl | exact .inr rfl) (de_plus newF (dv 4) (de_lc (own := [("s", 6)]) mkF rfl sc__law_rows_of.nd (di_range1 z_range (dv 0)) (blkOk_by (by kernel_rfl)) (fun s H C cl fp => (dgw_name (i := 6) sc__law_rows_of.nd rfl (by first | exact .inl rfl | exact .inr rfl) (by first | exact .inl rfl | exact .inr rfl) (by decide))) (fun s H C cl fp => dts_nil) (fun s H C cl fp => (de_plus newF (dv 5) (de_tup (da_cons (dv 6) da_nil)))))) rfl (by first | exact .inl rfl | exact .inr rfl))))
    (dss_one (ds_set (i := 2) sc__law_rows_of.nd rfl (by first | exact .inl rfl | exact .inr rfl) (dv 4) rfl (by first | exact .inl rfl | exact .inr rfl))))))
    (dss_one (ds_ret (dv 2)))))
theorem ok__law_worth {f c f__law_joint f__law_less f__law_rows_of f__law_times f__law_total : Addr}  (A : FAt G.K mg "_law_worth" s__law_worth f c) (z_len : mg "len" = none) (z_range : mg "range" = none) (h__law_joint : DFs P G.wo G mg 6 "_law_joint" s__law_joint f__law_joint ["weights", "change", "telling", "signs"] F__law_joint) (h__law_less : DFs P G.wo G mg 3 "_law_less" s__law_less f__law_less ["a", "b"] F__law_less) (h__law_rows_of : DFs P G.wo G mg 2 "_law_rows_of" s__law_rows_of f__law_rows_of ["signs", "steps"] F__law_rows_of) (h__law_times : DFs P G.wo G mg 3 "_law_times" s__law_times f__law_times ["a", "b"] F__law_times) (h__law_total : DFs P G.wo G mg 4 "_law_total" s__law_total f__law_total ["some"] F__law_total) : DFs P G.wo G mg 7 "_law_worth" s__law_worth f ["weights", "change", "telling", "gains", "steps"] F__law_worth := by
  refine fn_at (k := 6) (cv := none) (N := N__law_worth) (ps := ["weights", "change", "telling", "gains", "steps"]) (fin := finP) (t := t__law_worth) A sc__law_worth finP_ok (fun v hv => by cases hv) fun A1 outer s H E hr => ?_
  exact (dss_cons (ds_set (i := 5) sc__law_worth.nd rfl (by first | exact .inl rfl | exact .inr rfl) (de_lstO da_nil) rfl (by first | exact .inl rfl | exact .inr rfl))
    (dss_cons (ds_for PassesOwn.never rfl (fun _ => rfl) (di_range2 z_range de_int (de_plus newF (dv 4) de_int)) (dg_name (i := 6) sc__law_worth.nd rfl (by first | exact .inl rfl | exact .inr rfl) (by first | exact .inl rfl | exact .inr rfl)) (dss_one (ds_for PassesOwn.never rfl (fun _ => rfl) (di_seq (dcall (G := G) h__law_rows_of bd__law_rows_of (hr.mono (by omega)) (da_cons (de_len z_len (de_ix (dv 2) de_int)) (da_cons (dv 6) da_nil)))) (dg_name (i := 7) sc__law_worth.nd rfl (by first | exact .inl rfl | exact .inr rfl) (by first | exact .inl rfl | exact .inr rfl)) (dss_cons (ds_asg (de_tup (da_cons (dcall (G := G) h__law_joint bd__law_joint (hr.mono (by omega)) (da_cons (dv 0) (da_cons (dv 1) (da_cons (dv 2) (da_cons (dv 7) da_nil))))) (da_cons de_non da_nil))) (dg_tup rfl (dgs_cons (dg_name (i := 9) sc__law_worth.nd rfl (by first | exact .inl rfl | exact .inr rfl) (by first | exact .inl rfl | exact .inr rfl)) (dgs_cons (dg_name (i := 10) sc__law_worth.nd rfl (by first | exact .inl rfl | exact .inr rfl) (by first | exact .inl rfl | exact .inr rfl)) dgs_nil))))
    (dss_cons (ds_for PassesOwn.never rfl (fun _ => rfl) (di_range1 z_range (de_len z_len (de_ix (dv 3) de_int))) (dg_name (i := 8) sc__law_worth.nd rfl (by first | exact .inl rfl | exact .inr rfl) (by first | exact .inl rfl | exact .inr rfl)) (dss_cons (ds_set (i := 11) sc__law_worth.nd rfl (by first | exact .inl rfl | exact .inr rfl) (dcall (G := G) h__law_total bd__law_total (hr.mono (by omega)) (da_cons (de_lc (own := [("w", 12)]) mkF rfl sc__law_worth.nd (di_range1 z_range (de_len z_len (dv 9))) (blkOk_by (by kernel_rfl)) (fun s H C cl fp => (dgw_name (i := 12) sc__law_worth.nd rfl (by first | exact .inl rfl | exact .inr rfl) (by first | exact .inl rfl | exact .inr rfl) (by decide))) (fun s H C cl fp => dts_nil) (fun s H C cl fp => (dcall (G := G) h__law_times bd__law_times (hr.mono (by omega)) (da_cons (de_ix (dv 9) (dv 12)) (da_cons (de_ix (de_ix (dv 3) (dv 12)) (dv 8)) da_nil))))) da_nil)) rfl (by first | exact .inl rfl | exact .inr rfl))
    (dss_one (ds_if (dt_w (dw_or (dt_cmp c_isN (dv 10) de_non) (dw_or1 (dt_cmp c_gt (de_ix (dcall (G := G) h__law_less bd__law_less (hr.mono (by omega)) (da_cons (dv 11) (da_cons (dv 10) da_nil))) de_int) de_int)))) (dss_one (ds_set (i := 10) sc__law_worth.nd rfl (by first | exact .inl rfl | exact .inr rfl) (dv 11) rfl (by first | exact .inl rfl | exact .inr rfl))) dss_nil))))
    (dss_one (ds_expr (de_append (dv 5) (da_cons (dv 10) da_nil)))))))))
    (dss_one (ds_ret (dcall (G := G) h__law_total bd__law_total (hr.mono (by omega)) (da_cons (dv 5) da_nil))))))
theorem ok__law_garbled {f c f__law_times f__law_total : Addr}  (A : FAt G.K mg "_law_garbled" s__law_garbled f c) (z_len : mg "len" = none) (z_range : mg "range" = none) (z_tuple : mg "tuple" = none) (h__law_times : DFs P G.wo G mg 3 "_law_times" s__law_times f__law_times ["a", "b"] F__law_times) (h__law_total : DFs P G.wo G mg 4 "_law_total" s__law_total f__law_total ["some"] F__law_total) : DFs P G.wo G mg 5 "_law_garbled" s__law_garbled f ["telling", "table"] F__law_garbled := by
  refine fn_at (k := 4) (cv := none) (N := N__law_garbled) (ps := ["telling", "table"]) (fin := finP) (t := t__law_garbled) A sc__law_garbled finP_ok (fun v hv => by cases hv) fun A1 outer s H E hr => ?_
  exact (dss_cons (ds_set (i := 2) sc__law_garbled.nd rfl (by first | exact .inl rfl | exact .inr rfl) (de_lstO da_nil) rfl (by first | exact .inl rfl | exact .inr rfl))
    (dss_cons (ds_for PassesOwn.never rfl (fun _ => rfl) (di_seq (dv 0)) (dg_name (i := 3) sc__law_garbled.nd rfl (by first | exact .inl rfl | exact .inr rfl) (by first | exact .inl rfl | exact .inr rfl)) (dss_one (ds_expr (de_append (dv 2) (da_cons (de_tupOf z_tuple (de_lc (own := [("j", 4)]) mkF rfl sc__law_garbled.nd (di_range1 z_range (de_len z_len (de_ix (dv 1) de_int))) (blkOk_by (by kernel_rfl)) (fun s H C cl fp => (dgw_name (i := 4) sc__law_garbled.nd rfl (by first | exact .inl rfl | exact .inr rfl) (by first | exact .inl rfl | exact .inr rfl) (by decide))) (fun s H C cl fp => dts_nil) (fun s H C cl fp => (dcall (G := G) h__law_total bd__law_total (hr.mono (by omega)) (da_cons (de_lc (own := [("s", 5)]) mkF rfl sc__law_garbled.nd (di_range1 z_range (de_len z_len (dv 3))) (blkOk_by (by kernel_rfl)) (fun s H C cl fp => (dgw_name (i := 5) sc__law_garbled.nd rfl (by first | exact .inl rfl | exact .inr rfl) (by first | exact .inl rfl | exact .inr rfl) (by decide))) (fun s H C cl fp => dts_nil) (fun s H C cl fp => (dcall (G := G) h__law_times bd__law_times (hr.mono (by omega)) (da_cons (de_ix (dv 3) (dv 5)) (da_cons (de_ix (de_ix (dv 1) (dv 5)) (dv 4)) da_nil))))) da_nil))))) da_nil)))))
    (dss_one (ds_ret (de_tupOf z_tuple (dv 2))))))
theorem ok__law_is_far {f c  fx_step_worth C_TooFar : Addr}  (A : FAt G.K mg "_law_is_far" s__law_is_far f c) (z_range : mg "range" = none) (z_tuple : mg "tuple" = none) (X_TooFar : XAt G.K mg "TooFar" C_TooFar) (hx_step_worth : DFx P G.wo G mg 3 "step_worth" s_step_worth fx_step_worth ["weights", "change", "telling", "gains", "steps"] C_TooFar Fx_step_worth) : DFs P G.wo G mg 4 "_law_is_far" s__law_is_far f ["worlds", "signs"] F__law_is_far := by
  refine fn_at (k := 3) (cv := none) (N := N__law_is_far) (ps := ["worlds", "signs"]) (fin := finP) (t := t__law_is_far) A sc__law_is_far finP_ok (fun v hv => by cases hv) fun A1 outer s H E hr => ?_
  exact (dss_cons (ds_set (i := 2) sc__law_is_far.nd rfl (by first | exact .inl rfl | exact .inr rfl) (de_tupOf z_tuple (de_lc (own := [("w", 3)]) mkF rfl sc__law_is_far.nd (di_range1 z_range (dv 0)) (blkOk_by (by kernel_rfl)) (fun s H C cl fp => (dgw_name (i := 3) sc__law_is_far.nd rfl (by first | exact .inl rfl | exact .inr rfl) (by first | exact .inl rfl | exact .inr rfl) (by decide))) (fun s H C cl fp => dts_nil) (fun s H C cl fp => (de_tupOf z_tuple (de_lc (own := [("s", 4)]) mkF rfl sc__law_is_far.nd (di_range1 z_range (dv 1)) (blkOk_by (by kernel_rfl)) (fun s H C cl fp => (dgw_name (i := 4) sc__law_is_far.nd rfl (by first | exact .inl rfl | exact .inr rfl) (by first | exact .inl rfl | exact .inr rfl) (by decide))) (fun s H C cl fp => dts_nil) (fun s H C cl fp => (de_if (dt_cmp (c_eq hr) (dv 4) de_int) (de_tup (da_cons de_int (da_cons de_int da_nil))) (de_tup (da_cons de_int (da_cons de_int da_nil)))))))))) rfl (by first | exact .inl rfl | exact .inr rfl))
    (dss_cons (ds_set (i := 5) sc__law_is_far.nd rfl (by first | exact .inl rfl | exact .inr rfl) (de_tupOf z_tuple (de_lc (own := [("w", 3)]) mkF rfl sc__law_is_far.nd (di_range1 z_range (dv 0)) (blkOk_by (by kernel_rfl)) (fun s H C cl fp => (dgw_name (i := 3) sc__law_is_far.nd rfl (by first | exact .inl rfl | exact .inr rfl) (by first | exact .inl rfl | exact .inr rfl) (by decide))) (fun s H C cl fp => dts_nil) (fun s H C cl fp => (de_tupOf z_tuple (de_lc (own := [("v", 6)]) mkF rfl sc__law_is_far.nd (di_range1 z_range (dv 0)) (blkOk_by (by kernel_rfl)) (fun s H C cl fp => (dgw_name (i := 6) sc__law_is_far.nd rfl (by first | exact .inl rfl | exact .inr rfl) (by first | exact .inl rfl | exact .inr rfl) (by decide))) (fun s H C cl fp => dts_nil) (fun s H C cl fp => (de_tup (da_cons de_int (da_cons (dv 0) da_nil))))))))) rfl (by first | exact .inl rfl | exact .inr rfl))
    (dss_cons (ds_try X_TooFar rfl rfl (fun pn xe => (x_one (x_expr (x_call (G := G) hx_step_worth bd_step_worth (hr.mono (by omega)) (da_cons (de_ix (dv 5) de_int) (da_cons (dv 5) (da_cons (dv 2) (da_cons (de_times newF (de_tup (da_cons (de_tup (da_cons (de_tup (da_cons de_int (da_cons de_int da_nil))) (da_cons (de_tup (da_cons de_int (da_cons de_int da_nil))) da_nil))) da_nil)) (dv 0)) (da_cons de_int da_nil))))))))) (fun a pn => (dss_one (ds_ret de_bl))))
    (dss_one (ds_ret de_bl)))))
theorem ok_law {f c f__law_change f__law_draw f__law_gains f__law_garbled f__law_is_far f__law_less f__law_pick f__law_pool f__law_row f__law_same f__law_telling f__law_worth f_step_worth : Addr}  (A : FAt G.K mg "law" s_law f c) (z_range : mg "range" = none) (z_tuple : mg "tuple" = none) (h__law_change : DFs P G.wo G mg 5 "_law_change" s__law_change f__law_change ["pool", "worlds"] F__law_change) (h__law_draw : DFs P G.wo G mg 2 "_law_draw" s__law_draw f__law_draw ["pool", "many"] F__law_draw) (h__law_gains : DFs P G.wo G mg 4 "_law_gains" s__law_gains f__law_gains ["pool", "worlds", "acts"] F__law_gains) (h__law_garbled : DFs P G.wo G mg 5 "_law_garbled" s__law_garbled f__law_garbled ["telling", "table"] F__law_garbled) (h__law_is_far : DFs P G.wo G mg 4 "_law_is_far" s__law_is_far f__law_is_far ["worlds", "signs"] F__law_is_far) (h__law_less : DFs P G.wo G mg 3 "_law_less" s__law_less f__law_less ["a", "b"] F__law_less) (h__law_pick : DFs P G.wo G mg 3 "_law_pick" s__law_pick f__law_pick ["pool", "things"] F__law_pick) (h__law_pool : DFs P G.wo G mg 2 "_law_pool" s__law_pool f__law_pool ["script"] F__law_pool) (h__law_row : DFs P G.wo G mg 4 "_law_row" s__law_row f__law_row ["pool", "many"] F__law_row) (h__law_same : DFs P G.wo G mg 9 "_law_same" s__law_same f__law_same ["told", "due"] (F__law_same 8)) (h__law_telling : DFs P G.wo G mg 5 "_law_telling" s__law_telling f__law_telling ["pool", "worlds", "signs"] F__law_telling) (h__law_worth : DFs P G.wo G mg 7 "_law_worth" s__law_worth f__law_worth ["weights", "change", "telling", "gains", "steps"] F__law_worth) (h_step_worth : DFs P G.wo G mg 13 "step_worth" s_step_worth f_step_worth ["weights", "change", "telling", "gains", "steps"] F_step_worth) : DFs P G.wo G mg 14 "law" s_law f ["script"] F_law := by
  refine fn_at (k := 13) (cv := none) (N := N_law) (ps := ["script"]) (fin := finP) (t := t_law) A sc_law finP_ok (fun v hv => by cases hv) fun A1 outer s H E hr => ?_
  exact (dss_cons (ds_set (i := 1) sc_law.nd rfl (by first | exact .inl rfl | exact .inr rfl) (dcall (G := G) h__law_pool bd__law_pool (hr.mono (by omega)) (da_cons (dv 0) da_nil)) rfl (by first | exact .inl rfl | exact .inr rfl))
    (dss_cons (ds_for PassesOwn.never rfl (fun _ => rfl) (di_range1 z_range de_int) (dg_name (i := 2) sc_law.nd rfl (by first | exact .inl rfl | exact .inr rfl) (by first | exact .inl rfl | exact .inr rfl)) (dss_cons (ds_par (i := 7) (j := 8) rfl sc_law.nd rfl rfl (by decide) rfl rfl (da_cons (dcall (G := G) h__law_pick bd__law_pick (hr.mono (by omega)) (da_cons (dv 1) (da_cons (de_lst (da_cons de_int (da_cons de_int (da_cons de_int (da_cons de_int (da_cons de_int da_nil)))))) da_nil))) (da_cons (dcall (G := G) h__law_pick bd__law_pick (hr.mono (by omega)) (da_cons (dv 1) (da_cons (de_lst (da_cons de_int (da_cons de_int (da_cons de_int (da_cons de_int da_nil))))) da_nil))) da_nil)) rfl)
    (dss_cons (ds_set (i := 3) sc_law.nd rfl (by first | exact .inl rfl | exact .inr rfl) (dcall (G := G) h__law_pick bd__law_pick (hr.mono (by omega)) (da_cons (dv 1) (da_cons (de_if (dt_cmp c_lt (dv 8) de_int) (de_lst (da_cons de_int (da_cons de_int (da_cons de_int (da_cons de_int da_nil))))) (de_lst (da_cons de_int (da_cons de_int (da_cons de_int da_nil))))) da_nil))) rfl (by first | exact .inl rfl | exact .inr rfl))
    (dss_cons (ds_par3 (i := 9) (j := 10) (l := 11) rfl sc_law.nd rfl rfl rfl (by decide) (by decide) (by decide) rfl rfl rfl (da_cons (dcall (G := G) h__law_row bd__law_row (hr.mono (by omega)) (da_cons (dv 1) (da_cons (dv 7) da_nil))) (da_cons (dcall (G := G) h__law_change bd__law_change (hr.mono (by omega)) (da_cons (dv 1) (da_cons (dv 7) da_nil))) (da_cons (dcall (G := G) h__law_telling bd__law_telling (hr.mono (by omega)) (da_cons (dv 1) (da_cons (dv 7) (da_cons (dv 8) da_nil)))) da_nil))) rfl)
    (dss_cons (ds_set (i := 4) sc_law.nd rfl (by first | exact .inl rfl | exact .inr rfl) (dcall (G := G) h__law_gains bd__law_gains (hr.mono (by omega)) (da_cons (dv 1) (da_cons (dv 7) (da_cons (de_plus newF de_int (dcall (G := G) h__law_draw bd__law_draw (hr.mono (by omega)) (da_cons (dv 1) (da_cons de_int da_nil)))) da_nil)))) rfl (by first | exact .inl rfl | exact .inr rfl))
    (dss_cons (ds_set (i := 5) sc_law.nd rfl (by first | exact .inl rfl | exact .inr rfl) (dcall (G := G) h__law_worth bd__law_worth (hr.mono (by omega)) (da_cons (dv 9) (da_cons (dv 10) (da_cons (dv 11) (da_cons (dv 4) (da_cons (dv 3) da_nil)))))) rfl (by first | exact .inl rfl | exact .inr rfl))
    (dss_cons (ds_if (dt_not (dt_tru (dcall (G := G) h__law_same bd__law_same (hr.mono (by omega)) (da_cons (dcall (G := G) h_step_worth bd_step_worth (hr.mono (by omega)) (da_cons (dv 9) (da_cons (dv 10) (da_cons (dv 11) (da_cons (dv 4) (da_cons (dv 3) da_nil)))))) (da_cons (dv 5) da_nil))))) (dss_one (ds_ret de_bl)) dss_nil)
    (dss_cons (ds_if (dt_not (dt_tru (dcall (G := G) h__law_same bd__law_same (hr.mono (by omega)) (da_cons (dcallK (G := G) (idx := [0, 1, 2, 3, 4]) h_step_worth bk_step_worth_01234 (hr.mono (by omega)) (dk_cons (dv 9) (dk_cons (dv 10) (dk_cons (dv 11) (dk_cons (dv 4) (dk_cons (dv 3) dk_nil))))) (hn := (al_cons (al_cons (al_cons (al_cons (al_cons al_nil))))))) (da_cons (dv 5) da_nil))))) (dss_one (ds_ret de_bl)) dss_nil)
    (dss_cons (ds_set (i := 6) sc_law.nd rfl (by first | exact .inl rfl | exact .inr rfl) (dcall (G := G) h__law_garbled bd__law_garbled (hr.mono (by omega)) (da_cons (dv 11) (da_cons (de_tupOf z_tuple (de_lc (own := [("s", 12)]) mkF rfl sc_law.nd (di_range1 z_range (dv 8)) (blkOk_by (by kernel_rfl)) (fun s H C cl fp => (dgw_name (i := 12) sc_law.nd rfl (by first | exact .inl rfl | exact .inr rfl) (by first | exact .inl rfl | exact .inr rfl) (by decide))) (fun s H C cl fp => dts_nil) (fun s H C cl fp => (dcall (G := G) h__law_row bd__law_row (hr.mono (by omega)) (da_cons (dv 1) (da_cons de_int da_nil)))))) da_nil))) rfl (by first | exact .inl rfl | exact .inr rfl))
    (dss_one (ds_if (dt_cmp c_lt (de_ix (dcall (G := G) h__law_less bd__law_less (hr.mono (by omega)) (da_cons (dv 5) (da_cons (dcall (G := G) h_step_worth bd_step_worth (hr.mono (by omega)) (da_cons (dv 9) (da_cons (dv 10) (da_cons (dv 6) (da_cons (dv 4) (da_cons (dv 3) da_nil)))))) da_nil))) de_int) de_int) (dss_one (ds_ret de_bl)) dss_nil)))))))))))
    (dss_cons (ds_asg (dcall (G := G) h__law_pick bd__law_pick (hr.mono (by omega)) (da_cons (dv 1) (da_cons (de_lst (da_cons (de_tup (da_cons de_int (da_cons de_int da_nil))) (da_cons (de_tup (da_cons de_int (da_cons de_int da_nil))) (da_cons (de_tup (da_cons de_int (da_cons de_int da_nil))) (da_cons (de_tup (da_cons de_int (da_cons de_int da_nil))) da_nil))))) da_nil))) (dg_tup rfl (dgs_cons (dg_name (i := 7) sc_law.nd rfl (by first | exact .inl rfl | exact .inr rfl) (by first | exact .inl rfl | exact .inr rfl)) (dgs_cons (dg_name (i := 8) sc_law.nd rfl (by first | exact .inl rfl | exact .inr rfl) (by first | exact .inl rfl | exact .inr rfl)) dgs_nil))))
    (dss_one (ds_ret (dcall (G := G) h__law_is_far bd__law_is_far (hr.mono (by omega)) (da_cons (dv 7) (da_cons (dv 8) da_nil))))))))
end
end LW

set_option maxRecDepth 100000
set_option maxHeartbeats 4000000
namespace LW
open PySem DL PL
open Classical
local macro_rules | `(tactic| walk_at "env") => `(tactic| (simp only [startD, List.map_cons, List.map_nil, List.length_cons, List.length_nil, Nat.reduceAdd, Nat.reduceSub, List.replicate, List.cons_append, List.nil_append, wipeD, List.set]; try rfl))
local macro_rules | `(tactic| walk_at "sto") => `(tactic| (simp only [List.cons_append, List.nil_append, List.set, List.set_cons_zero, List.set_cons_succ, Int.toNat_natCast, Int.reduceToNat]; try rfl))
local macro_rules | `(tactic| walk_at "if") => `(tactic| (refine ⟨fun hc => ?_, fun hc => ?_⟩ <;> simp only [decide_eq_true_eq, decide_eq_false_iff_not, Bool.not_eq_true', Bool.not_eq_false', bne_iff_ne, ne_eq, beq_iff_eq] at hc <;> try (exfalso; first | assumption | omega | (simp at hc; done))))
local macro_rules | `(tactic| walk_at "side") => `(tactic| first | assumption | omega | decide | (simp; done) | (simp; omega))
local macro_rules | `(tactic| walk_at "mul") => `(tactic| first | assumption | exact mul_sm (by first | decide | omega) | exact mul_sm' (by first | decide | omega))
local macro_rules | `(tactic| walk_at "div") => `(tactic| first | assumption | exact div_sm (by omega) (by omega))
local macro_rules | `(tactic| walk_at "w1") => `(tactic| first
  | (guard_target = wS _ (List.set _ _ _) _ _ _; refine wS_env (by walk_at "env") ?_)
  | (guard_target = wE _ (List.set _ _ _) _ _; refine wE_env (by walk_at "env") ?_)
  | (guard_target = wG _ _ (wipeD _ _) _ _; refine wG_env (by walk_at "env") ?_)
  | (guard_target = wS _ (startD _ _) _ _ _; refine wS_env (by walk_at "env") ?_)
  | (guard_target = wS (sSeq (sSet _ _) _) _ _ _ _; refine wS_seq ?_)
  | (guard_target = wS (sSeq (sAsg _ _) _) _ _ _ _; refine wS_seq ?_)
  | (guard_target = wS (sSeq (sExpr _) _) _ _ _ _; refine wS_seq ?_)
  | (guard_target = wS (sSeq (sPar _ _ _) _) _ _ _ _; refine wS_seq ?_)
  | (guard_target = wS (sSeq (sPar3 _ _ _ _) _) _ _ _ _; refine wS_seq ?_)
  | (guard_target = wS (sSeq (sAug _ _ _) _) _ _ _ _; refine wS_seq ?_)
  | (guard_target = wS (sSeq (sSeq _ _) _) _ _ _ _; refine wS_seq ?_)
  | (guard_target = wS _ _ (List.set _ _ _) _ _; refine wS_sto (by walk_at "sto") ?_)
  | (guard_target = wE _ _ (List.set _ _ _) _; refine wE_sto (by walk_at "sto") ?_)
  | (guard_target = wG (gIx _ _) _ _ _ _; refine wG_ix2 ?_)
  | (guard_target = ∃ (_ : Nat) (_ : Int) (_ : Nat) (_ : List D), _; refine ⟨_, _, _, _, rfl, rfl, rfl, rfl, ?_⟩)
  | (guard_target = wS (sSet _ _) _ _ _ _; refine wS_set ?_)
  | (guard_target = wS (sRet _) _ _ _ _; refine wS_ret ?_)
  | (guard_target = wS (sExpr _) _ _ _ _; refine wS_expr ?_)
  | (guard_target = wS sPass _ _ _ _; refine wS_pass ?_)
  | (guard_target = wS sBreak _ _ _ _; refine wS_break ?_)
  | (guard_target = wS sCont _ _ _ _; refine wS_cont ?_)
  | (guard_target = wS (sIf _ _ _) _ _ _ _; refine wS_if ?_)
  | (guard_target = wS (sAsg _ _) _ _ _ _; refine wS_asg ?_)
  | (guard_target = wS (sPar _ _ _) _ _ _ _; refine wS_par ?_)
  | (guard_target = wS (sPar3 _ _ _ _) _ _ _ _; refine wS_par3 ?_)
  | (guard_target = wS (sAug _ _ _) _ _ _ _; refine wS_aug rfl ?_)
  | (guard_target = wE (eV _) _ _ _; refine wE_v rfl ?_)
  | (guard_target = wE (eC _) _ _ _; refine wE_c ?_)
  | (guard_target = wE (e1 _ _) _ _ _; refine wE_1 ?_)
  | (guard_target = wE (e2 _ _ _) _ _ _; refine wE_2 ?_)
  | (guard_target = wE (e2s _ _ _) _ _ _; refine wE_2s ?_)
  | (guard_target = wE (eA _ _) _ _ _; refine wE_A ?_)
  | (guard_target = wA (aCons _ _) _ _ _; refine wA_cons ?_)
  | (guard_target = wA aNil _ _ _; refine wA_nil ?_)
  | (guard_target = wE (eM _ _ _) _ _ _; refine wE_M ?_)
  | (guard_target = wE (eAnd _ _) _ _ _; refine wE_and ?_)
  | (guard_target = wE (eOr _ _) _ _ _; refine wE_or ?_)
  | (guard_target = wE (eIf _ _ _) _ _ _; refine wE_if ?_)
  | (guard_target = wE (eChain _ _ _ _ _) _ _ _; refine wE_chain ?_)
  | (guard_target = wE (eLc _ _ _ tYesD _ _) _ _ _; refine wE_lcR ?_)
  | (guard_target = wE (eLc2 _ _ _ tYesD _ _ tYesD _ _ _) _ _ _; refine wE_lc2R ?_)
  | (guard_target = wE (eBl _) _ _ _; refine wE_bl ?_)
  | (guard_target = wE (eSl _ _ _ _) _ _ _; refine wE_sl ?_)
  | (guard_target = wE (eSlS _ _ _ _) _ _ _; refine wE_slS ?_)
  | (guard_target = wO oNo _ _ _; refine wO_no ?_)
  | (guard_target = wO (oSome _) _ _ _; refine wO_some ?_)
  | (guard_target = ∃ _ : Int, _; refine ⟨_, rfl, ?_⟩)
  | (guard_target = wSl _ (.tup _) _ _ _ _; refine wSl_tup ?_)
  | (guard_target = wSl _ (.lst _) _ _ _ _; refine wSl_lst ?_)
  | (guard_target = wSl _ (.scr _) _ _ _ _; refine wSl_scr ?_)
  | (guard_target = wT (tBl _) _ _ _; refine wT_bl ?_)
  | (guard_target = wT (tTru _) _ _ _; refine wT_tru ?_)
  | (guard_target = wT (tNotD _) _ _ _; refine wT_not ?_)
  | (guard_target = wT (tAndD _ _) _ _ _; refine wT_and ?_)
  | (guard_target = wT (tOrD _ _) _ _ _; refine wT_or ?_)
  | (guard_target = wT (tIfD _ _ _) _ _ _; refine wT_if ?_)
  | (guard_target = wT tYesD _ _ _; refine wT_yes ?_)
  | (guard_target = wT (tGenQ _ _ _ tYesD _ _) _ _ _; refine wT_genR ?_)
  | (guard_target = wT (tGenQ2 _ _ _ tYesD _ _ tYesD _ _ _) _ _ _; refine wT_gen2R ?_)
  | (guard_target = wI (iSeq _) _ _ _; refine wI_seqR ?_)
  | (guard_target = wI (iRange1 _) _ _ _; refine wI_rangeR ?_)
  | (guard_target = wI (iRange2 _ _) _ _ _; refine wI_range2R ?_)
  | (guard_target = wI (iZip (aCons _ (aCons _ aNil))) _ _ _; refine wI_zipR ?_)
  | (guard_target = wI (iEnum (aCons _ aNil)) _ _ _; refine wI_enumR ?_)
  | (guard_target = wG (gNm _) _ _ _ _; refine wG_nm ?_)
  | (guard_target = wG (gTp _ _) _ _ _ _; refine wG_tp rfl ?_)
  | (guard_target = wGs (gsCons _ _) _ _ _ _; refine wGs_cons ?_)
  | (guard_target = wGs gsNil _ _ _ _; refine wGs_nil ?_)
  | (guard_target = w2 fAdd _ _ _ _; refine w2_add ?_)
  | (guard_target = w2 fSub _ _ _ _; refine w2_sub ?_)
  | (guard_target = w2 fMul _ _ _ _; refine w2_mul (by walk_at "mul") ?_)
  | (guard_target = w2 fDiv _ _ _ _; refine w2_div (by walk_at "div") ?_)
  | (guard_target = w2 fMod _ _ _ _; refine w2_mod (by walk_at "side") ?_)
  | (guard_target = w2 (fCmp _) _ _ _ _; refine w2_cmp ?_)
  | (guard_target = w2 fEq (.int _) (.int _) _ _; refine w2_eqI ?_)
  | (guard_target = w2 fNe (.int _) (.int _) _ _; refine w2_neI ?_)
  | (guard_target = w2 fIx _ (.int _) _ _; refine w2_eq rfl ?_)
  | (guard_target = w2 fIx _ (.int 0) _ _; refine w2_ix0 rfl (by walk_at "side") ?_)
  | (guard_target = w2 fIx _ (.int (Nat.cast _)) _ _; refine w2_ixR rfl (by walk_at "side") ?_)
  | (guard_target = w2s (fPlus _) (.int _) (.int _) _ _; refine w2s_plusI ?_)
  | (guard_target = w2s (fTimes _) (.int _) (.int _) _ _; refine w2s_timesI (by walk_at "mul") ?_)
  | (guard_target = w2 fPow (.int _) (.int _) _ _; refine w2_pow (by decide) (by decide) (by decide) ?_)
  | (guard_target = w2 fIsB _ _ _ _; refine w2_eq rfl ?_)
  | (guard_target = w2 fNotB _ _ _ _; refine w2_eq rfl ?_)
  | (guard_target = w2 fIsN _ _ _ _; refine w2_eq rfl ?_)
  | (guard_target = w2 fNotN _ _ _ _; refine w2_eq rfl ?_)
  | (guard_target = w1 _ _ _ _; refine w1_eq rfl ?_)
  | (guard_target = wTru _ _ _; refine wTru_eq rfl ?_)
  | (guard_target = wF fTup _ _ _; refine wF_tup (by walk_at "side") ?_)
  | (guard_target = wF fLst _ _ _; refine wF_lst (by walk_at "side") ?_)
  | (guard_target = wF fObj _ _ _; refine wF_obj (by walk_at "side") ?_)
  | (guard_target = wF fLen [dQ _] _ _; refine wF_len2 ?_)
  | (guard_target = wF fLen _ _ _; refine wF_lenR rfl ?_)
  | (guard_target = wF fAbs _ _ _; refine wF_abs ?_)
  | (guard_target = wF fInt1 [.int _] _ _; refine wF_int ?_)
  | (guard_target = wF fInt1 [.bl _] _ _; refine wF_intB ?_)
  | (guard_target = wF fListF _ _ _; refine wF_listF rfl ?_)
  | (guard_target = wF fListO _ _ _; refine wF_listO rfl ?_)
  | (guard_target = wF fTupOf _ _ _; refine wF_tupOf rfl ?_)
  | (guard_target = wF fSum _ _ _; refine wF_sumR rfl ?_)
  | (guard_target = wF fMax2 _ _ _; refine wF_max2 ?_)
  | (guard_target = wF fMin2 _ _ _; refine wF_min2 ?_)
  | (guard_target = (false = true → _) ∧ _; refine ⟨fun h => (nomatch h), fun _ => ?_⟩)
  | (guard_target = (true = true → _) ∧ _; refine ⟨fun _ => ?_, fun h => (nomatch h)⟩)
  | (guard_target = ((!false) = true → _) ∧ _; refine ⟨fun _ => ?_, fun h => (nomatch h)⟩)
  | (guard_target = ((!true) = true → _) ∧ _; refine ⟨fun h => (nomatch h), fun _ => ?_⟩)
  | (guard_target = (isNon _ = true → _) ∧ _; first | refine ⟨fun h => absurd h Bool.false_ne_true, fun _ => ?_⟩ | refine ⟨fun _ => ?_, fun h => absurd h.symm Bool.false_ne_true⟩)
  | (guard_target = ((!isNon _) = true → _) ∧ _; first | refine ⟨fun h => absurd h Bool.false_ne_true, fun _ => ?_⟩ | refine ⟨fun _ => ?_, fun h => absurd h.symm Bool.false_ne_true⟩)
  | (guard_target = (_ = true → _) ∧ (_ = false → _); first | refine ⟨fun h => absurd h (by decide), fun _ => ?_⟩ | refine ⟨fun _ => ?_, fun h => absurd h (by decide)⟩)
  | (guard_target = (_ = _) ∧ _; refine ⟨rfl, ?_⟩)
  | (guard_target = _ ∧ (_ = _); refine ⟨?_, rfl⟩)
  | (guard_target = True ∧ _; refine ⟨trivial, ?_⟩)
  | (guard_target = ∃ _ : Bool, _; refine ⟨_, rfl, ?_⟩)
  | (guard_target = ∃ (_ _ : D), _; refine ⟨_, _, rfl, ?_⟩)
  | (guard_target = ∃ (_ _ _ : D), _; refine ⟨_, _, _, rfl, ?_⟩)
  | rfl)
local macro_rules | `(tactic| walk_at "w") => `(tactic| repeat' (walk_at "w1"))
local macro_rules | `(tactic| walk_at "v") => `(tactic| repeat' ((fail_if_success (guard_target = wE (eLc _ _ _ _ _ _) _ _ _)); walk_at "w1"))
local macro_rules | `(tactic| walk_at "g") => `(tactic| (repeat' (first
  | (guard_target = wG (gNm _) _ _ _ _; refine wG_nm ?_)
  | (guard_target = wG (gTp _ _) _ _ _ _; refine wG_tp rfl ?_)
  | (guard_target = wGs (gsCons _ _) _ _ _ _; refine wGs_cons ?_)
  | (guard_target = wGs gsNil _ _ _ _; refine wGs_nil ?_)
  | (guard_target = wS _ (List.set _ _ _) _ _ _; refine wS_env (by walk_at "env") ?_)
  | (guard_target = wE _ (List.set _ _ _) _ _; refine wE_env (by walk_at "env") ?_))))
local macro_rules | `(tactic| walk_at "u") => `(tactic| repeat' ((fail_if_success (guard_target = wE (eLc _ _ _ _ _ _) _ _ _)); (fail_if_success (guard_target = wE (eLc2 _ _ _ _ _ _ _ _ _ _) _ _ _)); (fail_if_success (guard_target = wT (tGenQ _ _ _ _ _ _) _ _ _)); (fail_if_success (guard_target = wT (tGenQ2 _ _ _ _ _ _ _ _ _ _) _ _ _)); walk_at "w1"))
theorem wS_augIx {f : D → D → Sto → Option D} {o i e : RE} {ρ : En} {S : Sto} {N : En → Sto → Prop} {K : Kt} (h : wE o ρ S fun ov S1 => ∃ k, ov = .obj k ∧ wE i ρ S1 fun iv S2 => ∃ (m : Int) (ys : List D) (j : Nat) (x : D), iv = .int m ∧ S2[k]? = some (.lst ys) ∧ L2.ixN ys.length m = some j ∧ ys[j]? = some x ∧ wE e ρ S2 fun y S3 => w2 f x y S3 fun r => ∃ ys2, S3[k]? = some (.lst ys2) ∧ ys2.length = ys.length ∧ N ρ (S3.set k (.lst (ys2.set j r)))) : wS (sAugIx f o i e) ρ S N K := by
  obtain ⟨ov, S1, e1, k, rfl, iv, S2, e2, m, ys, j, x, rfl, h1, h2, h3, y, S3, e3, r, e4, ys2, h4, h5, q⟩ := h
  refine wS_eq ?_ q
  simp only [sAugIx, e1, e2, h1, h2, h3, e3, e4, h4, if_pos h5]
theorem rep_rg {x : D} {m : Nat} : (List.replicate m [x]).flatten = rg m fun _ => x := by
  induction m with
  | zero => rfl
  | succ m ih => rw [List.replicate_succ, List.flatten_cons, ih, rg_cons]; rfl
theorem w2s_repL {mk : List D → Sto → Option (D × Sto)} {x : D} {m : Nat} {S : Sto} {Q : D → Sto → Prop} (h2 : m ≤ 1000000) (q : wF mk (rg m fun _ => x) S Q) : w2s (fTimes mk) (.lst [x]) (.int (m : Int)) S Q := by
  obtain ⟨z, S1, e, q⟩ := q
  refine ⟨z, S1, ?_, q⟩
  simp only [fTimes, fRepL, lstD]
  rw [if_pos ⟨by omega, by omega, by simp; omega⟩, Int.toNat_natCast, rep_rg]
  exact e
theorem mid_push {S J : Sto} {c d : Cell} : (S ++ c :: J) ++ [d] = S ++ c :: (J ++ [d]) := by simp
theorem get_mid {S J : Sto} {c : Cell} : (S ++ c :: J)[S.length]? = some c := by simp
theorem set_mid {S J : Sto} {c c' : Cell} : (S ++ c :: J).set S.length c' = S ++ c' :: J := by simp
/-- a list of fractions, the parts' sums -/
theorem rs_list {qs : List Rat} {k : Nat} (h : k ≤ qs.length) : rs (fun i => qs.getD i 0) k = (qs.take k).sum := by
  have := rs_getD_q (qs.take k)
  rw [← this, List.length_take, Nat.min_eq_left h]
  refine rs_congr fun i hi => ?_
  simp [List.getElem?_take, hi]
theorem filt_sum {f : Nat → Rat} {p : Nat → Bool} : ∀ n, (((List.range n).filter p).map f).sum = rs (fun s => if p s then f s else 0) n
  | 0 => rfl
  | n + 1 => by
    rw [List.range_succ, List.filter_append, List.map_append, List.sum_append, filt_sum n]
    show _ = rs _ n + _
    congr 1
    by_cases h : p n
    · simp [h, Rat.add_zero]
    · simp [h]

/-! what raises, read forward -/
def wX (x : RX) (ρ : En) (S : Sto) (Q : En → Sto → Prop) : Prop := ∃ ρ' S', x ρ S = some (ρ', S') ∧ Q ρ' S'
def wFx (F : FX) (ds : List D) (S : Sto) (Q : Sto → Prop) : Prop := ∃ S', F ds S = some S' ∧ Q S'
theorem wX_raise {ρ : En} {S : Sto} {Q : En → Sto → Prop} (h : Q ρ S) : wX xRaise ρ S Q := ⟨_, _, rfl, h⟩
theorem wX_if {t : RT} {a b : RX} {ρ : En} {S : Sto} {Q : En → Sto → Prop} (h : wT t ρ S fun c S1 => (c = true → wX a ρ S1 Q) ∧ (c = false → wX b ρ S1 Q)) : wX (xIf t a b) ρ S Q := by
  obtain ⟨c, S1, e1, h1, h2⟩ := h
  cases c with
  | true => obtain ⟨ρ', S', e2, q⟩ := h1 rfl; exact ⟨ρ', S', by simp only [xIf, e1, e2], q⟩
  | false => obtain ⟨ρ', S', e2, q⟩ := h2 rfl; exact ⟨ρ', S', by simp only [xIf, e1, e2], q⟩
theorem wX_seq {t : RS} {b : RX} {ρ : En} {S : Sto} {Q : En → Sto → Prop} (h : wS t ρ S (fun ρ1 S1 => wX b ρ1 S1 Q) ⟨fun _ _ => False, fun _ _ => False, fun _ _ => False⟩) : wX (xSeq t b) ρ S Q := by
  obtain ⟨o, e, q⟩ := h
  cases o with
  | nx ρ1 S1 => obtain ⟨ρ', S', e2, q⟩ := q; exact ⟨ρ', S', by simp only [xSeq, e, e2], q⟩
  | rt d S1 => exact q.elim
  | bk ρ1 S1 => exact q.elim
  | ct ρ1 S1 => exact q.elim
theorem wX_call {F : FX} {a : RA} {ρ : En} {S : Sto} {Q : En → Sto → Prop} (h : wA a ρ S fun ds S1 => wFx F ds S1 fun S2 => Q ρ S2) : wX (xCall F a) ρ S Q := by
  obtain ⟨ds, S1, e1, S2, e2, q⟩ := h
  exact ⟨ρ, S2, by simp only [xCall, e1, e2], q⟩
theorem wS_try {x : RX} {u : RS} {ρ : En} {S : Sto} {N : En → Sto → Prop} {K : Kt} (h : wX x ρ S fun ρ1 S1 => wS u ρ1 S1 N K) : wS (sTry x u) ρ S N K := by
  obtain ⟨ρ1, S1, e1, o, e2, q⟩ := h
  exact ⟨o, by simp only [sTry, e1, e2], q⟩
theorem wFx_def {n m : Nat} {x : RX} {ds : List D} {S : Sto} {Q : Sto → Prop} (hl : ds.length = n) (h : wX x (startD m ds) S fun _ S1 => Q S1) : wFx (xD n m x) ds S Q := by
  obtain ⟨ρ1, S1, e, q⟩ := h
  exact ⟨S1, by simp only [xD, if_pos hl, e], q⟩
theorem wX_env {x : RX} {ρ ρ' : En} {S : Sto} {Q : En → Sto → Prop} (h : ρ = ρ') (w : wX x ρ' S Q) : wX x ρ S Q := h ▸ w

theorem cp_loop : ∀ (n x y : Nat) (S : Sto), y < n → whileL (tTru (eV 1)) (sPar 0 1 (aCons (eV 1) (aCons (e2 fMod (eV 0) (eV 1)) aNil))) n [some (.int x), some (.int y)] S = some (.nx [some (.int (Nat.gcd x y : Nat)), some (.int 0)] S)
  | 0, _, _, _, h => absurd h (Nat.not_lt_zero _)
  | n + 1, x, y, S, h => by
    unfold whileL
    by_cases hy : y = 0
    · subst hy
      simp
    · have hy2 : (y : Int) ≠ 0 := by omega
      have hl : x % y < y := Nat.mod_lt _ (Nat.pos_of_ne_zero hy)
      have ih := cp_loop n y (x % y) S (by omega)
      have hg : Nat.gcd x y = Nat.gcd y (x % y) := by rw [Nat.gcd_comm x y, Nat.gcd_rec, Nat.gcd_comm]
      have hb : ((y : Int) != 0) = true := by simp [hy]
      simp only [Int.natCast_emod] at ih
      simp [hb, hy, fmod_nat, ih, hg]
theorem F_cp (a b : Int) (S : Sto) : F_common_part [.int a, .int b] S = some (.int (Int.gcd a b : Nat), S) := by
  unfold F_common_part t_common_part
  have h := cp_loop (a.natAbs + (b.natAbs + 0) + 2) a.natAbs b.natAbs S (by omega)
  simp [abs_nat, fuelI] at h ⊢
  rw [h]
  simp [Int.gcd]
theorem F_low {a b : Int} {n : Nat} (hb : 0 < b) (hn : Bt n b) (h9 : n ≤ 8999) (S : Sto) : F_lowest [.int a, .int b] S = some (dQ ((a : Rat) / (b : Rat)), S) := by
  have hg : (0 : Int) < (Int.gcd a b : Int) := by
    have := gcd_ne (a := a) (b := b) (by omega)
    omega
  have hd : ∀ x : Int, L2.CDivW x (Int.gcd a b : Int) ∨ L2.CDivN x (Int.gcd a b : Int) := fun x => div_ok hg (gcd_bt hb hn) h9
  apply wF_of
  unfold F_lowest t_lowest
  refine wF_fn rfl ?_
  walk_at "w"
  refine wF_eq (F_cp a b S) ?_
  walk_at "w"
  refine wS_seq ?_
  walk_at "w"
  refine ⟨fun h => ?_, fun _ => ?_⟩
  · simp at h
    omega
  · walk_at "w"
    · refine w2_div (hd _) ?_
      walk_at "w"
      refine w2_div (hd _) ?_
      walk_at "w"
      refine wFin_P0 rfl rfl ⟨?_, rfl⟩
      unfold dQ
      rw [low_num a b hb, low_den a b hb]

theorem set_last {S : Sto} {c c' : Cell} : (S ++ [c]).set S.length c' = S ++ [c'] := by simp
theorem get_last {S : Sto} {c : Cell} : (S ++ [c])[S.length]? = some c := by simp
/-- a sequence of fractions, also a list that may change -/
def SeqQ (S : Sto) (d : D) (m : Nat) (q : Nat → Rat) : Prop := ∃ chk : Sto → Prop, seqC d S = some (rg m fun i => dQ (q i), chk) ∧ chk S
theorem SeqQ.of {S : Sto} {d : D} {m : Nat} {q : Nat → Rat} (h : d = dT m q ∨ d = dL m q) : SeqQ S d m q := ⟨fun _ => True, by rcases h with e | e <;> subst e <;> rfl, trivial⟩
theorem SeqQ.obj {S : Sto} {k : Nat} {qs : List Rat} (h : S[k]? = some (.lst (qs.map dQ))) : SeqQ S (.obj k) qs.length (fun i => qs.getD i 0) := by
  refine ⟨fun S' => S'[k]? = some (.lst (qs.map dQ)), ?_, h⟩
  rw [← dqs_rg]
  simp only [seqC, h]
theorem F_botS {d : D} {m B : Nat} {q : Nat → Rat} {S : Sto} (hd : SeqQ S d m q) (hB : 0 < B) (hq : ∀ i, i < m → (q i).den ∣ B) (hn : B < 2 ^ 8999) : F_bottom_of [d] S = some (.int (lc q m : Nat), S) := by
  apply wF_of
  unfold F_bottom_of t_bottom_of
  refine wF_fn rfl ?_
  walk_at "w"
  refine wS_seq ?_
  refine wS_forR (fun k ρ S' => S' = S ∧ ∃ t, ρ = [some d, some (.int (lc q k : Nat)), t]) ?_
  walk_at "w"
  obtain ⟨chk, hs, hc⟩ := hd
  refine ⟨m, fun i => dQ (q i), chk, hs, ?_⟩
  refine ⟨m, _, rfl, ⟨rfl, none, rfl⟩, fun i ρ S' hi ⟨e1, t, e2⟩ => ?_, fun ρ S' ⟨e1, t, e2⟩ => ?_⟩
  · subst e1 e2
    have hdv := hq i hi
    have hl := Nat.le_of_dvd hB hdv
    have hlc : lc q i ∣ B := lc_dvd fun j hj => hq j (by omega)
    have hlb := Nat.le_of_dvd hB hlc
    have hp := lc_pos (f := q) i
    have hdp := den_pos (q i)
    walk_at "w"
    refine wF_eq (F_cp _ _ _) ?_
    have hb := gcd_bt (n := 8999) (a := (lc q i : Int)) (b := ((q i).den : Int)) (by omega) (Bt.of_nat (by omega))
    have hg : (0 : Int) < (Int.gcd (lc q i : Int) ((q i).den : Int) : Int) := by
      have := gcd_ne (a := (lc q i : Int)) (b := ((q i).den : Int)) (by omega)
      omega
    refine w2_div (div_ok hg hb (by omega)) ?_
    walk_at "w"
    have hst := lcm_step (lc q i) (q i).den hp
    have hfd : Bt 8999 (Int.fdiv (lc q i : Int) (Int.gcd (lc q i : Int) ((q i).den : Int) : Int)) := by
      rw [Int.fdiv_eq_ediv_of_nonneg _ (by omega)]
      refine Bt.le (j := (lc q i : Int)) (Bt.of_nat (by omega)) (Int.ediv_nonneg (by omega) (by omega)) (Int.ediv_le_self _ (by omega))
    refine w2s_timesI (mul_ok hfd (Bt.of_nat (n := 8999) (k := (q i).den) (by omega)) (by omega)) ?_
    walk_at "w"
    exact ⟨hc, rfl, _, by rw [hst]; rfl⟩
  · subst e1 e2
    walk_at "w"
    exact wFin_P0 rfl rfl ⟨rfl, rfl⟩
theorem F_bot {d : D} {m B : Nat} {q : Nat → Rat} (hd : d = dT m q ∨ d = dL m q) (hB : 0 < B) (hq : ∀ i, i < m → (q i).den ∣ B) (hn : B < 2 ^ 8999) (S : Sto) : F_bottom_of [d] S = some (.int (lc q m : Nat), S) := F_botS (.of hd) hB hq hn
theorem F_whS {d : D} {m n : Nat} {q : Nat → Rat} {b : Nat} {S : Sto} (hd : SeqQ S d m q) (hb : 0 < b) (hn : b < 2 ^ n) (hq : ∀ i, i < m → Sm n (q i)) (h9 : n ≤ 8999) (hm : m ≤ 1000000) :
    F_wholes [d, .int (b : Int)] S = some (iT m fun i => wh (b : Int) (q i), S) := by
  apply wF_of
  unfold F_wholes t_wholes
  refine wF_fn rfl ?_
  walk_at "w"
  obtain ⟨chk, hs, hc⟩ := hd
  refine ⟨m, fun i => dQ (q i), chk, hs, ?_⟩
  refine ⟨m, _, fun i => .int (wh (b : Int) (q i)), rfl, hc, fun i hi => ?_, ?_⟩
  · have hs := hq i hi
    have hdp := den_pos (q i)
    walk_at "w"
    refine w2_div (div_ok (by omega) hs.den h9) ?_
    walk_at "w"
    have hfd : Bt n (Int.fdiv (b : Int) ((q i).den : Int)) := by
      rw [Int.fdiv_eq_ediv_of_nonneg _ (by omega)]
      exact Bt.le (j := (b : Int)) (Bt.of_nat hn) (Int.ediv_nonneg (by omega) (by omega)) (Int.ediv_le_self _ (by omega))
    refine w2s_timesI (mul_ok hs.num hfd (by omega)) ?_
    refine ⟨?_, rfl⟩
    unfold wh
    rw [Int.fdiv_eq_ediv_of_nonneg _ (by omega)]
  · walk_at "w"
    exact wFin_P0 clos_iT rfl ⟨rfl, rfl⟩
theorem F_wh {d : D} {m n : Nat} {q : Nat → Rat} {b : Nat} (hd : d = dT m q ∨ d = dL m q) (hb : 0 < b) (hn : b < 2 ^ n) (hq : ∀ i, i < m → Sm n (q i)) (h9 : n ≤ 8999) (hm : m ≤ 1000000) (S : Sto) :
    F_wholes [d, .int (b : Int)] S = some (iT m fun i => wh (b : Int) (q i), S) := F_whS (.of hd) hb hn hq h9 hm
/-- rows over their least common bottom -/
theorem F_ro {m n B M : Nat} {t : Nat → Nat → Rat} (hB : 0 < B) (ht : ∀ i j, i < m → j < n → In B M (t i j)) (hn : (M + 1) * B < 2 ^ 8999) (hm : m ≤ 1000) (hk : n ≤ 1000) (S : Sto) :
    F_rows_over [dM m n t] S = some (.tup [.int (lcM m n t : Nat), tF m fun i => iT n fun j => wh (lcM m n t : Nat) (t i j)], S) := by
  have hmn : m * n ≤ 1000000 := Nat.mul_le_mul hm hk
  have hidx : ∀ k, k < m * n → k / n < m ∧ k % n < n := fun k hk => by
    have hn : 0 < n := by
      rcases Nat.eq_zero_or_pos n with z | z
      · subst z; simp at hk
      · exact z
    exact ⟨Nat.div_lt_of_lt_mul (by rw [Nat.mul_comm]; exact hk), Nat.mod_lt _ hn⟩
  have hd : ∀ k, k < m * n → ((fun k => t (k / n) (k % n)) k).den ∣ B := fun k hk => (ht _ _ (hidx k hk).1 (hidx k hk).2).den
  have hBl : B < 2 ^ 8999 := by
    rw [Nat.add_mul, Nat.one_mul] at hn
    omega
  have hlb : lcM m n t ≤ B := Nat.le_of_dvd hB (lc_dvd hd)
  apply wF_of
  unfold F_rows_over t_rows_over
  refine wF_fn rfl ?_
  walk_at "w"
  refine ⟨m, fun i => dT n (t i), fun _ => True, rfl, ?_⟩
  refine ⟨m, _, fun _ => n, fun i j => dQ (t i j), rfl, trivial, fun i hi => ?_, ?_⟩
  · walk_at "w"
    refine ⟨n, fun j => dQ (t i j), fun _ => True, rfl, ?_⟩
    refine ⟨rfl, _, rfl, trivial, fun j hj => ?_⟩
    walk_at "w"
  · rw [rg_flat]
    walk_at "w"
    refine wF_eq (F_bot (m := m * n) (q := fun k => t (k / n) (k % n)) (.inr rfl) hB hd hBl S) ?_
    walk_at "w"
    refine ⟨m, fun i => dT n (t i), fun _ => True, rfl, ?_⟩
    refine ⟨m, _, fun i => iT n fun j => wh (lcM m n t : Nat) (t i j), rfl, trivial, fun i hi => ?_, ?_⟩
    · walk_at "w"
      refine wF_eq (F_wh (n := 8999) (.inl rfl) lcM_pos (by omega) (fun j hj => (ht i j hi hj).sm hB hn) (by omega) (by omega) S) ?_
      walk_at "w"
    · walk_at "w"
      refine wFin_P0 ?_ rfl ⟨rfl, rfl⟩
      exact clos_tup (closL_cons rfl (closL_cons (clos_tF fun i _ => clos_iT) closL_nil))
end LW

set_option maxRecDepth 100000
set_option maxHeartbeats 4000000
namespace LW
open PySem DL PL
open Classical
local macro_rules | `(tactic| walk_at "env") => `(tactic| (simp only [startD, List.map_cons, List.map_nil, List.length_cons, List.length_nil, Nat.reduceAdd, Nat.reduceSub, List.replicate, List.cons_append, List.nil_append, wipeD, List.set]; try rfl))
local macro_rules | `(tactic| walk_at "sto") => `(tactic| (simp only [List.cons_append, List.nil_append, List.set, List.set_cons_zero, List.set_cons_succ, Int.toNat_natCast, Int.reduceToNat]; try rfl))
local macro_rules | `(tactic| walk_at "if") => `(tactic| (refine ⟨fun hc => ?_, fun hc => ?_⟩ <;> simp only [decide_eq_true_eq, decide_eq_false_iff_not, Bool.not_eq_true', Bool.not_eq_false', bne_iff_ne, ne_eq, beq_iff_eq] at hc <;> try (exfalso; first | assumption | omega | (simp at hc; done))))
local macro_rules | `(tactic| walk_at "side") => `(tactic| first | assumption | omega | decide | (simp; done) | (simp; omega))
local macro_rules | `(tactic| walk_at "mul") => `(tactic| first | assumption | exact mul_sm (by first | decide | omega) | exact mul_sm' (by first | decide | omega))
local macro_rules | `(tactic| walk_at "div") => `(tactic| first | assumption | exact div_sm (by omega) (by omega))
local macro_rules | `(tactic| walk_at "w1") => `(tactic| first
  | (guard_target = wS _ (List.set _ _ _) _ _ _; refine wS_env (by walk_at "env") ?_)
  | (guard_target = wE _ (List.set _ _ _) _ _; refine wE_env (by walk_at "env") ?_)
  | (guard_target = wG _ _ (wipeD _ _) _ _; refine wG_env (by walk_at "env") ?_)
  | (guard_target = wS _ (startD _ _) _ _ _; refine wS_env (by walk_at "env") ?_)
  | (guard_target = wS (sSeq (sSet _ _) _) _ _ _ _; refine wS_seq ?_)
  | (guard_target = wS (sSeq (sAsg _ _) _) _ _ _ _; refine wS_seq ?_)
  | (guard_target = wS (sSeq (sExpr _) _) _ _ _ _; refine wS_seq ?_)
  | (guard_target = wS (sSeq (sPar _ _ _) _) _ _ _ _; refine wS_seq ?_)
  | (guard_target = wS (sSeq (sPar3 _ _ _ _) _) _ _ _ _; refine wS_seq ?_)
  | (guard_target = wS (sSeq (sAug _ _ _) _) _ _ _ _; refine wS_seq ?_)
  | (guard_target = wS (sSeq (sSeq _ _) _) _ _ _ _; refine wS_seq ?_)
  | (guard_target = wS _ _ (List.set _ _ _) _ _; refine wS_sto (by walk_at "sto") ?_)
  | (guard_target = wE _ _ (List.set _ _ _) _; refine wE_sto (by walk_at "sto") ?_)
  | (guard_target = wG (gIx _ _) _ _ _ _; refine wG_ix2 ?_)
  | (guard_target = ∃ (_ : Nat) (_ : Int) (_ : Nat) (_ : List D), _; refine ⟨_, _, _, _, rfl, rfl, rfl, rfl, ?_⟩)
  | (guard_target = wS (sSet _ _) _ _ _ _; refine wS_set ?_)
  | (guard_target = wS (sRet _) _ _ _ _; refine wS_ret ?_)
  | (guard_target = wS (sExpr _) _ _ _ _; refine wS_expr ?_)
  | (guard_target = wS sPass _ _ _ _; refine wS_pass ?_)
  | (guard_target = wS sBreak _ _ _ _; refine wS_break ?_)
  | (guard_target = wS sCont _ _ _ _; refine wS_cont ?_)
  | (guard_target = wS (sIf _ _ _) _ _ _ _; refine wS_if ?_)
  | (guard_target = wS (sAsg _ _) _ _ _ _; refine wS_asg ?_)
  | (guard_target = wS (sPar _ _ _) _ _ _ _; refine wS_par ?_)
  | (guard_target = wS (sPar3 _ _ _ _) _ _ _ _; refine wS_par3 ?_)
  | (guard_target = wS (sAug _ _ _) _ _ _ _; refine wS_aug rfl ?_)
  | (guard_target = wE (eV _) _ _ _; refine wE_v rfl ?_)
  | (guard_target = wE (eC _) _ _ _; refine wE_c ?_)
  | (guard_target = wE (e1 _ _) _ _ _; refine wE_1 ?_)
  | (guard_target = wE (e2 _ _ _) _ _ _; refine wE_2 ?_)
  | (guard_target = wE (e2s _ _ _) _ _ _; refine wE_2s ?_)
  | (guard_target = wE (eA _ _) _ _ _; refine wE_A ?_)
  | (guard_target = wA (aCons _ _) _ _ _; refine wA_cons ?_)
  | (guard_target = wA aNil _ _ _; refine wA_nil ?_)
  | (guard_target = wE (eM _ _ _) _ _ _; refine wE_M ?_)
  | (guard_target = wE (eAnd _ _) _ _ _; refine wE_and ?_)
  | (guard_target = wE (eOr _ _) _ _ _; refine wE_or ?_)
  | (guard_target = wE (eIf _ _ _) _ _ _; refine wE_if ?_)
  | (guard_target = wE (eChain _ _ _ _ _) _ _ _; refine wE_chain ?_)
  | (guard_target = wE (eLc _ _ _ tYesD _ _) _ _ _; refine wE_lcR ?_)
  | (guard_target = wE (eLc2 _ _ _ tYesD _ _ tYesD _ _ _) _ _ _; refine wE_lc2R ?_)
  | (guard_target = wE (eBl _) _ _ _; refine wE_bl ?_)
  | (guard_target = wE (eSl _ _ _ _) _ _ _; refine wE_sl ?_)
  | (guard_target = wE (eSlS _ _ _ _) _ _ _; refine wE_slS ?_)
  | (guard_target = wO oNo _ _ _; refine wO_no ?_)
  | (guard_target = wO (oSome _) _ _ _; refine wO_some ?_)
  | (guard_target = ∃ _ : Int, _; refine ⟨_, rfl, ?_⟩)
  | (guard_target = wSl _ (.tup _) _ _ _ _; refine wSl_tup ?_)
  | (guard_target = wSl _ (.lst _) _ _ _ _; refine wSl_lst ?_)
  | (guard_target = wSl _ (.scr _) _ _ _ _; refine wSl_scr ?_)
  | (guard_target = wT (tBl _) _ _ _; refine wT_bl ?_)
  | (guard_target = wT (tTru _) _ _ _; refine wT_tru ?_)
  | (guard_target = wT (tNotD _) _ _ _; refine wT_not ?_)
  | (guard_target = wT (tAndD _ _) _ _ _; refine wT_and ?_)
  | (guard_target = wT (tOrD _ _) _ _ _; refine wT_or ?_)
  | (guard_target = wT (tIfD _ _ _) _ _ _; refine wT_if ?_)
  | (guard_target = wT tYesD _ _ _; refine wT_yes ?_)
  | (guard_target = wT (tGenQ _ _ _ tYesD _ _) _ _ _; refine wT_genR ?_)
  | (guard_target = wT (tGenQ2 _ _ _ tYesD _ _ tYesD _ _ _) _ _ _; refine wT_gen2R ?_)
  | (guard_target = wI (iSeq _) _ _ _; refine wI_seqR ?_)
  | (guard_target = wI (iRange1 _) _ _ _; refine wI_rangeR ?_)
  | (guard_target = wI (iRange2 _ _) _ _ _; refine wI_range2R ?_)
  | (guard_target = wI (iZip (aCons _ (aCons _ aNil))) _ _ _; refine wI_zipR ?_)
  | (guard_target = wI (iEnum (aCons _ aNil)) _ _ _; refine wI_enumR ?_)
  | (guard_target = wG (gNm _) _ _ _ _; refine wG_nm ?_)
  | (guard_target = wG (gTp _ _) _ _ _ _; refine wG_tp rfl ?_)
  | (guard_target = wGs (gsCons _ _) _ _ _ _; refine wGs_cons ?_)
  | (guard_target = wGs gsNil _ _ _ _; refine wGs_nil ?_)
  | (guard_target = w2 fAdd _ _ _ _; refine w2_add ?_)
  | (guard_target = w2 fSub _ _ _ _; refine w2_sub ?_)
  | (guard_target = w2 fMul _ _ _ _; refine w2_mul (by walk_at "mul") ?_)
  | (guard_target = w2 fDiv _ _ _ _; refine w2_div (by walk_at "div") ?_)
  | (guard_target = w2 fMod _ _ _ _; refine w2_mod (by walk_at "side") ?_)
  | (guard_target = w2 (fCmp _) _ _ _ _; refine w2_cmp ?_)
  | (guard_target = w2 fEq (.int _) (.int _) _ _; refine w2_eqI ?_)
  | (guard_target = w2 fNe (.int _) (.int _) _ _; refine w2_neI ?_)
  | (guard_target = w2 fIx _ (.int _) _ _; refine w2_eq rfl ?_)
  | (guard_target = w2 fIx _ (.int 0) _ _; refine w2_ix0 rfl (by walk_at "side") ?_)
  | (guard_target = w2 fIx _ (.int (Nat.cast _)) _ _; refine w2_ixR rfl (by walk_at "side") ?_)
  | (guard_target = w2s (fPlus _) (.int _) (.int _) _ _; refine w2s_plusI ?_)
  | (guard_target = w2s (fTimes _) (.int _) (.int _) _ _; refine w2s_timesI (by walk_at "mul") ?_)
  | (guard_target = w2 fPow (.int _) (.int _) _ _; refine w2_pow (by decide) (by decide) (by decide) ?_)
  | (guard_target = w2 fIsB _ _ _ _; refine w2_eq rfl ?_)
  | (guard_target = w2 fNotB _ _ _ _; refine w2_eq rfl ?_)
  | (guard_target = w2 fIsN _ _ _ _; refine w2_eq rfl ?_)
  | (guard_target = w2 fNotN _ _ _ _; refine w2_eq rfl ?_)
  | (guard_target = w1 _ _ _ _; refine w1_eq rfl ?_)
  | (guard_target = wTru _ _ _; refine wTru_eq rfl ?_)
  | (guard_target = wF fTup _ _ _; refine wF_tup (by walk_at "side") ?_)
  | (guard_target = wF fLst _ _ _; refine wF_lst (by walk_at "side") ?_)
  | (guard_target = wF fObj _ _ _; refine wF_obj (by walk_at "side") ?_)
  | (guard_target = wF fLen [dQ _] _ _; refine wF_len2 ?_)
  | (guard_target = wF fLen _ _ _; refine wF_lenR rfl ?_)
  | (guard_target = wF fAbs _ _ _; refine wF_abs ?_)
  | (guard_target = wF fInt1 [.int _] _ _; refine wF_int ?_)
  | (guard_target = wF fInt1 [.bl _] _ _; refine wF_intB ?_)
  | (guard_target = wF fListF _ _ _; refine wF_listF rfl ?_)
  | (guard_target = wF fListO _ _ _; refine wF_listO rfl ?_)
  | (guard_target = wF fTupOf _ _ _; refine wF_tupOf rfl ?_)
  | (guard_target = wF fSum _ _ _; refine wF_sumR rfl ?_)
  | (guard_target = wF fMax2 _ _ _; refine wF_max2 ?_)
  | (guard_target = wF fMin2 _ _ _; refine wF_min2 ?_)
  | (guard_target = (false = true → _) ∧ _; refine ⟨fun h => (nomatch h), fun _ => ?_⟩)
  | (guard_target = (true = true → _) ∧ _; refine ⟨fun _ => ?_, fun h => (nomatch h)⟩)
  | (guard_target = ((!false) = true → _) ∧ _; refine ⟨fun _ => ?_, fun h => (nomatch h)⟩)
  | (guard_target = ((!true) = true → _) ∧ _; refine ⟨fun h => (nomatch h), fun _ => ?_⟩)
  | (guard_target = (isNon _ = true → _) ∧ _; first | refine ⟨fun h => absurd h Bool.false_ne_true, fun _ => ?_⟩ | refine ⟨fun _ => ?_, fun h => absurd h.symm Bool.false_ne_true⟩)
  | (guard_target = ((!isNon _) = true → _) ∧ _; first | refine ⟨fun h => absurd h Bool.false_ne_true, fun _ => ?_⟩ | refine ⟨fun _ => ?_, fun h => absurd h.symm Bool.false_ne_true⟩)
  | (guard_target = (_ = true → _) ∧ (_ = false → _); first | refine ⟨fun h => absurd h (by decide), fun _ => ?_⟩ | refine ⟨fun _ => ?_, fun h => absurd h (by decide)⟩)
  | (guard_target = (_ = _) ∧ _; refine ⟨rfl, ?_⟩)
  | (guard_target = _ ∧ (_ = _); refine ⟨?_, rfl⟩)
  | (guard_target = True ∧ _; refine ⟨trivial, ?_⟩)
  | (guard_target = ∃ _ : Bool, _; refine ⟨_, rfl, ?_⟩)
  | (guard_target = ∃ (_ _ : D), _; refine ⟨_, _, rfl, ?_⟩)
  | (guard_target = ∃ (_ _ _ : D), _; refine ⟨_, _, _, rfl, ?_⟩)
  | rfl)
local macro_rules | `(tactic| walk_at "w") => `(tactic| repeat' (walk_at "w1"))
local macro_rules | `(tactic| walk_at "v") => `(tactic| repeat' ((fail_if_success (guard_target = wE (eLc _ _ _ _ _ _) _ _ _)); walk_at "w1"))
local macro_rules | `(tactic| walk_at "g") => `(tactic| (repeat' (first
  | (guard_target = wG (gNm _) _ _ _ _; refine wG_nm ?_)
  | (guard_target = wG (gTp _ _) _ _ _ _; refine wG_tp rfl ?_)
  | (guard_target = wGs (gsCons _ _) _ _ _ _; refine wGs_cons ?_)
  | (guard_target = wGs gsNil _ _ _ _; refine wGs_nil ?_)
  | (guard_target = wS _ (List.set _ _ _) _ _ _; refine wS_env (by walk_at "env") ?_)
  | (guard_target = wE _ (List.set _ _ _) _ _; refine wE_env (by walk_at "env") ?_))))
local macro_rules | `(tactic| walk_at "u") => `(tactic| repeat' ((fail_if_success (guard_target = wE (eLc _ _ _ _ _ _) _ _ _)); (fail_if_success (guard_target = wE (eLc2 _ _ _ _ _ _ _ _ _ _) _ _ _)); (fail_if_success (guard_target = wT (tGenQ _ _ _ _ _ _) _ _ _)); (fail_if_success (guard_target = wT (tGenQ2 _ _ _ _ _ _ _ _ _ _) _ _ _)); walk_at "w1"))
/-- the draws of this family: one list -/
def pz : Pool := ⟨1, fun P => ∃ (a b : Int) (c : Nat) (zs : List Int), zs.length ≤ 63 ∧ P = [.lst (.int a :: .int b :: .int (c : Int) :: zs.map D.int)], fun P ⟨_, _, _, _, _, e⟩ => by rw [e]; rfl, fun P ⟨_, _, _, zs, _, e⟩ ce h m hm => by
  rw [e] at h
  rw [List.mem_singleton.mp h]
  simp only [cellClos, closL, clos, Bool.true_and]
  exact closL_map (fun i => rfl) _⟩
theorem draw_w {T S : Sto} {m : Int} {Q : D → Sto → Prop} (h : St pz T S) (hT : Cl pz T) (h1 : 1 ≤ m) (h2 : m ≤ 1000000) (q : ∀ (r : Nat) S', St pz T S' → (r : Int) < m → Q (.int (r : Int)) S') : wF F__law_draw [.obj 0, .int m] S Q := by
  have h0 := h
  obtain ⟨P, ⟨a, b, c, zs, hl, rfl⟩, rfl⟩ := h
  have ix : ∀ (a b c : Int), L2.ixN (D.int a :: D.int b :: D.int c :: zs.map D.int).length 0 = some 0 ∧ L2.ixN (D.int a :: D.int b :: D.int c :: zs.map D.int).length 1 = some 1 ∧ L2.ixN (D.int a :: D.int b :: D.int c :: zs.map D.int).length 2 = some 2 := fun a b c =>
    ⟨ix_nat (r := 0) (by simp), ix_nat (r := 1) (by simp), ix_nat (r := 2) (by simp)⟩
  unfold F__law_draw t__law_draw
  refine wF_fn rfl ?_
  refine wS_cut (fun ρ S => ∃ (a b : Int) (c : Nat) (x2 : Option D), S = .lst (.int a :: .int b :: .int (c : Int) :: zs.map D.int) :: T ∧ ρ = [some (.obj 0), some (.int m), x2, none, none]) ?_ ?_
  · walk_at "w"
    refine w2_ix rfl (atI_nat (i := 0) rfl) ?_
    walk_at "w"
    walk_at "if"
    · walk_at "w"
      refine w2_ix rfl (atI_nat (i := 2) rfl) ?_
      walk_at "w"
      refine wF_len (xs := .int a :: .int b :: .int (c : Int) :: zs.map D.int) rfl ?_
      walk_at "w"
      walk_at "if"
      · rename_i hc
        simp only [List.length_cons, List.length_map] at hc
        have hcl : c < (D.int a :: D.int b :: D.int (c : Int) :: zs.map D.int).length := by simp; omega
        obtain ⟨z, hz⟩ : ∃ z : Int, (D.int a :: D.int b :: D.int (c : Int) :: zs.map D.int)[c]? = some (.int z) := by
          have e : (D.int a :: D.int b :: D.int (c : Int) :: zs.map D.int) = (a :: b :: (c : Int) :: zs).map D.int := rfl
          rw [e] at hcl ⊢
          rw [List.getElem?_map]
          exact ⟨_, by rw [List.getElem?_eq_getElem (by simpa using hcl)]; rfl⟩
        walk_at "w"
        refine w2_ix rfl (atI_nat (i := 2) rfl) ?_
        walk_at "w"
        refine w2_ix rfl (atI_nat hz) ?_
        walk_at "w"
        refine w2_ix rfl (atI_nat (i := 2) rfl) ?_
        walk_at "w"
        refine ⟨0, 2, 2, _, rfl, rfl, rfl, (ix _ _ _).2.2, ?_⟩
        walk_at "w"
        refine w2_ix rfl (atI_nat (i := 1) rfl) ?_
        walk_at "w"
        refine ⟨0, 1, 1, _, rfl, rfl, rfl, (ix _ _ _).2.1, ?_⟩
        walk_at "w"
        walk_at "if"
        · walk_at "w"
          refine ⟨0, 0, 0, _, rfl, rfl, rfl, (ix _ _ _).1, ?_⟩
          exact ⟨_, _, c + 1, _, rfl, rfl⟩
        · walk_at "w"
          exact ⟨_, _, c + 1, _, rfl, rfl⟩
      · walk_at "w"
        exact ⟨a, b, c, _, rfl, rfl⟩
    · walk_at "w"
      exact ⟨a, b, c, _, rfl, rfl⟩
  · rintro ρ S ⟨a, b, c, x2, rfl, rfl⟩
    refine wS_seq ?_
    walk_at "w"
    refine w2_ix rfl (atI_nat (i := 0) rfl) ?_
    walk_at "w"
    walk_at "if"
    · walk_at "w"
      refine w2_ix rfl (atI_nat (i := 0) rfl) ?_
      walk_at "w"
      obtain ⟨r, hr, hr2⟩ := fmod_m a m h1
      rw [hr]
      refine w2_ix rfl (atI_nat (i := 0) rfl) ?_
      walk_at "w"
      refine ⟨0, 0, 0, _, rfl, rfl, rfl, (ix _ _ _).1, ?_⟩
      walk_at "w"
      refine wFin_M (U := []) h0 ⟨_, ⟨_, b, c, zs, hl, rfl⟩, by rw [List.append_nil]; rfl⟩ hT rfl rfl fun S' hs => q r S' hs hr2
    · walk_at "w"
      refine w2_ix rfl (atI_nat (i := 1) rfl) ?_
      walk_at "w"
      refine ⟨0, 1, 1, _, rfl, rfl, rfl, (ix _ _ _).2.1, ?_⟩
      walk_at "w"
      refine w2_ix rfl (atI_nat (i := 1) rfl) ?_
      walk_at "w"
      refine w2_ix rfl (atI_nat (i := 1) rfl) ?_
      walk_at "w"
      obtain ⟨r, hr, hr2⟩ := fmod_m (Int.fdiv (Int.fmod ((b * 48271 + 12345).fmod 2147483647 * 69621 + ((b * 48271 + 12345).fmod 2147483647).fdiv 65536 + 17) 2147483629) 16) m h1
      rw [hr]
      refine wFin_M (U := []) h0 ⟨_, ⟨a, _, c, zs, hl, rfl⟩, by rw [List.append_nil]; rfl⟩ hT rfl rfl fun S' hs => q r S' hs hr2
theorem pool_w {ns : List Int} {Q : D → Sto → Prop} (hl : ns.length ≤ 63) (q : ∀ S', St pz [] S' → Q (.obj 0) S') : wF F__law_pool [.scr (ns.map D.int)] [] Q := by
  unfold F__law_pool t__law_pool
  refine wF_fn rfl ?_
  walk_at "w"
  refine w2s_plusL rfl rfl (wF_obj (by simp; omega) ?_)
  walk_at "w"
  exact wFin_K (q _ ⟨_, ⟨0, 7, 3, ns, hl, rfl⟩, rfl⟩)
theorem pick_w {T S : Sto} {xs : List D} {Q : D → Sto → Prop} (h : St pz T S) (hT : Cl pz T) (h0 : xs ≠ []) (hl : xs.length ≤ 1000000) (hx : ∀ x ∈ xs, clos (pz.n + T.length) x = true ∧ isObj x = false) (q : ∀ x S', St pz T S' → x ∈ xs → Q x S') : wF F__law_pick [.obj 0, .lst xs] S Q := by
  have hp : 0 < xs.length := List.length_pos_iff.mpr h0
  unfold F__law_pick t__law_pick
  refine wF_fn rfl ?_
  walk_at "w"
  refine wF_len (xs := xs) rfl ?_
  walk_at "w"
  refine draw_w h hT (by omega) (by omega) fun r S' hs hr => ?_
  have hr : r < xs.length := by omega
  refine w2_ix rfl (atI_nat (List.getElem?_eq_getElem hr)) ?_
  walk_at "w"
  have hm := List.getElem_mem hr
  refine wFin_M (U := []) h (by rw [List.append_nil]; exact hs) hT (hx _ hm).1 (hx _ hm).2 fun S2 h2 => q _ S2 h2 hm
end LW

set_option maxRecDepth 100000
set_option maxHeartbeats 4000000
namespace LW
open PySem DL PL
open Classical
local macro_rules | `(tactic| walk_at "env") => `(tactic| (simp only [startD, List.map_cons, List.map_nil, List.length_cons, List.length_nil, Nat.reduceAdd, Nat.reduceSub, List.replicate, List.cons_append, List.nil_append, wipeD, List.set]; try rfl))
local macro_rules | `(tactic| walk_at "sto") => `(tactic| (simp only [List.cons_append, List.nil_append, List.set, List.set_cons_zero, List.set_cons_succ, Int.toNat_natCast, Int.reduceToNat]; try rfl))
local macro_rules | `(tactic| walk_at "if") => `(tactic| (refine ⟨fun hc => ?_, fun hc => ?_⟩ <;> simp only [decide_eq_true_eq, decide_eq_false_iff_not, Bool.not_eq_true', Bool.not_eq_false', bne_iff_ne, ne_eq, beq_iff_eq] at hc <;> try (exfalso; first | assumption | omega | (simp at hc; done))))
local macro_rules | `(tactic| walk_at "side") => `(tactic| first | assumption | omega | decide | (simp; done) | (simp; omega))
local macro_rules | `(tactic| walk_at "mul") => `(tactic| first | assumption | exact mul_sm (by first | decide | omega) | exact mul_sm' (by first | decide | omega))
local macro_rules | `(tactic| walk_at "div") => `(tactic| first | assumption | exact div_sm (by omega) (by omega))
local macro_rules | `(tactic| walk_at "w1") => `(tactic| first
  | (guard_target = wS _ (List.set _ _ _) _ _ _; refine wS_env (by walk_at "env") ?_)
  | (guard_target = wE _ (List.set _ _ _) _ _; refine wE_env (by walk_at "env") ?_)
  | (guard_target = wG _ _ (wipeD _ _) _ _; refine wG_env (by walk_at "env") ?_)
  | (guard_target = wS _ (startD _ _) _ _ _; refine wS_env (by walk_at "env") ?_)
  | (guard_target = wS (sSeq (sSet _ _) _) _ _ _ _; refine wS_seq ?_)
  | (guard_target = wS (sSeq (sAsg _ _) _) _ _ _ _; refine wS_seq ?_)
  | (guard_target = wS (sSeq (sExpr _) _) _ _ _ _; refine wS_seq ?_)
  | (guard_target = wS (sSeq (sPar _ _ _) _) _ _ _ _; refine wS_seq ?_)
  | (guard_target = wS (sSeq (sPar3 _ _ _ _) _) _ _ _ _; refine wS_seq ?_)
  | (guard_target = wS (sSeq (sAug _ _ _) _) _ _ _ _; refine wS_seq ?_)
  | (guard_target = wS (sSeq (sSeq _ _) _) _ _ _ _; refine wS_seq ?_)
  | (guard_target = wS _ _ (List.set _ _ _) _ _; refine wS_sto (by walk_at "sto") ?_)
  | (guard_target = wE _ _ (List.set _ _ _) _; refine wE_sto (by walk_at "sto") ?_)
  | (guard_target = wG (gIx _ _) _ _ _ _; refine wG_ix2 ?_)
  | (guard_target = ∃ (_ : Nat) (_ : Int) (_ : Nat) (_ : List D), _; refine ⟨_, _, _, _, rfl, rfl, rfl, rfl, ?_⟩)
  | (guard_target = wS (sSet _ _) _ _ _ _; refine wS_set ?_)
  | (guard_target = wS (sRet _) _ _ _ _; refine wS_ret ?_)
  | (guard_target = wS (sExpr _) _ _ _ _; refine wS_expr ?_)
  | (guard_target = wS sPass _ _ _ _; refine wS_pass ?_)
  | (guard_target = wS sBreak _ _ _ _; refine wS_break ?_)
  | (guard_target = wS sCont _ _ _ _; refine wS_cont ?_)
  | (guard_target = wS (sIf _ _ _) _ _ _ _; refine wS_if ?_)
  | (guard_target = wS (sAsg _ _) _ _ _ _; refine wS_asg ?_)
  | (guard_target = wS (sPar _ _ _) _ _ _ _; refine wS_par ?_)
  | (guard_target = wS (sPar3 _ _ _ _) _ _ _ _; refine wS_par3 ?_)
  | (guard_target = wS (sAug _ _ _) _ _ _ _; refine wS_aug rfl ?_)
  | (guard_target = wE (eV _) _ _ _; refine wE_v rfl ?_)
  | (guard_target = wE (eC _) _ _ _; refine wE_c ?_)
  | (guard_target = wE (e1 _ _) _ _ _; refine wE_1 ?_)
  | (guard_target = wE (e2 _ _ _) _ _ _; refine wE_2 ?_)
  | (guard_target = wE (e2s _ _ _) _ _ _; refine wE_2s ?_)
  | (guard_target = wE (eA _ _) _ _ _; refine wE_A ?_)
  | (guard_target = wA (aCons _ _) _ _ _; refine wA_cons ?_)
  | (guard_target = wA aNil _ _ _; refine wA_nil ?_)
  | (guard_target = wE (eM _ _ _) _ _ _; refine wE_M ?_)
  | (guard_target = wE (eAnd _ _) _ _ _; refine wE_and ?_)
  | (guard_target = wE (eOr _ _) _ _ _; refine wE_or ?_)
  | (guard_target = wE (eIf _ _ _) _ _ _; refine wE_if ?_)
  | (guard_target = wE (eChain _ _ _ _ _) _ _ _; refine wE_chain ?_)
  | (guard_target = wE (eLc _ _ _ tYesD _ _) _ _ _; refine wE_lcR ?_)
  | (guard_target = wE (eLc2 _ _ _ tYesD _ _ tYesD _ _ _) _ _ _; refine wE_lc2R ?_)
  | (guard_target = wE (eBl _) _ _ _; refine wE_bl ?_)
  | (guard_target = wE (eSl _ _ _ _) _ _ _; refine wE_sl ?_)
  | (guard_target = wE (eSlS _ _ _ _) _ _ _; refine wE_slS ?_)
  | (guard_target = wO oNo _ _ _; refine wO_no ?_)
  | (guard_target = wO (oSome _) _ _ _; refine wO_some ?_)
  | (guard_target = ∃ _ : Int, _; refine ⟨_, rfl, ?_⟩)
  | (guard_target = wSl _ (.tup _) _ _ _ _; refine wSl_tup ?_)
  | (guard_target = wSl _ (.lst _) _ _ _ _; refine wSl_lst ?_)
  | (guard_target = wSl _ (.scr _) _ _ _ _; refine wSl_scr ?_)
  | (guard_target = wT (tBl _) _ _ _; refine wT_bl ?_)
  | (guard_target = wT (tTru _) _ _ _; refine wT_tru ?_)
  | (guard_target = wT (tNotD _) _ _ _; refine wT_not ?_)
  | (guard_target = wT (tAndD _ _) _ _ _; refine wT_and ?_)
  | (guard_target = wT (tOrD _ _) _ _ _; refine wT_or ?_)
  | (guard_target = wT (tIfD _ _ _) _ _ _; refine wT_if ?_)
  | (guard_target = wT tYesD _ _ _; refine wT_yes ?_)
  | (guard_target = wT (tGenQ _ _ _ tYesD _ _) _ _ _; refine wT_genR ?_)
  | (guard_target = wT (tGenQ2 _ _ _ tYesD _ _ tYesD _ _ _) _ _ _; refine wT_gen2R ?_)
  | (guard_target = wI (iSeq _) _ _ _; refine wI_seqR ?_)
  | (guard_target = wI (iRange1 _) _ _ _; refine wI_rangeR ?_)
  | (guard_target = wI (iRange2 _ _) _ _ _; refine wI_range2R ?_)
  | (guard_target = wI (iZip (aCons _ (aCons _ aNil))) _ _ _; refine wI_zipR ?_)
  | (guard_target = wI (iEnum (aCons _ aNil)) _ _ _; refine wI_enumR ?_)
  | (guard_target = wG (gNm _) _ _ _ _; refine wG_nm ?_)
  | (guard_target = wG (gTp _ _) _ _ _ _; refine wG_tp rfl ?_)
  | (guard_target = wGs (gsCons _ _) _ _ _ _; refine wGs_cons ?_)
  | (guard_target = wGs gsNil _ _ _ _; refine wGs_nil ?_)
  | (guard_target = w2 fAdd _ _ _ _; refine w2_add ?_)
  | (guard_target = w2 fSub _ _ _ _; refine w2_sub ?_)
  | (guard_target = w2 fMul _ _ _ _; refine w2_mul (by walk_at "mul") ?_)
  | (guard_target = w2 fDiv _ _ _ _; refine w2_div (by walk_at "div") ?_)
  | (guard_target = w2 fMod _ _ _ _; refine w2_mod (by walk_at "side") ?_)
  | (guard_target = w2 (fCmp _) _ _ _ _; refine w2_cmp ?_)
  | (guard_target = w2 fEq (.int _) (.int _) _ _; refine w2_eqI ?_)
  | (guard_target = w2 fNe (.int _) (.int _) _ _; refine w2_neI ?_)
  | (guard_target = w2 fIx _ (.int _) _ _; refine w2_eq rfl ?_)
  | (guard_target = w2 fIx _ (.int 0) _ _; refine w2_ix0 rfl (by walk_at "side") ?_)
  | (guard_target = w2 fIx _ (.int (Nat.cast _)) _ _; refine w2_ixR rfl (by walk_at "side") ?_)
  | (guard_target = w2s (fPlus _) (.int _) (.int _) _ _; refine w2s_plusI ?_)
  | (guard_target = w2s (fTimes _) (.int _) (.int _) _ _; refine w2s_timesI (by walk_at "mul") ?_)
  | (guard_target = w2 fPow (.int _) (.int _) _ _; refine w2_pow (by decide) (by decide) (by decide) ?_)
  | (guard_target = w2 fIsB _ _ _ _; refine w2_eq rfl ?_)
  | (guard_target = w2 fNotB _ _ _ _; refine w2_eq rfl ?_)
  | (guard_target = w2 fIsN _ _ _ _; refine w2_eq rfl ?_)
  | (guard_target = w2 fNotN _ _ _ _; refine w2_eq rfl ?_)
  | (guard_target = w1 _ _ _ _; refine w1_eq rfl ?_)
  | (guard_target = wTru _ _ _; refine wTru_eq rfl ?_)
  | (guard_target = wF fTup _ _ _; refine wF_tup (by walk_at "side") ?_)
  | (guard_target = wF fLst _ _ _; refine wF_lst (by walk_at "side") ?_)
  | (guard_target = wF fObj _ _ _; refine wF_obj (by walk_at "side") ?_)
  | (guard_target = wF fLen [dQ _] _ _; refine wF_len2 ?_)
  | (guard_target = wF fLen _ _ _; refine wF_lenR rfl ?_)
  | (guard_target = wF fAbs _ _ _; refine wF_abs ?_)
  | (guard_target = wF fInt1 [.int _] _ _; refine wF_int ?_)
  | (guard_target = wF fInt1 [.bl _] _ _; refine wF_intB ?_)
  | (guard_target = wF fListF _ _ _; refine wF_listF rfl ?_)
  | (guard_target = wF fListO _ _ _; refine wF_listO rfl ?_)
  | (guard_target = wF fTupOf _ _ _; refine wF_tupOf rfl ?_)
  | (guard_target = wF fSum _ _ _; refine wF_sumR rfl ?_)
  | (guard_target = wF fMax2 _ _ _; refine wF_max2 ?_)
  | (guard_target = wF fMin2 _ _ _; refine wF_min2 ?_)
  | (guard_target = (false = true → _) ∧ _; refine ⟨fun h => (nomatch h), fun _ => ?_⟩)
  | (guard_target = (true = true → _) ∧ _; refine ⟨fun _ => ?_, fun h => (nomatch h)⟩)
  | (guard_target = ((!false) = true → _) ∧ _; refine ⟨fun _ => ?_, fun h => (nomatch h)⟩)
  | (guard_target = ((!true) = true → _) ∧ _; refine ⟨fun h => (nomatch h), fun _ => ?_⟩)
  | (guard_target = (isNon _ = true → _) ∧ _; first | refine ⟨fun h => absurd h Bool.false_ne_true, fun _ => ?_⟩ | refine ⟨fun _ => ?_, fun h => absurd h.symm Bool.false_ne_true⟩)
  | (guard_target = ((!isNon _) = true → _) ∧ _; first | refine ⟨fun h => absurd h Bool.false_ne_true, fun _ => ?_⟩ | refine ⟨fun _ => ?_, fun h => absurd h.symm Bool.false_ne_true⟩)
  | (guard_target = (_ = true → _) ∧ (_ = false → _); first | refine ⟨fun h => absurd h (by decide), fun _ => ?_⟩ | refine ⟨fun _ => ?_, fun h => absurd h (by decide)⟩)
  | (guard_target = (_ = _) ∧ _; refine ⟨rfl, ?_⟩)
  | (guard_target = _ ∧ (_ = _); refine ⟨?_, rfl⟩)
  | (guard_target = True ∧ _; refine ⟨trivial, ?_⟩)
  | (guard_target = ∃ _ : Bool, _; refine ⟨_, rfl, ?_⟩)
  | (guard_target = ∃ (_ _ : D), _; refine ⟨_, _, rfl, ?_⟩)
  | (guard_target = ∃ (_ _ _ : D), _; refine ⟨_, _, _, rfl, ?_⟩)
  | rfl)
local macro_rules | `(tactic| walk_at "w") => `(tactic| repeat' (walk_at "w1"))
local macro_rules | `(tactic| walk_at "v") => `(tactic| repeat' ((fail_if_success (guard_target = wE (eLc _ _ _ _ _ _) _ _ _)); walk_at "w1"))
local macro_rules | `(tactic| walk_at "g") => `(tactic| (repeat' (first
  | (guard_target = wG (gNm _) _ _ _ _; refine wG_nm ?_)
  | (guard_target = wG (gTp _ _) _ _ _ _; refine wG_tp rfl ?_)
  | (guard_target = wGs (gsCons _ _) _ _ _ _; refine wGs_cons ?_)
  | (guard_target = wGs gsNil _ _ _ _; refine wGs_nil ?_)
  | (guard_target = wS _ (List.set _ _ _) _ _ _; refine wS_env (by walk_at "env") ?_)
  | (guard_target = wE _ (List.set _ _ _) _ _; refine wE_env (by walk_at "env") ?_))))
local macro_rules | `(tactic| walk_at "u") => `(tactic| repeat' ((fail_if_success (guard_target = wE (eLc _ _ _ _ _ _) _ _ _)); (fail_if_success (guard_target = wE (eLc2 _ _ _ _ _ _ _ _ _ _) _ _ _)); (fail_if_success (guard_target = wT (tGenQ _ _ _ _ _ _) _ _ _)); (fail_if_success (guard_target = wT (tGenQ2 _ _ _ _ _ _ _ _ _ _) _ _ _)); walk_at "w1"))
theorem E_frac {a : Int} {b n : Nat} (hb : 0 < b) (hn : b < 2 ^ n) (h9 : n ≤ 8999) (S : Sto) : F__law_fraction [.int a, .int (b : Int)] S = some (dQ ((a : Rat) / ((b : Int) : Rat)), S) := by
  have hbi : (0 : Int) < (b : Int) := by omega
  have hg : (0 : Int) < (Int.gcd a (b : Int) : Int) := by
    have := gcd_ne (a := a) (b := (b : Int)) (by omega)
    omega
  have hd : ∀ x : Int, L2.CDivW x (Int.gcd a (b : Int) : Int) ∨ L2.CDivN x (Int.gcd a (b : Int) : Int) := fun x => div_ok hg (gcd_bt hbi (Bt.of_nat hn)) (by omega)
  apply wF_of
  unfold F__law_fraction t__law_fraction
  refine wF_fn rfl ?_
  walk_at "w"
  refine wS_cut (fun ρ S' => S' = S ∧ ∃ t y, ρ = [some (.int a), some (.int (b : Int)), some (.int (Int.gcd a (b : Int) : Nat)), y, t, none]) ?_ ?_
  · refine wS_forR (fun k ρ S' => S' = S ∧ ∃ (t : Option D) (x y : Nat), Nat.gcd x y = Int.gcd a (b : Int) ∧ Eu (20000 - k) x y ∧ ρ = [some (.int a), some (.int (b : Int)), some (.int (x : Nat)), some (.int (y : Nat)), t, none]) ?_
    walk_at "w"
    refine ⟨20000, rfl, by omega, 20000, _, rfl, ⟨rfl, none, a.natAbs, b, rfl, eu_le (eu_bound n _ _ hn) (by omega), rfl⟩, fun i ρ S' hi ⟨e1, t, x, y, hgcd, heu, e2⟩ => ?_, fun ρ S' ⟨e1, t, x, y, hgcd, heu, e2⟩ => ?_⟩
    · subst e1 e2
      walk_at "w"
      refine wS_seq ?_
      walk_at "w"
      walk_at "if"
      · walk_at "w"
        rename_i hc
        have : y = 0 := by omega
        subst this
        exact ⟨_, _, by rw [← hgcd, Nat.gcd_zero_right]⟩
      · rename_i hc
        walk_at "w"
        have h1 : Nat.gcd y (x % y) = Int.gcd a (b : Int) := by rw [← hgcd, Nat.gcd_comm x y, Nat.gcd_rec y x, Nat.gcd_comm]
        have h2 : Eu (20000 - (i + 1)) y (x % y) := by
          have e9 : 20000 - i = (20000 - (i + 1)) + 1 := by omega
          rw [e9] at heu
          rcases heu with z | z
          · exact absurd (by omega) hc
          · exact z
        exact ⟨_, y, x % y, h1, h2, by rw [fmod_nat]; rfl⟩
    · subst e1 e2
      have e9 : 20000 - 20000 = 0 := rfl
      have hy : y = 0 := heu
      subst hy
      exact ⟨rfl, t, _, by rw [← hgcd, Nat.gcd_zero_right]⟩
  · rintro ρ S' ⟨rfl, t, y, rfl⟩
    walk_at "w"
    rw [decide_eq_true hbi]
    walk_at "w"
    rw [show max 1 ((Int.gcd a (b : Int) : Nat) : Int) = (Int.gcd a (b : Int) : Int) from by omega, Int.one_mul]
    refine w2_div (hd _) ?_
    walk_at "w"
    rw [show max 1 ((Int.gcd a (b : Int) : Nat) : Int) = (Int.gcd a (b : Int) : Int) from by omega]
    refine w2_div (hd _) ?_
    walk_at "w"
    exact wFin_P0 rfl rfl ⟨dQ_num hbi rfl, rfl⟩
theorem den_mul {x y : Rat} {n : Nat} (hx : Sm n x) (hy : Sm n y) : (x.den : Int) * (y.den : Int) = ((x.den * y.den : Nat) : Int) ∧ x.den * y.den < 2 ^ (n + n) := by
  have e : (x.den : Int) * (y.den : Int) = ((x.den * y.den : Nat) : Int) := by push_cast; rfl
  refine ⟨e, ?_⟩
  have := hx.den.mul hy.den
  rw [e] at this
  unfold DL.Bt at this
  omega
theorem sub_eq (x y : Rat) : x - y = ((x.num * (y.den : Int) - y.num * (x.den : Int) : Int) : Rat) / (((x.den : Int) * (y.den : Int) : Int) : Rat) := by
  have h := add_eq x (-y)
  rw [← Rat.sub_eq_add_neg] at h
  rw [h]
  have e1 : (-y).num = -y.num := rfl
  have e2 : (-y).den = y.den := rfl
  rw [e1, e2, Int.neg_mul, ← Int.sub_eq_add_neg]
theorem E_plus {x y : Rat} {n : Nat} (hx : Sm n x) (hy : Sm n y) (h9 : n ≤ 4000) (S : Sto) : F__law_plus [dQ x, dQ y] S = some (dQ (x + y), S) := by
  obtain ⟨e, hb⟩ := den_mul hx hy
  apply wF_of
  unfold F__law_plus t__law_plus
  refine wF_fn rfl ?_
  walk_at "w"
  refine w2s_timesI (mul_ok hx.num hy.den (by omega)) ?_
  walk_at "w"
  refine w2s_timesI (mul_ok hy.num hx.den (by omega)) ?_
  walk_at "w"
  refine w2s_timesI (mul_ok hx.den hy.den (by omega)) ?_
  walk_at "w"
  rw [e]
  refine wF_eq (E_frac (n := n + n) (Nat.mul_pos (den_pos x) (den_pos y)) hb (by omega) _) ?_
  refine wFin_P0 rfl rfl ⟨?_, rfl⟩
  rw [← e, ← add_eq]
theorem E_times {x y : Rat} {n : Nat} (hx : Sm n x) (hy : Sm n y) (h9 : n ≤ 4000) (S : Sto) : F__law_times [dQ x, dQ y] S = some (dQ (x * y), S) := by
  obtain ⟨e, hb⟩ := den_mul hx hy
  apply wF_of
  unfold F__law_times t__law_times
  refine wF_fn rfl ?_
  walk_at "w"
  refine w2s_timesI (mul_ok hx.num hy.num (by omega)) ?_
  walk_at "w"
  refine w2s_timesI (mul_ok hx.den hy.den (by omega)) ?_
  walk_at "w"
  rw [e]
  refine wF_eq (E_frac (n := n + n) (Nat.mul_pos (den_pos x) (den_pos y)) hb (by omega) _) ?_
  refine wFin_P0 rfl rfl ⟨?_, rfl⟩
  rw [← e, ← mul_eq]
theorem E_lless {x y : Rat} {n : Nat} (hx : Sm n x) (hy : Sm n y) (h9 : n ≤ 4000) (S : Sto) : F__law_less [dQ x, dQ y] S = some (dQ (x - y), S) := by
  obtain ⟨e, hb⟩ := den_mul hx hy
  apply wF_of
  unfold F__law_less t__law_less
  refine wF_fn rfl ?_
  walk_at "w"
  refine w2s_timesI (mul_ok hx.num hy.den (by omega)) ?_
  walk_at "w"
  refine w2s_timesI (mul_ok hy.num hx.den (by omega)) ?_
  walk_at "w"
  refine w2s_timesI (mul_ok hx.den hy.den (by omega)) ?_
  walk_at "w"
  rw [e]
  refine wF_eq (E_frac (n := n + n) (Nat.mul_pos (den_pos x) (den_pos y)) hb (by omega) _) ?_
  refine wFin_P0 rfl rfl ⟨?_, rfl⟩
  rw [← e, ← sub_eq]
theorem E_ltot {d : D} {m n : Nat} {q : Nat → Rat} {S : Sto} (hd : SeqQ S d m q) (hq : ∀ i, i < m → Sm n (q i)) (hs : ∀ i, i ≤ m → Sm n (rs q i)) (h9 : n ≤ 4000) : F__law_total [d] S = some (dQ (rs q m), S) := by
  obtain ⟨chk, hsq, hc⟩ := hd
  apply wF_of
  unfold F__law_total t__law_total
  refine wF_fn rfl ?_
  walk_at "w"
  rw [show D.tup [.int 0, .int 1] = dQ 0 from rfl]
  refine wS_seq ?_
  refine wS_forR (fun k ρ S' => S' = S ∧ ∃ t, ρ = [some d, some (dQ (rs q k)), t]) ?_
  walk_at "w"
  refine ⟨m, fun i => dQ (q i), chk, hsq, ?_⟩
  refine ⟨m, _, rfl, ⟨rfl, none, rfl⟩, fun i ρ S' hi ⟨e1, t, e2⟩ => ?_, fun ρ S' ⟨e1, t, e2⟩ => ?_⟩
  · subst e1 e2
    walk_at "w"
    refine wF_eq (E_plus (hs i (by omega)) (hq i hi) h9 _) ?_
    walk_at "w"
    exact ⟨hc, rfl, _, rfl⟩
  · subst e1 e2
    walk_at "w"
    exact wFin_P0 rfl rfl ⟨rfl, rfl⟩
theorem same_int {k : Nat} {a : Int} (S : Sto) : F__law_same (k + 1) [.int a, .int a] S = some (.bl true, S) := by
  apply wF_of
  show wF (fnD 2 3 finP (t__law_same (F__law_same k))) _ _ _
  unfold t__law_same
  refine wF_fn rfl ?_
  refine wS_seq ?_
  walk_at "u"
  refine wS_seq ?_
  walk_at "u"
  refine wS_seq ?_
  walk_at "u"
  refine w2_eq rfl ?_
  walk_at "u"
  rw [decide_eq_true rfl]
  exact wFin_P0 rfl rfl ⟨rfl, rfl⟩
theorem same_tup {k : Nat} {xs : List D} (hl : xs.length ≤ 1000000) (h : ∀ x, x ∈ xs → ∀ S, F__law_same k [x, x] S = some (.bl true, S)) (S : Sto) : F__law_same (k + 1) [.tup xs, .tup xs] S = some (.bl true, S) := by
  apply wF_of
  show wF (fnD 2 3 finP (t__law_same (F__law_same k))) _ _ _
  unfold t__law_same
  refine wF_fn rfl ?_
  refine wS_seq ?_
  walk_at "u"
  refine wS_seq ?_
  walk_at "u"
  refine wF_len (xs := xs) rfl ?_
  walk_at "u"
  refine wF_len (xs := xs) rfl ?_
  walk_at "u"
  rw [decide_eq_true rfl]
  walk_at "u"
  refine wE_lcRF ?_
  walk_at "u"
  refine wF_len (xs := xs) rfl ?_
  refine ⟨xs.length, rfl, by omega, xs.length, _, fun _ => false, fun i => .int (i : Nat), rfl, trivial, fun i hi => ?_, ?_⟩
  · walk_at "u"
    have hx : xs[i]? = some xs[i] := List.getElem?_eq_getElem hi
    refine w2_ix rfl (atI_nat hx) ?_
    walk_at "u"
    refine w2_ix rfl (atI_nat hx) ?_
    walk_at "u"
    refine wF_eq (h _ (List.getElem_mem hi) _) ?_
    walk_at "u"
    exact fun z => by cases z
  · rw [filter_no]
    walk_at "u"
    refine w2_eq (fEq_lnil (n := 0) .nil) ?_
    exact wFin_P0 rfl rfl ⟨rfl, rfl⟩
theorem same_dQ {k : Nat} {q : Rat} (S : Sto) : F__law_same (k + 2) [dQ q, dQ q] S = some (.bl true, S) := same_tup (k := k + 1) (xs := [.int q.num, .int (q.den : Int)]) (by simp) (fun x hx S => by
  simp only [List.mem_cons, List.not_mem_nil, or_false] at hx
  rcases hx with z | z <;> subst z <;> exact same_int S) S
theorem same_dM {k m n : Nat} {t : Nat → Nat → Rat} (hm : m ≤ 1000) (hn : n ≤ 1000) (S : Sto) : F__law_same (k + 4) [dM m n t, dM m n t] S = some (.bl true, S) :=
  same_tup (k := k + 3) (xs := rg m fun i => dT n (t i)) (by simp; omega) (fun x hx S => by
    obtain ⟨i, _, rfl⟩ := rg_mem.mp hx
    refine same_tup (k := k + 2) (xs := rg n fun j => dQ (t i j)) (by simp; omega) (fun y hy S => ?_) S
    obtain ⟨j, _, rfl⟩ := rg_mem.mp hy
    exact same_dQ S) S
abbrev B20 : Nat := 232792560
theorem dvd20 {W : Nat} (h1 : 1 ≤ W) (h2 : W ≤ 20) : W ∣ B20 := by
  have : ∀ W : Fin 21, W.val = 0 ∨ 232792560 % W.val = 0 := by decide +kernel
  rcases this ⟨W, by omega⟩ with h | h
  · simp at h; omega
  · exact Nat.dvd_of_mod_eq_zero h
theorem row_w {T S : Sto} {m : Nat} {Q : D → Sto → Prop} (h : St pz T S) (hT : Cl pz T) (hm1 : 1 ≤ m) (hm : m ≤ 4) (q : ∀ (r : Nat → Rat) S', St pz T S' → Row B20 m r → Q (dT m r) S') : wF F__law_row [.obj 0, .int (m : Int)] S Q := by
  unfold F__law_row t__law_row
  refine wF_fn rfl ?_
  walk_at "u"
  refine wE_lcRI (β := Nat) (fun _ S' => St pz T S') (fun z : Nat => D.int (z : Int)) (fun _ z => z ≤ 5) ?_
  walk_at "w"
  refine ⟨m, rfl, by omega, m, _, rfl, h, fun i S2 hi hs2 => ?_, fun z S2 hs2 hz => ?_⟩
  · walk_at "w"
    refine pick_w hs2 hT (by simp) (by simp) (by intro x hx; simp only [List.mem_cons, List.not_mem_nil, or_false] at hx; rcases hx with z | z | z | z | z | z | z <;> subst z <;> exact ⟨rfl, rfl⟩) fun x S3 hs3 hx => ?_
    walk_at "w"
    simp only [List.mem_cons, List.not_mem_nil, or_false] at hx
    rcases hx with z | z | z | z | z | z | z <;> subst z
    · exact ⟨0, rfl, by omega, trivial, hs3⟩
    · exact ⟨0, rfl, by omega, trivial, hs3⟩
    · exact ⟨1, rfl, by omega, trivial, hs3⟩
    · exact ⟨1, rfl, by omega, trivial, hs3⟩
    · exact ⟨2, rfl, by omega, trivial, hs3⟩
    · exact ⟨3, rfl, by omega, trivial, hs3⟩
    · exact ⟨5, rfl, by omega, trivial, hs3⟩
  · refine wF_objS hs2 (by simp; omega) fun hs3 => ?_
    obtain ⟨zs, hzl, hz5, e⟩ : ∃ zs : List Nat, zs.length = m ∧ (∀ x ∈ zs, x ≤ 5) ∧ (rg m fun i => D.int ((z i : Nat) : Int)) = zs.map fun z : Nat => D.int (z : Int) := by
      refine ⟨rg m z, by simp, fun x hx => ?_, by rw [rg_map]⟩
      obtain ⟨i, hi, rfl⟩ := rg_mem.mp hx
      exact hz i hi
    rw [e] at hs3 ⊢
    have tail : ∀ (zs : List Nat) (S3 : Sto) (x : Option D), zs.length = m → (∀ x ∈ zs, x ≤ 5) → 1 ≤ zs.sum → St pz (T ++ [.lst (zs.map fun z : Nat => D.int (z : Int))]) S3 →
        wS (sRet (eA fTupOf (aCons (eLc fLst (iSeq (eV 2)) (gNm 4) tYesD (eA F__law_fraction (aCons (eV 4) (aCons (eA fSum (aCons (eV 2) aNil)) aNil))) [4]) aNil))) [some (.obj 0), some (.int (m : Int)), some (.obj (pz.n + T.length)), x, none] S3 (fun _ S1 => wFin finM .non S S1 Q) ⟨fun d S1 => wFin finM d S S1 Q, fun _ _ => False, fun _ _ => False⟩ := fun zs S3 x hzl hz5 hsum hs3 => by
      have hle : zs.sum ≤ 20 := by
        have : ∀ l : List Nat, (∀ x ∈ l, x ≤ 5) → l.sum ≤ l.length * 5 := fun l => by
          induction l with
          | nil => intro _; simp
          | cons a l ih =>
            intro h
            have h1 := h a List.mem_cons_self
            have h2 := ih fun x hx => h x (List.mem_cons_of_mem _ hx)
            simp only [List.sum_cons, List.length_cons]
            omega
        have := this zs hz5
        omega
      have hrow := (row_of (W := zs.sum) hsum rfl).mono (dvd20 hsum hle)
      rw [hzl] at hrow
      walk_at "w"
      refine ⟨m, fun i => D.int ((zs.getD i 0 : Nat) : Int), fun S' => S'[pz.n + T.length]? = some (.lst (zs.map fun z : Nat => D.int (z : Int))), by simp only [seqC, hs3.last]; rw [ints_rg, hzl], ?_⟩
      refine ⟨m, _, fun i => dQ ((((zs.getD i 0 : Nat) : Int) : Rat) / ((zs.sum : Nat) : Rat)), rfl, hs3.last, fun i hi => ?_, ?_⟩
      · walk_at "w"
        refine wF_sum (ns := zs.map fun z : Nat => (z : Int)) (by simp [seqD, hs3.last]) ?_
        rw [isum_nat]
        walk_at "w"
        refine wF_eq (E_frac (n := 10) hsum (by omega) (by omega) _) ?_
        exact ⟨rfl, rfl⟩
      · walk_at "w"
        exact wFin_M h hs3 hT clos_dT rfl fun S4 h4 => q _ S4 h4 hrow
    walk_at "u"
    refine wS_cut (fun ρ S3 => ∃ (zs : List Nat) (x : Option D), zs.length = m ∧ (∀ x ∈ zs, x ≤ 5) ∧ 1 ≤ zs.sum ∧ St pz (T ++ [.lst (zs.map fun z : Nat => D.int (z : Int))]) S3 ∧ ρ = [some (.obj 0), some (.int (m : Int)), some (.obj (pz.n + T.length)), x, none]) ?_ ?_
    · walk_at "w"
      refine wF_sum (ns := zs.map fun z : Nat => (z : Int)) (by simp [seqD, hs3.last]) ?_
      rw [isum_nat]
      walk_at "w"
      walk_at "if"
      · rename_i hc
        have hT2 : Cl pz (T ++ [.lst (zs.map fun z : Nat => D.int (z : Int))]) := hT.push (closL_map (fun x => rfl) zs)
        walk_at "w"
        refine draw_w hs3 hT2 (by omega) (by omega) fun r S4 hs4 hr => ?_
        have hr2 : r < zs.length := by omega
        refine ⟨_, _, r, _, rfl, rfl, hs4.last, by rw [List.length_map]; exact ix_nat hr2, ?_⟩
        have hs5 := hs4.setLast (c' := .lst ((zs.map fun z : Nat => D.int (z : Int)).set r (.int 1)))
        have e2 : (zs.map fun z : Nat => D.int (z : Int)).set r (.int 1) = (zs.set r 1).map fun z : Nat => D.int (z : Int) := by rw [List.map_set]; rfl
        rw [e2] at hs5 ⊢
        have hz0 : ∀ (l : List Nat), l.sum = 0 → ∀ r, r < l.length → (l.set r 1).sum = 1 := fun l => by
          induction l with
          | nil => intro _ r hr; simp at hr
          | cons a l ih =>
            intro h r hr
            simp only [List.sum_cons] at h
            cases r with
            | zero => simp only [List.set_cons_zero, List.sum_cons]; omega
            | succ r =>
              simp only [List.set_cons_succ, List.sum_cons]
              rw [ih (by omega) r (by simpa using hr)]
              omega
        refine ⟨zs.set r 1, _, by simpa using hzl, fun x hx => ?_, ?_, hs5, rfl⟩
        · rcases List.mem_or_eq_of_mem_set hx with h | h
          · exact hz5 x h
          · omega
        · rw [hz0 zs (by omega) r hr2]
          omega
      · rename_i hc
        walk_at "w"
        exact ⟨zs, _, hzl, hz5, by omega, hs3, rfl⟩
    · rintro ρ S3 ⟨zs, x, h1, h2, h3, h4, rfl⟩
      exact tail zs S3 x h1 h2 h3 h4
end LW

set_option maxRecDepth 100000
set_option maxHeartbeats 4000000
namespace LW
open PySem DL PL
open Classical
local macro_rules | `(tactic| walk_at "env") => `(tactic| (simp only [startD, List.map_cons, List.map_nil, List.length_cons, List.length_nil, Nat.reduceAdd, Nat.reduceSub, List.replicate, List.cons_append, List.nil_append, wipeD, List.set]; try rfl))
local macro_rules | `(tactic| walk_at "sto") => `(tactic| (simp only [List.cons_append, List.nil_append, List.set, List.set_cons_zero, List.set_cons_succ, Int.toNat_natCast, Int.reduceToNat]; try rfl))
local macro_rules | `(tactic| walk_at "if") => `(tactic| (refine ⟨fun hc => ?_, fun hc => ?_⟩ <;> simp only [decide_eq_true_eq, decide_eq_false_iff_not, Bool.not_eq_true', Bool.not_eq_false', bne_iff_ne, ne_eq, beq_iff_eq] at hc <;> try (exfalso; first | assumption | omega | (simp at hc; done))))
local macro_rules | `(tactic| walk_at "side") => `(tactic| first | assumption | omega | decide | (simp; done) | (simp; omega))
local macro_rules | `(tactic| walk_at "mul") => `(tactic| first | assumption | exact mul_sm (by first | decide | omega) | exact mul_sm' (by first | decide | omega))
local macro_rules | `(tactic| walk_at "div") => `(tactic| first | assumption | exact div_sm (by omega) (by omega))
local macro_rules | `(tactic| walk_at "w1") => `(tactic| first
  | (guard_target = wS _ (List.set _ _ _) _ _ _; refine wS_env (by walk_at "env") ?_)
  | (guard_target = wE _ (List.set _ _ _) _ _; refine wE_env (by walk_at "env") ?_)
  | (guard_target = wG _ _ (wipeD _ _) _ _; refine wG_env (by walk_at "env") ?_)
  | (guard_target = wS _ (startD _ _) _ _ _; refine wS_env (by walk_at "env") ?_)
  | (guard_target = wS (sSeq (sSet _ _) _) _ _ _ _; refine wS_seq ?_)
  | (guard_target = wS (sSeq (sAsg _ _) _) _ _ _ _; refine wS_seq ?_)
  | (guard_target = wS (sSeq (sExpr _) _) _ _ _ _; refine wS_seq ?_)
  | (guard_target = wS (sSeq (sPar _ _ _) _) _ _ _ _; refine wS_seq ?_)
  | (guard_target = wS (sSeq (sPar3 _ _ _ _) _) _ _ _ _; refine wS_seq ?_)
  | (guard_target = wS (sSeq (sAug _ _ _) _) _ _ _ _; refine wS_seq ?_)
  | (guard_target = wS (sSeq (sSeq _ _) _) _ _ _ _; refine wS_seq ?_)
  | (guard_target = wS _ _ (List.set _ _ _) _ _; refine wS_sto (by walk_at "sto") ?_)
  | (guard_target = wE _ _ (List.set _ _ _) _; refine wE_sto (by walk_at "sto") ?_)
  | (guard_target = wG (gIx _ _) _ _ _ _; refine wG_ix2 ?_)
  | (guard_target = ∃ (_ : Nat) (_ : Int) (_ : Nat) (_ : List D), _; refine ⟨_, _, _, _, rfl, rfl, rfl, rfl, ?_⟩)
  | (guard_target = wS (sSet _ _) _ _ _ _; refine wS_set ?_)
  | (guard_target = wS (sRet _) _ _ _ _; refine wS_ret ?_)
  | (guard_target = wS (sExpr _) _ _ _ _; refine wS_expr ?_)
  | (guard_target = wS sPass _ _ _ _; refine wS_pass ?_)
  | (guard_target = wS sBreak _ _ _ _; refine wS_break ?_)
  | (guard_target = wS sCont _ _ _ _; refine wS_cont ?_)
  | (guard_target = wS (sIf _ _ _) _ _ _ _; refine wS_if ?_)
  | (guard_target = wS (sAsg _ _) _ _ _ _; refine wS_asg ?_)
  | (guard_target = wS (sPar _ _ _) _ _ _ _; refine wS_par ?_)
  | (guard_target = wS (sPar3 _ _ _ _) _ _ _ _; refine wS_par3 ?_)
  | (guard_target = wS (sAug _ _ _) _ _ _ _; refine wS_aug rfl ?_)
  | (guard_target = wE (eV _) _ _ _; refine wE_v rfl ?_)
  | (guard_target = wE (eC _) _ _ _; refine wE_c ?_)
  | (guard_target = wE (e1 _ _) _ _ _; refine wE_1 ?_)
  | (guard_target = wE (e2 _ _ _) _ _ _; refine wE_2 ?_)
  | (guard_target = wE (e2s _ _ _) _ _ _; refine wE_2s ?_)
  | (guard_target = wE (eA _ _) _ _ _; refine wE_A ?_)
  | (guard_target = wA (aCons _ _) _ _ _; refine wA_cons ?_)
  | (guard_target = wA aNil _ _ _; refine wA_nil ?_)
  | (guard_target = wE (eM _ _ _) _ _ _; refine wE_M ?_)
  | (guard_target = wE (eAnd _ _) _ _ _; refine wE_and ?_)
  | (guard_target = wE (eOr _ _) _ _ _; refine wE_or ?_)
  | (guard_target = wE (eIf _ _ _) _ _ _; refine wE_if ?_)
  | (guard_target = wE (eChain _ _ _ _ _) _ _ _; refine wE_chain ?_)
  | (guard_target = wE (eLc _ _ _ tYesD _ _) _ _ _; refine wE_lcR ?_)
  | (guard_target = wE (eLc2 _ _ _ tYesD _ _ tYesD _ _ _) _ _ _; refine wE_lc2R ?_)
  | (guard_target = wE (eBl _) _ _ _; refine wE_bl ?_)
  | (guard_target = wE (eSl _ _ _ _) _ _ _; refine wE_sl ?_)
  | (guard_target = wE (eSlS _ _ _ _) _ _ _; refine wE_slS ?_)
  | (guard_target = wO oNo _ _ _; refine wO_no ?_)
  | (guard_target = wO (oSome _) _ _ _; refine wO_some ?_)
  | (guard_target = ∃ _ : Int, _; refine ⟨_, rfl, ?_⟩)
  | (guard_target = wSl _ (.tup _) _ _ _ _; refine wSl_tup ?_)
  | (guard_target = wSl _ (.lst _) _ _ _ _; refine wSl_lst ?_)
  | (guard_target = wSl _ (.scr _) _ _ _ _; refine wSl_scr ?_)
  | (guard_target = wT (tBl _) _ _ _; refine wT_bl ?_)
  | (guard_target = wT (tTru _) _ _ _; refine wT_tru ?_)
  | (guard_target = wT (tNotD _) _ _ _; refine wT_not ?_)
  | (guard_target = wT (tAndD _ _) _ _ _; refine wT_and ?_)
  | (guard_target = wT (tOrD _ _) _ _ _; refine wT_or ?_)
  | (guard_target = wT (tIfD _ _ _) _ _ _; refine wT_if ?_)
  | (guard_target = wT tYesD _ _ _; refine wT_yes ?_)
  | (guard_target = wT (tGenQ _ _ _ tYesD _ _) _ _ _; refine wT_genR ?_)
  | (guard_target = wT (tGenQ2 _ _ _ tYesD _ _ tYesD _ _ _) _ _ _; refine wT_gen2R ?_)
  | (guard_target = wI (iSeq _) _ _ _; refine wI_seqR ?_)
  | (guard_target = wI (iRange1 _) _ _ _; refine wI_rangeR ?_)
  | (guard_target = wI (iRange2 _ _) _ _ _; refine wI_range2R ?_)
  | (guard_target = wI (iZip (aCons _ (aCons _ aNil))) _ _ _; refine wI_zipR ?_)
  | (guard_target = wI (iEnum (aCons _ aNil)) _ _ _; refine wI_enumR ?_)
  | (guard_target = wG (gNm _) _ _ _ _; refine wG_nm ?_)
  | (guard_target = wG (gTp _ _) _ _ _ _; refine wG_tp rfl ?_)
  | (guard_target = wGs (gsCons _ _) _ _ _ _; refine wGs_cons ?_)
  | (guard_target = wGs gsNil _ _ _ _; refine wGs_nil ?_)
  | (guard_target = w2 fAdd _ _ _ _; refine w2_add ?_)
  | (guard_target = w2 fSub _ _ _ _; refine w2_sub ?_)
  | (guard_target = w2 fMul _ _ _ _; refine w2_mul (by walk_at "mul") ?_)
  | (guard_target = w2 fDiv _ _ _ _; refine w2_div (by walk_at "div") ?_)
  | (guard_target = w2 fMod _ _ _ _; refine w2_mod (by walk_at "side") ?_)
  | (guard_target = w2 (fCmp _) _ _ _ _; refine w2_cmp ?_)
  | (guard_target = w2 fEq (.int _) (.int _) _ _; refine w2_eqI ?_)
  | (guard_target = w2 fNe (.int _) (.int _) _ _; refine w2_neI ?_)
  | (guard_target = w2 fIx _ (.int _) _ _; refine w2_eq rfl ?_)
  | (guard_target = w2 fIx _ (.int 0) _ _; refine w2_ix0 rfl (by walk_at "side") ?_)
  | (guard_target = w2 fIx _ (.int (Nat.cast _)) _ _; refine w2_ixR rfl (by walk_at "side") ?_)
  | (guard_target = w2s (fPlus _) (.int _) (.int _) _ _; refine w2s_plusI ?_)
  | (guard_target = w2s (fTimes _) (.int _) (.int _) _ _; refine w2s_timesI (by walk_at "mul") ?_)
  | (guard_target = w2 fPow (.int _) (.int _) _ _; refine w2_pow (by decide) (by decide) (by decide) ?_)
  | (guard_target = w2 fIsB _ _ _ _; refine w2_eq rfl ?_)
  | (guard_target = w2 fNotB _ _ _ _; refine w2_eq rfl ?_)
  | (guard_target = w2 fIsN _ _ _ _; refine w2_eq rfl ?_)
  | (guard_target = w2 fNotN _ _ _ _; refine w2_eq rfl ?_)
  | (guard_target = w1 _ _ _ _; refine w1_eq rfl ?_)
  | (guard_target = wTru _ _ _; refine wTru_eq rfl ?_)
  | (guard_target = wF fTup _ _ _; refine wF_tup (by walk_at "side") ?_)
  | (guard_target = wF fLst _ _ _; refine wF_lst (by walk_at "side") ?_)
  | (guard_target = wF fObj _ _ _; refine wF_obj (by walk_at "side") ?_)
  | (guard_target = wF fLen [dQ _] _ _; refine wF_len2 ?_)
  | (guard_target = wF fLen _ _ _; refine wF_lenR rfl ?_)
  | (guard_target = wF fAbs _ _ _; refine wF_abs ?_)
  | (guard_target = wF fInt1 [.int _] _ _; refine wF_int ?_)
  | (guard_target = wF fInt1 [.bl _] _ _; refine wF_intB ?_)
  | (guard_target = wF fListF _ _ _; refine wF_listF rfl ?_)
  | (guard_target = wF fListO _ _ _; refine wF_listO rfl ?_)
  | (guard_target = wF fTupOf _ _ _; refine wF_tupOf rfl ?_)
  | (guard_target = wF fSum _ _ _; refine wF_sumR rfl ?_)
  | (guard_target = wF fMax2 _ _ _; refine wF_max2 ?_)
  | (guard_target = wF fMin2 _ _ _; refine wF_min2 ?_)
  | (guard_target = (false = true → _) ∧ _; refine ⟨fun h => (nomatch h), fun _ => ?_⟩)
  | (guard_target = (true = true → _) ∧ _; refine ⟨fun _ => ?_, fun h => (nomatch h)⟩)
  | (guard_target = ((!false) = true → _) ∧ _; refine ⟨fun _ => ?_, fun h => (nomatch h)⟩)
  | (guard_target = ((!true) = true → _) ∧ _; refine ⟨fun h => (nomatch h), fun _ => ?_⟩)
  | (guard_target = (isNon _ = true → _) ∧ _; first | refine ⟨fun h => absurd h Bool.false_ne_true, fun _ => ?_⟩ | refine ⟨fun _ => ?_, fun h => absurd h.symm Bool.false_ne_true⟩)
  | (guard_target = ((!isNon _) = true → _) ∧ _; first | refine ⟨fun h => absurd h Bool.false_ne_true, fun _ => ?_⟩ | refine ⟨fun _ => ?_, fun h => absurd h.symm Bool.false_ne_true⟩)
  | (guard_target = (_ = true → _) ∧ (_ = false → _); first | refine ⟨fun h => absurd h (by decide), fun _ => ?_⟩ | refine ⟨fun _ => ?_, fun h => absurd h (by decide)⟩)
  | (guard_target = (_ = _) ∧ _; refine ⟨rfl, ?_⟩)
  | (guard_target = _ ∧ (_ = _); refine ⟨?_, rfl⟩)
  | (guard_target = True ∧ _; refine ⟨trivial, ?_⟩)
  | (guard_target = ∃ _ : Bool, _; refine ⟨_, rfl, ?_⟩)
  | (guard_target = ∃ (_ _ : D), _; refine ⟨_, _, rfl, ?_⟩)
  | (guard_target = ∃ (_ _ _ : D), _; refine ⟨_, _, _, rfl, ?_⟩)
  | rfl)
local macro_rules | `(tactic| walk_at "w") => `(tactic| repeat' (walk_at "w1"))
local macro_rules | `(tactic| walk_at "v") => `(tactic| repeat' ((fail_if_success (guard_target = wE (eLc _ _ _ _ _ _) _ _ _)); walk_at "w1"))
local macro_rules | `(tactic| walk_at "g") => `(tactic| (repeat' (first
  | (guard_target = wG (gNm _) _ _ _ _; refine wG_nm ?_)
  | (guard_target = wG (gTp _ _) _ _ _ _; refine wG_tp rfl ?_)
  | (guard_target = wGs (gsCons _ _) _ _ _ _; refine wGs_cons ?_)
  | (guard_target = wGs gsNil _ _ _ _; refine wGs_nil ?_)
  | (guard_target = wS _ (List.set _ _ _) _ _ _; refine wS_env (by walk_at "env") ?_)
  | (guard_target = wE _ (List.set _ _ _) _ _; refine wE_env (by walk_at "env") ?_))))
local macro_rules | `(tactic| walk_at "u") => `(tactic| repeat' ((fail_if_success (guard_target = wE (eLc _ _ _ _ _ _) _ _ _)); (fail_if_success (guard_target = wE (eLc2 _ _ _ _ _ _ _ _ _ _) _ _ _)); (fail_if_success (guard_target = wT (tGenQ _ _ _ _ _ _) _ _ _)); (fail_if_success (guard_target = wT (tGenQ2 _ _ _ _ _ _ _ _ _ _) _ _ _)); walk_at "w1"))
theorem rle_of_eq {x y : Rat} (h : x = y) : x ≤ y := h ▸ Rat.le_refl
/-- the worlds move on; a sign is heard -/
def mvd (m : Nat) (c : Nat → Nat → Rat) (v : Nat → Rat) : Nat → Rat := fun a => rs (fun w => v w * c w a) m
def hrd (t : Nat → Nat → Rat) (s : Nat) (v : Nat → Rat) : Nat → Rat := fun w => v w * t w s
/-- the sum of f over the joint chances behind j + 1 signs -/
def Ex (m n : Nat) (c t : Nat → Nat → Rat) (ws : Nat → Rat) : Nat → ((Nat → Rat) → Rat) → Rat
  | 0, f => rs (fun s => f (hrd t s ws)) n
  | j + 1, f => Ex m n c t ws j fun v => rs (fun s => f (hrd t s (mvd m c v))) n
def bst (m k : Nat) (g : Nat → Nat → Rat) (v : Nat → Rat) : Rat := mx (fun a => rs (fun w => v w * g w a) m) k
def swv (m n k : Nat) (c t g : Nat → Nat → Rat) (ws : Nat → Rat) (K : Nat) : Rat := rs (fun j => Ex m n c t ws j (bst m k g)) K
/-- f looks at the first m places -/
def Cg (m : Nat) (f : (Nat → Rat) → Rat) : Prop := ∀ u v : Nat → Rat, (∀ w, w < m → u w = v w) → f u = f v
theorem Cg.hat {m n : Nat} {c t : Nat → Nat → Rat} {f : (Nat → Rat) → Rat} (h : Cg m f) : Cg m fun v => rs (fun s => f (hrd t s (mvd m c v))) n := fun u v e => by
  refine rs_congr fun s _ => h _ _ fun w _ => ?_
  unfold hrd mvd
  rw [rs_congr fun w hw => by rw [e w hw]]
theorem Cg.bst {m k : Nat} {g : Nat → Nat → Rat} : Cg m (bst m k g) := fun u v e => by
  unfold LW.bst
  exact mx_congr fun a _ => rs_congr fun w hw => by rw [e w hw]
/-- sublinear -/
structure Sb (m : Nat) (f : (Nat → Rat) → Rat) : Prop where
  cg : Cg m f
  add : ∀ u v : Nat → Rat, f (fun w => u w + v w) ≤ f u + f v
  mul : ∀ (x : Rat) (v : Nat → Rat), 0 ≤ x → f (fun w => x * v w) = x * f v
theorem Sb.sum {m : Nat} {f : (Nat → Rat) → Rat} (h : Sb m f) {x : Nat → Rat} {v : Nat → Nat → Rat} : ∀ n : Nat, (∀ s, s < n → 0 ≤ x s) → f (fun w => rs (fun s => x s * v s w) n) ≤ rs (fun s => x s * f (v s)) n
  | 0, _ => by
    have e := h.mul 0 (fun _ => 0) Rat.le_refl
    have e2 : f (fun w => rs (fun s => x s * v s w) 0) = f (fun w => 0 * (fun _ => (0 : Rat)) w) := h.cg _ _ fun w _ => by simp [rs]
    rw [e2, e, Rat.zero_mul]
    exact Rat.le_refl
  | n + 1, hx => by
    have ih := Sb.sum h (x := x) (v := v) n fun s hs => hx s (by omega)
    have a := h.add (fun w => rs (fun s => x s * v s w) n) (fun w => x n * v n w)
    rw [h.mul (x n) (v n) (hx n (by omega))] at a
    show f (fun w => rs (fun s => x s * v s w) n + x n * v n w) ≤ rs (fun s => x s * f (v s)) n + x n * f (v n)
    grind
theorem Sb.hat {m n : Nat} {c t : Nat → Nat → Rat} {f : (Nat → Rat) → Rat} (h : Sb m f) : Sb m fun v => rs (fun s => f (hrd t s (mvd m c v))) n where
  cg := h.cg.hat
  add := fun u v => by
    rw [← rs_add]
    refine rs_le fun s _ => ?_
    have := h.add (hrd t s (mvd m c u)) (hrd t s (mvd m c v))
    refine Rat.le_trans (rle_of_eq (h.cg _ _ fun w _ => ?_)) this
    unfold hrd mvd
    rw [← Rat.add_mul, ← rs_add]
    congr 1
    exact rs_congr fun w' _ => by rw [Rat.add_mul]
  mul := fun x v hx => by
    rw [← rs_mul]
    refine rs_congr fun s _ => ?_
    rw [← h.mul x _ hx]
    refine h.cg _ _ fun w _ => ?_
    unfold hrd mvd
    rw [← Rat.mul_assoc, ← rs_mul]
    congr 1
    exact rs_congr fun w' _ => by rw [Rat.mul_assoc]
theorem mx_add_le {f g : Nat → Rat} : ∀ {k : Nat}, mx (fun a => f a + g a) k ≤ mx f k + mx g k := fun {k} => by
  obtain ⟨i, hi, e⟩ := mx_at (f := fun a => f a + g a) k
  have a := mx_ge (f := f) hi
  have b := mx_ge (f := g) hi
  rw [e]
  grind
theorem mx_mul {f : Nat → Rat} {x : Rat} (hx : 0 ≤ x) {k : Nat} : mx (fun a => x * f a) k = x * mx f k := by
  symm
  refine mx_uniq (fun i hi => Rat.mul_le_mul_of_nonneg_left (mx_ge hi) hx) ?_
  obtain ⟨i, hi, e⟩ := mx_at (f := f) k
  exact ⟨i, hi, by rw [e]⟩
theorem Sb.bst {m k : Nat} {g : Nat → Nat → Rat} : Sb m (bst m k g) where
  cg := .bst
  add := fun u v => by
    unfold LW.bst
    refine Rat.le_trans (rle_of_eq (mx_congr fun a _ => ?_)) mx_add_le
    rw [← rs_add]
    exact rs_congr fun w _ => by rw [Rat.add_mul]
  mul := fun x v hx => by
    unfold LW.bst
    rw [← mx_mul hx]
    refine mx_congr fun a _ => ?_
    rw [← rs_mul]
    exact rs_congr fun w _ => by rw [Rat.mul_assoc]
theorem Ex_congr {m n : Nat} {c t : Nat → Nat → Rat} {ws : Nat → Rat} : ∀ {j : Nat} {f g : (Nat → Rat) → Rat}, (∀ v, f v = g v) → Ex m n c t ws j f = Ex m n c t ws j g := fun {j f g} h => by rw [funext h]
theorem Ex_le {m n : Nat} {c t : Nat → Nat → Rat} {ws : Nat → Rat} : ∀ {j : Nat} {f g : (Nat → Rat) → Rat}, (∀ v, f v ≤ g v) → Ex m n c t ws j f ≤ Ex m n c t ws j g
  | 0, f, g, h => rs_le fun s _ => h _
  | j + 1, f, g, h => Ex_le (j := j) fun v => rs_le fun s _ => h _
/-- garbling loses -/
theorem garb_hat {m n k : Nat} {t tab : Nat → Nat → Rat} {f : (Nat → Rat) → Rat} (h : Sb m f) (h0 : ∀ s j, s < n → j < k → 0 ≤ tab s j) (h1 : ∀ s, s < n → rs (tab s) k = 1) (v : Nat → Rat) :
    rs (fun j => f (hrd (garb n t tab) j v)) k ≤ rs (fun s => f (hrd t s v)) n := by
  have a : rs (fun j => f (hrd (garb n t tab) j v)) k ≤ rs (fun j => rs (fun s => tab s j * f (hrd t s v)) n) k := rs_le fun j hj => by
    have := h.sum (x := fun s => tab s j) (v := fun s => hrd t s v) n fun s hs => h0 s j hs hj
    refine Rat.le_trans (rle_of_eq (h.cg _ _ fun w _ => ?_)) this
    unfold hrd garb
    rw [← rs_mul]
    exact rs_congr fun s _ => by grind
  refine Rat.le_trans a (rle_of_eq ?_)
  rw [← rs_swap]
  refine rs_congr fun s hs => ?_
  rw [rs_mul', h1 s hs, Rat.one_mul]
theorem Ex_garb {m n k : Nat} {c t tab : Nat → Nat → Rat} {ws : Nat → Rat} (h0 : ∀ s j, s < n → j < k → 0 ≤ tab s j) (h1 : ∀ s, s < n → rs (tab s) k = 1) : ∀ {j : Nat} {f : (Nat → Rat) → Rat}, Sb m f → Ex m k c (garb n t tab) ws j f ≤ Ex m n c t ws j f
  | 0, f, h => garb_hat h h0 h1 ws
  | j + 1, f, h => Rat.le_trans (Ex_le (j := j) fun v => garb_hat h h0 h1 (mvd m c v)) (Ex_garb h0 h1 (j := j) h.hat)
theorem swv_garb {m n k a : Nat} {c t tab g : Nat → Nat → Rat} {ws : Nat → Rat} (h0 : ∀ s j, s < n → j < k → 0 ≤ tab s j) (h1 : ∀ s, s < n → rs (tab s) k = 1) (K : Nat) : swv m k a c (garb n t tab) g ws K ≤ swv m n a c t g ws K :=
  rs_le fun j _ => Ex_garb h0 h1 .bst
/-! the program's whole numbers -/
def chI (m : Nat) (mv : Nat → Nat → Int) (z : Nat → Int) : Nat → Int := fun a => is (fun w => z w * mv w a) m
def hrI (ch : Nat → Nat → Int) (s : Nat) (z : Nat → Int) : Nat → Int := fun w => z w * ch w s
def bsI (m k : Nat) (rw_ : Nat → Nat → Int) (z : Nat → Int) : Int := mxi (fun a => is (fun w => z w * rw_ w a) m) k
def dI (m n : Nat) (f : Nat → Nat → Int) : D := tF m fun w => iT n (f w)
theorem is_bt {n : Nat} {f : Nat → Int} {m : Nat} (hm : m ≤ 4) (h : ∀ w, w < m → DL.Bt n (f w)) : DL.Bt (n + 2) (is f m) := by
  have : ∀ m, (∀ w, w < m → (f w).natAbs < 2 ^ n) → (is f m).natAbs ≤ m * 2 ^ n := fun m => by
    induction m with
    | zero => intro _; simp [is]
    | succ m ih =>
      intro h
      have a := ih fun w hw => h w (by omega)
      have b := h m (by omega)
      show (is f m + f m).natAbs ≤ _
      rw [Nat.succ_mul]
      omega
  have a := this m h
  unfold DL.Bt
  rw [Nat.pow_add]
  rcases Nat.eq_zero_or_pos m with z | z
  · subst z
    show (0 : Int).natAbs < _
    exact Nat.mul_pos (Nat.pow_pos (by omega)) (by omega)
  · have hlt : (is f m).natAbs < m * 2 ^ n ∨ m < 4 ∨ (is f m).natAbs ≤ 4 * 2 ^ n := by
      right; right
      exact Nat.le_trans a (Nat.mul_le_mul_right _ hm)
    have strict : ∀ m, 1 ≤ m → (∀ w, w < m → (f w).natAbs < 2 ^ n) → (is f m).natAbs < m * 2 ^ n := fun m => by
      induction m with
      | zero => intro h1; omega
      | succ m ih =>
        intro _ h
        have b := h m (by omega)
        rcases Nat.eq_zero_or_pos m with z | z
        · subst z
          show (0 + f 0 : Int).natAbs < _
          rw [Int.zero_add]
          omega
        · have a := ih z fun w hw => h w (by omega)
          show (is f m + f m).natAbs < _
          rw [Nat.succ_mul]
          omega
    have s := strict m z h
    have : m * 2 ^ n ≤ 4 * 2 ^ n := Nat.mul_le_mul_right _ hm
    omega
theorem E_changed {m a b : Nat} {mv : Nat → Nat → Int} {z : Nat → Int} (hm : m ≤ 4) (hz : ∀ w, w < m → DL.Bt a (z w)) (hv : ∀ i j, i < m → j < m → DL.Bt b (mv i j)) (h9 : a + b ≤ 5000) (S : Sto) : F__changed [iL m z, dI m m mv] S = some (iL m (chI m mv z), S) := by
  apply wF_of
  unfold F__changed t__changed
  refine wF_fn rfl ?_
  walk_at "w"
  refine ⟨m, rfl, by omega, m, _, fun i => .int (chI m mv z i), rfl, trivial, fun i hi => ?_, ?_⟩
  · walk_at "w"
    refine ⟨m, fun w => .int (z w), fun w => iT m (mv w), fun _ => True, fun _ => True, rfl, rfl, ?_⟩
    refine ⟨m, _, fun w => .int (z w * mv w i), rfl, ⟨trivial, trivial⟩, fun w hw => ?_, ?_⟩
    · walk_at "w"
      refine w2s_timesI (mul_ok (hz w hw) (hv w i hw hi) (by omega)) ?_
      walk_at "w"
    · walk_at "w"
      rw [rg_sum]
      rfl
  · walk_at "w"
    exact wFin_P0 clos_iL rfl ⟨rfl, rfl⟩
theorem E_heard {m n a b s : Nat} {ch : Nat → Nat → Int} {z : Nat → Int} {d : D} (hd : ∀ S, seqC d S = some (rg m fun w => .int (z w), fun _ => True)) (hm : m ≤ 4) (hs : s < n) (hz : ∀ w, w < m → DL.Bt a (z w)) (hv : ∀ i j, i < m → j < n → DL.Bt b (ch i j)) (h9 : a + b ≤ 5000) (S : Sto) : F__heard [d, dI m n ch, .int (s : Int)] S = some (iL m (hrI ch s z), S) := by
  apply wF_of
  unfold F__heard t__heard
  refine wF_fn rfl ?_
  walk_at "w"
  refine ⟨m, fun w => .int (z w), fun w => iT n (ch w), fun _ => True, fun _ => True, hd _, rfl, ?_⟩
  refine ⟨m, _, fun w => .int (hrI ch s z w), rfl, ⟨trivial, trivial⟩, fun w hw => ?_, ?_⟩
  · walk_at "w"
    refine w2s_timesI (mul_ok (hz w hw) (hv w s hw hs) (by omega)) ?_
    walk_at "w"
  · walk_at "w"
    exact wFin_P0 clos_iL rfl ⟨rfl, rfl⟩
theorem E_all_heard {m n a b : Nat} {ch : Nat → Nat → Int} {zs : List (Nat → Int)} {f : (Nat → Int) → D} (hf : ∀ z S, seqC (f z) S = some (rg m fun w => .int (z w), fun _ => True)) (hm1 : 1 ≤ m) (hm : m ≤ 4) (hn : n ≤ 4) (hl : zs.length ≤ 10000) (hz : ∀ z ∈ zs, ∀ w, w < m → DL.Bt a (z w)) (hv : ∀ i j, i < m → j < n → DL.Bt b (ch i j)) (h9 : a + b ≤ 5000) (S : Sto) :
    F__all_heard [.lst (zs.map f), dI m n ch] S = some (.lst ((zs.flatMap fun z => (List.range n).map fun s => hrI ch s z).map fun z => iL m z), S) := by
  apply wF_of
  unfold F__all_heard t__all_heard
  refine wF_fn rfl ?_
  walk_at "u"
  refine wE_lc2 (α := Nat → Int) (β := Nat) ?_
  refine wI_seq ?_
  walk_at "u"
  refine ⟨_, _, rfl, zs, f, fun _ => List.range n, fun z s => iL m (hrI ch s z), rfl, trivial, fun z hz' => ?_, ?_⟩
  · walk_at "u"
    refine ⟨n, rfl, by omega, rfl, _, rfl, trivial, fun s hs => ?_⟩
    walk_at "u"
    exact wF_eq (E_heard (hf z) hm (List.mem_range.mp hs) (hz z hz') hv h9 _) ⟨rfl, rfl⟩
  · have e : (zs.map fun z => (List.range n).map fun s => iL m (hrI ch s z)).flatten = (zs.flatMap fun z => (List.range n).map fun s => hrI ch s z).map fun z => iL m z := by
      rw [List.map_flatMap, List.flatMap_def]
      congr 1
      exact List.map_congr_left fun z _ => by rw [List.map_map]; rfl
    rw [e]
    refine wF_lst ?_ ?_
    · rw [List.length_map]
      refine Nat.le_trans (len_flatMap_le (c := 4) fun z _ => by simp; omega) (by omega)
    · exact wFin_P0 (closL_map (f := fun z => iL m z) (fun z => clos_iL) _) rfl ⟨rfl, rfl⟩
theorem E_best {m k a b : Nat} {rw_ : Nat → Nat → Int} {z : Nat → Int} (hm1 : 1 ≤ m) (hm : m ≤ 4) (hk : k ≤ 100) (hz : ∀ w, w < m → DL.Bt a (z w)) (hv : ∀ i j, i < m → j < k + 1 → DL.Bt b (rw_ i j)) (h9 : a + b ≤ 5000) (S : Sto) : F__best [iL m z, dI m (k + 1) rw_] S = some (.int (bsI m k rw_ z), S) := by
  apply wF_of
  unfold F__best t__best
  refine wF_fn rfl ?_
  walk_at "w"
  refine ⟨k + 1, rfl, by omega, k + 1, _, fun i => .int (is (fun w => z w * rw_ w i) m), rfl, trivial, fun i hi => ?_, ?_⟩
  · walk_at "w"
    refine ⟨m, fun w => .int (z w), fun w => iT (k + 1) (rw_ w), fun _ => True, fun _ => True, rfl, rfl, ?_⟩
    refine ⟨m, _, fun w => .int (z w * rw_ w i), rfl, ⟨trivial, trivial⟩, fun w hw => ?_, ?_⟩
    · walk_at "w"
      refine w2s_timesI (mul_ok (hz w hw) (hv w i hw hi) (by omega)) ?_
      walk_at "w"
    · walk_at "w"
      rw [rg_sum]
  · walk_at "w"
    refine wF_maxA (k := k) (z := fun i => is (fun w => z w * rw_ w i) m) rfl ?_
    exact wFin_P0 rfl rfl ⟨rfl, rfl⟩
end LW

set_option maxRecDepth 100000
set_option maxHeartbeats 4000000
namespace LW
open PySem DL PL
open Classical
local macro_rules | `(tactic| walk_at "env") => `(tactic| (simp only [startD, List.map_cons, List.map_nil, List.length_cons, List.length_nil, Nat.reduceAdd, Nat.reduceSub, List.replicate, List.cons_append, List.nil_append, wipeD, List.set]; try rfl))
local macro_rules | `(tactic| walk_at "sto") => `(tactic| (simp only [List.cons_append, List.nil_append, List.set, List.set_cons_zero, List.set_cons_succ, Int.toNat_natCast, Int.reduceToNat]; try rfl))
local macro_rules | `(tactic| walk_at "if") => `(tactic| (refine ⟨fun hc => ?_, fun hc => ?_⟩ <;> simp only [decide_eq_true_eq, decide_eq_false_iff_not, Bool.not_eq_true', Bool.not_eq_false', bne_iff_ne, ne_eq, beq_iff_eq] at hc <;> try (exfalso; first | assumption | omega | (simp at hc; done))))
local macro_rules | `(tactic| walk_at "side") => `(tactic| first | assumption | omega | decide | (simp; done) | (simp; omega))
local macro_rules | `(tactic| walk_at "mul") => `(tactic| first | assumption | exact mul_sm (by first | decide | omega) | exact mul_sm' (by first | decide | omega))
local macro_rules | `(tactic| walk_at "div") => `(tactic| first | assumption | exact div_sm (by omega) (by omega))
local macro_rules | `(tactic| walk_at "w1") => `(tactic| first
  | (guard_target = wS _ (List.set _ _ _) _ _ _; refine wS_env (by walk_at "env") ?_)
  | (guard_target = wE _ (List.set _ _ _) _ _; refine wE_env (by walk_at "env") ?_)
  | (guard_target = wG _ _ (wipeD _ _) _ _; refine wG_env (by walk_at "env") ?_)
  | (guard_target = wS _ (startD _ _) _ _ _; refine wS_env (by walk_at "env") ?_)
  | (guard_target = wS (sSeq (sSet _ _) _) _ _ _ _; refine wS_seq ?_)
  | (guard_target = wS (sSeq (sAsg _ _) _) _ _ _ _; refine wS_seq ?_)
  | (guard_target = wS (sSeq (sExpr _) _) _ _ _ _; refine wS_seq ?_)
  | (guard_target = wS (sSeq (sPar _ _ _) _) _ _ _ _; refine wS_seq ?_)
  | (guard_target = wS (sSeq (sPar3 _ _ _ _) _) _ _ _ _; refine wS_seq ?_)
  | (guard_target = wS (sSeq (sAug _ _ _) _) _ _ _ _; refine wS_seq ?_)
  | (guard_target = wS (sSeq (sSeq _ _) _) _ _ _ _; refine wS_seq ?_)
  | (guard_target = wS _ _ (List.set _ _ _) _ _; refine wS_sto (by walk_at "sto") ?_)
  | (guard_target = wE _ _ (List.set _ _ _) _; refine wE_sto (by walk_at "sto") ?_)
  | (guard_target = wG (gIx _ _) _ _ _ _; refine wG_ix2 ?_)
  | (guard_target = ∃ (_ : Nat) (_ : Int) (_ : Nat) (_ : List D), _; refine ⟨_, _, _, _, rfl, rfl, rfl, rfl, ?_⟩)
  | (guard_target = wS (sSet _ _) _ _ _ _; refine wS_set ?_)
  | (guard_target = wS (sRet _) _ _ _ _; refine wS_ret ?_)
  | (guard_target = wS (sExpr _) _ _ _ _; refine wS_expr ?_)
  | (guard_target = wS sPass _ _ _ _; refine wS_pass ?_)
  | (guard_target = wS sBreak _ _ _ _; refine wS_break ?_)
  | (guard_target = wS sCont _ _ _ _; refine wS_cont ?_)
  | (guard_target = wS (sIf _ _ _) _ _ _ _; refine wS_if ?_)
  | (guard_target = wS (sAsg _ _) _ _ _ _; refine wS_asg ?_)
  | (guard_target = wS (sPar _ _ _) _ _ _ _; refine wS_par ?_)
  | (guard_target = wS (sPar3 _ _ _ _) _ _ _ _; refine wS_par3 ?_)
  | (guard_target = wS (sAug _ _ _) _ _ _ _; refine wS_aug rfl ?_)
  | (guard_target = wE (eV _) _ _ _; refine wE_v rfl ?_)
  | (guard_target = wE (eC _) _ _ _; refine wE_c ?_)
  | (guard_target = wE (e1 _ _) _ _ _; refine wE_1 ?_)
  | (guard_target = wE (e2 _ _ _) _ _ _; refine wE_2 ?_)
  | (guard_target = wE (e2s _ _ _) _ _ _; refine wE_2s ?_)
  | (guard_target = wE (eA _ _) _ _ _; refine wE_A ?_)
  | (guard_target = wA (aCons _ _) _ _ _; refine wA_cons ?_)
  | (guard_target = wA aNil _ _ _; refine wA_nil ?_)
  | (guard_target = wE (eM _ _ _) _ _ _; refine wE_M ?_)
  | (guard_target = wE (eAnd _ _) _ _ _; refine wE_and ?_)
  | (guard_target = wE (eOr _ _) _ _ _; refine wE_or ?_)
  | (guard_target = wE (eIf _ _ _) _ _ _; refine wE_if ?_)
  | (guard_target = wE (eChain _ _ _ _ _) _ _ _; refine wE_chain ?_)
  | (guard_target = wE (eLc _ _ _ tYesD _ _) _ _ _; refine wE_lcR ?_)
  | (guard_target = wE (eLc2 _ _ _ tYesD _ _ tYesD _ _ _) _ _ _; refine wE_lc2R ?_)
  | (guard_target = wE (eBl _) _ _ _; refine wE_bl ?_)
  | (guard_target = wE (eSl _ _ _ _) _ _ _; refine wE_sl ?_)
  | (guard_target = wE (eSlS _ _ _ _) _ _ _; refine wE_slS ?_)
  | (guard_target = wO oNo _ _ _; refine wO_no ?_)
  | (guard_target = wO (oSome _) _ _ _; refine wO_some ?_)
  | (guard_target = ∃ _ : Int, _; refine ⟨_, rfl, ?_⟩)
  | (guard_target = wSl _ (.tup _) _ _ _ _; refine wSl_tup ?_)
  | (guard_target = wSl _ (.lst _) _ _ _ _; refine wSl_lst ?_)
  | (guard_target = wSl _ (.scr _) _ _ _ _; refine wSl_scr ?_)
  | (guard_target = wT (tBl _) _ _ _; refine wT_bl ?_)
  | (guard_target = wT (tTru _) _ _ _; refine wT_tru ?_)
  | (guard_target = wT (tNotD _) _ _ _; refine wT_not ?_)
  | (guard_target = wT (tAndD _ _) _ _ _; refine wT_and ?_)
  | (guard_target = wT (tOrD _ _) _ _ _; refine wT_or ?_)
  | (guard_target = wT (tIfD _ _ _) _ _ _; refine wT_if ?_)
  | (guard_target = wT tYesD _ _ _; refine wT_yes ?_)
  | (guard_target = wT (tGenQ _ _ _ tYesD _ _) _ _ _; refine wT_genR ?_)
  | (guard_target = wT (tGenQ2 _ _ _ tYesD _ _ tYesD _ _ _) _ _ _; refine wT_gen2R ?_)
  | (guard_target = wI (iSeq _) _ _ _; refine wI_seqR ?_)
  | (guard_target = wI (iRange1 _) _ _ _; refine wI_rangeR ?_)
  | (guard_target = wI (iRange2 _ _) _ _ _; refine wI_range2R ?_)
  | (guard_target = wI (iZip (aCons _ (aCons _ aNil))) _ _ _; refine wI_zipR ?_)
  | (guard_target = wI (iEnum (aCons _ aNil)) _ _ _; refine wI_enumR ?_)
  | (guard_target = wG (gNm _) _ _ _ _; refine wG_nm ?_)
  | (guard_target = wG (gTp _ _) _ _ _ _; refine wG_tp rfl ?_)
  | (guard_target = wGs (gsCons _ _) _ _ _ _; refine wGs_cons ?_)
  | (guard_target = wGs gsNil _ _ _ _; refine wGs_nil ?_)
  | (guard_target = w2 fAdd _ _ _ _; refine w2_add ?_)
  | (guard_target = w2 fSub _ _ _ _; refine w2_sub ?_)
  | (guard_target = w2 fMul _ _ _ _; refine w2_mul (by walk_at "mul") ?_)
  | (guard_target = w2 fDiv _ _ _ _; refine w2_div (by walk_at "div") ?_)
  | (guard_target = w2 fMod _ _ _ _; refine w2_mod (by walk_at "side") ?_)
  | (guard_target = w2 (fCmp _) _ _ _ _; refine w2_cmp ?_)
  | (guard_target = w2 fEq (.int _) (.int _) _ _; refine w2_eqI ?_)
  | (guard_target = w2 fNe (.int _) (.int _) _ _; refine w2_neI ?_)
  | (guard_target = w2 fIx _ (.int _) _ _; refine w2_eq rfl ?_)
  | (guard_target = w2 fIx _ (.int 0) _ _; refine w2_ix0 rfl (by walk_at "side") ?_)
  | (guard_target = w2 fIx _ (.int (Nat.cast _)) _ _; refine w2_ixR rfl (by walk_at "side") ?_)
  | (guard_target = w2s (fPlus _) (.int _) (.int _) _ _; refine w2s_plusI ?_)
  | (guard_target = w2s (fTimes _) (.int _) (.int _) _ _; refine w2s_timesI (by walk_at "mul") ?_)
  | (guard_target = w2 fPow (.int _) (.int _) _ _; refine w2_pow (by decide) (by decide) (by decide) ?_)
  | (guard_target = w2 fIsB _ _ _ _; refine w2_eq rfl ?_)
  | (guard_target = w2 fNotB _ _ _ _; refine w2_eq rfl ?_)
  | (guard_target = w2 fIsN _ _ _ _; refine w2_eq rfl ?_)
  | (guard_target = w2 fNotN _ _ _ _; refine w2_eq rfl ?_)
  | (guard_target = w1 _ _ _ _; refine w1_eq rfl ?_)
  | (guard_target = wTru _ _ _; refine wTru_eq rfl ?_)
  | (guard_target = wF fTup _ _ _; refine wF_tup (by walk_at "side") ?_)
  | (guard_target = wF fLst _ _ _; refine wF_lst (by walk_at "side") ?_)
  | (guard_target = wF fObj _ _ _; refine wF_obj (by walk_at "side") ?_)
  | (guard_target = wF fLen [dQ _] _ _; refine wF_len2 ?_)
  | (guard_target = wF fLen _ _ _; refine wF_lenR rfl ?_)
  | (guard_target = wF fAbs _ _ _; refine wF_abs ?_)
  | (guard_target = wF fInt1 [.int _] _ _; refine wF_int ?_)
  | (guard_target = wF fInt1 [.bl _] _ _; refine wF_intB ?_)
  | (guard_target = wF fListF _ _ _; refine wF_listF rfl ?_)
  | (guard_target = wF fListO _ _ _; refine wF_listO rfl ?_)
  | (guard_target = wF fTupOf _ _ _; refine wF_tupOf rfl ?_)
  | (guard_target = wF fSum _ _ _; refine wF_sumR rfl ?_)
  | (guard_target = wF fMax2 _ _ _; refine wF_max2 ?_)
  | (guard_target = wF fMin2 _ _ _; refine wF_min2 ?_)
  | (guard_target = (false = true → _) ∧ _; refine ⟨fun h => (nomatch h), fun _ => ?_⟩)
  | (guard_target = (true = true → _) ∧ _; refine ⟨fun _ => ?_, fun h => (nomatch h)⟩)
  | (guard_target = ((!false) = true → _) ∧ _; refine ⟨fun _ => ?_, fun h => (nomatch h)⟩)
  | (guard_target = ((!true) = true → _) ∧ _; refine ⟨fun h => (nomatch h), fun _ => ?_⟩)
  | (guard_target = (isNon _ = true → _) ∧ _; first | refine ⟨fun h => absurd h Bool.false_ne_true, fun _ => ?_⟩ | refine ⟨fun _ => ?_, fun h => absurd h.symm Bool.false_ne_true⟩)
  | (guard_target = ((!isNon _) = true → _) ∧ _; first | refine ⟨fun h => absurd h Bool.false_ne_true, fun _ => ?_⟩ | refine ⟨fun _ => ?_, fun h => absurd h.symm Bool.false_ne_true⟩)
  | (guard_target = (_ = true → _) ∧ (_ = false → _); first | refine ⟨fun h => absurd h (by decide), fun _ => ?_⟩ | refine ⟨fun _ => ?_, fun h => absurd h (by decide)⟩)
  | (guard_target = (_ = _) ∧ _; refine ⟨rfl, ?_⟩)
  | (guard_target = _ ∧ (_ = _); refine ⟨?_, rfl⟩)
  | (guard_target = True ∧ _; refine ⟨trivial, ?_⟩)
  | (guard_target = ∃ _ : Bool, _; refine ⟨_, rfl, ?_⟩)
  | (guard_target = ∃ (_ _ : D), _; refine ⟨_, _, rfl, ?_⟩)
  | (guard_target = ∃ (_ _ _ : D), _; refine ⟨_, _, _, rfl, ?_⟩)
  | rfl)
local macro_rules | `(tactic| walk_at "w") => `(tactic| repeat' (walk_at "w1"))
local macro_rules | `(tactic| walk_at "v") => `(tactic| repeat' ((fail_if_success (guard_target = wE (eLc _ _ _ _ _ _) _ _ _)); walk_at "w1"))
local macro_rules | `(tactic| walk_at "g") => `(tactic| (repeat' (first
  | (guard_target = wG (gNm _) _ _ _ _; refine wG_nm ?_)
  | (guard_target = wG (gTp _ _) _ _ _ _; refine wG_tp rfl ?_)
  | (guard_target = wGs (gsCons _ _) _ _ _ _; refine wGs_cons ?_)
  | (guard_target = wGs gsNil _ _ _ _; refine wGs_nil ?_)
  | (guard_target = wS _ (List.set _ _ _) _ _ _; refine wS_env (by walk_at "env") ?_)
  | (guard_target = wE _ (List.set _ _ _) _ _; refine wE_env (by walk_at "env") ?_))))
local macro_rules | `(tactic| walk_at "u") => `(tactic| repeat' ((fail_if_success (guard_target = wE (eLc _ _ _ _ _ _) _ _ _)); (fail_if_success (guard_target = wE (eLc2 _ _ _ _ _ _ _ _ _ _) _ _ _)); (fail_if_success (guard_target = wT (tGenQ _ _ _ _ _ _) _ _ _)); (fail_if_success (guard_target = wT (tGenQ2 _ _ _ _ _ _ _ _ _ _) _ _ _)); walk_at "w1"))
theorem rs_range {f : Nat → Rat} : ∀ n : Nat, ((List.range n).map f).sum = rs f n
  | 0 => rfl
  | n + 1 => by
    rw [List.range_succ, List.map_append, List.sum_append, rs_range n]
    show rs f n + (f n + 0) = rs f n + f n
    rw [Rat.add_zero]
theorem sum_flatMap {α β : Type} {g : α → List β} {F : β → Rat} : ∀ zs : List α, ((zs.flatMap g).map F).sum = (zs.map fun z => ((g z).map F).sum).sum
  | [] => rfl
  | z :: zs => by
    rw [List.flatMap_cons, List.map_append, List.sum_append, sum_flatMap zs]
    rfl
theorem sum_mulR {α : Type} {F : α → Rat} {x : Rat} : ∀ zs : List α, (zs.map fun z => F z * x).sum = (zs.map F).sum * x
  | [] => by simp
  | z :: zs => by
    simp only [List.map_cons, List.sum_cons]
    rw [sum_mulR zs, Rat.add_mul]
theorem sum_castI {α : Type} {F : α → Int} : ∀ zs : List α, (((zs.map F).sum : Int) : Rat) = (zs.map fun z => ((F z : Int) : Rat)).sum
  | [] => rfl
  | z :: zs => by
    simp only [List.map_cons, List.sum_cons]
    rw [← sum_castI zs]
    push_cast
    rfl
theorem sum_btI {α : Type} {F : α → Int} {n : Nat} {zs : List α} (hl : zs.length ≤ 1000) (h : ∀ z ∈ zs, DL.Bt n (F z)) : DL.Bt (n + 10) (zs.map F).sum := by
  have : ∀ zs : List α, (∀ z ∈ zs, (F z).natAbs < 2 ^ n) → ((zs.map F).sum).natAbs ≤ zs.length * 2 ^ n := fun zs => by
    induction zs with
    | nil => intro _; simp
    | cons a zs ih =>
      intro h
      have h1 := h a List.mem_cons_self
      have h2 := ih fun x hx => h x (List.mem_cons_of_mem _ hx)
      simp only [List.map_cons, List.sum_cons, List.length_cons, Nat.succ_mul]
      omega
  have h1 := this zs h
  have h2 : zs.length * 2 ^ n ≤ 1000 * 2 ^ n := Nat.mul_le_mul_right _ hl
  have h3 : 0 < 2 ^ n := Nat.pow_pos (by omega)
  unfold DL.Bt
  rw [Nat.pow_add]
  omega
theorem mxi_bt {n k : Nat} {f : Nat → Int} (h : ∀ i, i < k + 1 → DL.Bt n (f i)) : DL.Bt n (mxi f k) := by
  obtain ⟨i, hi, e⟩ := mxi_at (z := f) k
  rw [e]
  exact h i (by omega)
/-- the program's lots behind j + 1 signs, all over D -/
structure Lots (m n : Nat) (c t : Nat → Nat → Rat) (ws : Nat → Rat) (j D : Nat) (zs : List (Nat → Int)) : Prop where
  len : zs.length ≤ 4 ^ (j + 1)
  bt : ∀ z ∈ zs, ∀ w, w < m → DL.Bt (200 * (j + 1)) (z w)
  ex : ∀ f, Cg m f → (zs.map fun z => f fun w => ((z w : Int) : Rat) / (D : Rat)).sum = Ex m n c t ws j f
theorem cast_ne {b : Nat} (h : 0 < b) : ((b : Nat) : Rat) ≠ 0 := by
  have : b ≠ 0 := by omega
  exact_mod_cast this
theorem Lots.first {m n lw lt : Nat} {c t : Nat → Nat → Rat} {ws : Nat → Rat} (hn : n ≤ 4) (hlw : 0 < lw) (hlt : 0 < lt) (dw : ∀ w, w < m → (ws w).den ∣ lw) (dt : ∀ w s, w < m → s < n → (t w s).den ∣ lt)
    (bw : ∀ w, w < m → DL.Bt 30 (wh (lw : Nat) (ws w))) (bt : ∀ w s, w < m → s < n → DL.Bt 60 (wh (lt : Nat) (t w s))) : Lots m n c t ws 0 (lw * lt) ((([fun w => wh (lw : Nat) (ws w)] : List (Nat → Int))).flatMap fun z => (List.range n).map fun s => hrI (fun w s => wh (lt : Nat) (t w s)) s z) := by
  refine ⟨by simp; omega, fun z hz w hw => ?_, fun f hf => ?_⟩
  · simp only [List.flatMap_cons, List.flatMap_nil, List.append_nil, List.mem_map, List.mem_range] at hz
    obtain ⟨s, hs, rfl⟩ := hz
    exact ((bw w hw).mul (bt w s hw hs)).mono (by omega)
  · rw [sum_flatMap]
    simp only [List.map_cons, List.map_nil, List.sum_cons, List.sum_nil, Rat.add_zero, List.map_map]
    rw [rs_range]
    refine rs_congr fun s hs => hf _ _ fun w hw => ?_
    show ((wh lw (ws w) * wh lt (t w s) : Int) : Rat) / ((lw * lt : Nat) : Rat) = ws w * t w s
    have e1 := wh_cast (dw w hw)
    have e2 := wh_cast (dt w s hw hs)
    have h1 := cast_ne hlw
    have h2 := cast_ne hlt
    push_cast
    rw [e1, e2]
    grind
theorem Lots.next {m n D lc lt j : Nat} {c t : Nat → Nat → Rat} {ws : Nat → Rat} {zs : List (Nat → Int)} (h : Lots m n c t ws j D zs) (hm : m ≤ 4) (hn : n ≤ 4) (hD : 0 < D) (hlc : 0 < lc) (hlt : 0 < lt) (dc : ∀ w s, w < m → s < m → (c w s).den ∣ lc) (dt : ∀ w s, w < m → s < n → (t w s).den ∣ lt)
    (bc : ∀ w s, w < m → s < m → DL.Bt 30 (wh (lc : Nat) (c w s))) (bt : ∀ w s, w < m → s < n → DL.Bt 60 (wh (lt : Nat) (t w s))) :
    Lots m n c t ws (j + 1) (D * (lc * lt)) ((zs.map (chI m fun w s => wh (lc : Nat) (c w s))).flatMap fun z => (List.range n).map fun s => hrI (fun w s => wh (lt : Nat) (t w s)) s z) := by
  refine ⟨?_, fun z hz w hw => ?_, fun f hf => ?_⟩
  · rw [Nat.pow_succ]
    refine Nat.le_trans (len_flatMap_le (c := 4) fun z _ => by simp; omega) (Nat.mul_le_mul_right _ ?_)
    rw [List.length_map]
    exact h.len
  · simp only [List.mem_flatMap, List.mem_map, List.mem_range] at hz
    obtain ⟨_, ⟨z, hz, rfl⟩, s, hs, rfl⟩ := hz
    have h1 : DL.Bt (200 * (j + 1) + 30 + 2) (chI m (fun w s => wh (lc : Nat) (c w s)) z w) := is_bt hm fun w' hw' => (h.bt z hz w' hw').mul (bc w' w hw' hw)
    exact (h1.mul (bt w s hw hs)).mono (by omega)
  · rw [sum_flatMap, List.map_map]
    show _ = Ex m n c t ws j fun v => rs (fun s => f (hrd t s (mvd m c v))) n
    rw [← h.ex _ hf.hat]
    congr 1
    refine List.map_congr_left fun z hz => ?_
    show (((List.range n).map fun s => hrI (fun w s => wh (lt : Nat) (t w s)) s (chI m (fun w s => wh (lc : Nat) (c w s)) z)).map _).sum = _
    rw [List.map_map, rs_range]
    refine rs_congr fun s hs => hf _ _ fun w hw => ?_
    show ((is (fun w' => z w' * wh lc (c w' w)) m * wh lt (t w s) : Int) : Rat) / ((D * (lc * lt) : Nat) : Rat) = rs (fun w' => ((z w' : Int) : Rat) / (D : Rat) * c w' w) m * t w s
    have e2 := wh_cast (dt w s hw hs)
    have h1 := cast_ne hlc
    have h2 := cast_ne hlt
    have h3 := cast_ne hD
    have e1 : ((is (fun w' => z w' * wh lc (c w' w)) m : Int) : Rat) = rs (fun w' => ((z w' : Int) : Rat) / (D : Rat) * c w' w) m * ((D : Rat) * (lc : Rat)) := by
      rw [is_cast, ← rs_mul']
      refine rs_congr fun w' hw' => ?_
      have e := wh_cast (dc w' w hw' hw)
      push_cast
      rw [e]
      grind
    push_cast
    rw [e1, e2]
    grind
theorem Lots.best {m n D lg j k : Nat} {c t g : Nat → Nat → Rat} {ws : Nat → Rat} {zs : List (Nat → Int)} (h : Lots m n c t ws j D zs) (hD : 0 < D) (hlg : 0 < lg) (dg : ∀ w a, w < m → a < k + 1 → (g w a).den ∣ lg) :
    (((zs.map (bsI m k fun w a => wh (lg : Nat) (g w a))).sum : Int) : Rat) = Ex m n c t ws j (bst m k g) * ((D * lg : Nat) : Rat) := by
  rw [sum_castI, ← h.ex _ Cg.bst, ← sum_mulR]
  congr 1
  refine List.map_congr_left fun z hz => ?_
  have h3 := cast_ne hD
  refine mxi_scale (by exact_mod_cast Nat.zero_le _) fun a ha => ?_
  rw [is_cast, ← rs_mul']
  refine rs_congr fun w hw => ?_
  have e := wh_cast (dg w a hw (by omega))
  push_cast
  rw [e]
  grind
theorem E_check {m n : Nat} {t : Nat → Nat → Rat} (hm1 : 1 ≤ m) (hm : m ≤ 4) (hn : n ≤ 4) (S : Sto) : F__check_sizes [dM m n t] S = some (.non, S) := by
  apply wF_of
  unfold F__check_sizes t__check_sizes
  refine wF_fn rfl ?_
  walk_at "w"
  rw [decide_eq_false (by omega)]
  walk_at "w"
  rw [decide_eq_false (by omega)]
  walk_at "w"
  exact wFin_P0 rfl rfl ⟨rfl, rfl⟩
theorem E_step_worth {m n k K Bw Bc Bt' Bg : Nat} {ws : Nat → Rat} {c t g : Nat → Nat → Rat} (hm1 : 1 ≤ m) (hm : m ≤ 4) (hn1 : 1 ≤ n) (hn : n ≤ 4) (hk : k ≤ 3) (hK1 : 1 ≤ K) (hK : K ≤ 4) (hBw : 0 < Bw) (hBc : 0 < Bc) (hBt : 0 < Bt') (hBg : 0 < Bg)
    (hw : ∀ w, w < m → PL.In Bw 1 (ws w)) (hc : ∀ i j, i < m → j < m → PL.In Bc 1 (c i j)) (ht : ∀ i j, i < m → j < n → PL.In Bt' 1 (t i j)) (hg : ∀ i j, i < m → j < k + 1 → PL.In Bg 4 (g i j))
    (b1 : (1 + 1) * Bw < 2 ^ 30) (b2 : (1 + 1) * Bc < 2 ^ 30) (b3 : (1 + 1) * Bt' < 2 ^ 60) (b4 : (4 + 1) * Bg < 2 ^ 10) (S : Sto) :
    F_step_worth [dT m ws, dM m m c, dM m n t, dM m (k + 1) g, .int (K : Int)] S = some (dQ (swv m n k c t g ws K), S) := by
  have up : ∀ {a n : Nat}, a < 2 ^ n → n ≤ 8999 → a < 2 ^ 8999 := fun h hn => Nat.lt_of_lt_of_le h (Nat.pow_le_pow_right (by omega) hn)
  have l1 : lc ws m ≤ Bw := Nat.le_of_dvd hBw (lc_dvd fun i hi => (hw i hi).den)
  have l2 : lcM m m c ≤ Bc := Nat.le_of_dvd hBc (lcM_dvd fun i j hi hj => (hc i j hi hj).den)
  have l3 : lcM m n t ≤ Bt' := Nat.le_of_dvd hBt (lcM_dvd fun i j hi hj => (ht i j hi hj).den)
  have l4 : lcM m (k + 1) g ≤ Bg := Nat.le_of_dvd hBg (lcM_dvd fun i j hi hj => (hg i j hi hj).den)
  have p1 := lc_pos (f := ws) m
  have p2 := lcM_pos (m := m) (n := m) (t := c)
  have p3 := lcM_pos (m := m) (n := n) (t := t)
  have p4 := lcM_pos (m := m) (n := k + 1) (t := g)
  have w1 : ∀ w, w < m → DL.Bt 30 (wh (lc ws m : Nat) (ws w)) := fun w h => (hw w h).wh (dvd_lc h) p1 l1 b1
  have w2 : ∀ i j, i < m → j < m → DL.Bt 30 (wh (lcM m m c : Nat) (c i j)) := fun i j hi hj => (hc i j hi hj).wh (dvd_lcM hi hj) p2 l2 b2
  have w3 : ∀ i j, i < m → j < n → DL.Bt 60 (wh (lcM m n t : Nat) (t i j)) := fun i j hi hj => (ht i j hi hj).wh (dvd_lcM hi hj) p3 l3 b3
  have w4 : ∀ i j, i < m → j < k + 1 → DL.Bt 10 (wh (lcM m (k + 1) g : Nat) (g i j)) := fun i j hi hj => (hg i j hi hj).wh (dvd_lcM hi hj) p4 l4 b4
  have d1 : ∀ w, w < m → (ws w).den ∣ lc ws m := fun w h => dvd_lc h
  have d2 : ∀ i j, i < m → j < m → (c i j).den ∣ lcM m m c := fun i j hi hj => dvd_lcM hi hj
  have d3 : ∀ i j, i < m → j < n → (t i j).den ∣ lcM m n t := fun i j hi hj => dvd_lcM hi hj
  have d4 : ∀ i j, i < m → j < k + 1 → (g i j).den ∣ lcM m (k + 1) g := fun i j hi hj => dvd_lcM hi hj
  have x1 := In.lt b1
  have x2 := In.lt b2
  have x3 := In.lt b3
  have x4 := In.lt b4
  have eBot := fun S => F_bot (S := S) (d := dT m ws) (.inl rfl) hBw (fun i hi => (hw i hi).den) (up x1 (by omega))
  have eWh := fun S => F_wh (S := S) (d := dT m ws) (b := lc ws m) (n := 8999) (.inl rfl) p1 (up (Nat.lt_of_le_of_lt l1 x1) (by omega)) (fun i hi => (hw i hi).sm hBw (up b1 (by omega))) (by omega) (by omega)
  have eR1 := fun S => F_ro (S := S) hBc hc (up b2 (by omega)) (by omega : m ≤ 1000) (by omega : m ≤ 1000)
  have eR2 := fun S => F_ro (S := S) hBt ht (up b3 (by omega)) (by omega : m ≤ 1000) (by omega : n ≤ 1000)
  have eR3 := fun S => F_ro (S := S) hBg hg (up b4 (by omega)) (by omega : m ≤ 1000) (by omega : k + 1 ≤ 1000)
  generalize hlw : lc ws m = lw at *
  generalize hlc : lcM m m c = lcc at *
  generalize hlt : lcM m n t = lt at *
  generalize hlg : lcM m (k + 1) g = lg at *
  apply wF_of
  unfold F_step_worth t_step_worth
  refine wF_fn rfl ?_
  walk_at "u"
  refine wF_eq (E_check hm1 hm hn _) ?_
  walk_at "u"
  refine wF_eq (eBot _) ?_
  walk_at "u"
  refine wF_eq (eR1 _) ?_
  walk_at "u"
  refine wF_eq (eR2 _) ?_
  walk_at "u"
  refine wF_eq (eR3 _) ?_
  walk_at "u"
  have bn : ∀ {a n : Nat}, a < 2 ^ n → DL.Bt n (a : Int) := fun h => Bt.of_nat h
  refine wF_eq (eBot _) ?_
  walk_at "u"
  refine wF_eq (eWh _) ?_
  walk_at "u"
  refine wF_eq (E_all_heard (f := fun z => iT m z) (zs := [fun w => wh (lw : Nat) (ws w)]) (a := 30) (b := 60) (fun z S => rfl) hm1 hm hn (by simp) (fun z hz w hw => by rw [List.mem_singleton.mp hz]; exact w1 w hw) w3 (by omega) _) ?_
  have L0 := Lots.first (c := c) hn p1 p3 d1 d3 w1 w3
  have hb0 : (lw : Int) * ((lt : Int) * (lg : Int)) = ((lw * lt * lg : Nat) : Int) := by push_cast; rw [Int.mul_assoc]
  have hb1 : lw * lt * lg < 2 ^ (200 * (0 + 1)) := by
    have a1 : lw * lt < 2 ^ 30 * 2 ^ 60 := Nat.mul_lt_mul'' (by omega) (by omega)
    have a2 : lw * lt * lg < (2 ^ 30 * 2 ^ 60) * 2 ^ 10 := Nat.mul_lt_mul'' a1 (by omega)
    exact Nat.lt_of_lt_of_le a2 (by decide)
  rw [hb0]
  have hD0 : 0 < lw * lt := Nat.mul_pos p1 p3
  generalize (([fun w => wh (lw : Nat) (ws w)] : List (Nat → Int)).flatMap fun z => (List.range n).map fun s => hrI (fun w s => wh (lt : Nat) (t w s)) s z) = zs0 at L0 ⊢
  generalize lw * lt = D0 at L0 hb1 hD0 ⊢
  have bsB : ∀ {j D : Nat} {zs : List (Nat → Int)}, Lots m n c t ws j D zs → ∀ z ∈ zs, DL.Bt (200 * (j + 1) + 12) (bsI m k (fun w a => wh (lg : Nat) (g w a)) z) := fun {j D zs} L z hz =>
    mxi_bt fun a ha => is_bt hm fun w hw => (L.bt z hz w hw).mul (w4 w a hw ha)
  have lenB : ∀ {j D : Nat} {zs : List (Nat → Int)}, j ≤ 3 → Lots m n c t ws j D zs → zs.length ≤ 256 := fun {j D zs} hj L => Nat.le_trans L.len (Nat.le_trans (Nat.pow_le_pow_right (by omega) (by omega : j + 1 ≤ 4)) (by decide))
  have sumB : ∀ {j D : Nat} {zs : List (Nat → Int)}, j ≤ 3 → Lots m n c t ws j D zs → DL.Bt (200 * (j + 1) + 22) (zs.map (bsI m k fun w a => wh (lg : Nat) (g w a))).sum := fun {j D zs} hj L =>
    sum_btI (by have := lenB hj L; omega) (bsB L)
  have bestE : ∀ {j D : Nat} {zs : List (Nat → Int)} (hj : j ≤ 3) (L : Lots m n c t ws j D zs) (z) (hz : z ∈ zs) (S : Sto), F__best [iL m z, dI m (k + 1) fun i j => wh (lg : Nat) (g i j)] S = some (.int (bsI m k (fun w a => wh (lg : Nat) (g w a)) z), S) := fun {j D zs} hj L z hz S => E_best hm1 hm (by omega) (L.bt z hz) w4 (by omega) S
  walk_at "u"
  refine wE_lc (α := Nat → Int) ?_
  refine wI_seq ?_
  walk_at "u"
  refine ⟨_, _, rfl, zs0, fun z => iL m z, fun z => .int (bsI m k (fun w a => wh (lg : Nat) (g w a)) z), rfl, trivial, fun z hz => ?_, ?_⟩
  · walk_at "u"
    exact wF_eq (bestE (by omega) L0 z hz _) ⟨rfl, rfl⟩
  refine wF_lst (by have := lenB (by omega) L0; rw [List.length_map]; omega) ?_
  walk_at "u"
  refine wF_sum (ns := zs0.map (bsI m k fun w a => wh (lg : Nat) (g w a))) (by rw [List.map_map]; rfl) ?_
  walk_at "u"
  refine wS_seq ?_
  refine wS_forR (fun i ρ S' => S' = S ∧ ∃ (zs : List (Nat → Int)) (gI : Int) (Dn : Nat) (x14 x15 : Option D), i ≤ 3 ∧ 0 < Dn ∧ Dn * lg < 2 ^ (200 * (i + 1)) ∧ Lots m n c t ws i Dn zs ∧ (gI : Rat) = swv m n k c t g ws (i + 1) * ((Dn * lg : Nat) : Rat) ∧ DL.Bt (300 * (i + 1)) gI ∧
    ρ = [some (dT m ws), some (dM m m c), some (dM m n t), some (dM m (k + 1) g), some (.int (K : Int)), some (.int ((Dn * lg : Nat) : Int)), some (.int (lcc : Int)), some (tF m fun i => iT m fun j => wh (lcc : Nat) (c i j)), some (.int (lt : Int)), some (tF m fun i => iT n fun j => wh (lt : Nat) (t i j)), some (.int (lg : Int)), some (tF m fun i => iT (k + 1) fun j => wh (lg : Nat) (g i j)), some (.lst (zs.map fun z => iL m z)), some (.int gI), x14, x15]) ?_
  walk_at "u"
  refine ⟨K - 1, by congr 1; omega, by omega, K - 1, _, rfl, ⟨rfl, zs0, _, D0, none, none, by omega, hD0, hb1, L0, ?_, ?_, rfl⟩, fun i ρ S' hi ⟨e1, zs, gI, Dn, x14, x15, hi3, hDn, hDb, L, hg', hgb, e2⟩ => ?_, fun ρ S' ⟨e1, zs, gI, Dn, x14, x15, hi3, hDn, hDb, L, hg', hgb, e2⟩ => ?_⟩
  · rw [L0.best (k := k) hD0 p4 d4]
    show _ = (0 + Ex m n c t ws 0 (bst m k g)) * _
    rw [Rat.zero_add]
  · exact (sumB (by omega) L0).mono (by omega)
  · subst e1 e2
    have L2 := L.next hm hn hDn p2 p3 d2 d3 w2 w3
    have hi4 : i + 1 ≤ 3 := by omega
    walk_at "u"
    refine wE_lc (α := Nat → Int) ?_
    refine wI_seq ?_
    walk_at "u"
    refine ⟨_, _, rfl, zs, fun z => iL m z, fun z => iL m (chI m (fun w s => wh (lcc : Nat) (c w s)) z), rfl, trivial, fun z hz => ?_, ?_⟩
    · walk_at "u"
      exact wF_eq (E_changed hm (L.bt z hz) w2 (by omega) _) ⟨rfl, rfl⟩
    refine wF_lst (by have := lenB hi3 L; rw [List.length_map]; omega) ?_
    walk_at "u"
    have e3 : zs.map (fun z => iL m (chI m (fun w s => wh (lcc : Nat) (c w s)) z)) = (zs.map (chI m fun w s => wh (lcc : Nat) (c w s))).map fun z => iL m z := by rw [List.map_map]; rfl
    rw [e3]
    refine wF_eq (E_all_heard (f := fun z => iL m z) (a := 200 * (i + 1) + 30 + 2) (b := 60) (fun z S => rfl) hm1 hm hn (by rw [List.length_map]; have := lenB hi3 L; omega) (fun z hz w hw => ?_) w3 (by omega) _) ?_
    · obtain ⟨z0, hz0, rfl⟩ := List.mem_map.mp hz
      exact is_bt hm fun w' hw' => (L.bt z0 hz0 w' hw').mul (w2 w' w hw' hw)
    generalize ((zs.map (chI m fun w s => wh (lcc : Nat) (c w s))).flatMap fun z => (List.range n).map fun s => hrI (fun w s => wh (lt : Nat) (t w s)) s z) = zs2 at L2 ⊢
    walk_at "u"
    refine wE_lc (α := Nat → Int) ?_
    refine wI_seq ?_
    walk_at "u"
    refine ⟨_, _, rfl, zs2, fun z => iL m z, fun z => .int (bsI m k (fun w a => wh (lg : Nat) (g w a)) z), rfl, trivial, fun z hz => ?_, ?_⟩
    · walk_at "u"
      exact wF_eq (bestE hi4 L2 z hz _) ⟨rfl, rfl⟩
    refine wF_lst (by have := lenB hi4 L2; rw [List.length_map]; omega) ?_
    walk_at "u"
    refine wF_sum (ns := zs2.map (bsI m k fun w a => wh (lg : Nat) (g w a))) (by rw [List.map_map]; rfl) ?_
    walk_at "u"
    refine w2_mul (mul_ok (n := 200 * (i + 1)) (m := 90) (bn hDb) ((bn (n := 30) (by omega)).mul (bn (n := 60) (by omega))) (by omega)) ?_
    walk_at "u"
    have hDD : 0 < Dn * (lcc * lt) := Nat.mul_pos hDn (Nat.mul_pos p2 p3)
    refine ⟨zs2, gI * lcc * lt + (zs2.map (bsI m k fun w a => wh (lg : Nat) (g w a))).sum, Dn * (lcc * lt), x14, some (.int (i : Nat)), hi4, hDD, ?_, L2, ?_, ?_, ?_⟩
    · have a1 : lcc * lt < 2 ^ 30 * 2 ^ 60 := Nat.mul_lt_mul'' (by omega) (by omega)
      have a2 : Dn * lg * (lcc * lt) < 2 ^ (200 * (i + 1)) * (2 ^ 30 * 2 ^ 60) := Nat.mul_lt_mul'' hDb a1
      have e : Dn * (lcc * lt) * lg = Dn * lg * (lcc * lt) := Nat.mul_right_comm _ _ _
      rw [e, show 200 * (i + 1 + 1) = 200 * (i + 1) + 200 from by omega, Nat.pow_add]
      exact Nat.lt_of_lt_of_le a2 (Nat.mul_le_mul_left _ (by decide))
    · have hb := L2.best (k := k) hDD p4 d4
      show _ = (swv m n k c t g ws (i + 1) + Ex m n c t ws (i + 1) (bst m k g)) * _
      rw [Rat.add_mul, ← hb]
      push_cast
      push_cast at hg'
      rw [hg']
      congr 1
      grind
    · exact (((hgb.mul (bn (n := 30) (a := lcc) (by omega))).mul (bn (n := 60) (a := lt) (by omega))).add (sumB hi4 L2)).mono (by omega)
    · have e6 : ((Dn * lg : Nat) : Int) * ((lcc : Int) * (lt : Int)) = ((Dn * (lcc * lt) * lg : Nat) : Int) := by push_cast; grind
      rw [← e6]
      rfl
  · subst e1 e2
    obtain ⟨i, rfl⟩ : ∃ i, K = i + 1 := ⟨K - 1, by omega⟩
    walk_at "u"
    have hpos : 0 < Dn * lg := Nat.mul_pos hDn p4
    refine wF_eq (F_low (n := 8999) (by omega) (Bt.of_nat (up hDb (by omega))) (by omega) _) ?_
    refine wFin_P0 rfl rfl ⟨?_, rfl⟩
    congr 1
    rw [Nat.add_sub_cancel] at hg'
    rw [hg']
    have h3 := cast_ne hpos
    have e5 : (((Dn * lg : Nat) : Int) : Rat) = ((Dn * lg : Nat) : Rat) := rfl
    rw [e5]
    grind
end LW

set_option maxRecDepth 100000
set_option maxHeartbeats 4000000
namespace LW
open PySem DL PL
open Classical
local macro_rules | `(tactic| walk_at "env") => `(tactic| (simp only [startD, List.map_cons, List.map_nil, List.length_cons, List.length_nil, Nat.reduceAdd, Nat.reduceSub, List.replicate, List.cons_append, List.nil_append, wipeD, List.set]; try rfl))
local macro_rules | `(tactic| walk_at "sto") => `(tactic| (simp only [List.cons_append, List.nil_append, List.set, List.set_cons_zero, List.set_cons_succ, Int.toNat_natCast, Int.reduceToNat]; try rfl))
local macro_rules | `(tactic| walk_at "if") => `(tactic| (refine ⟨fun hc => ?_, fun hc => ?_⟩ <;> simp only [decide_eq_true_eq, decide_eq_false_iff_not, Bool.not_eq_true', Bool.not_eq_false', bne_iff_ne, ne_eq, beq_iff_eq] at hc <;> try (exfalso; first | assumption | omega | (simp at hc; done))))
local macro_rules | `(tactic| walk_at "side") => `(tactic| first | assumption | omega | decide | (simp; done) | (simp; omega))
local macro_rules | `(tactic| walk_at "mul") => `(tactic| first | assumption | exact mul_sm (by first | decide | omega) | exact mul_sm' (by first | decide | omega))
local macro_rules | `(tactic| walk_at "div") => `(tactic| first | assumption | exact div_sm (by omega) (by omega))
local macro_rules | `(tactic| walk_at "w1") => `(tactic| first
  | (guard_target = wS _ (List.set _ _ _) _ _ _; refine wS_env (by walk_at "env") ?_)
  | (guard_target = wE _ (List.set _ _ _) _ _; refine wE_env (by walk_at "env") ?_)
  | (guard_target = wG _ _ (wipeD _ _) _ _; refine wG_env (by walk_at "env") ?_)
  | (guard_target = wS _ (startD _ _) _ _ _; refine wS_env (by walk_at "env") ?_)
  | (guard_target = wS (sSeq (sSet _ _) _) _ _ _ _; refine wS_seq ?_)
  | (guard_target = wS (sSeq (sAsg _ _) _) _ _ _ _; refine wS_seq ?_)
  | (guard_target = wS (sSeq (sExpr _) _) _ _ _ _; refine wS_seq ?_)
  | (guard_target = wS (sSeq (sPar _ _ _) _) _ _ _ _; refine wS_seq ?_)
  | (guard_target = wS (sSeq (sPar3 _ _ _ _) _) _ _ _ _; refine wS_seq ?_)
  | (guard_target = wS (sSeq (sAug _ _ _) _) _ _ _ _; refine wS_seq ?_)
  | (guard_target = wS (sSeq (sSeq _ _) _) _ _ _ _; refine wS_seq ?_)
  | (guard_target = wS _ _ (List.set _ _ _) _ _; refine wS_sto (by walk_at "sto") ?_)
  | (guard_target = wE _ _ (List.set _ _ _) _; refine wE_sto (by walk_at "sto") ?_)
  | (guard_target = wG (gIx _ _) _ _ _ _; refine wG_ix2 ?_)
  | (guard_target = ∃ (_ : Nat) (_ : Int) (_ : Nat) (_ : List D), _; refine ⟨_, _, _, _, rfl, rfl, rfl, rfl, ?_⟩)
  | (guard_target = wS (sSet _ _) _ _ _ _; refine wS_set ?_)
  | (guard_target = wS (sRet _) _ _ _ _; refine wS_ret ?_)
  | (guard_target = wS (sExpr _) _ _ _ _; refine wS_expr ?_)
  | (guard_target = wS sPass _ _ _ _; refine wS_pass ?_)
  | (guard_target = wS sBreak _ _ _ _; refine wS_break ?_)
  | (guard_target = wS sCont _ _ _ _; refine wS_cont ?_)
  | (guard_target = wS (sIf _ _ _) _ _ _ _; refine wS_if ?_)
  | (guard_target = wS (sAsg _ _) _ _ _ _; refine wS_asg ?_)
  | (guard_target = wS (sPar _ _ _) _ _ _ _; refine wS_par ?_)
  | (guard_target = wS (sPar3 _ _ _ _) _ _ _ _; refine wS_par3 ?_)
  | (guard_target = wS (sAug _ _ _) _ _ _ _; refine wS_aug rfl ?_)
  | (guard_target = wE (eV _) _ _ _; refine wE_v rfl ?_)
  | (guard_target = wE (eC _) _ _ _; refine wE_c ?_)
  | (guard_target = wE (e1 _ _) _ _ _; refine wE_1 ?_)
  | (guard_target = wE (e2 _ _ _) _ _ _; refine wE_2 ?_)
  | (guard_target = wE (e2s _ _ _) _ _ _; refine wE_2s ?_)
  | (guard_target = wE (eA _ _) _ _ _; refine wE_A ?_)
  | (guard_target = wA (aCons _ _) _ _ _; refine wA_cons ?_)
  | (guard_target = wA aNil _ _ _; refine wA_nil ?_)
  | (guard_target = wE (eM _ _ _) _ _ _; refine wE_M ?_)
  | (guard_target = wE (eAnd _ _) _ _ _; refine wE_and ?_)
  | (guard_target = wE (eOr _ _) _ _ _; refine wE_or ?_)
  | (guard_target = wE (eIf _ _ _) _ _ _; refine wE_if ?_)
  | (guard_target = wE (eChain _ _ _ _ _) _ _ _; refine wE_chain ?_)
  | (guard_target = wE (eLc _ _ _ tYesD _ _) _ _ _; refine wE_lcR ?_)
  | (guard_target = wE (eLc2 _ _ _ tYesD _ _ tYesD _ _ _) _ _ _; refine wE_lc2R ?_)
  | (guard_target = wE (eBl _) _ _ _; refine wE_bl ?_)
  | (guard_target = wE (eSl _ _ _ _) _ _ _; refine wE_sl ?_)
  | (guard_target = wE (eSlS _ _ _ _) _ _ _; refine wE_slS ?_)
  | (guard_target = wO oNo _ _ _; refine wO_no ?_)
  | (guard_target = wO (oSome _) _ _ _; refine wO_some ?_)
  | (guard_target = ∃ _ : Int, _; refine ⟨_, rfl, ?_⟩)
  | (guard_target = wSl _ (.tup _) _ _ _ _; refine wSl_tup ?_)
  | (guard_target = wSl _ (.lst _) _ _ _ _; refine wSl_lst ?_)
  | (guard_target = wSl _ (.scr _) _ _ _ _; refine wSl_scr ?_)
  | (guard_target = wT (tBl _) _ _ _; refine wT_bl ?_)
  | (guard_target = wT (tTru _) _ _ _; refine wT_tru ?_)
  | (guard_target = wT (tNotD _) _ _ _; refine wT_not ?_)
  | (guard_target = wT (tAndD _ _) _ _ _; refine wT_and ?_)
  | (guard_target = wT (tOrD _ _) _ _ _; refine wT_or ?_)
  | (guard_target = wT (tIfD _ _ _) _ _ _; refine wT_if ?_)
  | (guard_target = wT tYesD _ _ _; refine wT_yes ?_)
  | (guard_target = wT (tGenQ _ _ _ tYesD _ _) _ _ _; refine wT_genR ?_)
  | (guard_target = wT (tGenQ2 _ _ _ tYesD _ _ tYesD _ _ _) _ _ _; refine wT_gen2R ?_)
  | (guard_target = wI (iSeq _) _ _ _; refine wI_seqR ?_)
  | (guard_target = wI (iRange1 _) _ _ _; refine wI_rangeR ?_)
  | (guard_target = wI (iRange2 _ _) _ _ _; refine wI_range2R ?_)
  | (guard_target = wI (iZip (aCons _ (aCons _ aNil))) _ _ _; refine wI_zipR ?_)
  | (guard_target = wI (iEnum (aCons _ aNil)) _ _ _; refine wI_enumR ?_)
  | (guard_target = wG (gNm _) _ _ _ _; refine wG_nm ?_)
  | (guard_target = wG (gTp _ _) _ _ _ _; refine wG_tp rfl ?_)
  | (guard_target = wGs (gsCons _ _) _ _ _ _; refine wGs_cons ?_)
  | (guard_target = wGs gsNil _ _ _ _; refine wGs_nil ?_)
  | (guard_target = w2 fAdd _ _ _ _; refine w2_add ?_)
  | (guard_target = w2 fSub _ _ _ _; refine w2_sub ?_)
  | (guard_target = w2 fMul _ _ _ _; refine w2_mul (by walk_at "mul") ?_)
  | (guard_target = w2 fDiv _ _ _ _; refine w2_div (by walk_at "div") ?_)
  | (guard_target = w2 fMod _ _ _ _; refine w2_mod (by walk_at "side") ?_)
  | (guard_target = w2 (fCmp _) _ _ _ _; refine w2_cmp ?_)
  | (guard_target = w2 fEq (.int _) (.int _) _ _; refine w2_eqI ?_)
  | (guard_target = w2 fNe (.int _) (.int _) _ _; refine w2_neI ?_)
  | (guard_target = w2 fIx _ (.int _) _ _; refine w2_eq rfl ?_)
  | (guard_target = w2 fIx _ (.int 0) _ _; refine w2_ix0 rfl (by walk_at "side") ?_)
  | (guard_target = w2 fIx _ (.int (Nat.cast _)) _ _; refine w2_ixR rfl (by walk_at "side") ?_)
  | (guard_target = w2s (fPlus _) (.int _) (.int _) _ _; refine w2s_plusI ?_)
  | (guard_target = w2s (fTimes _) (.int _) (.int _) _ _; refine w2s_timesI (by walk_at "mul") ?_)
  | (guard_target = w2 fPow (.int _) (.int _) _ _; refine w2_pow (by decide) (by decide) (by decide) ?_)
  | (guard_target = w2 fIsB _ _ _ _; refine w2_eq rfl ?_)
  | (guard_target = w2 fNotB _ _ _ _; refine w2_eq rfl ?_)
  | (guard_target = w2 fIsN _ _ _ _; refine w2_eq rfl ?_)
  | (guard_target = w2 fNotN _ _ _ _; refine w2_eq rfl ?_)
  | (guard_target = w1 _ _ _ _; refine w1_eq rfl ?_)
  | (guard_target = wTru _ _ _; refine wTru_eq rfl ?_)
  | (guard_target = wF fTup _ _ _; refine wF_tup (by walk_at "side") ?_)
  | (guard_target = wF fLst _ _ _; refine wF_lst (by walk_at "side") ?_)
  | (guard_target = wF fObj _ _ _; refine wF_obj (by walk_at "side") ?_)
  | (guard_target = wF fLen [dQ _] _ _; refine wF_len2 ?_)
  | (guard_target = wF fLen _ _ _; refine wF_lenR rfl ?_)
  | (guard_target = wF fAbs _ _ _; refine wF_abs ?_)
  | (guard_target = wF fInt1 [.int _] _ _; refine wF_int ?_)
  | (guard_target = wF fInt1 [.bl _] _ _; refine wF_intB ?_)
  | (guard_target = wF fListF _ _ _; refine wF_listF rfl ?_)
  | (guard_target = wF fListO _ _ _; refine wF_listO rfl ?_)
  | (guard_target = wF fTupOf _ _ _; refine wF_tupOf rfl ?_)
  | (guard_target = wF fSum _ _ _; refine wF_sumR rfl ?_)
  | (guard_target = wF fMax2 _ _ _; refine wF_max2 ?_)
  | (guard_target = wF fMin2 _ _ _; refine wF_min2 ?_)
  | (guard_target = (false = true → _) ∧ _; refine ⟨fun h => (nomatch h), fun _ => ?_⟩)
  | (guard_target = (true = true → _) ∧ _; refine ⟨fun _ => ?_, fun h => (nomatch h)⟩)
  | (guard_target = ((!false) = true → _) ∧ _; refine ⟨fun _ => ?_, fun h => (nomatch h)⟩)
  | (guard_target = ((!true) = true → _) ∧ _; refine ⟨fun h => (nomatch h), fun _ => ?_⟩)
  | (guard_target = (isNon _ = true → _) ∧ _; first | refine ⟨fun h => absurd h Bool.false_ne_true, fun _ => ?_⟩ | refine ⟨fun _ => ?_, fun h => absurd h.symm Bool.false_ne_true⟩)
  | (guard_target = ((!isNon _) = true → _) ∧ _; first | refine ⟨fun h => absurd h Bool.false_ne_true, fun _ => ?_⟩ | refine ⟨fun _ => ?_, fun h => absurd h.symm Bool.false_ne_true⟩)
  | (guard_target = (_ = true → _) ∧ (_ = false → _); first | refine ⟨fun h => absurd h (by decide), fun _ => ?_⟩ | refine ⟨fun _ => ?_, fun h => absurd h (by decide)⟩)
  | (guard_target = (_ = _) ∧ _; refine ⟨rfl, ?_⟩)
  | (guard_target = _ ∧ (_ = _); refine ⟨?_, rfl⟩)
  | (guard_target = True ∧ _; refine ⟨trivial, ?_⟩)
  | (guard_target = ∃ _ : Bool, _; refine ⟨_, rfl, ?_⟩)
  | (guard_target = ∃ (_ _ : D), _; refine ⟨_, _, rfl, ?_⟩)
  | (guard_target = ∃ (_ _ _ : D), _; refine ⟨_, _, _, rfl, ?_⟩)
  | rfl)
local macro_rules | `(tactic| walk_at "w") => `(tactic| repeat' (walk_at "w1"))
local macro_rules | `(tactic| walk_at "v") => `(tactic| repeat' ((fail_if_success (guard_target = wE (eLc _ _ _ _ _ _) _ _ _)); walk_at "w1"))
local macro_rules | `(tactic| walk_at "g") => `(tactic| (repeat' (first
  | (guard_target = wG (gNm _) _ _ _ _; refine wG_nm ?_)
  | (guard_target = wG (gTp _ _) _ _ _ _; refine wG_tp rfl ?_)
  | (guard_target = wGs (gsCons _ _) _ _ _ _; refine wGs_cons ?_)
  | (guard_target = wGs gsNil _ _ _ _; refine wGs_nil ?_)
  | (guard_target = wS _ (List.set _ _ _) _ _ _; refine wS_env (by walk_at "env") ?_)
  | (guard_target = wE _ (List.set _ _ _) _ _; refine wE_env (by walk_at "env") ?_))))
local macro_rules | `(tactic| walk_at "u") => `(tactic| repeat' ((fail_if_success (guard_target = wE (eLc _ _ _ _ _ _) _ _ _)); (fail_if_success (guard_target = wE (eLc2 _ _ _ _ _ _ _ _ _ _) _ _ _)); (fail_if_success (guard_target = wT (tGenQ _ _ _ _ _ _) _ _ _)); (fail_if_success (guard_target = wT (tGenQ2 _ _ _ _ _ _ _ _ _ _) _ _ _)); walk_at "w1"))
theorem telling_w {T S : Sto} {m n : Nat} {Q : D → Sto → Prop} (h : St pz T S) (hT : Cl pz T) (hm1 : 1 ≤ m) (hm : m ≤ 4) (hn1 : 1 ≤ n) (hn : n ≤ 4) (q : ∀ (t : Nat → Nat → Rat) S', St pz T S' → (∀ i, i < m → Row B20 n (t i)) → Q (dM m n t) S') : wF F__law_telling [.obj 0, .int (m : Int), .int (n : Int)] S Q := by
  unfold F__law_telling t__law_telling
  refine wF_fn rfl ?_
  walk_at "u"
  refine wE_lcRI (β := Nat → Rat) (fun _ S' => St pz T S') (dT n) (fun _ r => Row B20 n r) ?_
  walk_at "w"
  refine ⟨m, rfl, by omega, m, _, rfl, h, fun i S2 hi hs2 => ?_, fun t S2 hs2 ht => ?_⟩
  · walk_at "w"
    refine row_w hs2 hT hn1 hn fun r S3 hs3 hr => ?_
    walk_at "w"
    exact ⟨r, rfl, hr, trivial, hs3⟩
  · refine wF_objS hs2 (by simp; omega) fun hs3 => ?_
    walk_at "u"
    have hT2 : ∀ t : Nat → Nat → Rat, Cl pz (T ++ [.lst (rg m fun i => dT n (t i))]) := fun t => hT.push (closL_rg fun i _ => clos_dT)
    refine wS_cut (fun ρ S4 => ∃ (t : Nat → Nat → Rat) (x : Option D), (∀ i, i < m → Row B20 n (t i)) ∧ St pz (T ++ [.lst (rg m fun i => dT n (t i))]) S4 ∧ ρ = [some (.obj 0), some (.int (m : Int)), some (.int (n : Int)), some (.obj (pz.n + T.length)), x]) ?_ ?_
    · walk_at "w"
      walk_at "if"
      · walk_at "w"
        refine draw_w hs3 (hT2 t) (by omega) (by omega) fun r S4 hs4 hr => ?_
        walk_at "w"
        walk_at "if"
        · walk_at "w"
          refine draw_w hs4 (hT2 t) (by omega) (by omega) fun a S5 hs5 ha => ?_
          have ha' : a < m := by omega
          refine w2_ix (xs := rg m fun i => dT n (t i)) (by simp only [seqD, hs5.last]) (atI_nat (rg_at ha')) ?_
          walk_at "w"
          refine draw_w hs5 (hT2 t) (by omega) (by omega) fun b S6 hs6 hb => ?_
          have hb' : b < m := by omega
          refine ⟨_, _, b, _, rfl, rfl, hs6.last, by rw [rg_len]; exact ix_nat hb', ?_⟩
          have hs7 := hs6.setLast (c' := .lst ((rg m fun i => dT n (t i)).set b (dT n (t a))))
          rw [rg_set hb'] at hs7 ⊢
          have e : (rg m fun k => if k = b then dT n (t a) else dT n (t k)) = rg m fun k => dT n ((fun k => if k = b then t a else t k) k) := rg_congr fun k _ => by by_cases hk : k = b <;> simp [hk]
          rw [e] at hs7 ⊢
          exact ⟨_, _, fun i hi => by by_cases hk : i = b <;> simp only [hk, if_true, if_false] <;> first | exact ht a ha' | exact ht i hi, hs7, rfl⟩
        · walk_at "w"
          exact ⟨t, _, ht, hs4, rfl⟩
      · walk_at "w"
        exact ⟨t, _, ht, hs3, rfl⟩
    · rintro ρ S4 ⟨t, x, ht, hs4, rfl⟩
      walk_at "w"
      refine wF_tupOf (xs := rg m fun i => dT n (t i)) (by simp only [seqD, hs4.last]) ?_
      exact wFin_M h hs4 hT clos_dM rfl fun S5 h5 => q t S5 h5 ht
theorem eye_sum {m w : Nat} (h : w < m) : rs (fun v => if w = v then (1 : Rat) else 0) m = 1 := by
  have : ∀ m, rs (fun v => if w = v then (1 : Rat) else 0) m = if w < m then 1 else 0 := fun m => by
    induction m with
    | zero => rfl
    | succ m ih =>
      show rs _ m + (if w = m then (1 : Rat) else 0) = _
      rw [ih]
      by_cases h1 : w < m
      · have h2 : ¬ w = m := by omega
        rw [if_pos h1, if_neg h2, if_pos (by omega : w < m + 1), Rat.add_zero]
      · by_cases h2 : w = m
        · rw [if_neg h1, if_pos h2, if_pos (by omega : w < m + 1), Rat.zero_add]
        · rw [if_neg h1, if_neg h2, if_neg (by omega : ¬ w < m + 1), Rat.add_zero]
  rw [this, if_pos h]
theorem eye_row {B m w : Nat} (h : w < m) : Row B m fun v => if w = v then (1 : Rat) else 0 := by
  refine ⟨fun i _ => In.ite (.one (Nat.le_refl 1)) .zero, fun i _ => ?_, eye_sum h⟩
  by_cases hk : w = i
  · rw [if_pos hk]; decide +kernel
  · rw [if_neg hk]; exact Rat.le_refl
theorem change_w {T S : Sto} {m : Nat} {Q : D → Sto → Prop} (h : St pz T S) (hT : Cl pz T) (hm1 : 1 ≤ m) (hm : m ≤ 4) (q : ∀ (c : Nat → Nat → Rat) S', St pz T S' → (∀ i, i < m → Row B20 m (c i)) → Q (dM m m c) S') : wF F__law_change [.obj 0, .int (m : Int)] S Q := by
  unfold F__law_change t__law_change
  refine wF_fn rfl ?_
  refine wS_seq ?_
  walk_at "u"
  refine draw_w h hT (by omega) (by omega) fun r S2 hs2 hr => ?_
  walk_at "u"
  walk_at "if"
  · walk_at "u"
    refine wE_lcR ?_
    walk_at "u"
    refine ⟨m, rfl, by omega, m, _, fun w => dT m fun v => if w = v then (1 : Rat) else 0, rfl, trivial, fun w hw => ?_, ?_⟩
    · walk_at "u"
      refine wE_lcR ?_
      walk_at "u"
      refine ⟨m, rfl, by omega, m, _, fun v => dQ (if w = v then (1 : Rat) else 0), rfl, trivial, fun v hv => ?_, ?_⟩
      · walk_at "u"
        walk_at "if"
        · rename_i hc
          have hc : w = v := by omega
          walk_at "u"
          show _ = dQ (if w = v then (1 : Rat) else 0)
          rw [if_pos hc]
          rfl
        · rename_i hc
          have hc : ¬ w = v := by omega
          walk_at "u"
          show _ = dQ (if w = v then (1 : Rat) else 0)
          rw [if_neg hc]
          rfl
      · walk_at "u"
    · walk_at "u"
      exact wFin_M (U := []) h (by rw [List.append_nil]; exact hs2) hT (clos_dM (t := fun w v => if w = v then (1 : Rat) else 0)) rfl fun S4 h4 => q (fun w v => if w = v then (1 : Rat) else 0) S4 h4 fun w hw => eye_row hw
  · walk_at "u"
    refine wE_lcRI (β := Nat → Rat) (fun _ S' => St pz T S') (dT m) (fun _ r => Row B20 m r) ?_
    walk_at "w"
    refine ⟨m, rfl, by omega, m, _, rfl, hs2, fun i S2 hi hs2 => ?_, fun t S2 hs2 ht => ?_⟩
    · walk_at "w"
      refine row_w hs2 hT hm1 hm fun r S3 hs3 hr => ?_
      walk_at "w"
      exact ⟨r, rfl, hr, trivial, hs3⟩
    · refine wF_lst (by simp; omega) ?_
      walk_at "w"
      exact wFin_M (U := []) h (by rw [List.append_nil]; exact hs2) hT clos_dM rfl fun S3 h3 => q t S3 h3 ht
theorem gains_w {T S : Sto} {m n : Nat} {Q : D → Sto → Prop} (h : St pz T S) (hT : Cl pz T) (hm : m ≤ 6) (hn : n ≤ 12) (q : ∀ (g : Nat → Nat → Rat) S', St pz T S' → (∀ i j, i < m → j < n → PL.In 6 4 (g i j)) → Q (dM m n g) S') : wF F__law_gains [.obj 0, .int (m : Int), .int (n : Int)] S Q := by
  unfold F__law_gains t__law_gains
  refine wF_fn rfl ?_
  walk_at "u"
  have hs1 := h.push (c := .lst [])
  rw [h.len]
  refine wS_seq ?_
  refine wS_forR (fun i ρ S' => ∃ (g : Nat → Nat → Rat) (x4 x5 : Option D), (∀ i' j, i' < i → j < n → PL.In 6 4 (g i' j)) ∧ St pz (T ++ [.lst (rg i fun w => dT n (g w))]) S' ∧ ρ = [some (.obj 0), some (.int (m : Int)), some (.int (n : Int)), some (.obj (pz.n + T.length)), x4, x5]) ?_
  walk_at "u"
  refine ⟨m, rfl, by omega, m, _, rfl, ⟨fun _ _ => 0, none, none, fun i' j h => by omega, hs1, rfl⟩, fun i ρ S' hi ⟨g, x4, x5, hg, hs, eq⟩ => ?_, fun ρ S' ⟨g, x4, x5, hg, hs, eq⟩ => ?_⟩
  · subst eq
    have hT2 : Cl pz (T ++ [.lst (rg i fun w => dT n (g w))]) := hT.push (closL_rg fun i _ => clos_dT)
    walk_at "u"
    refine ⟨_, _, rfl, hs.last, ?_⟩
    walk_at "u"
    refine wE_lcRI (β := Rat) (fun _ S' => St pz (T ++ [.lst (rg i fun w => dT n (g w))]) S') dQ (fun _ r => PL.In 6 4 r) ?_
    walk_at "u"
    refine ⟨n, rfl, by omega, n, _, rfl, hs, fun j S2 hj hs2 => ?_, fun r S2 hs2 hr => ?_⟩
    · walk_at "u"
      refine draw_w hs2 hT2 (by omega) (by omega) fun a S3 hs3 ha => ?_
      walk_at "u"
      refine pick_w hs3 hT2 (by simp) (by simp) (by intro x hx; simp only [List.mem_cons, List.not_mem_nil, or_false] at hx; rcases hx with z | z | z | z | z <;> subst z <;> exact ⟨rfl, rfl⟩) fun x S4 hs4 hx => ?_
      obtain ⟨W, rfl, hW1, hW⟩ : ∃ W : Nat, x = .int (W : Int) ∧ 1 ≤ W ∧ W ∣ 6 := by
        simp only [List.mem_cons, List.not_mem_nil, or_false] at hx
        rcases hx with z | z | z | z | z <;> subst z
        · exact ⟨1, rfl, by omega, by decide⟩
        · exact ⟨1, rfl, by omega, by decide⟩
        · exact ⟨1, rfl, by omega, by decide⟩
        · exact ⟨2, rfl, by omega, by decide⟩
        · exact ⟨3, rfl, by omega, by decide⟩
      have hW6 := Nat.le_of_dvd (by omega) hW
      walk_at "u"
      refine wF_eq (E_frac (n := 10) hW1 (by omega) (by omega) _) ?_
      refine ⟨_, rfl, ?_, trivial, hs4⟩
      exact (In.div (z := (a : Int) - 4) (M := 4) (W := W) hW1 (by have : (4 : Int) ≤ ((4 * W : Nat) : Int) := by omega
                                                                   omega) (by omega)).mono hW (Nat.le_refl 4)
    · refine wF_lst (by simp; omega) ?_
      walk_at "u"
      refine wM_append hs2.last (by simp; omega) ?_
      have hs3 := hs2.setLast (c' := .lst ((rg i fun w => dT n (g w)) ++ [dT n r]))
      have e : (rg i fun w => dT n (g w)) ++ [dT n r] = rg (i + 1) fun w => dT n ((fun w => if w = i then r else g w) w) := by
        rw [rg_succ]
        congr 1
        · exact rg_congr fun w hw => by
            show dT n (g w) = dT n (if w = i then r else g w)
            rw [if_neg (by omega)]
        · simp
      have e2 : (rg n fun i => dQ (r i)) = rg n fun i => dQ (r i) := rfl
      show True ∧ _
      change St pz _ (List.set S2 _ (.lst ((rg i fun w => dT n (g w)) ++ [dT n r]))) at hs3
      rw [e] at hs3
      refine ⟨trivial, fun w => if w = i then r else g w, some (.int (i : Nat)), x5, fun i' j hi' hj => ?_, ?_, ?_⟩
      · by_cases hk : i' = i
        · simp only [hk, if_true]; exact hr j hj
        · simp only [hk, if_false]; exact hg i' j (by omega) hj
      · rw [← e]
        rw [← e] at hs3
        exact hs3
      · rfl
  · subst eq
    walk_at "u"
    refine wF_tupOf (xs := rg m fun i => dT n (g i)) (by simp only [seqD, hs.last]) ?_
    exact wFin_M h hs hT clos_dM rfl fun S5 h5 => q g S5 h5 hg
end LW

set_option maxRecDepth 100000
set_option maxHeartbeats 4000000
namespace LW
open PySem DL PL
open Classical
local macro_rules | `(tactic| walk_at "env") => `(tactic| (simp only [startD, List.map_cons, List.map_nil, List.length_cons, List.length_nil, Nat.reduceAdd, Nat.reduceSub, List.replicate, List.cons_append, List.nil_append, wipeD, List.set]; try rfl))
local macro_rules | `(tactic| walk_at "sto") => `(tactic| (simp only [List.cons_append, List.nil_append, List.set, List.set_cons_zero, List.set_cons_succ, Int.toNat_natCast, Int.reduceToNat]; try rfl))
local macro_rules | `(tactic| walk_at "if") => `(tactic| (refine ⟨fun hc => ?_, fun hc => ?_⟩ <;> simp only [decide_eq_true_eq, decide_eq_false_iff_not, Bool.not_eq_true', Bool.not_eq_false', bne_iff_ne, ne_eq, beq_iff_eq] at hc <;> try (exfalso; first | assumption | omega | (simp at hc; done))))
local macro_rules | `(tactic| walk_at "side") => `(tactic| first | assumption | omega | decide | (simp; done) | (simp; omega))
local macro_rules | `(tactic| walk_at "mul") => `(tactic| first | assumption | exact mul_sm (by first | decide | omega) | exact mul_sm' (by first | decide | omega))
local macro_rules | `(tactic| walk_at "div") => `(tactic| first | assumption | exact div_sm (by omega) (by omega))
local macro_rules | `(tactic| walk_at "w1") => `(tactic| first
  | (guard_target = wS _ (List.set _ _ _) _ _ _; refine wS_env (by walk_at "env") ?_)
  | (guard_target = wE _ (List.set _ _ _) _ _; refine wE_env (by walk_at "env") ?_)
  | (guard_target = wG _ _ (wipeD _ _) _ _; refine wG_env (by walk_at "env") ?_)
  | (guard_target = wS _ (startD _ _) _ _ _; refine wS_env (by walk_at "env") ?_)
  | (guard_target = wS (sSeq (sSet _ _) _) _ _ _ _; refine wS_seq ?_)
  | (guard_target = wS (sSeq (sAsg _ _) _) _ _ _ _; refine wS_seq ?_)
  | (guard_target = wS (sSeq (sExpr _) _) _ _ _ _; refine wS_seq ?_)
  | (guard_target = wS (sSeq (sPar _ _ _) _) _ _ _ _; refine wS_seq ?_)
  | (guard_target = wS (sSeq (sPar3 _ _ _ _) _) _ _ _ _; refine wS_seq ?_)
  | (guard_target = wS (sSeq (sAug _ _ _) _) _ _ _ _; refine wS_seq ?_)
  | (guard_target = wS (sSeq (sSeq _ _) _) _ _ _ _; refine wS_seq ?_)
  | (guard_target = wS _ _ (List.set _ _ _) _ _; refine wS_sto (by walk_at "sto") ?_)
  | (guard_target = wE _ _ (List.set _ _ _) _; refine wE_sto (by walk_at "sto") ?_)
  | (guard_target = wG (gIx _ _) _ _ _ _; refine wG_ix2 ?_)
  | (guard_target = ∃ (_ : Nat) (_ : Int) (_ : Nat) (_ : List D), _; refine ⟨_, _, _, _, rfl, rfl, rfl, rfl, ?_⟩)
  | (guard_target = wS (sSet _ _) _ _ _ _; refine wS_set ?_)
  | (guard_target = wS (sRet _) _ _ _ _; refine wS_ret ?_)
  | (guard_target = wS (sExpr _) _ _ _ _; refine wS_expr ?_)
  | (guard_target = wS sPass _ _ _ _; refine wS_pass ?_)
  | (guard_target = wS sBreak _ _ _ _; refine wS_break ?_)
  | (guard_target = wS sCont _ _ _ _; refine wS_cont ?_)
  | (guard_target = wS (sIf _ _ _) _ _ _ _; refine wS_if ?_)
  | (guard_target = wS (sAsg _ _) _ _ _ _; refine wS_asg ?_)
  | (guard_target = wS (sPar _ _ _) _ _ _ _; refine wS_par ?_)
  | (guard_target = wS (sPar3 _ _ _ _) _ _ _ _; refine wS_par3 ?_)
  | (guard_target = wS (sAug _ _ _) _ _ _ _; refine wS_aug rfl ?_)
  | (guard_target = wE (eV _) _ _ _; refine wE_v rfl ?_)
  | (guard_target = wE (eC _) _ _ _; refine wE_c ?_)
  | (guard_target = wE (e1 _ _) _ _ _; refine wE_1 ?_)
  | (guard_target = wE (e2 _ _ _) _ _ _; refine wE_2 ?_)
  | (guard_target = wE (e2s _ _ _) _ _ _; refine wE_2s ?_)
  | (guard_target = wE (eA _ _) _ _ _; refine wE_A ?_)
  | (guard_target = wA (aCons _ _) _ _ _; refine wA_cons ?_)
  | (guard_target = wA aNil _ _ _; refine wA_nil ?_)
  | (guard_target = wE (eM _ _ _) _ _ _; refine wE_M ?_)
  | (guard_target = wE (eAnd _ _) _ _ _; refine wE_and ?_)
  | (guard_target = wE (eOr _ _) _ _ _; refine wE_or ?_)
  | (guard_target = wE (eIf _ _ _) _ _ _; refine wE_if ?_)
  | (guard_target = wE (eChain _ _ _ _ _) _ _ _; refine wE_chain ?_)
  | (guard_target = wE (eLc _ _ _ tYesD _ _) _ _ _; refine wE_lcR ?_)
  | (guard_target = wE (eLc2 _ _ _ tYesD _ _ tYesD _ _ _) _ _ _; refine wE_lc2R ?_)
  | (guard_target = wE (eBl _) _ _ _; refine wE_bl ?_)
  | (guard_target = wE (eSl _ _ _ _) _ _ _; refine wE_sl ?_)
  | (guard_target = wE (eSlS _ _ _ _) _ _ _; refine wE_slS ?_)
  | (guard_target = wO oNo _ _ _; refine wO_no ?_)
  | (guard_target = wO (oSome _) _ _ _; refine wO_some ?_)
  | (guard_target = ∃ _ : Int, _; refine ⟨_, rfl, ?_⟩)
  | (guard_target = wSl _ (.tup _) _ _ _ _; refine wSl_tup ?_)
  | (guard_target = wSl _ (.lst _) _ _ _ _; refine wSl_lst ?_)
  | (guard_target = wSl _ (.scr _) _ _ _ _; refine wSl_scr ?_)
  | (guard_target = wT (tBl _) _ _ _; refine wT_bl ?_)
  | (guard_target = wT (tTru _) _ _ _; refine wT_tru ?_)
  | (guard_target = wT (tNotD _) _ _ _; refine wT_not ?_)
  | (guard_target = wT (tAndD _ _) _ _ _; refine wT_and ?_)
  | (guard_target = wT (tOrD _ _) _ _ _; refine wT_or ?_)
  | (guard_target = wT (tIfD _ _ _) _ _ _; refine wT_if ?_)
  | (guard_target = wT tYesD _ _ _; refine wT_yes ?_)
  | (guard_target = wT (tGenQ _ _ _ tYesD _ _) _ _ _; refine wT_genR ?_)
  | (guard_target = wT (tGenQ2 _ _ _ tYesD _ _ tYesD _ _ _) _ _ _; refine wT_gen2R ?_)
  | (guard_target = wI (iSeq _) _ _ _; refine wI_seqR ?_)
  | (guard_target = wI (iRange1 _) _ _ _; refine wI_rangeR ?_)
  | (guard_target = wI (iRange2 _ _) _ _ _; refine wI_range2R ?_)
  | (guard_target = wI (iZip (aCons _ (aCons _ aNil))) _ _ _; refine wI_zipR ?_)
  | (guard_target = wI (iEnum (aCons _ aNil)) _ _ _; refine wI_enumR ?_)
  | (guard_target = wG (gNm _) _ _ _ _; refine wG_nm ?_)
  | (guard_target = wG (gTp _ _) _ _ _ _; refine wG_tp rfl ?_)
  | (guard_target = wGs (gsCons _ _) _ _ _ _; refine wGs_cons ?_)
  | (guard_target = wGs gsNil _ _ _ _; refine wGs_nil ?_)
  | (guard_target = w2 fAdd _ _ _ _; refine w2_add ?_)
  | (guard_target = w2 fSub _ _ _ _; refine w2_sub ?_)
  | (guard_target = w2 fMul _ _ _ _; refine w2_mul (by walk_at "mul") ?_)
  | (guard_target = w2 fDiv _ _ _ _; refine w2_div (by walk_at "div") ?_)
  | (guard_target = w2 fMod _ _ _ _; refine w2_mod (by walk_at "side") ?_)
  | (guard_target = w2 (fCmp _) _ _ _ _; refine w2_cmp ?_)
  | (guard_target = w2 fEq (.int _) (.int _) _ _; refine w2_eqI ?_)
  | (guard_target = w2 fNe (.int _) (.int _) _ _; refine w2_neI ?_)
  | (guard_target = w2 fIx _ (.int _) _ _; refine w2_eq rfl ?_)
  | (guard_target = w2 fIx _ (.int 0) _ _; refine w2_ix0 rfl (by walk_at "side") ?_)
  | (guard_target = w2 fIx _ (.int (Nat.cast _)) _ _; refine w2_ixR rfl (by walk_at "side") ?_)
  | (guard_target = w2s (fPlus _) (.int _) (.int _) _ _; refine w2s_plusI ?_)
  | (guard_target = w2s (fTimes _) (.int _) (.int _) _ _; refine w2s_timesI (by walk_at "mul") ?_)
  | (guard_target = w2 fPow (.int _) (.int _) _ _; refine w2_pow (by decide) (by decide) (by decide) ?_)
  | (guard_target = w2 fIsB _ _ _ _; refine w2_eq rfl ?_)
  | (guard_target = w2 fNotB _ _ _ _; refine w2_eq rfl ?_)
  | (guard_target = w2 fIsN _ _ _ _; refine w2_eq rfl ?_)
  | (guard_target = w2 fNotN _ _ _ _; refine w2_eq rfl ?_)
  | (guard_target = w1 _ _ _ _; refine w1_eq rfl ?_)
  | (guard_target = wTru _ _ _; refine wTru_eq rfl ?_)
  | (guard_target = wF fTup _ _ _; refine wF_tup (by walk_at "side") ?_)
  | (guard_target = wF fLst _ _ _; refine wF_lst (by walk_at "side") ?_)
  | (guard_target = wF fObj _ _ _; refine wF_obj (by walk_at "side") ?_)
  | (guard_target = wF fLen [dQ _] _ _; refine wF_len2 ?_)
  | (guard_target = wF fLen _ _ _; refine wF_lenR rfl ?_)
  | (guard_target = wF fAbs _ _ _; refine wF_abs ?_)
  | (guard_target = wF fInt1 [.int _] _ _; refine wF_int ?_)
  | (guard_target = wF fInt1 [.bl _] _ _; refine wF_intB ?_)
  | (guard_target = wF fListF _ _ _; refine wF_listF rfl ?_)
  | (guard_target = wF fListO _ _ _; refine wF_listO rfl ?_)
  | (guard_target = wF fTupOf _ _ _; refine wF_tupOf rfl ?_)
  | (guard_target = wF fSum _ _ _; refine wF_sumR rfl ?_)
  | (guard_target = wF fMax2 _ _ _; refine wF_max2 ?_)
  | (guard_target = wF fMin2 _ _ _; refine wF_min2 ?_)
  | (guard_target = (false = true → _) ∧ _; refine ⟨fun h => (nomatch h), fun _ => ?_⟩)
  | (guard_target = (true = true → _) ∧ _; refine ⟨fun _ => ?_, fun h => (nomatch h)⟩)
  | (guard_target = ((!false) = true → _) ∧ _; refine ⟨fun _ => ?_, fun h => (nomatch h)⟩)
  | (guard_target = ((!true) = true → _) ∧ _; refine ⟨fun h => (nomatch h), fun _ => ?_⟩)
  | (guard_target = (isNon _ = true → _) ∧ _; first | refine ⟨fun h => absurd h Bool.false_ne_true, fun _ => ?_⟩ | refine ⟨fun _ => ?_, fun h => absurd h.symm Bool.false_ne_true⟩)
  | (guard_target = ((!isNon _) = true → _) ∧ _; first | refine ⟨fun h => absurd h Bool.false_ne_true, fun _ => ?_⟩ | refine ⟨fun _ => ?_, fun h => absurd h.symm Bool.false_ne_true⟩)
  | (guard_target = (_ = true → _) ∧ (_ = false → _); first | refine ⟨fun h => absurd h (by decide), fun _ => ?_⟩ | refine ⟨fun _ => ?_, fun h => absurd h (by decide)⟩)
  | (guard_target = (_ = _) ∧ _; refine ⟨rfl, ?_⟩)
  | (guard_target = _ ∧ (_ = _); refine ⟨?_, rfl⟩)
  | (guard_target = True ∧ _; refine ⟨trivial, ?_⟩)
  | (guard_target = ∃ _ : Bool, _; refine ⟨_, rfl, ?_⟩)
  | (guard_target = ∃ (_ _ : D), _; refine ⟨_, _, rfl, ?_⟩)
  | (guard_target = ∃ (_ _ _ : D), _; refine ⟨_, _, _, rfl, ?_⟩)
  | rfl)
local macro_rules | `(tactic| walk_at "w") => `(tactic| repeat' (walk_at "w1"))
local macro_rules | `(tactic| walk_at "v") => `(tactic| repeat' ((fail_if_success (guard_target = wE (eLc _ _ _ _ _ _) _ _ _)); walk_at "w1"))
local macro_rules | `(tactic| walk_at "g") => `(tactic| (repeat' (first
  | (guard_target = wG (gNm _) _ _ _ _; refine wG_nm ?_)
  | (guard_target = wG (gTp _ _) _ _ _ _; refine wG_tp rfl ?_)
  | (guard_target = wGs (gsCons _ _) _ _ _ _; refine wGs_cons ?_)
  | (guard_target = wGs gsNil _ _ _ _; refine wGs_nil ?_)
  | (guard_target = wS _ (List.set _ _ _) _ _ _; refine wS_env (by walk_at "env") ?_)
  | (guard_target = wE _ (List.set _ _ _) _ _; refine wE_env (by walk_at "env") ?_))))
local macro_rules | `(tactic| walk_at "u") => `(tactic| repeat' ((fail_if_success (guard_target = wE (eLc _ _ _ _ _ _) _ _ _)); (fail_if_success (guard_target = wE (eLc2 _ _ _ _ _ _ _ _ _ _) _ _ _)); (fail_if_success (guard_target = wT (tGenQ _ _ _ _ _ _) _ _ _)); (fail_if_success (guard_target = wT (tGenQ2 _ _ _ _ _ _ _ _ _ _) _ _ _)); walk_at "w1"))
theorem pos_num {x : Rat} : 0 < x.num ↔ 0 < x := by
  have h := Rat.lt_iff 0 x
  have e1 : (0 : Rat).num = 0 := rfl
  have e2 : ((0 : Rat).den : Int) = 1 := rfl
  rw [e1, e2, Int.zero_mul, Int.mul_one] at h
  exact h.symm
theorem neg_num {x : Rat} : x.num < 0 ↔ x < 0 := by
  have h := Rat.lt_iff x 0
  have e1 : (0 : Rat).num = 0 := rfl
  have e2 : ((0 : Rat).den : Int) = 1 := rfl
  rw [e1, e2, Int.zero_mul, Int.mul_one] at h
  exact h.symm
/-- all rows of so many signs -/
def rws (n : Nat) : Nat → List (List Nat)
  | 0 => [[]]
  | j + 1 => (rws n j).flatMap fun l => (List.range n).map fun s => l ++ [s]
theorem rws_mem {n : Nat} : ∀ {j : Nat} {l : List Nat}, l ∈ rws n j → l.length = j ∧ ∀ s ∈ l, s < n
  | 0, l, h => by simp [rws] at h; subst h; simp
  | j + 1, l, h => by
    simp only [rws, List.mem_flatMap, List.mem_map, List.mem_range] at h
    obtain ⟨a, ha, s, hs, rfl⟩ := h
    obtain ⟨h1, h2⟩ := rws_mem ha
    refine ⟨by simp [h1], fun x hx => ?_⟩
    rcases List.mem_append.mp hx with h | h
    · exact h2 x h
    · rw [List.mem_singleton.mp h]; exact hs
theorem rws_len {n : Nat} (hn : n ≤ 4) : ∀ j, (rws n j).length ≤ 4 ^ j
  | 0 => by simp [rws]
  | j + 1 => by
    unfold rws
    rw [Nat.pow_succ]
    exact Nat.le_trans (len_flatMap_le (c := 4) fun l _ => by simp; omega) (Nat.mul_le_mul_right _ (rws_len hn j))
theorem rws_at {n j : Nat} {l : List Nat} (h : l ∈ rws n j) {k : Nat} (hk : k < j) : l.getD k 0 < n := by
  obtain ⟨h1, h2⟩ := rws_mem h
  have : l.getD k 0 = l[k] := by simp [h1, hk]
  rw [this]
  exact h2 _ (List.getElem_mem _)
/-- the joint chances behind the first k signs -/
def jp (m : Nat) (c t : Nat → Nat → Rat) (ws : Nat → Rat) (l : List Nat) : Nat → (Nat → Rat)
  | 0 => ws
  | k + 1 => hrd t (l.getD k 0) (if k = 0 then jp m c t ws l k else mvd m c (jp m c t ws l k))
theorem jp_app {m s : Nat} {c t : Nat → Nat → Rat} {ws : Nat → Rat} {l : List Nat} : ∀ {k : Nat}, k ≤ l.length → jp m c t ws (l ++ [s]) k = jp m c t ws l k
  | 0, _ => rfl
  | k + 1, h => by
    unfold jp
    rw [jp_app (k := k) (by omega)]
    have : (l ++ [s]).getD k 0 = l.getD k 0 := by
      simp only [List.getD_eq_getElem?_getD]
      rw [List.getElem?_append_left (by omega)]
    rw [this]
theorem Ex_rows {m n : Nat} {c t : Nat → Nat → Rat} {ws : Nat → Rat} : ∀ (j : Nat) (f : (Nat → Rat) → Rat), ((rws n (j + 1)).map fun l => f (jp m c t ws l (j + 1))).sum = Ex m n c t ws j f
  | 0, f => by
    show (((([[]] : List (List Nat)).flatMap fun l => (List.range n).map fun s => l ++ [s])).map _).sum = _
    rw [sum_flatMap]
    simp only [List.map_cons, List.map_nil, List.sum_cons, List.sum_nil, Rat.add_zero, List.map_map]
    rw [rs_range]
    rfl
  | j + 1, f => by
    show (((rws n (j + 1)).flatMap fun l => (List.range n).map fun s => l ++ [s]).map _).sum = Ex m n c t ws j _
    rw [sum_flatMap, ← Ex_rows j]
    congr 1
    refine List.map_congr_left fun l hl => ?_
    have hl1 := (rws_mem hl).1
    rw [List.map_map, rs_range]
    refine rs_congr fun s _ => ?_
    show f (hrd t ((l ++ [s]).getD (j + 1) 0) (if j + 1 = 0 then jp m c t ws (l ++ [s]) (j + 1) else mvd m c (jp m c t ws (l ++ [s]) (j + 1)))) = _
    rw [if_neg (by omega), jp_app (by omega)]
    have : (l ++ [s]).getD (j + 1) 0 = s := by
      rw [← hl1]
      simp
    rw [this]
theorem jp_in {m n : Nat} {c t : Nat → Nat → Rat} {ws : Nat → Rat} {l : List Nat} {j : Nat} (hl : l ∈ rws n j) (hm : m ≤ 4) (hw : ∀ w, w < m → PL.In B20 1 (ws w)) (hc : ∀ i j, i < m → j < m → PL.In B20 1 (c i j)) (ht : ∀ i j, i < m → j < n → PL.In B20 1 (t i j)) :
    ∀ k, k ≤ j → ∀ w, w < m → PL.In (B20 ^ (2 * k + 1)) (4 ^ k) (jp m c t ws l k w)
  | 0, _, w, hw' => by
    show PL.In (B20 ^ (2 * 0 + 1)) (4 ^ 0) (ws w)
    exact (hw w hw').mono (by decide) (by decide)
  | k + 1, hk, w, hw' => by
    have ih := jp_in hl hm hw hc ht k (by omega)
    have hp : ∀ e, 0 < B20 ^ e := fun e => Nat.pow_pos (by decide)
    have hs := rws_at hl (show k < j by omega)
    have h1 : PL.In (B20 ^ (2 * k + 2)) (4 ^ (k + 1)) ((if k = 0 then jp m c t ws l k else mvd m c (jp m c t ws l k)) w) := by
      by_cases h0 : k = 0
      · rw [if_pos h0]
        exact (ih w hw').mono (Nat.pow_dvd_pow _ (by omega)) (Nat.pow_le_pow_right (by omega) (by omega))
      · rw [if_neg h0]
        have : PL.In (B20 ^ (2 * k + 1) * B20) (m * (4 ^ k * 1)) (mvd m c (jp m c t ws l k) w) := In.rs (Nat.mul_pos (hp _) (by decide)) fun w' hw'' => (ih w' hw'').mul (hp _) (by decide) (hc w' w hw'' hw')
        refine this.mono (by rw [← Nat.pow_succ]; exact Nat.dvd_refl _) ?_
        rw [Nat.mul_one, Nat.pow_succ, Nat.mul_comm (4 ^ k)]
        exact Nat.mul_le_mul_right _ hm
    have h2 := h1.mul (hp _) (by decide) (ht w _ hw' hs)
    refine h2.mono (by rw [← Nat.pow_succ]; exact Nat.dvd_refl _) (by rw [Nat.mul_one]; exact Nat.le_refl _)
theorem bigB {k : Nat} (hk : k ≤ 10) : (4096 * 4096 + 1) * (B20 ^ k * 6) < 2 ^ 400 := by
  have h1 : B20 ^ k ≤ B20 ^ 10 := Nat.pow_le_pow_right (by decide) hk
  have h2 : (4096 * 4096 + 1) * (B20 ^ 10 * 6) < 2 ^ 400 := by decide +kernel
  exact Nat.lt_of_le_of_lt (Nat.mul_le_mul_left _ (Nat.mul_le_mul_right _ h1)) h2
theorem In.s400 {k M : Nat} {q : Rat} (h : PL.In (B20 ^ k * 6) M q) (hk : k ≤ 10) (hM : M ≤ 4096 * 4096) : Sm 400 q :=
  (h.mono (Nat.dvd_refl _) hM).sm (Nat.mul_pos (Nat.pow_pos (by decide)) (by decide)) (bigB hk)
theorem In.s6 {k M : Nat} {q : Rat} (h : PL.In (B20 ^ k) M q) : PL.In (B20 ^ k * 6) M q := h.mono (Nat.dvd_mul_right _ _) (Nat.le_refl _)
theorem E_lmoved {m : Nat} {c : Nat → Nat → Rat} {v : Nat → Rat} (hm : m ≤ 4) (hv : ∀ w, w < m → Sm 400 (v w)) (hc : ∀ i j, i < m → j < m → Sm 400 (c i j)) (hs : ∀ a i, a < m → i ≤ m → Sm 900 (rs (fun w => v w * c w a) i)) (S : Sto) : F__law_moved [dM m m c, dL m v] S = some (dL m (mvd m c v), S) := by
  apply wF_of
  unfold F__law_moved t__law_moved
  refine wF_fn rfl ?_
  walk_at "u"
  refine wS_seq ?_
  refine wS_forR (fun i ρ S' => ∃ x3 x4, S' = S ++ [.lst (rg i fun a => dQ (mvd m c v a))] ∧ ρ = [some (dM m m c), some (dL m v), some (.obj S.length), x3, x4]) ?_
  walk_at "u"
  refine ⟨m, rfl, by omega, m, _, rfl, ⟨none, none, rfl, rfl⟩, fun i ρ S' hi ⟨x3, x4, e1, e2⟩ => ?_, fun ρ S' ⟨x3, x4, e1, e2⟩ => ?_⟩
  · subst e1 e2
    walk_at "u"
    refine ⟨S.length, _, rfl, get_last, ?_⟩
    walk_at "u"
    refine wE_lcR ?_
    walk_at "u"
    refine ⟨m, rfl, by omega, m, _, fun w => dQ (v w * c w i), rfl, trivial, fun w hw => ?_, ?_⟩
    · walk_at "u"
      exact wF_eq (E_times (hv w hw) (hc w i hw hi) (by omega) _) ⟨rfl, rfl⟩
    · refine wF_lst (by simp; omega) ?_
      walk_at "u"
      refine wF_eq (E_ltot (m := m) (n := 900) (q := fun w => v w * c w i) (.of (.inr rfl)) (fun w hw => ((hv w hw).mul (hc w i hw hi)).mono (by omega)) (fun k hk => hs i k hi hk) (by omega)) ?_
      walk_at "u"
      refine wM_append get_last (by simp; omega) ?_
      rw [set_last]
      exact ⟨trivial, _, _, by rw [rg_succ]; rfl, rfl⟩
  · subst e1 e2
    walk_at "u"
    exact wFin_PO (k := S.length) (Nat.le_refl _) get_last (closL_rg fun i _ => rfl) ⟨rfl, rfl⟩
theorem E_ljoint {m n j : Nat} {c t : Nat → Nat → Rat} {ws : Nat → Rat} {l : List Nat} (hl : l ∈ rws n j) (hj : j ≤ 4) (hm1 : 1 ≤ m) (hm : m ≤ 4) (hn : n ≤ 4) (hw : ∀ w, w < m → PL.In B20 1 (ws w)) (hc : ∀ i j, i < m → j < m → PL.In B20 1 (c i j)) (ht : ∀ i j, i < m → j < n → PL.In B20 1 (t i j)) (S : Sto) :
    F__law_joint [dT m ws, dM m m c, dM m n t, dN l] S = some (dL m (jp m c t ws l j), S) := by
  have hll := (rws_mem hl).1
  have J := jp_in hl hm hw hc ht
  have hp : ∀ e, 0 < B20 ^ e := fun e => Nat.pow_pos (by decide)
  have p4 : ∀ {k}, k ≤ 4 → 4 ^ k ≤ 256 := fun {k} hk => Nat.le_trans (Nat.pow_le_pow_right (by omega) hk) (by decide)
  have s1 : ∀ {q : Rat}, PL.In B20 1 q → Sm 400 q := fun h => In.s400 (k := 1) (In.s6 (by simpa using h)) (by omega) (by omega)
  apply wF_of
  unfold F__law_joint t__law_joint
  refine wF_fn rfl ?_
  walk_at "u"
  refine wS_seq ?_
  refine wS_forR (fun i ρ S' => S' = S ∧ ∃ x5 x6, ρ = [some (dT m ws), some (dM m m c), some (dM m n t), some (dN l), some (dL m (jp m c t ws l i)), x5, x6]) ?_
  walk_at "u"
  refine wF_lenR seq_dN ?_
  refine ⟨l.length, rfl, by omega, l.length, _, rfl, ⟨rfl, none, none, rfl⟩, fun i ρ S' hi ⟨e1, x5, x6, e2⟩ => ?_, fun ρ S' ⟨e1, x5, x6, e2⟩ => ?_⟩
  · subst e1 e2
    have hij : i < j := by omega
    have hs := rws_at hl hij
    have Ji := J i (by omega)
    have hi4 : i ≤ 4 := by omega
    walk_at "g"
    refine wS_cut (fun ρ S2 => S2 = S' ∧ ρ = [some (dT m ws), some (dM m m c), some (dM m n t), some (dN l), some (dL m (if i = 0 then jp m c t ws l i else mvd m c (jp m c t ws l i))), some (.int (i : Nat)), x6]) ?_ ?_
    · walk_at "u"
      walk_at "if"
      · rename_i h0
        walk_at "u"
        refine wF_eq (E_lmoved hm (fun w hw' => In.s400 (In.s6 (Ji w hw')) (by omega) (by have := p4 hi4; omega)) (fun a b ha hb => s1 (hc a b ha hb)) (fun a b ha hb => ?_) _) ?_
        · have : PL.In (B20 ^ (2 * i + 1) * B20) (m * (4 ^ i * 1)) (rs (fun w => jp m c t ws l i w * c w a) b) := In.rs_le (Nat.mul_pos (hp _) (by decide)) (fun w' hw'' => (Ji w' hw'').mul (hp _) (by decide) (hc w' a hw'' ha)) hb
          rw [← Nat.pow_succ] at this
          refine (In.s400 (In.s6 this) (by omega) ?_).mono (by omega)
          have := p4 hi4
          rw [Nat.mul_one]
          exact Nat.le_trans (Nat.mul_le_mul hm this) (by decide)
        walk_at "u"
        have h1 : ¬ i = 0 := by omega
        rw [if_neg h1]
        rfl
      · rename_i h0
        walk_at "u"
        have h1 : i = 0 := by omega
        rw [if_pos h1]
    · rintro ρ S2 ⟨rfl, rfl⟩
      have Jn : ∀ w, w < m → PL.In (B20 ^ (2 * i + 2)) (4 ^ (i + 1)) ((if i = 0 then jp m c t ws l i else mvd m c (jp m c t ws l i)) w) := fun w hw' => by
        by_cases h0 : i = 0
        · rw [if_pos h0]
          exact (Ji w hw').mono (Nat.pow_dvd_pow _ (by omega)) (Nat.pow_le_pow_right (by omega) (by omega))
        · rw [if_neg h0]
          have : PL.In (B20 ^ (2 * i + 1) * B20) (m * (4 ^ i * 1)) (mvd m c (jp m c t ws l i) w) := In.rs (Nat.mul_pos (hp _) (by decide)) fun w' hw'' => (Ji w' hw'').mul (hp _) (by decide) (hc w' w hw'' hw')
          refine this.mono (by rw [← Nat.pow_succ]; exact Nat.dvd_refl _) ?_
          rw [Nat.mul_one, Nat.pow_succ, Nat.mul_comm (4 ^ i)]
          exact Nat.mul_le_mul_right _ hm
      walk_at "u"
      refine wE_lcR ?_
      walk_at "u"
      refine ⟨m, rfl, by omega, m, _, fun w => dQ (jp m c t ws l (i + 1) w), rfl, trivial, fun w hw' => ?_, ?_⟩
      · walk_at "u"
        refine w2_ixR (m := l.length) (f := fun i => D.int ((l.getD i 0 : Nat) : Int)) seq_dN (by omega) ?_
        refine w2_ixR rfl hs ?_
        walk_at "u"
        exact wF_eq (E_times (In.s400 (In.s6 (Jn w hw')) (by omega) (by have := p4 (show i + 1 ≤ 4 by omega); omega)) (s1 (ht w _ hw' hs)) (by omega) _) ⟨rfl, rfl⟩
      · refine wF_lst (by simp; omega) ?_
        walk_at "u"
        exact ⟨_, _, rfl⟩
  · subst e1 e2
    walk_at "u"
    rw [hll]
    exact wFin_P0 clos_dL rfl ⟨rfl, rfl⟩
theorem E_lrows {n j : Nat} (hn : n ≤ 4) (hj : j ≤ 4) (S : Sto) : F__law_rows_of [.int (n : Int), .int (j : Int)] S = some (.lst ((rws n j).map dN), S) := by
  have hlen : ∀ i, i ≤ 4 → (rws n i).length ≤ 256 := fun i hi => Nat.le_trans (rws_len hn i) (Nat.le_trans (Nat.pow_le_pow_right (by omega) hi) (by decide))
  apply wF_of
  unfold F__law_rows_of t__law_rows_of
  refine wF_fn rfl ?_
  walk_at "u"
  refine wS_seq ?_
  refine wS_forR (fun i ρ S' => S' = S ∧ ∃ x3 x4 x5 x6, ρ = [some (.int (n : Int)), some (.int (j : Int)), some (.lst ((rws n i).map dN)), x3, x4, x5, x6]) ?_
  walk_at "u"
  refine ⟨j, rfl, by omega, j, _, rfl, ⟨rfl, none, none, none, none, rfl⟩, fun i ρ S' hi ⟨e1, x3, x4, x5, x6, e2⟩ => ?_, fun ρ S' ⟨e1, x3, x4, x5, x6, e2⟩ => ?_⟩
  · subst e1 e2
    walk_at "u"
    refine wS_seq ?_
    refine wS_forP (α := List Nat) (fun pre ρ S2 => S2 = S' ∧ ∃ x5 x6, ρ = [some (.int (n : Int)), some (.int (j : Int)), some (.lst ((rws n i).map dN)), some (.int (i : Nat)), some (.lst ((pre.flatMap fun l => (List.range n).map fun p => l ++ [p]).map dN)), x5, x6]) ?_
    refine wI_seq ?_
    walk_at "u"
    refine ⟨_, _, rfl, rws n i, dN, rfl, ⟨rfl, x5, x6, rfl⟩, fun pre l post ρ S2 hpre ⟨e1, x5, x6, e2⟩ => ?_, fun ρ S2 ⟨e1, x5, x6, e2⟩ => ?_⟩
    · subst e1 e2
      have hl : l ∈ rws n i := by rw [hpre]; simp
      obtain ⟨hl1, hl2⟩ := rws_mem hl
      have hlt : (pre ++ [l]).length ≤ (rws n i).length := by rw [hpre]; simp
      have hfl : ((pre ++ [l]).flatMap fun l => (List.range n).map fun p => l ++ [p]).length ≤ 1000000 := by
        refine Nat.le_trans (len_flatMap_le (c := 4) fun l _ => by simp; omega) ?_
        have h9 := hlen i (by omega)
        omega
      walk_at "u"
      refine wE_lc (α := Nat) ?_
      refine wI_range (n := n) ?_
      walk_at "u"
      refine ⟨by omega, List.range n, _, fun p => dN (l ++ [p]), rfl, trivial, fun p hp => ?_, ?_⟩
      · walk_at "u"
        refine w2s_plusT (by simp; omega) ?_
        walk_at "u"
        unfold dN
        simp
      · refine wF_lst (by simp; omega) ?_
        walk_at "u"
        have e3 : ((pre.flatMap fun l => (List.range n).map fun p => l ++ [p]).map dN) ++ ((List.range n).map fun p => dN (l ++ [p])) = (((pre ++ [l]).flatMap fun l => (List.range n).map fun p => l ++ [p]).map dN) := by
          rw [List.flatMap_append, List.map_append]
          simp [List.flatMap_cons]
        refine w2s_plusL rfl rfl ?_
        rw [e3]
        refine wF_lst (by rw [List.length_map]; exact hfl) ?_
        walk_at "u"
        exact ⟨_, _, rfl⟩
    · subst e1 e2
      walk_at "u"
      exact ⟨_, _, _, _, rfl⟩
  · subst e1 e2
    walk_at "u"
    exact wFin_P0 (closL_map (fun l => clos_dN) _) rfl ⟨rfl, rfl⟩
end LW

set_option maxRecDepth 100000
set_option maxHeartbeats 4000000
namespace LW
open PySem DL PL
open Classical
local macro_rules | `(tactic| walk_at "env") => `(tactic| (simp only [startD, List.map_cons, List.map_nil, List.length_cons, List.length_nil, Nat.reduceAdd, Nat.reduceSub, List.replicate, List.cons_append, List.nil_append, wipeD, List.set]; try rfl))
local macro_rules | `(tactic| walk_at "sto") => `(tactic| (simp only [List.cons_append, List.nil_append, List.set, List.set_cons_zero, List.set_cons_succ, Int.toNat_natCast, Int.reduceToNat]; try rfl))
local macro_rules | `(tactic| walk_at "if") => `(tactic| (refine ⟨fun hc => ?_, fun hc => ?_⟩ <;> simp only [decide_eq_true_eq, decide_eq_false_iff_not, Bool.not_eq_true', Bool.not_eq_false', bne_iff_ne, ne_eq, beq_iff_eq] at hc <;> try (exfalso; first | assumption | omega | (simp at hc; done))))
local macro_rules | `(tactic| walk_at "side") => `(tactic| first | assumption | omega | decide | (simp; done) | (simp; omega))
local macro_rules | `(tactic| walk_at "mul") => `(tactic| first | assumption | exact mul_sm (by first | decide | omega) | exact mul_sm' (by first | decide | omega))
local macro_rules | `(tactic| walk_at "div") => `(tactic| first | assumption | exact div_sm (by omega) (by omega))
local macro_rules | `(tactic| walk_at "w1") => `(tactic| first
  | (guard_target = wS _ (List.set _ _ _) _ _ _; refine wS_env (by walk_at "env") ?_)
  | (guard_target = wE _ (List.set _ _ _) _ _; refine wE_env (by walk_at "env") ?_)
  | (guard_target = wG _ _ (wipeD _ _) _ _; refine wG_env (by walk_at "env") ?_)
  | (guard_target = wS _ (startD _ _) _ _ _; refine wS_env (by walk_at "env") ?_)
  | (guard_target = wS (sSeq (sSet _ _) _) _ _ _ _; refine wS_seq ?_)
  | (guard_target = wS (sSeq (sAsg _ _) _) _ _ _ _; refine wS_seq ?_)
  | (guard_target = wS (sSeq (sExpr _) _) _ _ _ _; refine wS_seq ?_)
  | (guard_target = wS (sSeq (sPar _ _ _) _) _ _ _ _; refine wS_seq ?_)
  | (guard_target = wS (sSeq (sPar3 _ _ _ _) _) _ _ _ _; refine wS_seq ?_)
  | (guard_target = wS (sSeq (sAug _ _ _) _) _ _ _ _; refine wS_seq ?_)
  | (guard_target = wS (sSeq (sSeq _ _) _) _ _ _ _; refine wS_seq ?_)
  | (guard_target = wS _ _ (List.set _ _ _) _ _; refine wS_sto (by walk_at "sto") ?_)
  | (guard_target = wE _ _ (List.set _ _ _) _; refine wE_sto (by walk_at "sto") ?_)
  | (guard_target = wG (gIx _ _) _ _ _ _; refine wG_ix2 ?_)
  | (guard_target = ∃ (_ : Nat) (_ : Int) (_ : Nat) (_ : List D), _; refine ⟨_, _, _, _, rfl, rfl, rfl, rfl, ?_⟩)
  | (guard_target = wS (sSet _ _) _ _ _ _; refine wS_set ?_)
  | (guard_target = wS (sRet _) _ _ _ _; refine wS_ret ?_)
  | (guard_target = wS (sExpr _) _ _ _ _; refine wS_expr ?_)
  | (guard_target = wS sPass _ _ _ _; refine wS_pass ?_)
  | (guard_target = wS sBreak _ _ _ _; refine wS_break ?_)
  | (guard_target = wS sCont _ _ _ _; refine wS_cont ?_)
  | (guard_target = wS (sIf _ _ _) _ _ _ _; refine wS_if ?_)
  | (guard_target = wS (sAsg _ _) _ _ _ _; refine wS_asg ?_)
  | (guard_target = wS (sPar _ _ _) _ _ _ _; refine wS_par ?_)
  | (guard_target = wS (sPar3 _ _ _ _) _ _ _ _; refine wS_par3 ?_)
  | (guard_target = wS (sAug _ _ _) _ _ _ _; refine wS_aug rfl ?_)
  | (guard_target = wE (eV _) _ _ _; refine wE_v rfl ?_)
  | (guard_target = wE (eC _) _ _ _; refine wE_c ?_)
  | (guard_target = wE (e1 _ _) _ _ _; refine wE_1 ?_)
  | (guard_target = wE (e2 _ _ _) _ _ _; refine wE_2 ?_)
  | (guard_target = wE (e2s _ _ _) _ _ _; refine wE_2s ?_)
  | (guard_target = wE (eA _ _) _ _ _; refine wE_A ?_)
  | (guard_target = wA (aCons _ _) _ _ _; refine wA_cons ?_)
  | (guard_target = wA aNil _ _ _; refine wA_nil ?_)
  | (guard_target = wE (eM _ _ _) _ _ _; refine wE_M ?_)
  | (guard_target = wE (eAnd _ _) _ _ _; refine wE_and ?_)
  | (guard_target = wE (eOr _ _) _ _ _; refine wE_or ?_)
  | (guard_target = wE (eIf _ _ _) _ _ _; refine wE_if ?_)
  | (guard_target = wE (eChain _ _ _ _ _) _ _ _; refine wE_chain ?_)
  | (guard_target = wE (eLc _ _ _ tYesD _ _) _ _ _; refine wE_lcR ?_)
  | (guard_target = wE (eLc2 _ _ _ tYesD _ _ tYesD _ _ _) _ _ _; refine wE_lc2R ?_)
  | (guard_target = wE (eBl _) _ _ _; refine wE_bl ?_)
  | (guard_target = wE (eSl _ _ _ _) _ _ _; refine wE_sl ?_)
  | (guard_target = wE (eSlS _ _ _ _) _ _ _; refine wE_slS ?_)
  | (guard_target = wO oNo _ _ _; refine wO_no ?_)
  | (guard_target = wO (oSome _) _ _ _; refine wO_some ?_)
  | (guard_target = ∃ _ : Int, _; refine ⟨_, rfl, ?_⟩)
  | (guard_target = wSl _ (.tup _) _ _ _ _; refine wSl_tup ?_)
  | (guard_target = wSl _ (.lst _) _ _ _ _; refine wSl_lst ?_)
  | (guard_target = wSl _ (.scr _) _ _ _ _; refine wSl_scr ?_)
  | (guard_target = wT (tBl _) _ _ _; refine wT_bl ?_)
  | (guard_target = wT (tTru _) _ _ _; refine wT_tru ?_)
  | (guard_target = wT (tNotD _) _ _ _; refine wT_not ?_)
  | (guard_target = wT (tAndD _ _) _ _ _; refine wT_and ?_)
  | (guard_target = wT (tOrD _ _) _ _ _; refine wT_or ?_)
  | (guard_target = wT (tIfD _ _ _) _ _ _; refine wT_if ?_)
  | (guard_target = wT tYesD _ _ _; refine wT_yes ?_)
  | (guard_target = wT (tGenQ _ _ _ tYesD _ _) _ _ _; refine wT_genR ?_)
  | (guard_target = wT (tGenQ2 _ _ _ tYesD _ _ tYesD _ _ _) _ _ _; refine wT_gen2R ?_)
  | (guard_target = wI (iSeq _) _ _ _; refine wI_seqR ?_)
  | (guard_target = wI (iRange1 _) _ _ _; refine wI_rangeR ?_)
  | (guard_target = wI (iRange2 _ _) _ _ _; refine wI_range2R ?_)
  | (guard_target = wI (iZip (aCons _ (aCons _ aNil))) _ _ _; refine wI_zipR ?_)
  | (guard_target = wI (iEnum (aCons _ aNil)) _ _ _; refine wI_enumR ?_)
  | (guard_target = wG (gNm _) _ _ _ _; refine wG_nm ?_)
  | (guard_target = wG (gTp _ _) _ _ _ _; refine wG_tp rfl ?_)
  | (guard_target = wGs (gsCons _ _) _ _ _ _; refine wGs_cons ?_)
  | (guard_target = wGs gsNil _ _ _ _; refine wGs_nil ?_)
  | (guard_target = w2 fAdd _ _ _ _; refine w2_add ?_)
  | (guard_target = w2 fSub _ _ _ _; refine w2_sub ?_)
  | (guard_target = w2 fMul _ _ _ _; refine w2_mul (by walk_at "mul") ?_)
  | (guard_target = w2 fDiv _ _ _ _; refine w2_div (by walk_at "div") ?_)
  | (guard_target = w2 fMod _ _ _ _; refine w2_mod (by walk_at "side") ?_)
  | (guard_target = w2 (fCmp _) _ _ _ _; refine w2_cmp ?_)
  | (guard_target = w2 fEq (.int _) (.int _) _ _; refine w2_eqI ?_)
  | (guard_target = w2 fNe (.int _) (.int _) _ _; refine w2_neI ?_)
  | (guard_target = w2 fIx _ (.int _) _ _; refine w2_eq rfl ?_)
  | (guard_target = w2 fIx _ (.int 0) _ _; refine w2_ix0 rfl (by walk_at "side") ?_)
  | (guard_target = w2 fIx _ (.int (Nat.cast _)) _ _; refine w2_ixR rfl (by walk_at "side") ?_)
  | (guard_target = w2s (fPlus _) (.int _) (.int _) _ _; refine w2s_plusI ?_)
  | (guard_target = w2s (fTimes _) (.int _) (.int _) _ _; refine w2s_timesI (by walk_at "mul") ?_)
  | (guard_target = w2 fPow (.int _) (.int _) _ _; refine w2_pow (by decide) (by decide) (by decide) ?_)
  | (guard_target = w2 fIsB _ _ _ _; refine w2_eq rfl ?_)
  | (guard_target = w2 fNotB _ _ _ _; refine w2_eq rfl ?_)
  | (guard_target = w2 fIsN _ _ _ _; refine w2_eq rfl ?_)
  | (guard_target = w2 fNotN _ _ _ _; refine w2_eq rfl ?_)
  | (guard_target = w1 _ _ _ _; refine w1_eq rfl ?_)
  | (guard_target = wTru _ _ _; refine wTru_eq rfl ?_)
  | (guard_target = wF fTup _ _ _; refine wF_tup (by walk_at "side") ?_)
  | (guard_target = wF fLst _ _ _; refine wF_lst (by walk_at "side") ?_)
  | (guard_target = wF fObj _ _ _; refine wF_obj (by walk_at "side") ?_)
  | (guard_target = wF fLen [dQ _] _ _; refine wF_len2 ?_)
  | (guard_target = wF fLen _ _ _; refine wF_lenR rfl ?_)
  | (guard_target = wF fAbs _ _ _; refine wF_abs ?_)
  | (guard_target = wF fInt1 [.int _] _ _; refine wF_int ?_)
  | (guard_target = wF fInt1 [.bl _] _ _; refine wF_intB ?_)
  | (guard_target = wF fListF _ _ _; refine wF_listF rfl ?_)
  | (guard_target = wF fListO _ _ _; refine wF_listO rfl ?_)
  | (guard_target = wF fTupOf _ _ _; refine wF_tupOf rfl ?_)
  | (guard_target = wF fSum _ _ _; refine wF_sumR rfl ?_)
  | (guard_target = wF fMax2 _ _ _; refine wF_max2 ?_)
  | (guard_target = wF fMin2 _ _ _; refine wF_min2 ?_)
  | (guard_target = (false = true → _) ∧ _; refine ⟨fun h => (nomatch h), fun _ => ?_⟩)
  | (guard_target = (true = true → _) ∧ _; refine ⟨fun _ => ?_, fun h => (nomatch h)⟩)
  | (guard_target = ((!false) = true → _) ∧ _; refine ⟨fun _ => ?_, fun h => (nomatch h)⟩)
  | (guard_target = ((!true) = true → _) ∧ _; refine ⟨fun h => (nomatch h), fun _ => ?_⟩)
  | (guard_target = (isNon _ = true → _) ∧ _; first | refine ⟨fun h => absurd h Bool.false_ne_true, fun _ => ?_⟩ | refine ⟨fun _ => ?_, fun h => absurd h.symm Bool.false_ne_true⟩)
  | (guard_target = ((!isNon _) = true → _) ∧ _; first | refine ⟨fun h => absurd h Bool.false_ne_true, fun _ => ?_⟩ | refine ⟨fun _ => ?_, fun h => absurd h.symm Bool.false_ne_true⟩)
  | (guard_target = (_ = true → _) ∧ (_ = false → _); first | refine ⟨fun h => absurd h (by decide), fun _ => ?_⟩ | refine ⟨fun _ => ?_, fun h => absurd h (by decide)⟩)
  | (guard_target = (_ = _) ∧ _; refine ⟨rfl, ?_⟩)
  | (guard_target = _ ∧ (_ = _); refine ⟨?_, rfl⟩)
  | (guard_target = True ∧ _; refine ⟨trivial, ?_⟩)
  | (guard_target = ∃ _ : Bool, _; refine ⟨_, rfl, ?_⟩)
  | (guard_target = ∃ (_ _ : D), _; refine ⟨_, _, rfl, ?_⟩)
  | (guard_target = ∃ (_ _ _ : D), _; refine ⟨_, _, _, rfl, ?_⟩)
  | rfl)
local macro_rules | `(tactic| walk_at "w") => `(tactic| repeat' (walk_at "w1"))
local macro_rules | `(tactic| walk_at "v") => `(tactic| repeat' ((fail_if_success (guard_target = wE (eLc _ _ _ _ _ _) _ _ _)); walk_at "w1"))
local macro_rules | `(tactic| walk_at "g") => `(tactic| (repeat' (first
  | (guard_target = wG (gNm _) _ _ _ _; refine wG_nm ?_)
  | (guard_target = wG (gTp _ _) _ _ _ _; refine wG_tp rfl ?_)
  | (guard_target = wGs (gsCons _ _) _ _ _ _; refine wGs_cons ?_)
  | (guard_target = wGs gsNil _ _ _ _; refine wGs_nil ?_)
  | (guard_target = wS _ (List.set _ _ _) _ _ _; refine wS_env (by walk_at "env") ?_)
  | (guard_target = wE _ (List.set _ _ _) _ _; refine wE_env (by walk_at "env") ?_))))
local macro_rules | `(tactic| walk_at "u") => `(tactic| repeat' ((fail_if_success (guard_target = wE (eLc _ _ _ _ _ _) _ _ _)); (fail_if_success (guard_target = wE (eLc2 _ _ _ _ _ _ _ _ _ _) _ _ _)); (fail_if_success (guard_target = wT (tGenQ _ _ _ _ _ _) _ _ _)); (fail_if_success (guard_target = wT (tGenQ2 _ _ _ _ _ _ _ _ _ _) _ _ _)); walk_at "w1"))
def qL (m n k : Nat) (c t g : Nat → Nat → Rat) (ws : Nat → Rat) : Nat → List Rat
  | 0 => []
  | i + 1 => qL m n k c t g ws i ++ (rws n (i + 1)).map fun l => bst m k g (jp m c t ws l (i + 1))
theorem qL_sum {m n k : Nat} {c t g : Nat → Nat → Rat} {ws : Nat → Rat} : ∀ i, (qL m n k c t g ws i).sum = swv m n k c t g ws i
  | 0 => rfl
  | i + 1 => by
    unfold qL
    rw [List.sum_append, qL_sum i, Ex_rows]
    rfl
theorem qL_len {m n k : Nat} {c t g : Nat → Nat → Rat} {ws : Nat → Rat} (hn : n ≤ 4) : ∀ i, i ≤ 4 → (qL m n k c t g ws i).length ≤ i * 256
  | 0, _ => by simp [qL]
  | i + 1, h => by
    unfold qL
    rw [List.length_append, List.length_map]
    have a := qL_len (m := m) (n := n) (k := k) (c := c) (t := t) (g := g) (ws := ws) hn i (by omega)
    have b := Nat.le_trans (rws_len hn (i + 1)) (Nat.le_trans (Nat.pow_le_pow_right (by omega) h : 4 ^ (i + 1) ≤ 4 ^ 4) (by decide : 4 ^ 4 ≤ 256))
    omega
theorem E_lworth {m n k K : Nat} {c t g : Nat → Nat → Rat} {ws : Nat → Rat} (hm1 : 1 ≤ m) (hm : m ≤ 4) (hn1 : 1 ≤ n) (hn : n ≤ 4) (hk : k ≤ 3) (hK : K ≤ 4) (hw : ∀ w, w < m → PL.In B20 1 (ws w)) (hc : ∀ i j, i < m → j < m → PL.In B20 1 (c i j)) (ht : ∀ i j, i < m → j < n → PL.In B20 1 (t i j)) (hg : ∀ i j, i < m → j < k + 1 → PL.In 6 4 (g i j)) (S : Sto) :
    F__law_worth [dT m ws, dM m m c, dM m n t, dM m (k + 1) g, .int (K : Int)] S = some (dQ (swv m n k c t g ws K), S) := by
  have hp : ∀ e, 0 < B20 ^ e := fun e => Nat.pow_pos (by decide)
  have p4 : ∀ {k}, k ≤ 4 → 4 ^ k ≤ 256 := fun {k} hk => Nat.le_trans (Nat.pow_le_pow_right (by omega) hk) (by decide)
  have Jb : ∀ {j : Nat} {l : List Nat}, j ≤ 4 → l ∈ rws n j → ∀ w, w < m → PL.In (B20 ^ 9) 256 (jp m c t ws l j w) := fun {j l} hj hl w hw' => (jp_in hl hm hw hc ht j (Nat.le_refl _) w hw').mono (Nat.pow_dvd_pow _ (by omega)) (p4 hj)
  have Pb : ∀ {j : Nat} {l : List Nat}, j ≤ 4 → l ∈ rws n j → ∀ w a, w < m → a < k + 1 → PL.In (B20 ^ 9 * 6) 1024 (jp m c t ws l j w * g w a) := fun {j l} hj hl w a hw' ha => (Jb hj hl w hw').mul (hp _) (by decide) (hg w a hw' ha)
  have Sb' : ∀ {j : Nat} {l : List Nat}, j ≤ 4 → l ∈ rws n j → ∀ a i, a < k + 1 → i ≤ m → PL.In (B20 ^ 9 * 6) 4096 (rs (fun w => jp m c t ws l j w * g w a) i) := fun {j l} hj hl a i ha hi => (In.rs_le (Nat.mul_pos (hp _) (by decide)) (fun w hw' => Pb hj hl w a hw' ha) hi).mono (Nat.dvd_refl _) (by omega)
  have qb : ∀ i, i ≤ 4 → ∀ x ∈ qL m n k c t g ws i, PL.In (B20 ^ 9 * 6) 4096 x := fun i => by
    induction i with
    | zero => intro _ x hx; simp [qL] at hx
    | succ i ih =>
      intro hi x hx
      unfold qL at hx
      rcases List.mem_append.mp hx with h | h
      · exact ih (by omega) x h
      · obtain ⟨l, hl, rfl⟩ := List.mem_map.mp h
        exact In.mx fun a ha => Sb' hi hl a m (by omega) (Nat.le_refl _)
  apply wF_of
  unfold F__law_worth t__law_worth
  refine wF_fn rfl ?_
  walk_at "u"
  refine wS_seq ?_
  refine wS_forR (fun i ρ S' => ∃ x6 x7 x8 x9 x10 x11 x12, S' = S ++ [.lst ((qL m n k c t g ws i).map dQ)] ∧ ρ = [some (dT m ws), some (dM m m c), some (dM m n t), some (dM m (k + 1) g), some (.int (K : Int)), some (.obj S.length), x6, x7, x8, x9, x10, x11, x12]) ?_
  walk_at "u"
  refine ⟨1, K + 1, rfl, by congr 1, by omega, by omega, K + 1 - 1, _, rfl, ⟨none, none, none, none, none, none, none, rfl, rfl⟩, fun i ρ S' hi ⟨x6, x7, x8, x9, x10, x11, x12, e1, e2⟩ => ?_, fun ρ S' ⟨x6, x7, x8, x9, x10, x11, x12, e1, e2⟩ => ?_⟩
  · subst e1 e2
    have hi4 : i + 1 ≤ 4 := by omega
    walk_at "g"
    refine wS_forP (α := List Nat) (fun pre ρ S2 => ∃ x7 x8 x9 x10 x11 x12, S2 = S ++ [.lst ((qL m n k c t g ws i ++ pre.map fun l => bst m k g (jp m c t ws l (i + 1))).map dQ)] ∧ ρ = [some (dT m ws), some (dM m m c), some (dM m n t), some (dM m (k + 1) g), some (.int (K : Int)), some (.obj S.length), some (.int ((1 + i : Nat) : Int)), x7, x8, x9, x10, x11, x12]) ?_
    refine wI_seq ?_
    walk_at "u"
    rw [show 1 + i = i + 1 from Nat.add_comm _ _]
    refine wF_eq (E_lrows hn hi4 _) ?_
    refine ⟨_, _, rfl, rws n (i + 1), dN, rfl, ⟨x7, x8, x9, x10, x11, x12, by simp, rfl⟩, fun pre l post ρ S2 hpre ⟨x7, x8, x9, x10, x11, x12, e1, e2⟩ => ?_, fun ρ S2 ⟨x7, x8, x9, x10, x11, x12, e1, e2⟩ => ?_⟩
    · subst e1 e2
      have hl : l ∈ rws n (i + 1) := by rw [hpre]; simp
      walk_at "u"
      refine wF_eq (E_ljoint hl hi4 hm1 hm hn hw hc ht _) ?_
      walk_at "u"
      refine wS_seq ?_
      have hql : (qL m n k c t g ws i ++ pre.map fun l => bst m k g (jp m c t ws l (i + 1))).length < 1000000 := by
        have a := qL_len (m := m) (n := n) (k := k) (c := c) (t := t) (g := g) (ws := ws) hn i (by omega)
        have b : pre.length ≤ (rws n (i + 1)).length := by rw [hpre]; simp
        have c' := Nat.le_trans (rws_len hn (i + 1)) (p4 hi4)
        rw [List.length_append, List.length_map]
        omega
      generalize hQ : qL m n k c t g ws i ++ pre.map (fun l => bst m k g (jp m c t ws l (i + 1))) = qs at hql ⊢
      refine wS_forR (fun a ρ S3 => S3 = S ++ [.lst (qs.map dQ)] ∧ ∃ x8 x11 x12, ρ = [some (dT m ws), some (dM m m c), some (dM m n t), some (dM m (k + 1) g), some (.int (K : Int)), some (.obj S.length), some (.int ((i + 1 : Nat) : Int)), some (dN l), x8, some (dL m (jp m c t ws l (i + 1))), some (if a = 0 then D.non else dQ (mx (fun a => rs (fun w => jp m c t ws l (i + 1) w * g w a) m) (a - 1))), x11, x12]) ?_
      walk_at "u"
      refine ⟨k + 1, rfl, by omega, k + 1, _, rfl, ⟨rfl, x8, x11, x12, rfl⟩, fun a ρ S3 ha ⟨e1, x8, x11, x12, e2⟩ => ?_, fun ρ S3 ⟨e1, x8, x11, x12, e2⟩ => ?_⟩
      · subst e1 e2
        walk_at "u"
        refine wE_lcR ?_
        walk_at "u"
        refine ⟨m, rfl, by omega, m, _, fun w => dQ (jp m c t ws l (i + 1) w * g w a), rfl, trivial, fun w hw' => ?_, ?_⟩
        · walk_at "u"
          exact wF_eq (E_times (In.s400 (In.s6 (Jb hi4 hl w hw')) (by omega) (by omega)) (((hg w a hw' ha).sm (by decide) (by decide : (4 + 1) * 6 < 2 ^ 400))) (by omega) _) ⟨rfl, rfl⟩
        refine wF_lst (by simp; omega) ?_
        walk_at "u"
        refine wF_eq (E_ltot (m := m) (n := 400) (q := fun w => jp m c t ws l (i + 1) w * g w a) (.of (.inr rfl)) (fun w hw' => In.s400 (Pb hi4 hl w a hw' ha) (by omega) (by omega)) (fun j hj => In.s400 (Sb' hi4 hl a j ha hj) (by omega) (by omega)) (by omega)) ?_
        walk_at "u"
        by_cases h0 : a = 0
        · subst h0
          rw [if_pos rfl]
          walk_at "u"
          exact ⟨_, _, _, rfl⟩
        · obtain ⟨a, rfl⟩ : ∃ b, a = b + 1 := ⟨a - 1, by omega⟩
          rw [if_neg h0]
          walk_at "u"
          refine wF_eq (E_lless (n := 400) (In.s400 (Sb' hi4 hl (a + 1) m ha (Nat.le_refl _)) (by omega) (by omega)) (In.s400 (In.mx fun b hb => Sb' hi4 hl b m (by omega) (Nat.le_refl _)) (by omega) (by omega)) (by omega) _) ?_
          rw [Nat.add_sub_cancel]
          walk_at "u"
          walk_at "if"
          · rename_i hc'
            have hlt := pos_num.mp hc'
            walk_at "u"
            refine ⟨some (.int ((a + 1 : Nat) : Int)), some (dQ (rs (fun w => jp m c t ws l (i + 1) w * g w (a + 1)) m)), x12, ?_⟩
            have e : mx (fun a => rs (fun w => jp m c t ws l (i + 1) w * g w a) m) (a + 1) = rs (fun w => jp m c t ws l (i + 1) w * g w (a + 1)) m := by
              unfold mx
              rw [if_pos]
              grind
            rw [if_neg (by omega), Nat.add_sub_cancel, e]
            rfl
          · rename_i hc'
            have hlt : ¬ 0 < rs (fun w => jp m c t ws l (i + 1) w * g w (a + 1)) m - mx (fun a => rs (fun w => jp m c t ws l (i + 1) w * g w a) m) a := fun h => hc' (pos_num.mpr h)
            walk_at "u"
            refine ⟨some (.int ((a + 1 : Nat) : Int)), some (dQ (rs (fun w => jp m c t ws l (i + 1) w * g w (a + 1)) m)), x12, ?_⟩
            have e : mx (fun a => rs (fun w => jp m c t ws l (i + 1) w * g w a) m) (a + 1) = mx (fun a => rs (fun w => jp m c t ws l (i + 1) w * g w a) m) a := by
              conv => lhs; unfold mx
              rw [if_neg]
              grind
            rw [if_neg (by omega), Nat.add_sub_cancel, e]
      · subst e1 e2
        rw [if_neg (by omega), Nat.add_sub_cancel]
        walk_at "u"
        refine ⟨S.length, _, rfl, get_last, ?_⟩
        walk_at "u"
        refine wM_append get_last (by rw [List.length_map]; exact hql) ?_
        rw [set_last]
        refine ⟨trivial, some (dN l), x8, some (dL m (jp m c t ws l (i + 1))), _, x11, x12, ?_, rfl⟩
        have e9 : qs.map dQ ++ [dQ (mx (fun a => rs (fun w => jp m c t ws l (i + 1) w * g w a) m) k)] = (qL m n k c t g ws i ++ (pre ++ [l]).map fun l => bst m k g (jp m c t ws l (i + 1))).map dQ := by
          rw [← hQ]
          simp [bst]
        rw [e9]
    · subst e1 e2
      exact ⟨trivial, _, _, _, _, _, _, _, rfl, rfl⟩
  · subst e1 e2
    rw [Nat.add_sub_cancel]
    walk_at "u"
    have hL := qL_len (m := m) (n := n) (k := k) (c := c) (t := t) (g := g) (ws := ws) hn K hK
    have hB := qb K hK
    have hsum := qL_sum (m := m) (n := n) (k := k) (c := c) (t := t) (g := g) (ws := ws) K
    generalize qL m n k c t g ws K = qs at hL hB hsum ⊢
    have hq : ∀ i, i < qs.length → PL.In (B20 ^ 9 * 6) 4096 (qs.getD i 0) := fun i hi => hB _ (by simp [hi])
    refine wF_eq (E_ltot (m := qs.length) (n := 400) (q := fun i => qs.getD i 0) (SeqQ.obj get_last) (fun i hi => In.s400 (hq i hi) (by omega) (by omega)) (fun i hi => In.s400 (In.rs_le (Nat.mul_pos (hp _) (by decide)) hq hi) (by omega) (Nat.mul_le_mul_right _ (by omega))) (by omega)) ?_
    refine wFin_P rfl rfl ⟨?_, rfl⟩
    rw [rs_getD_q, hsum]
theorem E_lgarb {m n k N : Nat} {t tab : Nat → Nat → Rat} (hn1 : 1 ≤ n) (hm : m ≤ 1000) (hn : n ≤ 1000) (hk : k ≤ 1000) (hs : ∀ i j, i < m → j < n → Sm N (t i j)) (hg : ∀ i j, i < n → j < k → Sm N (tab i j)) (hp : ∀ i j l, i < m → j < k → l ≤ n → Sm (N + N) (rs (fun s => t i s * tab s j) l)) (hN : N ≤ 1000) (S : Sto) : F__law_garbled [dM m n t, dM n k tab] S = some (dM m k (garb n t tab), S) := by
  apply wF_of
  unfold F__law_garbled t__law_garbled
  refine wF_fn rfl ?_
  walk_at "u"
  refine wS_seq ?_
  refine wS_forR (fun i ρ S' => ∃ x3 x4 x5, S' = S ++ [.lst (rg i fun w => dT k (garb n t tab w))] ∧ ρ = [some (dM m n t), some (dM n k tab), some (.obj S.length), x3, x4, x5]) ?_
  walk_at "u"
  refine ⟨m, fun w => dT n (t w), fun _ => True, rfl, ?_⟩
  refine ⟨m, _, rfl, ⟨none, none, none, rfl, rfl⟩, fun w ρ S' hw ⟨x3, x4, x5, e1, e2⟩ => ?_, fun ρ S' ⟨x3, x4, x5, e1, e2⟩ => ?_⟩
  · subst e1 e2
    walk_at "u"
    refine ⟨S.length, _, rfl, get_last, ?_⟩
    walk_at "u"
    refine wE_lcR ?_
    walk_at "u"
    refine ⟨k, rfl, by omega, k, _, fun j => dQ (garb n t tab w j), rfl, trivial, fun j hj => ?_, ?_⟩
    · walk_at "u"
      refine wE_lcR ?_
      walk_at "u"
      refine ⟨n, rfl, by omega, n, _, fun s => dQ (t w s * tab s j), rfl, trivial, fun s hs' => ?_, ?_⟩
      · walk_at "u"
        exact wF_eq (E_times (hs w s hw hs') (hg s j hs' hj) (by omega) _) ⟨rfl, rfl⟩
      · refine wF_lst (by simp; omega) ?_
        walk_at "u"
        exact wF_eq (E_ltot (m := n) (n := N + N) (q := fun s => t w s * tab s j) (.of (.inr rfl)) (fun s hs' => (hs w s hw hs').mul (hg s j hs' hj)) (fun l hl => hp w j l hw hj hl) (by omega)) ⟨rfl, rfl⟩
    · refine wF_lst (by simp; omega) ?_
      walk_at "u"
      refine wM_append get_last (by simp; omega) ?_
      rw [set_last]
      exact ⟨trivial, _, _, _, by rw [rg_succ]; rfl, rfl⟩
  · subst e1 e2
    walk_at "u"
    refine wF_tupOf (xs := rg m fun w => dT k (garb n t tab w)) (by simp only [seqD, get_last]) ?_
    exact wFin_P clos_dM rfl ⟨rfl, rfl⟩
theorem E_lfar {m n : Nat} (hm1 : 1 ≤ m) (hn1 : 1 ≤ n) (hm : m ≤ 100) (hn : n ≤ 100) (hf : 4 < m ∨ 4 < n) (S : Sto) : F__law_is_far [.int (m : Int), .int (n : Int)] S = some (.bl true, S) := by
  apply wF_of
  unfold F__law_is_far t__law_is_far
  refine wF_fn rfl ?_
  walk_at "u"
  refine wE_lcR ?_
  walk_at "u"
  refine ⟨m, rfl, by omega, m, _, fun w => dT n fun s => if s = 0 then (1 : Rat) else 0, rfl, trivial, fun w hw => ?_, ?_⟩
  · walk_at "u"
    refine wE_lcR ?_
    walk_at "u"
    refine ⟨n, rfl, by omega, n, _, fun s => dQ (if s = 0 then (1 : Rat) else 0), rfl, trivial, fun s hs => ?_, ?_⟩
    · walk_at "u"
      walk_at "if"
      · rename_i hc
        have hc : s = 0 := by omega
        walk_at "u"
        show _ = dQ (if s = 0 then (1 : Rat) else 0)
        rw [if_pos hc]
        rfl
      · rename_i hc
        have hc : ¬ s = 0 := by omega
        walk_at "u"
        show _ = dQ (if s = 0 then (1 : Rat) else 0)
        rw [if_neg hc]
        rfl
    · walk_at "u"
  · walk_at "u"
    refine wE_lcR ?_
    walk_at "u"
    refine ⟨m, rfl, by omega, m, _, fun w => .tup (rg m fun _ => .tup [.int 1, .int (m : Int)]), rfl, trivial, fun w hw => ?_, ?_⟩
    · walk_at "u"
      refine wE_lcR ?_
      walk_at "u"
      refine ⟨m, rfl, by omega, m, _, fun w => .tup [.int 1, .int (m : Int)], rfl, trivial, fun w hw => ?_, ?_⟩
      · walk_at "u"
      · walk_at "u"
    · walk_at "u"
      refine wS_seq ?_
      refine wS_try (wX_call ?_)
      walk_at "u"
      refine w2s_rep hm1 (by omega) ?_
      walk_at "u"
      refine wFx_def rfl (wX_call ?_)
      walk_at "u"
      refine wFx_def rfl (wX_if ?_)
      walk_at "u"
      refine ⟨fun hc => ?_, fun hc => ?_⟩
      · walk_at "u"
        refine wX_raise ?_
        walk_at "u"
        exact wFin_P0 rfl rfl ⟨rfl, rfl⟩
      · walk_at "u"
        refine ⟨fun _ => wX_raise ?_, fun h => ?_⟩
        · walk_at "u"
          exact wFin_P0 rfl rfl ⟨rfl, rfl⟩
        · exfalso
          have h1 := of_decide_eq_false hc
          have h2 := of_decide_eq_false h
          omega
end LW

set_option maxRecDepth 100000
set_option maxHeartbeats 4000000
namespace LW
open PySem DL PL
open Classical
local macro_rules | `(tactic| walk_at "env") => `(tactic| (simp only [startD, List.map_cons, List.map_nil, List.length_cons, List.length_nil, Nat.reduceAdd, Nat.reduceSub, List.replicate, List.cons_append, List.nil_append, wipeD, List.set]; try rfl))
local macro_rules | `(tactic| walk_at "sto") => `(tactic| (simp only [List.cons_append, List.nil_append, List.set, List.set_cons_zero, List.set_cons_succ, Int.toNat_natCast, Int.reduceToNat]; try rfl))
local macro_rules | `(tactic| walk_at "if") => `(tactic| (refine ⟨fun hc => ?_, fun hc => ?_⟩ <;> simp only [decide_eq_true_eq, decide_eq_false_iff_not, Bool.not_eq_true', Bool.not_eq_false', bne_iff_ne, ne_eq, beq_iff_eq] at hc <;> try (exfalso; first | assumption | omega | (simp at hc; done))))
local macro_rules | `(tactic| walk_at "side") => `(tactic| first | assumption | omega | decide | (simp; done) | (simp; omega))
local macro_rules | `(tactic| walk_at "mul") => `(tactic| first | assumption | exact mul_sm (by first | decide | omega) | exact mul_sm' (by first | decide | omega))
local macro_rules | `(tactic| walk_at "div") => `(tactic| first | assumption | exact div_sm (by omega) (by omega))
local macro_rules | `(tactic| walk_at "w1") => `(tactic| first
  | (guard_target = wS _ (List.set _ _ _) _ _ _; refine wS_env (by walk_at "env") ?_)
  | (guard_target = wE _ (List.set _ _ _) _ _; refine wE_env (by walk_at "env") ?_)
  | (guard_target = wG _ _ (wipeD _ _) _ _; refine wG_env (by walk_at "env") ?_)
  | (guard_target = wS _ (startD _ _) _ _ _; refine wS_env (by walk_at "env") ?_)
  | (guard_target = wS (sSeq (sSet _ _) _) _ _ _ _; refine wS_seq ?_)
  | (guard_target = wS (sSeq (sAsg _ _) _) _ _ _ _; refine wS_seq ?_)
  | (guard_target = wS (sSeq (sExpr _) _) _ _ _ _; refine wS_seq ?_)
  | (guard_target = wS (sSeq (sPar _ _ _) _) _ _ _ _; refine wS_seq ?_)
  | (guard_target = wS (sSeq (sPar3 _ _ _ _) _) _ _ _ _; refine wS_seq ?_)
  | (guard_target = wS (sSeq (sAug _ _ _) _) _ _ _ _; refine wS_seq ?_)
  | (guard_target = wS (sSeq (sSeq _ _) _) _ _ _ _; refine wS_seq ?_)
  | (guard_target = wS _ _ (List.set _ _ _) _ _; refine wS_sto (by walk_at "sto") ?_)
  | (guard_target = wE _ _ (List.set _ _ _) _; refine wE_sto (by walk_at "sto") ?_)
  | (guard_target = wG (gIx _ _) _ _ _ _; refine wG_ix2 ?_)
  | (guard_target = ∃ (_ : Nat) (_ : Int) (_ : Nat) (_ : List D), _; refine ⟨_, _, _, _, rfl, rfl, rfl, rfl, ?_⟩)
  | (guard_target = wS (sSet _ _) _ _ _ _; refine wS_set ?_)
  | (guard_target = wS (sRet _) _ _ _ _; refine wS_ret ?_)
  | (guard_target = wS (sExpr _) _ _ _ _; refine wS_expr ?_)
  | (guard_target = wS sPass _ _ _ _; refine wS_pass ?_)
  | (guard_target = wS sBreak _ _ _ _; refine wS_break ?_)
  | (guard_target = wS sCont _ _ _ _; refine wS_cont ?_)
  | (guard_target = wS (sIf _ _ _) _ _ _ _; refine wS_if ?_)
  | (guard_target = wS (sAsg _ _) _ _ _ _; refine wS_asg ?_)
  | (guard_target = wS (sPar _ _ _) _ _ _ _; refine wS_par ?_)
  | (guard_target = wS (sPar3 _ _ _ _) _ _ _ _; refine wS_par3 ?_)
  | (guard_target = wS (sAug _ _ _) _ _ _ _; refine wS_aug rfl ?_)
  | (guard_target = wE (eV _) _ _ _; refine wE_v rfl ?_)
  | (guard_target = wE (eC _) _ _ _; refine wE_c ?_)
  | (guard_target = wE (e1 _ _) _ _ _; refine wE_1 ?_)
  | (guard_target = wE (e2 _ _ _) _ _ _; refine wE_2 ?_)
  | (guard_target = wE (e2s _ _ _) _ _ _; refine wE_2s ?_)
  | (guard_target = wE (eA _ _) _ _ _; refine wE_A ?_)
  | (guard_target = wA (aCons _ _) _ _ _; refine wA_cons ?_)
  | (guard_target = wA aNil _ _ _; refine wA_nil ?_)
  | (guard_target = wE (eM _ _ _) _ _ _; refine wE_M ?_)
  | (guard_target = wE (eAnd _ _) _ _ _; refine wE_and ?_)
  | (guard_target = wE (eOr _ _) _ _ _; refine wE_or ?_)
  | (guard_target = wE (eIf _ _ _) _ _ _; refine wE_if ?_)
  | (guard_target = wE (eChain _ _ _ _ _) _ _ _; refine wE_chain ?_)
  | (guard_target = wE (eLc _ _ _ tYesD _ _) _ _ _; refine wE_lcR ?_)
  | (guard_target = wE (eLc2 _ _ _ tYesD _ _ tYesD _ _ _) _ _ _; refine wE_lc2R ?_)
  | (guard_target = wE (eBl _) _ _ _; refine wE_bl ?_)
  | (guard_target = wE (eSl _ _ _ _) _ _ _; refine wE_sl ?_)
  | (guard_target = wE (eSlS _ _ _ _) _ _ _; refine wE_slS ?_)
  | (guard_target = wO oNo _ _ _; refine wO_no ?_)
  | (guard_target = wO (oSome _) _ _ _; refine wO_some ?_)
  | (guard_target = ∃ _ : Int, _; refine ⟨_, rfl, ?_⟩)
  | (guard_target = wSl _ (.tup _) _ _ _ _; refine wSl_tup ?_)
  | (guard_target = wSl _ (.lst _) _ _ _ _; refine wSl_lst ?_)
  | (guard_target = wSl _ (.scr _) _ _ _ _; refine wSl_scr ?_)
  | (guard_target = wT (tBl _) _ _ _; refine wT_bl ?_)
  | (guard_target = wT (tTru _) _ _ _; refine wT_tru ?_)
  | (guard_target = wT (tNotD _) _ _ _; refine wT_not ?_)
  | (guard_target = wT (tAndD _ _) _ _ _; refine wT_and ?_)
  | (guard_target = wT (tOrD _ _) _ _ _; refine wT_or ?_)
  | (guard_target = wT (tIfD _ _ _) _ _ _; refine wT_if ?_)
  | (guard_target = wT tYesD _ _ _; refine wT_yes ?_)
  | (guard_target = wT (tGenQ _ _ _ tYesD _ _) _ _ _; refine wT_genR ?_)
  | (guard_target = wT (tGenQ2 _ _ _ tYesD _ _ tYesD _ _ _) _ _ _; refine wT_gen2R ?_)
  | (guard_target = wI (iSeq _) _ _ _; refine wI_seqR ?_)
  | (guard_target = wI (iRange1 _) _ _ _; refine wI_rangeR ?_)
  | (guard_target = wI (iRange2 _ _) _ _ _; refine wI_range2R ?_)
  | (guard_target = wI (iZip (aCons _ (aCons _ aNil))) _ _ _; refine wI_zipR ?_)
  | (guard_target = wI (iEnum (aCons _ aNil)) _ _ _; refine wI_enumR ?_)
  | (guard_target = wG (gNm _) _ _ _ _; refine wG_nm ?_)
  | (guard_target = wG (gTp _ _) _ _ _ _; refine wG_tp rfl ?_)
  | (guard_target = wGs (gsCons _ _) _ _ _ _; refine wGs_cons ?_)
  | (guard_target = wGs gsNil _ _ _ _; refine wGs_nil ?_)
  | (guard_target = w2 fAdd _ _ _ _; refine w2_add ?_)
  | (guard_target = w2 fSub _ _ _ _; refine w2_sub ?_)
  | (guard_target = w2 fMul _ _ _ _; refine w2_mul (by walk_at "mul") ?_)
  | (guard_target = w2 fDiv _ _ _ _; refine w2_div (by walk_at "div") ?_)
  | (guard_target = w2 fMod _ _ _ _; refine w2_mod (by walk_at "side") ?_)
  | (guard_target = w2 (fCmp _) _ _ _ _; refine w2_cmp ?_)
  | (guard_target = w2 fEq (.int _) (.int _) _ _; refine w2_eqI ?_)
  | (guard_target = w2 fNe (.int _) (.int _) _ _; refine w2_neI ?_)
  | (guard_target = w2 fIx _ (.int _) _ _; refine w2_eq rfl ?_)
  | (guard_target = w2 fIx _ (.int 0) _ _; refine w2_ix0 rfl (by walk_at "side") ?_)
  | (guard_target = w2 fIx _ (.int (Nat.cast _)) _ _; refine w2_ixR rfl (by walk_at "side") ?_)
  | (guard_target = w2s (fPlus _) (.int _) (.int _) _ _; refine w2s_plusI ?_)
  | (guard_target = w2s (fTimes _) (.int _) (.int _) _ _; refine w2s_timesI (by walk_at "mul") ?_)
  | (guard_target = w2 fPow (.int _) (.int _) _ _; refine w2_pow (by decide) (by decide) (by decide) ?_)
  | (guard_target = w2 fIsB _ _ _ _; refine w2_eq rfl ?_)
  | (guard_target = w2 fNotB _ _ _ _; refine w2_eq rfl ?_)
  | (guard_target = w2 fIsN _ _ _ _; refine w2_eq rfl ?_)
  | (guard_target = w2 fNotN _ _ _ _; refine w2_eq rfl ?_)
  | (guard_target = w1 _ _ _ _; refine w1_eq rfl ?_)
  | (guard_target = wTru _ _ _; refine wTru_eq rfl ?_)
  | (guard_target = wF fTup _ _ _; refine wF_tup (by walk_at "side") ?_)
  | (guard_target = wF fLst _ _ _; refine wF_lst (by walk_at "side") ?_)
  | (guard_target = wF fObj _ _ _; refine wF_obj (by walk_at "side") ?_)
  | (guard_target = wF fLen [dQ _] _ _; refine wF_len2 ?_)
  | (guard_target = wF fLen _ _ _; refine wF_lenR rfl ?_)
  | (guard_target = wF fAbs _ _ _; refine wF_abs ?_)
  | (guard_target = wF fInt1 [.int _] _ _; refine wF_int ?_)
  | (guard_target = wF fInt1 [.bl _] _ _; refine wF_intB ?_)
  | (guard_target = wF fListF _ _ _; refine wF_listF rfl ?_)
  | (guard_target = wF fListO _ _ _; refine wF_listO rfl ?_)
  | (guard_target = wF fTupOf _ _ _; refine wF_tupOf rfl ?_)
  | (guard_target = wF fSum _ _ _; refine wF_sumR rfl ?_)
  | (guard_target = wF fMax2 _ _ _; refine wF_max2 ?_)
  | (guard_target = wF fMin2 _ _ _; refine wF_min2 ?_)
  | (guard_target = (false = true → _) ∧ _; refine ⟨fun h => (nomatch h), fun _ => ?_⟩)
  | (guard_target = (true = true → _) ∧ _; refine ⟨fun _ => ?_, fun h => (nomatch h)⟩)
  | (guard_target = ((!false) = true → _) ∧ _; refine ⟨fun _ => ?_, fun h => (nomatch h)⟩)
  | (guard_target = ((!true) = true → _) ∧ _; refine ⟨fun h => (nomatch h), fun _ => ?_⟩)
  | (guard_target = (isNon _ = true → _) ∧ _; first | refine ⟨fun h => absurd h Bool.false_ne_true, fun _ => ?_⟩ | refine ⟨fun _ => ?_, fun h => absurd h.symm Bool.false_ne_true⟩)
  | (guard_target = ((!isNon _) = true → _) ∧ _; first | refine ⟨fun h => absurd h Bool.false_ne_true, fun _ => ?_⟩ | refine ⟨fun _ => ?_, fun h => absurd h.symm Bool.false_ne_true⟩)
  | (guard_target = (_ = true → _) ∧ (_ = false → _); first | refine ⟨fun h => absurd h (by decide), fun _ => ?_⟩ | refine ⟨fun _ => ?_, fun h => absurd h (by decide)⟩)
  | (guard_target = (_ = _) ∧ _; refine ⟨rfl, ?_⟩)
  | (guard_target = _ ∧ (_ = _); refine ⟨?_, rfl⟩)
  | (guard_target = True ∧ _; refine ⟨trivial, ?_⟩)
  | (guard_target = ∃ _ : Bool, _; refine ⟨_, rfl, ?_⟩)
  | (guard_target = ∃ (_ _ : D), _; refine ⟨_, _, rfl, ?_⟩)
  | (guard_target = ∃ (_ _ _ : D), _; refine ⟨_, _, _, rfl, ?_⟩)
  | rfl)
local macro_rules | `(tactic| walk_at "w") => `(tactic| repeat' (walk_at "w1"))
local macro_rules | `(tactic| walk_at "v") => `(tactic| repeat' ((fail_if_success (guard_target = wE (eLc _ _ _ _ _ _) _ _ _)); walk_at "w1"))
local macro_rules | `(tactic| walk_at "g") => `(tactic| (repeat' (first
  | (guard_target = wG (gNm _) _ _ _ _; refine wG_nm ?_)
  | (guard_target = wG (gTp _ _) _ _ _ _; refine wG_tp rfl ?_)
  | (guard_target = wGs (gsCons _ _) _ _ _ _; refine wGs_cons ?_)
  | (guard_target = wGs gsNil _ _ _ _; refine wGs_nil ?_)
  | (guard_target = wS _ (List.set _ _ _) _ _ _; refine wS_env (by walk_at "env") ?_)
  | (guard_target = wE _ (List.set _ _ _) _ _; refine wE_env (by walk_at "env") ?_))))
local macro_rules | `(tactic| walk_at "u") => `(tactic| repeat' ((fail_if_success (guard_target = wE (eLc _ _ _ _ _ _) _ _ _)); (fail_if_success (guard_target = wE (eLc2 _ _ _ _ _ _ _ _ _ _) _ _ _)); (fail_if_success (guard_target = wT (tGenQ _ _ _ _ _ _) _ _ _)); (fail_if_success (guard_target = wT (tGenQ2 _ _ _ _ _ _ _ _ _ _) _ _ _)); walk_at "w1"))
theorem jp_in3 {m n : Nat} {c t : Nat → Nat → Rat} {ws : Nat → Rat} {l : List Nat} {j : Nat} (hl : l ∈ rws n j) (hm : m ≤ 4) (hw : ∀ w, w < m → PL.In B20 1 (ws w)) (hc : ∀ i j, i < m → j < m → PL.In B20 1 (c i j)) (ht : ∀ i j, i < m → j < n → PL.In (B20 * B20) 1 (t i j)) :
    ∀ k, k ≤ j → ∀ w, w < m → PL.In (B20 ^ (3 * k + 1)) (4 ^ k) (jp m c t ws l k w)
  | 0, _, w, hw' => by
    show PL.In (B20 ^ (3 * 0 + 1)) (4 ^ 0) (ws w)
    exact (hw w hw').mono (by decide) (by decide)
  | k + 1, hk, w, hw' => by
    have ih := jp_in3 hl hm hw hc ht k (by omega)
    have hp : ∀ e, 0 < B20 ^ e := fun e => Nat.pow_pos (by decide)
    have hs := rws_at hl (show k < j by omega)
    have h1 : PL.In (B20 ^ (3 * k + 2)) (4 ^ (k + 1)) ((if k = 0 then jp m c t ws l k else mvd m c (jp m c t ws l k)) w) := by
      by_cases h0 : k = 0
      · rw [if_pos h0]
        exact (ih w hw').mono (Nat.pow_dvd_pow _ (by omega)) (Nat.pow_le_pow_right (by omega) (by omega))
      · rw [if_neg h0]
        have : PL.In (B20 ^ (3 * k + 1) * B20) (m * (4 ^ k * 1)) (mvd m c (jp m c t ws l k) w) := In.rs (Nat.mul_pos (hp _) (by decide)) fun w' hw'' => (ih w' hw'').mul (hp _) (by decide) (hc w' w hw'' hw')
        refine this.mono (by rw [← Nat.pow_succ]; exact Nat.dvd_refl _) ?_
        rw [Nat.mul_one, Nat.pow_succ, Nat.mul_comm (4 ^ k)]
        exact Nat.mul_le_mul_right _ hm
    have h2 := h1.mul (hp _) (by decide) (ht w _ hw' hs)
    refine h2.mono (by rw [← Nat.mul_assoc, ← Nat.pow_succ, ← Nat.pow_succ]; exact Nat.dvd_refl _) (by rw [Nat.mul_one]; exact Nat.le_refl _)
theorem swv_sm {m n k K : Nat} {c t g : Nat → Nat → Rat} {ws : Nat → Rat} (hm : m ≤ 4) (hn : n ≤ 4) (hk : k ≤ 3) (hK : K ≤ 4) (hw : ∀ w, w < m → PL.In B20 1 (ws w)) (hc : ∀ i j, i < m → j < m → PL.In B20 1 (c i j)) (ht : ∀ i j, i < m → j < n → PL.In (B20 * B20) 1 (t i j)) (hg : ∀ i j, i < m → j < k + 1 → PL.In 6 4 (g i j)) : Sm 400 (swv m n k c t g ws K) := by
  have hp : ∀ e, 0 < B20 ^ e := fun e => Nat.pow_pos (by decide)
  have p4 : ∀ {k}, k ≤ 4 → 4 ^ k ≤ 256 := fun {k} hk => Nat.le_trans (Nat.pow_le_pow_right (by omega) hk) (by decide)
  have qb : ∀ i, i ≤ 4 → ∀ x ∈ qL m n k c t g ws i, PL.In (B20 ^ 13 * 6) 4096 x := fun i => by
    induction i with
    | zero => intro _ x hx; simp [qL] at hx
    | succ i ih =>
      intro hi x hx
      unfold qL at hx
      rcases List.mem_append.mp hx with h | h
      · exact ih (by omega) x h
      · obtain ⟨l, hl, rfl⟩ := List.mem_map.mp h
        refine In.mx fun a ha => ?_
        have : PL.In (B20 ^ 13 * 6) (m * (256 * 4)) (rs (fun w => jp m c t ws l (i + 1) w * g w a) m) := In.rs (Nat.mul_pos (hp _) (by decide)) fun w hw' => ((jp_in3 hl hm hw hc ht (i + 1) (Nat.le_refl _) w hw').mono (Nat.pow_dvd_pow _ (by omega)) (p4 hi)).mul (hp _) (by decide) (hg w a hw' (by omega))
        exact this.mono (Nat.dvd_refl _) (by omega)
  have hL := qL_len (m := m) (n := n) (k := k) (c := c) (t := t) (g := g) (ws := ws) hn K hK
  have hB := qb K hK
  have hsum := qL_sum (m := m) (n := n) (k := k) (c := c) (t := t) (g := g) (ws := ws) K
  generalize qL m n k c t g ws K = qs at hL hB hsum
  rw [← hsum, ← rs_getD_q]
  have h1 : PL.In (B20 ^ 13 * 6) (qs.length * 4096) (rs (fun i => qs.getD i 0) qs.length) := In.rs (Nat.mul_pos (hp _) (by decide)) fun i hi => hB _ (by simp [hi])
  refine (h1.mono (Nat.dvd_refl _) (Nat.mul_le_mul_right 4096 (by omega : qs.length ≤ 1024))).sm (Nat.mul_pos (hp _) (by decide)) (by decide +kernel)
theorem law_holds (ns : List Int) (hl : ns.length ≤ 63) (hb : ∀ z ∈ ns, Builtin.Int.intBits z ≤ 1048576) : F_law [.scr (ns.map D.int)] [] = some (.bl true, []) := by
  apply wF_of
  unfold F_law t_law
  refine wF_fn rfl ?_
  walk_at "u"
  refine pool_w hl fun S1 hs1 => ?_
  walk_at "u"
  refine wS_cut (fun ρ S' => ∃ (x2 x3 x4 x5 x6 x7 x8 x9 x10 x11 x12 : Option D), St pz [] S' ∧ ρ = [some (.scr (ns.map D.int)), some (.obj 0), x2, x3, x4, x5, x6, x7, x8, x9, x10, x11, x12]) ?_ ?_
  · refine wS_forR (fun _ ρ S' => ∃ (x2 x3 x4 x5 x6 x7 x8 x9 x10 x11 x12 : Option D), St pz [] S' ∧ ρ = [some (.scr (ns.map D.int)), some (.obj 0), x2, x3, x4, x5, x6, x7, x8, x9, x10, x11, x12]) ?_
    walk_at "u"
    refine ⟨3, rfl, by omega, 3, _, rfl, ⟨none, none, none, none, none, none, none, none, none, none, none, hs1, rfl⟩, fun i ρ S2 hi ⟨x2, x3, x4, x5, x6, x7, x8, x9, x10, x11, x12, hs2, eq⟩ => ?_, fun ρ S2 h => h⟩
    subst eq
    walk_at "u"
    have fin2 : ∀ x : D, x ∈ [D.int 1, .int 2, .int 2, .int 3, .int 4] → ∃ m : Nat, x = .int (m : Int) ∧ 1 ≤ m ∧ m ≤ 4 := fun x hx => by
      simp only [List.mem_cons, List.not_mem_nil, or_false] at hx
      rcases hx with z | z | z | z | z <;> subst z
      · exact ⟨1, rfl, by omega, by omega⟩
      · exact ⟨2, rfl, by omega, by omega⟩
      · exact ⟨2, rfl, by omega, by omega⟩
      · exact ⟨3, rfl, by omega, by omega⟩
      · exact ⟨4, rfl, by omega, by omega⟩
    refine pick_w hs2 .nil (by simp) (by simp) (by intro x hx; obtain ⟨m, rfl, _⟩ := fin2 x hx; exact ⟨rfl, rfl⟩) fun x S3 hs3 hx => ?_
    obtain ⟨m, rfl, hm1, hm⟩ := fin2 x hx
    walk_at "u"
    have fin3 : ∀ x : D, x ∈ [D.int 1, .int 2, .int 2, .int 3] → ∃ m : Nat, x = .int (m : Int) ∧ 1 ≤ m ∧ m ≤ 4 := fun x hx => fin2 x (by
      simp only [List.mem_cons, List.not_mem_nil, or_false] at hx ⊢
      rcases hx with z | z | z | z <;> subst z <;> simp)
    refine pick_w hs3 .nil (by simp) (by simp) (by intro x hx; obtain ⟨m, rfl, _⟩ := fin3 x hx; exact ⟨rfl, rfl⟩) fun x S4 hs4 hx => ?_
    obtain ⟨n, rfl, hn1, hn⟩ := fin3 x hx
    have stp : ∀ (Q : D → Sto → Prop), (∀ (K : Nat) S5, 1 ≤ K → K ≤ 4 → St pz [] S5 → Q (.int (K : Int)) S5) → wE (eA F__law_pick (aCons (eV 1) (aCons (eIf (tBl (e2 (fCmp fun i j => decide (i < j)) (eV 8) (eC (.int 3)))) (eA fLst (aCons (eC (.int 1)) (aCons (eC (.int 2)) (aCons (eC (.int 3)) (aCons (eC (.int 4)) aNil))))) (eA fLst (aCons (eC (.int 1)) (aCons (eC (.int 2)) (aCons (eC (.int 3)) aNil))))) aNil))) [some (.scr (ns.map D.int)), some (.obj 0), some (.int (i : Nat)), x3, x4, x5, x6, some (.int (m : Int)), some (.int (n : Int)), x9, x10, x11, x12] S4 Q := fun Q q => by
      walk_at "u"
      walk_at "if"
      · walk_at "u"
        have fin4 : ∀ x : D, x ∈ [D.int 1, .int 2, .int 3, .int 4] → ∃ m : Nat, x = .int (m : Int) ∧ 1 ≤ m ∧ m ≤ 4 := fun x hx => fin2 x (by
          simp only [List.mem_cons, List.not_mem_nil, or_false] at hx ⊢
          rcases hx with z | z | z | z <;> subst z <;> simp)
        refine pick_w hs4 .nil (by simp) (by simp) (by intro x hx; obtain ⟨m, rfl, _⟩ := fin4 x hx; exact ⟨rfl, rfl⟩) fun x S5 hs5 hx => ?_
        obtain ⟨K, rfl, hK1, hK⟩ := fin4 x hx
        exact q K S5 hK1 hK hs5
      · walk_at "u"
        have fin4 : ∀ x : D, x ∈ [D.int 1, .int 2, .int 3] → ∃ m : Nat, x = .int (m : Int) ∧ 1 ≤ m ∧ m ≤ 4 := fun x hx => fin2 x (by
          simp only [List.mem_cons, List.not_mem_nil, or_false] at hx ⊢
          rcases hx with z | z | z <;> subst z <;> simp)
        refine pick_w hs4 .nil (by simp) (by simp) (by intro x hx; obtain ⟨m, rfl, _⟩ := fin4 x hx; exact ⟨rfl, rfl⟩) fun x S5 hs5 hx => ?_
        obtain ⟨K, rfl, hK1, hK⟩ := fin4 x hx
        exact q K S5 hK1 hK hs5
    refine wA_nil ?_
    refine ⟨_, _, rfl, ?_⟩
    refine wS_env (by walk_at "env") ?_
    refine wS_seq (wS_set (stp _ fun K S5 hK1 hK hs5 => ?_))
    walk_at "u"
    refine row_w hs5 .nil hm1 hm fun ws S6 hs6 hw => ?_
    walk_at "u"
    refine change_w hs6 .nil hm1 hm fun c S7 hs7 hc => ?_
    walk_at "u"
    refine telling_w hs7 .nil hm1 hm hn1 hn fun t S8 hs8 ht => ?_
    walk_at "u"
    refine draw_w hs8 .nil (by omega) (by omega) fun k S9 hs9 hk => ?_
    walk_at "u"
    rw [show (1 : Int) + (k : Int) = ((k + 1 : Nat) : Int) from by omega]
    refine gains_w hs9 .nil (by omega) (by omega) fun g S10 hs10 hg => ?_
    walk_at "u"
    have iw : ∀ w, w < m → PL.In B20 1 (ws w) := fun w h => hw.inB w h
    have ic : ∀ i j, i < m → j < m → PL.In B20 1 (c i j) := fun i j hi hj => (hc i hi).inB j hj
    have it : ∀ i j, i < m → j < n → PL.In B20 1 (t i j) := fun i j hi hj => (ht i hi).inB j hj
    refine wF_eq (E_lworth hm1 hm hn1 hn (by omega) hK iw ic it hg _) ?_
    walk_at "u"
    have pw := fun S => E_step_worth (S := S) (k := k) (K := K) (Bw := B20) (Bc := B20) (Bt' := B20) (Bg := 6) hm1 hm hn1 hn (by omega) hK1 hK (by decide) (by decide) (by decide) (by decide) iw ic it hg (by decide) (by decide) (by decide) (by decide)
    refine wS_seq ?_
    walk_at "u"
    refine wF_eq (pw _) ?_
    walk_at "u"
    refine wF_eq (same_dQ (k := 6) _) ?_
    walk_at "u"
    refine wS_seq ?_
    walk_at "u"
    refine wF_eq (pw _) ?_
    walk_at "u"
    refine wF_eq (same_dQ (k := 6) _) ?_
    walk_at "u"
    refine wE_lcRI (β := Nat → Rat) (fun _ S' => St pz [] S') (dT 2) (fun _ r => Row B20 2 r) ?_
    walk_at "w"
    refine ⟨n, rfl, by omega, n, _, rfl, hs10, fun j S11 hj hs11 => ?_, fun tab S11 hs11 htab => ?_⟩
    · walk_at "w"
      refine row_w (m := 2) hs11 .nil (by omega) (by omega) fun r S12 hs12 hr => ?_
      walk_at "w"
      exact ⟨r, rfl, hr, trivial, hs12⟩
    refine wF_lst (by simp; omega) ?_
    walk_at "u"
    have itab : ∀ i j, i < n → j < 2 → PL.In B20 1 (tab i j) := fun i j hi hj => (htab i hi).inB j hj
    have s40 : ∀ {q : Rat}, PL.In B20 1 q → Sm 100 q := fun h => h.sm (by decide) (by decide)
    have ig : ∀ i j, i < m → j < 2 → PL.In (B20 * B20) 1 (garb n t tab i j) := fun i j hi hj => by
      have h1 : PL.In (B20 * B20) (n * (1 * 1)) (garb n t tab i j) := In.rs (by decide) fun s hs => (it i s hi hs).mul (by decide) (by decide) (itab s j hs hj)
      have h0 : 0 ≤ garb n t tab i j := rs_nn fun s hs => Rat.mul_nonneg ((ht i hi).nn s hs) ((htab s hs).nn j hj)
      have h2 : garb n t tab i j ≤ 1 := by
        rw [← (ht i hi).sum]
        refine rs_le fun s hs => ?_
        have := Rat.mul_le_mul_of_nonneg_left (itab s j hs hj).le ((ht i hi).nn s hs)
        have e : ((1 : Nat) : Rat) = 1 := rfl
        rw [e, Rat.mul_one] at this
        exact this
      refine ⟨h1.den, h2, ?_⟩
      have e : ((1 : Nat) : Rat) = 1 := rfl
      rw [e]
      grind
    refine wF_eq (E_lgarb (N := 100) (k := 2) hn1 (by omega : m ≤ 1000) (by omega) (by omega) (fun i j hi hj => s40 (it i j hi hj)) (fun i j hi hj => s40 (itab i j hi hj)) (fun i j l hi hj hl => (In.rs_le (by decide) (fun s hs => (it i s hi hs).mul (by decide) (by decide) (itab s j hs hj)) hl).mono (N := 16) (Nat.dvd_refl _) (by omega) |>.sm (by decide) (by decide)) (by omega) _) ?_
    walk_at "u"
    have pw2 := fun S => E_step_worth (S := S) (k := k) (K := K) (t := garb n t tab) (n := 2) (Bw := B20) (Bc := B20) (Bt' := B20 * B20) (Bg := 6) hm1 hm (by omega) (by omega) (by omega) hK1 hK (by decide) (by decide) (by decide) (by decide) iw ic ig hg (by decide) (by decide) (by decide) (by decide)
    refine wF_eq (pw2 _) ?_
    walk_at "u"
    have i2 : ∀ i j, i < m → j < n → PL.In (B20 * B20) 1 (t i j) := fun i j hi hj => (it i j hi hj).mono (Nat.dvd_mul_right _ _) (Nat.le_refl _)
    refine wF_eq (E_lless (swv_sm hm hn (by omega) hK iw ic i2 hg) (swv_sm hm (by omega) (by omega) hK iw ic ig hg) (by omega) _) ?_
    have hle := swv_garb (m := m) (n := n) (k := 2) (a := k) (c := c) (t := t) (tab := tab) (g := g) (ws := ws) (fun s j hs hj => (htab s hs).nn j hj) (fun s hs => (htab s hs).sum) K
    have hnn : ¬ (swv m n k c t g ws K - swv m 2 k c (garb n t tab) g ws K).num < 0 := fun h => by
      have := neg_num.mp h
      grind
    walk_at "u"
    rw [decide_eq_false hnn]
    walk_at "u"
    exact ⟨_, _, _, _, _, _, _, _, _, _, _, hs11, rfl⟩
  · rintro ρ S2 ⟨x2, x3, x4, x5, x6, x7, x8, x9, x10, x11, x12, hs2, rfl⟩
    walk_at "u"
    have fin : ∀ x : D, x ∈ [D.tup [.int 5, .int 2], .tup [.int 2, .int 5], .tup [.int 6, .int 5], .tup [.int 4, .int 12]] → ∃ m n : Nat, x = .tup [.int (m : Int), .int (n : Int)] ∧ 1 ≤ m ∧ 1 ≤ n ∧ m ≤ 100 ∧ n ≤ 100 ∧ (4 < m ∨ 4 < n) := fun x hx => by
      simp only [List.mem_cons, List.not_mem_nil, or_false] at hx
      rcases hx with z | z | z | z <;> subst z
      · exact ⟨5, 2, rfl, by omega, by omega, by omega, by omega, by omega⟩
      · exact ⟨2, 5, rfl, by omega, by omega, by omega, by omega, by omega⟩
      · exact ⟨6, 5, rfl, by omega, by omega, by omega, by omega, by omega⟩
      · exact ⟨4, 12, rfl, by omega, by omega, by omega, by omega, by omega⟩
    refine pick_w hs2 .nil (by simp) (by simp) (by intro x hx; obtain ⟨m, n, rfl, _⟩ := fin x hx; exact ⟨rfl, rfl⟩) fun x S3 hs3 hx => ?_
    obtain ⟨m, n, rfl, h1, h2, h3, h4, h5⟩ := fin x hx
    walk_at "u"
    refine wF_eq (E_lfar h1 h2 h3 h4 h5 _) ?_
    obtain ⟨P, _, rfl⟩ := hs3
    exact wFin_P rfl rfl ⟨rfl, rfl⟩
end LW

set_option maxRecDepth 100000
set_option maxHeartbeats 4000000
set_option pp.maxSteps 900
namespace LW
open PySem PySem.Spec PyProof.Rows L2 GX DL LamX
theorem all_mk {l : PySem.W.OpenLaw} {w : World} {K : PySem.W.Frag} {mg : Str → Option Value} {fa : Addr} {h : Heap} {q : Program} (KX : K.In h) (Gn : h.Ns mainGlobals mg) (hfa : mg "law" = some (.ref fa))
    (own : ∀ y : Str, ((recsOf q).any fun e => e.name == y) = true → ∀ f, mg y = some (.ref f) → OwnTab K f h)
    (hlaw : ∀ ns : List Int, ns.length ≤ 63 → (∀ z ∈ ns, Builtin.Int.intBits z ≤ 1048576) → F_law [.scr (ns.map D.int)] [] = some (.bl true, []))
    {f_common_part c_common_part : Addr} {od_common_part an_common_part : Option Addr} {sl_common_part : Array (Option Value)} {oc_common_part kV_common_part dc_common_part pm_common_part ct_common_part : Value}
    (a_common_part : PySem.W.nsIn K mainGlobals "common_part" = some (some (.ref f_common_part))) (l_common_part : K.lookup f_common_part = some ⟨oc_common_part, od_common_part, .func (PySem.W.fnOf "common_part" "common_part" (defArgs s_common_part) (defBody s_common_part) (defScope s_common_part) .none kV_common_part dc_common_part pm_common_part an_common_part (.ref c_common_part) ct_common_part), sl_common_part⟩) (d_common_part : PySem.W.codeIn K (.ref c_common_part) "common_part" = true) (k_common_part : PySem.W.keepIn K (.ref f_common_part) = true)
    {f_lowest c_lowest : Addr} {od_lowest an_lowest : Option Addr} {sl_lowest : Array (Option Value)} {oc_lowest kV_lowest dc_lowest pm_lowest ct_lowest : Value}
    (a_lowest : PySem.W.nsIn K mainGlobals "lowest" = some (some (.ref f_lowest))) (l_lowest : K.lookup f_lowest = some ⟨oc_lowest, od_lowest, .func (PySem.W.fnOf "lowest" "lowest" (defArgs s_lowest) (defBody s_lowest) (defScope s_lowest) .none kV_lowest dc_lowest pm_lowest an_lowest (.ref c_lowest) ct_lowest), sl_lowest⟩) (d_lowest : PySem.W.codeIn K (.ref c_lowest) "lowest" = true) (k_lowest : PySem.W.keepIn K (.ref f_lowest) = true)
    {f_bottom_of c_bottom_of : Addr} {od_bottom_of an_bottom_of : Option Addr} {sl_bottom_of : Array (Option Value)} {oc_bottom_of kV_bottom_of dc_bottom_of pm_bottom_of ct_bottom_of : Value}
    (a_bottom_of : PySem.W.nsIn K mainGlobals "bottom_of" = some (some (.ref f_bottom_of))) (l_bottom_of : K.lookup f_bottom_of = some ⟨oc_bottom_of, od_bottom_of, .func (PySem.W.fnOf "bottom_of" "bottom_of" (defArgs s_bottom_of) (defBody s_bottom_of) (defScope s_bottom_of) .none kV_bottom_of dc_bottom_of pm_bottom_of an_bottom_of (.ref c_bottom_of) ct_bottom_of), sl_bottom_of⟩) (d_bottom_of : PySem.W.codeIn K (.ref c_bottom_of) "bottom_of" = true) (k_bottom_of : PySem.W.keepIn K (.ref f_bottom_of) = true)
    {f_wholes c_wholes : Addr} {od_wholes an_wholes : Option Addr} {sl_wholes : Array (Option Value)} {oc_wholes kV_wholes dc_wholes pm_wholes ct_wholes : Value}
    (a_wholes : PySem.W.nsIn K mainGlobals "wholes" = some (some (.ref f_wholes))) (l_wholes : K.lookup f_wholes = some ⟨oc_wholes, od_wholes, .func (PySem.W.fnOf "wholes" "wholes" (defArgs s_wholes) (defBody s_wholes) (defScope s_wholes) .none kV_wholes dc_wholes pm_wholes an_wholes (.ref c_wholes) ct_wholes), sl_wholes⟩) (d_wholes : PySem.W.codeIn K (.ref c_wholes) "wholes" = true) (k_wholes : PySem.W.keepIn K (.ref f_wholes) = true)
    {f_rows_over c_rows_over : Addr} {od_rows_over an_rows_over : Option Addr} {sl_rows_over : Array (Option Value)} {oc_rows_over kV_rows_over dc_rows_over pm_rows_over ct_rows_over : Value}
    (a_rows_over : PySem.W.nsIn K mainGlobals "rows_over" = some (some (.ref f_rows_over))) (l_rows_over : K.lookup f_rows_over = some ⟨oc_rows_over, od_rows_over, .func (PySem.W.fnOf "rows_over" "rows_over" (defArgs s_rows_over) (defBody s_rows_over) (defScope s_rows_over) .none kV_rows_over dc_rows_over pm_rows_over an_rows_over (.ref c_rows_over) ct_rows_over), sl_rows_over⟩) (d_rows_over : PySem.W.codeIn K (.ref c_rows_over) "rows_over" = true) (k_rows_over : PySem.W.keepIn K (.ref f_rows_over) = true)
    {f__check_sizes c__check_sizes : Addr} {od__check_sizes an__check_sizes : Option Addr} {sl__check_sizes : Array (Option Value)} {oc__check_sizes kV__check_sizes dc__check_sizes pm__check_sizes ct__check_sizes : Value}
    (a__check_sizes : PySem.W.nsIn K mainGlobals "_check_sizes" = some (some (.ref f__check_sizes))) (l__check_sizes : K.lookup f__check_sizes = some ⟨oc__check_sizes, od__check_sizes, .func (PySem.W.fnOf "_check_sizes" "_check_sizes" (defArgs s__check_sizes) (defBody s__check_sizes) (defScope s__check_sizes) .none kV__check_sizes dc__check_sizes pm__check_sizes an__check_sizes (.ref c__check_sizes) ct__check_sizes), sl__check_sizes⟩) (d__check_sizes : PySem.W.codeIn K (.ref c__check_sizes) "_check_sizes" = true) (k__check_sizes : PySem.W.keepIn K (.ref f__check_sizes) = true)
    {f__changed c__changed : Addr} {od__changed an__changed : Option Addr} {sl__changed : Array (Option Value)} {oc__changed kV__changed dc__changed pm__changed ct__changed : Value}
    (a__changed : PySem.W.nsIn K mainGlobals "_changed" = some (some (.ref f__changed))) (l__changed : K.lookup f__changed = some ⟨oc__changed, od__changed, .func (PySem.W.fnOf "_changed" "_changed" (defArgs s__changed) (defBody s__changed) (defScope s__changed) .none kV__changed dc__changed pm__changed an__changed (.ref c__changed) ct__changed), sl__changed⟩) (d__changed : PySem.W.codeIn K (.ref c__changed) "_changed" = true) (k__changed : PySem.W.keepIn K (.ref f__changed) = true)
    {f__heard c__heard : Addr} {od__heard an__heard : Option Addr} {sl__heard : Array (Option Value)} {oc__heard kV__heard dc__heard pm__heard ct__heard : Value}
    (a__heard : PySem.W.nsIn K mainGlobals "_heard" = some (some (.ref f__heard))) (l__heard : K.lookup f__heard = some ⟨oc__heard, od__heard, .func (PySem.W.fnOf "_heard" "_heard" (defArgs s__heard) (defBody s__heard) (defScope s__heard) .none kV__heard dc__heard pm__heard an__heard (.ref c__heard) ct__heard), sl__heard⟩) (d__heard : PySem.W.codeIn K (.ref c__heard) "_heard" = true) (k__heard : PySem.W.keepIn K (.ref f__heard) = true)
    {f__all_heard c__all_heard : Addr} {od__all_heard an__all_heard : Option Addr} {sl__all_heard : Array (Option Value)} {oc__all_heard kV__all_heard dc__all_heard pm__all_heard ct__all_heard : Value}
    (a__all_heard : PySem.W.nsIn K mainGlobals "_all_heard" = some (some (.ref f__all_heard))) (l__all_heard : K.lookup f__all_heard = some ⟨oc__all_heard, od__all_heard, .func (PySem.W.fnOf "_all_heard" "_all_heard" (defArgs s__all_heard) (defBody s__all_heard) (defScope s__all_heard) .none kV__all_heard dc__all_heard pm__all_heard an__all_heard (.ref c__all_heard) ct__all_heard), sl__all_heard⟩) (d__all_heard : PySem.W.codeIn K (.ref c__all_heard) "_all_heard" = true) (k__all_heard : PySem.W.keepIn K (.ref f__all_heard) = true)
    {f__best c__best : Addr} {od__best an__best : Option Addr} {sl__best : Array (Option Value)} {oc__best kV__best dc__best pm__best ct__best : Value}
    (a__best : PySem.W.nsIn K mainGlobals "_best" = some (some (.ref f__best))) (l__best : K.lookup f__best = some ⟨oc__best, od__best, .func (PySem.W.fnOf "_best" "_best" (defArgs s__best) (defBody s__best) (defScope s__best) .none kV__best dc__best pm__best an__best (.ref c__best) ct__best), sl__best⟩) (d__best : PySem.W.codeIn K (.ref c__best) "_best" = true) (k__best : PySem.W.keepIn K (.ref f__best) = true)
    {f_step_worth c_step_worth : Addr} {od_step_worth an_step_worth : Option Addr} {sl_step_worth : Array (Option Value)} {oc_step_worth kV_step_worth dc_step_worth pm_step_worth ct_step_worth : Value}
    (a_step_worth : PySem.W.nsIn K mainGlobals "step_worth" = some (some (.ref f_step_worth))) (l_step_worth : K.lookup f_step_worth = some ⟨oc_step_worth, od_step_worth, .func (PySem.W.fnOf "step_worth" "step_worth" (defArgs s_step_worth) (defBody s_step_worth) (defScope s_step_worth) .none kV_step_worth dc_step_worth pm_step_worth an_step_worth (.ref c_step_worth) ct_step_worth), sl_step_worth⟩) (d_step_worth : PySem.W.codeIn K (.ref c_step_worth) "step_worth" = true) (k_step_worth : PySem.W.keepIn K (.ref f_step_worth) = true)
    {f__law_pool c__law_pool : Addr} {od__law_pool an__law_pool : Option Addr} {sl__law_pool : Array (Option Value)} {oc__law_pool kV__law_pool dc__law_pool pm__law_pool ct__law_pool : Value}
    (a__law_pool : PySem.W.nsIn K mainGlobals "_law_pool" = some (some (.ref f__law_pool))) (l__law_pool : K.lookup f__law_pool = some ⟨oc__law_pool, od__law_pool, .func (PySem.W.fnOf "_law_pool" "_law_pool" (defArgs s__law_pool) (defBody s__law_pool) (defScope s__law_pool) .none kV__law_pool dc__law_pool pm__law_pool an__law_pool (.ref c__law_pool) ct__law_pool), sl__law_pool⟩) (d__law_pool : PySem.W.codeIn K (.ref c__law_pool) "_law_pool" = true) (k__law_pool : PySem.W.keepIn K (.ref f__law_pool) = true)
    {f__law_draw c__law_draw : Addr} {od__law_draw an__law_draw : Option Addr} {sl__law_draw : Array (Option Value)} {oc__law_draw kV__law_draw dc__law_draw pm__law_draw ct__law_draw : Value}
    (a__law_draw : PySem.W.nsIn K mainGlobals "_law_draw" = some (some (.ref f__law_draw))) (l__law_draw : K.lookup f__law_draw = some ⟨oc__law_draw, od__law_draw, .func (PySem.W.fnOf "_law_draw" "_law_draw" (defArgs s__law_draw) (defBody s__law_draw) (defScope s__law_draw) .none kV__law_draw dc__law_draw pm__law_draw an__law_draw (.ref c__law_draw) ct__law_draw), sl__law_draw⟩) (d__law_draw : PySem.W.codeIn K (.ref c__law_draw) "_law_draw" = true) (k__law_draw : PySem.W.keepIn K (.ref f__law_draw) = true)
    {f__law_pick c__law_pick : Addr} {od__law_pick an__law_pick : Option Addr} {sl__law_pick : Array (Option Value)} {oc__law_pick kV__law_pick dc__law_pick pm__law_pick ct__law_pick : Value}
    (a__law_pick : PySem.W.nsIn K mainGlobals "_law_pick" = some (some (.ref f__law_pick))) (l__law_pick : K.lookup f__law_pick = some ⟨oc__law_pick, od__law_pick, .func (PySem.W.fnOf "_law_pick" "_law_pick" (defArgs s__law_pick) (defBody s__law_pick) (defScope s__law_pick) .none kV__law_pick dc__law_pick pm__law_pick an__law_pick (.ref c__law_pick) ct__law_pick), sl__law_pick⟩) (d__law_pick : PySem.W.codeIn K (.ref c__law_pick) "_law_pick" = true) (k__law_pick : PySem.W.keepIn K (.ref f__law_pick) = true)
    {f__law_same c__law_same : Addr} {od__law_same an__law_same : Option Addr} {sl__law_same : Array (Option Value)} {oc__law_same kV__law_same dc__law_same pm__law_same ct__law_same : Value}
    (a__law_same : PySem.W.nsIn K mainGlobals "_law_same" = some (some (.ref f__law_same))) (l__law_same : K.lookup f__law_same = some ⟨oc__law_same, od__law_same, .func (PySem.W.fnOf "_law_same" "_law_same" (defArgs s__law_same) (defBody s__law_same) (defScope s__law_same) .none kV__law_same dc__law_same pm__law_same an__law_same (.ref c__law_same) ct__law_same), sl__law_same⟩) (d__law_same : PySem.W.codeIn K (.ref c__law_same) "_law_same" = true) (k__law_same : PySem.W.keepIn K (.ref f__law_same) = true)
    {f__law_fraction c__law_fraction : Addr} {od__law_fraction an__law_fraction : Option Addr} {sl__law_fraction : Array (Option Value)} {oc__law_fraction kV__law_fraction dc__law_fraction pm__law_fraction ct__law_fraction : Value}
    (a__law_fraction : PySem.W.nsIn K mainGlobals "_law_fraction" = some (some (.ref f__law_fraction))) (l__law_fraction : K.lookup f__law_fraction = some ⟨oc__law_fraction, od__law_fraction, .func (PySem.W.fnOf "_law_fraction" "_law_fraction" (defArgs s__law_fraction) (defBody s__law_fraction) (defScope s__law_fraction) .none kV__law_fraction dc__law_fraction pm__law_fraction an__law_fraction (.ref c__law_fraction) ct__law_fraction), sl__law_fraction⟩) (d__law_fraction : PySem.W.codeIn K (.ref c__law_fraction) "_law_fraction" = true) (k__law_fraction : PySem.W.keepIn K (.ref f__law_fraction) = true)
    {f__law_plus c__law_plus : Addr} {od__law_plus an__law_plus : Option Addr} {sl__law_plus : Array (Option Value)} {oc__law_plus kV__law_plus dc__law_plus pm__law_plus ct__law_plus : Value}
    (a__law_plus : PySem.W.nsIn K mainGlobals "_law_plus" = some (some (.ref f__law_plus))) (l__law_plus : K.lookup f__law_plus = some ⟨oc__law_plus, od__law_plus, .func (PySem.W.fnOf "_law_plus" "_law_plus" (defArgs s__law_plus) (defBody s__law_plus) (defScope s__law_plus) .none kV__law_plus dc__law_plus pm__law_plus an__law_plus (.ref c__law_plus) ct__law_plus), sl__law_plus⟩) (d__law_plus : PySem.W.codeIn K (.ref c__law_plus) "_law_plus" = true) (k__law_plus : PySem.W.keepIn K (.ref f__law_plus) = true)
    {f__law_times c__law_times : Addr} {od__law_times an__law_times : Option Addr} {sl__law_times : Array (Option Value)} {oc__law_times kV__law_times dc__law_times pm__law_times ct__law_times : Value}
    (a__law_times : PySem.W.nsIn K mainGlobals "_law_times" = some (some (.ref f__law_times))) (l__law_times : K.lookup f__law_times = some ⟨oc__law_times, od__law_times, .func (PySem.W.fnOf "_law_times" "_law_times" (defArgs s__law_times) (defBody s__law_times) (defScope s__law_times) .none kV__law_times dc__law_times pm__law_times an__law_times (.ref c__law_times) ct__law_times), sl__law_times⟩) (d__law_times : PySem.W.codeIn K (.ref c__law_times) "_law_times" = true) (k__law_times : PySem.W.keepIn K (.ref f__law_times) = true)
    {f__law_less c__law_less : Addr} {od__law_less an__law_less : Option Addr} {sl__law_less : Array (Option Value)} {oc__law_less kV__law_less dc__law_less pm__law_less ct__law_less : Value}
    (a__law_less : PySem.W.nsIn K mainGlobals "_law_less" = some (some (.ref f__law_less))) (l__law_less : K.lookup f__law_less = some ⟨oc__law_less, od__law_less, .func (PySem.W.fnOf "_law_less" "_law_less" (defArgs s__law_less) (defBody s__law_less) (defScope s__law_less) .none kV__law_less dc__law_less pm__law_less an__law_less (.ref c__law_less) ct__law_less), sl__law_less⟩) (d__law_less : PySem.W.codeIn K (.ref c__law_less) "_law_less" = true) (k__law_less : PySem.W.keepIn K (.ref f__law_less) = true)
    {f__law_total c__law_total : Addr} {od__law_total an__law_total : Option Addr} {sl__law_total : Array (Option Value)} {oc__law_total kV__law_total dc__law_total pm__law_total ct__law_total : Value}
    (a__law_total : PySem.W.nsIn K mainGlobals "_law_total" = some (some (.ref f__law_total))) (l__law_total : K.lookup f__law_total = some ⟨oc__law_total, od__law_total, .func (PySem.W.fnOf "_law_total" "_law_total" (defArgs s__law_total) (defBody s__law_total) (defScope s__law_total) .none kV__law_total dc__law_total pm__law_total an__law_total (.ref c__law_total) ct__law_total), sl__law_total⟩) (d__law_total : PySem.W.codeIn K (.ref c__law_total) "_law_total" = true) (k__law_total : PySem.W.keepIn K (.ref f__law_total) = true)
    {f__law_row c__law_row : Addr} {od__law_row an__law_row : Option Addr} {sl__law_row : Array (Option Value)} {oc__law_row kV__law_row dc__law_row pm__law_row ct__law_row : Value}
    (a__law_row : PySem.W.nsIn K mainGlobals "_law_row" = some (some (.ref f__law_row))) (l__law_row : K.lookup f__law_row = some ⟨oc__law_row, od__law_row, .func (PySem.W.fnOf "_law_row" "_law_row" (defArgs s__law_row) (defBody s__law_row) (defScope s__law_row) .none kV__law_row dc__law_row pm__law_row an__law_row (.ref c__law_row) ct__law_row), sl__law_row⟩) (d__law_row : PySem.W.codeIn K (.ref c__law_row) "_law_row" = true) (k__law_row : PySem.W.keepIn K (.ref f__law_row) = true)
    {f__law_telling c__law_telling : Addr} {od__law_telling an__law_telling : Option Addr} {sl__law_telling : Array (Option Value)} {oc__law_telling kV__law_telling dc__law_telling pm__law_telling ct__law_telling : Value}
    (a__law_telling : PySem.W.nsIn K mainGlobals "_law_telling" = some (some (.ref f__law_telling))) (l__law_telling : K.lookup f__law_telling = some ⟨oc__law_telling, od__law_telling, .func (PySem.W.fnOf "_law_telling" "_law_telling" (defArgs s__law_telling) (defBody s__law_telling) (defScope s__law_telling) .none kV__law_telling dc__law_telling pm__law_telling an__law_telling (.ref c__law_telling) ct__law_telling), sl__law_telling⟩) (d__law_telling : PySem.W.codeIn K (.ref c__law_telling) "_law_telling" = true) (k__law_telling : PySem.W.keepIn K (.ref f__law_telling) = true)
    {f__law_gains c__law_gains : Addr} {od__law_gains an__law_gains : Option Addr} {sl__law_gains : Array (Option Value)} {oc__law_gains kV__law_gains dc__law_gains pm__law_gains ct__law_gains : Value}
    (a__law_gains : PySem.W.nsIn K mainGlobals "_law_gains" = some (some (.ref f__law_gains))) (l__law_gains : K.lookup f__law_gains = some ⟨oc__law_gains, od__law_gains, .func (PySem.W.fnOf "_law_gains" "_law_gains" (defArgs s__law_gains) (defBody s__law_gains) (defScope s__law_gains) .none kV__law_gains dc__law_gains pm__law_gains an__law_gains (.ref c__law_gains) ct__law_gains), sl__law_gains⟩) (d__law_gains : PySem.W.codeIn K (.ref c__law_gains) "_law_gains" = true) (k__law_gains : PySem.W.keepIn K (.ref f__law_gains) = true)
    {f__law_change c__law_change : Addr} {od__law_change an__law_change : Option Addr} {sl__law_change : Array (Option Value)} {oc__law_change kV__law_change dc__law_change pm__law_change ct__law_change : Value}
    (a__law_change : PySem.W.nsIn K mainGlobals "_law_change" = some (some (.ref f__law_change))) (l__law_change : K.lookup f__law_change = some ⟨oc__law_change, od__law_change, .func (PySem.W.fnOf "_law_change" "_law_change" (defArgs s__law_change) (defBody s__law_change) (defScope s__law_change) .none kV__law_change dc__law_change pm__law_change an__law_change (.ref c__law_change) ct__law_change), sl__law_change⟩) (d__law_change : PySem.W.codeIn K (.ref c__law_change) "_law_change" = true) (k__law_change : PySem.W.keepIn K (.ref f__law_change) = true)
    {f__law_moved c__law_moved : Addr} {od__law_moved an__law_moved : Option Addr} {sl__law_moved : Array (Option Value)} {oc__law_moved kV__law_moved dc__law_moved pm__law_moved ct__law_moved : Value}
    (a__law_moved : PySem.W.nsIn K mainGlobals "_law_moved" = some (some (.ref f__law_moved))) (l__law_moved : K.lookup f__law_moved = some ⟨oc__law_moved, od__law_moved, .func (PySem.W.fnOf "_law_moved" "_law_moved" (defArgs s__law_moved) (defBody s__law_moved) (defScope s__law_moved) .none kV__law_moved dc__law_moved pm__law_moved an__law_moved (.ref c__law_moved) ct__law_moved), sl__law_moved⟩) (d__law_moved : PySem.W.codeIn K (.ref c__law_moved) "_law_moved" = true) (k__law_moved : PySem.W.keepIn K (.ref f__law_moved) = true)
    {f__law_joint c__law_joint : Addr} {od__law_joint an__law_joint : Option Addr} {sl__law_joint : Array (Option Value)} {oc__law_joint kV__law_joint dc__law_joint pm__law_joint ct__law_joint : Value}
    (a__law_joint : PySem.W.nsIn K mainGlobals "_law_joint" = some (some (.ref f__law_joint))) (l__law_joint : K.lookup f__law_joint = some ⟨oc__law_joint, od__law_joint, .func (PySem.W.fnOf "_law_joint" "_law_joint" (defArgs s__law_joint) (defBody s__law_joint) (defScope s__law_joint) .none kV__law_joint dc__law_joint pm__law_joint an__law_joint (.ref c__law_joint) ct__law_joint), sl__law_joint⟩) (d__law_joint : PySem.W.codeIn K (.ref c__law_joint) "_law_joint" = true) (k__law_joint : PySem.W.keepIn K (.ref f__law_joint) = true)
    {f__law_rows_of c__law_rows_of : Addr} {od__law_rows_of an__law_rows_of : Option Addr} {sl__law_rows_of : Array (Option Value)} {oc__law_rows_of kV__law_rows_of dc__law_rows_of pm__law_rows_of ct__law_rows_of : Value}
    (a__law_rows_of : PySem.W.nsIn K mainGlobals "_law_rows_of" = some (some (.ref f__law_rows_of))) (l__law_rows_of : K.lookup f__law_rows_of = some ⟨oc__law_rows_of, od__law_rows_of, .func (PySem.W.fnOf "_law_rows_of" "_law_rows_of" (defArgs s__law_rows_of) (defBody s__law_rows_of) (defScope s__law_rows_of) .none kV__law_rows_of dc__law_rows_of pm__law_rows_of an__law_rows_of (.ref c__law_rows_of) ct__law_rows_of), sl__law_rows_of⟩) (d__law_rows_of : PySem.W.codeIn K (.ref c__law_rows_of) "_law_rows_of" = true) (k__law_rows_of : PySem.W.keepIn K (.ref f__law_rows_of) = true)
    {f__law_worth c__law_worth : Addr} {od__law_worth an__law_worth : Option Addr} {sl__law_worth : Array (Option Value)} {oc__law_worth kV__law_worth dc__law_worth pm__law_worth ct__law_worth : Value}
    (a__law_worth : PySem.W.nsIn K mainGlobals "_law_worth" = some (some (.ref f__law_worth))) (l__law_worth : K.lookup f__law_worth = some ⟨oc__law_worth, od__law_worth, .func (PySem.W.fnOf "_law_worth" "_law_worth" (defArgs s__law_worth) (defBody s__law_worth) (defScope s__law_worth) .none kV__law_worth dc__law_worth pm__law_worth an__law_worth (.ref c__law_worth) ct__law_worth), sl__law_worth⟩) (d__law_worth : PySem.W.codeIn K (.ref c__law_worth) "_law_worth" = true) (k__law_worth : PySem.W.keepIn K (.ref f__law_worth) = true)
    {f__law_garbled c__law_garbled : Addr} {od__law_garbled an__law_garbled : Option Addr} {sl__law_garbled : Array (Option Value)} {oc__law_garbled kV__law_garbled dc__law_garbled pm__law_garbled ct__law_garbled : Value}
    (a__law_garbled : PySem.W.nsIn K mainGlobals "_law_garbled" = some (some (.ref f__law_garbled))) (l__law_garbled : K.lookup f__law_garbled = some ⟨oc__law_garbled, od__law_garbled, .func (PySem.W.fnOf "_law_garbled" "_law_garbled" (defArgs s__law_garbled) (defBody s__law_garbled) (defScope s__law_garbled) .none kV__law_garbled dc__law_garbled pm__law_garbled an__law_garbled (.ref c__law_garbled) ct__law_garbled), sl__law_garbled⟩) (d__law_garbled : PySem.W.codeIn K (.ref c__law_garbled) "_law_garbled" = true) (k__law_garbled : PySem.W.keepIn K (.ref f__law_garbled) = true)
    {f__law_is_far c__law_is_far : Addr} {od__law_is_far an__law_is_far : Option Addr} {sl__law_is_far : Array (Option Value)} {oc__law_is_far kV__law_is_far dc__law_is_far pm__law_is_far ct__law_is_far : Value}
    (a__law_is_far : PySem.W.nsIn K mainGlobals "_law_is_far" = some (some (.ref f__law_is_far))) (l__law_is_far : K.lookup f__law_is_far = some ⟨oc__law_is_far, od__law_is_far, .func (PySem.W.fnOf "_law_is_far" "_law_is_far" (defArgs s__law_is_far) (defBody s__law_is_far) (defScope s__law_is_far) .none kV__law_is_far dc__law_is_far pm__law_is_far an__law_is_far (.ref c__law_is_far) ct__law_is_far), sl__law_is_far⟩) (d__law_is_far : PySem.W.codeIn K (.ref c__law_is_far) "_law_is_far" = true) (k__law_is_far : PySem.W.keepIn K (.ref f__law_is_far) = true)
    {f_law c_law : Addr} {od_law an_law : Option Addr} {sl_law : Array (Option Value)} {oc_law kV_law dc_law pm_law ct_law : Value}
    (a_law : PySem.W.nsIn K mainGlobals "law" = some (some (.ref f_law))) (l_law : K.lookup f_law = some ⟨oc_law, od_law, .func (PySem.W.fnOf "law" "law" (defArgs s_law) (defBody s_law) (defScope s_law) .none kV_law dc_law pm_law an_law (.ref c_law) ct_law), sl_law⟩) (d_law : PySem.W.codeIn K (.ref c_law) "law" = true) (k_law : PySem.W.keepIn K (.ref f_law) = true)
    {P_wholes : Addr} {e_wholes : Value} {dd_wholes : Option Addr} {vs_wholes : Array Value} {s2_wholes : Array (Option Value)}
    (t_wholes : K.lookup c_wholes = some ⟨e_wholes, dd_wholes, .fields vs_wholes, s2_wholes⟩) (p_wholes : vs_wholes[11]? = some (.ref P_wholes)) (n_wholes : K.lookup P_wholes = none) (h_wholes : PySem.W.codeHdIn K c_wholes P_wholes = true) (r_wholes : ((recsOf q).any fun e => e.name == ("wholes" : Str)) = true)
    {P_rows_over : Addr} {e_rows_over : Value} {dd_rows_over : Option Addr} {vs_rows_over : Array Value} {s2_rows_over : Array (Option Value)}
    (t_rows_over : K.lookup c_rows_over = some ⟨e_rows_over, dd_rows_over, .fields vs_rows_over, s2_rows_over⟩) (p_rows_over : vs_rows_over[11]? = some (.ref P_rows_over)) (n_rows_over : K.lookup P_rows_over = none) (h_rows_over : PySem.W.codeHdIn K c_rows_over P_rows_over = true) (r_rows_over : ((recsOf q).any fun e => e.name == ("rows_over" : Str)) = true)
    (z_abs : PySem.W.nsIn K mainGlobals "abs" = some none)
    (z_bool : PySem.W.nsIn K mainGlobals "bool" = some none)
    (z_int : PySem.W.nsIn K mainGlobals "int" = some none)
    (z_isinstance : PySem.W.nsIn K mainGlobals "isinstance" = some none)
    (z_len : PySem.W.nsIn K mainGlobals "len" = some none)
    (z_list : PySem.W.nsIn K mainGlobals "list" = some none)
    (z_max : PySem.W.nsIn K mainGlobals "max" = some none)
    (z_range : PySem.W.nsIn K mainGlobals "range" = some none)
    (z_str : PySem.W.nsIn K mainGlobals "str" = some none)
    (z_sum : PySem.W.nsIn K mainGlobals "sum" = some none)
    (z_tuple : PySem.W.nsIn K mainGlobals "tuple" = some none)
    (z_zip : PySem.W.nsIn K mainGlobals "zip" = some none)
    {u_MOST : Tok} (g_MOST : PySem.W.nsIn K mainGlobals "MOST" = some (some (.int 4 u_MOST)))
    {C_TooFar : Addr} (q1_TooFar : PySem.W.nsIn K mainGlobals "TooFar" = some (some (.ref C_TooFar))) (q2_TooFar : PySem.W.excIn K C_TooFar [.type "ValueError", .type "Exception", .type "BaseException", .type "object"] "ValueError.__new__" = true) (q3_TooFar : PySem.W.keepIn K (.ref C_TooFar) = true) (q4_TooFar : PySem.W.subIn K (.ref C_TooFar) (.type "BaseException") = some true) (q5_TooFar : PySem.W.typeIn K (.ref C_TooFar) = some (.type "type")) (q6_TooFar : PySem.W.exmOne K (.ref C_TooFar) (.ref C_TooFar) = some true)
    (nl : noLists K = true) : LawAtS l w K CX0 14 63 "script" mg fa h := by
  have e := hfa.symm.trans (PySem.W.mg_of KX Gn a_law)
  cases e
  have A_common_part : FAt K mg "common_part" s_common_part f_common_part c_common_part := ⟨⟨_, _, _, _, _, _, _, _, l_common_part⟩, d_common_part, k_common_part, PySem.W.mg_of KX Gn a_common_part⟩
  have A_lowest : FAt K mg "lowest" s_lowest f_lowest c_lowest := ⟨⟨_, _, _, _, _, _, _, _, l_lowest⟩, d_lowest, k_lowest, PySem.W.mg_of KX Gn a_lowest⟩
  have A_bottom_of : FAt K mg "bottom_of" s_bottom_of f_bottom_of c_bottom_of := ⟨⟨_, _, _, _, _, _, _, _, l_bottom_of⟩, d_bottom_of, k_bottom_of, PySem.W.mg_of KX Gn a_bottom_of⟩
  have A_wholes : FAt K mg "wholes" s_wholes f_wholes c_wholes := ⟨⟨_, _, _, _, _, _, _, _, l_wholes⟩, d_wholes, k_wholes, PySem.W.mg_of KX Gn a_wholes⟩
  have A_rows_over : FAt K mg "rows_over" s_rows_over f_rows_over c_rows_over := ⟨⟨_, _, _, _, _, _, _, _, l_rows_over⟩, d_rows_over, k_rows_over, PySem.W.mg_of KX Gn a_rows_over⟩
  have A__check_sizes : FAt K mg "_check_sizes" s__check_sizes f__check_sizes c__check_sizes := ⟨⟨_, _, _, _, _, _, _, _, l__check_sizes⟩, d__check_sizes, k__check_sizes, PySem.W.mg_of KX Gn a__check_sizes⟩
  have A__changed : FAt K mg "_changed" s__changed f__changed c__changed := ⟨⟨_, _, _, _, _, _, _, _, l__changed⟩, d__changed, k__changed, PySem.W.mg_of KX Gn a__changed⟩
  have A__heard : FAt K mg "_heard" s__heard f__heard c__heard := ⟨⟨_, _, _, _, _, _, _, _, l__heard⟩, d__heard, k__heard, PySem.W.mg_of KX Gn a__heard⟩
  have A__all_heard : FAt K mg "_all_heard" s__all_heard f__all_heard c__all_heard := ⟨⟨_, _, _, _, _, _, _, _, l__all_heard⟩, d__all_heard, k__all_heard, PySem.W.mg_of KX Gn a__all_heard⟩
  have A__best : FAt K mg "_best" s__best f__best c__best := ⟨⟨_, _, _, _, _, _, _, _, l__best⟩, d__best, k__best, PySem.W.mg_of KX Gn a__best⟩
  have A_step_worth : FAt K mg "step_worth" s_step_worth f_step_worth c_step_worth := ⟨⟨_, _, _, _, _, _, _, _, l_step_worth⟩, d_step_worth, k_step_worth, PySem.W.mg_of KX Gn a_step_worth⟩
  have A__law_pool : FAt K mg "_law_pool" s__law_pool f__law_pool c__law_pool := ⟨⟨_, _, _, _, _, _, _, _, l__law_pool⟩, d__law_pool, k__law_pool, PySem.W.mg_of KX Gn a__law_pool⟩
  have A__law_draw : FAt K mg "_law_draw" s__law_draw f__law_draw c__law_draw := ⟨⟨_, _, _, _, _, _, _, _, l__law_draw⟩, d__law_draw, k__law_draw, PySem.W.mg_of KX Gn a__law_draw⟩
  have A__law_pick : FAt K mg "_law_pick" s__law_pick f__law_pick c__law_pick := ⟨⟨_, _, _, _, _, _, _, _, l__law_pick⟩, d__law_pick, k__law_pick, PySem.W.mg_of KX Gn a__law_pick⟩
  have A__law_same : FAt K mg "_law_same" s__law_same f__law_same c__law_same := ⟨⟨_, _, _, _, _, _, _, _, l__law_same⟩, d__law_same, k__law_same, PySem.W.mg_of KX Gn a__law_same⟩
  have A__law_fraction : FAt K mg "_law_fraction" s__law_fraction f__law_fraction c__law_fraction := ⟨⟨_, _, _, _, _, _, _, _, l__law_fraction⟩, d__law_fraction, k__law_fraction, PySem.W.mg_of KX Gn a__law_fraction⟩
  have A__law_plus : FAt K mg "_law_plus" s__law_plus f__law_plus c__law_plus := ⟨⟨_, _, _, _, _, _, _, _, l__law_plus⟩, d__law_plus, k__law_plus, PySem.W.mg_of KX Gn a__law_plus⟩
  have A__law_times : FAt K mg "_law_times" s__law_times f__law_times c__law_times := ⟨⟨_, _, _, _, _, _, _, _, l__law_times⟩, d__law_times, k__law_times, PySem.W.mg_of KX Gn a__law_times⟩
  have A__law_less : FAt K mg "_law_less" s__law_less f__law_less c__law_less := ⟨⟨_, _, _, _, _, _, _, _, l__law_less⟩, d__law_less, k__law_less, PySem.W.mg_of KX Gn a__law_less⟩
  have A__law_total : FAt K mg "_law_total" s__law_total f__law_total c__law_total := ⟨⟨_, _, _, _, _, _, _, _, l__law_total⟩, d__law_total, k__law_total, PySem.W.mg_of KX Gn a__law_total⟩
  have A__law_row : FAt K mg "_law_row" s__law_row f__law_row c__law_row := ⟨⟨_, _, _, _, _, _, _, _, l__law_row⟩, d__law_row, k__law_row, PySem.W.mg_of KX Gn a__law_row⟩
  have A__law_telling : FAt K mg "_law_telling" s__law_telling f__law_telling c__law_telling := ⟨⟨_, _, _, _, _, _, _, _, l__law_telling⟩, d__law_telling, k__law_telling, PySem.W.mg_of KX Gn a__law_telling⟩
  have A__law_gains : FAt K mg "_law_gains" s__law_gains f__law_gains c__law_gains := ⟨⟨_, _, _, _, _, _, _, _, l__law_gains⟩, d__law_gains, k__law_gains, PySem.W.mg_of KX Gn a__law_gains⟩
  have A__law_change : FAt K mg "_law_change" s__law_change f__law_change c__law_change := ⟨⟨_, _, _, _, _, _, _, _, l__law_change⟩, d__law_change, k__law_change, PySem.W.mg_of KX Gn a__law_change⟩
  have A__law_moved : FAt K mg "_law_moved" s__law_moved f__law_moved c__law_moved := ⟨⟨_, _, _, _, _, _, _, _, l__law_moved⟩, d__law_moved, k__law_moved, PySem.W.mg_of KX Gn a__law_moved⟩
  have A__law_joint : FAt K mg "_law_joint" s__law_joint f__law_joint c__law_joint := ⟨⟨_, _, _, _, _, _, _, _, l__law_joint⟩, d__law_joint, k__law_joint, PySem.W.mg_of KX Gn a__law_joint⟩
  have A__law_rows_of : FAt K mg "_law_rows_of" s__law_rows_of f__law_rows_of c__law_rows_of := ⟨⟨_, _, _, _, _, _, _, _, l__law_rows_of⟩, d__law_rows_of, k__law_rows_of, PySem.W.mg_of KX Gn a__law_rows_of⟩
  have A__law_worth : FAt K mg "_law_worth" s__law_worth f__law_worth c__law_worth := ⟨⟨_, _, _, _, _, _, _, _, l__law_worth⟩, d__law_worth, k__law_worth, PySem.W.mg_of KX Gn a__law_worth⟩
  have A__law_garbled : FAt K mg "_law_garbled" s__law_garbled f__law_garbled c__law_garbled := ⟨⟨_, _, _, _, _, _, _, _, l__law_garbled⟩, d__law_garbled, k__law_garbled, PySem.W.mg_of KX Gn a__law_garbled⟩
  have A__law_is_far : FAt K mg "_law_is_far" s__law_is_far f__law_is_far c__law_is_far := ⟨⟨_, _, _, _, _, _, _, _, l__law_is_far⟩, d__law_is_far, k__law_is_far, PySem.W.mg_of KX Gn a__law_is_far⟩
  have A_law : FAt K mg "law" s_law fa c_law := ⟨⟨_, _, _, _, _, _, _, _, l_law⟩, d_law, k_law, PySem.W.mg_of KX Gn a_law⟩
  have o_wholes := own "wholes" r_wholes _ (PySem.W.mg_of KX Gn a_wholes) _ _ _ _ _ _ _ _ l_wholes rfl rfl t_wholes p_wholes
  have o_rows_over := own "rows_over" r_rows_over _ (PySem.W.mg_of KX Gn a_rows_over) _ _ _ _ _ _ _ _ l_rows_over rfl rfl t_rows_over p_rows_over
  refine law_at (c := c_law) (st := s_law) (ln := "law") (F := F_law) [(c_wholes, P_wholes), (c_rows_over, P_rows_over)] (List.forall_mem_cons.mpr ⟨o_wholes, (List.forall_mem_cons.mpr ⟨o_rows_over, (fun _ hq => nomatch hq)⟩)⟩) (List.forall_mem_cons.mpr ⟨n_wholes, (List.forall_mem_cons.mpr ⟨n_rows_over, (fun _ hq => nomatch hq)⟩)⟩) (List.forall_mem_cons.mpr ⟨PySem.W.codeHd_of_K KX h_wholes, (List.forall_mem_cons.mpr ⟨PySem.W.codeHd_of_K KX h_rows_over, (fun _ hq => nomatch hq)⟩)⟩) nl bd_law hlaw A_law fun base hk hns ht => ?_
  have bm : ∃ B, base.BuiltinsAt mg B := ⟨_, (ht _ List.mem_cons_self).bm⟩
  have tb_wholes : ∃ B, (c_wholes, B) ∈ ([(c_wholes, P_wholes), (c_rows_over, P_rows_over)] : List (Addr × Addr)) := ⟨P_wholes, by simp⟩
  have tb_rows_over : ∃ B, (c_rows_over, B) ∈ ([(c_wholes, P_wholes), (c_rows_over, P_rows_over)] : List (Addr × Addr)) := ⟨P_rows_over, by simp⟩
  have y_abs := PySem.W.mg_none_of KX Gn z_abs
  have y_bool := PySem.W.mg_none_of KX Gn z_bool
  have y_int := PySem.W.mg_none_of KX Gn z_int
  have y_isinstance := PySem.W.mg_none_of KX Gn z_isinstance
  have y_len := PySem.W.mg_none_of KX Gn z_len
  have y_list := PySem.W.mg_none_of KX Gn z_list
  have y_max := PySem.W.mg_none_of KX Gn z_max
  have y_range := PySem.W.mg_none_of KX Gn z_range
  have y_str := PySem.W.mg_none_of KX Gn z_str
  have y_sum := PySem.W.mg_none_of KX Gn z_sum
  have y_tuple := PySem.W.mg_none_of KX Gn z_tuple
  have y_zip := PySem.W.mg_none_of KX Gn z_zip
  have v_MOST := PySem.W.mg_of KX Gn g_MOST
  have X_TooFar : XAt K mg "TooFar" C_TooFar := ⟨PySem.W.mg_of KX Gn q1_TooFar, q2_TooFar, q3_TooFar, q4_TooFar, q5_TooFar, q6_TooFar⟩
  have D_common_part : DFs l.prog w ⟨base, K, fun c P => (c, P) ∈ ([(c_wholes, P_wholes), (c_rows_over, P_rows_over)] : List (Addr × Addr)), none, w⟩ mg 2 "common_part" s_common_part f_common_part ["one", "other"] F_common_part := ok_common_part (G := ⟨base, K, fun c P => (c, P) ∈ ([(c_wholes, P_wholes), (c_rows_over, P_rows_over)] : List (Addr × Addr)), none, w⟩) A_common_part y_abs
  have D_lowest : DFs l.prog w ⟨base, K, fun c P => (c, P) ∈ ([(c_wholes, P_wholes), (c_rows_over, P_rows_over)] : List (Addr × Addr)), none, w⟩ mg 3 "lowest" s_lowest f_lowest ["top", "bottom"] F_lowest := ok_lowest (G := ⟨base, K, fun c P => (c, P) ∈ ([(c_wholes, P_wholes), (c_rows_over, P_rows_over)] : List (Addr × Addr)), none, w⟩) A_lowest D_common_part
  have D_bottom_of : DFs l.prog w ⟨base, K, fun c P => (c, P) ∈ ([(c_wholes, P_wholes), (c_rows_over, P_rows_over)] : List (Addr × Addr)), none, w⟩ mg 3 "bottom_of" s_bottom_of f_bottom_of ["fractions"] F_bottom_of := ok_bottom_of (G := ⟨base, K, fun c P => (c, P) ∈ ([(c_wholes, P_wholes), (c_rows_over, P_rows_over)] : List (Addr × Addr)), none, w⟩) A_bottom_of D_common_part
  have D_wholes : DFs l.prog w ⟨base, K, fun c P => (c, P) ∈ ([(c_wholes, P_wholes), (c_rows_over, P_rows_over)] : List (Addr × Addr)), none, w⟩ mg 6 "wholes" s_wholes f_wholes ["fractions", "bottom"] F_wholes := ok_wholes (G := ⟨base, K, fun c P => (c, P) ∈ ([(c_wholes, P_wholes), (c_rows_over, P_rows_over)] : List (Addr × Addr)), none, w⟩) A_wholes y_tuple bm tb_wholes
  have D_rows_over : DFs l.prog w ⟨base, K, fun c P => (c, P) ∈ ([(c_wholes, P_wholes), (c_rows_over, P_rows_over)] : List (Addr × Addr)), none, w⟩ mg 12 "rows_over" s_rows_over f_rows_over ["rows"] F_rows_over := ok_rows_over (G := ⟨base, K, fun c P => (c, P) ∈ ([(c_wholes, P_wholes), (c_rows_over, P_rows_over)] : List (Addr × Addr)), none, w⟩) A_rows_over y_tuple D_bottom_of D_wholes bm tb_rows_over
  have DX__check_sizes : DFx l.prog w ⟨base, K, fun c P => (c, P) ∈ ([(c_wholes, P_wholes), (c_rows_over, P_rows_over)] : List (Addr × Addr)), none, w⟩ mg 2 "_check_sizes" s__check_sizes f__check_sizes ["telling"] C_TooFar Fx__check_sizes := okx__check_sizes (G := ⟨base, K, fun c P => (c, P) ∈ ([(c_wholes, P_wholes), (c_rows_over, P_rows_over)] : List (Addr × Addr)), none, w⟩) A__check_sizes y_len v_MOST X_TooFar
  have D__check_sizes : DFs l.prog w ⟨base, K, fun c P => (c, P) ∈ ([(c_wholes, P_wholes), (c_rows_over, P_rows_over)] : List (Addr × Addr)), none, w⟩ mg 2 "_check_sizes" s__check_sizes f__check_sizes ["telling"] F__check_sizes := ok__check_sizes (G := ⟨base, K, fun c P => (c, P) ∈ ([(c_wholes, P_wholes), (c_rows_over, P_rows_over)] : List (Addr × Addr)), none, w⟩) A__check_sizes y_len v_MOST
  have D__changed : DFs l.prog w ⟨base, K, fun c P => (c, P) ∈ ([(c_wholes, P_wholes), (c_rows_over, P_rows_over)] : List (Addr × Addr)), none, w⟩ mg 2 "_changed" s__changed f__changed ["numbers", "moves"] F__changed := ok__changed (G := ⟨base, K, fun c P => (c, P) ∈ ([(c_wholes, P_wholes), (c_rows_over, P_rows_over)] : List (Addr × Addr)), none, w⟩) A__changed y_len y_range y_sum y_zip
  have D__heard : DFs l.prog w ⟨base, K, fun c P => (c, P) ∈ ([(c_wholes, P_wholes), (c_rows_over, P_rows_over)] : List (Addr × Addr)), none, w⟩ mg 2 "_heard" s__heard f__heard ["numbers", "chances", "sign"] F__heard := ok__heard (G := ⟨base, K, fun c P => (c, P) ∈ ([(c_wholes, P_wholes), (c_rows_over, P_rows_over)] : List (Addr × Addr)), none, w⟩) A__heard y_zip
  have D__all_heard : DFs l.prog w ⟨base, K, fun c P => (c, P) ∈ ([(c_wholes, P_wholes), (c_rows_over, P_rows_over)] : List (Addr × Addr)), none, w⟩ mg 3 "_all_heard" s__all_heard f__all_heard ["lots", "chances"] F__all_heard := ok__all_heard (G := ⟨base, K, fun c P => (c, P) ∈ ([(c_wholes, P_wholes), (c_rows_over, P_rows_over)] : List (Addr × Addr)), none, w⟩) A__all_heard y_len y_range D__heard
  have D__best : DFs l.prog w ⟨base, K, fun c P => (c, P) ∈ ([(c_wholes, P_wholes), (c_rows_over, P_rows_over)] : List (Addr × Addr)), none, w⟩ mg 2 "_best" s__best f__best ["numbers", "rows"] F__best := ok__best (G := ⟨base, K, fun c P => (c, P) ∈ ([(c_wholes, P_wholes), (c_rows_over, P_rows_over)] : List (Addr × Addr)), none, w⟩) A__best y_len y_max y_range y_sum y_zip
  have DX_step_worth : DFx l.prog w ⟨base, K, fun c P => (c, P) ∈ ([(c_wholes, P_wholes), (c_rows_over, P_rows_over)] : List (Addr × Addr)), none, w⟩ mg 3 "step_worth" s_step_worth f_step_worth ["weights", "change", "telling", "gains", "steps"] C_TooFar Fx_step_worth := okx_step_worth (G := ⟨base, K, fun c P => (c, P) ∈ ([(c_wholes, P_wholes), (c_rows_over, P_rows_over)] : List (Addr × Addr)), none, w⟩) A_step_worth DX__check_sizes
  have D_step_worth : DFs l.prog w ⟨base, K, fun c P => (c, P) ∈ ([(c_wholes, P_wholes), (c_rows_over, P_rows_over)] : List (Addr × Addr)), none, w⟩ mg 13 "step_worth" s_step_worth f_step_worth ["weights", "change", "telling", "gains", "steps"] F_step_worth := ok_step_worth (G := ⟨base, K, fun c P => (c, P) ∈ ([(c_wholes, P_wholes), (c_rows_over, P_rows_over)] : List (Addr × Addr)), none, w⟩) A_step_worth y_range y_sum D__all_heard D__best D__changed D__check_sizes D_bottom_of D_lowest D_rows_over D_wholes
  have D__law_pool : DFs l.prog w ⟨base, K, fun c P => (c, P) ∈ ([(c_wholes, P_wholes), (c_rows_over, P_rows_over)] : List (Addr × Addr)), none, w⟩ mg 2 "_law_pool" s__law_pool f__law_pool ["script"] F__law_pool := ok__law_pool (G := ⟨base, K, fun c P => (c, P) ∈ ([(c_wholes, P_wholes), (c_rows_over, P_rows_over)] : List (Addr × Addr)), none, w⟩) A__law_pool y_list
  have D__law_draw : DFs l.prog w ⟨base, K, fun c P => (c, P) ∈ ([(c_wholes, P_wholes), (c_rows_over, P_rows_over)] : List (Addr × Addr)), none, w⟩ mg 2 "_law_draw" s__law_draw f__law_draw ["pool", "many"] F__law_draw := ok__law_draw (G := ⟨base, K, fun c P => (c, P) ∈ ([(c_wholes, P_wholes), (c_rows_over, P_rows_over)] : List (Addr × Addr)), none, w⟩) A__law_draw y_abs y_int y_len
  have D__law_pick : DFs l.prog w ⟨base, K, fun c P => (c, P) ∈ ([(c_wholes, P_wholes), (c_rows_over, P_rows_over)] : List (Addr × Addr)), none, w⟩ mg 3 "_law_pick" s__law_pick f__law_pick ["pool", "things"] F__law_pick := ok__law_pick (G := ⟨base, K, fun c P => (c, P) ∈ ([(c_wholes, P_wholes), (c_rows_over, P_rows_over)] : List (Addr × Addr)), none, w⟩) A__law_pick y_len D__law_draw
  have D__law_same : DFs l.prog w ⟨base, K, fun c P => (c, P) ∈ ([(c_wholes, P_wholes), (c_rows_over, P_rows_over)] : List (Addr × Addr)), none, w⟩ mg 9 "_law_same" s__law_same f__law_same ["told", "due"] (F__law_same 8) := ok__law_same (G := ⟨base, K, fun c P => (c, P) ∈ ([(c_wholes, P_wholes), (c_rows_over, P_rows_over)] : List (Addr × Addr)), none, w⟩) A__law_same y_bool y_int y_isinstance y_len y_range y_str y_tuple 8
  have D__law_fraction : DFs l.prog w ⟨base, K, fun c P => (c, P) ∈ ([(c_wholes, P_wholes), (c_rows_over, P_rows_over)] : List (Addr × Addr)), none, w⟩ mg 2 "_law_fraction" s__law_fraction f__law_fraction ["over", "under"] F__law_fraction := ok__law_fraction (G := ⟨base, K, fun c P => (c, P) ∈ ([(c_wholes, P_wholes), (c_rows_over, P_rows_over)] : List (Addr × Addr)), none, w⟩) A__law_fraction y_abs y_int y_max y_range
  have D__law_plus : DFs l.prog w ⟨base, K, fun c P => (c, P) ∈ ([(c_wholes, P_wholes), (c_rows_over, P_rows_over)] : List (Addr × Addr)), none, w⟩ mg 3 "_law_plus" s__law_plus f__law_plus ["a", "b"] F__law_plus := ok__law_plus (G := ⟨base, K, fun c P => (c, P) ∈ ([(c_wholes, P_wholes), (c_rows_over, P_rows_over)] : List (Addr × Addr)), none, w⟩) A__law_plus D__law_fraction
  have D__law_times : DFs l.prog w ⟨base, K, fun c P => (c, P) ∈ ([(c_wholes, P_wholes), (c_rows_over, P_rows_over)] : List (Addr × Addr)), none, w⟩ mg 3 "_law_times" s__law_times f__law_times ["a", "b"] F__law_times := ok__law_times (G := ⟨base, K, fun c P => (c, P) ∈ ([(c_wholes, P_wholes), (c_rows_over, P_rows_over)] : List (Addr × Addr)), none, w⟩) A__law_times D__law_fraction
  have D__law_less : DFs l.prog w ⟨base, K, fun c P => (c, P) ∈ ([(c_wholes, P_wholes), (c_rows_over, P_rows_over)] : List (Addr × Addr)), none, w⟩ mg 3 "_law_less" s__law_less f__law_less ["a", "b"] F__law_less := ok__law_less (G := ⟨base, K, fun c P => (c, P) ∈ ([(c_wholes, P_wholes), (c_rows_over, P_rows_over)] : List (Addr × Addr)), none, w⟩) A__law_less D__law_fraction
  have D__law_total : DFs l.prog w ⟨base, K, fun c P => (c, P) ∈ ([(c_wholes, P_wholes), (c_rows_over, P_rows_over)] : List (Addr × Addr)), none, w⟩ mg 4 "_law_total" s__law_total f__law_total ["some"] F__law_total := ok__law_total (G := ⟨base, K, fun c P => (c, P) ∈ ([(c_wholes, P_wholes), (c_rows_over, P_rows_over)] : List (Addr × Addr)), none, w⟩) A__law_total D__law_plus
  have D__law_row : DFs l.prog w ⟨base, K, fun c P => (c, P) ∈ ([(c_wholes, P_wholes), (c_rows_over, P_rows_over)] : List (Addr × Addr)), none, w⟩ mg 4 "_law_row" s__law_row f__law_row ["pool", "many"] F__law_row := ok__law_row (G := ⟨base, K, fun c P => (c, P) ∈ ([(c_wholes, P_wholes), (c_rows_over, P_rows_over)] : List (Addr × Addr)), none, w⟩) A__law_row y_range y_sum y_tuple D__law_draw D__law_fraction D__law_pick
  have D__law_telling : DFs l.prog w ⟨base, K, fun c P => (c, P) ∈ ([(c_wholes, P_wholes), (c_rows_over, P_rows_over)] : List (Addr × Addr)), none, w⟩ mg 5 "_law_telling" s__law_telling f__law_telling ["pool", "worlds", "signs"] F__law_telling := ok__law_telling (G := ⟨base, K, fun c P => (c, P) ∈ ([(c_wholes, P_wholes), (c_rows_over, P_rows_over)] : List (Addr × Addr)), none, w⟩) A__law_telling y_range y_tuple D__law_draw D__law_row
  have D__law_gains : DFs l.prog w ⟨base, K, fun c P => (c, P) ∈ ([(c_wholes, P_wholes), (c_rows_over, P_rows_over)] : List (Addr × Addr)), none, w⟩ mg 4 "_law_gains" s__law_gains f__law_gains ["pool", "worlds", "acts"] F__law_gains := ok__law_gains (G := ⟨base, K, fun c P => (c, P) ∈ ([(c_wholes, P_wholes), (c_rows_over, P_rows_over)] : List (Addr × Addr)), none, w⟩) A__law_gains y_range y_tuple D__law_draw D__law_fraction D__law_pick
  have D__law_change : DFs l.prog w ⟨base, K, fun c P => (c, P) ∈ ([(c_wholes, P_wholes), (c_rows_over, P_rows_over)] : List (Addr × Addr)), none, w⟩ mg 5 "_law_change" s__law_change f__law_change ["pool", "worlds"] F__law_change := ok__law_change (G := ⟨base, K, fun c P => (c, P) ∈ ([(c_wholes, P_wholes), (c_rows_over, P_rows_over)] : List (Addr × Addr)), none, w⟩) A__law_change y_range y_tuple D__law_draw D__law_row
  have D__law_moved : DFs l.prog w ⟨base, K, fun c P => (c, P) ∈ ([(c_wholes, P_wholes), (c_rows_over, P_rows_over)] : List (Addr × Addr)), none, w⟩ mg 5 "_law_moved" s__law_moved f__law_moved ["change", "numbers"] F__law_moved := ok__law_moved (G := ⟨base, K, fun c P => (c, P) ∈ ([(c_wholes, P_wholes), (c_rows_over, P_rows_over)] : List (Addr × Addr)), none, w⟩) A__law_moved y_len y_range D__law_times D__law_total
  have D__law_joint : DFs l.prog w ⟨base, K, fun c P => (c, P) ∈ ([(c_wholes, P_wholes), (c_rows_over, P_rows_over)] : List (Addr × Addr)), none, w⟩ mg 6 "_law_joint" s__law_joint f__law_joint ["weights", "change", "telling", "signs"] F__law_joint := ok__law_joint (G := ⟨base, K, fun c P => (c, P) ∈ ([(c_wholes, P_wholes), (c_rows_over, P_rows_over)] : List (Addr × Addr)), none, w⟩) A__law_joint y_len y_list y_range D__law_moved D__law_times
  have D__law_rows_of : DFs l.prog w ⟨base, K, fun c P => (c, P) ∈ ([(c_wholes, P_wholes), (c_rows_over, P_rows_over)] : List (Addr × Addr)), none, w⟩ mg 2 "_law_rows_of" s__law_rows_of f__law_rows_of ["signs", "steps"] F__law_rows_of := ok__law_rows_of (G := ⟨base, K, fun c P => (c, P) ∈ ([(c_wholes, P_wholes), (c_rows_over, P_rows_over)] : List (Addr × Addr)), none, w⟩) A__law_rows_of y_range
  have D__law_worth : DFs l.prog w ⟨base, K, fun c P => (c, P) ∈ ([(c_wholes, P_wholes), (c_rows_over, P_rows_over)] : List (Addr × Addr)), none, w⟩ mg 7 "_law_worth" s__law_worth f__law_worth ["weights", "change", "telling", "gains", "steps"] F__law_worth := ok__law_worth (G := ⟨base, K, fun c P => (c, P) ∈ ([(c_wholes, P_wholes), (c_rows_over, P_rows_over)] : List (Addr × Addr)), none, w⟩) A__law_worth y_len y_range D__law_joint D__law_less D__law_rows_of D__law_times D__law_total
  have D__law_garbled : DFs l.prog w ⟨base, K, fun c P => (c, P) ∈ ([(c_wholes, P_wholes), (c_rows_over, P_rows_over)] : List (Addr × Addr)), none, w⟩ mg 5 "_law_garbled" s__law_garbled f__law_garbled ["telling", "table"] F__law_garbled := ok__law_garbled (G := ⟨base, K, fun c P => (c, P) ∈ ([(c_wholes, P_wholes), (c_rows_over, P_rows_over)] : List (Addr × Addr)), none, w⟩) A__law_garbled y_len y_range y_tuple D__law_times D__law_total
  have D__law_is_far : DFs l.prog w ⟨base, K, fun c P => (c, P) ∈ ([(c_wholes, P_wholes), (c_rows_over, P_rows_over)] : List (Addr × Addr)), none, w⟩ mg 4 "_law_is_far" s__law_is_far f__law_is_far ["worlds", "signs"] F__law_is_far := ok__law_is_far (G := ⟨base, K, fun c P => (c, P) ∈ ([(c_wholes, P_wholes), (c_rows_over, P_rows_over)] : List (Addr × Addr)), none, w⟩) A__law_is_far y_range y_tuple X_TooFar DX_step_worth
  have D_law : DFs l.prog w ⟨base, K, fun c P => (c, P) ∈ ([(c_wholes, P_wholes), (c_rows_over, P_rows_over)] : List (Addr × Addr)), none, w⟩ mg 14 "law" s_law fa ["script"] F_law := ok_law (G := ⟨base, K, fun c P => (c, P) ∈ ([(c_wholes, P_wholes), (c_rows_over, P_rows_over)] : List (Addr × Addr)), none, w⟩) A_law y_range y_tuple D__law_change D__law_draw D__law_gains D__law_garbled D__law_is_far D__law_less D__law_pick D__law_pool D__law_row D__law_same D__law_telling D__law_worth D_step_worth
  exact D_law
end LW
open PySem PySem.W PyProof.Rows
set_option maxHeartbeats 0 in
theorem PySem.Challenge.cw_moretold_k82_worth_step_by_step_holds : PySem.Challenge.rw_moretold_k82_worth_step_by_step.Holds := by
  w_on; o_law; k_head; (case hw => w_witness2)
  k_fill
  refine DL.walk_ofD (n := 63) (k := 14) (x := "script") rfl (by decide) rfl ⟨rfl, by decide, by decide⟩ (fun w h Y => PySem.W.kIn_of Y) ?F
  case F =>
    intro w mg fa h Y KX Gn hmg own
    refine' LW.all_mk KX Gn hmg own LW.law_holds ?a_common_part ?l_common_part ?d_common_part ?k_common_part ?a_lowest ?l_lowest ?d_lowest ?k_lowest ?a_bottom_of ?l_bottom_of ?d_bottom_of ?k_bottom_of ?a_wholes ?l_wholes ?d_wholes ?k_wholes ?a_rows_over ?l_rows_over ?d_rows_over ?k_rows_over ?a__check_sizes ?l__check_sizes ?d__check_sizes ?k__check_sizes ?a__changed ?l__changed ?d__changed ?k__changed ?a__heard ?l__heard ?d__heard ?k__heard ?a__all_heard ?l__all_heard ?d__all_heard ?k__all_heard ?a__best ?l__best ?d__best ?k__best ?a_step_worth ?l_step_worth ?d_step_worth ?k_step_worth ?a__law_pool ?l__law_pool ?d__law_pool ?k__law_pool ?a__law_draw ?l__law_draw ?d__law_draw ?k__law_draw ?a__law_pick ?l__law_pick ?d__law_pick ?k__law_pick ?a__law_same ?l__law_same ?d__law_same ?k__law_same ?a__law_fraction ?l__law_fraction ?d__law_fraction ?k__law_fraction ?a__law_plus ?l__law_plus ?d__law_plus ?k__law_plus ?a__law_times ?l__law_times ?d__law_times ?k__law_times ?a__law_less ?l__law_less ?d__law_less ?k__law_less ?a__law_total ?l__law_total ?d__law_total ?k__law_total ?a__law_row ?l__law_row ?d__law_row ?k__law_row ?a__law_telling ?l__law_telling ?d__law_telling ?k__law_telling ?a__law_gains ?l__law_gains ?d__law_gains ?k__law_gains ?a__law_change ?l__law_change ?d__law_change ?k__law_change ?a__law_moved ?l__law_moved ?d__law_moved ?k__law_moved ?a__law_joint ?l__law_joint ?d__law_joint ?k__law_joint ?a__law_rows_of ?l__law_rows_of ?d__law_rows_of ?k__law_rows_of ?a__law_worth ?l__law_worth ?d__law_worth ?k__law_worth ?a__law_garbled ?l__law_garbled ?d__law_garbled ?k__law_garbled ?a__law_is_far ?l__law_is_far ?d__law_is_far ?k__law_is_far ?a_law ?l_law ?d_law ?k_law ?t_wholes ?p_wholes ?n_wholes ?h_wholes ?r_wholes ?t_rows_over ?p_rows_over ?n_rows_over ?h_rows_over ?r_rows_over ?z_abs ?z_bool ?z_int ?z_isinstance ?z_len ?z_list ?z_max ?z_range ?z_str ?z_sum ?z_tuple ?z_zip ?g_MOST ?q1_TooFar ?q2_TooFar ?q3_TooFar ?q4_TooFar ?q5_TooFar ?q6_TooFar ?nl
    (case a_common_part => k_is)
    (case l_common_part => k_is)
    (case d_common_part => k_is)
    (case k_common_part => k_is)
    (case a_lowest => k_is)
    (case l_lowest => k_is)
    (case d_lowest => k_is)
    (case k_lowest => k_is)
    (case a_bottom_of => k_is)
    (case l_bottom_of => k_is)
    (case d_bottom_of => k_is)
    (case k_bottom_of => k_is)
    (case a_wholes => k_is)
    (case l_wholes => k_is)
    (case d_wholes => k_is)
    (case k_wholes => k_is)
    (case a_rows_over => k_is)
    (case l_rows_over => k_is)
    (case d_rows_over => k_is)
    (case k_rows_over => k_is)
    (case a__check_sizes => k_is)
    (case l__check_sizes => k_is)
    (case d__check_sizes => k_is)
    (case k__check_sizes => k_is)
    (case a__changed => k_is)
    (case l__changed => k_is)
    (case d__changed => k_is)
    (case k__changed => k_is)
    (case a__heard => k_is)
    (case l__heard => k_is)
    (case d__heard => k_is)
    (case k__heard => k_is)
    (case a__all_heard => k_is)
    (case l__all_heard => k_is)
    (case d__all_heard => k_is)
    (case k__all_heard => k_is)
    (case a__best => k_is)
    (case l__best => k_is)
    (case d__best => k_is)
    (case k__best => k_is)
    (case a_step_worth => k_is)
    (case l_step_worth => k_is)
    (case d_step_worth => k_is)
    (case k_step_worth => k_is)
    (case a__law_pool => k_is)
    (case l__law_pool => k_is)
    (case d__law_pool => k_is)
    (case k__law_pool => k_is)
    (case a__law_draw => k_is)
    (case l__law_draw => k_is)
    (case d__law_draw => k_is)
    (case k__law_draw => k_is)
    (case a__law_pick => k_is)
    (case l__law_pick => k_is)
    (case d__law_pick => k_is)
    (case k__law_pick => k_is)
    (case a__law_same => k_is)
    (case l__law_same => k_is)
    (case d__law_same => k_is)
    (case k__law_same => k_is)
    (case a__law_fraction => k_is)
    (case l__law_fraction => k_is)
    (case d__law_fraction => k_is)
    (case k__law_fraction => k_is)
    (case a__law_plus => k_is)
    (case l__law_plus => k_is)
    (case d__law_plus => k_is)
    (case k__law_plus => k_is)
    (case a__law_times => k_is)
    (case l__law_times => k_is)
    (case d__law_times => k_is)
    (case k__law_times => k_is)
    (case a__law_less => k_is)
    (case l__law_less => k_is)
    (case d__law_less => k_is)
    (case k__law_less => k_is)
    (case a__law_total => k_is)
    (case l__law_total => k_is)
    (case d__law_total => k_is)
    (case k__law_total => k_is)
    (case a__law_row => k_is)
    (case l__law_row => k_is)
    (case d__law_row => k_is)
    (case k__law_row => k_is)
    (case a__law_telling => k_is)
    (case l__law_telling => k_is)
    (case d__law_telling => k_is)
    (case k__law_telling => k_is)
    (case a__law_gains => k_is)
    (case l__law_gains => k_is)
    (case d__law_gains => k_is)
    (case k__law_gains => k_is)
    (case a__law_change => k_is)
    (case l__law_change => k_is)
    (case d__law_change => k_is)
    (case k__law_change => k_is)
    (case a__law_moved => k_is)
    (case l__law_moved => k_is)
    (case d__law_moved => k_is)
    (case k__law_moved => k_is)
    (case a__law_joint => k_is)
    (case l__law_joint => k_is)
    (case d__law_joint => k_is)
    (case k__law_joint => k_is)
    (case a__law_rows_of => k_is)
    (case l__law_rows_of => k_is)
    (case d__law_rows_of => k_is)
    (case k__law_rows_of => k_is)
    (case a__law_worth => k_is)
    (case l__law_worth => k_is)
    (case d__law_worth => k_is)
    (case k__law_worth => k_is)
    (case a__law_garbled => k_is)
    (case l__law_garbled => k_is)
    (case d__law_garbled => k_is)
    (case k__law_garbled => k_is)
    (case a__law_is_far => k_is)
    (case l__law_is_far => k_is)
    (case d__law_is_far => k_is)
    (case k__law_is_far => k_is)
    (case a_law => k_is)
    (case l_law => k_is)
    (case d_law => k_is)
    (case k_law => k_is)
    (case t_wholes => k_is)
    (case p_wholes => exact rfl)
    (case n_wholes => kernel_rfl)
    (case h_wholes => kernel_rfl)
    (case r_wholes => first | kernel_rfl | decide +kernel)
    (case t_rows_over => k_is)
    (case p_rows_over => exact rfl)
    (case n_rows_over => kernel_rfl)
    (case h_rows_over => kernel_rfl)
    (case r_rows_over => first | kernel_rfl | decide +kernel)
    (case z_abs => k_is)
    (case z_bool => k_is)
    (case z_int => k_is)
    (case z_isinstance => k_is)
    (case z_len => k_is)
    (case z_list => k_is)
    (case z_max => k_is)
    (case z_range => k_is)
    (case z_str => k_is)
    (case z_sum => k_is)
    (case z_tuple => k_is)
    (case z_zip => k_is)
    (case g_MOST => k_is)
    (case q1_TooFar => k_is)
    (case q2_TooFar => first | k_exc | k_is | kernel_rfl)
    (case q3_TooFar => k_is)
    (case q4_TooFar => first | k_is | kernel_rfl)
    (case q5_TooFar => k_is)
    (case q6_TooFar => first | kernel_rfl | k_is)
    (case nl => kernel_rfl)
