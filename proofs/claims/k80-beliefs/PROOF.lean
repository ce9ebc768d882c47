import PyProof.Rows.All
import HandS.ForMost
import HandS.GenList
import KE.KNest
import PyProof.TupleOfGen
import PyProof.ConsumeS
import HandS.IsInst
import HandS.Wide
import HandS.TupAny
import HandS.TupMul
import HandS.Style
import KE.GoesMore
import KE.GoesEnum
import HandS.WideMore
import HandS.EndOwn
import HandS.Words
import PySem.Challenge.RW_moretold_k80_beliefs_behind_signs
set_option Elab.async false
set_option linter.all false
set_option maxRecDepth 100000
set_option maxHeartbeats 4000000
/-! GenX: generator expressions, made in a def's body (or in another one's), their elements any code. -/
namespace GX
open PySem PySem.Spec PyProof.Rows L2 GenW
open PySem.W (CodeHd)

/-! ### the around of a generator's frame -/
section
variable {A : Around} {elt : Expr} {gs : List Comprehension} {scope : Scope} {pos : Pos} {it acc : Value} {env : Env}
theorem ov_h : (A.over (.compLoop (.GeneratorExp elt gs scope pos) 0 it acc env) []).handled = A.handled := rfl
theorem ov_d : (A.over (.compLoop (.GeneratorExp elt gs scope pos) 0 it acc env) []).depth = A.depth + 1 := by
  first | rfl | simp [Around.over, frameCount, Code.weight, Code.frames, Code.isFrame]
theorem ov_f {l : List Env} (h : A.frames = some l) : (A.over (.compLoop (.GeneratorExp elt gs scope pos) 0 it acc env) []).frames = some (env :: l) := by
  simp [Around.over, pushEnvs, envsOf, Code.envs, Code.env?, Code.isFrame, h]
theorem ov_u : (A.over (.compLoop (.GeneratorExp elt gs scope pos) 0 it acc env) []).units = A.units + 3 := by
  first | rfl | simp [Around.over, unitsOf, Code.cUnits, Code.frames, Code.isFrame]
theorem ov_room {k : Nat} (hr : Room (k + 1) A) : Room k (A.over (.compLoop (.GeneratorExp elt gs scope pos) 0 it acc env) []) :=
  ⟨by rw [ov_h]; exact hr.hd, by rw [ov_d]; have := hr.dp; omega, by rw [ov_u]; have := hr.un; omega⟩
end

/-! ### tables of code objects -/
abbrev Tb := Addr → Addr → Prop
/-- the code object at c has its table at P -/
def CodeK (base : Heap) (H : Hp) (c P : Addr) : Prop := H c = some (.ext fun h => CodeHd h c P) ∨ CodeHd base c P
theorem codeHd_at {h h' : Heap} {c P : Addr} (x : CodeHd h c P) (k : ∀ o, h.get? c = some o → h'.get? c = some o) : CodeHd h' c P :=
  let ⟨o, vs, file, tf, flags, tg, inF, text, tt, e, r⟩ := x; ⟨o, vs, file, tf, flags, tg, inF, text, tt, k _ e, r⟩
theorem codeHd_get {h : Heap} {c P : Addr} (x : CodeHd h c P) : ∃ o, h.get? c = some o := let ⟨o, _, _, _, _, _, _, _, _, e, _⟩ := x; ⟨o, e⟩
structure TabI (base : Heap) (T : Tb) (H : Hp) : Prop where
  ok : ∀ c P, T c P → CodeK base H c P ∧ ∃ ps : Array Value, H P = some (.tbl ps) ∧ TriplesOk ps.toList ∧ ∀ pos cv, codeAmong pos ps.toList = some cv → ∃ c' P', cv = .ref c' ∧ T c' P'
theorem TabI.hd {X : Cx} {pins : List (Addr × Obj)} {σ : L2.St} {H : Hp} {s : Shared} {T : Tb} {c P : Addr} (t : TabI X.base T H) (I : Inv X pins σ H s) (h : T c P) : CodeHd s.heap c P := by
  rcases (t.ok c P h).1 with e | e
  · exact (I.hok c _ e).1
  · exact e.keeps I.bk
/-- tables and codes stay: so does TabI -/
theorem TabI.stay {base : Heap} {T : Tb} {H H' : Hp} (t : TabI base T H) (k : ∀ a o, H a = some o → (∀ xs, o ≠ .lst xs) → ((∃ ps, o = .tbl ps) ∨ (∃ φ, o = .ext φ)) → H' a = some o) : TabI base T H' := by
  refine ⟨fun c P h => ?_⟩
  obtain ⟨h1, ps, h2, h3, h4⟩ := t.ok c P h
  refine ⟨?_, ps, k P _ h2 (fun xs e => by cases e) (.inl ⟨ps, rfl⟩), h3, h4⟩
  rcases h1 with e | e
  · exact .inl (k c _ e (fun xs e => by cases e) (.inr ⟨_, rfl⟩))
  · exact .inr e

theorem codeAmong_snoc_inv {pos pos' : Pos} {c cv : Value} (l : List Value) (h : TriplesOk l) : codeAmong pos (l ++ [rawInt pos'.line, rawInt pos'.col, c]) = some cv → codeAmong pos l = some cv ∨ cv = c := by
  fun_induction TriplesOk l with
  | case1 =>
    intro e
    simp only [List.nil_append, codeAmong, rawInt] at e
    split at e
    · cases e; exact .inr rfl
    · cases e
  | case2 a t b u x rest ih =>
    intro e
    simp only [List.cons_append, codeAmong] at e ⊢
    split at e
    · rename_i hc; rw [if_pos hc]; exact .inl e
    · rename_i hc; rw [if_neg hc]; exact ih h e
  | case3 l h1 h2 => exact h.elim

section
variable {X : Cx} {pins : List (Addr × Obj)} {σ : L2.St} {H : Hp} {s : Shared}
/-- the table at P grows; new objects; what stood is kept -/
theorem inv_grow {P c' P' : Addr} {ps more : Array Value} {h' : Heap} {t' : Nat} (I : Inv X pins σ H s) (hP : H P = some (.tbl ps)) (k : ∀ b o, b ≠ P → s.heap.get? b = some o → h'.get? b = some o)
    (hm : h'.get? P = some { cls := .none, data := .fields (ps ++ more) }) (hc : s.heap.objs.size ≤ c') (hP' : s.heap.objs.size ≤ P') (hcP : c' ≠ P') (cd : CodeHd h' c' P') (hP2 : h'.get? P' = some { cls := .none, data := .fields #[] }) :
    Inv X pins σ (upd (upd (upd H P (.tbl (ps ++ more))) c' (.ext fun h => CodeHd h c' P')) P' (.tbl #[])) { s with heap := h', toks := t' } := by
  have hPs : P < s.heap.objs.size := I.hok.lt hP
  have lt : ∀ b o, s.heap.get? b = some o → b ≠ c' ∧ b ≠ P' := fun b o e => ⟨Nat.ne_of_lt (Nat.lt_of_lt_of_le (Heap.lt_size e) hc), Nat.ne_of_lt (Nat.lt_of_lt_of_le (Heap.lt_size e) hP')⟩
  have hn1 : H c' = none := I.hok.fresh hc
  have hn2 : H P' = none := I.hok.fresh hP'
  have ltH : ∀ b u, H b = some u → b ≠ c' ∧ b ≠ P' := fun b u e => ⟨ne_of_none e hn1, ne_of_none e hn2⟩
  have hPc : P ≠ c' := (ltH P _ hP).1
  have hPP : P ≠ P' := (ltH P _ hP).2
  have at_ : ∀ b, b ≠ P → b ≠ c' → b ≠ P' → (upd (upd (upd H P (.tbl (ps ++ more))) c' (.ext fun h => CodeHd h c' P')) P' (.tbl #[])) b = H b := fun b h1 h2 h3 => by rw [upd_ne h3, upd_ne h2, upd_ne h1]
  have atP : (upd (upd (upd H P (.tbl (ps ++ more))) c' (.ext fun h => CodeHd h c' P')) P' (.tbl #[])) P = some (.tbl (ps ++ more)) := by rw [upd_ne hPP, upd_ne hPc, upd_same]
  have nP : ∀ b u, H b = some u → (∀ q, u ≠ .tbl q) → b ≠ P := fun b u e q z => by
    rw [z, hP] at e
    exact q ps (Option.some.inj e).symm
  have nN : ∀ b, H b = none → b ≠ P := fun b e z => by
    rw [z, hP] at e
    cases e
  refine I.step (g' := s.gens) (d' := s.drawn) (ch := []) (fun b hb => absurd hb (by simp)) (fun b o _ _ _ e n => k b o (nN b n) e) (fun b o _ _ _ e n => ⟨o.slots, k b o (nN b n) e⟩)
    (fun b o _ e n => by rw [at_ b (nN b n) (lt b o e).1 (lt b o e).2]; exact n) (fun b o _ e => ?_) (fun b xs e => by rw [at_ b (nP b _ e (fun q z => by cases z)) (ltH b _ e).1 (ltH b _ e).2]; exact e)
    (fun b o u e => by rw [at_ b (nP b _ e (fun q z => by cases z)) (ltH b _ e).1 (ltH b _ e).2]; exact e) (fun b qs e => ?_) (fun m hn => ?_) (fun b u e => ?_) I.bare
  · by_cases hb : b = P
    · rw [hb]
      exact ⟨_, hm⟩
    · exact ⟨o, k b o hb e⟩
  · by_cases hb : b = P
    · rw [hb, hP] at e
      cases e
      rw [hb, atP]
      exact ⟨more, rfl⟩
    · rw [at_ b hb (ltH b _ e).1 (ltH b _ e).2, e]
      exact ⟨#[], by simp⟩
  · obtain ⟨ob, es, ep, ho, r⟩ := hn
    exact ⟨ob, es, ep, k _ ob (nN _ I.free) ho, r⟩
  · by_cases hb : b = P'
    · rw [hb, upd_same] at e
      cases e
      rw [hb]
      exact hP2
    · rw [upd_ne hb] at e
      by_cases hb1 : b = c'
      · rw [hb1, upd_same] at e
        cases e
        rw [hb1]
        exact ⟨cd, codeHd_get cd, fun h1 h2 x k => codeHd_at x k⟩
      · rw [upd_ne hb1] at e
        by_cases hb2 : b = P
        · rw [hb2, upd_same] at e
          cases e
          rw [hb2]
          exact hm
        · rw [upd_ne hb2] at e
          refine (I.hok b u e).stay (fun d v hd q => k d v ?_ q) (fun d q => by rw [at_ d (nP d _ q (fun q z => by cases z)) (ltH d _ q).1 (ltH d _ q).2]; exact q)
            fun d xs q => by rw [at_ d (nP d _ q (fun q z => by cases z)) (ltH d _ q).1 (ltH d _ q).2]; exact q
          rcases hd with z | z
          · rw [z]
            exact hb2
          · exact nP d _ z (fun q z => by cases z)
/-- T with one more -/
def TbAdd (T : Tb) (c' P' : Addr) : Tb := fun a b => T a b ∨ (a = c' ∧ b = P')
theorem TabI.grow {base : Heap} {T : Tb} {H : Hp} {P c c' P' : Addr} {ps : Array Value} {pos : Pos} (t : TabI base T H) (hT : T c P) (hP : H P = some (.tbl ps)) (h3 : TriplesOk ps.toList) (hn1 : H c' = none) (hn2 : H P' = none) (hcP : c' ≠ P')
    (h4 : ∀ pos cv, codeAmong pos ps.toList = some cv → ∃ c' P', cv = .ref c' ∧ T c' P') :
    TabI base (TbAdd T c' P') (upd (upd (upd H P (.tbl (ps ++ #[rawInt pos.line, rawInt pos.col, .ref c']))) c' (.ext fun h => CodeHd h c' P')) P' (.tbl #[])) := by
  have ltH : ∀ b u, H b = some u → b ≠ c' ∧ b ≠ P' := fun b u e => ⟨ne_of_none e hn1, ne_of_none e hn2⟩
  have hl : (ps ++ #[rawInt pos.line, rawInt pos.col, Value.ref c']).toList = ps.toList ++ [rawInt pos.line, rawInt pos.col, .ref c'] := by simp
  refine ⟨fun a b hab => ?_⟩
  rcases hab with hab | ⟨rfl, rfl⟩
  · obtain ⟨g1, qs, g2, g3, g4⟩ := t.ok a b hab
    refine ⟨?_, ?_⟩
    · rcases g1 with e | e
      · refine .inl ?_
        have aP : a ≠ P := fun z => by rw [z, hP] at e; cases e
        rw [upd_ne (ltH a _ e).2, upd_ne (ltH a _ e).1, upd_ne aP]; exact e
      · exact .inr e
    · by_cases hb : b = P
      · rw [hb, hP] at g2
        cases g2
        refine ⟨ps ++ #[rawInt pos.line, rawInt pos.col, .ref c'], by rw [hb, upd_ne (ltH P _ hP).2, upd_ne (ltH P _ hP).1, upd_same], by rw [hl]; exact TriplesOk_snoc _ _ _ _ h3, fun po cv h => ?_⟩
        rw [hl] at h
        rcases codeAmong_snoc_inv _ h3 h with h | h
        · obtain ⟨d, D, e1, e2⟩ := h4 po cv h
          exact ⟨d, D, e1, .inl e2⟩
        · exact ⟨c', P', h, .inr ⟨rfl, rfl⟩⟩
      · refine ⟨qs, by rw [upd_ne (ltH b _ g2).2, upd_ne (ltH b _ g2).1, upd_ne hb]; exact g2, g3, fun po cv h => ?_⟩
        obtain ⟨d, D, e1, e2⟩ := g4 po cv h
        exact ⟨d, D, e1, .inl e2⟩
  · refine ⟨.inl (by rw [upd_ne hcP, upd_same]), #[], upd_same, trivial, fun po cv h => ?_⟩
    simp [codeAmong] at h

/-- the code object of a generator expression: met or made -/
theorem genexpr_code {T : Tb} {c P : Addr} {pos : Pos} {q : Str} {scope : Scope} {E : Value → Shared → Prop} {Q : Value → Shared → Prop} (I : Inv X pins σ H s) (t : TabI X.base T H) (hc : X.env.code = .ref c) (hT : T c P)
    (h : ∀ (H' : Hp) (T' : Tb) (c' P' : Addr) (s' : Shared), Inv X pins σ H' s' → TabI X.base T' H' → (∀ a b, T a b → T' a b) → T' c' P' → (∀ b o, H b = some o → (∀ ps, o ≠ .tbl ps) → H' b = some o) → (∀ b, H' b = none → H b = none) →
      (∀ b o, s.heap.get? b = some o → H b = none → s'.heap.get? b = some o ∧ H' b = none) → s.heap.objs.size ≤ s'.heap.objs.size → Q (.ref c') s') :
    wpAny (model X.prog X.w) X.A (genexprCode X.env pos q scope) Q E s := by
  obtain ⟨_, ps, hP, h3, h4⟩ := t.ok c P hT
  have hd := t.hd I hT
  have hPs : s.heap.get? P = some { cls := .none, data := .fields ps } := I.hok P _ hP
  cases hf : codeAmong pos ps.toList with
  | some cv =>
    obtain ⟨c', P', rfl, hT'⟩ := h4 pos cv hf
    exact wpAny_genexprCode_hit hc (hd.code hPs h3) hf (h H T c' P' s I t (fun _ _ z => z) hT' (fun _ _ e _ => e) (fun _ e => e) (fun _ _ e n => ⟨e, n⟩) (Nat.le_refl _))
  | none =>
    refine wpAny_genexprCodeX hc (hd.code hPs h3) (hd.tab hPs) hf fun c' h' tk hx hge hlt hco' _ htab' hnew => ?_
    obtain ⟨P', hP'ge, hcode', htab2⟩ := hnew
    have cd : CodeHd h' c' P' := CodeHd.of hcode' htab2
    have hcP : c' ≠ P' := let ⟨_, _, _, _, _, _, _, _, _, _, _, _, _, _, _, _, _, _, e⟩ := cd; e
    have hP2 : h'.get? P' = some { cls := .none, data := .fields #[] } := htab2.2
    have hm : h'.get? P = some { cls := .none, data := .fields (ps ++ #[rawInt pos.line, rawInt pos.col, .ref c']) } := htab'.2
    have hn1 : H c' = none := I.hok.fresh hge
    have hn2 : H P' = none := I.hok.fresh hP'ge
    have J := inv_grow (t' := tk) I hP (fun b o hb e => hx b o hb e) hm hge hP'ge hcP cd hP2
    have ltH : ∀ b u, H b = some u → b ≠ c' ∧ b ≠ P' := fun b u e => ⟨ne_of_none e hn1, ne_of_none e hn2⟩
    refine h _ (TbAdd T c' P') c' P' _ J (t.grow (pos := pos) hT hP h3 hn1 hn2 hcP h4) (fun _ _ z => .inl z) (.inr ⟨rfl, rfl⟩) (fun b o e hb => ?_) (fun b e => ?_) (fun b o e n => ?_) (Nat.le_trans hge (Nat.le_of_lt hlt))
    · have bP : b ≠ P := fun z => by rw [z, hP] at e; exact hb ps (Option.some.inj e).symm
      rw [upd_ne (ltH b _ e).2, upd_ne (ltH b _ e).1, upd_ne bP]; exact e
    · by_cases hb : b = P'
      · rw [hb, upd_same] at e; cases e
      · rw [upd_ne hb] at e
        by_cases hb1 : b = c'
        · rw [hb1, upd_same] at e; cases e
        · rw [upd_ne hb1] at e
          by_cases hb2 : b = P
          · rw [hb2, upd_same] at e; cases e
          · rw [upd_ne hb2] at e; exact e
    · have bP : b ≠ P := fun z => by rw [z, hP] at n; cases n
      have b1 : b ≠ c' := Nat.ne_of_lt (Nat.lt_of_lt_of_le (Heap.lt_size e) hge)
      have b2 : b ≠ P' := Nat.ne_of_lt (Nat.lt_of_lt_of_le (Heap.lt_size e) hP'ge)
      exact ⟨hx b o bP e, by rw [upd_ne b2, upd_ne b1, upd_ne bP]; exact n⟩
end
end GX

set_option maxRecDepth 100000
set_option maxHeartbeats 4000000
namespace GX
open PySem PySem.Spec PyProof.Rows L2 GenW
open PySem.W (CodeHd)

abbrev gxEnv (X : Cx) (scope : Scope) (L : Addr) (cl : List (Str × Addr)) (q : Str) (code : Value) : Env := newEnv scope L X.env.globals cl q none code none builtinsNs
/-- the context of a generator expression's body -/
abbrev gx (X : Cx) (s : Shared) (H : Hp) (scope : Scope) (L : Addr) (cl : List (Str × Addr)) (q : Str) (code : Value) (fp : List Addr) (pn : List (Addr × Obj)) (A : Around) : Cx :=
  { X with A := A, s_0 := s, H_0 := H, env := gxEnv X scope L cl q code, outer := X.stack, stack := gxEnv X scope L cl q code :: X.stack, ex := fp, fn := fun x => scope.names.lookup x == some .cell, pn := pn, xe := fun _ _ => False }
section
variable {X : Cx} {pins : List (Addr × Obj)} {σ : L2.St} {H : Hp} {s : Shared}
theorem gx_start {scope : Scope} {own : List (Str × Nat)} {fp : List Addr} {pn : List (Addr × Obj)} {A : Around} {code : Value} {q : Str} {s5 : Shared} (I : Inv X pins σ H s) (ok : BlkOk X.N X.env.scope scope own) (hN : X.N.Nodup)
    (hfp : ∀ b ∈ fp, FpOk X pins H b ∧ b < s.heap.objs.size) (hh : A.handled = none)
    (hfr : A.frames = some (gxEnv X scope s.heap.objs.size (cellsFrom (s.heap.objs.size + 1) scope.names (cloFrom X.env.cells scope.names [])) q code :: X.stack))
    (os : s5.os = s.os) (bare : AllBare s5.gens) (kp : ∀ b o, s.heap.get? b = some o → s5.heap.get? b = some o) (ns : ∃ m, s5.heap.Ns s.heap.objs.size m)
    (cls : ∀ y c, (y, c) ∈ cellsFrom (s.heap.objs.size + 1) scope.names (cloFrom X.env.cells scope.names []) → s.heap.objs.size + 1 ≤ c → ∃ v, s5.heap.IsCell c v)
    (hpn : ∀ p ∈ pn, s5.heap.get? p.1 = some p.2 ∧ H p.1 = none ∧ p.1 ≠ s.heap.objs.size ∧ p.1 ∉ frs X.stack ∧ ∀ v, p.2.data ≠ .cell v) :
    Inv (gx X s H scope s.heap.objs.size (cellsFrom (s.heap.objs.size + 1) scope.names (cloFrom X.env.cells scope.names [])) q code fp pn A) [] (wipe σ (own.map (·.2))) H s5 := by
  have hfree : ∀ y ∈ scope.names, y.2 = .free → ∃ c, X.env.cells.lookup y.1 = some c := fun y hy e => by
    rcases ok.free y hy e with k | k
    · exact I.ok.has _ (.inl k)
    · exact I.ok.has _ (.inr k)
  generalize hcenv : gxEnv X scope s.heap.objs.size (cellsFrom (s.heap.objs.size + 1) scope.names (cloFrom X.env.cells scope.names [])) q code = cenv at *
  have hL : cenv.locals = s.heap.objs.size := by rw [← hcenv]; rfl
  have hfrm : cenv.frame = some cenv.locals := by rw [← hcenv]; rfl
  have hcl : cenv.cells = cellsFrom (s.heap.objs.size + 1) scope.names (cloFrom X.env.cells scope.names []) := by rw [← hcenv]; rfl
  have hsc : cenv.scope = scope := by rw [← hcenv]; rfl
  have hcl0 := hcl
  rw [← Heap.size_push s.heap { cls := .type "frame", data := .dict #[] }] at hcl
  have cm : ∀ {y c}, (y, c) ∈ cloFrom X.env.cells scope.names [] → X.env.cells.lookup y = some c ∧ c < s.heap.objs.size := fun {y c} hm => by
    rcases cloFrom_mem hm with hm | ⟨h1, rfl⟩
    · cases hm
    · obtain ⟨c, hc⟩ := hfree _ h1 rfl
      rw [hc]
      obtain ⟨w, z⟩ := I.cell _ _ hc
      exact ⟨rfl, z.lt⟩
  have mem : ∀ {y c}, cenv.cells.lookup y = some c → (X.env.cells.lookup y = some c ∧ c < s.heap.objs.size) ∨ (s.heap.objs.size + 1 ≤ c ∧ ∃ v, s5.heap.IsCell c v) := fun {y c} e => by
    have e0 := e
    rw [hcl] at e
    rcases cells_mem (PySem.mem_of_lookup e) with hm | ⟨_, h2, h3⟩
    · exact .inl (cm hm)
    · rw [Heap.size_push] at h2
      rw [hcl0] at e0
      exact .inr ⟨h2, cls y c (PySem.mem_of_lookup e0) h2⟩
  have look : ∀ {y}, scope.names.lookup y = some .free → ∃ c, cenv.cells.lookup y = some c ∧ X.env.cells.lookup y = some c := fun {y} hl => by
    have hy : (y, NameKind.free) ∈ scope.names := PySem.mem_of_lookup hl
    obtain ⟨c', e'⟩ := mem_lookup (cells_acc (names := scope.names) (n := (s.heap.push { cls := .type "frame", data := .dict #[] }).objs.size) (cloFrom_has (cells := X.env.cells) (acc := []) hy))
    rw [← hcl] at e'
    refine ⟨c', e', ?_⟩
    rw [hcl] at e'
    rcases cells_mem (PySem.mem_of_lookup e') with hm | ⟨h1, _, _⟩
    · exact (cm hm).1
    · have := ok.uniq _ h1
      rw [hl] at this; cases this
  have okB : (gx X s H scope s.heap.objs.size (cellsFrom (s.heap.objs.size + 1) scope.names (cloFrom X.env.cells scope.names [])) q code fp pn A).Ok := by
    unfold gx
    rw [hcenv]
    refine ⟨I.ok.mod, by show cenv.scope.kind = _; rw [hsc]; exact ok.kind, by show cenv.globals = _; rw [← hcenv]; exact I.ok.glob, by show cenv.builtins = _; rw [← hcenv]; rfl, by show s.heap.objs.size ≤ cenv.locals; rw [hL]; exact Nat.le_refl _,
      fun y z c e1 e2 => ?_, fun y hy => ?_, fun y c z e => ?_, fun _ => hh, hfr, .inr ⟨rfl, hfrm⟩, fun b hb => ⟨?_, fun y c e z => ?_⟩, I.bs, Nat.le_trans I.ok.bsz I.sz, fun b o e hb => ?_, fun b hb z => ?_, I.stack, I.stkFree⟩
    · have e1 : cenv.cells.lookup y = some c := e1
      have e2 : cenv.cells.lookup z = some c := e2
      rw [hcl] at e1 e2
      refine cells_inj (fun p hp => ?_) (fun y z c a b => I.ok.inj y z c (cm a).1 (cm b).1) (PySem.mem_of_lookup e1) (PySem.mem_of_lookup e2)
      rw [Heap.size_push]
      exact Nat.lt_succ_of_lt (cm (y := p.1) (c := p.2) hp).2
    · show ∃ c, cenv.cells.lookup y = some c
      have key : ∀ k, cenv.kindOf y = some k → (k = .cell ∨ k = .free) → ∃ c, cenv.cells.lookup y = some c := fun k hk hk' => by
        unfold Env.kindOf at hk
        rw [hsc] at hk
        rcases hk' with rfl | rfl
        · obtain ⟨c, hm⟩ := cells_has (n := (s.heap.push { cls := .type "frame", data := .dict #[] }).objs.size) (acc := cloFrom X.env.cells scope.names []) (PySem.mem_of_lookup hk)
          obtain ⟨c', e'⟩ := mem_lookup hm
          exact ⟨c', by rw [hcl]; exact e'⟩
        · obtain ⟨c, h1, _⟩ := look hk
          exact ⟨c, h1⟩
      rcases hy with hy | hy
      · exact key _ hy (.inl rfl)
      · exact key _ hy (.inr rfl)
    · have z : (scope.names.lookup y == some NameKind.cell) = true := z
      have z : scope.names.lookup y = some .cell := by simpa using z
      have e : cenv.cells.lookup y = some c := e
      rw [hcl] at e
      rcases cells_mem (PySem.mem_of_lookup e) with hm | ⟨_, h2, _⟩
      · rcases cloFrom_mem hm with hm | ⟨h1, _⟩
        · cases hm
        · have q := ok.uniq _ h1
          rw [z] at q; cases q
      · rw [Heap.size_push] at h2
        exact Nat.le_of_succ_le h2
    · show b ≠ cenv.locals
      rw [hL]; exact Nat.ne_of_lt (hfp b hb).2
    · have e : cenv.cells.lookup y = some c := e
      rcases mem e with ⟨h1, _⟩ | ⟨h1, _⟩
      · exact (hfp b hb).1.2.2.2.2.1 y c h1 z
      · have h2 : s.heap.objs.size + 1 ≤ b := by rw [← z]; exact h1
        exact absurd (Nat.lt_of_lt_of_le (hfp b hb).2 (Nat.le_of_succ_le h2)) (Nat.lt_irrefl _)
    · rcases (hfp b hb).1.2.2.2.1 with z | z
      · exact I.ok.noex b o e z
      · exact absurd (Nat.lt_of_lt_of_le (Heap.lt_size e) (Nat.le_trans I.ok.bsz z)) (Nat.lt_irrefl _)
    · rcases List.mem_cons.mp (I.stkSub b z) with z | z
      · exact (hfp b hb).1.2.1 z
      · exact (hfp b hb).1.2.2.1 z
  obtain ⟨m0, hn0⟩ := ns
  refine ⟨okB, os, bare, Un.kept kp, ⟨m0, ?_, fun i y av e1 e2 e3 => ?_⟩, fun y c e => ?_, ?_, fun y c e => ?_, fun p hp => ?_, I.hok.kept kp, by rw [wipe_length]; exact I.len⟩
  · exact hn0
  · obtain ⟨e2, hne⟩ := wipe_some e2
    have hfr : scope.names.lookup y = some .free ∧ cenv.kindOf y = some .free := by
      have key : ∀ k, cenv.scope.names.lookup y = some k → k = .local ∨ k = .cell ∨ k = .free → scope.names.lookup y = some .free ∧ cenv.kindOf y = some .free := fun k hk hk' => by
        have hk0 := hk
        rw [hsc] at hk
        have no : ¬ (k = .local ∨ k = .cell) := fun hh => by
          rcases ok.own _ (PySem.mem_of_lookup hk) hh with e' | e'
          · obtain ⟨p, hp, hpy⟩ := List.mem_map.mp e'
            have e3 := ok.ix p hp
            have : p.1 = y := hpy
            rw [this] at e3
            exact hne (List.mem_map.mpr ⟨p, hp, nodup_ix hN e3 e1⟩)
          · exact e' (List.mem_of_getElem? e1)
        rcases hk' with rfl | rfl | rfl
        · exact absurd (.inl rfl) no
        · exact absurd (.inr rfl) no
        · exact ⟨hk, hk0⟩
      have e3 : Vis scope y := e3
      rw [← hsc] at e3
      rcases e3 with e3 | e3 | e3
      · exact key _ e3 (.inl rfl)
      · exact key _ e3 (.inr (.inl rfl))
      · exact key _ e3 (.inr (.inr rfl))
    obtain ⟨m, hn, hl⟩ := I.loc
    have hvis : Vis X.env.scope y := (ok.free _ (PySem.mem_of_lookup hfr.1) rfl).elim (fun k => .inr (.inl k)) (fun k => .inr (.inr k))
    obtain ⟨w, r, q⟩ := hl i y av e1 e2 hvis
    obtain ⟨c, h1, h2⟩ := look hfr.1
    rw [hcl0] at h1
    refine ⟨w, r, .inr ⟨.inr hfr.1, ?_⟩⟩
    rcases q with ⟨k, _⟩ | ⟨_, c', e', z⟩
    · have k : X.env.scope.names.lookup y = some .local := k
      rcases ok.free _ (PySem.mem_of_lookup hfr.1) rfl with k' | k' <;> rw [show X.env.scope.names.lookup y = _ from k'] at k <;> cases k
    · rw [h2] at e'; cases e'
      exact ⟨c, h1, z.keeps kp⟩
  · have e : cenv.cells.lookup y = some c := by rw [hcl0]; exact e
    rcases mem e with ⟨h1, _⟩ | ⟨_, z⟩
    · obtain ⟨w, z⟩ := I.cell y c h1
      exact ⟨w, z.keeps kp⟩
    · exact z
  · exact I.hok.fresh (Nat.le_refl _)
  · have e : cenv.cells.lookup y = some c := by rw [hcl0]; exact e
    rcases mem e with ⟨h1, _⟩ | ⟨h1, _⟩
    · exact I.freeC y c h1
    · exact I.hok.fresh (Nat.le_of_succ_le h1)
  · have hp' : p ∈ pn := by
      rcases List.mem_append.mp hp with z | z
      · exact z
      · exact absurd z (by simp)
    exact hpn p hp'
end
end GX

set_option maxRecDepth 100000
set_option maxHeartbeats 4000000
namespace GX
open PySem PySem.Spec PyProof.Rows L2 GenW
open PySem.W (CodeHd)

/-- the consumer's objects at Cs; at So, if it fills a list, what is out so far -/
def PinOk (So : Option Addr) (Cs : List Addr) (ys : List V) (pins : List (Addr × Obj)) : Prop :=
  pins.map (·.1) = Cs ∧ ∀ S, So = some S → ∃ (acc : Array Value) (c : Nat), (S, lstObj acc c) ∈ pins ∧ Vals ys acc.toList
def GIo (X : Cx) (So : Option Addr) (Cs : List Addr) (ys : List V) (σ : L2.St) (H : Hp) (s : Shared) : Prop := ∃ pins, PinOk So Cs ys pins ∧ Inv X pins σ H s
def NoCell (o : Obj) : Prop := ∀ v, o.data ≠ .cell v
/-- while the generator sleeps -/
structure Slo (So : Option Addr) (Cs : List Addr) (v : Value) (s s' : Shared) : Prop where
  os : s'.os = s.os
  bare : AllBare s'.gens
  keep : ∀ b o, b ∉ Cs → s.heap.get? b = some o → s'.heap.get? b = some o
  own : ∀ b ∈ Cs, ∀ o, s.heap.get? b = some o → NoCell o → ∃ o', s'.heap.get? b = some o' ∧ NoCell o' ∧ (So = some b → ∀ acc c, o = lstObj acc c → ∃ c', o' = lstObj (acc.push v) c')
def ApartC (X : Cx) (Cs : List Addr) : Prop := ∀ b ∈ Cs, X.s_0.heap.objs.size ≤ b ∧ b ≠ X.env.locals ∧ (∀ x c, X.env.cells.lookup x = some c → c ≠ b) ∧ ∀ p ∈ X.pn, p.1 ≠ b

theorem GIo.woken {X : Cx} {So : Option Addr} {Cs : List Addr} {ys : List V} {x : V} {v : Value} {σ : L2.St} {H : Hp} {s s' : Shared} (hnd : Cs.Nodup) (hA : ApartC X Cs) (hSo : ∀ S, So = some S → S ∈ Cs) (h : GIo X So Cs ys σ H s) (rv : RelV x v) (z : Slo So Cs v s s') :
    GIo X So Cs (ys ++ [x]) σ H s' := by
  obtain ⟨pins, ⟨hp1, hp2⟩, I⟩ := h
  have I0 : Inv X [] σ H s := I.pins_of fun p hp => absurd hp (by simp)
  have at_ : ∀ p ∈ pins, s.heap.get? p.1 = some p.2 ∧ H p.1 = none ∧ p.1 ≠ X.env.locals ∧ p.1 ∉ X.fs ∧ NoCell p.2 := fun p hp => I.pin p (List.mem_append_right _ hp)
  have cs : ∀ b ∈ Cs, ∃ o, (b, o) ∈ pins := fun b hb => by
    rw [← hp1] at hb
    obtain ⟨p, hp, e⟩ := List.mem_map.mp hb
    exact ⟨p.2, by rw [← e]; exact hp⟩
  have csn : ∀ b ∈ Cs, H b = none := fun b hb => by
    obtain ⟨o, ho⟩ := cs b hb
    exact (at_ _ ho).2.1
  have nt : ∀ b u, H b = some u → b ∉ Cs := fun b u q hb => by rw [csn b hb] at q; cases q
  have mk : ∀ b ∈ Cs, ∃ o', s'.heap.get? b = some o' ∧ NoCell o' := fun b hb => by
    obtain ⟨o, ho⟩ := cs b hb
    obtain ⟨e1, _, _, _, e2⟩ := at_ _ ho
    obtain ⟨o', f1, f2, _⟩ := z.own b hb o e1 e2
    exact ⟨o', f1, f2⟩
  obtain ⟨z1, z2, z3, z4⟩ := z
  obtain ⟨hh, g, d, t, o⟩ := s'
  have ho : o = s.os := z1
  subst ho
  have J : Inv X [] σ H { s with heap := hh, gens := g, drawn := d, toks := t } := by
    refine I0.step (g' := g) (t' := t) (d' := d) (ch := Cs) (fun b hb => ?_)
      (fun b ob _ _ hc q _ => z3 b ob hc q) (fun b ob _ _ hc q _ => ⟨ob.slots, z3 b ob hc q⟩) (fun _ _ _ _ n => n) (fun b ob hc q => ⟨ob, z3 b ob hc q⟩)
      (fun _ _ q => q) (fun _ _ _ q => q) (fun b ps q => ⟨#[], by rw [q]; simp⟩) (fun m hm => ?_) (fun b u q => ?_) z2
    · obtain ⟨a1, a2, a3, a4⟩ := hA b hb
      refine ⟨.inr a1, a2, a3, fun p hp => ?_⟩
      rcases List.mem_append.mp hp with hp | hp
      · exact a4 p hp
      · exact absurd hp (by simp)
    · obtain ⟨ob, es, ep, ho, r⟩ := hm
      exact ⟨ob, es, ep, z3 _ ob (fun hm => (hA _ hm).2.1 rfl) ho, r⟩
    · refine (I0.hok b u q).stay (fun c v hc y => z3 c v ?_ y) (fun _ y => y) fun _ _ y => y
      rcases hc with y | y
      · rw [y]; exact nt b u q
      · exact nt c _ y
  -- the new pins
  have mk2 : ∀ l : List (Addr × Obj), (∀ p ∈ l, p ∈ pins) → (l.map (·.1)).Nodup → ∃ l' : List (Addr × Obj), l'.map (·.1) = l.map (·.1) ∧ (∀ p ∈ l', hh.get? p.1 = some p.2 ∧ NoCell p.2 ∧ p.1 ∈ Cs) ∧
      ∀ S, So = some S → ∀ acc c, (S, lstObj acc c) ∈ l → ∃ c', (S, lstObj (acc.push v) c') ∈ l' := by
    intro l
    induction l with
    | nil => intro _ _; exact ⟨[], rfl, fun p hp => absurd hp (by simp), fun S _ acc c hp => absurd hp (by simp)⟩
    | cons p r ih =>
      intro hm hn
      obtain ⟨l', h1, h2, h3⟩ := ih (fun q hq => hm q (List.mem_cons_of_mem _ hq)) (List.nodup_cons.mp hn).2
      have hp := hm p List.mem_cons_self
      have hb : p.1 ∈ Cs := by rw [← hp1]; exact List.mem_map.mpr ⟨p, hp, rfl⟩
      obtain ⟨e1, _, _, _, e2⟩ := at_ p hp
      obtain ⟨o', f1, f2, f3⟩ := z4 p.1 hb p.2 e1 e2
      refine ⟨(p.1, o') :: l', by simp [h1], fun q hq => ?_, fun S hS acc c hq => ?_⟩
      · rcases List.mem_cons.mp hq with rfl | hq
        · exact ⟨f1, f2, hb⟩
        · exact h2 q hq
      · rcases List.mem_cons.mp hq with e | hq
        · obtain ⟨c', e'⟩ := f3 (by rw [← e]; exact hS) acc c (by rw [← e])
          refine ⟨c', ?_⟩
          rw [← e', ← e]
          exact List.mem_cons_self
        · obtain ⟨c', h⟩ := h3 S hS acc c hq
          exact ⟨c', List.mem_cons_of_mem _ h⟩
  obtain ⟨pins', q1, q2, q3⟩ := mk2 pins (fun _ h => h) (by rw [hp1]; exact hnd)
  refine ⟨pins', ⟨by rw [q1, hp1], fun S hS => ?_⟩, J.pins_of fun p hp => ?_⟩
  · obtain ⟨acc, c, m1, m2⟩ := hp2 S hS
    obtain ⟨c', m3⟩ := q3 S hS acc c m1
    refine ⟨acc.push v, c', m3, ?_⟩
    rw [Array.toList_push]
    exact m2.append (.cons rv .nil)
  · obtain ⟨e1, e2, e3⟩ := q2 p hp
    obtain ⟨o, ho⟩ := cs p.1 e3
    obtain ⟨_, b1, b2, b3, _⟩ := at_ _ ho
    exact ⟨e1, b1, b2, b3, e2⟩

/-! ### the run -/
def YO (X : Cx) (So : Option Addr) (Cs : List Addr) (N : Nat) (Qy : List V → V → Hp → Prop) (Rs : List V → V → Prop) : Protocol := fun n s₀ v s kap =>
  ∃ ys x σ H, n + 1 + ys.length = N ∧ RelV x v ∧ GIo X So Cs ys σ H s ∧ Qy ys x H ∧ (Rs ys x → ∀ s', Slo So Cs v s s' → kap (.send .none) s')
def RO (X : Cx) (So : Option Addr) (Cs : List Addr) (N : Nat) (Qe : List V → Hp → Prop) : GenEnd := fun n s₀ r s => r = .ok .next ∧ ∃ ys σ H, n + ys.length = N ∧ GIo X So Cs ys σ H s ∧ Qe ys H
def GTurn (J : It) (g : TG) (tt : TT) (te : TE) (vs : List Nat) (σg : L2.St) (N : Nat) (Qy : List V → V → Hp → Prop) (Rs : List V → V → Prop) (Qe : List V → Hp → Prop) (W : Nat → Nat → List V → Hp → Prop) : Prop :=
  ∀ i m ys H, W i m ys H → (J.stop i H ∧ Qe ys H) ∨ (J.go i H ∧ ∀ x H', J.yld i H x H' → g x σg H' fun σ2 H2 => wipe σ2 vs = σg ∧ tt σ2 H2 fun b H3 =>
    if b = true then te σ2 H3 fun y H4 => ys.length < N ∧ Qy ys y H4 ∧ (Rs ys y → ∃ m', m' < m ∧ W (i + 1) m' (ys ++ [y]) H4) else ∃ m', m' < m ∧ W (i + 1) m' ys H3)

section
variable {X : Cx} {elt tg iter : Expr} {ifs : List Expr} {scope : Scope} {pos : Pos} {it : Addr} {fp : List Addr} {tn : Nat → Heap → Prop} {J : It} {g : TG} {tt : TT} {te : TE} {vs : List Nat} {σg : L2.St} {N : Nat}
  {Qy : List V → V → Hp → Prop} {Rs : List V → V → Prop} {Qe : List V → Hp → Prop} {W : Nat → Nat → List V → Hp → Prop} {So : Option Addr} {Cs : List Addr} {A : Around}
theorem fp_ok {pins : List (Addr × Obj)} {σ : L2.St} {H : Hp} {s : Shared} (I : Inv X pins σ H s) (hn : ∀ b ∈ fp, H b = none) (hex : X.ex = fp) (hp : ∀ b ∈ fp, ∀ p ∈ X.pn ++ pins, p.1 ≠ b) : ∀ b ∈ fp, FpOk X pins H b := fun b hb =>
  have hb' : b ∈ X.ex := by rw [hex]; exact hb
  ⟨hn b hb, (I.ok.exf b hb').1, I.ok.exfs b hb', .inl hb', fun x c e => (I.ok.exf b hb').2 x c e, hp b hb⟩
theorem seg_loop (hA : A.over (.compLoop (.GeneratorExp elt [⟨tg, iter, ifs, 0⟩] scope pos) 0 (.ref it) .none X.env) [] = X.A) (hc : X.calm = true) (hex : X.ex = fp) (hxe : X.xe = fun _ _ => False) (hco : X.env.scope.isCoroutine = false)
    (T : Turn X.prog X.w X.K tg J fp it tn) (hnd : Cs.Nodup) (hAp : ApartC X Cs) (hSo : ∀ S, So = some S → S ∈ Cs) (hfpC : ∀ b ∈ fp, b ∉ Cs ∧ ∀ p ∈ X.pn, p.1 ≠ b)
    (pg : PG X tg g) (pt : PTs X ifs tt) (pe : PE X elt te) (turn : GTurn J g tt te vs σg N Qy Rs Qe W) (hlen : σg.length = X.N.length) :
    ∀ (m i n : Nat) (ys : List V) (s₀ s : Shared) (H : Hp), W i m ys H → n + ys.length = N → GIo X So Cs ys σg H s → tn i s.heap → (∀ b ∈ fp, H b = none) →
      Seg (model X.prog X.w) A (RO X So Cs N Qe) (YO X So Cs N Qy Rs) n s₀ (.compLoop (.GeneratorExp elt [⟨tg, iter, ifs, 0⟩] scope pos) 0 (.ref it) .none X.env)
        ((model X.prog X.w).den (.compLoop (.GeneratorExp elt [⟨tg, iter, ifs, 0⟩] scope pos) 0 (.ref it) .none X.env)) [] s := by
  intro m
  induction m using Nat.strongRecOn with
  | ind m ih =>
    intro i n ys s₀ s H w hn hI st nfp
    obtain ⟨pins, hpin, I⟩ := hI
    have hpo : ∀ {pins'}, PinOk So Cs ys pins' → ∀ b ∈ fp, ∀ p ∈ X.pn ++ pins', p.1 ≠ b := fun {pins'} hp b hb p hp' e => by
      rcases List.mem_append.mp hp' with z | z
      · exact (hfpC b hb).2 p z e
      · refine (hfpC b hb).1 ?_
        rw [← hp.1, ← e]
        exact List.mem_map.mpr ⟨p, z, rfl⟩
    show Seg _ A _ _ _ s₀ _ ((compTurn (.GeneratorExp elt [⟨tg, iter, ifs, 0⟩] scope pos) 0 (.ref it) .none X.env).onRaise (leaving X.env)) [] s
    rw [compTurn_gen, Sem.onRaise_eq_wrap]
    refine seg_bind_wrap (wpAny_standAt ?_)
    rcases turn i m ys H w with ⟨stop, qq⟩ | ⟨go, step⟩
    · refine seg_bind_wrap ?_
      rw [hA]
      refine wpAny_mono (T.done X rfl rfl rfl hc i pins s σg H (fun _ _ => False) I (fp_ok I nfp hex (hpo hpin)) st stop) (fun r s1 hr => ?_) fun _ _ z => z.elim
      obtain ⟨hr, I1⟩ := hr
      subst hr
      exact seg_end (.ok .next) ⟨rfl, ys, σg, H, hn, ⟨pins, hpin, I1⟩, qq⟩
    · refine seg_bind_wrap ?_
      rw [hA]
      refine wpAny_mono (T.item X rfl rfl rfl hc i pins s σg H (fun _ _ => False) I (fp_ok I nfp hex (hpo hpin)) st go) (fun r s1 hr => ?_) fun _ _ z => z.elim
      obtain ⟨u, hr, hgo⟩ := hr
      subst hr
      refine seg_bind_wrap ?_
      rw [hA]
      refine wpAny_mono hgo (fun _ s2 h2 => ?_) fun _ _ z => z.elim
      obtain ⟨x, H', I2, rx, hy, st2, nfp2⟩ := h2
      refine seg_bind_wrap ?_
      rw [hA]
      have fo2 := fp_ok I2 nfp2 hex (hpo hpin)
      have I2' := I2.pinned fo2 (T.obj _ _ st2)
      refine wpAny_mono (pg.run _ s2 σg H' x u _ I2' rx (step x H' hy)) (fun _ s3 h3 => ?_) fun e s' z => by rw [hxe] at z; exact z.elim
      obtain ⟨σ3, H3, I3, hw3, q3⟩ := h3
      -- what a turn's end has
      have fin : ∀ {s' : Shared} {H' : Hp}, Inv X (pins ++ pinsAt fp s2.heap) σ3 H' s' → Inv X pins σg H' s' ∧ tn (i + 1) s'.heap ∧ ∀ b ∈ fp, H' b = none := fun {s' H'} I' => by
        have pin' : ∀ b ∈ fp, ∀ o, s2.heap.get? b = some o → s'.heap.get? b = some o ∧ H' b = none := fun b hb o e =>
          let z := I'.pin (b, o) (List.mem_append_right _ (List.mem_append_right _ (mem_pinsAt hb e)))
          ⟨z.1, z.2.1⟩
        have hl : σg.length = σ3.length := by rw [← hw3, wipe_length]
        refine ⟨(I'.unpinned (pins := pins)).weak hl (fun j v e => ?_), T.keep _ _ _ st2 fun b hb o e => (pin' b hb o e).1, fun b hb => ?_⟩
        · rw [← hw3] at e
          exact (wipe_some e).1
        · obtain ⟨o, e, _⟩ := T.obj _ _ st2 b hb
          exact (pin' b hb o e).2
      refine seg_bind_wrap ?_
      rw [hA]
      refine wpAny_mono (pt.run _ s3 σ3 H3 _ I3 q3) (fun b s4 h4 => ?_) fun e s' z => by rw [hxe] at z; exact z.elim
      obtain ⟨H4, I4, q4⟩ := h4
      cases b with
      | false =>
        simp only [Bool.false_eq_true, if_false] at q4 ⊢
        obtain ⟨m', hm, w'⟩ := q4
        obtain ⟨I5, st5, n5⟩ := fin I4
        exact seg_again rfl (ih m' hm (i + 1) n ys s₀ s4 H4 w' hn ⟨pins, hpin, I5⟩ st5 n5)
      | true =>
        simp only [if_true] at q4 ⊢
        have hy' : ∀ v, yieldOut X.env v = yieldValue v := fun v => by simp only [yieldOut, hco, Bool.false_eq_true, if_false]
        simp only [hy']
        rw [Sem.bind_eq_wrap', Sem.bind_eq_wrap', Sem.wrap_wrap, Sem.wrap_wrap]
        refine seg_wrap ?_
        rw [hA]
        refine wpAny_mono (pe.run _ s4 σ3 H4 _ I4 q4) (fun z s5 h5 => ?_) fun e s' z => by rw [hxe] at z; exact z.elim
        obtain ⟨y, H5, I5, ry, hlt, hQy, hnext⟩ := h5
        obtain ⟨I6, st6, n6⟩ := fin I5
        obtain ⟨n, rfl⟩ : ∃ k, n = k + 1 := ⟨n - 1, by omega⟩
        have G6 : GIo X So Cs ys σg H5 s5 := ⟨pins, hpin, I6⟩
        refine seg_at (seg_yield rfl rfl rfl ⟨ys, y, σg, H5, hn, ry, G6, hQy, fun hrs s'' hsl => ?_⟩)
        obtain ⟨m', hm, w'⟩ := hnext hrs
        refine seg_again rfl (ih m' hm (i + 1) n (ys ++ [y]) s'' s'' H5 w' (by rw [List.length_append, List.length_singleton]; omega) (G6.woken hnd hAp hSo ry hsl) ?_ n6)
        exact T.keep _ _ _ st6 fun b hb o e => hsl.keep b o (hfpC b hb).1 e
theorem seg_start (hA : A.over (.compLoop (.GeneratorExp elt [⟨tg, iter, ifs, 0⟩] scope pos) 0 (.ref it) .none X.env) [] = X.A) (hc : X.calm = true) (hex : X.ex = fp) (hxe : X.xe = fun _ _ => False) (hco : X.env.scope.isCoroutine = false)
    (T : Turn X.prog X.w X.K tg J fp it tn) (hnd : Cs.Nodup) (hAp : ApartC X Cs) (hSo : ∀ S, So = some S → S ∈ Cs) (hfpC : ∀ b ∈ fp, b ∉ Cs ∧ ∀ p ∈ X.pn, p.1 ≠ b)
    (pg : PG X tg g) (pt : PTs X ifs tt) (pe : PE X elt te) (turn : GTurn J g tt te vs σg N Qy Rs Qe W) (hlen : σg.length = X.N.length)
    {m n : Nat} {ys : List V} {s₀ s : Shared} {H : Hp} (w : W 0 m ys H) (hn : n + ys.length = N) (hI : GIo X So Cs ys σg H s) (st : tn 0 s.heap) (nfp : ∀ b ∈ fp, H b = none) :
      Seg (model X.prog X.w) A (RO X So Cs N Qe) (YO X So Cs N Qy Rs) n s₀ (.compStart (.GeneratorExp elt [⟨tg, iter, ifs, 0⟩] scope pos) 0 (.ref it) .none X.env)
        ((model X.prog X.w).den (.compStart (.GeneratorExp elt [⟨tg, iter, ifs, 0⟩] scope pos) 0 (.ref it) .none X.env)) [] s := by
  have loop := seg_loop (So := So) (Cs := Cs) (Qy := Qy) (Rs := Rs) (Qe := Qe) hA hc hex hxe hco T hnd hAp hSo hfpC pg pt pe turn hlen m 0 n ys s₀ s H w hn hI st nfp
  show Seg _ A _ _ _ s₀ _ ((compStart (.GeneratorExp elt [⟨tg, iter, ifs, 0⟩] scope pos) 0 (.ref it) .none X.env).onRaise (leaving X.env)) [] s
  unfold compStart
  rw [Sem.onRaise_eq_wrap]
  show Seg _ A _ _ _ s₀ _ ((ask >>= _).wrap _ _ _ _) [] s
  refine seg_bind_wrap (wpAny_askSetting ?_)
  split
  · exact seg_again rfl loop
  · first
      | exact seg_bind_wrap (wpAny_rule (seg_bind_wrap (wpAny_standAt (seg_bind_wrap (T.self _ 0 s _ _ st (seg_again rfl loop))))))
      | (refine seg_bind_wrap (wpAny_rule ?_); show Seg _ A _ _ _ s₀ _ ((standAt iter.pos >>= _).wrap _ _ _ _) [] s; exact seg_bind_wrap (wpAny_standAt (seg_bind_wrap (T.self _ 0 s _ _ st (seg_again rfl loop)))))
end
end GX

set_option maxRecDepth 100000
set_option maxHeartbeats 4000000
set_option pp.maxSteps 900
namespace GX
open PySem PySem.Spec PyProof.Rows L2 GenW
open PySem.W (CodeHd)

theorem newEnv_gx {M : Model} {A : Around} {E : Value → Shared → Prop} {s : Shared} {scope : Scope} {globals : Addr} {clo : List (Str × Addr)} {qual : Str} {code : Value} {builtins : Addr} {it : Value} {Q : Env → Shared → Prop}
    (hk : scope.kind = .function) (h0 : scope.names.lookup (".0" : Str) = some .local) (hc : ∀ p ∈ clo, p.2 < s.heap.objs.size)
    (h : ∀ h' tk, (∃ m, h'.Ns s.heap.objs.size m) → (∀ b o, s.heap.get? b = some o → h'.get? b = some o) → (∀ y c, (y, c) ∈ cellsFrom (s.heap.objs.size + 1) scope.names clo → s.heap.objs.size + 1 ≤ c → ∃ v, h'.IsCell c v) →
      (∀ y c, (y, c) ∈ cellsFrom (s.heap.objs.size + 1) scope.names clo → c < h'.objs.size) → s.heap.objs.size < h'.objs.size → Q (newEnv scope s.heap.objs.size globals (cellsFrom (s.heap.objs.size + 1) scope.names clo) qual none code none builtins) { s with heap := h', toks := tk }) :
    wpAny M A (newFunctionEnv scope globals clo [((".0" : Str), it)] qual none code none builtins) Q E s := by
  simp only [newFunctionEnv, Option.isSome_none, Bool.false_eq_true, if_false]
  refine wpAny_bind (wpAny_alloc ?_)
  refine wpAny_bind (wpAny_layCells _ (fun name kind cells => by cases hkc : kind == NameKind.cell <;> simp [hkc]) _ _ _ _ ?_)
  rw [show ({ s with heap := s.heap.push { cls := .type "frame", data := .dict #[] } } : Shared).heap.objs.size = s.heap.objs.size + 1 from Heap.size_push ..]
  have hn : Heap.Ns (pushCells (s.heap.push { cls := .type "frame", data := .dict #[] }) scope.names) s.heap.objs.size (fun _ => none) := (Heap.Ns.new s.heap (.type "frame")).keeps (pushCells_keeps _ _)
  have sz : s.heap.objs.size < (pushCells (s.heap.push { cls := .type "frame", data := .dict #[] }) scope.names).objs.size := by
    have := pushCells_size scope.names (s.heap.push { cls := .type "frame", data := .dict #[] })
    rw [Heap.size_push] at this
    omega
  refine wpAny_bind ?_
  show wpAny M A (forIn [((".0" : Str), it)] PUnit.unit _) _ _ _
  rw [List.forIn_cons]
  refine wpAny_bind (wpAny_bind (wpAny_storeName_local (m := fun _ => none) (show (newEnv scope s.heap.objs.size globals (cellsFrom (s.heap.objs.size + 1) scope.names clo) qual none code none builtins).kindOf (".0" : Str) = some .local from h0) hn (fun h' hn' hs => ?_) (by show (scope.kind == .class || _) = false; rw [hk]; rfl)))
  refine wpAny_pure ?_
  show wpAny M A (forIn [] PUnit.unit _) _ _ _
  rw [List.forIn_nil]
  refine wpAny_pure (wpAny_pure ?_)
  have hs : Heap.SameBut s.heap.objs.size (pushCells (s.heap.push { cls := .type "frame", data := .dict #[] }) scope.names) h' := hs
  refine h h' _ ⟨_, hn'⟩ (fun b o e => ?_) (fun y c hm hge => ?_) (fun y c hm => ?_) (by rw [hs.1]; exact sz)
  · exact hs.extBut b o (Nat.ne_of_lt (Heap.lt_size e)) (pushCells_keeps _ _ _ _ (Heap.get?_push_of_some _ e))
  · rw [← Heap.size_push s.heap { cls := .type "frame", data := .dict #[] }] at hm
    rcases cells_mem hm with hm | ⟨_, _, h3⟩
    · exact absurd (Nat.lt_of_lt_of_le (hc _ hm) (Nat.le_of_succ_le hge)) (Nat.lt_irrefl _)
    · exact ⟨none, h3.sameBut hs (Nat.ne_of_gt hge)⟩
  · rw [hs.1]
    rw [← Heap.size_push s.heap { cls := .type "frame", data := .dict #[] }] at hm
    rcases cells_mem hm with hm | ⟨_, _, h3⟩
    · exact Nat.lt_trans (hc _ hm) sz
    · exact h3.lt

/-! ### what a consumer meets -/
def CsOk (So : Option Addr) (Cs : List Addr) (ys : List V) (H : Hp) (s : Shared) : Prop :=
  (∀ b ∈ Cs, H b = none ∧ ∃ o, s.heap.get? b = some o ∧ NoCell o) ∧ ∀ S, So = some S → ∃ (acc : Array Value) (c : Nat), s.heap.get? S = some (lstObj acc c) ∧ Vals ys acc.toList
def YC (X : Cx) (pins : List (Addr × Obj)) (σ : L2.St) (a : Addr) (g : Nat) (So : Option Addr) (Cs : List Addr) (N : Nat) (Qy : List V → V → Hp → Prop) (Rs : List V → V → Prop) : Protocol := fun n s₀ v s kap =>
  ∃ ys x H, n + 1 + ys.length = N ∧ RelV x v ∧ Inv X pins σ H s ∧ s.heap.IsGen a g ∧ CsOk So Cs ys H s ∧ Qy ys x H ∧ (Rs ys x → ∀ s', Slo So Cs v s s' → kap (.send .none) s')
def RC (X : Cx) (pins : List (Addr × Obj)) (σ : L2.St) (So : Option Addr) (Cs : List Addr) (N : Nat) (Qe : List V → Hp → Prop) : GenEnd := fun n s₀ r s =>
  r = .ok .next ∧ ∃ ys H, n + ys.length = N ∧ Inv X pins σ H s ∧ CsOk So Cs ys H s ∧ Qe ys H
/-- a generator that has not begun -/
def GMd (X : Cx) (k : Nat) (pins : List (Addr × Obj)) (σ : L2.St) (N : Nat) (Qy : List V → V → Hp → Prop) (Rs : List V → V → Prop) (Qe : List V → Hp → Prop) (u : Value) (s' : Shared) : Prop :=
  ∃ (a : Addr) (g : Nat) (c : Code) (H1 : Hp), u = .ref a ∧ Inv X pins σ H1 s' ∧ H1 a = none ∧ a < s'.heap.objs.size ∧ s'.heap.IsGen a g ∧ s'.gens[g]? = some (.fresh c) ∧
    ∀ (A : Around) (So : Option Addr) (Cs : List Addr) (s2 : Shared), Room (k + 1) A → A.frames = some X.stack → Cs.Nodup → (∀ b ∈ Cs, s'.heap.objs.size ≤ b ∧ ∃ o, s2.heap.get? b = some o ∧ NoCell o) →
      (∀ S, So = some S → S ∈ Cs ∧ ∃ c, s2.heap.get? S = some (lstObj #[] c)) → (∀ b o, s'.heap.get? b = some o → s2.heap.get? b = some o) → s2.os = s'.os → AllBare s2.gens →
      Seg (model X.prog X.w) A (RC X pins σ So Cs N Qe) (YC X pins σ a g So Cs N Qy Rs) N s2 c ((model X.prog X.w).den c) [] s2

section
variable {X : Cx} {pins : List (Addr × Obj)} {σ : L2.St} {H : Hp} {s : Shared}
/-- the heap's frame behind the making of the code -/
structure Grown (H H' : Hp) : Prop where
  keep : ∀ b o, H b = some o → (∀ ps, o ≠ .tbl ps) → H' b = some o
  none : ∀ b, H' b = none → H b = none

theorem gx_made {k N : Nat} {elt tg iter : Expr} {ifs : List Expr} {scope : Scope} {own : List (Str × Nat)} {pos : Pos} {wi : TI} {Qy : List V → V → Hp → Prop} {Rs : List V → V → Prop} {Qe : List V → Hp → Prop}
    (hr : Room 1 X.A) (hcalm : X.calm = true) (hN : X.N.Nodup) (hi : PI X tg iter wi) (ok : BlkOk X.N X.env.scope scope own) (hco : scope.isCoroutine = false) (h0 : scope.names.lookup (".0" : Str) = some .local)
    (bm : ∃ P, X.base.BuiltinsAt X.mg P) (hs : ∀ v, genFold iter X.env v = pure v) (I : Inv X pins σ H s)
    (h : wi σ H fun J H1 => ∃ T c P, X.env.code = .ref c ∧ TabI X.base T H1 ∧ T c P ∧ ∀ (H' : Hp) (T' : Tb) (c' P' : Addr), TabI X.base T' H' → (∀ a b, T a b → T' a b) → T' c' P' → Grown H1 H' →
      ∀ (s' : Shared) (L : Addr) (cl : List (Str × Addr)) (q : Str) (fp : List Addr) (pn : List (Addr × Obj)) (A : Around), Room k A → ∃ g tt te W, PG (gx X s' H' scope L cl q (.ref c') fp pn A) tg g ∧ PTs (gx X s' H' scope L cl q (.ref c') fp pn A) ifs tt ∧
        PE (gx X s' H' scope L cl q (.ref c') fp pn A) elt te ∧ (∃ m, W 0 m [] H') ∧ GTurn J g tt te (own.map (·.2)) (wipe σ (own.map (·.2))) N Qy Rs Qe W) :
    wpAny (model X.prog X.w) X.A (eval (.GeneratorExp elt [⟨tg, iter, ifs, 0⟩] scope pos) X.env) (GMd X k pins σ N Qy Rs Qe) X.xe s := by
  have hfree : ∀ y ∈ scope.names, y.2 = .free → ∃ c, X.env.cells.lookup y.1 = some c := fun y hy e => by
    rcases ok.free y hy e with k | k
    · exact I.ok.has _ (.inl k)
    · exact I.ok.has _ (.inr k)
  rw [eval_GeneratorExp1 _ _ _ _ _ _ _ hco, closure_ok hfree]
  refine wpAny_bind (thn (hi.run pins s σ H _ I h) fun xv s1 hx => ?_)
  refine wpAny_bind (wpAny_standAt ?_)
  refine wpAny_bind (wpAny_of_eq (hs xv) ?_)
  refine wpAny_bind (wpAny_holding (thn hx fun itv s2 h2 => ?_))
  obtain ⟨it, fp, tn, J, H2, e, I2, T, st2, f2, T0, c, P, hcode, hTabI, hTcP, hq⟩ := h2
  subst e
  refine wpAny_bind (wpAny_enterFrame I2.nolimit hr.depth ?_)
  refine wpAny_bind (wpAny_pure ?_)
  refine wpAny_bind (genexpr_code I2 hTabI hcode hTcP fun H3 T' c' P' s3 I3 hTabI' hTT hT' hk1 hk2 hk3 hsz3 => ?_)
  have q3 := hq H3 T' c' P' hTabI' hTT hT' ⟨hk1, hk2⟩
  obtain ⟨Pb, bmm, ob, e1, e2, e3, e4, e5, e6, e7, e8⟩ := bm
  refine wpAny_bind (wpAny_builtinsFor (m := X.mg) (by rw [I.ok.glob]; exact I3.mod.glob.keeps I3.bk) e1 e2 (I3.bk _ _ e5) e6 e7 e8 ?_)
  have f3 : ∀ b ∈ fp, FpOk X pins H3 b ∧ b < s3.heap.objs.size := fun b hb => by
    obtain ⟨o, ho, _⟩ := T.obj _ _ st2 b hb
    obtain ⟨g1, g2⟩ := hk3 b o ho (f2 b hb).1
    exact ⟨⟨g2, (f2 b hb).2⟩, Heap.lt_size g1⟩
  have st3 : tn 0 s3.heap := T.keep _ _ _ st2 fun b hb o ho => (hk3 b o ho (f2 b hb).1).1
  have cm : ∀ p ∈ cloFrom X.env.cells scope.names [], p.2 < s3.heap.objs.size := fun p hp => by
    rcases cloFrom_mem (n := p.1) (c := p.2) hp with hm | ⟨h1, e⟩
    · cases hm
    · obtain ⟨c, hc⟩ := hfree _ h1 rfl
      rw [e, hc]
      obtain ⟨w, z⟩ := I3.cell _ _ hc
      exact z.lt
  refine wpAny_bind (newEnv_gx (globals := X.env.globals) ok.kind h0 cm fun h4 tk4 hns4 hk4 hc4 hcl4 hsz4 => ?_)
  simp only [newGenerator, newFields]
  refine wpAny_bind (wpAny_newGen (wpAny_bind (wpAny_mkText (wpAny_bind (wpAny_mkText (wpAny_newObj_type ?_ (by size_fits)))))))
  show GMd X k pins σ N Qy Rs Qe (.ref h4.objs.size) { s3 with gens := s3.gens.push (.fresh (.compStart (.GeneratorExp elt [⟨tg, iter, ifs, 0⟩] scope pos) 0 (.ref it) .none (gxEnv X scope s3.heap.objs.size (cellsFrom (s3.heap.objs.size + 1) scope.names (cloFrom X.env.cells scope.names [])) (X.env.qual ++ "<genexpr>.") (.ref c')))), toks := tk4 + 1 + 1, heap := h4.push { cls := .type "generator", data := .fields #[rawInt s3.gens.size, .str "<genexpr>" tk4, .str (X.env.qual ++ "<genexpr>") (tk4 + 1)] } }
  generalize hgo : ({ cls := .type "generator", data := .fields #[rawInt s3.gens.size, .str "<genexpr>" tk4, .str (X.env.qual ++ "<genexpr>") (tk4 + 1)] } : Obj) = go
  have hgc : NoCell go := fun v q => by rw [← hgo] at q; cases q
  have hpush : (h4.push go).get? h4.objs.size = some go := by rw [← hgo]; exact Heap.get?_push_size _ rfl
  have hgen : ∀ hh : Heap, hh.get? h4.objs.size = some go → hh.IsGen h4.objs.size s3.gens.size := fun hh e => ⟨go, _, _, e, by rw [← hgo], by rw [← hgo]; rfl, by rw [← hgo]⟩
  have kp6 : ∀ b o, s3.heap.get? b = some o → (h4.push go).get? b = some o := fun b o e => Heap.get?_push_of_some _ (hk4 b o e)
  have age : s3.heap.objs.size ≤ h4.objs.size := Nat.le_of_lt hsz4
  have ha0 : H3 h4.objs.size = none := I3.hok.fresh age
  refine ⟨h4.objs.size, s3.gens.size, _, H3, rfl, ?_, ha0, ?_, hgen _ hpush, Array.getElem?_push_size .., ?_⟩
  · exact I3.call' (ch := []) rfl (Un.kept kp6) (I3.hok.kept kp6) (I3.bare.push rfl) fun b z => by simp at z
  · show _ < (h4.push go).objs.size
    rw [Heap.size_push]; exact Nat.lt_succ_self _
  intro A So Cs s6 hrA hfrA hnd hCs hSo hk6 hos6 hba6
  obtain ⟨gg, tt, te, W, pg, pt, pe, ⟨m0, w0⟩, turn⟩ := q3 s3 s3.heap.objs.size (cellsFrom (s3.heap.objs.size + 1) scope.names (cloFrom X.env.cells scope.names [])) (X.env.qual ++ "<genexpr>.") fp [(h4.objs.size, go)]
    (A.over (.compLoop (.GeneratorExp elt [⟨tg, iter, ifs, 0⟩] scope pos) 0 (.ref it) .none (gxEnv X scope s3.heap.objs.size (cellsFrom (s3.heap.objs.size + 1) scope.names (cloFrom X.env.cells scope.names [])) (X.env.qual ++ "<genexpr>.") (.ref c'))) []) (ov_room hrA)
  have kp7 : ∀ b o, s3.heap.get? b = some o → s6.heap.get? b = some o := fun b o e => hk6 b o (kp6 b o e)
  have hg6 : s6.heap.get? h4.objs.size = some go := hk6 _ _ hpush
  have hs6 : ∀ b ∈ Cs, h4.objs.size < b := fun b hb => by
    have q : (h4.push go).objs.size ≤ b := (hCs b hb).1
    rw [Heap.size_push] at q
    exact q
  have astk : ∀ b, s3.heap.objs.size ≤ b → b ∉ frs X.stack := fun b hb hm => by
    rcases List.mem_cons.mp (I3.stkSub b hm) with z | z
    · have := I3.lt
      rw [← z] at this
      exact absurd (Nat.lt_of_lt_of_le this hb) (Nat.lt_irrefl _)
    · exact I3.nofs hb z
  have IY := gx_start (A := A.over (.compLoop (.GeneratorExp elt [⟨tg, iter, ifs, 0⟩] scope pos) 0 (.ref it) .none (gxEnv X scope s3.heap.objs.size (cellsFrom (s3.heap.objs.size + 1) scope.names (cloFrom X.env.cells scope.names [])) (X.env.qual ++ "<genexpr>.") (.ref c'))) [])
    (code := .ref c') (q := X.env.qual ++ "<genexpr>.") (pn := [(h4.objs.size, go)]) (s5 := s6) I3 ok hN f3 hrA.hd (ov_f hfrA) hos6 hba6 kp7
    (let ⟨m, hm⟩ := hns4; ⟨m, (hm.push go).keeps hk6⟩) (fun y c hm hge => let ⟨v, z⟩ := hc4 y c hm hge; ⟨v, (z.keeps fun b o e => Heap.get?_push_of_some _ e).keeps hk6⟩)
    (fun p hp => by
      rw [List.mem_singleton.mp hp]
      exact ⟨hg6, ha0, Nat.ne_of_gt hsz4, astk _ age, hgc⟩)
  -- the consumer's pins
  have hpins : ∃ pl : List (Addr × Obj), pl.map (·.1) = Cs ∧ ∀ p ∈ pl, s6.heap.get? p.1 = some p.2 ∧ NoCell p.2 := by
    clear hnd hSo hs6
    induction Cs with
    | nil => exact ⟨[], rfl, fun p hp => absurd hp (by simp)⟩
    | cons b r ih =>
      obtain ⟨pl, h1, h2⟩ := ih fun d hd => hCs d (List.mem_cons_of_mem _ hd)
      obtain ⟨_, o, h3, h4⟩ := hCs b List.mem_cons_self
      refine ⟨(b, o) :: pl, by simp [h1], fun p hp => ?_⟩
      rcases List.mem_cons.mp hp with rfl | hp
      · exact ⟨h3, h4⟩
      · exact h2 p hp
  obtain ⟨pl, hpl1, hpl2⟩ := hpins
  have big : ∀ b ∈ Cs, s3.heap.objs.size ≤ b := fun b hb => Nat.le_trans age (Nat.le_of_lt (hs6 b hb))
  have G0 : GIo (gx X s3 H3 scope s3.heap.objs.size (cellsFrom (s3.heap.objs.size + 1) scope.names (cloFrom X.env.cells scope.names [])) (X.env.qual ++ "<genexpr>.") (.ref c') fp [(h4.objs.size, go)]
      (A.over (.compLoop (.GeneratorExp elt [⟨tg, iter, ifs, 0⟩] scope pos) 0 (.ref it) .none (gxEnv X scope s3.heap.objs.size (cellsFrom (s3.heap.objs.size + 1) scope.names (cloFrom X.env.cells scope.names [])) (X.env.qual ++ "<genexpr>.") (.ref c'))) []))
      So Cs [] (wipe σ (own.map (·.2))) H3 s6 := by
    refine ⟨pl, ⟨hpl1, fun S hS => ?_⟩, IY.pins_of fun p hp => ?_⟩
    · obtain ⟨h1, c, h2⟩ := hSo S hS
      rw [← hpl1] at h1
      obtain ⟨p, hp, e⟩ := List.mem_map.mp h1
      have h3 := (hpl2 p hp).1
      rw [e, h2] at h3
      refine ⟨#[], c, ?_, .nil⟩
      have : p = (S, lstObj #[] c) := by
        obtain ⟨p1, p2⟩ := p
        simp only at e h3
        rw [e, Option.some.inj h3]
      rw [← this]; exact hp
    · have hb : p.1 ∈ Cs := by rw [← hpl1]; exact List.mem_map.mpr ⟨p, hp, rfl⟩
      exact ⟨(hpl2 p hp).1, I3.hok.fresh (big _ hb), fun z => absurd (show (p.1 : Nat) = s3.heap.objs.size from z) (Nat.ne_of_gt (Nat.lt_trans hsz4 (hs6 _ hb))), astk _ (big _ hb), (hpl2 p hp).2⟩
  have conv : ∀ {ys : List V} {σ' : L2.St} {H' : Hp} {s' : Shared}, GIo (gx X s3 H3 scope s3.heap.objs.size (cellsFrom (s3.heap.objs.size + 1) scope.names (cloFrom X.env.cells scope.names [])) (X.env.qual ++ "<genexpr>.") (.ref c') fp [(h4.objs.size, go)]
      (A.over (.compLoop (.GeneratorExp elt [⟨tg, iter, ifs, 0⟩] scope pos) 0 (.ref it) .none (gxEnv X scope s3.heap.objs.size (cellsFrom (s3.heap.objs.size + 1) scope.names (cloFrom X.env.cells scope.names [])) (X.env.qual ++ "<genexpr>.") (.ref c'))) []))
      So Cs ys σ' H' s' → Inv X pins σ H' s' ∧ s'.heap.IsGen h4.objs.size s3.gens.size ∧ CsOk So Cs ys H' s' := fun {ys σ' H' s'} hG => by
    obtain ⟨pins', ⟨hp1, hp2⟩, IYs⟩ := hG
    refine ⟨I3.call' (ch := fp) IYs.os IYs.base IYs.hok IYs.bare fun b hb => ⟨(f3 b hb).1.2.2.2.1, (f3 b hb).1.2.1, (f3 b hb).1.2.2.2.2.1, (f3 b hb).1.2.2.2.2.2⟩, hgen _ (IYs.pin (h4.objs.size, go) (List.mem_append_left _ (List.mem_singleton.mpr rfl))).1, fun b hb => ?_, fun S hS => ?_⟩
    · rw [← hp1] at hb
      obtain ⟨p, hp, e⟩ := List.mem_map.mp hb
      obtain ⟨g1, g2, _, _, g3⟩ := IYs.pin p (List.mem_append_right _ hp)
      rw [← e]
      exact ⟨g2, p.2, g1, g3⟩
    · obtain ⟨acc, c, m1, m2⟩ := hp2 S hS
      exact ⟨acc, c, (IYs.pin _ (List.mem_append_right _ m1)).1, m2⟩
  refine seg_imp (fun n s₀ r s' hR => ?_) (fun n s₀ v s' kap kap' hkk hY => ?_) N
    (seg_start (X := gx X s3 H3 scope s3.heap.objs.size (cellsFrom (s3.heap.objs.size + 1) scope.names (cloFrom X.env.cells scope.names [])) (X.env.qual ++ "<genexpr>.") (.ref c') fp [(h4.objs.size, go)]
      (A.over (.compLoop (.GeneratorExp elt [⟨tg, iter, ifs, 0⟩] scope pos) 0 (.ref it) .none (gxEnv X scope s3.heap.objs.size (cellsFrom (s3.heap.objs.size + 1) scope.names (cloFrom X.env.cells scope.names [])) (X.env.qual ++ "<genexpr>.") (.ref c'))) []))
      (So := So) (Cs := Cs) rfl hcalm rfl rfl hco T hnd (fun b hb => ⟨big b hb, Nat.ne_of_gt (Nat.lt_trans hsz4 (hs6 b hb)), fun x c e z => ?_, fun p hp => ?_⟩) (fun S hS => (hSo S hS).1) (fun b hb => ⟨fun hm => ?_, fun p hp => ?_⟩) pg pt pe turn (by rw [wipe_length]; exact I.len)
      w0 (Nat.add_zero _) G0 (T.keep _ _ _ st3 fun b _ o e => kp7 b o e) (fun b hb => (f3 b hb).1.1))
  · obtain ⟨hr1, ys, σ', H', hn, hG, hQ⟩ := hR
    obtain ⟨c1, _, c3⟩ := conv hG
    exact ⟨hr1, ys, H', hn, c1, c3, hQ⟩
  · obtain ⟨ys, x, σ', H', hn, rv, hG, hQ, hw⟩ := hY
    obtain ⟨c1, c2, c3⟩ := conv hG
    exact ⟨ys, x, H', hn, rv, c1, c2, c3, hQ, fun hrs s'' hsl => hkk _ _ (hw hrs s'' hsl)⟩
  · have h1 := hcl4 x c (PySem.mem_of_lookup e)
    rw [z] at h1
    exact absurd (Nat.lt_trans h1 (hs6 b hb)) (Nat.lt_irrefl _)
  · rw [List.mem_singleton.mp hp]
    exact Nat.ne_of_lt (hs6 b hb)
  · exact absurd (Nat.lt_of_lt_of_le (f3 b hb).2 (big b hm)) (Nat.lt_irrefl _)
  · rw [List.mem_singleton.mp hp]
    exact Nat.ne_of_gt (Nat.lt_of_lt_of_le (f3 b hb).2 age)
end
end GX

set_option maxRecDepth 100000
set_option maxHeartbeats 4000000
set_option pp.maxSteps 900
namespace GX
open PySem PySem.Spec PyProof.Rows L2 GenW
open PySem.W (CodeHd)
section
variable {X : Cx} {pins : List (Addr × Obj)} {σ : L2.St} {N : Nat} {Qy : List V → V → Hp → Prop} {Rs : List V → V → Prop} {Qe : List V → Hp → Prop} {So : Option Addr} {Cs : List Addr} {A : Around} {E : Value → Shared → Prop}
theorem next_md {s : Shared} {a : Addr} {g n : Nat} {gs : GenState} {Q : Option Value → Shared → Prop} (hh : A.handled = none) (hl : s.heap.NoLimit) (hd : A.depth < recursionLimit) (hg : s.heap.IsGen a g) (hgs : s.gens[g]? = some gs)
    (hgo : gs.Goes (model X.prog X.w) A.in1 (RC X pins σ So Cs N Qe) (YC X pins σ a g So Cs N Qy Rs) n (.send .none) (s.setGen g .running))
    (hY : ∀ v s₁ gs' ys x H, gs'.bare = true → n - 1 + 1 + ys.length = N → RelV x v → Inv X pins σ H s₁ → s₁.heap.IsGen a g → CsOk So Cs ys H s₁ → Qy ys x H → g < s₁.gens.size →
      (Rs ys x → ∀ s'', Slo So Cs v s₁ s'' → ∃ m, n = m + 1 ∧ gs'.Goes (model X.prog X.w) A.in1 (RC X pins σ So Cs N Qe) (YC X pins σ a g So Cs N Qy Rs) m (.send .none) s'') → Q (some v) (s₁.setGen g gs'))
    (hP : ∀ s₁ ys H, n + ys.length = N → Inv X pins σ H s₁ → CsOk So Cs ys H s₁ → Qe ys H → ∀ h', (∀ b o, s₁.heap.get? b = some o → h'.get? b = some o) → Q none { s₁.setGen g .finished with heap := h' }) :
    wpAny (model X.prog X.w) A (pyNext (.ref a)) Q E s := by
  have hgl : g < s.gens.size := (Array.getElem?_eq_some_iff.mp hgs).1
  have hgo' : gs.Goes (model X.prog X.w) A.in1 (fun n s₀ r s₁ => r = .ok .next ∧ ∃ ys H, n + ys.length = N ∧ Inv X pins σ H s₁ ∧ CsOk So Cs ys H s₁ ∧ Qe ys H) (YC X pins σ a g So Cs N Qy Rs) n (.send .none) (s.setGen g .running) := hgo
  refine wpAny_gsz (n := g + 1) hgl (wpAny_pyNext_genexpQ hh hl hd hg hgs hgo' (fun v s₁ gs' hb hv => ?_) fun s₁ hp h' hk => ?_)
  · obtain ⟨ys, x, H, e1, rv, I, ig, cs, qy, hw⟩ := hv
    intro hsz
    have q : (s₁.setGen g gs').gens.size = s₁.gens.size := setGen_size _ _ _
    refine hY v s₁ gs' ys x H hb e1 rv I ig cs qy (by have : g + 1 ≤ (s₁.setGen g gs').gens.size := hsz; omega) fun hrs s'' hsl => ?_
    have z := hw hrs s'' hsl
    cases n with
    | zero => exact False.elim z
    | succ m => exact ⟨m, rfl, z⟩
  · obtain ⟨ys, H, e1, I, cs, qe⟩ := hp
    intro _
    exact hP s₁ ys H e1 I cs qe h' hk

/-! ### a list that the consumer fills -/
theorem slo_push {S : Addr} {v : Value} {s₁ : Shared} {acc : Array Value} {c : Nat} {gg : Array GenState} (hS : s₁.heap.get? S = some (lstObj acc c)) (hgg : AllBare gg) :
    Slo (some S) [S] v s₁ { s₁ with gens := gg, heap := s₁.heap.update S (Obj.mapSeq (·.push v)) } := by
  refine ⟨rfl, hgg, fun b o hb e => (Heap.get?_update_other _ _ (fun z => hb (by rw [← z]; exact List.mem_singleton.mpr rfl))).trans e, fun b hb o e nc => ?_⟩
  obtain rfl := List.mem_singleton.mp hb
  rw [hS] at e
  cases e
  refine ⟨_, Heap.get?_update_self _ hS rfl, ?_, ?_⟩
  · intro v' q
    cases q
  · intro _ acc' c' z
    cases z
    exact ⟨_, rfl⟩
theorem drain_md {R : Result → Shared → Prop} {S a : Addr} {g : Nat} {res : Value} (hh : A.handled = none) (hd : A.depth < recursionLimit) (hSa : S ≠ a) (hSc : S ≠ cStatics) (hN : N ≤ sizeLine) (hrs : ∀ ys x, Rs ys x)
    (hend : ∀ s' acc c H ys, s'.heap.get? S = some (lstObj acc c) → Vals ys acc.toList → ys.length ≤ N → Inv X pins σ H s' → Qe ys H → R (.ok (.ret res)) s') :
    ∀ (m : Nat) (s : Shared), s.heap.IsGen a g → s.heap.NoLimit →
      (∃ gs, s.gens[g]? = some gs ∧ gs.Goes (model X.prog X.w) A.in1.in1 (RC X pins σ (some S) [S] N Qe) (YC X pins σ a g (some S) [S] N Qy Rs) m (.send .none) (s.setGen g .running)) →
      codeAny (model X.prog X.w) A (.builtin "list.extend.loop" ⟨[.ref S, .ref a, res], []⟩) R s := by
  intro m
  induction m with
  | zero =>
    intro s hg hl ⟨gs, hgs, hgo⟩
    refine codeAny_builtin F.entry_extend_loop ?_
    rw [Around.under_plainId F.plain_extend_loop _]
    show wpAny _ A.in1 (pyNext (.ref a) >>= _) _ _ s
    refine wpAny_bind (next_md (A := A.in1) hh hl hd hg hgs hgo (fun v s₁ gs' ys x H hb e1 rv I ig cs qy hgl hw => ?_) fun s₁ ys H e1 I cs qe h' hk => ?_)
    · obtain ⟨acc, c, hS, hv⟩ := cs.2 S rfl
      obtain ⟨m, hm, _⟩ := hw (hrs ys x) _ (slo_push hS I.bare)
      cases hm
    · obtain ⟨acc, c, hS, hv⟩ := cs.2 S rfl
      exact wpAny_pure (hend _ acc c H ys (hk _ _ hS) hv (by omega) (I.call' (ch := []) rfl (Un.kept hk) (I.hok.kept hk) (allBare_setGen I.bare rfl) fun b z => by simp at z) qe)
  | succ m ih =>
    intro s hg hl ⟨gs, hgs, hgo⟩
    refine codeAny_builtin F.entry_extend_loop ?_
    rw [Around.under_plainId F.plain_extend_loop _]
    show wpAny _ A.in1 (pyNext (.ref a) >>= _) _ _ s
    refine wpAny_bind (next_md (A := A.in1) hh hl hd hg hgs hgo (fun v s₁ gs' ys x H hb e1 rv I ig cs qy hgl hw => ?_) fun s₁ ys H e1 I cs qe h' hk => ?_)
    · obtain ⟨acc, c, hS, hv⟩ := cs.2 S rfl
      have hasz : acc.size < sizeLine := by
        have e2 := hv.length
        have e3 : acc.toList.length = acc.size := by simp
        omega
      show wpAny _ A.in1 (updateSeq S (·.push v) >>= _) _ _ _
      refine wpAny_bind ?_
      refine wpAny_updateSeq hS rfl (wpAny_pure ⟨plainId_quiet F.plain_extend_loop _, ?_⟩) (Nat.le_of_lt hasz) (by show (acc.push v).size ≤ sizeLine + 1; rw [Array.size_push]; omega)
      have keep3 : ∀ b o, b ≠ S → s₁.heap.get? b = some o → (s₁.heap.update S (Obj.mapSeq (·.push v))).get? b = some o := fun b o hbS e => (Heap.get?_update_other _ _ (Ne.symm hbS)).trans e
      obtain ⟨m', hm', go'⟩ := hw (hrs ys x) _ (slo_push (gg := ((s₁.setGen g gs').setGen g .running).gens) hS (allBare_setGen (s := s₁.setGen g gs') (allBare_setGen I.bare hb) rfl))
      have em : m' = m := by omega
      subst em
      refine ih { s₁.setGen g gs' with heap := s₁.heap.update S (Obj.mapSeq (·.push v)) } ?_ ?_ ⟨gs', setGen_at hgl, ?_⟩
      · obtain ⟨o, nm, qn, ho, r⟩ := ig
        exact ⟨o, nm, qn, keep3 a o (Ne.symm hSa) ho, r⟩
      · obtain ⟨mc, hns, hnn⟩ := I.nolimit
        exact ⟨mc, hns.at' fun o e => keep3 _ o (Ne.symm hSc) e, hnn⟩
      · exact go'
    · obtain ⟨acc, c, hS, hv⟩ := cs.2 S rfl
      exact wpAny_pure (hend _ acc c H ys (hk _ _ hS) hv (by omega) (I.call' (ch := []) rfl (Un.kept hk) (I.hok.kept hk) (allBare_setGen I.bare rfl) fun b z => by simp at z) qe)

theorem collect_md {k : Nat} {u : Value} {s : Shared} {Q : List Value → Shared → Prop} (hr : Room (k + 3) A) (hfr : A.frames = some X.stack) (hN : N ≤ sizeLine) (hrs : ∀ ys x, Rs ys x) (h : GMd X k pins σ N Qy Rs Qe u s)
    (hQ : ∀ (s' : Shared) (acc : List Value) H ys, Vals ys acc → ys.length ≤ N → Inv X pins σ H s' → Qe ys H → Q acc s') : wpAny (model X.prog X.w) A (collect u) Q E s := by
  obtain ⟨a, g, c, H1, rfl, I, ha0, hal, hg, hgs, wake⟩ := h
  have hcl : cStatics < s.heap.objs.size := let ⟨_, hn, _⟩ := I.nolimit; hn.lt
  have hSc : s.heap.objs.size ≠ cStatics := Nat.ne_of_gt hcl
  have hSa : s.heap.objs.size ≠ a := Nat.ne_of_gt hal
  unfold collect
  refine wpAny_bind (wpAny_runValue (codeAny_builtin F.entry_proto_collect ?_))
  rw [Around.under_plainId F.plain_proto_collect _]
  show wpAny _ A.in1 (newList [] >>= fun l => again (.builtin "list.__iadd__" ⟨[l, .ref a], []⟩)) _ _ s
  refine wpAny_bind (wpAny_newObj_type ?_)
  refine wpAny_pure ⟨plainId_quiet F.plain_list_iadd _, codeAny_builtin F.entry_list_iadd ?_⟩
  rw [Around.under_plainId F.plain_list_iadd _]
  have up : ∀ (h : Heap) (f : Obj → Obj), (∀ b o, s.heap.get? b = some o → h.get? b = some o) → ∀ b o, s.heap.get? b = some o → (h.update s.heap.objs.size f).get? b = some o := fun h f q b o e =>
    (Heap.get?_update_other _ _ (Ne.symm (Nat.ne_of_lt (Heap.lt_size e)))).trans (q b o e)
  have k1 : ∀ b o, s.heap.get? b = some o → (s.heap.push { cls := .type "list", data := .seq ([] : List Value).toArray }).get? b = some o := fun b o e => Heap.get?_push_of_some _ e
  have gty : ∀ {h : Heap}, (∀ b o, s.heap.get? b = some o → h.get? b = some o) → h.IsGen a g := fun {h} q => hg.keeps q
  show wpAny _ A.in1 (Builtin.List.listExtendWith (.ref s.heap.objs.size) (.ref a) (.ref s.heap.objs.size)) _ _ _
  unfold Builtin.List.listExtendWith
  refine wpAny_bind (wpAny_typeOf (Heap.IsGen.typeIs (s := { s with heap := _ }) (gty k1)) ?_)
  have h1 : Builtin.List.listSameRef (.ref s.heap.objs.size) (.ref a) = false := by simp [Builtin.List.listSameRef, hSa]
  have h2 : (Value.type "generator" == Value.type "list") = false := by decide
  have h3 : (Value.type "generator" == Value.type "tuple") = false := by decide
  simp only [h1, h2, h3, Bool.or_false, Bool.false_eq_true, if_false]
  refine wpAny_bind (wpAny_pyIter_gen (s := { s with heap := _ }) (gty k1) ?_)
  refine wpAny_bind (wpAny_holding ?_)
  unfold Builtin.List.listLengthHint
  refine wpAny_bind (wpAny_specialOf (Heap.IsGen.typeIs (s := { s with heap := _ }) (gty k1)) F.gen_no_len ?_)
  show wpAny _ A.in1 (specialOf (Value.ref a) (Str.ofString "__length_hint__") >>= _) _ _ _
  refine wpAny_bind (wpAny_specialOf (Heap.IsGen.typeIs (s := { s with heap := _ }) (gty k1)) F.gen_no_hint ?_)
  refine wpAny_pure ?_
  show wpAny _ A.in1 (rule "list.extend.makes-room" >>= fun _ => Builtin.List.listTouch (.ref s.heap.objs.size) >>= fun _ =>
    again (.builtin "list.extend.loop" ⟨[.ref s.heap.objs.size, .ref a, .ref s.heap.objs.size], []⟩)) _ _ _
  refine wpAny_bind (wpAny_rule ?_)
  have hS1 : (s.heap.push { cls := .type "list", data := .seq ([] : List Value).toArray }).get? s.heap.objs.size = some { cls := .type "list", data := .seq ([] : List Value).toArray } := Heap.get?_push_size _ rfl
  refine wpAny_bind ?_
  show wpAny _ A.in1 (updateSeq s.heap.objs.size (·.push .none) >>= fun _ => updateSeq s.heap.objs.size (·.pop)) _ _ _
  refine wpAny_bind (wpAny_updateSeq hS1 rfl ?_)
  have hS2 := Heap.get?_update_self (Obj.mapSeq (·.push Value.none)) hS1 rfl
  refine wpAny_updateSeq (hz := by seq_fits) hS2 rfl ?_
  have hS3 := Heap.get?_update_self (Obj.mapSeq (·.pop)) hS2 rfl
  have k3 := up _ (Obj.mapSeq (·.pop)) (up _ (Obj.mapSeq (·.push Value.none)) k1)
  refine wpAny_pure ⟨plainId_quiet F.plain_extend_loop _, ?_⟩
  refine drain_md (X := X) (pins := pins) (σ := σ) (N := N) (Qy := Qy) (Rs := Rs) (Qe := Qe) (g := g) hr.hd (by have := hr.dp; show A.depth < _; omega) hSa hSc hN hrs (fun s' acc c' H ys q1 q2 q3 q4 q5 => ?_) N _ (gty k3) (I.nolimit.keeps k3) ⟨_, hgs, rfl, ?_⟩
  · show wpAny _ A (load s.heap.objs.size >>= _) _ _ _
    refine wpAny_bind (wpAny_load q1 (wpAny_pure ?_))
    exact hQ s' acc.toList H ys q2 q3 q4 q5
  · refine wake _ (some s.heap.objs.size) [s.heap.objs.size] _ ⟨hr.hd, ?_, ?_⟩ hfr (by simp) (fun b hb => ?_) (fun S hS => ?_) k3 rfl (allBare_setGen (s := { s with heap := _ }) I.bare rfl)
    · have := hr.dp
      show A.depth + 3 * (k + 1) + 5 < _
      omega
    · have := hr.un
      show A.units + 1 + 1 + 16 * (k + 1) + 200 < _
      omega
    · rw [List.mem_singleton.mp hb]
      exact ⟨Nat.le_refl _, _, hS3, fun v q => by cases q⟩
    · cases hS
      exact ⟨by simp, _, hS3⟩
end
end GX

set_option maxRecDepth 100000
set_option maxHeartbeats 4000000
set_option pp.maxSteps 900
namespace GX
open PySem PySem.Spec PyProof.Rows L2 GenW
open PySem.W (CodeHd)
open AutoSeq1 (wpAny_loadPart')
section
variable {X : Cx} {pins : List (Addr × Obj)} {σ : L2.St} {N : Nat} {Qy : List V → V → Hp → Prop} {Rs : List V → V → Prop} {Qe : List V → Hp → Prop} {A : Around} {E : Value → Shared → Prop}
theorem GMd.isGen {k : Nat} {u : Value} {s : Shared} (h : GMd X k pins σ N Qy Rs Qe u s) : s.TypeIs u "generator" := by
  obtain ⟨a, g, c, H1, rfl, I, ha0, hal, hg, hgs, wake⟩ := h
  exact hg.typeIs
theorem code_tuple_new_md {k : Nat} {u : Value} {s : Shared} {Q₁ : Value → Shared → Prop} (hr : Room (k + 4) A) (hfr : A.frames = some X.stack) (hN : N ≤ sizeLine) (hrs : ∀ ys x, Rs ys x) (h : GMd X k pins σ N Qy Rs Qe u s)
    (hQ : ∀ (s' : Shared) (acc : List Value) H ys, Vals ys acc → ys.length ≤ N → Inv X pins σ H s' → Qe ys H → Q₁ (.ref s'.heap.objs.size) { s' with heap := s'.heap.push { cls := .type "tuple", data := .seq acc.toArray } }) :
    codeAny (model X.prog X.w) A (.call (.builtin "tuple.__new__") ⟨[.type "tuple", u], []⟩) (wants Q₁ E) s := by
  have hTI := h.isGen
  obtain ⟨a, e⟩ : ∃ a, u = .ref a := let ⟨a, _, _, _, e, _⟩ := h; ⟨a, e⟩
  subst e
  refine codeAny_of_tree ?_
  show wpAny _ A.in1 (do checkBuiltinCall "tuple.__new__" ⟨[.type "tuple", .ref a], []⟩; again (.builtin "tuple.__new__" ⟨[.type "tuple", .ref a], []⟩)) _ _ s
  refine wpAny_bind (wpAny_of_eq (F.newCall_tuple_1 _) (wpAny_pure ⟨plainId_quiet F.plain_tuple_new _, codeAny_builtin F.entry_tuple_new ?_⟩))
  rw [Around.under_plainId F.plain_tuple_new _]
  have hsub := sub_tuple_self
  have hinit := init_tuple_lookup
  have hmh := madeHere_tuple
  wp_walk using wpAny_typeOf hTI, collect_md (X := X) (k := k) hr.in1 hfr hN hrs h
  intro s' acc H ys hv hl I qe
  show wpAny _ _ (Builtin.Tuple.tupleExact acc.toArray >>= fun v => ret v) _ _ _
  unfold Builtin.Tuple.tupleExact
  refine wpAny_bind (wpAny_newObj_type ?_ (by
    have := hv.length
    show acc.toArray.size ≤ sizeLine
    rw [List.size_toArray]
    omega))
  refine wpAny_pure ?_
  exact hQ s' acc H ys hv hl I qe
theorem call_tuple_md {k : Nat} {u : Value} {s : Shared} {Q : Value → Shared → Prop} (hr : Room (k + 5) A) (hfr : A.frames = some X.stack) (hN : N ≤ sizeLine) (hrs : ∀ ys x, Rs ys x) (h : GMd X k pins σ N Qy Rs Qe u s)
    (hQ : ∀ (s' : Shared) (acc : List Value) H ys, Vals ys acc → ys.length ≤ N → Inv X pins σ H s' → Qe ys H → Q (.ref s'.heap.objs.size) { s' with heap := s'.heap.push { cls := .type "tuple", data := .seq acc.toArray } }) :
    wpAny (model X.prog X.w) A (call (.type "tuple") [u]) Q E s := by
  refine callType_codes (Q₁ := fun obj s₁ => s₁.TypeIs obj "tuple" ∧ Q obj s₁) F.called_tuple (F.typeCall_tuple_1 _) F.entry_object_init
    (code_tuple_new_md hr.in1 hfr hN hrs h fun s' acc H ys hv hl I qe => ⟨⟨_, Heap.get?_push_size _ rfl, rfl⟩, hQ s' acc H ys hv hl I qe⟩) fun obj s₁ h₁ => ?_
  exact ⟨h₁.1, F.args_object_init_2 obj _, object_init_meets F.called_tuple.init.lookup F.called_tuple.made (by decide) X.prog X.w A.in1 _ s₁ ⟨h₁.1, rfl, h₁.2⟩⟩

/-! ### all, any: of truth values -/
theorem slo_none {v : Value} {s s' : Shared} (h1 : s'.os = s.os) (h2 : AllBare s'.gens) (h3 : s'.heap = s.heap) : Slo none [] v s s' :=
  ⟨h1, h2, fun b o _ e => by rw [h3]; exact e, fun b hb => absurd hb (by simp)⟩
theorem all_loop_md {R : Result → Shared → Prop} {a : Addr} {g : Nat} {Qf Qt : Hp → Prop} (hh : A.handled = none) (hd : A.depth < recursionLimit)
    (hT : ∀ s' H, Inv X pins σ H s' → Qt H → R (.ok (.ret (.bool true))) s') (hF : ∀ s' H, Inv X pins σ H s' → Qf H → R (.ok (.ret (.bool false))) s') :
    ∀ (m : Nat) (s : Shared), s.heap.IsGen a g → s.heap.NoLimit →
      (∃ gs, s.gens[g]? = some gs ∧ gs.Goes (model X.prog X.w) A.in1.in1 (RC X pins σ none [] N fun _ H => Qt H) (YC X pins σ a g none [] N (fun _ x H => ∃ b, x = .bl b ∧ (b = false → Qf H)) fun _ x => x = .bl true) m (.send .none) (s.setGen g .running)) →
      codeAny (model X.prog X.w) A (.builtin "all.loop" ⟨[.ref a], []⟩) R s := by
  intro m
  induction m with
  | zero =>
    intro s hg hl ⟨gs, hgs, hgo⟩
    refine codeAny_builtin F.entry_all_loop ?_
    rw [Around.under_plainId F.plain_all_loop _]
    show wpAny _ A.in1 (pyNext (.ref a) >>= _) _ _ s
    refine wpAny_bind (next_md (A := A.in1) hh hl hd hg hgs hgo (fun v s₁ gs' ys x H hb e1 rv I ig cs qy hgl hw => ?_) fun s₁ ys H e1 I cs qe h' hk => ?_)
    · obtain ⟨b, rfl, qf⟩ := qy
      cases rv
      refine wpAny_bind (wpAny_holding (wpAny_truthy_bool ?_))
      refine wpAny_bind (wpAny_letGo ?_)
      cases b with
      | true =>
        obtain ⟨m, hm, _⟩ := hw rfl _ (slo_none rfl I.bare rfl)
        cases hm
      | false =>
        simp only [Bool.false_eq_true, if_false]
        refine wpAny_bind (wpAny_rule (wpAny_pure ?_))
        exact hF _ H (I.call' (ch := []) rfl (Un.kept fun _ _ z => z) I.hok (allBare_setGen I.bare hb) fun b z => by simp at z) (qf rfl)
    · refine wpAny_bind (wpAny_rule (wpAny_pure ?_))
      exact hT _ H (I.call' (ch := []) rfl (Un.kept hk) (I.hok.kept hk) (allBare_setGen I.bare rfl) fun b z => by simp at z) qe
  | succ m ih =>
    intro s hg hl ⟨gs, hgs, hgo⟩
    refine codeAny_builtin F.entry_all_loop ?_
    rw [Around.under_plainId F.plain_all_loop _]
    show wpAny _ A.in1 (pyNext (.ref a) >>= _) _ _ s
    refine wpAny_bind (next_md (A := A.in1) hh hl hd hg hgs hgo (fun v s₁ gs' ys x H hb e1 rv I ig cs qy hgl hw => ?_) fun s₁ ys H e1 I cs qe h' hk => ?_)
    · obtain ⟨b, rfl, qf⟩ := qy
      cases rv
      refine wpAny_bind (wpAny_holding (wpAny_truthy_bool ?_))
      refine wpAny_bind (wpAny_letGo ?_)
      cases b with
      | true =>
        simp only [if_true]
        obtain ⟨m', hm, go'⟩ := hw rfl ((s₁.setGen g gs').setGen g .running) (slo_none rfl (allBare_setGen (allBare_setGen I.bare hb) rfl) rfl)
        have em : m' = m := by omega
        subst em
        refine wpAny_pure ⟨plainId_quiet F.plain_all_loop _, ih (s₁.setGen g gs') ig I.nolimit ⟨gs', setGen_at hgl, go'⟩⟩
      | false =>
        simp only [Bool.false_eq_true, if_false]
        refine wpAny_bind (wpAny_rule (wpAny_pure ?_))
        exact hF _ H (I.call' (ch := []) rfl (Un.kept fun _ _ z => z) I.hok (allBare_setGen I.bare hb) fun b z => by simp at z) (qf rfl)
    · refine wpAny_bind (wpAny_rule (wpAny_pure ?_))
      exact hT _ H (I.call' (ch := []) rfl (Un.kept hk) (I.hok.kept hk) (allBare_setGen I.bare rfl) fun b z => by simp at z) qe
theorem any_loop_md {R : Result → Shared → Prop} {a : Addr} {g : Nat} {Qf Qt : Hp → Prop} (hh : A.handled = none) (hd : A.depth < recursionLimit)
    (hT : ∀ s' H, Inv X pins σ H s' → Qt H → R (.ok (.ret (.bool true))) s') (hF : ∀ s' H, Inv X pins σ H s' → Qf H → R (.ok (.ret (.bool false))) s') :
    ∀ (m : Nat) (s : Shared), s.heap.IsGen a g → s.heap.NoLimit →
      (∃ gs, s.gens[g]? = some gs ∧ gs.Goes (model X.prog X.w) A.in1.in1 (RC X pins σ none [] N fun _ H => Qf H) (YC X pins σ a g none [] N (fun _ x H => ∃ b, x = .bl b ∧ (b = true → Qt H)) fun _ x => x = .bl false) m (.send .none) (s.setGen g .running)) →
      codeAny (model X.prog X.w) A (.builtin "any.loop" ⟨[.ref a], []⟩) R s := by
  intro m
  induction m with
  | zero =>
    intro s hg hl ⟨gs, hgs, hgo⟩
    refine codeAny_builtin F.entry_any_loop ?_
    rw [Around.under_plainId F.plain_any_loop _]
    show wpAny _ A.in1 (pyNext (.ref a) >>= _) _ _ s
    refine wpAny_bind (next_md (A := A.in1) hh hl hd hg hgs hgo (fun v s₁ gs' ys x H hb e1 rv I ig cs qy hgl hw => ?_) fun s₁ ys H e1 I cs qe h' hk => ?_)
    · obtain ⟨b, rfl, qf⟩ := qy
      cases rv
      refine wpAny_bind (wpAny_holding (wpAny_truthy_bool ?_))
      refine wpAny_bind (wpAny_letGo ?_)
      cases b with
      | false =>
        obtain ⟨m, hm, _⟩ := hw rfl _ (slo_none rfl I.bare rfl)
        cases hm
      | true =>
        simp only [if_true]
        refine wpAny_bind (wpAny_rule (wpAny_pure ?_))
        exact hT _ H (I.call' (ch := []) rfl (Un.kept fun _ _ z => z) I.hok (allBare_setGen I.bare hb) fun b z => by simp at z) (qf rfl)
    · refine wpAny_bind (wpAny_rule (wpAny_pure ?_))
      exact hF _ H (I.call' (ch := []) rfl (Un.kept hk) (I.hok.kept hk) (allBare_setGen I.bare rfl) fun b z => by simp at z) qe
  | succ m ih =>
    intro s hg hl ⟨gs, hgs, hgo⟩
    refine codeAny_builtin F.entry_any_loop ?_
    rw [Around.under_plainId F.plain_any_loop _]
    show wpAny _ A.in1 (pyNext (.ref a) >>= _) _ _ s
    refine wpAny_bind (next_md (A := A.in1) hh hl hd hg hgs hgo (fun v s₁ gs' ys x H hb e1 rv I ig cs qy hgl hw => ?_) fun s₁ ys H e1 I cs qe h' hk => ?_)
    · obtain ⟨b, rfl, qf⟩ := qy
      cases rv
      refine wpAny_bind (wpAny_holding (wpAny_truthy_bool ?_))
      refine wpAny_bind (wpAny_letGo ?_)
      cases b with
      | false =>
        simp only [Bool.false_eq_true, if_false]
        obtain ⟨m', hm, go'⟩ := hw rfl ((s₁.setGen g gs').setGen g .running) (slo_none rfl (allBare_setGen (allBare_setGen I.bare hb) rfl) rfl)
        have em : m' = m := by omega
        subst em
        refine wpAny_pure ⟨plainId_quiet F.plain_any_loop _, ih (s₁.setGen g gs') ig I.nolimit ⟨gs', setGen_at hgl, go'⟩⟩
      | true =>
        simp only [if_true]
        refine wpAny_bind (wpAny_rule (wpAny_pure ?_))
        exact hT _ H (I.call' (ch := []) rfl (Un.kept fun _ _ z => z) I.hok (allBare_setGen I.bare hb) fun b z => by simp at z) (qf rfl)
    · refine wpAny_bind (wpAny_rule (wpAny_pure ?_))
      exact hF _ H (I.call' (ch := []) rfl (Un.kept hk) (I.hok.kept hk) (allBare_setGen I.bare rfl) fun b z => by simp at z) qe
theorem call_all_md {k : Nat} {u : Value} {s : Shared} {Q : Value → Shared → Prop} {Qf Qt : Hp → Prop} (hr : Room (k + 4) A) (hfr : A.frames = some X.stack)
    (h : GMd X k pins σ N (fun _ x H => ∃ b, x = .bl b ∧ (b = false → Qf H)) (fun _ x => x = .bl true) (fun _ H => Qt H) u s)
    (hT : ∀ s' H, Inv X pins σ H s' → Qt H → Q (.bool true) s') (hF : ∀ s' H, Inv X pins σ H s' → Qf H → Q (.bool false) s') :
    wpAny (model X.prog X.w) A (call (.builtin "all") [u]) Q E s := by
  obtain ⟨a, g, c, H1, rfl, I, ha0, hal, hg, hgs, wake⟩ := h
  refine call_function_tree F.kind_all F.plain_all F.entry_all (F.args_all1 _) ?_
  unfold Builtin.«all»
  refine wpAny_bind (m := oneArg "all" _) (wpAny_pure ?_)
  refine wpAny_bind (wpAny_pyIter_gen hg ?_)
  refine wpAny_pure ⟨plainId_quiet F.plain_all_loop _, ?_⟩
  refine all_loop_md (X := X) (pins := pins) (σ := σ) (N := N) (g := g) (Qf := Qf) (Qt := Qt) hr.hd (by have := hr.dp; show A.depth < _; omega) (fun s' H I q => hT s' H I q) (fun s' H I q => hF s' H I q) N s hg I.nolimit ⟨_, hgs, rfl, ?_⟩
  refine wake _ none [] _ ⟨hr.hd, ?_, ?_⟩ hfr (by simp) (fun b hb => absurd hb (by simp)) (fun S hS => by cases hS) (fun b o e => e) rfl (allBare_setGen I.bare rfl)
  · have := hr.dp
    show A.depth + 3 * (k + 1) + 5 < _
    omega
  · have := hr.un
    show A.units + 1 + 1 + 16 * (k + 1) + 200 < _
    omega
theorem call_any_md {k : Nat} {u : Value} {s : Shared} {Q : Value → Shared → Prop} {Qf Qt : Hp → Prop} (hr : Room (k + 4) A) (hfr : A.frames = some X.stack)
    (h : GMd X k pins σ N (fun _ x H => ∃ b, x = .bl b ∧ (b = true → Qt H)) (fun _ x => x = .bl false) (fun _ H => Qf H) u s)
    (hT : ∀ s' H, Inv X pins σ H s' → Qt H → Q (.bool true) s') (hF : ∀ s' H, Inv X pins σ H s' → Qf H → Q (.bool false) s') :
    wpAny (model X.prog X.w) A (call (.builtin "any") [u]) Q E s := by
  obtain ⟨a, g, c, H1, rfl, I, ha0, hal, hg, hgs, wake⟩ := h
  refine call_function_tree F.kind_any F.plain_any F.entry_any (F.args_any1 _) ?_
  unfold Builtin.«any»
  refine wpAny_bind (m := oneArg "any" _) (wpAny_pure ?_)
  refine wpAny_bind (wpAny_pyIter_gen hg ?_)
  refine wpAny_pure ⟨plainId_quiet F.plain_any_loop _, ?_⟩
  refine any_loop_md (X := X) (pins := pins) (σ := σ) (N := N) (g := g) (Qf := Qf) (Qt := Qt) hr.hd (by have := hr.dp; show A.depth < _; omega) (fun s' H I q => hT s' H I q) (fun s' H I q => hF s' H I q) N s hg I.nolimit ⟨_, hgs, rfl, ?_⟩
  refine wake _ none [] _ ⟨hr.hd, ?_, ?_⟩ hfr (by simp) (fun b hb => absurd hb (by simp)) (fun S hS => by cases hS) (fun b o e => e) rfl (allBare_setGen I.bare rfl)
  · have := hr.dp
    show A.depth + 3 * (k + 1) + 5 < _
    omega
  · have := hr.un
    show A.units + 1 + 1 + 16 * (k + 1) + 200 < _
    omega
end
end GX

set_option maxRecDepth 100000
set_option maxHeartbeats 4000000
set_option pp.maxSteps 900
/-! DL: what code computes, as plain functions of values. -/
namespace DL
open PySem PySem.Spec PyProof.Rows L2 GX

/-- values: tuples and lists that nobody changes are trees; an object that may change is a number in a store -/
inductive D where
  | non | bl (b : Bool) | int (i : Int) | str (x : Str) | tup (xs : List D) | lst (xs : List D) | scr (xs : List D) | obj (k : Nat)
instance : Inhabited D := ⟨.non⟩
inductive Cell where
  | lst (xs : List D)
  | dct (kvs : List (D × D))
  | dead
abbrev Sto := List Cell
abbrev En := List (Option D)
inductive Out where
  | nx (ρ : En) (S : Sto) | rt (d : D) (S : Sto) | bk (ρ : En) (S : Sto) | ct (ρ : En) (S : Sto)
/-- where the store's objects lie; what is frozen; the code objects known -/
structure Wd where
  al : Nat → Addr
  fr : Hp
  tb : Tb
mutual
inductive Den (w : Wd) (n : Nat) : V → D → Prop where
  | non : Den w n .non .non
  | bl (b : Bool) : Den w n (.bl b) (.bl b)
  | int (i : Int) : Den w n (.int i) (.int i)
  | str (x : Str) : Den w n (.str x) (.str x)
  | tup {a : Addr} {vs : List V} {ds : List D} : w.fr a = some (.tup vs) → DenL w n vs ds → Den w n (.ref a) (.tup ds)
  | lst {a : Addr} {vs : List V} {ds : List D} : w.fr a = some (.lst vs) → DenL w n vs ds → Den w n (.ref a) (.lst ds)
  | scr {a : Addr} {vs : List V} {ds : List D} : Rd w.fr a (.lst vs) → DenL w n vs ds → Den w n (.ref a) (.scr ds)
  | obj {k : Nat} : k < n → Den w n (.ref (w.al k)) (.obj k)
inductive DenL (w : Wd) (n : Nat) : List V → List D → Prop where
  | nil : DenL w n [] []
  | cons {v : V} {d : D} {vs : List V} {ds : List D} : Den w n v d → DenL w n vs ds → DenL w n (v :: vs) (d :: ds)
end
/-- no table, no code -/
def NoTab (o : HO) : Prop := (∀ ps, o ≠ .tbl ps) ∧ ∀ φ, o ≠ .ext φ
def CellOk (w : Wd) (n : Nat) (H : Hp) (a : Addr) : Cell → Prop
  | .lst ds => ∃ vs, H a = some (.lst vs) ∧ DenL w n vs ds
  | .dct _ => True
  | .dead => True
structure Gc where
  base : Heap
  K : PySem.W.Frag
  t0 : Tb
  cv : Option Value
structure Core (G : Gc) (w : Wd) (S : Sto) (H : Hp) : Prop where
  sub : ∀ a o, w.fr a = some o → H a = some o
  fro : ∀ a o, w.fr a = some o → (∃ xs, o = .tup xs) ∨ (∃ xs, o = .lst xs) ∨ ∃ ob u, o = .frz ob u
  cel : ∀ k c, S[k]? = some c → w.fr (w.al k) = none ∧ (∃ o, H (w.al k) = some o ∧ NoTab o) ∧ CellOk w S.length H (w.al k) c
  inj : ∀ j k, j < S.length → k < S.length → w.al j = w.al k → j = k
  tab : TabI G.base w.tb H
  t0 : ∀ c P, G.t0 c P → w.tb c P
structure Sat (G : Gc) (w : Wd) (ρ : En) (S : Sto) (σ : L2.St) (H : Hp) : Prop where
  core : Core G w S H
  env : ∀ (i : Nat) (d : D), ρ[i]? = some (some d) → ∃ v, σ[i]? = some (some v) ∧ Den w S.length v d
  len : ρ.length = σ.length
  code : ∀ v, G.cv = some v → ∃ c P, v = .ref c ∧ w.tb c P
structure Ext (w : Wd) (S : Sto) (H : Hp) (w' : Wd) (S' : Sto) (H' : Hp) : Prop where
  al : ∀ k, k < S.length → w'.al k = w.al k
  fr : ∀ a o, w.fr a = some o → w'.fr a = some o
  tb : ∀ c P, w.tb c P → w'.tb c P
  sz : S.length ≤ S'.length
  new : ∀ k, S.length ≤ k → k < S'.length → H (w'.al k) = none
  keep : ∀ a o, H a = some o → (∀ k, k < S.length → a ≠ w.al k) → (∀ ps, o ≠ .tbl ps) → H' a = some o
  non : ∀ a, H' a = none → H a = none
  frn : ∀ a o, w'.fr a = some o → w.fr a = some o ∨ H a = none ∨ ∃ k, k < S.length ∧ a = w.al k
theorem Ext.refl (w : Wd) (S : Sto) (H : Hp) : Ext w S H w S H :=
  ⟨fun _ _ => rfl, fun _ _ e => e, fun _ _ e => e, Nat.le_refl _, fun k h1 h2 => absurd h2 (Nat.not_lt.mpr h1), fun _ _ e _ _ => e, fun _ e => e, fun _ _ e => .inl e⟩
theorem Ext.trans {w w1 w2 : Wd} {S S1 S2 : Sto} {H H1 H2 : Hp} (a : Ext w S H w1 S1 H1) (b : Ext w1 S1 H1 w2 S2 H2) : Ext w S H w2 S2 H2 where
  al := fun k h => (b.al k (Nat.lt_of_lt_of_le h a.sz)).trans (a.al k h)
  fr := fun x o e => b.fr x o (a.fr x o e)
  tb := fun c P e => b.tb c P (a.tb c P e)
  sz := Nat.le_trans a.sz b.sz
  new := fun k h1 h2 => by
    by_cases h : k < S1.length
    · rw [b.al k h]; exact a.new k h1 h
    · exact a.non _ (b.new k (Nat.not_lt.mp h) h2)
  keep := fun x o e h1 h2 => b.keep x o (a.keep x o e h1 h2) (fun k hk z => by
    by_cases h : k < S.length
    · exact h1 k h (by rw [z, a.al k h])
    · have := a.new k (Nat.not_lt.mp h) hk
      rw [← z, e] at this; cases this) h2
  non := fun x e => a.non x (b.non x e)
  frn := fun x o e => by
    rcases b.frn x o e with h | h | ⟨k, hk, h⟩
    · exact a.frn x o h
    · exact .inr (.inl (a.non x h))
    · by_cases hk2 : k < S.length
      · exact .inr (.inr ⟨k, hk2, by rw [h, a.al k hk2]⟩)
      · exact .inr (.inl (by rw [h]; exact a.new k (Nat.not_lt.mp hk2) hk))

theorem rd_sub {F F' : Hp} (h : ∀ a o, F a = some o → F' a = some o) {a : Addr} {u : HO} (r : Rd F a u) : Rd F' a u := by
  rcases r with r | ⟨o, r⟩
  · exact .inl (h a _ r)
  · exact .inr ⟨o, h a _ r⟩
mutual
theorem Den.mono {w w' : Wd} {n n' : Nat} (hf : ∀ a o, w.fr a = some o → w'.fr a = some o) (ha : ∀ k, k < n → w'.al k = w.al k) (hn : n ≤ n') : ∀ {v : V} {d : D}, Den w n v d → Den w' n' v d
  | _, _, .non => .non
  | _, _, .bl b => .bl b
  | _, _, .int i => .int i
  | _, _, .str x => .str x
  | _, _, .tup r h => .tup (hf _ _ r) (DenL.mono hf ha hn h)
  | _, _, .lst r h => .lst (hf _ _ r) (DenL.mono hf ha hn h)
  | _, _, .scr r h => .scr (rd_sub hf r) (DenL.mono hf ha hn h)
  | _, _, .obj (k := k) h => by rw [← ha k h]; exact .obj (Nat.lt_of_lt_of_le h hn)
theorem DenL.mono {w w' : Wd} {n n' : Nat} (hf : ∀ a o, w.fr a = some o → w'.fr a = some o) (ha : ∀ k, k < n → w'.al k = w.al k) (hn : n ≤ n') : ∀ {vs : List V} {ds : List D}, DenL w n vs ds → DenL w' n' vs ds
  | _, _, .nil => .nil
  | _, _, .cons h t => .cons (Den.mono hf ha hn h) (DenL.mono hf ha hn t)
end
theorem Den.ext {w w' : Wd} {S S' : Sto} {H H' : Hp} (e : Ext w S H w' S' H') {v : V} {d : D} (h : Den w S.length v d) : Den w' S'.length v d := h.mono e.fr e.al e.sz
theorem DenL.ext {w w' : Wd} {S S' : Sto} {H H' : Hp} (e : Ext w S H w' S' H') {v : List V} {d : List D} (h : DenL w S.length v d) : DenL w' S'.length v d := h.mono e.fr e.al e.sz
theorem DenL.len {w : Wd} {n : Nat} : ∀ {vs : List V} {ds : List D}, DenL w n vs ds → vs.length = ds.length
  | _, _, .nil => rfl
  | _, _, .cons _ t => by rw [List.length_cons, List.length_cons, t.len]
theorem DenL.get {w : Wd} {n : Nat} : ∀ {vs : List V} {ds : List D} {i : Nat} {d : D}, DenL w n vs ds → ds[i]? = some d → ∃ v, vs[i]? = some v ∧ Den w n v d
  | _, _, 0, _, .cons h _, e => by simp at e; subst e; exact ⟨_, rfl, h⟩
  | _, _, i + 1, d, .cons _ t, e => by
    obtain ⟨v, h1, h2⟩ := DenL.get (i := i) (d := d) t (by simpa using e)
    exact ⟨v, by simpa using h1, h2⟩
theorem DenL.get' {w : Wd} {n : Nat} : ∀ {vs : List V} {ds : List D} {i : Nat} {v : V}, DenL w n vs ds → vs[i]? = some v → ∃ d, ds[i]? = some d ∧ Den w n v d
  | _, _, 0, _, .cons h _, e => by simp at e; subst e; exact ⟨_, rfl, h⟩
  | _, _, i + 1, v, .cons _ t, e => by
    obtain ⟨d, h1, h2⟩ := DenL.get' (i := i) (v := v) t (by simpa using e)
    exact ⟨d, by simpa using h1, h2⟩
theorem DenL.app {w : Wd} {n : Nat} : ∀ {vs us : List V} {ds es : List D}, DenL w n vs ds → DenL w n us es → DenL w n (vs ++ us) (ds ++ es)
  | _, _, _, _, .nil, h => h
  | _, _, _, _, .cons h t, h' => .cons h (DenL.app t h')
theorem DenL.take {w : Wd} {n : Nat} : ∀ {vs : List V} {ds : List D} (k : Nat), DenL w n vs ds → DenL w n (vs.take k) (ds.take k)
  | _, _, 0, _ => .nil
  | _, _, _ + 1, .nil => .nil
  | _, _, k + 1, .cons h t => .cons h (DenL.take k t)
theorem DenL.drop {w : Wd} {n : Nat} : ∀ {vs : List V} {ds : List D} (k : Nat), DenL w n vs ds → DenL w n (vs.drop k) (ds.drop k)
  | _, _, 0, h => h
  | _, _, _ + 1, .nil => .nil
  | _, _, k + 1, .cons _ t => DenL.drop k t
theorem DenL.set {w : Wd} {n : Nat} {v : V} {d : D} (hd : Den w n v d) : ∀ {vs : List V} {ds : List D} (k : Nat), DenL w n vs ds → DenL w n (vs.set k v) (ds.set k d)
  | _, _, _, .nil => .nil
  | _, _, 0, .cons _ t => .cons hd t
  | _, _, k + 1, .cons h t => .cons h (DenL.set hd k t)
theorem DenL.rep {w : Wd} {n : Nat} {vs : List V} {ds : List D} (h : DenL w n vs ds) : ∀ k : Nat, DenL w n (List.replicate k vs).flatten (List.replicate k ds).flatten
  | 0 => .nil
  | k + 1 => by rw [List.replicate_succ, List.replicate_succ, List.flatten_cons, List.flatten_cons]; exact h.app (DenL.rep h k)
theorem DenL.ints {w : Wd} {n : Nat} : ∀ ns : List Int, DenL w n (ns.map V.int) (ns.map D.int)
  | [] => .nil
  | i :: r => .cons (.int i) (DenL.ints r)

/-- what the world's step must keep -/
theorem CellOk.mono {w w' : Wd} {n n' : Nat} {H H' : Hp} {a : Addr} {c : Cell} (hf : ∀ a o, w.fr a = some o → w'.fr a = some o) (ha : ∀ k, k < n → w'.al k = w.al k) (hn : n ≤ n') (hH : ∀ o, H a = some o → H' a = some o) (h : CellOk w n H a c) : CellOk w' n' H' a c := by
  cases c with
  | lst ds =>
    obtain ⟨vs, e, l⟩ := h
    exact ⟨vs, hH _ e, l.mono hf ha hn⟩
  | dct _ => trivial
  | dead => trivial
theorem Sat.ofCore {G : Gc} {w w' : Wd} {ρ : En} {S S' : Sto} {σ : L2.St} {H H' : Hp} (s : Sat G w ρ S σ H) (c : Core G w' S' H') (e : Ext w S H w' S' H') : Sat G w' ρ S' σ H' :=
  ⟨c, fun i d h => let ⟨v, h1, h2⟩ := s.env i d h; ⟨v, h1, h2.ext e⟩, s.len, fun v h => let ⟨c, P, h1, h2⟩ := s.code v h; ⟨c, P, h1, e.tb _ _ h2⟩⟩

/-! ### a new frozen object -/
section
variable {G : Gc} {w : Wd} {ρ : En} {S : Sto} {σ : L2.St} {H : Hp} {p : Addr} {o : HO}
theorem Core.newF (c : Core G w S H) (hp : H p = none) (ho : (∃ xs, o = .tup xs) ∨ (∃ xs, o = .lst xs)) :
    Core G { w with fr := upd w.fr p o } S (upd H p o) ∧ Ext w S H { w with fr := upd w.fr p o } S (upd H p o) := by
  have hw : w.fr p = none := by
    cases q : w.fr p with
    | none => rfl
    | some u => rw [c.sub p u q] at hp; cases hp
  have nt : ∀ ps, o ≠ .tbl ps := fun ps e => by rcases ho with ⟨xs, z⟩ | ⟨xs, z⟩ <;> rw [z] at e <;> cases e
  have old : ∀ a u, H a = some u → a ≠ p := fun a u e => ne_of_none e hp
  have fm : ∀ a u, w.fr a = some u → upd w.fr p o a = some u := fun a u e => by rw [upd_ne (ne_of_none e hw)]; exact e
  have hm : ∀ a u, H a = some u → upd H p o a = some u := fun a u e => by rw [upd_ne (old a u e)]; exact e
  refine ⟨⟨fun a u e => ?_, fun a u e => ?_, fun k ce h => ?_, c.inj, c.tab.stay fun a u e _ _ => hm a u e, c.t0⟩, ⟨fun _ _ => rfl, fm, fun _ _ e => e, Nat.le_refl _, fun k h1 h2 => absurd h2 (Nat.not_lt.mpr h1), fun a u e _ _ => hm a u e, fun a e => ?_, fun a u e => ?_⟩⟩
  · by_cases h : a = p
    · subst h
      have e : upd w.fr a o a = some u := e
      rw [upd_same] at e ⊢; exact e
    · have e : upd w.fr p o a = some u := e
      rw [upd_ne h] at e ⊢; exact c.sub a u e
  · by_cases h : a = p
    · subst h
      have e : upd w.fr a o a = some u := e
      rw [upd_same] at e
      cases e
      rcases ho with z | z
      · exact .inl z
      · exact .inr (.inl z)
    · have e : upd w.fr p o a = some u := e
      rw [upd_ne h] at e; exact c.fro a u e
  · obtain ⟨h1, ⟨u, h2, h3⟩, h4⟩ := c.cel k ce h
    have hk : w.al k ≠ p := old _ u h2
    refine ⟨by show upd w.fr p o (w.al k) = none; rw [upd_ne hk]; exact h1, ⟨u, hm _ u h2, h3⟩, CellOk.mono (w := w) fm (fun _ _ => rfl) (Nat.le_refl _) (fun u e => hm _ u e) h4⟩
  · by_cases h : a = p
    · subst h; rw [upd_same] at e; cases e
    · rw [upd_ne h] at e; exact e
  · by_cases h : a = p
    · exact .inr (.inl (by rw [h]; exact hp))
    · have e : upd w.fr p o a = some u := e
      rw [upd_ne h] at e; exact .inl e
theorem Sat.newF (s : Sat G w ρ S σ H) (hp : H p = none) (ho : (∃ xs, o = .tup xs) ∨ (∃ xs, o = .lst xs)) :
    Sat G { w with fr := upd w.fr p o } ρ S σ (upd H p o) ∧ Ext w S H { w with fr := upd w.fr p o } S (upd H p o) :=
  let ⟨c, e⟩ := s.core.newF hp ho; ⟨s.ofCore c e, e⟩
theorem den_newT {vs : List V} {ds : List D} {n : Nat} (h : DenL w n vs ds) (hw : w.fr p = none) : Den { w with fr := upd w.fr p (.tup vs) } n (.ref p) (.tup ds) :=
  .tup upd_same (DenL.mono (w := w) (w' := { w with fr := upd w.fr p (.tup vs) }) (n' := n) (fun a u e => by show upd w.fr p _ a = some u; rw [upd_ne (ne_of_none e hw)]; exact e) (fun _ _ => rfl) (Nat.le_refl _) h)
theorem den_newL {vs : List V} {ds : List D} {n : Nat} (h : DenL w n vs ds) (hw : w.fr p = none) : Den { w with fr := upd w.fr p (.lst vs) } n (.ref p) (.lst ds) :=
  .lst upd_same (DenL.mono (w := w) (w' := { w with fr := upd w.fr p (.lst vs) }) (n' := n) (fun a u e => by show upd w.fr p _ a = some u; rw [upd_ne (ne_of_none e hw)]; exact e) (fun _ _ => rfl) (Nat.le_refl _) h)
theorem Core.fresh (c : Core G w S H) (hp : H p = none) : w.fr p = none := by
  cases q : w.fr p with
  | none => rfl
  | some u => rw [c.sub p u q] at hp; cases hp
/-- a new object of the store -/
theorem Core.newO {vs : List V} {ds : List D} (c : Core G w S H) (hp : H p = none) (h : DenL w S.length vs ds) :
    Core G { w with al := fun k => if k = S.length then p else w.al k } (S ++ [.lst ds]) (upd H p (.lst vs)) ∧ Ext w S H { w with al := fun k => if k = S.length then p else w.al k } (S ++ [.lst ds]) (upd H p (.lst vs)) := by
  have hw := c.fresh hp
  have old : ∀ a u, H a = some u → a ≠ p := fun a u e => ne_of_none e hp
  have hm : ∀ a u, H a = some u → upd H p (.lst vs) a = some u := fun a u e => by rw [upd_ne (old a u e)]; exact e
  have al : ∀ k, k < S.length → (if k = S.length then p else w.al k) = w.al k := fun k hk => if_neg (Nat.ne_of_lt hk)
  have ln : (S ++ [Cell.lst ds]).length = S.length + 1 := by simp
  have onew : ∀ k, k < S.length → w.al k ≠ p := fun k hk => by
    obtain ⟨_, ⟨u, h2, _⟩, _⟩ := c.cel k _ (List.getElem?_eq_getElem hk)
    exact old _ u h2
  refine ⟨⟨fun a u e => hm a u (c.sub a u e), c.fro, fun k ce hk => ?_, fun j k hj hk e => ?_, c.tab.stay fun a u e _ _ => hm a u e, c.t0⟩, ⟨al, fun _ _ e => e, fun _ _ e => e, by rw [ln]; exact Nat.le_succ _, fun k h1 h2 => ?_, fun a u e _ _ => hm a u e, fun a e => ?_, fun _ _ e => .inl e⟩⟩
  · by_cases hk2 : k < S.length
    · rw [List.getElem?_append_left hk2] at hk
      obtain ⟨h1, ⟨u, h2, h3⟩, h4⟩ := c.cel k ce hk
      show w.fr (if k = S.length then p else w.al k) = none ∧ (∃ o, upd H p (.lst vs) (if k = S.length then p else w.al k) = some o ∧ _) ∧ CellOk _ _ _ (if k = S.length then p else w.al k) ce
      rw [al k hk2]
      exact ⟨h1, ⟨u, hm _ u h2, h3⟩, CellOk.mono (w := w) (fun _ _ e => e) al (by rw [ln]; exact Nat.le_succ _) (fun u e => hm _ u e) h4⟩
    · have ek : k = S.length := by
        have := (List.getElem?_eq_some_iff.mp hk).1
        rw [ln] at this; omega
      subst ek
      rw [List.getElem?_append_right (Nat.le_refl _), Nat.sub_self] at hk
      cases hk
      show w.fr (if S.length = S.length then p else w.al S.length) = none ∧ (∃ o, upd H p (.lst vs) (if S.length = S.length then p else w.al S.length) = some o ∧ _) ∧ CellOk _ _ _ (if S.length = S.length then p else w.al S.length) _
      rw [if_pos rfl]
      exact ⟨hw, ⟨_, upd_same, fun ps e => (by cases e), fun ps e => (by cases e)⟩, vs, upd_same, DenL.mono (w := w) (w' := { w with al := fun k => if k = S.length then p else w.al k }) (n' := (S ++ [Cell.lst ds]).length) (fun _ _ e => e) al (by rw [ln]; exact Nat.le_succ _) h⟩
  · rw [ln] at hj hk
    have e : (if j = S.length then p else w.al j) = (if k = S.length then p else w.al k) := e
    by_cases h1 : j < S.length <;> by_cases h2 : k < S.length
    · rw [al j h1, al k h2] at e; exact c.inj j k h1 h2 e
    · have ek : k = S.length := by omega
      rw [al j h1, if_pos ek] at e; exact absurd e (onew j h1)
    · have ej : j = S.length := by omega
      rw [al k h2, if_pos ej] at e; exact absurd e.symm (onew k h2)
    · omega
  · rw [ln] at h2
    have ek : k = S.length := by omega
    show H (if k = S.length then p else w.al k) = none
    rw [if_pos ek]; exact hp
  · by_cases h : a = p
    · subst h; rw [upd_same] at e; cases e
    · rw [upd_ne h] at e; exact e
/-- a list of the store changes -/
theorem Core.setL {vs : List V} {ds : List D} {k : Nat} {c0 : Cell} (c : Core G w S H) (hk : S[k]? = some c0) (h : DenL w S.length vs ds) :
    Core G w (S.set k (.lst ds)) (upd H (w.al k) (.lst vs)) ∧ Ext w S H w (S.set k (.lst ds)) (upd H (w.al k) (.lst vs)) := by
  have hkl : k < S.length := (List.getElem?_eq_some_iff.mp hk).1
  obtain ⟨g1, ⟨u0, g2, g3⟩, _⟩ := c.cel k c0 hk
  have ln : (S.set k (Cell.lst ds)).length = S.length := List.length_set
  refine ⟨⟨fun a u e => ?_, c.fro, fun j ce hj => ?_, fun i j hi hj e => c.inj i j (by rw [ln] at hi; exact hi) (by rw [ln] at hj; exact hj) e, c.tab.stay fun a u e h1 h2 => ?_, c.t0⟩, ⟨fun _ _ => rfl, fun _ _ e => e, fun _ _ e => e, by rw [ln]; exact Nat.le_refl _, fun j h1 h2 => ?_, fun a u e h1 _ => ?_, fun a e => ?_, fun _ _ e => .inl e⟩⟩
  · have : a ≠ w.al k := fun z => by rw [z, g1] at e; cases e
    rw [upd_ne this]; exact c.sub a u e
  · by_cases hjk : j = k
    · subst hjk
      rw [List.getElem?_set_self hkl] at hj
      cases hj
      exact ⟨g1, ⟨_, upd_same, fun ps e => (by cases e), fun ps e => (by cases e)⟩, vs, upd_same, by rw [ln]; exact h⟩
    · rw [List.getElem?_set_ne (Ne.symm hjk)] at hj
      obtain ⟨h1, ⟨u, h2, h3⟩, h4⟩ := c.cel j ce hj
      have hjl : j < S.length := (List.getElem?_eq_some_iff.mp hj).1
      have ne : w.al j ≠ w.al k := fun e => hjk (c.inj j k hjl hkl e)
      exact ⟨h1, ⟨u, by rw [upd_ne ne]; exact h2, h3⟩, h4.mono (fun _ _ e => e) (fun _ _ => rfl) (by rw [ln]; exact Nat.le_refl _) (fun u e => by rw [upd_ne ne]; exact e)⟩
  · by_cases z : a = w.al k
    · rw [z, g2] at e
      cases e
      rcases h2 with ⟨ps, h2⟩ | ⟨φ, h2⟩
      · exact absurd h2 (g3.1 ps)
      · exact absurd h2 (g3.2 φ)
    · rw [upd_ne z]; exact e
  · rw [ln] at h2; exact absurd h2 (Nat.not_lt.mpr h1)
  · rw [upd_ne (h1 k hkl)]; exact e
  · by_cases z : a = w.al k
    · rw [z, upd_same] at e; cases e
    · rw [upd_ne z] at e; exact e
/-- an object that the world does not know changes -/
theorem Core.updX {dd : Addr} {o o' : HO} (c : Core G w S H) (hD : H dd = some o) (ho : NoTab o) (hf : w.fr dd = none) (hk : ∀ k, k < S.length → w.al k ≠ dd) : Core G w S (upd H dd o') := by
  refine ⟨fun a u e => ?_, c.fro, fun j ce hj => ?_, c.inj, c.tab.stay fun a u e _ h2 => ?_, c.t0⟩
  · have : a ≠ dd := fun z => by rw [z, hf] at e; cases e
    rw [upd_ne this]; exact c.sub a u e
  · obtain ⟨h1, ⟨u, h2, h3⟩, h4⟩ := c.cel j ce hj
    have ne := hk j (List.getElem?_eq_some_iff.mp hj).1
    exact ⟨h1, ⟨u, by rw [upd_ne ne]; exact h2, h3⟩, h4.mono (fun _ _ e => e) (fun _ _ => rfl) (Nat.le_refl _) (fun u e => by rw [upd_ne ne]; exact e)⟩
  · by_cases z : a = dd
    · rw [z, hD] at e
      cases e
      rcases h2 with ⟨ps, h2⟩ | ⟨φ, h2⟩
      · exact absurd h2 (ho.1 ps)
      · exact absurd h2 (ho.2 φ)
    · rw [upd_ne z]; exact e
/-- a list of the heap that the world does not know is frozen -/
theorem Core.freeze {dd : Addr} {o : HO} (c : Core G w S H) (hD : H dd = some o) (ho : (∃ xs, o = .tup xs) ∨ (∃ xs, o = .lst xs)) (hf : w.fr dd = none) (hk : ∀ k, k < S.length → w.al k ≠ dd) : Core G { w with fr := upd w.fr dd o } S H := by
  have fm : ∀ a u, w.fr a = some u → upd w.fr dd o a = some u := fun a u e => by rw [upd_ne (ne_of_none e hf)]; exact e
  refine ⟨fun a u e => ?_, fun a u e => ?_, fun j ce hj => ?_, c.inj, c.tab, c.t0⟩
  · by_cases h : a = dd
    · subst h
      have e : upd w.fr a o a = some u := e
      rw [upd_same] at e; rw [hD]; exact e
    · have e : upd w.fr dd o a = some u := e
      rw [upd_ne h] at e; exact c.sub a u e
  · by_cases h : a = dd
    · subst h
      have e : upd w.fr a o a = some u := e
      rw [upd_same] at e
      cases e
      rcases ho with z | z
      · exact .inl z
      · exact .inr (.inl z)
    · have e : upd w.fr dd o a = some u := e
      rw [upd_ne h] at e; exact c.fro a u e
  · obtain ⟨h1, h2, h4⟩ := c.cel j ce hj
    have ne := hk j (List.getElem?_eq_some_iff.mp hj).1
    exact ⟨by show upd w.fr dd o (w.al j) = none; rw [upd_ne ne]; exact h1, h2, CellOk.mono (w := w) (w' := { w with fr := upd w.fr dd o }) (n' := S.length) fm (fun _ _ => rfl) (Nat.le_refl _) (fun u e => e) h4⟩
/-- .. becomes an object of the store -/
theorem Core.adopt {dd : Addr} {vs : List V} {ds : List D} (c : Core G w S H) (hD : H dd = some (.lst vs)) (h : DenL w S.length vs ds) (hf : w.fr dd = none) (hk : ∀ k, k < S.length → w.al k ≠ dd) :
    Core G { w with al := fun k => if k = S.length then dd else w.al k } (S ++ [.lst ds]) H := by
  have al : ∀ k, k < S.length → (if k = S.length then dd else w.al k) = w.al k := fun k hk => if_neg (Nat.ne_of_lt hk)
  have ln : (S ++ [Cell.lst ds]).length = S.length + 1 := by simp
  refine ⟨c.sub, c.fro, fun k ce hkk => ?_, fun j k hj hk' e => ?_, c.tab, c.t0⟩
  · by_cases hk2 : k < S.length
    · rw [List.getElem?_append_left hk2] at hkk
      obtain ⟨h1, h2, h4⟩ := c.cel k ce hkk
      show w.fr (if k = S.length then dd else w.al k) = none ∧ (∃ o, H (if k = S.length then dd else w.al k) = some o ∧ _) ∧ CellOk _ _ _ (if k = S.length then dd else w.al k) ce
      rw [al k hk2]
      exact ⟨h1, h2, CellOk.mono (w := w) (w' := { w with al := fun k => if k = S.length then dd else w.al k }) (n' := (S ++ [Cell.lst ds]).length) (fun _ _ e => e) al (by rw [ln]; exact Nat.le_succ _) (fun u e => e) h4⟩
    · have ek : k = S.length := by
        have := (List.getElem?_eq_some_iff.mp hkk).1
        rw [ln] at this; omega
      subst ek
      rw [List.getElem?_append_right (Nat.le_refl _), Nat.sub_self] at hkk
      cases hkk
      show w.fr (if S.length = S.length then dd else w.al S.length) = none ∧ (∃ o, H (if S.length = S.length then dd else w.al S.length) = some o ∧ _) ∧ CellOk _ _ _ (if S.length = S.length then dd else w.al S.length) _
      rw [if_pos rfl]
      exact ⟨hf, ⟨_, hD, fun ps e => (by cases e), fun ps e => (by cases e)⟩, vs, hD, DenL.mono (w := w) (w' := { w with al := fun k => if k = S.length then dd else w.al k }) (n' := (S ++ [Cell.lst ds]).length) (fun _ _ e => e) al (by rw [ln]; exact Nat.le_succ _) h⟩
  · rw [ln] at hj hk'
    have e : (if j = S.length then dd else w.al j) = (if k = S.length then dd else w.al k) := e
    by_cases h1 : j < S.length <;> by_cases h2 : k < S.length
    · rw [al j h1, al k h2] at e; exact c.inj j k h1 h2 e
    · have ek : k = S.length := by omega
      rw [al j h1, if_pos ek] at e; exact absurd e (hk j h1)
    · have ej : j = S.length := by omega
      rw [al k h2, if_pos ej] at e; exact absurd e.symm (hk k h2)
    · omega
/-- what an evaluation leaves of an object that the world does not know -/
theorem Ext.away {w w' : Wd} {S S' : Sto} {H H' : Hp} {dd : Addr} {o : HO} (x : Ext w S H w' S' H') (hD : H dd = some o) (ho : NoTab o) (hf : w.fr dd = none) (hk : ∀ k, k < S.length → w.al k ≠ dd) :
    H' dd = some o ∧ w'.fr dd = none ∧ ∀ k, k < S'.length → w'.al k ≠ dd := by
  refine ⟨x.keep dd o hD (fun k h z => hk k h z.symm) ho.1, ?_, fun k h z => ?_⟩
  · cases q : w'.fr dd with
    | none => rfl
    | some u =>
      rcases x.frn dd u q with h | h | ⟨k, h1, h2⟩
      · rw [hf] at h; cases h
      · rw [hD] at h; cases h
      · exact absurd h2.symm (hk k h1)
  · by_cases h2 : k < S.length
    · rw [x.al k h2] at z; exact hk k h2 z
    · have := x.new k (Nat.not_lt.mp h2) h
      rw [z, hD] at this; cases this
end
end DL

set_option maxRecDepth 100000
set_option maxHeartbeats 4000000
set_option pp.maxSteps 900
namespace DL
open PySem PySem.Spec PyProof.Rows L2 GX

abbrev RE := En → Sto → Option (D × Sto)
abbrev RT := En → Sto → Option (Bool × Sto)
abbrev RA := En → Sto → Option (List D × Sto)
abbrev RS := En → Sto → Option Out
def Ev (G : Gc) (te : TE) (t : RE) : Prop := ∀ (ρ : En) (S : Sto) (d : D) (S' : Sto), t ρ S = some (d, S') → ∀ (w : Wd) (σ : L2.St) (H : Hp), Sat G w ρ S σ H → ∀ Q : VK,
  (∀ w' v H', Sat G w' ρ S' σ H' → Ext w S H w' S' H' → Den w' S'.length v d → Q v H') → te σ H Q
def EvT (G : Gc) (tt : TT) (t : RT) : Prop := ∀ (ρ : En) (S : Sto) (b : Bool) (S' : Sto), t ρ S = some (b, S') → ∀ (w : Wd) (σ : L2.St) (H : Hp), Sat G w ρ S σ H → ∀ Q : Bool → Hp → Prop,
  (∀ w' H', Sat G w' ρ S' σ H' → Ext w S H w' S' H' → Q b H') → tt σ H Q
def EvA (G : Gc) (ta : TA) (t : RA) : Prop := ∀ (ρ : En) (S : Sto) (ds : List D) (S' : Sto), t ρ S = some (ds, S') → ∀ (w : Wd) (σ : L2.St) (H : Hp), Sat G w ρ S σ H → ∀ Q : List V → Hp → Prop,
  (∀ w' vs H', Sat G w' ρ S' σ H' → Ext w S H w' S' H' → DenL w' S'.length vs ds → Q vs H') → ta σ H Q
/-- an expression computes t -/
def DE (X : Cx) (G : Gc) (e : Expr) (t : RE) : Prop := ∃ te, PE X e te ∧ Ev G te t
def DT (X : Cx) (G : Gc) (e : Expr) (t : RT) : Prop := ∃ tt, PT X e tt ∧ EvT G tt t
def DW (X : Cx) (G : Gc) (e : Expr) (t : RT) : Prop := ∃ tt, PW X e tt ∧ EvT G tt t
def DA (X : Cx) (G : Gc) (es : List Expr) (t : RA) : Prop := ∃ ta, PA X es ta ∧ EvA G ta t

/-! ### what is computed -/
@[simp] def eC (d : D) : RE := fun _ S => some (d, S)
@[simp] def eV (i : Nat) : RE := fun ρ S => match ρ[i]? with | some (some d) => some (d, S) | _ => none
@[simp] def e1 (f : D → Sto → Option D) (a : RE) : RE := fun ρ S => match a ρ S with | some (x, S1) => (match f x S1 with | some z => some (z, S1) | none => none) | none => none
@[simp] def e2 (f : D → D → Sto → Option D) (a b : RE) : RE := fun ρ S => match a ρ S with
  | some (x, S1) => (match b ρ S1 with | some (y, S2) => (match f x y S2 with | some z => some (z, S2) | none => none) | none => none)
  | none => none
@[simp] def aNil : RA := fun _ S => some ([], S)
@[simp] def aCons (a : RE) (r : RA) : RA := fun ρ S => match a ρ S with
  | some (x, S1) => (match r ρ S1 with | some (xs, S2) => some (x :: xs, S2) | none => none)
  | none => none
/-- of the arguments' values; the store may change -/
@[simp] def eA (f : List D → Sto → Option (D × Sto)) (a : RA) : RE := fun ρ S => match a ρ S with | some (xs, S1) => f xs S1 | none => none

section
variable {G : Gc} {X : Cx} {pos : Pos}
theorem ev_c {v : V} {d : D} (h : ∀ w n, Den w n v d) : Ev G (tC v) (eC d) := fun ρ S d' S' e w σ H s Q q => by
  cases e
  exact q w v H s (Ext.refl ..) (h _ _)
theorem de_int {i : Int} {j : Nat} : DE X G (.Constant (.int i) j pos) (eC (.int i)) := ⟨_, pe_int, ev_c fun _ _ => .int i⟩
theorem de_bl {b : Bool} {j : Nat} : DE X G (.Constant (.bool b) j pos) (eC (.bl b)) := ⟨_, pe_bl, ev_c fun _ _ => .bl b⟩
theorem de_non {j : Nat} : DE X G (.Constant .none j pos) (eC .non) := ⟨_, pe_non, ev_c fun _ _ => .non⟩
theorem de_str {x : Str} {j : Nat} : DE X G (.Constant (.str x) j pos) (eC (.str x)) := ⟨_, pe_str, ev_c fun _ _ => .str x⟩
theorem ev_var {i : Nat} : Ev G (tVar i) (eV i) := fun ρ S d S' e w σ H s Q q => by
  unfold eV at e
  split at e
  · rename_i d0 h
    cases e
    obtain ⟨v, h1, h2⟩ := s.env i d h
    exact ⟨v, h1, q w v H s (Ext.refl ..) h2⟩
  · cases e
theorem dv (i : Nat) {x : Str} (hN : X.N[i]? = some x := by rfl) (hv : Vis X.env.scope x := by first | exact Or.inl rfl | exact Or.inr (Or.inl rfl) | exact Or.inr (Or.inr rfl)) (hd : (x == ("__debug__" : Str)) = false := by decide) (hcd : (x == ("__classdict__" : Str)) = false := by decide) :
    DE X G (.Name x pos) (eV i) := ⟨_, pe_var hN hv hd hcd, ev_var⟩
/-- two operands, an operation that leaves the heap -/
def R2Ok (G : Gc) (r : R2) (f : D → D → Sto → Option D) : Prop := ∀ (w : Wd) (S : Sto) (H : Hp) (x y : V) (dx dy d : D) (Q : VK), Core G w S H → Den w S.length x dx → Den w S.length y dy → f dx dy S = some d → (∀ v, Den w S.length v d → Q v H) → r x y H Q
theorem ev_2 {r : R2} {f : D → D → Sto → Option D} {ta tb : TE} {a b : RE} (hr : R2Ok G r f) (ha : Ev G ta a) (hb : Ev G tb b) : Ev G (tOp r ta tb) (e2 f a b) := fun ρ S d S' e w σ H s Q q => by
  unfold e2 at e
  split at e
  · rename_i x S1 h1
    split at e
    · rename_i y S2 h2
      split at e
      · rename_i z h3
        cases e
        refine ha ρ S x S1 h1 w σ H s _ fun w1 v H1 s1 x1 d1 => hb ρ S1 y _ h2 w1 σ H1 s1 _ fun w2 u H2 s2 x2 d2 => ?_
        exact hr w2 _ H2 v u x y d Q s2.core (d1.ext x2) d2 h3 fun z hz => q w2 z H2 s2 (x1.trans x2) hz
      · cases e
    · cases e
  · cases e
def R1Ok (G : Gc) (r : V → Hp → VK → Prop) (f : D → Sto → Option D) : Prop := ∀ (w : Wd) (S : Sto) (H : Hp) (x : V) (dx d : D) (Q : VK), Core G w S H → Den w S.length x dx → f dx S = some d → (∀ v, Den w S.length v d → Q v H) → r x H Q
theorem ev_1 {r : V → Hp → VK → Prop} {f : D → Sto → Option D} {ta : TE} {a : RE} (hr : R1Ok G r f) (ha : Ev G ta a) : Ev G (tUn r ta) (e1 f a) := fun ρ S d S' e w σ H s Q q => by
  unfold e1 at e
  split at e
  · rename_i x S1 h1
    split at e
    · rename_i z h3
      cases e
      refine ha ρ S x _ h1 w σ H s _ fun w1 v H1 s1 x1 d1 => ?_
      exact hr w1 _ H1 v x d Q s1.core d1 h3 fun z hz => q w1 z H1 s1 x1 hz
    · cases e
  · cases e

/-! ### ints -/
def Nar (i : Int) : Prop := i.natAbs < 2 ^ 400000
def fAdd : D → D → Sto → Option D := fun x y _ => match x, y with | .int i, .int j => some (.int (i + j)) | _, _ => none
@[simp] def fSub : D → D → Sto → Option D := fun x y _ => match x, y with | .int i, .int j => some (.int (i - j)) | _, _ => none
open Classical in
noncomputable def fMul : D → D → Sto → Option D := fun x y _ => match x, y with | .int i, .int j => if CMulW i j then some (.int (i * j)) else none | _, _ => none
open Classical in
@[simp] noncomputable def fDiv : D → D → Sto → Option D := fun x y _ => match x, y with | .int i, .int j => if CDivW i j ∨ CDivN i j then some (.int (i.fdiv j)) else none | _, _ => none
@[simp] def fMod : D → D → Sto → Option D := fun x y _ => match x, y with | .int i, .int j => if j ≠ 0 then some (.int (i.fmod j)) else none | _, _ => none
@[simp] def fNeg : D → Sto → Option D := fun x _ => match x with | .int i => some (.int (-i)) | _ => none
@[simp] def fCmp (p : Int → Int → Bool) : D → D → Sto → Option D := fun x y _ => match x, y with | .int i, .int j => some (.bl (p i j)) | _, _ => none
theorem den_int {w : Wd} {n : Nat} {v : V} {i : Int} (h : Den w n v (.int i)) : v = .int i := by cases h; rfl
theorem den_bl {w : Wd} {n : Nat} {v : V} {i : Bool} (h : Den w n v (.bl i)) : v = .bl i := by cases h; rfl
theorem den_str {w : Wd} {n : Nat} {v : V} {i : Str} (h : Den w n v (.str i)) : v = .str i := by cases h; rfl
theorem den_non {w : Wd} {n : Nat} {v : V} (h : Den w n v .non) : v = .non := by cases h; rfl
theorem r_I0 {g : Int → Int → V} {f : D → D → Sto → Option D} (h : ∀ x y S d, f x y S = some d → ∃ i j, x = .int i ∧ y = .int j ∧ ∀ w n, Den w n (g i j) d) : R2Ok G (rI0 g) f := fun w S H x y dx dy d Q c hx hy e q => by
  obtain ⟨i, j, rfl, rfl, hd⟩ := h _ _ _ _ e
  exact ⟨i, j, den_int hx, den_int hy, q _ (hd _ _)⟩
theorem r_I {C : Int → Int → Prop} {g : Int → Int → V} {f : D → D → Sto → Option D} (h : ∀ x y S d, f x y S = some d → ∃ i j, x = .int i ∧ y = .int j ∧ C i j ∧ ∀ w n, Den w n (g i j) d) : R2Ok G (rI C g) f := fun w S H x y dx dy d Q c hx hy e q => by
  obtain ⟨i, j, rfl, rfl, hc, hd⟩ := h _ _ _ _ e
  exact ⟨i, j, den_int hx, den_int hy, hc, q _ (hd _ _)⟩
theorem op_div : OpR X (binaryOp .FloorDiv) (rI (fun i j => CDivW i j ∨ CDivN i j) fun i j => .int (i.fdiv j)) := fun pins s σ H x y v u Q I r1 r2 h => by
  obtain ⟨i, j, e1, e2, hc, q⟩ := h
  rcases hc with hc | hc
  · exact op_fdivW pins s σ H x y v u Q I r1 r2 ⟨i, j, e1, e2, hc, by show Q (V.int (i / j)) H; rw [← Int.fdiv_eq_ediv_of_nonneg _ (Int.le_of_lt hc.1)]; exact q⟩
  · exact op_fdivN pins s σ H x y v u Q I r1 r2 ⟨i, j, e1, e2, hc, q⟩
variable {a b c : Expr} {ta tb tc : RE}
theorem de_add (ha : DE X G a ta) (hb : DE X G b tb) : DE X G (.BinOp a .Add b pos) (e2 fAdd ta tb) :=
  let ⟨_, pa, ea⟩ := ha; let ⟨_, pb, eb⟩ := hb
  ⟨_, pe_op op_add pa pb, ev_2 (r_I0 fun x y S d e => by unfold fAdd at e; split at e <;> cases e; exact ⟨_, _, rfl, rfl, fun _ _ => .int _⟩) ea eb⟩
theorem de_sub (ha : DE X G a ta) (hb : DE X G b tb) : DE X G (.BinOp a .Sub b pos) (e2 fSub ta tb) :=
  let ⟨_, pa, ea⟩ := ha; let ⟨_, pb, eb⟩ := hb
  ⟨_, pe_op op_sub pa pb, ev_2 (r_I0 fun x y S d e => by unfold fSub at e; split at e <;> cases e; exact ⟨_, _, rfl, rfl, fun _ _ => .int _⟩) ea eb⟩
theorem de_mul (ha : DE X G a ta) (hb : DE X G b tb) : DE X G (.BinOp a .Mult b pos) (e2 fMul ta tb) :=
  let ⟨_, pa, ea⟩ := ha; let ⟨_, pb, eb⟩ := hb
  ⟨_, pe_op op_mulW pa pb, ev_2 (r_I fun x y S d e => by
    unfold fMul at e
    split at e
    · split at e
      · rename_i hc; cases e; exact ⟨_, _, rfl, rfl, hc, fun _ _ => .int _⟩
      · cases e
    · cases e) ea eb⟩
theorem de_div (ha : DE X G a ta) (hb : DE X G b tb) : DE X G (.BinOp a .FloorDiv b pos) (e2 fDiv ta tb) :=
  let ⟨_, pa, ea⟩ := ha; let ⟨_, pb, eb⟩ := hb
  ⟨_, pe_op op_div pa pb, ev_2 (r_I fun x y S d e => by
    unfold fDiv at e
    split at e
    · split at e
      · rename_i hc; cases e; exact ⟨_, _, rfl, rfl, hc, fun _ _ => .int _⟩
      · cases e
    · cases e) ea eb⟩
theorem de_mod (ha : DE X G a ta) (hb : DE X G b tb) : DE X G (.BinOp a .Mod b pos) (e2 fMod ta tb) :=
  let ⟨_, pa, ea⟩ := ha; let ⟨_, pb, eb⟩ := hb
  ⟨_, pe_op op_modN pa pb, ev_2 (r_I fun x y S d e => by
    unfold fMod at e
    split at e
    · split at e
      · rename_i hc; cases e; exact ⟨_, _, rfl, rfl, hc, fun _ _ => .int _⟩
      · cases e
    · cases e) ea eb⟩
theorem de_neg (ha : DE X G a ta) : DE X G (.UnaryOp .USub a pos) (e1 fNeg ta) :=
  let ⟨_, pa, ea⟩ := ha
  ⟨_, pe_un un_neg pa, ev_1 (fun w S H x dx d Q c hx e q => by
    unfold fNeg at e
    split at e <;> cases e
    exact ⟨_, den_int hx, q _ (.int _)⟩) ea⟩
theorem r_cmp {p : Int → Int → Bool} : R2Ok G (rI0 fun i j => .bl (p i j)) (fCmp p) := r_I0 fun x y S d e => by
  unfold fCmp at e; split at e <;> cases e; exact ⟨_, _, rfl, rfl, fun _ _ => .bl _⟩
theorem de_lt (ha : DE X G a ta) (hb : DE X G b tb) : DE X G (.Compare a [.Lt] [b] pos) (e2 (fCmp fun i j => decide (i < j)) ta tb) :=
  let ⟨_, pa, ea⟩ := ha; let ⟨_, pb, eb⟩ := hb
  ⟨_, pe_cmpR op_lt pa pb (nobehind _ (by decide) (by decide)), ev_2 r_cmp ea eb⟩
theorem de_le (ha : DE X G a ta) (hb : DE X G b tb) : DE X G (.Compare a [.LtE] [b] pos) (e2 (fCmp fun i j => decide (i ≤ j)) ta tb) :=
  let ⟨_, pa, ea⟩ := ha; let ⟨_, pb, eb⟩ := hb
  ⟨_, pe_cmpR op_le pa pb (nobehind _ (by decide) (by decide)), ev_2 r_cmp ea eb⟩
theorem de_gt (ha : DE X G a ta) (hb : DE X G b tb) : DE X G (.Compare a [.Gt] [b] pos) (e2 (fCmp fun i j => decide (j < i)) ta tb) :=
  let ⟨_, pa, ea⟩ := ha; let ⟨_, pb, eb⟩ := hb
  ⟨_, pe_cmpR op_gt pa pb (nobehind _ (by decide) (by decide)), ev_2 r_cmp ea eb⟩
theorem de_ge (ha : DE X G a ta) (hb : DE X G b tb) : DE X G (.Compare a [.GtE] [b] pos) (e2 (fCmp fun i j => decide (j ≤ i)) ta tb) :=
  let ⟨_, pa, ea⟩ := ha; let ⟨_, pb, eb⟩ := hb
  ⟨_, pe_cmpR op_ge pa pb (nobehind _ (by decide) (by decide)), ev_2 r_cmp ea eb⟩

/-! ### == of trees -/
mutual
@[simp] def toP : D → Option PyData
  | .non => some .none
  | .bl b => some (.bool b)
  | .int i => some (.int i)
  | .str x => some (.str x)
  | .tup xs => match toPs xs with | some ps => some (.tuple ps) | none => none
  | .lst xs => match toPs xs with | some ps => some (.list ps) | none => none
  | .scr xs => match toPs xs with | some ps => some (.list ps) | none => none
  | .obj _ => none
@[simp] def toPs : List D → Option (List PyData)
  | [] => some []
  | x :: r => match toP x with
    | some p => (match toPs r with | some ps => some (p :: ps) | none => none)
    | none => none
end
end
end DL

set_option maxRecDepth 100000
set_option maxHeartbeats 4000000
set_option pp.maxSteps 900
namespace DL
open PySem PySem.Spec PyProof.Rows L2 GX

/-! ### == -/
open PySem.SeqAt (shaped) in
def fEq : D → D → Sto → Option D := fun x y _ => match toP x, toP y with
  | some p, some q => if shaped p = true ∧ shaped q = true then some (.bl (PyData.eqv p q)) else none
  | _, _ => none
open PySem.SeqAt (shaped) in
def fNe : D → D → Sto → Option D := fun x y _ => match toP x, toP y with
  | some p, some q => if shaped p = true ∧ shaped q = true then some (.bl (!PyData.eqv p q)) else none
  | _, _ => none
mutual
theorem dp_of {K : PySem.W.Frag} {w : Wd} {n : Nat} {H : Hp} (hs : ∀ a o, w.fr a = some o → H a = some o) : ∀ {v : V} {d : D} {p : PyData}, Den w n v d → toP d = some p → Dp K H v p
  | _, _, _, .non, e => by simp only [toP] at e; cases e; exact .non
  | _, _, _, .bl b, e => by simp only [toP] at e; cases e; exact .bl b
  | _, _, _, .int b, e => by simp only [toP] at e; cases e; exact .int b
  | _, _, _, .str b, e => by simp only [toP] at e; cases e; exact .str b
  | _, _, _, .tup r h, e => by
    simp only [toP] at e
    split at e
    · rename_i ps hp; cases e; exact .tup (.inl (.inl (hs _ _ r))) (dps_of hs h hp)
    · cases e
  | _, _, _, .lst r h, e => by
    simp only [toP] at e
    split at e
    · rename_i ps hp; cases e; exact .lst (.inl (.inl (hs _ _ r))) (dps_of hs h hp)
    · cases e
  | _, _, _, .scr r h, e => by
    simp only [toP] at e
    split at e
    · rename_i ps hp; cases e; exact .lst (.inl (rd_sub hs r)) (dps_of hs h hp)
    · cases e
  | _, _, _, .obj h, e => by simp only [toP] at e; cases e
theorem dps_of {K : PySem.W.Frag} {w : Wd} {n : Nat} {H : Hp} (hs : ∀ a o, w.fr a = some o → H a = some o) : ∀ {vs : List V} {ds : List D} {ps : List PyData}, DenL w n vs ds → toPs ds = some ps → DpAll K H vs ps
  | _, _, _, .nil, e => by simp only [toPs] at e; cases e; exact .nil
  | _, _, _, .cons h t, e => by
    simp only [toPs] at e
    split at e
    · rename_i p hp
      split at e
      · rename_i qs hq; cases e; exact .cons (dp_of hs h hp) (dps_of hs t hq)
      · cases e
    · cases e
end
/-- a comparison: its rule, what it computes -/
def CmpOk (X : Cx) (G : Gc) (op : CmpOp) (f : D → D → Sto → Option D) : Prop := ∃ r, OpR X (compareOp op) r ∧ R2Ok G r f
section
variable {G : Gc} {X : Cx} {pos : Pos} {a b c e : Expr} {es rest : List Expr} {ta tb tc t : RE} {ra : RA} {k : Nat}
theorem c_lt : CmpOk X G .Lt (fCmp fun i j => decide (i < j)) := ⟨_, op_lt, r_cmp⟩
theorem c_le : CmpOk X G .LtE (fCmp fun i j => decide (i ≤ j)) := ⟨_, op_le, r_cmp⟩
theorem c_gt : CmpOk X G .Gt (fCmp fun i j => decide (j < i)) := ⟨_, op_gt, r_cmp⟩
theorem c_ge : CmpOk X G .GtE (fCmp fun i j => decide (j ≤ i)) := ⟨_, op_ge, r_cmp⟩
theorem c_eq (hr : Room k X.A) : CmpOk X G .Eq fEq := ⟨_, op_eqD hr.units, fun w S H x y dx dy d Q c hx hy e q => by
  unfold fEq at e
  split at e
  · rename_i p p' h1 h2
    split at e
    · rename_i h3
      cases e
      exact ⟨p, p', dp_of c.sub hx h1, dp_of c.sub hy h2, h3.1, h3.2, q _ (.bl _)⟩
    · cases e
  · cases e⟩
theorem c_ne (hr : Room k X.A) : CmpOk X G .NotEq fNe := ⟨_, op_neD hr.units, fun w S H x y dx dy d Q c hx hy e q => by
  unfold fNe at e
  split at e
  · rename_i p p' h1 h2
    split at e
    · rename_i h3
      cases e
      exact ⟨p, p', dp_of c.sub hx h1, dp_of c.sub hy h2, h3.1, h3.2, q _ (.bl _)⟩
    · cases e
  · cases e⟩
@[simp] def isNon : D → Bool | .non => true | _ => false
@[simp] def fIsN : D → D → Sto → Option D := fun x y _ => match y with | .non => some (.bl (isNon x)) | _ => none
@[simp] def fNotN : D → D → Sto → Option D := fun x y _ => match y with | .non => some (.bl (!isNon x)) | _ => none
theorem isNon_of {w : Wd} {n : Nat} {v : V} {d : D} (h : Den w n v d) : decide (v = .non) = isNon d := by
  cases h <;> simp [isNon]
theorem c_isN : CmpOk X G .Is fIsN := ⟨_, op_isN, fun w S H x y dx dy d Q c hx hy e q => by
  unfold fIsN at e
  split at e
  · cases e; exact ⟨den_non hy, q _ (by rw [isNon_of hx]; exact .bl _)⟩
  · cases e⟩
theorem c_notN : CmpOk X G .IsNot fNotN := ⟨_, op_notN, fun w S H x y dx dy d Q c hx hy e q => by
  unfold fNotN at e
  split at e
  · cases e; exact ⟨den_non hy, q _ (by rw [isNon_of hx]; exact .bl _)⟩
  · cases e⟩
theorem de_cmp {op : CmpOp} {f : D → D → Sto → Option D} (ho : CmpOk X G op f) (ha : DE X G a ta) (hb : DE X G b tb) (hm : behindInMarks op b = false := by first | exact nobehind _ (by decide) (by decide) | rfl) : DE X G (.Compare a [op] [b] pos) (e2 f ta tb) :=
  let ⟨_, h1, h2⟩ := ho; let ⟨_, pa, ea⟩ := ha; let ⟨_, pb, eb⟩ := hb
  ⟨_, pe_cmpR h1 pa pb hm, ev_2 h2 ea eb⟩

/-! ### tests -/
@[simp] def tBl (t : RE) : RT := fun ρ S => match t ρ S with | some (.bl b, S1) => some (b, S1) | _ => none
theorem evt_test {te : TE} (h : Ev G te t) : EvT G (tTest te) (tBl t) := fun ρ S b S' e w σ H s Q q => by
  unfold tBl at e
  split at e
  · rename_i c S1 h1
    cases e
    exact h ρ S _ _ h1 w σ H s _ fun w1 v H1 s1 x1 d1 => ⟨_, den_bl d1, q w1 H1 s1 x1⟩
  · cases e
theorem dt_cmp {op : CmpOp} {f : D → D → Sto → Option D} (ho : CmpOk X G op f) (ha : DE X G a ta) (hb : DE X G b tb) (hm : behindInMarks op b = false := by first | exact nobehind _ (by decide) (by decide) | rfl) : DT X G (.Compare a [op] [b] pos) (tBl (e2 f ta tb)) :=
  let ⟨_, h1, h2⟩ := ho; let ⟨_, pa, ea⟩ := ha; let ⟨_, pb, eb⟩ := hb
  ⟨_, pt_cmpR h1 pa pb hm, evt_test (ev_2 h2 ea eb)⟩
/-- a < b < c -/
@[simp] def eChain (f g : D → D → Sto → Option D) (a b c : RE) : RE := fun ρ S => match a ρ S with
  | some (x, S1) => (match b ρ S1 with
    | some (y, S2) => (match f x y S2 with
      | some (.bl true) => (match c ρ S2 with | some (z, S3) => (match g y z S3 with | some r => some (r, S3) | none => none) | none => none)
      | some (.bl false) => some (.bl false, S2)
      | _ => none)
    | none => none)
  | none => none
theorem ev_chain {r r' : R2} {f g : D → D → Sto → Option D} {xa xb xc : TE} (hr : R2Ok G r f) (hr' : R2Ok G r' g) (ha : Ev G xa ta) (hb : Ev G xb tb) (hc : Ev G xc tc) : Ev G (tChain r r' xa xb xc) (eChain f g ta tb tc) := fun ρ S d S' e w σ H s Q q => by
  unfold eChain at e
  split at e
  · rename_i x S1 h1
    split at e
    · rename_i y S2 h2
      refine ha ρ S x S1 h1 w σ H s _ fun w1 v H1 s1 x1 d1 => hb ρ S1 y _ h2 w1 σ H1 s1 _ fun w2 u H2 s2 x2 d2 => ?_
      split at e
      · rename_i h3
        split at e
        · rename_i z S3 h4
          split at e
          · rename_i rr h5
            cases e
            refine hr w2 _ H2 v u x y _ _ s2.core (d1.ext x2) d2 h3 fun z hz => ⟨true, den_bl hz, iteT ?_⟩
            refine hc ρ S2 _ _ h4 w2 σ H2 s2 _ fun w3 zz H3 s3 x3 d3 => ?_
            exact hr' w3 _ H3 u zz y _ _ _ s3.core (d2.ext x3) d3 h5 fun o ho => q w3 o H3 s3 ((x1.trans x2).trans x3) ho
          · cases e
        · cases e
      · rename_i h3
        cases e
        exact hr w2 _ H2 v u x y _ _ s2.core (d1.ext x2) d2 h3 fun z hz => ⟨false, den_bl hz, iteF (q w2 _ H2 s2 (x1.trans x2) (.bl _))⟩
      · cases e
    · cases e
  · cases e
theorem de_chain {op op' : CmpOp} {f g : D → D → Sto → Option D} (ho : CmpOk X G op f) (ho' : CmpOk X G op' g) (ha : DE X G a ta) (hb : DE X G b tb) (hc : DE X G c tc) (hm : lastMarks [op, op'] [b, c] = false := by with_unfolding_all rfl) :
    DE X G (.Compare a [op, op'] [b, c] pos) (eChain f g ta tb tc) :=
  let ⟨_, h1, h2⟩ := ho; let ⟨_, h1', h2'⟩ := ho'; let ⟨_, pa, ea⟩ := ha; let ⟨_, pb, eb⟩ := hb; let ⟨_, pc, ec⟩ := hc
  ⟨_, pe_chain h1 h1' pa pb pc hm, ev_chain h2 h2' ea eb ec⟩
theorem dt_chain {op op' : CmpOp} {f g : D → D → Sto → Option D} (ho : CmpOk X G op f) (ho' : CmpOk X G op' g) (ha : DE X G a ta) (hb : DE X G b tb) (hc : DE X G c tc) (hm : lastMarks [op, op'] [b, c] = false := by with_unfolding_all rfl) :
    DT X G (.Compare a [op, op'] [b, c] pos) (tBl (eChain f g ta tb tc)) :=
  let ⟨_, h1, h2⟩ := ho; let ⟨_, h1', h2'⟩ := ho'; let ⟨_, pa, ea⟩ := ha; let ⟨_, pb, eb⟩ := hb; let ⟨_, pc, ec⟩ := hc
  ⟨_, pt_chain h1 h1' pa pb pc hm, evt_test (ev_chain h2 h2' ea eb ec)⟩
/-- truth -/
@[simp] def tru : D → Sto → Option Bool := fun d S => match d with
  | .non => some false
  | .bl b => some b
  | .int i => some (i != 0)
  | .str x => if x.length ≤ sizeLine then some ((x.length : Int) != 0) else none
  | .tup xs => some (!xs.isEmpty)
  | .lst xs => some (!xs.isEmpty)
  | .scr xs => some (!xs.isEmpty)
  | .obj k => match S[k]? with | some (.lst xs) => some (!xs.isEmpty) | _ => none
theorem DenL.emp {w : Wd} {n : Nat} {vs : List V} {ds : List D} (h : DenL w n vs ds) : vs.isEmpty = ds.isEmpty := by cases h <;> rfl
theorem tru_ok {K : PySem.W.Frag} {w : Wd} {S : Sto} {H : Hp} (c : Core G w S H) {v : V} {d : D} {b : Bool} (h : Den w S.length v d) (e : tru d S = some b) : TruV K v H b := by
  cases h with
  | non => simp only [tru] at e; cases e; rfl
  | bl b => simp only [tru] at e; cases e; rfl
  | int b => simp only [tru] at e; cases e; rfl
  | str x =>
    simp only [tru] at e
    split at e
    · rename_i hx; cases e; exact ⟨hx, rfl⟩
    · cases e
  | tup r l => simp only [tru] at e; cases e; exact .inr (.inl ⟨_, .inl (.inl (c.sub _ _ r)), by rw [l.emp]⟩)
  | lst r l => simp only [tru] at e; cases e; exact .inl ⟨_, .inl (.inl (c.sub _ _ r)), by rw [l.emp]⟩
  | scr r l => simp only [tru] at e; cases e; exact .inl ⟨_, .inl (rd_sub c.sub r), by rw [l.emp]⟩
  | obj hk =>
    simp only [tru] at e
    split at e
    · rename_i xs hx
      cases e
      obtain ⟨_, _, vs, hv, l⟩ := c.cel _ _ hx
      exact .inl ⟨_, .inl (.inl hv), by rw [l.emp]⟩
    · cases e
@[simp] def tTru (t : RE) : RT := fun ρ S => match t ρ S with | some (d, S1) => (match tru d S1 with | some b => some (b, S1) | none => none) | none => none
theorem dt_tru (ha : DE X G a ta) (he : ∀ whole, isTrue a X.env whole = (do let v ← whole; standAt a.pos; holding [v] (truthy v)) := by intro _; rfl) : DT X G a (tTru ta) :=
  let ⟨_, pa, ea⟩ := ha
  ⟨_, pt_truth pa he, fun ρ S b S' e w σ H s Q q => by
    unfold tTru at e
    split at e
    · rename_i d S1 h1
      split at e
      · rename_i bb h2
        cases e
        exact ea ρ S _ _ h1 w σ H s _ fun w1 v H1 s1 x1 d1 => ⟨_, tru_ok s1.core d1 h2, q w1 H1 s1 x1⟩
      · cases e
    · cases e⟩
@[simp] def tNotD (t : RT) : RT := fun ρ S => match t ρ S with | some (b, S1) => some (!b, S1) | none => none
@[simp] def tAndD (t u : RT) : RT := fun ρ S => match t ρ S with | some (true, S1) => u ρ S1 | some (false, S1) => some (false, S1) | none => none
@[simp] def tOrD (t u : RT) : RT := fun ρ S => match t ρ S with | some (true, S1) => some (true, S1) | some (false, S1) => u ρ S1 | none => none
variable {t1 t2 : RT}
theorem dt_not (h : DT X G a t1) : DT X G (.UnaryOp .Not a pos) (tNotD t1) :=
  let ⟨_, pa, ea⟩ := h
  ⟨_, pt_not pa, fun ρ S b S' e w σ H s Q q => by
    unfold tNotD at e
    split at e
    · rename_i d S1 h1
      cases e
      exact ea ρ S _ _ h1 w σ H s _ fun w1 H1 s1 x1 => q w1 H1 s1 x1
    · cases e⟩
theorem evt_and {xa xb : TT} (h1 : EvT G xa t1) (h2 : EvT G xb t2) : EvT G (tAnd xa xb) (tAndD t1 t2) := fun ρ S b S' e w σ H s Q q => by
  unfold tAndD at e
  split at e
  · rename_i S1 g1
    exact h1 ρ S _ _ g1 w σ H s _ fun w1 H1 s1 x1 => iteT (h2 ρ S1 _ _ e w1 σ H1 s1 _ fun w2 H2 s2 x2 => q w2 H2 s2 (x1.trans x2))
  · rename_i S1 g1
    cases e
    exact h1 ρ S _ _ g1 w σ H s _ fun w1 H1 s1 x1 => iteF (q w1 H1 s1 x1)
  · cases e
theorem evt_or {xa xb : TT} (h1 : EvT G xa t1) (h2 : EvT G xb t2) : EvT G (tOr xa xb) (tOrD t1 t2) := fun ρ S b S' e w σ H s Q q => by
  unfold tOrD at e
  split at e
  · rename_i S1 g1
    cases e
    exact h1 ρ S _ _ g1 w σ H s _ fun w1 H1 s1 x1 => iteT (q w1 H1 s1 x1)
  · rename_i S1 g1
    exact h1 ρ S _ _ g1 w σ H s _ fun w1 H1 s1 x1 => iteF (h2 ρ S1 _ _ e w1 σ H1 s1 _ fun w2 H2 s2 x2 => q w2 H2 s2 (x1.trans x2))
  · cases e
theorem dw_and1 (h : DT X G a t1) : DW X G (.BoolOp .And [a] pos) t1 := let ⟨_, pa, ea⟩ := h; ⟨_, pw_and1 pa, ea⟩
theorem dw_or1 (h : DT X G a t1) : DW X G (.BoolOp .Or [a] pos) t1 := let ⟨_, pa, ea⟩ := h; ⟨_, pw_or1 pa, ea⟩
theorem dw_and (h : DT X G a t1) (h2 : DW X G (.BoolOp .And (b :: rest) pos) t2) : DW X G (.BoolOp .And (a :: b :: rest) pos) (tAndD t1 t2) :=
  let ⟨_, pa, ea⟩ := h; let ⟨_, pb, eb⟩ := h2; ⟨_, pw_and pa pb, evt_and ea eb⟩
theorem dw_or (h : DT X G a t1) (h2 : DW X G (.BoolOp .Or (b :: rest) pos) t2) : DW X G (.BoolOp .Or (a :: b :: rest) pos) (tOrD t1 t2) :=
  let ⟨_, pa, ea⟩ := h; let ⟨_, pb, eb⟩ := h2; ⟨_, pw_or pa pb, evt_or ea eb⟩
theorem dt_w (h : DW X G a t1) : DT X G a t1 := let ⟨_, pa, ea⟩ := h; ⟨_, pa.pt, ea⟩
/-- and, or, not as values: of truth values -/
@[simp] def eAnd (a b : RE) : RE := fun ρ S => match a ρ S with | some (.bl true, S1) => b ρ S1 | some (.bl false, S1) => some (.bl false, S1) | _ => none
@[simp] def eOr (a b : RE) : RE := fun ρ S => match a ρ S with | some (.bl true, S1) => some (.bl true, S1) | some (.bl false, S1) => b ρ S1 | _ => none
@[simp] def fNot : D → Sto → Option D := fun d _ => match d with | .bl b => some (.bl (!b)) | _ => none
theorem de_one {op : BoolOp} (h : DE X G a ta) : DE X G (.BoolOp op [a] pos) ta := let ⟨_, pa, ea⟩ := h; ⟨_, pe_one pa, ea⟩
theorem de_and (h : DE X G a ta) (h2 : DE X G (.BoolOp .And (b :: rest) pos) tb) : DE X G (.BoolOp .And (a :: b :: rest) pos) (eAnd ta tb) :=
  let ⟨_, pa, ea⟩ := h; let ⟨_, pb, eb⟩ := h2
  ⟨_, pe_and pa pb, fun ρ S d S' e w σ H s Q q => by
    unfold eAnd at e
    split at e
    · rename_i S1 g1
      exact ea ρ S _ _ g1 w σ H s _ fun w1 v H1 s1 x1 d1 => ⟨true, den_bl d1, iteT (eb ρ S1 _ _ e w1 σ H1 s1 _ fun w2 v2 H2 s2 x2 d2 => q w2 v2 H2 s2 (x1.trans x2) d2)⟩
    · rename_i S1 g1
      cases e
      exact ea ρ S _ _ g1 w σ H s _ fun w1 v H1 s1 x1 d1 => ⟨false, den_bl d1, iteF (q w1 _ H1 s1 x1 (.bl _))⟩
    · cases e⟩
theorem de_or (h : DE X G a ta) (h2 : DE X G (.BoolOp .Or (b :: rest) pos) tb) : DE X G (.BoolOp .Or (a :: b :: rest) pos) (eOr ta tb) :=
  let ⟨_, pa, ea⟩ := h; let ⟨_, pb, eb⟩ := h2
  ⟨_, pe_or pa pb, fun ρ S d S' e w σ H s Q q => by
    unfold eOr at e
    split at e
    · rename_i S1 g1
      cases e
      exact ea ρ S _ _ g1 w σ H s _ fun w1 v H1 s1 x1 d1 => ⟨true, den_bl d1, iteT (q w1 _ H1 s1 x1 (.bl _))⟩
    · rename_i S1 g1
      exact ea ρ S _ _ g1 w σ H s _ fun w1 v H1 s1 x1 d1 => ⟨false, den_bl d1, iteF (eb ρ S1 _ _ e w1 σ H1 s1 _ fun w2 v2 H2 s2 x2 d2 => q w2 v2 H2 s2 (x1.trans x2) d2)⟩
    · cases e⟩
theorem de_not (h : DE X G a ta) : DE X G (.UnaryOp .Not a pos) (e1 fNot ta) :=
  let ⟨_, pa, ea⟩ := h
  ⟨_, pe_not pa, by
    refine ev_1 (r := fun x H1 Q => ∃ c, x = .bl c ∧ Q (.bl (!c)) H1) (fun w S H x dx d Q c hx e q => ?_) ea
    unfold fNot at e
    split at e <;> cases e
    exact ⟨_, den_bl hx, q _ (.bl _)⟩⟩
@[simp] def eIf (t : RT) (a b : RE) : RE := fun ρ S => match t ρ S with | some (true, S1) => a ρ S1 | some (false, S1) => b ρ S1 | none => none
theorem de_if (h : DT X G c t1) (ha : DE X G a ta) (hb : DE X G b tb) : DE X G (.IfExp c a b pos) (eIf t1 ta tb) :=
  let ⟨_, pc, ec⟩ := h; let ⟨_, pa, ea⟩ := ha; let ⟨_, pb, eb⟩ := hb
  ⟨_, pe_ifExp pc pa pb, fun ρ S d S' e w σ H s Q q => by
    unfold eIf at e
    split at e
    · rename_i S1 g1
      exact ec ρ S _ _ g1 w σ H s _ fun w1 H1 s1 x1 => iteT (ea ρ S1 _ _ e w1 σ H1 s1 _ fun w2 v2 H2 s2 x2 d2 => q w2 v2 H2 s2 (x1.trans x2) d2)
    · rename_i S1 g1
      exact ec ρ S _ _ g1 w σ H s _ fun w1 H1 s1 x1 => iteF (eb ρ S1 _ _ e w1 σ H1 s1 _ fun w2 v2 H2 s2 x2 d2 => q w2 v2 H2 s2 (x1.trans x2) d2)
    · cases e⟩
end
end DL

set_option maxRecDepth 100000
set_option maxHeartbeats 4000000
set_option pp.maxSteps 900
namespace DL
open PySem PySem.Spec PyProof.Rows L2 GX

theorem le_line {n : Nat} (h : n ≤ 1000000) : n ≤ sizeLine := Nat.le_trans h (by decide)
theorem lt_line {n : Nat} (h : n < 1000000) : n < sizeLine := Nat.lt_of_lt_of_le h (by decide)
/-- of two values; the store may change -/
@[simp] def e2s (f : D → D → Sto → Option (D × Sto)) (a b : RE) : RE := fun ρ S => match a ρ S with
  | some (x, S1) => (match b ρ S1 with | some (y, S2) => f x y S2 | none => none)
  | none => none
@[simp] def e1s (f : D → Sto → Option (D × Sto)) (a : RE) : RE := fun ρ S => match a ρ S with | some (x, S1) => f x S1 | none => none
section
variable {G : Gc} {X : Cx} {pos : Pos} {a b c e : Expr} {es rest : List Expr} {ta tb tc t : RE} {ra : RA} {k : Nat}
def R2New (G : Gc) (r : R2) (f : D → D → Sto → Option (D × Sto)) : Prop := ∀ (w : Wd) (ρ : En) (S : Sto) (σ : L2.St) (H : Hp) (x y : V) (dx dy d : D) (S' : Sto) (Q : VK), Sat G w ρ S σ H → Den w S.length x dx → Den w S.length y dy → f dx dy S = some (d, S') →
  (∀ w' v H', Sat G w' ρ S' σ H' → Ext w S H w' S' H' → Den w' S'.length v d → Q v H') → r x y H Q
theorem ev_2s {r : R2} {f : D → D → Sto → Option (D × Sto)} {xa xb : TE} (hr : R2New G r f) (ha : Ev G xa ta) (hb : Ev G xb tb) : Ev G (tOp r xa xb) (e2s f ta tb) := fun ρ S d S' e w σ H s Q q => by
  unfold e2s at e
  split at e
  · rename_i x S1 h1
    split at e
    · rename_i y S2 h2
      refine ha ρ S x S1 h1 w σ H s _ fun w1 v H1 s1 x1 d1 => hb ρ S1 y _ h2 w1 σ H1 s1 _ fun w2 u H2 s2 x2 d2 => ?_
      exact hr w2 ρ S2 σ H2 v u x y d S' Q s2 (d1.ext x2) d2 e fun w3 z H3 s3 x3 d3 => q w3 z H3 s3 ((x1.trans x2).trans x3) d3
    · cases e
  · cases e
/-- a call by values -/
def RCNew (G : Gc) (r : List V → Hp → VK → Prop) (f : List D → Sto → Option (D × Sto)) : Prop := ∀ (w : Wd) (ρ : En) (S : Sto) (σ : L2.St) (H : Hp) (xs : List V) (ds : List D) (d : D) (S' : Sto) (Q : VK), Sat G w ρ S σ H → DenL w S.length xs ds → f ds S = some (d, S') →
  (∀ w' v H', Sat G w' ρ S' σ H' → Ext w S H w' S' H' → Den w' S'.length v d → Q v H') → r xs H Q
theorem ev_cb {r : List V → Hp → VK → Prop} {f : List D → Sto → Option (D × Sto)} {xa : TA} (hr : RCNew G r f) (ha : EvA G xa ra) : Ev G (tCB r xa) (eA f ra) := fun ρ S d S' e w σ H s Q q => by
  unfold eA at e
  split at e
  · rename_i xs S1 h1
    exact ha ρ S xs S1 h1 w σ H s _ fun w1 vs H1 s1 x1 d1 => hr w1 ρ S1 σ H1 vs xs d S' Q s1 d1 e fun w2 z H2 s2 x2 d2 => q w2 z H2 s2 (x1.trans x2) d2
  · cases e
theorem da_nil : DA X G [] aNil := ⟨_, pa_nil, fun ρ S ds S' e w σ H s Q q => by cases e; exact q w [] H s (Ext.refl ..) .nil⟩
theorem da_cons (h : DE X G e ta) (h2 : DA X G es ra) (hs : starEach (e :: es) X.env = (false, eval e X.env) :: starEach es X.env := by rfl) : DA X G (e :: es) (aCons ta ra) :=
  let ⟨_, pa, ea⟩ := h; let ⟨_, pb, eb⟩ := h2
  ⟨_, pa_cons pa pb hs, fun ρ S ds S' e w σ H s Q q => by
    unfold aCons at e
    split at e
    · rename_i x S1 h1
      split at e
      · rename_i xs S2 h2
        cases e
        exact ea ρ S x S1 h1 w σ H s _ fun w1 v H1 s1 x1 d1 => eb ρ S1 xs _ h2 w1 σ H1 s1 _ fun w2 vs H2 s2 x2 d2 => q w2 _ H2 s2 (x1.trans x2) (.cons (d1.ext x2) d2)
      · cases e
    · cases e⟩
/-! ### displays -/
@[simp] def fTup : List D → Sto → Option (D × Sto) := fun ds S => if ds.length ≤ 1000000 then some (.tup ds, S) else none
@[simp] def fLst : List D → Sto → Option (D × Sto) := fun ds S => if ds.length ≤ 1000000 then some (.lst ds, S) else none
/-- a list that may change -/
@[simp] def fObj : List D → Sto → Option (D × Sto) := fun ds S => if ds.length ≤ 1000000 then some (.obj S.length, S ++ [.lst ds]) else none
theorem new_tup {w : Wd} {ρ : En} {S S' : Sto} {σ : L2.St} {H : Hp} {xs : List V} {ds : List D} {d : D} {Q : VK} (s : Sat G w ρ S σ H) (hd : DenL w S.length xs ds) (e : fTup ds S = some (d, S'))
    (q : ∀ w' v H', Sat G w' ρ S' σ H' → Ext w S H w' S' H' → Den w' S'.length v d → Q v H') : xs.length ≤ sizeLine ∧ ∀ p, H p = none → Q (.ref p) (upd H p (.tup xs)) := by
  unfold fTup at e
  split at e
  · rename_i hl
    cases e
    refine ⟨by rw [hd.len]; exact le_line hl, fun p hp => ?_⟩
    obtain ⟨s1, x1⟩ := s.newF (o := .tup xs) hp (.inl ⟨xs, rfl⟩)
    exact q _ _ _ s1 x1 (den_newT hd (s.core.fresh hp))
  · cases e
theorem new_lst {w : Wd} {ρ : En} {S S' : Sto} {σ : L2.St} {H : Hp} {xs : List V} {ds : List D} {d : D} {Q : VK} (s : Sat G w ρ S σ H) (hd : DenL w S.length xs ds) (e : fLst ds S = some (d, S'))
    (q : ∀ w' v H', Sat G w' ρ S' σ H' → Ext w S H w' S' H' → Den w' S'.length v d → Q v H') : xs.length ≤ sizeLine ∧ ∀ p, H p = none → Q (.ref p) (upd H p (.lst xs)) := by
  unfold fLst at e
  split at e
  · rename_i hl
    cases e
    refine ⟨by rw [hd.len]; exact le_line hl, fun p hp => ?_⟩
    obtain ⟨s1, x1⟩ := s.newF (o := .lst xs) hp (.inr ⟨xs, rfl⟩)
    exact q _ _ _ s1 x1 (den_newL hd (s.core.fresh hp))
  · cases e
theorem den_newO {w : Wd} {S : Sto} {p : Addr} {ds : List D} : Den { w with al := fun k => if k = S.length then p else w.al k } (S ++ [Cell.lst ds]).length (.ref p) (.obj S.length) := by
  have h : Den { w with al := fun k => if k = S.length then p else w.al k } (S ++ [Cell.lst ds]).length (.ref (({ w with al := fun k => if k = S.length then p else w.al k } : Wd).al S.length)) (.obj S.length) := .obj (by simp)
  have e : ({ w with al := fun k => if k = S.length then p else w.al k } : Wd).al S.length = p := if_pos rfl
  rw [e] at h
  exact h
theorem new_obj {w : Wd} {ρ : En} {S S' : Sto} {σ : L2.St} {H : Hp} {xs : List V} {ds : List D} {d : D} {Q : VK} (s : Sat G w ρ S σ H) (hd : DenL w S.length xs ds) (e : fObj ds S = some (d, S'))
    (q : ∀ w' v H', Sat G w' ρ S' σ H' → Ext w S H w' S' H' → Den w' S'.length v d → Q v H') : xs.length ≤ sizeLine ∧ ∀ p, H p = none → Q (.ref p) (upd H p (.lst xs)) := by
  unfold fObj at e
  split at e
  · rename_i hl
    cases e
    refine ⟨by rw [hd.len]; exact le_line hl, fun p hp => ?_⟩
    obtain ⟨c1, x1⟩ := s.core.newO hp hd
    exact q _ _ _ (s.ofCore c1 x1) x1 den_newO
  · cases e
theorem ev_disp {mk : List V → HO} {f : List D → Sto → Option (D × Sto)} {xa : TA} (hn : ∀ {w : Wd} {ρ : En} {S S' : Sto} {σ : L2.St} {H : Hp} {xs : List V} {ds : List D} {d : D} {Q : VK}, Sat G w ρ S σ H → DenL w S.length xs ds → f ds S = some (d, S') →
      (∀ w' v H', Sat G w' ρ S' σ H' → Ext w S H w' S' H' → Den w' S'.length v d → Q v H') → xs.length ≤ sizeLine ∧ ∀ p, H p = none → Q (.ref p) (upd H p (mk xs))) (ha : EvA G xa ra) :
    Ev G (fun σ H Q => xa σ H fun xs H1 => xs.length ≤ sizeLine ∧ ∀ p, H1 p = none → Q (.ref p) (upd H1 p (mk xs))) (eA f ra) := fun ρ S d S' e w σ H s Q q => by
  unfold eA at e
  split at e
  · rename_i xs S1 h1
    exact ha ρ S xs S1 h1 w σ H s _ fun w1 vs H1 s1 x1 d1 => hn s1 d1 e fun w2 z H2 s2 x2 d2 => q w2 z H2 s2 (x1.trans x2) d2
  · cases e
theorem de_tup {k0 : Nat} (h : DA X G es ra) : DE X G (.Tuple es k0 pos) (eA fTup ra) := let ⟨_, pa, ea⟩ := h; ⟨_, pe_tup pa, ev_disp (fun s hd e q => new_tup s hd e q) ea⟩
theorem de_lst (h : DA X G es ra) : DE X G (.List es pos) (eA fLst ra) := let ⟨_, pa, ea⟩ := h; ⟨_, pe_lst pa, ev_disp (fun s hd e q => new_lst s hd e q) ea⟩
theorem de_lstO (h : DA X G es ra) : DE X G (.List es pos) (eA fObj ra) := let ⟨_, pa, ea⟩ := h; ⟨_, pe_lst pa, ev_disp (fun s hd e q => new_obj s hd e q) ea⟩

/-! ### items, lengths, kinds -/
/-- the items of a sequence -/
@[simp] def seqD (d : D) (S : Sto) : Option (List D) := match d with
  | .tup xs => some xs
  | .lst xs => some xs
  | .scr xs => some xs
  | .obj k => match S[k]? with | some (.lst xs) => some xs | _ => none
  | _ => none
theorem seq_ok {K : PySem.W.Frag} {w : Wd} {S : Sto} {H : Hp} (c : Core G w S H) {v : V} {d : D} {xs : List D} (h : Den w S.length v d) (e : seqD d S = some xs) : ∃ p vs, v = .ref p ∧ (SqL K H p vs ∨ SqT K H p vs) ∧ DenL w S.length vs xs := by
  cases h with
  | non => simp [seqD] at e
  | bl b => simp [seqD] at e
  | int b => simp [seqD] at e
  | str x => simp [seqD] at e
  | tup r l => simp only [seqD] at e; cases e; exact ⟨_, _, rfl, .inr (.inl (.inl (c.sub _ _ r))), l⟩
  | lst r l => simp only [seqD] at e; cases e; exact ⟨_, _, rfl, .inl (.inl (.inl (c.sub _ _ r))), l⟩
  | scr r l => simp only [seqD] at e; cases e; exact ⟨_, _, rfl, .inl (.inl (rd_sub c.sub r)), l⟩
  | obj hk =>
    simp only [seqD] at e
    split at e
    · rename_i ys hx
      cases e
      obtain ⟨_, _, vs, hv, l⟩ := c.cel _ _ hx
      exact ⟨_, _, rfl, .inl (.inl (.inl hv)), l⟩
    · cases e
theorem DenL.at {w : Wd} {n : Nat} {vs : List V} {ds : List D} {i : Int} {d : D} (h : DenL w n vs ds) (e : atI ds i = some d) : ∃ v, atI vs i = some v ∧ Den w n v d := by
  unfold atI at e ⊢
  rw [h.len]
  cases q : ixN ds.length i with
  | none => rw [q] at e; cases e
  | some j =>
    rw [q] at e
    exact h.get e
@[simp] def fIx : D → D → Sto → Option D := fun x y S => match y with
  | .int i => (match seqD x S with | some xs => atI xs i | none => none)
  | _ => none
theorem de_ix (ha : DE X G a ta) (hb : DE X G b tb) (hs : PlainIx b := by intro _ _; rfl) : DE X G (.Subscript a b pos) (e2 fIx ta tb) :=
  let ⟨_, pa, ea⟩ := ha; let ⟨_, pb, eb⟩ := hb
  ⟨_, pe_ix ix_seq pa pb hs, ev_2 (fun w S H x y dx dy d Q c hx hy e q => by
    unfold fIx at e
    split at e
    · rename_i i
      split at e
      · rename_i xs h1
        obtain ⟨p, vs, rfl, hq, l⟩ := seq_ok (K := X.K) c hx h1
        obtain ⟨v, hv, dv⟩ := l.at e
        rcases hq with hq | hq
        · exact .inl ⟨p, vs, i, v, rfl, den_int hy, hq, hv, q v dv⟩
        · exact .inr (.inl ⟨p, vs, i, v, rfl, den_int hy, hq, hv, q v dv⟩)
      · cases e
    · cases e) ea eb⟩
@[simp] def fLen : List D → Sto → Option (D × Sto) := fun ds S => match ds with
  | [d] => (match d with
    | .str x => if x.length ≤ sizeLine then some (.int x.length, S) else none
    | d => (match seqD d S with | some xs => some (.int xs.length, S) | none => none))
  | _ => none
theorem r_len : RCNew G (fun xs H Q => ∃ x n, xs = [x] ∧ LenV X.K x H n ∧ Q (.int n) H) fLen := fun w ρ S σ H xs ds d S' Q s hd e q => by
  unfold fLen at e
  split at e
  · rename_i dd
    obtain ⟨v, rfl, hv⟩ : ∃ v, xs = [v] ∧ Den w S.length v dd := by
      cases hd with
      | cons h t => cases t; exact ⟨_, rfl, h⟩
    split at e
    · rename_i x
      split at e
      · rename_i hx
        cases e
        cases den_str hv
        exact ⟨_, _, rfl, ⟨hx, rfl⟩, q w _ H s (Ext.refl ..) (.int _)⟩
      · cases e
    · split at e
      · rename_i ys h1
        cases e
        obtain ⟨p, vs, rfl, hq, l⟩ := seq_ok (K := X.K) s.core hv h1
        refine ⟨_, ys.length, rfl, ?_, q w _ H s (Ext.refl ..) (.int _)⟩
        rcases hq with hq | hq
        · exact .inl ⟨_, hq, l.len.symm⟩
        · exact .inr ⟨_, hq, l.len.symm⟩
      · cases e
  · cases e
theorem de_len {p : Pos} (hm : X.mg "len" = none) (ha : DE X G a ta) (hg : Gl X "len" := by rfl) (hs : starEach [a] X.env = (false, eval a X.env) :: starEach [] X.env := by rfl) (hpl : (backTo pos (starEach [] X.env)).any (·.1) = false := by rfl) :
    DE X G (.Call (.Name "len" p) [a] [] pos) (eA fLen (aCons ta aNil)) :=
  let ⟨_, pa, ea⟩ := da_cons ha da_nil hs
  ⟨_, pe_callB call_len hg hm PySem.boot_len pa (by decide) (by decide) hs hpl, ev_cb r_len ea⟩
/-- the kind of a value -/
@[simp] def kindD (d : D) (S : Sto) : Option String := match d with
  | .non => some "NoneType" | .bl _ => some "bool" | .int _ => some "int" | .str _ => some "str" | .tup _ => some "tuple" | .lst _ => some "list" | .scr _ => some "list"
  | .obj k => match S[k]? with | some (.lst _) => some "list" | _ => none
@[simp] def fIsi (T : String) : D → Sto → Option D := fun d S => match kindD d S with
  | some k => (match kitB k T with | some b => some (.bl b) | none => none)
  | none => none
theorem kind_ok {K : PySem.W.Frag} {w : Wd} {S : Sto} {H : Hp} (c : Core G w S H) {v : V} {d : D} {k : String} (h : Den w S.length v d) (e : kindD d S = some k) : TyX K H v (.type k) := by
  cases h with
  | non => simp only [kindD] at e; cases e; exact .base .non
  | bl b => simp only [kindD] at e; cases e; exact .base (.bl b)
  | int b => simp only [kindD] at e; cases e; exact .base (.int b)
  | str x => simp only [kindD] at e; cases e; exact .base (.str x)
  | tup r l => simp only [kindD] at e; cases e; exact .base (.tup (c.sub _ _ r))
  | lst r l => simp only [kindD] at e; cases e; exact .base (.lst (c.sub _ _ r))
  | scr r l =>
    simp only [kindD] at e; cases e
    rcases r with r | ⟨o, r⟩
    · exact .base (.lst (c.sub _ _ r))
    · exact .base (.frz (c.sub _ _ r))
  | obj hk =>
    simp only [kindD] at e
    split at e
    · rename_i ys hx
      cases e
      obtain ⟨_, _, vs, hv, l⟩ := c.cel _ _ hx
      exact .base (.lst hv)
    · cases e
theorem boot_isinstance : bootBuiltins "isinstance" = some (.builtin "isinstance") := by decide +kernel
theorem de_isi {T : String} {x : Str} {p p2 : Pos} (hm : X.mg "isinstance" = none) (ha : DE X G a ta) (hx : X.mg x = none) (hv : bootBuiltins x = some (.type T)) (hgx : Gl X x := by rfl) (hg : Gl X "isinstance" := by rfl) (hn : x ≠ "__name__" := by decide) (hdb : (x == ("__debug__" : Str)) = false := by decide)
    (hs : starEach [a, .Name x p2] X.env = (false, eval a X.env) :: starEach [.Name x p2] X.env := by rfl) (hs2 : starEach [.Name x p2] X.env = (false, eval (.Name x p2) X.env) :: starEach [] X.env := by rfl) (hpl : (backTo pos (starEach [.Name x p2] X.env)).any (·.1) = false := by rfl) :
    DE X G (.Call (.Name "isinstance" p) [a, .Name x p2] [] pos) (e1 (fIsi T) ta) :=
  let ⟨_, pa, ea⟩ := ha
  ⟨_, pe_callB call_isi hg hm boot_isinstance (pa_cons pa (pa_cons (pe_bltn (v := .ty T) hgx hx hv rfl hn hdb) pa_nil hs2) hs) (by decide) (by decide) hs hpl, fun ρ S d S' e w σ H s Q q => by
    unfold e1 at e
    split at e
    · rename_i y S1 h1
      split at e
      · rename_i z h2
        cases e
        refine ea ρ S y _ h1 w σ H s _ fun w1 v H1 s1 x1 d1 => ?_
        unfold fIsi at h2
        split at h2
        · rename_i k hk
          split at h2
          · rename_i b hb
            cases h2
            exact ⟨v, .ty T, .type k, .type T, b, rfl, .ty T, kind_ok s1.core d1 hk, kit_ty hb, q w1 _ H1 s1 x1 (.bl b)⟩
          · cases h2
        · cases h2
      · cases e
    · cases e⟩
theorem kb_ii : kitB "int" "int" = some true := by decide +kernel
/-! ### abs, max, min, int -/
@[simp] def fAbs : List D → Sto → Option (D × Sto) := fun ds S => match ds with | [.int i] => some (.int (if i < 0 then -i else i), S) | _ => none
@[simp] def fMax2 : List D → Sto → Option (D × Sto) := fun ds S => match ds with | [.int i, .int j] => some (.int (if j > i then j else i), S) | _ => none
@[simp] def fMin2 : List D → Sto → Option (D × Sto) := fun ds S => match ds with | [.int i, .int j] => some (.int (if j < i then j else i), S) | _ => none
@[simp] def fInt1 : List D → Sto → Option (D × Sto) := fun ds S => match ds with | [.int i] => some (.int i, S) | [.bl b] => some (.int (if b then 1 else 0), S) | _ => none
theorem denL1 {w : Wd} {n : Nat} {xs : List V} {d : D} (h : DenL w n xs [d]) : ∃ v, xs = [v] ∧ Den w n v d := by
  cases h with
  | cons h t => cases t; exact ⟨_, rfl, h⟩
theorem denL2 {w : Wd} {n : Nat} {xs : List V} {d d2 : D} (h : DenL w n xs [d, d2]) : ∃ v u, xs = [v, u] ∧ Den w n v d ∧ Den w n u d2 := by
  cases h with
  | cons h t =>
    obtain ⟨u, rfl, h2⟩ := denL1 t
    exact ⟨_, _, rfl, h, h2⟩
theorem de_abs {p : Pos} (hm : X.mg "abs" = none) (ha : DE X G a ta) (hg : Gl X "abs" := by rfl) (hs : starEach [a] X.env = (false, eval a X.env) :: starEach [] X.env := by rfl) (hpl : (backTo pos (starEach [] X.env)).any (·.1) = false := by rfl) :
    DE X G (.Call (.Name "abs" p) [a] [] pos) (eA fAbs (aCons ta aNil)) :=
  let ⟨_, pa, ea⟩ := da_cons ha da_nil hs
  ⟨_, pe_callB call_abs hg hm (by decide +kernel) pa (by decide) (by decide) hs hpl, ev_cb (fun w ρ S σ H xs ds d S' Q s hd e q => by
    unfold fAbs at e
    split at e <;> cases e
    obtain ⟨v, rfl, hv⟩ := denL1 hd
    cases den_int hv
    exact ⟨_, rfl, q w _ H s (Ext.refl ..) (.int _)⟩) ea⟩
theorem de_max2 {p : Pos} (hc : X.calm = true) (hm : X.mg "max" = none) (ha : DE X G a ta) (hb : DE X G b tb) (hg : Gl X "max" := by rfl) (hs : starEach [a, b] X.env = (false, eval a X.env) :: starEach [b] X.env := by rfl) (hs2 : starEach [b] X.env = (false, eval b X.env) :: starEach [] X.env := by rfl) (hpl : (backTo pos (starEach [b] X.env)).any (·.1) = false := by rfl) :
    DE X G (.Call (.Name "max" p) [a, b] [] pos) (eA fMax2 (aCons ta (aCons tb aNil))) :=
  let ⟨_, pa, ea⟩ := da_cons ha (da_cons hb da_nil hs2) hs
  ⟨_, pe_callB (call_max2 hc) hg hm (by decide +kernel) pa (by decide) (by decide) hs hpl, ev_cb (fun w ρ S σ H xs ds d S' Q s hd e q => by
    unfold fMax2 at e
    split at e <;> cases e
    obtain ⟨v, u, rfl, hv, hu⟩ := denL2 hd
    cases den_int hv; cases den_int hu
    exact ⟨_, _, rfl, q w _ H s (Ext.refl ..) (.int _)⟩) ea⟩
theorem de_min2 {p : Pos} (hc : X.calm = true) (hm : X.mg "min" = none) (ha : DE X G a ta) (hb : DE X G b tb) (hg : Gl X "min" := by rfl) (hs : starEach [a, b] X.env = (false, eval a X.env) :: starEach [b] X.env := by rfl) (hs2 : starEach [b] X.env = (false, eval b X.env) :: starEach [] X.env := by rfl) (hpl : (backTo pos (starEach [b] X.env)).any (·.1) = false := by rfl) :
    DE X G (.Call (.Name "min" p) [a, b] [] pos) (eA fMin2 (aCons ta (aCons tb aNil))) :=
  let ⟨_, pa, ea⟩ := da_cons ha (da_cons hb da_nil hs2) hs
  ⟨_, pe_callB (call_min2 hc) hg hm (by decide +kernel) pa (by decide) (by decide) hs hpl, ev_cb (fun w ρ S σ H xs ds d S' Q s hd e q => by
    unfold fMin2 at e
    split at e <;> cases e
    obtain ⟨v, u, rfl, hv, hu⟩ := denL2 hd
    cases den_int hv; cases den_int hu
    exact ⟨_, _, rfl, q w _ H s (Ext.refl ..) (.int _)⟩) ea⟩
theorem de_int1 {p : Pos} (hm : X.mg "int" = none) (ha : DE X G a ta) (hg : Gl X "int" := by rfl) (hs : starEach [a] X.env = (false, eval a X.env) :: starEach [] X.env := by rfl) (hpl : (backTo pos (starEach [] X.env)).any (·.1) = false := by rfl) :
    DE X G (.Call (.Name "int" p) [a] [] pos) (eA fInt1 (aCons ta aNil)) :=
  let ⟨_, pa, ea⟩ := da_cons ha da_nil hs
  ⟨_, pe_callTy call_int1 hg hm (by decide +kernel) pa (by decide) (by decide) hs hpl, ev_cb (fun w ρ S σ H xs ds d S' Q s hd e q => by
    unfold fInt1 at e
    split at e
    · cases e
      obtain ⟨v, rfl, hv⟩ := denL1 hd
      cases den_int hv
      exact .inl ⟨_, rfl, q w _ H s (Ext.refl ..) (.int _)⟩
    · cases e
      obtain ⟨v, rfl, hv⟩ := denL1 hd
      cases den_bl hv
      exact .inr ⟨_, rfl, q w _ H s (Ext.refl ..) (.int _)⟩
    · cases e) ea⟩
/-! ### list(..), tuple(..) of a sequence; + and * of sequences -/
@[simp] def fListF : List D → Sto → Option (D × Sto) := fun ds S => match ds with | [d] => (match seqD d S with | some xs => some (.lst xs, S) | none => none) | _ => none
@[simp] def fListO : List D → Sto → Option (D × Sto) := fun ds S => match ds with | [d] => (match seqD d S with | some xs => some (.obj S.length, S ++ [.lst xs]) | none => none) | _ => none
@[simp] def fTupOf : List D → Sto → Option (D × Sto) := fun ds S => match ds with | [d] => (match seqD d S with | some xs => some (.tup xs, S) | none => none) | _ => none
theorem r_listF : RCNew G (fun xs H Q => ∃ p ys, xs = [.ref p] ∧ (SqL X.K H p ys ∨ SqT X.K H p ys) ∧ ∀ l, H l = none → Q (.ref l) (upd H l (.lst ys))) fListF := fun w ρ S σ H xs ds d S' Q s hd e q => by
  unfold fListF at e
  split at e
  · split at e
    · rename_i ys h1
      cases e
      obtain ⟨v, rfl, hv⟩ := denL1 hd
      obtain ⟨p, vs, rfl, hq, l⟩ := seq_ok (K := X.K) s.core hv h1
      refine ⟨p, vs, rfl, hq, fun a ha => ?_⟩
      obtain ⟨s1, x1⟩ := s.newF (o := .lst vs) ha (.inr ⟨vs, rfl⟩)
      exact q _ _ _ s1 x1 (den_newL l (s.core.fresh ha))
    · cases e
  · cases e
theorem r_listO : RCNew G (fun xs H Q => ∃ p ys, xs = [.ref p] ∧ (SqL X.K H p ys ∨ SqT X.K H p ys) ∧ ∀ l, H l = none → Q (.ref l) (upd H l (.lst ys))) fListO := fun w ρ S σ H xs ds d S' Q s hd e q => by
  unfold fListO at e
  split at e
  · split at e
    · rename_i ys h1
      cases e
      obtain ⟨v, rfl, hv⟩ := denL1 hd
      obtain ⟨p, vs, rfl, hq, l⟩ := seq_ok (K := X.K) s.core hv h1
      refine ⟨p, vs, rfl, hq, fun a ha => ?_⟩
      obtain ⟨c1, x1⟩ := s.core.newO ha l
      exact q _ _ _ (s.ofCore c1 x1) x1 den_newO
    · cases e
  · cases e
theorem seq_ok' {K : PySem.W.Frag} {w : Wd} {S : Sto} {H : Hp} (c : Core G w S H) {v : V} {d : D} {xs : List D} (h : Den w S.length v d) (e : seqD d S = some xs) : ∃ p vs, v = .ref p ∧ DenL w S.length vs xs ∧ (SqL K H p vs ∨ (SqT K H p vs ∧ w.fr p = some (.tup vs))) := by
  cases h with
  | non => simp [seqD] at e
  | bl b => simp [seqD] at e
  | int b => simp [seqD] at e
  | str x => simp [seqD] at e
  | tup r l => simp only [seqD] at e; cases e; exact ⟨_, _, rfl, l, .inr ⟨.inl (.inl (c.sub _ _ r)), r⟩⟩
  | lst r l => simp only [seqD] at e; cases e; exact ⟨_, _, rfl, l, .inl (.inl (.inl (c.sub _ _ r)))⟩
  | scr r l => simp only [seqD] at e; cases e; exact ⟨_, _, rfl, l, .inl (.inl (rd_sub c.sub r))⟩
  | obj hk =>
    simp only [seqD] at e
    split at e
    · rename_i ys hx
      cases e
      obtain ⟨_, _, vs, hv, l⟩ := c.cel _ _ hx
      exact ⟨_, _, rfl, l, .inl (.inl (.inl hv))⟩
    · cases e
theorem r_tupOf : RCNew G (fun xs H Q => ∃ p ys, xs = [.ref p] ∧ ((SqL X.K H p ys ∧ ∀ l, H l = none → Q (.ref l) (upd H l (.tup ys))) ∨ (SqT X.K H p ys ∧ Q (.ref p) H))) fTupOf := fun w ρ S σ H xs ds d S' Q s hd e q => by
  unfold fTupOf at e
  split at e
  · split at e
    · rename_i ys h1
      cases e
      obtain ⟨v, rfl, hv⟩ := denL1 hd
      obtain ⟨p, vs, rfl, l, hq⟩ := seq_ok' (K := X.K) s.core hv h1
      rcases hq with hq | ⟨hq, hf⟩
      · refine ⟨p, vs, rfl, .inl ⟨hq, fun a ha => ?_⟩⟩
        obtain ⟨s1, x1⟩ := s.newF (o := .tup vs) ha (.inl ⟨vs, rfl⟩)
        exact q _ _ _ s1 x1 (den_newT l (s.core.fresh ha))
      · exact ⟨p, vs, rfl, .inr ⟨hq, q w _ H s (Ext.refl ..) (.tup hf l)⟩⟩
    · cases e
  · cases e
theorem de_listF {p : Pos} (hm : X.mg "list" = none) (ha : DE X G a ta) (hg : Gl X "list" := by rfl) (hs : starEach [a] X.env = (false, eval a X.env) :: starEach [] X.env := by rfl) (hpl : (backTo pos (starEach [] X.env)).any (·.1) = false := by rfl) :
    DE X G (.Call (.Name "list" p) [a] [] pos) (eA fListF (aCons ta aNil)) :=
  let ⟨_, pa, ea⟩ := da_cons ha da_nil hs
  ⟨_, pe_callTy call_list_of hg hm (by decide +kernel) pa (by decide) (by decide) hs hpl, ev_cb r_listF ea⟩
theorem de_listO {p : Pos} (hm : X.mg "list" = none) (ha : DE X G a ta) (hg : Gl X "list" := by rfl) (hs : starEach [a] X.env = (false, eval a X.env) :: starEach [] X.env := by rfl) (hpl : (backTo pos (starEach [] X.env)).any (·.1) = false := by rfl) :
    DE X G (.Call (.Name "list" p) [a] [] pos) (eA fListO (aCons ta aNil)) :=
  let ⟨_, pa, ea⟩ := da_cons ha da_nil hs
  ⟨_, pe_callTy call_list_of hg hm (by decide +kernel) pa (by decide) (by decide) hs hpl, ev_cb r_listO ea⟩
theorem de_tupOf {p : Pos} (hm : X.mg "tuple" = none) (ha : DE X G a ta) (hg : Gl X "tuple" := by rfl) (hs : starEach [a] X.env = (false, eval a X.env) :: starEach [] X.env := by rfl) (hpl : (backTo pos (starEach [] X.env)).any (·.1) = false := by rfl) :
    DE X G (.Call (.Name "tuple" p) [a] [] pos) (eA fTupOf (aCons ta aNil)) :=
  let ⟨_, pa, ea⟩ := da_cons ha da_nil hs
  ⟨_, pe_callTy call_tuple_of hg hm (by decide +kernel) pa (by decide) (by decide) hs hpl, ev_cb r_tupOf ea⟩
@[simp] def fCatT : D → D → Sto → Option (D × Sto) := fun x y S => match x, y with | .tup xs, .tup ys => if xs.length + ys.length ≤ 1000000 then some (.tup (xs ++ ys), S) else none | _, _ => none
theorem den_tup {w : Wd} {n : Nat} {v : V} {ds : List D} (h : Den w n v (.tup ds)) : ∃ p vs, v = .ref p ∧ w.fr p = some (.tup vs) ∧ DenL w n vs ds := by
  cases h with
  | tup r l => exact ⟨_, _, rfl, r, l⟩
theorem den_lst {w : Wd} {n : Nat} {v : V} {ds : List D} (h : Den w n v (.lst ds)) : ∃ p vs, v = .ref p ∧ w.fr p = some (.lst vs) ∧ DenL w n vs ds := by
  cases h with
  | lst r l => exact ⟨_, _, rfl, r, l⟩
theorem DenL.nil_iff {w : Wd} {n : Nat} {vs : List V} {ds : List D} (h : DenL w n vs ds) : vs = [] ↔ ds = [] := by
  cases h <;> simp
theorem de_catT (ha : DE X G a ta) (hb : DE X G b tb) : DE X G (.BinOp a .Add b pos) (e2s fCatT ta tb) :=
  let ⟨_, pa, ea⟩ := ha; let ⟨_, pb, eb⟩ := hb
  ⟨_, pe_op op_catA pa pb, ev_2s (fun w ρ S σ H x y dx dy d S' Q s hx hy e q => by
    unfold fCatT at e
    split at e
    · rename_i xs ys
      split at e
      · rename_i hl
        cases e
        obtain ⟨p, vs, rfl, hp, l⟩ := den_tup hx
        obtain ⟨p', us, rfl, hp', l'⟩ := den_tup hy
        refine ⟨p, p', vs, us, rfl, rfl, .inl (.inl (s.core.sub _ _ hp)), .inl (.inl (s.core.sub _ _ hp')), by rw [l.len, l'.len]; exact le_line hl, fun h => ?_, fun h h' => ?_, fun h h' r hr => ?_⟩
        · have : xs = [] := l.nil_iff.mp h
          exact q w _ H s (Ext.refl ..) (by rw [this, List.nil_append]; exact .tup hp' l')
        · have : ys = [] := l'.nil_iff.mp h'
          exact q w _ H s (Ext.refl ..) (by rw [this, List.append_nil]; exact .tup hp l)
        · obtain ⟨s1, x1⟩ := s.newF (o := .tup (vs ++ us)) hr (.inl ⟨_, rfl⟩)
          exact q _ _ _ s1 x1 (den_newT (l.app l') (s.core.fresh hr))
      · cases e
    · cases e) ea eb⟩
/-- a list that stands in the heap by itself -/
@[simp] def lstD (d : D) (S : Sto) : Option (List D) := match d with
  | .lst xs => some xs
  | .obj k => match S[k]? with | some (.lst xs) => some xs | _ => none
  | _ => none
theorem lst_ok {w : Wd} {S : Sto} {H : Hp} (c : Core G w S H) {v : V} {d : D} {xs : List D} (h : Den w S.length v d) (e : lstD d S = some xs) : ∃ p vs, v = .ref p ∧ H p = some (.lst vs) ∧ DenL w S.length vs xs := by
  cases h with
  | non => simp [lstD] at e
  | bl b => simp [lstD] at e
  | int b => simp [lstD] at e
  | str x => simp [lstD] at e
  | tup r l => simp [lstD] at e
  | lst r l => simp only [lstD] at e; cases e; exact ⟨_, _, rfl, c.sub _ _ r, l⟩
  | scr r l => simp [lstD] at e
  | obj hk =>
    simp only [lstD] at e
    split at e
    · rename_i ys hx
      cases e
      obtain ⟨_, _, vs, hv, l⟩ := c.cel _ _ hx
      exact ⟨_, _, rfl, hv, l⟩
    · cases e
@[simp] def fCatL (mk : List D → Sto → Option (D × Sto)) : D → D → Sto → Option (D × Sto) := fun x y S => match lstD x S, lstD y S with | some xs, some ys => mk (xs ++ ys) S | _, _ => none
theorem r_catL {mk : List D → Sto → Option (D × Sto)} (hn : ∀ {w : Wd} {ρ : En} {S S' : Sto} {σ : L2.St} {H : Hp} {xs : List V} {ds : List D} {d : D} {Q : VK}, Sat G w ρ S σ H → DenL w S.length xs ds → mk ds S = some (d, S') →
      (∀ w' v H', Sat G w' ρ S' σ H' → Ext w S H w' S' H' → Den w' S'.length v d → Q v H') → xs.length ≤ sizeLine ∧ ∀ p, H p = none → Q (.ref p) (upd H p (.lst xs))) : R2New G rCat (fCatL mk) := fun w ρ S σ H x y dx dy d S' Q s hx hy e q => by
  unfold fCatL at e
  split at e
  · rename_i xs ys h1 h2
    obtain ⟨p, vs, rfl, hp, l⟩ := lst_ok s.core hx h1
    obtain ⟨p', us, rfl, hp', l'⟩ := lst_ok s.core hy h2
    obtain ⟨g1, g2⟩ := hn s (l.app l') e q
    exact ⟨p, p', vs, us, rfl, rfl, hp, hp', by rw [← List.length_append]; exact g1, g2⟩
  · cases e
theorem de_catL (ha : DE X G a ta) (hb : DE X G b tb) : DE X G (.BinOp a .Add b pos) (e2s (fCatL fLst) ta tb) :=
  let ⟨_, pa, ea⟩ := ha; let ⟨_, pb, eb⟩ := hb
  ⟨_, pe_op op_cat pa pb, ev_2s (r_catL fun s hd e q => new_lst s hd e q) ea eb⟩
theorem de_catO (ha : DE X G a ta) (hb : DE X G b tb) : DE X G (.BinOp a .Add b pos) (e2s (fCatL fObj) ta tb) :=
  let ⟨_, pa, ea⟩ := ha; let ⟨_, pb, eb⟩ := hb
  ⟨_, pe_op op_cat pa pb, ev_2s (r_catL fun s hd e q => new_obj s hd e q) ea eb⟩
@[simp] def fRepL (mk : List D → Sto → Option (D × Sto)) : D → D → Sto → Option (D × Sto) := fun x y S => match y with
  | .int k => (match lstD x S with | some xs => if -(2 ^ 63) ≤ k ∧ k < 2 ^ 63 ∧ xs.length * k.toNat ≤ 1000000 then mk (List.replicate k.toNat xs).flatten S else none | none => none)
  | _ => none
theorem r_repL {mk : List D → Sto → Option (D × Sto)} (hn : ∀ {w : Wd} {ρ : En} {S S' : Sto} {σ : L2.St} {H : Hp} {xs : List V} {ds : List D} {d : D} {Q : VK}, Sat G w ρ S σ H → DenL w S.length xs ds → mk ds S = some (d, S') →
      (∀ w' v H', Sat G w' ρ S' σ H' → Ext w S H w' S' H' → Den w' S'.length v d → Q v H') → xs.length ≤ sizeLine ∧ ∀ p, H p = none → Q (.ref p) (upd H p (.lst xs))) : R2New G rRep (fRepL mk) := fun w ρ S σ H x y dx dy d S' Q s hx hy e q => by
  unfold fRepL at e
  split at e
  · rename_i k
    split at e
    · rename_i xs h1
      split at e
      · rename_i hc
        obtain ⟨p, vs, rfl, hp, l⟩ := lst_ok s.core hx h1
        obtain ⟨g1, g2⟩ := hn s (l.rep k.toNat) e q
        exact ⟨p, k, vs, rfl, den_int hy, hp, hc.1, hc.2.1, by rw [l.len]; exact le_line hc.2.2, g2⟩
      · cases e
    · cases e
  · cases e
theorem de_repL (ha : DE X G a ta) (hb : DE X G b tb) : DE X G (.BinOp a .Mult b pos) (e2s (fRepL fLst) ta tb) :=
  let ⟨_, pa, ea⟩ := ha; let ⟨_, pb, eb⟩ := hb
  ⟨_, pe_op op_rep pa pb, ev_2s (r_repL fun s hd e q => new_lst s hd e q) ea eb⟩
theorem de_repO (ha : DE X G a ta) (hb : DE X G b tb) : DE X G (.BinOp a .Mult b pos) (e2s (fRepL fObj) ta tb) :=
  let ⟨_, pa, ea⟩ := ha; let ⟨_, pb, eb⟩ := hb
  ⟨_, pe_op op_rep pa pb, ev_2s (r_repL fun s hd e q => new_obj s hd e q) ea eb⟩
end
end DL

set_option maxRecDepth 100000
set_option maxHeartbeats 4000000
set_option pp.maxSteps 900
namespace DL
open PySem PySem.Spec PyProof.Rows L2 GX
open AutoSeq1 (wpAny_loadPart')
theorem tuple_mul1 (l : Addr) (items : Array Value) (n : Nat) (dd : Option Addr) (sl : Array (Option Value)) (u : Tok) :
    Meets (Builtin.«tuple.__mul__» ⟨[.ref l, .int 1 u], []⟩) (fun _ R s => s.heap.get? l = some { cls := .type "tuple", dict := dd, data := .seq items n, slots := sl } ∧ R (.ok (.ret (Value.ref l))) s) :=
  .of_wp fun prog w A R s h => by
    obtain ⟨hp, g, d, tk, os⟩ := s
    obtain ⟨hl, h⟩ := h
    have f1 := AutoSeq1.idx_int
    wp_walk using wpAny_loadPart' hl
    exact ⟨_, rfl, h⟩
def rRep1 (K : PySem.W.Frag) : R2 := fun x y H Q => ∃ l xs, x = .ref l ∧ y = .int 1 ∧ SqT K H l xs ∧ Q (.ref l) H
section
variable {G : Gc} {X : Cx} {pos : Pos} {a b : Expr} {ta tb : RE}
theorem op_repT1 : OpR X (binaryOp .Mult) (rRep1 X.K) := by
  intro pins s σ H x y v u Q I rx ry h
  obtain ⟨l, xs, rfl, rfl, hT, q⟩ := h
  cases rx
  obtain ⟨t, rfl⟩ := ry
  obtain ⟨its, r, ⟨⟨cls, dd, data, sl⟩, ho, hc, n, hd⟩, hs⟩ := I.tuple hT
  simp only at hc hd
  subst hc hd
  refine wpAny_binaryOp_repeat_ref (T := "tuple") (U := "int") (by decide) ⟨_, ho, rfl⟩ (fun s' => typeIs_int s' 1 t) noFill_tuple_mul F.fills_int_mul F.slot_int_rmul repeat_tuple F.slot_int_index.lookup
    (call_meets F.slot_int_rmul (typeIs_int s 1 t) F.entry_int_rmul (F.args_int_rmul_2 _ _) (int_rmul_tuple 1 t l its.toArray n dd sl)
      ⟨ho, rfl, ⟨_, ho, rfl⟩, call_meets F.slot_tuple_mul ⟨_, ho, rfl⟩ F.entry_tuple_mul (F.args_tuple_mul_2 _ _) (tuple_mul1 l its.toArray n dd sl t) ⟨ho, ?_⟩⟩)
  exact ⟨.ref l, H, I, rfl, q⟩
@[simp] def fRepT : D → D → Sto → Option (D × Sto) := fun x y S => match x, y with
  | .tup xs, .int k => if xs ≠ [] ∧ 1 ≤ k ∧ k ≤ 1000 ∧ xs.length ≤ 1000 then some (.tup (List.replicate k.toNat xs).flatten, S) else none
  | _, _ => none
theorem de_repT (ha : DE X G a ta) (hb : DE X G b tb) : DE X G (.BinOp a .Mult b pos) (e2s fRepT ta tb) :=
  let ⟨_, pa, ea⟩ := ha; let ⟨_, pb, eb⟩ := hb
  ⟨_, pe_op (r := fun x y H Q => rRep1 X.K x y H Q ∨ rRepT X.K x y H Q) (fun pins s σ H x y v u Q I r1 r2 h => h.elim (op_repT1 pins s σ H x y v u Q I r1 r2) (op_repT pins s σ H x y v u Q I r1 r2)) pa pb, ev_2s (fun w ρ S σ H x y dx dy d S' Q s hx hy e q => by
    unfold fRepT at e
    split at e
    · rename_i xs k
      split at e
      · rename_i hc
        obtain ⟨h1, h2, h3, h4⟩ := hc
        cases e
        obtain ⟨p, vs, rfl, hp, l⟩ := den_tup hx
        cases den_int hy
        by_cases hk : k = 1
        · subst hk
          refine .inl ⟨p, vs, rfl, rfl, .inl (.inl (s.core.sub _ _ hp)), q w _ H s (Ext.refl ..) ?_⟩
          have : (List.replicate (1 : Int).toNat xs).flatten = xs := by simp
          rw [this]
          exact .tup hp l
        · refine .inr ⟨p, k, vs, rfl, rfl, .inl (.inl (s.core.sub _ _ hp)), fun z => h1 (l.nil_iff.mp z), by omega, h3, by rw [l.len]; exact h4, fun r hr => ?_⟩
          obtain ⟨s1, x1⟩ := s.newF (o := .tup (List.replicate k.toNat vs).flatten) hr (.inl ⟨_, rfl⟩)
          exact q _ _ _ s1 x1 (den_newT (l.rep k.toNat) (s.core.fresh hr))
      · cases e
    · cases e) ea eb⟩
end
end DL

set_option maxRecDepth 100000
set_option maxHeartbeats 4000000
set_option pp.maxSteps 900
namespace DL
open PySem PySem.Spec PyProof.Rows L2 GX

def Post (G : Gc) (w : Wd) (S : Sto) (H : Hp) (D : Ends) : Out → Prop
  | .nx ρ' S' => ∀ w' σ' H', Sat G w' ρ' S' σ' H' → Ext w S H w' S' H' → D.nx σ' H'
  | .bk ρ' S' => ∀ w' σ' H', Sat G w' ρ' S' σ' H' → Ext w S H w' S' H' → D.bk σ' H'
  | .ct ρ' S' => ∀ w' σ' H', Sat G w' ρ' S' σ' H' → Ext w S H w' S' H' → D.ct σ' H'
  | .rt d S' => ∀ w' v H', Core G w' S' H' → Ext w S H w' S' H' → Den w' S'.length v d → D.rt v H'
def EvS (G : Gc) (ts : TS) (t : RS) : Prop := ∀ (ρ : En) (S : Sto) (o : Out), t ρ S = some o → ∀ (w : Wd) (σ : L2.St) (H : Hp), Sat G w ρ S σ H → ∀ D : Ends, Post G w S H D o → ts D σ H
def DS (X : Cx) (G : Gc) (st : Stmt) (t : RS) : Prop := ∃ ts, PS X st ts ∧ EvS G ts t
def DSs (X : Cx) (G : Gc) (sts : List Stmt) (t : RS) : Prop := ∃ ts, PSs X sts ts ∧ EvS G ts t
abbrev RG := D → En → Sto → Option (En × Sto)
def EvG (G : Gc) (g : TG) (t : RG) : Prop := ∀ (d : D) (ρ : En) (S : Sto) (ρ' : En) (S' : Sto), t d ρ S = some (ρ', S') → ∀ (w : Wd) (σ : L2.St) (H : Hp) (v : V), Sat G w ρ S σ H → Den w S.length v d → ∀ Q : L2.St → Hp → Prop,
  (∀ w' σ' H', Sat G w' ρ' S' σ' H' → Ext w S H w' S' H' → Q σ' H') → g v σ H Q
def DG (X : Cx) (G : Gc) (tg : Expr) (t : RG) : Prop := ∃ g, PG X tg g ∧ EvG G g t
abbrev RGs := List D → En → Sto → Option (En × Sto)
def EvGs (G : Gc) (g : TGs) (t : RGs) : Prop := ∀ (ds : List D) (ρ : En) (S : Sto) (ρ' : En) (S' : Sto), t ds ρ S = some (ρ', S') → ∀ (w : Wd) (σ : L2.St) (H : Hp) (vs : List V), Sat G w ρ S σ H → DenL w S.length vs ds → ∀ Q : L2.St → Hp → Prop,
  (∀ w' σ' H', Sat G w' ρ' S' σ' H' → Ext w S H w' S' H' → Q σ' H') → g vs σ H Q
def DGs (X : Cx) (G : Gc) (tgs : List Expr) (t : RGs) : Prop := ∃ g, PGs X tgs g ∧ EvGs G g t
theorem Post.ext {G : Gc} {w w1 : Wd} {S S1 : Sto} {H H1 : Hp} {D : Ends} {o : Out} (x : Ext w S H w1 S1 H1) (p : Post G w S H D o) : Post G w1 S1 H1 D o := by
  cases o with
  | nx ρ' S' => exact fun w' σ' H' s x' => p w' σ' H' s (x.trans x')
  | bk ρ' S' => exact fun w' σ' H' s x' => p w' σ' H' s (x.trans x')
  | ct ρ' S' => exact fun w' σ' H' s x' => p w' σ' H' s (x.trans x')
  | rt d S' => exact fun w' v H' s x' => p w' v H' s (x.trans x')
theorem Sat.set {G : Gc} {w : Wd} {ρ : En} {S : Sto} {σ : L2.St} {H : Hp} {v : V} {d : D} (s : Sat G w ρ S σ H) (hd : Den w S.length v d) (i : Nat) : Sat G w (ρ.set i (some d)) S (σ.set i (some v)) H := by
  refine ⟨s.core, fun j e h => ?_, by rw [List.length_set, List.length_set]; exact s.len, s.code⟩
  by_cases hj : i = j
  · subst hj
    have hl : i < ρ.length := by
      have := (List.getElem?_eq_some_iff.mp h).1
      rwa [List.length_set] at this
    rw [List.getElem?_set_self hl] at h
    cases h
    exact ⟨v, List.getElem?_set_self (by rw [← s.len]; exact hl), hd⟩
  · rw [List.getElem?_set_ne hj] at h
    obtain ⟨u, h1, h2⟩ := s.env j e h
    exact ⟨u, by rw [List.getElem?_set_ne hj]; exact h1, h2⟩

/-! ### what is computed -/
@[simp] def sPass : RS := fun ρ S => some (.nx ρ S)
@[simp] def sBreak : RS := fun ρ S => some (.bk ρ S)
@[simp] def sCont : RS := fun ρ S => some (.ct ρ S)
@[simp] def sSeq (a b : RS) : RS := fun ρ S => match a ρ S with | some (.nx ρ1 S1) => b ρ1 S1 | o => o
@[simp] def sSet (i : Nat) (e : RE) : RS := fun ρ S => match e ρ S with | some (d, S1) => some (.nx (ρ.set i (some d)) S1) | none => none
@[simp] def sExpr (e : RE) : RS := fun ρ S => match e ρ S with | some (_, S1) => some (.nx ρ S1) | none => none
@[simp] def sRet (e : RE) : RS := fun ρ S => match e ρ S with | some (d, S1) => some (.rt d S1) | none => none
@[simp] def sRetN : RS := fun _ S => some (.rt .non S)
@[simp] def sIf (c : RT) (a b : RS) : RS := fun ρ S => match c ρ S with | some (true, S1) => a ρ S1 | some (false, S1) => b ρ S1 | none => none
@[simp] def sAsg (e : RE) (g : RG) : RS := fun ρ S => match e ρ S with
  | some (d, S1) => (match g d ρ S1 with | some (ρ2, S2) => some (.nx ρ2 S2) | none => none)
  | none => none
@[simp] def sPar (i j : Nat) (a : RA) : RS := fun ρ S => match a ρ S with | some ([d, e], S1) => some (.nx ((ρ.set i (some d)).set j (some e)) S1) | _ => none
def sNever : RS := fun _ _ => none
@[simp] def gNm (i : Nat) : RG := fun d ρ S => some (ρ.set i (some d), S)
@[simp] def gsNil : RGs := fun ds ρ S => match ds with | [] => some (ρ, S) | _ => none
@[simp] def gsCons (g : RG) (r : RGs) : RGs := fun ds ρ S => match ds with
  | d :: rest => (match g d ρ S with | some (ρ1, S1) => r rest ρ1 S1 | none => none)
  | [] => none
@[simp] def gTp (n : Nat) (g : RGs) : RG := fun d ρ S => match d with | .tup ds => if ds.length = n then g ds ρ S else none | _ => none
/-- x[i] = v, a list of the store -/
@[simp] def gIx (o i : RE) : RG := fun d ρ S => match o ρ S with
  | some (.obj k, S1) => (match i ρ S1 with
    | some (.int z, S2) => (match S2[k]? with
      | some (.lst xs) => (match ixN xs.length z with | some j => some (ρ, S2.set k (.lst (xs.set j d))) | none => none)
      | _ => none)
    | _ => none)
  | _ => none
/-- loops -/
def whileL (c : RT) (b : RS) : Nat → En → Sto → Option Out
  | 0, _, _ => none
  | n + 1, ρ, S => match c ρ S with
    | some (true, S1) => (match b ρ S1 with
      | some (.nx ρ2 S2) => whileL c b n ρ2 S2
      | some (.ct ρ2 S2) => whileL c b n ρ2 S2
      | some (.bk ρ2 S2) => some (.nx ρ2 S2)
      | o => o)
    | some (false, S1) => some (.nx ρ S1)
    | none => none
@[simp] def sWhile (n : En → Sto → Nat) (c : RT) (b : RS) : RS := fun ρ S => whileL c b (n ρ S) ρ S
section
variable {G : Gc} {X : Cx} {pos : Pos} {e a b c : Expr} {es : List Expr} {te ta tb : RE} {ra : RA} {st : Stmt} {sts sts2 : List Stmt} {t u : RS} {tt : RT}
theorem ds_pass : DS X G (.Pass pos) sPass := ⟨_, ps_pass, fun ρ S o e w σ H s D p => by cases e; exact p w σ H s (Ext.refl ..)⟩
theorem ds_break : DS X G (.Break pos) sBreak := ⟨_, ps_break, fun ρ S o e w σ H s D p => by cases e; exact p w σ H s (Ext.refl ..)⟩
theorem ds_cont : DS X G (.Continue pos) sCont := ⟨_, ps_continue, fun ρ S o e w σ H s D p => by cases e; exact p w σ H s (Ext.refl ..)⟩
theorem ds_never : DS X G st sNever := ⟨_, ps_never, fun ρ S o e w σ H s D p => by cases e⟩
theorem dss_never : DSs X G sts sNever := ⟨_, pss_never, fun ρ S o e w σ H s D p => by cases e⟩
theorem dss_nil : DSs X G [] sPass := ⟨_, pss_nil, fun ρ S o e w σ H s D p => by cases e; exact p w σ H s (Ext.refl ..)⟩
theorem dss_one (h : DS X G st t) : DSs X G [st] t := let ⟨_, p, q⟩ := h; ⟨_, pss_one p, q⟩
theorem dss_cons (h : DS X G st t) (h2 : DSs X G sts u) : DSs X G (st :: sts) (sSeq t u) :=
  let ⟨_, pa, ea⟩ := h; let ⟨_, pb, eb⟩ := h2
  ⟨_, pss_cons pa pb, fun ρ S o e w σ H s D p => by
    unfold sSeq at e
    split at e
    · rename_i ρ1 S1 h1
      exact ea ρ S _ h1 w σ H s _ fun w1 σ1 H1 s1 x1 => eb ρ1 S1 o e w1 σ1 H1 s1 D (p.ext x1)
    · rename_i hno
      refine ea ρ S o e w σ H s _ ?_
      cases o with
      | nx ρ' S' => exact absurd e (hno ρ' S')
      | bk _ _ => exact p
      | ct _ _ => exact p
      | rt _ _ => exact p⟩
theorem ds_expr (h : DE X G e te) (hs : swapsWith e none pos.line X.env = pure false := by rfl) : DS X G (.Expr e pos) (sExpr te) :=
  let ⟨_, pa, ea⟩ := h
  ⟨_, ps_expr pa hs, fun ρ S o e w σ H s D p => by
    unfold sExpr at e
    split at e
    · rename_i d S1 h1
      cases e
      exact ea ρ S d S1 h1 w σ H s _ fun w1 v H1 s1 x1 _ => p w1 σ H1 s1 x1
    · cases e⟩
theorem ds_doc {x : Str} {j : Nat} {pos' : Pos} : DS X G (.Expr (.Constant (.str x) j pos) pos') sPass := ⟨_, ps_doc, fun ρ S o e w σ H s D p => by cases e; exact p w σ H s (Ext.refl ..)⟩
theorem ds_ret (h : DE X G e te) : DS X G (.Return (some e) pos) (sRet te) :=
  let ⟨_, pa, ea⟩ := h
  ⟨_, ps_ret pa, fun ρ S o e w σ H s D p => by
    unfold sRet at e
    split at e
    · rename_i d S1 h1
      cases e
      exact ea ρ S d S1 h1 w σ H s _ fun w1 v H1 s1 x1 d1 => p w1 v H1 s1.core x1 d1
    · cases e⟩
theorem ds_retN : DS X G (.Return none pos) sRetN := ⟨_, ps_retN, fun ρ S o e w σ H s D p => by cases e; exact p w _ H s.core (Ext.refl ..) .non⟩
theorem ds_if (hc : DT X G c tt) (ha : DSs X G sts t) (hb : DSs X G sts2 u) : DS X G (.If c sts sts2 pos) (sIf tt t u) :=
  let ⟨_, pc, ec⟩ := hc; let ⟨_, pa, ea⟩ := ha; let ⟨_, pb, eb⟩ := hb
  ⟨_, ps_if pc pa pb, fun ρ S o e w σ H s D p => by
    unfold sIf at e
    split at e
    · rename_i S1 h1
      exact ec ρ S _ _ h1 w σ H s _ fun w1 H1 s1 x1 => iteT (ea ρ S1 o e w1 σ H1 s1 D (p.ext x1))
    · rename_i S1 h1
      exact ec ρ S _ _ h1 w σ H s _ fun w1 H1 s1 x1 => iteF (eb ρ S1 o e w1 σ H1 s1 D (p.ext x1))
    · cases e⟩
theorem dg_name {i : Nat} {x : Str} (hN : X.N.Nodup) (hi : X.N[i]? = some x) (hx : Loc X.env.scope x) (hf : X.fn x = true ∨ X.env.scope.names.lookup x = some .local) : DG X G (.Name x pos) (gNm i) :=
  ⟨_, pg_name hN hi hx hf, fun d ρ S ρ' S' e w σ H v s hd Q q => by
    unfold gNm at e
    cases e
    exact q w _ H (s.set hd i) (Ext.refl ..)⟩
theorem dgs_nil : DGs X G [] gsNil := ⟨_, pgs_nil, fun ds ρ S ρ' S' e w σ H vs s hd Q q => by
  unfold gsNil at e
  split at e
  · cases e; cases hd; exact ⟨rfl, q w σ H s (Ext.refl ..)⟩
  · cases e⟩
theorem dgs_cons {t1 : RG} {t2 : RGs} (h : DG X G e t1) (h2 : DGs X G es t2) (hs : (assignEach (e :: es) X.env).map (·.2) = assign e X.env :: (assignEach es X.env).map (·.2) := by rfl) : DGs X G (e :: es) (gsCons t1 t2) :=
  let ⟨_, pa, ea⟩ := h; let ⟨_, pb, eb⟩ := h2
  ⟨_, pgs_cons pa pb hs, fun ds ρ S ρ' S' e w σ H vs s hd Q q => by
    unfold gsCons at e
    split at e
    · rename_i d rest
      cases hd with
      | cons hv hr =>
        split at e
        · rename_i ρ1 S1 h1
          exact ⟨_, _, rfl, ea d ρ S ρ1 S1 h1 w σ H _ s hv _ fun w1 σ1 H1 s1 x1 => eb rest ρ1 S1 ρ' S' e w1 σ1 H1 _ s1 (hr.ext x1) Q fun w2 σ2 H2 s2 x2 => q w2 σ2 H2 s2 (x1.trans x2)⟩
        · cases e
    · cases e⟩
theorem dg_tup {k n : Nat} {t1 : RGs} (hc : X.calm = true) (h : DGs X G es t1) (hn : (assignEach es X.env).length = n := by rfl) (hst : (assignEach es X.env).findIdx? (·.1) = none := by rfl) : DG X G (.Tuple es k pos) (gTp n t1) :=
  let ⟨_, pa, ea⟩ := h
  ⟨_, pg_tup hc pa hn hst, fun d ρ S ρ' S' e w σ H v s hd Q q => by
    unfold gTp at e
    split at e
    · rename_i ds
      split at e
      · rename_i hl
        obtain ⟨p, vs, rfl, hp, l⟩ := den_tup hd
        exact ⟨p, vs, rfl, .inl (.inl (s.core.sub _ _ hp)), by rw [l.len]; exact hl, ea ds ρ S ρ' S' e w σ H vs s l Q q⟩
      · cases e
    · cases e⟩
theorem dg_ix (ho : DE X G a ta) (hi : DE X G b tb)
    (hs : ∀ v, assign (.Subscript a b pos) X.env v = (do
      let ov ← holding [v] (eval a X.env)
      let iv ← holding [v, ov] (eval b X.env)
      standAt pos
      holding [v, ov, iv] (setItem ov iv v)
      release [v, ov, iv] []) := by intro _; rfl) : DG X G (.Subscript a b pos) (gIx ta tb) :=
  let ⟨_, pa, ea⟩ := ho; let ⟨_, pb, eb⟩ := hi
  ⟨_, pg_sub pa pb set_list hs, fun d ρ S ρ' S' e w σ H v s hd Q q => by
    unfold gIx at e
    split at e
    · rename_i k S1 h1
      split at e
      · rename_i z S2 h2
        split at e
        · rename_i xs h3
          split at e
          · rename_i j h4
            cases e
            refine ea ρ S _ _ h1 w σ H s _ fun w1 o H1 s1 x1 d1 => eb ρ S1 _ _ h2 w1 σ H1 s1 _ fun w2 iv H2 s2 x2 d2 => ?_
            have d1' := d1.ext x2
            obtain ⟨_, _, vs, hv, l⟩ := s2.core.cel _ _ h3
            have hdv := hd.ext (x1.trans x2)
            cases d1' with
            | obj hk =>
              refine ⟨_, vs, z, j, rfl, den_int d2, hv, by rw [l.len]; exact h4, ?_⟩
              obtain ⟨c3, x3⟩ := s2.core.setL h3 (l.set hdv j)
              exact q w2 σ _ (s2.ofCore c3 x3) ((x1.trans x2).trans x3)
          · cases e
        · cases e
      · cases e
    · cases e⟩
theorem ds_asg {tg : Expr} {g : RG} (he : DE X G e te) (hg : DG X G tg g) (hs : swapsWithSole [tg] e pos.line X.env = pure false := by rfl) (hw : swappedStores [tg] e X.env = pure none := by rfl)
    (h1 : (assignEach [tg] X.env).map (·.2) = [assign tg X.env] := by rfl) : DS X G (.Assign [tg] e pos) (sAsg te g) :=
  let ⟨_, pa, ea⟩ := he; let ⟨_, pb, eb⟩ := hg
  ⟨_, ps_asg pa pb hs hw h1, fun ρ S o e w σ H s D p => by
    unfold sAsg at e
    split at e
    · rename_i d S1 h1
      split at e
      · rename_i ρ2 S2 h2
        cases e
        exact ea ρ S d S1 h1 w σ H s _ fun w1 v H1 s1 x1 d1 => eb d ρ S1 ρ2 S2 h2 w1 σ H1 v s1 d1 _ fun w2 σ2 H2 s2 x2 => p w2 σ2 H2 s2 (x1.trans x2)
      · cases e
    · cases e⟩
theorem ds_set {i : Nat} {x : Str} {pos' : Pos} (hN : X.N.Nodup) (hi : X.N[i]? = some x) (hx : Loc X.env.scope x) (he : DE X G e te) (hs : swapsWith e (some (.Name x pos')) pos.line X.env = pure false) (hf : X.fn x = true ∨ X.env.scope.names.lookup x = some .local) :
    DS X G (.Assign [.Name x pos'] e pos) (sSet i te) :=
  let ⟨_, pa, ea⟩ := he
  ⟨_, ps_set hN hi hx pa hs hf, fun ρ S o e w σ H s D p => by
    unfold sSet at e
    split at e
    · rename_i d S1 h1
      cases e
      exact ea ρ S d S1 h1 w σ H s _ fun w1 v H1 s1 x1 d1 => p w1 _ H1 (s1.set d1 i) x1
    · cases e⟩
theorem ds_par {i j : Nat} {x y : Str} {px py pt : Pos} {kt k2 : Nat} {pt2 : Pos} (hc : X.calm = true) (hN : X.N.Nodup) (hi : X.N[i]? = some x) (hj : X.N[j]? = some y) (hij : i ≠ j)
    (hx : X.env.scope.names.lookup x = some .local) (hy : X.env.scope.names.lookup y = some .local) (ha : DA X G [a, b] ra)
    (hw : swappedStores [.Tuple [.Name x px, .Name y py] kt pt] (.Tuple [a, b] k2 pt2) X.env = pure (some [x, y]))
    (hs : swapsWithSole [.Tuple [.Name x px, .Name y py] kt pt] (.Tuple [a, b] k2 pt2) pos.line X.env = pure false := by rfl) :
    DS X G (.Assign [.Tuple [.Name x px, .Name y py] kt pt] (.Tuple [a, b] k2 pt2) pos) (sPar i j ra) :=
  let ⟨_, pa, ea⟩ := ha
  ⟨_, ps_par hc hN hi hj hij hx hy pa hw hs, fun ρ S o e w σ H s D p => by
    unfold sPar at e
    split at e
    · rename_i d d2 S1 h1
      cases e
      refine ea ρ S _ _ h1 w σ H s _ fun w1 vs H1 s1 x1 d1 => ?_
      obtain ⟨v, u, rfl, hv, hu⟩ := denL2 d1
      exact ⟨v, u, rfl, p w1 _ H1 ((s1.set hv i).set hu j) x1⟩
    · cases e⟩
theorem ds_while {n : En → Sto → Nat} (hp : PassesOwn (model X.prog X.w) X.A X.env X.xe) (hc : DT X G c tt) (hb : DSs X G sts t) : DS X G (.While c sts [] pos) (sWhile n tt t) :=
  let ⟨_, pc, ec⟩ := hc; let ⟨_, pb, eb⟩ := hb
  ⟨_, ps_while hp pc pb, fun ρ0 S0 o e w0 σ0 H0 s0 D p => by
    unfold sWhile at e
    refine ⟨fun m σ H => ∃ w ρ S, Sat G w ρ S σ H ∧ Ext w0 S0 H0 w S H ∧ whileL tt t m ρ S = some o, ⟨n ρ0 S0, w0, ρ0, S0, s0, Ext.refl .., e⟩, fun m σ H ⟨w, ρ, S, s, x, e⟩ => ?_⟩
    cases m with
    | zero => unfold whileL at e; cases e
    | succ m =>
      unfold whileL at e
      split at e
      · rename_i S1 h1
        refine ec ρ S _ _ h1 w σ H s _ fun w1 H1 s1 x1 => iteT ⟨fun σ' H' => ∃ w ρ S, Sat G w ρ S σ' H' ∧ Ext w0 S0 H0 w S H' ∧ whileL tt t m ρ S = some o, fun σ' H' ⟨w', ρ', S', q1, q2, q3⟩ => ⟨m, Nat.lt_succ_self m, w', ρ', S', q1, q2, q3⟩, ?_⟩
        split at e
        · rename_i ρ2 S2 h2
          exact eb ρ S1 _ h2 w1 σ H1 s1 _ fun w2 σ2 H2 s2 x2 => ⟨w2, ρ2, S2, s2, (x.trans x1).trans x2, e⟩
        · rename_i ρ2 S2 h2
          exact eb ρ S1 _ h2 w1 σ H1 s1 _ fun w2 σ2 H2 s2 x2 => ⟨w2, ρ2, S2, s2, (x.trans x1).trans x2, e⟩
        · rename_i ρ2 S2 h2
          cases e
          exact eb ρ S1 _ h2 w1 σ H1 s1 _ fun w2 σ2 H2 s2 x2 => p w2 σ2 H2 s2 ((x.trans x1).trans x2)
        · rename_i h2 h3 h4
          refine eb ρ S1 o e w1 σ H1 s1 _ ?_
          cases o with
          | nx ρ' S' => exact absurd e (h2 ρ' S')
          | bk ρ' S' => exact absurd e (h4 ρ' S')
          | ct ρ' S' => exact absurd e (h3 ρ' S')
          | rt d S' => exact p.ext (x.trans x1)
      · rename_i S1 h1
        cases e
        exact ec ρ S _ _ h1 w σ H s _ fun w1 H1 s1 x1 => iteF (p w1 σ H1 s1 (x.trans x1))
      · cases e⟩
end
end DL

set_option maxRecDepth 100000
set_option maxHeartbeats 4000000
set_option pp.maxSteps 900
namespace DL
open PySem PySem.Spec PyProof.Rows L2 GX
open Classical

abbrev RI := En → Sto → Option (List D × (Sto → Prop) × Sto)
/-- what is walked hands out ds -/
def JD (G : Gc) (J : It) (ds : List D) (w : Wd) (n : Nat) (chk : Sto → Prop) : Prop := ∀ (i : Nat) (w1 : Wd) (S1 : Sto) (H1 : Hp), Core G w1 S1 H1 → (∀ a o, w.fr a = some o → w1.fr a = some o) → (∀ k, k < n → w1.al k = w.al k) → n ≤ S1.length → chk S1 →
  (i = ds.length → J.stop i H1) ∧ ∀ d, ds[i]? = some d → J.go i H1 ∧ ∀ x H2, J.yld i H1 x H2 → ∃ w2, Core G w2 S1 H2 ∧ Ext w1 S1 H1 w2 S1 H2 ∧ Den w2 S1.length x d
def EvI (G : Gc) (wi : TI) (t : RI) : Prop := ∀ (ρ : En) (S : Sto) (ds : List D) (chk : Sto → Prop) (S' : Sto), t ρ S = some (ds, chk, S') → ∀ (w : Wd) (σ : L2.St) (H : Hp), Sat G w ρ S σ H → ∀ R : It → Hp → Prop,
  (∀ J w' H', Sat G w' ρ S' σ H' → Ext w S H w' S' H' → JD G J ds w' S'.length chk → chk S' → R J H') → wi σ H R
def DI (X : Cx) (G : Gc) (tg iter : Expr) (t : RI) : Prop := ∃ wi, PI X tg iter wi ∧ EvI G wi t

noncomputable def forL (g : RG) (b : RS) (chk : Sto → Prop) : List D → En → Sto → Option Out
  | [], ρ, S => some (.nx ρ S)
  | d :: ds, ρ, S => match g d ρ S with
    | some (ρ1, S1) => (match b ρ1 S1 with
      | some (.nx ρ2 S2) => if chk S2 then forL g b chk ds ρ2 S2 else none
      | some (.ct ρ2 S2) => if chk S2 then forL g b chk ds ρ2 S2 else none
      | some (.bk ρ2 S2) => some (.nx ρ2 S2)
      | o => o)
    | none => none
@[simp] noncomputable def sFor (it : RI) (g : RG) (b : RS) : RS := fun ρ S => match it ρ S with | some (ds, chk, S1) => forL g b chk ds ρ S1 | none => none
theorem JD.next {G : Gc} {J : It} {ds : List D} {w0 w1 : Wd} {S0 S1 : Sto} {H0 H1 : Hp} {chk : Sto → Prop} (j : JD G J ds w0 S0.length chk) (x : Ext w0 S0 H0 w1 S1 H1) (c : Core G w1 S1 H1) (hc : chk S1) (i : Nat) :
    (i = ds.length → J.stop i H1) ∧ ∀ d, ds[i]? = some d → J.go i H1 ∧ ∀ x H2, J.yld i H1 x H2 → ∃ w2, Core G w2 S1 H2 ∧ Ext w1 S1 H1 w2 S1 H2 ∧ Den w2 S1.length x d := j i w1 S1 H1 c x.fr x.al x.sz hc
section
variable {G : Gc} {X : Cx} {pos : Pos} {e a b c tg iter : Expr} {es : List Expr} {te ta tb : RE} {ra : RA} {st : Stmt} {sts sts2 : List Stmt} {t u : RS} {tt : RT} {g : RG} {ri : RI}
theorem ds_for (hp : PassesOwn (model X.prog X.w) X.A X.env X.xe) (hc : X.calm = true) (hs : ∀ x, foldedSetIterable iter X.env x = pure x) (hi : DI X G tg iter ri) (hg : DG X G tg g) (hb : DSs X G sts t) : DS X G (.For tg iter sts [] pos) (sFor ri g t) :=
  let ⟨_, pi, ei⟩ := hi; let ⟨_, pg, eg⟩ := hg; let ⟨_, pb, eb⟩ := hb
  ⟨_, ps_for hp hc pi pg pb (hs := hs), fun ρ0 S0 o e w0 σ0 H0 s0 D p => by
    unfold sFor at e
    split at e
    · rename_i ds chk S1 h1
      refine ei ρ0 S0 ds chk S1 h1 w0 σ0 H0 s0 _ fun J w1 H1 s1 x1 jd hck => ?_
      refine ⟨fun i m σ H => ∃ w ρ S, Sat G w ρ S σ H ∧ Ext w1 S1 H1 w S H ∧ chk S ∧ i + m = ds.length ∧ forL g t chk (ds.drop i) ρ S = some o, ⟨ds.length, w1, ρ0, S1, s1, Ext.refl .., hck, Nat.zero_add _, e⟩, fun i m σ H ⟨w, ρ, S, s, x, hc, hm, e⟩ => ?_⟩
      obtain ⟨hstop, hgo⟩ := jd.next x s.core hc i
      cases m with
      | zero =>
        have hi : i = ds.length := by omega
        rw [hi, List.drop_length] at e
        unfold forL at e
        cases e
        exact .inl ⟨hstop hi, p w σ H s (x1.trans x)⟩
      | succ m =>
        have hil : i < ds.length := by omega
        rw [List.drop_eq_getElem_cons hil] at e
        obtain ⟨go, hy⟩ := hgo ds[i] (List.getElem?_eq_getElem hil)
        unfold forL at e
        refine .inr ⟨go, fun σ' H' => ∃ w ρ S, Sat G w ρ S σ' H' ∧ Ext w1 S1 H1 w S H' ∧ chk S ∧ forL g t chk (ds.drop (i + 1)) ρ S = some o, fun σ' H' ⟨w', ρ', S', q1, q2, q3, q4⟩ => ⟨m, Nat.lt_succ_self m, w', ρ', S', q1, q2, q3, by omega, q4⟩, fun v H2 hyld => ?_⟩
        obtain ⟨w2, c2, x2, d2⟩ := hy v H2 hyld
        split at e
        · rename_i ρ1 S2 h2
          refine eg ds[i] ρ S ρ1 S2 h2 w2 σ H2 v (s.ofCore c2 x2) d2 _ fun w3 σ3 H3 s3 x3 => ?_
          split at e
          · rename_i ρ2 S3 h3
            split at e
            · rename_i hck3
              exact eb ρ1 S2 _ h3 w3 σ3 H3 s3 _ fun w4 σ4 H4 s4 x4 => ⟨w4, ρ2, S3, s4, ((x.trans x2).trans x3).trans x4, hck3, e⟩
            · cases e
          · rename_i ρ2 S3 h3
            split at e
            · rename_i hck3
              exact eb ρ1 S2 _ h3 w3 σ3 H3 s3 _ fun w4 σ4 H4 s4 x4 => ⟨w4, ρ2, S3, s4, ((x.trans x2).trans x3).trans x4, hck3, e⟩
            · cases e
          · rename_i ρ2 S3 h3
            cases e
            exact eb ρ1 S2 _ h3 w3 σ3 H3 s3 _ fun w4 σ4 H4 s4 x4 => p w4 σ4 H4 s4 (((x1.trans (x.trans x2)).trans x3).trans x4)
          · rename_i h3 h4 h5
            refine eb ρ1 S2 o e w3 σ3 H3 s3 _ ?_
            cases o with
            | nx ρ' S' => exact absurd e (h3 ρ' S')
            | bk ρ' S' => exact absurd e (h5 ρ' S')
            | ct ρ' S' => exact absurd e (h4 ρ' S')
            | rt d S' => exact p.ext ((x1.trans (x.trans x2)).trans x3)
        · cases e
    · cases e⟩

/-! ### what is walked: a sequence, a range -/
def iSeqT (K : PySem.W.Frag) (tl : TE) : TI := fun σ H R => tl σ H fun x H1 => ∃ a, x = .ref a ∧ (((∃ xs, SqL K H1 a xs) ∧ R (Itl K a) H1) ∨ ((∃ xs, SqT K H1 a xs) ∧ R (Itt K a) H1))
theorem pi_seqA {l : Expr} {tl : TE} (hl : PE X l tl) : PI X tg l (iSeqT X.K tl) := by
  refine ⟨fun pins s σ H R I h => ?_⟩
  refine thn (hl.run pins s σ H _ I h) fun v s1 ⟨x, H1, I1, r1, q1⟩ => ?_
  obtain ⟨a, e, q1⟩ := q1
  subst e
  cases r1
  rcases q1 with ⟨⟨xs, hq⟩, q⟩ | ⟨⟨xs, hq⟩, q⟩
  · obtain ⟨its, rv, p, hz⟩ := I1.list hq
    refine wpAny_pyIter_list p.isList ?_
    refine ⟨s1.heap.objs.size, [s1.heap.objs.size], _, _, H1, rfl, I1.kept (t' := s1.toks) fun b o e => Heap.get?_push_of_some _ e, turn_list a _, ⟨_, Heap.get?_push_size _ rfl, rfl, rfl⟩, fun b hb => ?_, q⟩
    have e : b = s1.heap.objs.size := by simpa using hb
    subst e
    exact I1.fpOk (Nat.le_refl _) (I1.hok.fresh (Nat.le_refl _))
  · obtain ⟨its, rv, p, hz⟩ := I1.tuple hq
    refine wpAny_pyIter_tuple (show s1.heap.IsTuple a its.toArray from p) ?_
    refine ⟨s1.heap.objs.size, [s1.heap.objs.size], _, _, H1, rfl, I1.kept (t' := s1.toks) fun b o e => Heap.get?_push_of_some _ e, turn_tuple a _, ⟨_, Heap.get?_push_size _ rfl, rfl, rfl⟩, fun b hb => ?_, q⟩
    have e : b = s1.heap.objs.size := by simpa using hb
    subst e
    exact I1.fpOk (Nat.le_refl _) (I1.hok.fresh (Nat.le_refl _))
/-- the list of the store is as it was -/
def chkD (d : D) (xs : List D) : Sto → Prop := fun S => seqD d S = some xs
@[simp] def iSeq (a : RE) : RI := fun ρ S => match a ρ S with
  | some (d, S1) => (match d with
    | .tup xs => some (xs, fun _ => True, S1)
    | .lst xs => some (xs, fun _ => True, S1)
    | .scr xs => some (xs, fun _ => True, S1)
    | .obj k => (match S1[k]? with | some (.lst xs) => some (xs, fun S => S[k]? = some (.lst xs), S1) | _ => none)
    | _ => none)
  | none => none
theorem jd_l {K : PySem.W.Frag} {w : Wd} {n : Nat} {a : Addr} {ds : List D} {chk : Sto → Prop}
    (h : ∀ (w1 : Wd) (S1 : Sto) (H1 : Hp), Core G w1 S1 H1 → (∀ a o, w.fr a = some o → w1.fr a = some o) → (∀ k, k < n → w1.al k = w.al k) → n ≤ S1.length → chk S1 → ∃ vs, SqL K H1 a vs ∧ DenL w1 S1.length vs ds) : JD G (Itl K a) ds w n chk := by
  intro i w1 S1 H1 c hf ha hn hk
  obtain ⟨vs, hq, l⟩ := h w1 S1 H1 c hf ha hn hk
  refine ⟨fun hi => ⟨vs, hq, by rw [l.len]; omega⟩, fun d hd => ?_⟩
  obtain ⟨v, hv, dv⟩ := l.get hd
  refine ⟨⟨vs, v, hq, hv⟩, fun x H2 ⟨e, hx⟩ => ?_⟩
  subst e
  have := hx vs hq
  rw [hv] at this
  cases this
  exact ⟨w1, c, Ext.refl .., dv⟩
theorem jd_t {K : PySem.W.Frag} {w : Wd} {n : Nat} {a : Addr} {ds : List D} {chk : Sto → Prop}
    (h : ∀ (w1 : Wd) (S1 : Sto) (H1 : Hp), Core G w1 S1 H1 → (∀ a o, w.fr a = some o → w1.fr a = some o) → (∀ k, k < n → w1.al k = w.al k) → n ≤ S1.length → chk S1 → ∃ vs, SqT K H1 a vs ∧ DenL w1 S1.length vs ds) : JD G (Itt K a) ds w n chk := by
  intro i w1 S1 H1 c hf ha hn hk
  obtain ⟨vs, hq, l⟩ := h w1 S1 H1 c hf ha hn hk
  refine ⟨fun hi => ⟨vs, hq, by rw [l.len]; omega⟩, fun d hd => ?_⟩
  obtain ⟨v, hv, dv⟩ := l.get hd
  refine ⟨⟨vs, v, hq, hv⟩, fun x H2 ⟨e, hx⟩ => ?_⟩
  subst e
  have := hx vs hq
  rw [hv] at this
  cases this
  exact ⟨w1, c, Ext.refl .., dv⟩
theorem di_seq (ha : DE X G a ta) : DI X G tg a (iSeq ta) :=
  let ⟨_, pa, ea⟩ := ha
  ⟨_, pi_seqA pa, fun ρ S ds chk S' e w σ H s R q => by
    unfold iSeq at e
    split at e
    · rename_i d S1 h1
      refine ea ρ S d S1 h1 w σ H s _ fun w1 v H1 s1 x1 d1 => ?_
      split at e
      · rename_i xs
        cases e
        obtain ⟨p, vs, rfl, hp, l⟩ := den_tup d1
        exact ⟨p, rfl, .inr ⟨⟨vs, .inl (.inl (s1.core.sub _ _ hp))⟩, q _ w1 H1 s1 x1 (jd_t fun w2 S2 H2 c2 hf ha hn _ => ⟨vs, .inl (.inl (c2.sub _ _ (hf _ _ hp))), l.mono hf ha hn⟩) trivial⟩⟩
      · rename_i xs
        cases e
        obtain ⟨p, vs, rfl, hp, l⟩ := den_lst d1
        exact ⟨p, rfl, .inl ⟨⟨vs, .inl (.inl (s1.core.sub _ _ hp))⟩, q _ w1 H1 s1 x1 (jd_l fun w2 S2 H2 c2 hf ha hn _ => ⟨vs, .inl (.inl (c2.sub _ _ (hf _ _ hp))), l.mono hf ha hn⟩) trivial⟩⟩
      · rename_i xs
        cases e
        cases d1 with
        | scr hp l =>
          exact ⟨_, rfl, .inl ⟨⟨_, .inl (rd_sub s1.core.sub hp)⟩, q _ w1 H1 s1 x1 (jd_l fun w2 S2 H2 c2 hf ha hn _ => ⟨_, .inl (rd_sub c2.sub (rd_sub hf hp)), l.mono hf ha hn⟩) trivial⟩⟩
      · rename_i k
        split at e
        · rename_i xs hk
          cases e
          obtain ⟨_, _, vs, hv, l⟩ := s1.core.cel _ _ hk
          cases d1 with
          | obj hkl =>
            refine ⟨_, rfl, .inl ⟨⟨vs, .inl (.inl hv)⟩, q _ w1 H1 s1 x1 (jd_l fun w2 S2 H2 c2 hf ha hn hck => ?_) hk⟩⟩
            obtain ⟨_, _, vs2, hv2, l2⟩ := c2.cel _ _ hck
            rw [ha k hkl] at hv2
            exact ⟨vs2, .inl (.inl hv2), l2⟩
        · cases e
      · cases e
    · cases e⟩
def rangeD (lo : Int) (n : Nat) : List D := (List.range n).map fun i => .int (lo + (i : Nat))
theorem jd_r {w : Wd} {n m : Nat} {lo : Int} : JD G (Itr lo m) (rangeD lo m) w n (fun _ => True) := by
  intro i w1 S1 H1 c hf ha hn hk
  have ln : (rangeD lo m).length = m := by simp [rangeD]
  refine ⟨fun hi => by show m ≤ i; omega, fun d hd => ?_⟩
  have hi : i < m := by rw [← ln]; exact (List.getElem?_eq_some_iff.mp hd).1
  refine ⟨hi, fun x H2 ⟨e, hx⟩ => ?_⟩
  subst e hx
  have : (rangeD lo m)[i]? = some (.int (lo + (i : Nat))) := by simp [rangeD, hi]
  rw [this] at hd
  cases hd
  exact ⟨w1, c, Ext.refl .., .int _⟩
@[simp] def iRange1 (a : RE) : RI := fun ρ S => match a ρ S with
  | some (.int j, S1) => if -(2 ^ 62) ≤ j ∧ j < 2 ^ 62 then some (rangeD 0 j.toNat, fun _ => True, S1) else none
  | _ => none
@[simp] def iRange2 (a b : RE) : RI := fun ρ S => match a ρ S with
  | some (.int i, S1) => (match b ρ S1 with
    | some (.int j, S2) => if -(2 ^ 62) ≤ i ∧ i < 2 ^ 62 ∧ -(2 ^ 62) ≤ j ∧ j < 2 ^ 62 then some (rangeD i (j - i).toNat, fun _ => True, S2) else none
    | _ => none)
  | _ => none
theorem di_range1 {p : Pos} (hm : X.mg "range" = none) (ha : DE X G a ta) (hg : Gl X "range" := by rfl) (hs : starEach [a] X.env = [(false, eval a X.env)] := by rfl) : DI X G tg (.Call (.Name "range" p) [a] [] pos) (iRange1 ta) :=
  let ⟨_, pa, ea⟩ := da_cons ha da_nil hs
  ⟨_, pi_range1 hg hm pa hs, fun ρ S ds chk S' e w σ H s R q => by
    unfold iRange1 at e
    split at e
    · rename_i j S1 h1
      split at e
      · rename_i hj
        cases e
        refine ea ρ S [.int j] S' (by simp only [aCons, h1, aNil]) w σ H s _ fun w1 vs H1 s1 x1 d1 => ?_
        obtain ⟨v, rfl, hv⟩ := denL1 d1
        cases den_int hv
        exact ⟨j, rfl, hj.1, hj.2, q _ w1 H1 s1 x1 jd_r trivial⟩
      · cases e
    · cases e⟩
theorem di_range2 {p : Pos} (hm : X.mg "range" = none) (ha : DE X G a ta) (hb : DE X G b tb) (hg : Gl X "range" := by rfl) (hs : starEach [a, b] X.env = [(false, eval a X.env), (false, eval b X.env)] := by rfl) (hs2 : starEach [b] X.env = [(false, eval b X.env)] := by rfl) :
    DI X G tg (.Call (.Name "range" p) [a, b] [] pos) (iRange2 ta tb) :=
  let ⟨_, pa, ea⟩ := da_cons ha (da_cons hb da_nil hs2) (by rw [hs, hs2])
  ⟨_, pi_range2 hg hm pa hs hs2, fun ρ S ds chk S' e w σ H s R q => by
    unfold iRange2 at e
    split at e
    · rename_i i S1 h1
      split at e
      · rename_i j S2 h2
        split at e
        · rename_i hj
          cases e
          refine ea ρ S [.int i, .int j] S' (by simp only [aCons, h1, h2, aNil]) w σ H s _ fun w1 vs H1 s1 x1 d1 => ?_
          obtain ⟨v, u, rfl, hv, hu⟩ := denL2 d1
          cases den_int hv; cases den_int hu
          exact ⟨i, j, rfl, hj, q _ w1 H1 s1 x1 jd_r trivial⟩
        · cases e
      · cases e
    · cases e⟩

/-! ### comprehensions -/
@[simp] def wipeD (ρ : En) : List Nat → En
  | [] => ρ
  | v :: vs => (wipeD ρ vs).set v none
theorem Sat.wipe {w : Wd} {ρ : En} {S : Sto} {σ : L2.St} {H : Hp} (s : Sat G w ρ S σ H) : ∀ vs : List Nat, Sat G w (wipeD ρ vs) S (L2.wipe σ vs) H
  | [] => s
  | v :: vs => by
    have ih := s.wipe vs
    refine ⟨ih.core, fun j e h => ?_, by show ((wipeD ρ vs).set v none).length = ((L2.wipe σ vs).set v none).length; rw [List.length_set, List.length_set]; exact ih.len, ih.code⟩
    have h : ((wipeD ρ vs).set v none)[j]? = some (some e) := h
    by_cases hj : v = j
    · subst hj
      by_cases hl : v < (wipeD ρ vs).length
      · rw [List.getElem?_set_self hl] at h; cases h
      · rw [List.getElem?_eq_none (by rw [List.length_set]; omega)] at h; cases h
    · rw [List.getElem?_set_ne hj] at h
      obtain ⟨u, h1, h2⟩ := ih.env j e h
      exact ⟨u, by show ((L2.wipe σ vs).set v none)[j]? = _; rw [List.getElem?_set_ne hj]; exact h1, h2⟩
/-- the items, from the wiped environment -/
noncomputable def compL (g : RG) (c : RT) (e : RE) (chk : Sto → Prop) (ρ : En) : List D → Sto → Option (List D × Sto)
  | [], S => some ([], S)
  | d :: ds, S => match g d ρ S with
    | some (ρ1, S1) => (match c ρ1 S1 with
      | some (true, S2) => (match e ρ1 S2 with
        | some (y, S3) => if chk S3 then (match compL g c e chk ρ ds S3 with | some (ys, S4) => some (y :: ys, S4) | none => none) else none
        | none => none)
      | some (false, S2) => if chk S2 then compL g c e chk ρ ds S2 else none
      | none => none)
    | none => none
/-- a target stores within the given places -/
def GIn (g : RG) (vs : List Nat) : Prop := ∀ d ρ S ρ' S', g d ρ S = some (ρ', S') → wipeD ρ' vs = wipeD ρ vs ∧ ρ'.length = ρ.length
@[simp] def tYesD : RT := fun _ S => some (true, S)
def DTs (X : Cx) (G : Gc) (ifs : List Expr) (t : RT) : Prop := ∃ tt, PTs X ifs tt ∧ EvT G tt t
theorem dts_nil : DTs X G [] tYesD := ⟨_, pts_nil, fun ρ S b S' e w σ H s Q q => by cases e; exact q w H s (Ext.refl ..)⟩
theorem dts_one (h : DT X G c tt) : DTs X G [c] tt := let ⟨_, p, q⟩ := h; ⟨_, pts_one p, q⟩
end
end DL

set_option maxRecDepth 100000
set_option maxHeartbeats 4000000
set_option pp.maxSteps 900
namespace DL
open PySem PySem.Spec PyProof.Rows L2 GX
open Classical

def teOf (G : Gc) (t : RE) : TE := fun σ H Q => ∃ ρ S d S' w, t ρ S = some (d, S') ∧ Sat G w ρ S σ H ∧ ∀ w' v H', Sat G w' ρ S' σ H' → Ext w S H w' S' H' → Den w' S'.length v d → Q v H'
def ttOf (G : Gc) (t : RT) : TT := fun σ H Q => ∃ ρ S b S' w, t ρ S = some (b, S') ∧ Sat G w ρ S σ H ∧ ∀ w' H', Sat G w' ρ S' σ H' → Ext w S H w' S' H' → Q b H'
def tiOf (G : Gc) (t : RI) : TI := fun σ H R => ∃ ρ S ds chk S' w, t ρ S = some (ds, chk, S') ∧ Sat G w ρ S σ H ∧ ∀ J w' H', Sat G w' ρ S' σ H' → Ext w S H w' S' H' → JD G J ds w' S'.length chk → chk S' → R J H'
def EvGw (G : Gc) (vs : List Nat) (g : TG) (t : RG) : Prop := ∀ (d : D) (ρ : En) (S : Sto) (ρ' : En) (S' : Sto), t d ρ S = some (ρ', S') → ∀ (w : Wd) (σ : L2.St) (H : Hp) (v : V), Sat G w ρ S σ H → Den w S.length v d → ∀ Q : L2.St → Hp → Prop,
  (∀ w' σ' H', L2.wipe σ' vs = L2.wipe σ vs → Sat G w' ρ' S' σ' H' → Ext w S H w' S' H' → Q σ' H') → g v σ H Q
def DGw (X : Cx) (G : Gc) (vs : List Nat) (tg : Expr) (t : RG) : Prop := ∃ g, PG X tg g ∧ EvGw G vs g t
def EvGsw (G : Gc) (vs : List Nat) (g : TGs) (t : RGs) : Prop := ∀ (ds : List D) (ρ : En) (S : Sto) (ρ' : En) (S' : Sto), t ds ρ S = some (ρ', S') → ∀ (w : Wd) (σ : L2.St) (H : Hp) (us : List V), Sat G w ρ S σ H → DenL w S.length us ds → ∀ Q : L2.St → Hp → Prop,
  (∀ w' σ' H', L2.wipe σ' vs = L2.wipe σ vs → Sat G w' ρ' S' σ' H' → Ext w S H w' S' H' → Q σ' H') → g us σ H Q
def DGsw (X : Cx) (G : Gc) (vs : List Nat) (tgs : List Expr) (t : RGs) : Prop := ∃ g, PGs X tgs g ∧ EvGsw G vs g t
def tgOf (G : Gc) (vs : List Nat) (t : RG) : TG := fun v σ H Q => ∃ d ρ S ρ' S' w, t d ρ S = some (ρ', S') ∧ Sat G w ρ S σ H ∧ Den w S.length v d ∧ ∀ w' σ' H', L2.wipe σ' vs = L2.wipe σ vs → Sat G w' ρ' S' σ' H' → Ext w S H w' S' H' → Q σ' H'
section
variable {G : Gc} {X : Cx} {pos : Pos} {e a b c tg iter : Expr} {es : List Expr} {te ta tb : RE} {ri : RI} {tt : RT} {g : RG} {vs : List Nat}
theorem ev_of : Ev G (teOf G te) te := fun ρ S d S' e w σ H s Q q => ⟨ρ, S, d, S', w, e, s, q⟩
theorem evt_of : EvT G (ttOf G tt) tt := fun ρ S d S' e w σ H s Q q => ⟨ρ, S, d, S', w, e, s, q⟩
theorem evi_of : EvI G (tiOf G ri) ri := fun ρ S ds chk S' e w σ H s R q => ⟨ρ, S, ds, chk, S', w, e, s, q⟩
theorem evg_of : EvGw G vs (tgOf G vs g) g := fun d ρ S ρ' S' e w σ H v s hd Q q => ⟨d, ρ, S, ρ', S', w, e, s, hd, q⟩
theorem DE.pe (h : DE X G e te) : PE X e (teOf G te) := let ⟨_, p, ev⟩ := h; ⟨fun pins s σ H Q I ⟨ρ, S, d, S', w, e, st, q⟩ => p.run pins s σ H Q I (ev ρ S d S' e w σ H st Q q)⟩
theorem DTs.pts {ifs : List Expr} (h : DTs X G ifs tt) : PTs X ifs (ttOf G tt) := let ⟨_, p, ev⟩ := h; ⟨fun pins s σ H Q I ⟨ρ, S, d, S', w, e, st, q⟩ => p.run pins s σ H Q I (ev ρ S d S' e w σ H st Q q)⟩
theorem DI.pi (h : DI X G tg iter ri) : PI X tg iter (tiOf G ri) := let ⟨_, p, ev⟩ := h; ⟨fun pins s σ H R I ⟨ρ, S, ds, chk, S', w, e, st, q⟩ => p.run pins s σ H R I (ev ρ S ds chk S' e w σ H st R q)⟩
theorem DGw.pg (h : DGw X G vs tg g) : PG X tg (tgOf G vs g) := let ⟨_, p, ev⟩ := h; ⟨fun pins s σ H v u Q I r ⟨d, ρ, S, ρ', S', w, e, st, hd, q⟩ => p.run pins s σ H v u Q I r (ev d ρ S ρ' S' e w σ H v st hd Q q)⟩

theorem wipe_in {σ : L2.St} {j : Nat} : ∀ {vs : List Nat}, j ∈ vs → (L2.wipe σ vs)[j]? = if j < σ.length then some none else none
  | v :: vs, h => by
    show ((L2.wipe σ vs).set v none)[j]? = _
    by_cases hj : v = j
    · subst hj
      by_cases hl : v < σ.length
      · rw [List.getElem?_set_self (by rw [L2.wipe_length]; exact hl), if_pos hl]
      · rw [List.getElem?_eq_none (by rw [List.length_set, L2.wipe_length]; omega), if_neg hl]
    · rw [List.getElem?_set_ne hj]
      have h : j ∈ vs := by
        rcases List.mem_cons.mp h with z | z
        · exact absurd z.symm hj
        · exact z
      exact wipe_in h
theorem wipe_congr {σ σ' : L2.St} (hl : σ'.length = σ.length) (h : ∀ j, j ∉ vs → σ'[j]? = σ[j]?) : L2.wipe σ' vs = L2.wipe σ vs := by
  apply List.ext_getElem?
  intro j
  by_cases hj : j ∈ vs
  · rw [wipe_in hj, wipe_in hj, hl]
  · rw [L2.wipe_out hj, L2.wipe_out hj]; exact h j hj
theorem wipe_set {σ : L2.St} {i : Nat} {x : Option V} (hi : i ∈ vs) : L2.wipe (σ.set i x) vs = L2.wipe σ vs :=
  wipe_congr List.length_set fun j hj => List.getElem?_set_ne fun z => hj (by rw [← z]; exact hi)
theorem wipe_wipe {σ : L2.St} : L2.wipe (L2.wipe σ vs) vs = L2.wipe σ vs :=
  wipe_congr (L2.wipe_length σ vs) fun j hj => L2.wipe_out hj
theorem dgw_name {i : Nat} {x : Str} (hN : X.N.Nodup) (hi : X.N[i]? = some x) (hx : Loc X.env.scope x) (hf : X.fn x = true ∨ X.env.scope.names.lookup x = some .local) (hm : i ∈ vs) : DGw X G vs (.Name x pos) (gNm i) :=
  ⟨_, pg_name hN hi hx hf, fun d ρ S ρ' S' e w σ H v s hd Q q => by
    unfold gNm at e
    cases e
    exact q w _ H (wipe_set hm) (s.set hd i) (Ext.refl ..)⟩
theorem dgsw_nil : DGsw X G vs [] gsNil := ⟨_, pgs_nil, fun ds ρ S ρ' S' e w σ H us s hd Q q => by
  unfold gsNil at e
  split at e
  · cases e; cases hd; exact ⟨rfl, q w σ H rfl s (Ext.refl ..)⟩
  · cases e⟩
theorem dgsw_cons {t1 : RG} {t2 : RGs} (h : DGw X G vs e t1) (h2 : DGsw X G vs es t2) (hs : (assignEach (e :: es) X.env).map (·.2) = assign e X.env :: (assignEach es X.env).map (·.2) := by rfl) : DGsw X G vs (e :: es) (gsCons t1 t2) :=
  let ⟨_, pa, ea⟩ := h; let ⟨_, pb, eb⟩ := h2
  ⟨_, pgs_cons pa pb hs, fun ds ρ S ρ' S' e w σ H us s hd Q q => by
    unfold gsCons at e
    split at e
    · rename_i d rest
      cases hd with
      | cons hv hr =>
        split at e
        · rename_i ρ1 S1 h1
          exact ⟨_, _, rfl, ea d ρ S ρ1 S1 h1 w σ H _ s hv _ fun w1 σ1 H1 z1 s1 x1 => eb rest ρ1 S1 ρ' S' e w1 σ1 H1 _ s1 (hr.ext x1) Q fun w2 σ2 H2 z2 s2 x2 => q w2 σ2 H2 (z2.trans z1) s2 (x1.trans x2)⟩
        · cases e
    · cases e⟩
theorem dgw_tup {k n : Nat} {t1 : RGs} (hc : X.calm = true) (h : DGsw X G vs es t1) (hn : (assignEach es X.env).length = n := by rfl) (hst : (assignEach es X.env).findIdx? (·.1) = none := by rfl) : DGw X G vs (.Tuple es k pos) (gTp n t1) :=
  let ⟨_, pa, ea⟩ := h
  ⟨_, pg_tup hc pa hn hst, fun d ρ S ρ' S' e w σ H v s hd Q q => by
    unfold gTp at e
    split at e
    · rename_i ds
      split at e
      · rename_i hl
        obtain ⟨p, us, rfl, hp, l⟩ := den_tup hd
        exact ⟨p, us, rfl, .inl (.inl (s.core.sub _ _ hp)), by rw [l.len]; exact hl, ea ds ρ S ρ' S' e w σ H us s l Q q⟩
      · cases e
    · cases e⟩

/-! ### an object that the world does not know yet -/
theorem ntL {us : List V} : NoTab (.lst us) := ⟨fun ps e => (by cases e), fun ps e => (by cases e)⟩
theorem Core.newX {w : Wd} {S : Sto} {H : Hp} {p : Addr} {o : HO} (c : Core G w S H) (hp : H p = none) : Core G w S (upd H p o) ∧ Ext w S H w S (upd H p o) := by
  have old : ∀ a u, H a = some u → a ≠ p := fun a u e => ne_of_none e hp
  have hm : ∀ a u, H a = some u → upd H p o a = some u := fun a u e => by rw [upd_ne (old a u e)]; exact e
  refine ⟨⟨fun a u e => hm a u (c.sub a u e), c.fro, fun k ce h => ?_, c.inj, c.tab.stay fun a u e _ _ => hm a u e, c.t0⟩, ⟨fun _ _ => rfl, fun _ _ e => e, fun _ _ e => e, Nat.le_refl _, fun k h1 h2 => absurd h2 (Nat.not_lt.mpr h1), fun a u e _ _ => hm a u e, fun a e => ?_, fun a u e => .inl e⟩⟩
  · obtain ⟨h1, ⟨u, h2, h3⟩, h4⟩ := c.cel k ce h
    exact ⟨h1, ⟨u, hm _ u h2, h3⟩, h4.mono (fun _ _ e => e) (fun _ _ => rfl) (Nat.le_refl _) (fun u e => hm _ u e)⟩
  · by_cases h : a = p
    · rw [h, upd_same] at e; cases e
    · rw [upd_ne h] at e; exact e
theorem Ext.updX {w w' : Wd} {S S' : Sto} {H H' : Hp} {p : Addr} {o : HO} (x : Ext w S H w' S' H') (hp : H p = none) : Ext w S H w' S' (upd H' p o) :=
  ⟨x.al, x.fr, x.tb, x.sz, x.new, fun a u e h1 h2 => by rw [upd_ne (ne_of_none e hp)]; exact x.keep a u e h1 h2, fun a e => by
    by_cases h : a = p
    · subst h; exact hp
    · rw [upd_ne h] at e; exact x.non a e, x.frn⟩
/-- the list that grows -/
structure Aw (w : Wd) (S : Sto) (H : Hp) (D : Addr) (acc : List V) : Prop where
  at_ : H D = some (.lst acc)
  fr : w.fr D = none
  al : ∀ k, k < S.length → w.al k ≠ D
theorem Aw.ext {w w' : Wd} {S S' : Sto} {H H' : Hp} {D : Addr} {acc : List V} (a : Aw w S H D acc) (x : Ext w S H w' S' H') : Aw w' S' H' D acc :=
  let ⟨h1, h2, h3⟩ := x.away a.at_ ntL a.fr a.al; ⟨h1, h2, h3⟩
theorem Aw.new {w : Wd} {S : Sto} {H : Hp} {D : Addr} (c : Core G w S H) (hp : H D = none) : Aw w S (upd H D (.lst [])) D [] :=
  ⟨upd_same, c.fresh hp, fun k hk z => by
    obtain ⟨_, ⟨u, h2, _⟩, _⟩ := c.cel k _ (List.getElem?_eq_getElem hk)
    rw [z, hp] at h2; cases h2⟩
/-- how a new list is made known: frozen, or an object of the store -/
def MkL (mk : List D → Sto → Option (D × Sto)) : Prop := (∀ ys S d S', mk ys S = some (d, S') → ys.length ≤ 1000000) ∧ ∀ (G : Gc) (w0 w : Wd) (S0 S S' : Sto) (H0 H : Hp) (P : Addr) (acc : List V) (ys : List D) (d : D), Core G w S H → Ext w0 S0 H0 w S H → H0 P = none → w0.fr P = none → Aw w S H P acc → DenL w S.length acc ys → mk ys S = some (d, S') →
  ∃ w', Core G w' S' H ∧ Ext w0 S0 H0 w' S' H ∧ Den w' S'.length (.ref P) d
theorem mkF : MkL fLst := ⟨(fun ys S d S' e => by
  unfold fLst at e
  split at e
  · assumption
  · cases e), fun G w0 w S0 S S' H0 H P acc ys d c x hp hw a l e => by
  unfold fLst at e
  split at e
  · rename_i hl
    cases e
    refine ⟨_, c.freeze a.at_ (.inr ⟨acc, rfl⟩) a.fr a.al, ⟨x.al, fun b u e => ?_, x.tb, x.sz, x.new, x.keep, x.non, fun b u e => ?_⟩, den_newL l a.fr⟩
    · have e := x.fr b u e
      show upd w.fr P _ b = some u
      rw [upd_ne (ne_of_none e a.fr)]; exact e
    · by_cases h : b = P
      · exact .inr (.inl (by rw [h]; exact hp))
      · have e : upd w.fr P (.lst acc) b = some u := e
        rw [upd_ne h] at e; exact x.frn b u e
  · cases e⟩
theorem mkO : MkL fObj := ⟨(fun ys S d S' e => by
  unfold fObj at e
  split at e
  · assumption
  · cases e), fun G w0 w S0 S S' H0 H P acc ys d c x hp hw a l e => by
  unfold fObj at e
  split at e
  · rename_i hl
    cases e
    refine ⟨_, c.adopt a.at_ l a.fr a.al, ⟨fun k hk => ?_, x.fr, x.tb, ?_, fun k h1 h2 => ?_, x.keep, x.non, x.frn⟩, den_newO⟩
    · have h2 : k ≠ S.length := Nat.ne_of_lt (Nat.lt_of_lt_of_le hk x.sz)
      show (if k = S.length then P else w.al k) = w0.al k
      rw [if_neg h2]; exact x.al k hk
    · rw [List.length_append]; exact Nat.le_trans x.sz (Nat.le_add_right _ _)
    · show H0 (if k = S.length then P else w.al k) = none
      by_cases hk : k = S.length
      · rw [if_pos hk]; exact hp
      · rw [if_neg hk]
        refine x.new k h1 ?_
        rw [List.length_append] at h2
        have h2 : k < S.length + 1 := h2
        omega
  · cases e⟩

/-- the part of Ext that sees no heap -/
structure WR (w : Wd) (n : Nat) (w' : Wd) (n' : Nat) : Prop where
  al : ∀ k, k < n → w'.al k = w.al k
  fr : ∀ a o, w.fr a = some o → w'.fr a = some o
  tb : ∀ c P, w.tb c P → w'.tb c P
  sz : n ≤ n'
theorem Ext.wr {w w' : Wd} {S S' : Sto} {H H' : Hp} (x : Ext w S H w' S' H') : WR w S.length w' S'.length := ⟨x.al, x.fr, x.tb, x.sz⟩
theorem WR.trans {w w1 w2 : Wd} {n n1 n2 : Nat} (a : WR w n w1 n1) (b : WR w1 n1 w2 n2) : WR w n w2 n2 :=
  ⟨fun k h => (b.al k (Nat.lt_of_lt_of_le h a.sz)).trans (a.al k h), fun x o e => b.fr x o (a.fr x o e), fun c P e => b.tb c P (a.tb c P e), Nat.le_trans a.sz b.sz⟩
theorem Sat.ofWR {w w' : Wd} {ρ : En} {S S' : Sto} {σ : L2.St} {H H' : Hp} (s : Sat G w ρ S σ H) (c : Core G w' S' H') (e : WR w S.length w' S'.length) : Sat G w' ρ S' σ H' :=
  ⟨c, fun i d h => let ⟨v, h1, h2⟩ := s.env i d h; ⟨v, h1, h2.mono e.fr e.al e.sz⟩, s.len, fun v h => let ⟨c, P, h1, h2⟩ := s.code v h; ⟨c, P, h1, e.tb _ _ h2⟩⟩

/-! ### the loop of a clause -/
theorem loop_ok {J : It} {ds : List D} {chk : Sto → Prop} {gg : TG} {xt : TT} {xe : TE} {w0 w1 w2 : Wd} {S0 S1 S2 S3 : Sto} {H0 H2 : Hp} {ρ0 : En} {σ : L2.St} {P : Addr} {acc : List V} {accD ys : List D} {Qd : Hp → Prop}
    (eg : EvGw G vs gg g) (et : EvT G xt tt) (ee : Ev G xe te) (jd : JD G J ds w1 S1.length chk) (r12 : WR w1 S1.length w2 S2.length) (x02 : Ext w0 S0 H0 w2 S2 H2) (s2 : Sat G w2 ρ0 S2 σ H2) (hk : chk S2) (aw : Aw w2 S2 H2 P acc) (ln : DenL w2 S2.length acc accD) (hP : H0 P = none)
    (e : compL g tt te chk (wipeD ρ0 vs) ds S2 = some (ys, S3)) (hz : (accD ++ ys).length ≤ 1000000)
    (q : ∀ w3 H3 acc3, Core G w3 S3 H3 → Ext w0 S0 H0 w3 S3 H3 → WR w2 S2.length w3 S3.length → Aw w3 S3 H3 P acc3 → DenL w3 S3.length acc3 (accD ++ ys) → chk S3 → Qd H3) :
    ∃ W : Nat → Nat → Hp → Prop, (∃ m, W 0 m H2) ∧ ∀ i m H, W i m H → (J.stop i H ∧ Qd H) ∨ (J.go i H ∧ ∃ Nx : Hp → Prop, (∀ H', Nx H' → ∃ m', m' < m ∧ W (i + 1) m' H') ∧ ∀ x H', J.yld i H x H' → gg x (L2.wipe σ vs) H' fun σ2 H2 => L2.wipe σ2 vs = L2.wipe σ vs ∧ xt σ2 H2 fun b H3 =>
      if b = true then xe σ2 H3 fun y H4 => ∃ acc, H4 P = some (.lst acc) ∧ acc.length < sizeLine ∧ Nx (upd H4 P (.lst (acc ++ [y]))) else Nx H3) := by
  refine ⟨fun i m H => ∃ w S acc aD ys', Sat G w ρ0 S σ H ∧ Ext w0 S0 H0 w S H ∧ WR w2 S2.length w S.length ∧ chk S ∧ i + m = ds.length ∧ Aw w S H P acc ∧ DenL w S.length acc aD ∧ compL g tt te chk (wipeD ρ0 vs) (ds.drop i) S = some (ys', S3) ∧ aD ++ ys' = accD ++ ys,
    ⟨ds.length, w2, S2, acc, accD, ys, s2, x02, ⟨fun _ _ => rfl, fun _ _ e => e, fun _ _ e => e, Nat.le_refl _⟩, hk, Nat.zero_add _, aw, ln, e, rfl⟩, fun i m H ⟨w, S, acc, aD, ys', s, x, r, hc, hm, aw, ln, e, hy⟩ => ?_⟩
  have rr := r12.trans r
  obtain ⟨hstop, hgo⟩ := jd i w S H s.core rr.fr rr.al rr.sz hc
  cases m with
  | zero =>
    have hi : i = ds.length := by omega
    rw [hi, List.drop_length] at e
    unfold compL at e
    cases e
    rw [List.append_nil] at hy
    rw [← hy] at q
    exact .inl ⟨hstop hi, q w H acc s.core x r aw ln hc⟩
  | succ m =>
    have hil : i < ds.length := by omega
    rw [List.drop_eq_getElem_cons hil] at e
    obtain ⟨go, hyl⟩ := hgo ds[i] (List.getElem?_eq_getElem hil)
    unfold compL at e
    refine .inr ⟨go, fun H' => ∃ w S acc aD ys', Sat G w ρ0 S σ H' ∧ Ext w0 S0 H0 w S H' ∧ WR w2 S2.length w S.length ∧ chk S ∧ Aw w S H' P acc ∧ DenL w S.length acc aD ∧ compL g tt te chk (wipeD ρ0 vs) (ds.drop (i + 1)) S = some (ys', S3) ∧ aD ++ ys' = accD ++ ys,
      fun H' ⟨w', S', acc', aD', ys'', q1, q2, q3, q4, q5, q6, q7, q8⟩ => ⟨m, Nat.lt_succ_self m, w', S', acc', aD', ys'', q1, q2, q3, q4, by omega, q5, q6, q7, q8⟩, fun v H2 hyld => ?_⟩
    obtain ⟨w4, c4, x4, d4⟩ := hyl v H2 hyld
    have s4 := s.ofCore c4 x4
    split at e
    · rename_i ρ1 Sa h1
      refine eg ds[i] (wipeD ρ0 vs) S ρ1 Sa h1 w4 _ H2 v (s4.wipe vs) d4 _ fun w5 σ5 H5 z5 s5 x5 => ⟨z5.trans wipe_wipe, ?_⟩
      split at e
      · rename_i Sb h2
        refine et ρ1 Sa true Sb h2 w5 σ5 H5 s5 _ fun w6 H6 s6 x6 => ?_
        rw [if_pos rfl]
        split at e
        · rename_i y Sc h3
          refine ee ρ1 Sb y Sc h3 w6 σ5 H6 s6 _ fun w7 vy H7 s7 x7 d7 => ?_
          split at e
          · rename_i hck
            split at e
            · rename_i ys2 Sd h4
              cases e
              have xx := ((x4.trans x5).trans x6).trans x7
              have aw7 := aw.ext xx
              have ln7 := ln.ext xx
              have c8 := s7.core.updX (o' := .lst (acc ++ [vy])) aw7.at_ ntL aw7.fr aw7.al
              have ex8 : Ext w0 S0 H0 w7 Sc (upd H7 P (.lst (acc ++ [vy]))) := (x.trans xx).updX hP
              refine ⟨acc, aw7.at_, ?_, w7, Sc, acc ++ [vy], aD ++ [y], ys2, s.ofWR c8 xx.wr, ex8, r.trans xx.wr, hck, ⟨upd_same, aw7.fr, aw7.al⟩, ln7.app (.cons d7 .nil), h4, by rw [List.append_assoc]; exact hy⟩
              refine lt_line ?_
              have hlen := congrArg List.length hy
              rw [List.length_append, List.length_cons, ← ln.len] at hlen
              omega
            · cases e
          · cases e
        · cases e
      · rename_i Sb h2
        refine et ρ1 Sa false Sb h2 w5 σ5 H5 s5 _ fun w6 H6 s6 x6 => ?_
        rw [if_neg (by decide)]
        split at e
        · rename_i hck
          have xx := (x4.trans x5).trans x6
          exact ⟨w6, Sb, acc, aD, ys', s.ofCore s6.core xx, x.trans xx, r.trans xx.wr, hck, aw.ext xx, ln.ext xx, e, hy⟩
        · cases e
      · cases e
    · cases e
@[simp] noncomputable def eLc (mk : List D → Sto → Option (D × Sto)) (it : RI) (g : RG) (c : RT) (e : RE) (vs : List Nat) : RE := fun ρ S => match it ρ S with
  | some (ds, chk, S1) => (match compL g c e chk (wipeD ρ vs) ds S1 with
    | some (ys, S2) => mk ys S2
    | none => none)
  | none => none
theorem ev_lc {mk : List D → Sto → Option (D × Sto)} {wi : TI} {gg : TG} {xt : TT} {xe : TE} (hmk : MkL mk) (ei : EvI G wi ri) (eg : EvGw G vs gg g) (et : EvT G xt tt) (ee : Ev G xe te) : Ev G (tLc wi gg xt xe vs) (eLc mk ri g tt te vs) := fun ρ S d S' e w σ H s Q q => by
  unfold eLc at e
  split at e
  · rename_i ds chk S1 h1
    split at e
    · rename_i ys S2 h2
      refine ei ρ S ds chk S1 h1 w σ H s _ fun J w1 H1 s1 x1 jd hk P hP => ?_
      obtain ⟨c2, x2⟩ := s1.core.newX (o := .lst []) hP
      have hyz : ys.length ≤ 1000000 := hmk.1 _ _ _ _ e
      exact loop_ok eg et ee jd x2.wr x2 (s1.ofCore c2 x2) hk (Aw.new s1.core hP) .nil hP h2 (by rw [List.nil_append]; exact hyz) fun w3 H3 acc3 c3 x3 r3 aw3 ln3 hk3 => by
        obtain ⟨w4, c4, x4, d4⟩ := hmk.2 G w1 w3 S1 S2 S' H1 H3 P acc3 ys d c3 x3 hP (s1.core.fresh hP) aw3 ln3 e
        exact q w4 _ H3 (s1.ofCore c4 x4) (x1.trans x4) d4
    · cases e
  · cases e
/-! ### two clauses -/
noncomputable def compL2 (g : RG) (c : RT) (it1 : RI) (g1 : RG) (c1 : RT) (e : RE) (vs1 : List Nat) (chk : Sto → Prop) (ρ : En) : List D → Sto → Option (List D × Sto)
  | [], S => some ([], S)
  | d :: ds, S => match g d ρ S with
    | some (ρ1, S1) => (match c ρ1 S1 with
      | some (true, S2) => (match it1 ρ1 S2 with
        | some (ds1, chk1, S3) => (match compL g1 c1 e chk1 (wipeD ρ1 vs1) ds1 S3 with
          | some (ys, S4) => if chk S4 then (match compL2 g c it1 g1 c1 e vs1 chk ρ ds S4 with | some (zs, S5) => some (ys ++ zs, S5) | none => none) else none
          | none => none)
        | none => none)
      | some (false, S2) => if chk S2 then compL2 g c it1 g1 c1 e vs1 chk ρ ds S2 else none
      | none => none)
    | none => none
@[simp] noncomputable def eLc2 (mk : List D → Sto → Option (D × Sto)) (it : RI) (g : RG) (c : RT) (it1 : RI) (g1 : RG) (c1 : RT) (e : RE) (vs vs1 : List Nat) : RE := fun ρ S => match it ρ S with
  | some (ds, chk, S1) => (match compL2 g c it1 g1 c1 e vs1 chk (wipeD ρ vs) ds S1 with
    | some (ys, S2) => mk ys S2
    | none => none)
  | none => none
theorem ev_lc2 {mk : List D → Sto → Option (D × Sto)} {wi wi1 : TI} {gg gg1 : TG} {xt xt1 : TT} {xe : TE} {ri1 : RI} {g1 : RG} {tt1 : RT} {vs1 : List Nat} (hmk : MkL mk) (ei : EvI G wi ri) (eg : EvGw G vs gg g) (et : EvT G xt tt) (ei1 : EvI G wi1 ri1) (eg1 : EvGw G vs1 gg1 g1) (et1 : EvT G xt1 tt1) (ee : Ev G xe te) :
    Ev G (tLc2 wi gg xt wi1 gg1 xt1 xe vs vs1) (eLc2 mk ri g tt ri1 g1 tt1 te vs vs1) := fun ρ S d S' e w σ H s Q q => by
  unfold eLc2 at e
  split at e
  · rename_i ds chk S1 h1
    split at e
    · rename_i yall S2 h2
      refine ei ρ S ds chk S1 h1 w σ H s _ fun J w1 H1 s1 x1 jd hk P hP => ?_
      obtain ⟨c2, x2⟩ := s1.core.newX (o := .lst []) hP
      have hyz : yall.length ≤ 1000000 := hmk.1 _ _ _ _ e
      refine ⟨fun i m H => ∃ w S acc aD ys', Sat G w ρ S σ H ∧ Ext w1 S1 H1 w S H ∧ chk S ∧ i + m = ds.length ∧ Aw w S H P acc ∧ DenL w S.length acc aD ∧ compL2 g tt ri1 g1 tt1 te vs1 chk (wipeD ρ vs) (ds.drop i) S = some (ys', S2) ∧ aD ++ ys' = yall,
        ⟨ds.length, w1, S1, [], [], yall, s1.ofCore c2 x2, x2, hk, Nat.zero_add _, Aw.new s1.core hP, .nil, h2, rfl⟩, fun i m H ⟨w, S, acc, aD, ys', s, x, hc, hm, aw, ln, e2, hy⟩ => ?_⟩
      obtain ⟨hstop, hgo⟩ := jd.next x s.core hc i
      cases m with
      | zero =>
        have hi : i = ds.length := by omega
        rw [hi, List.drop_length] at e2
        unfold compL2 at e2
        cases e2
        rw [List.append_nil] at hy
        refine .inl ⟨hstop hi, ?_⟩
        rw [← hy] at e
        obtain ⟨w4, c4, x4, d4⟩ := hmk.2 G w1 w S1 S2 S' H1 H P acc aD d s.core x hP (s1.core.fresh hP) aw ln e
        exact q w4 _ H (s1.ofCore c4 x4) (x1.trans x4) d4
      | succ m =>
        have hil : i < ds.length := by omega
        rw [List.drop_eq_getElem_cons hil] at e2
        obtain ⟨go, hyl⟩ := hgo ds[i] (List.getElem?_eq_getElem hil)
        unfold compL2 at e2
        refine .inr ⟨go, fun H' => ∃ w S acc aD ys', Sat G w ρ S σ H' ∧ Ext w1 S1 H1 w S H' ∧ chk S ∧ Aw w S H' P acc ∧ DenL w S.length acc aD ∧ compL2 g tt ri1 g1 tt1 te vs1 chk (wipeD ρ vs) (ds.drop (i + 1)) S = some (ys', S2) ∧ aD ++ ys' = yall,
          fun H' ⟨w', S', acc', aD', ys'', q1, q2, q3, q4, q5, q6, q7⟩ => ⟨m, Nat.lt_succ_self m, w', S', acc', aD', ys'', q1, q2, q3, by omega, q4, q5, q6, q7⟩, fun v H2 hyld => ?_⟩
        obtain ⟨w4, c4, x4, d4⟩ := hyl v H2 hyld
        have s4 := s.ofCore c4 x4
        split at e2
        · rename_i ρ1 Sa h1
          refine eg ds[i] (wipeD ρ vs) S ρ1 Sa h1 w4 _ H2 v (s4.wipe vs) d4 _ fun w5 σ5 H5 z5 s5 x5 => ⟨z5.trans wipe_wipe, ?_⟩
          split at e2
          · rename_i Sb h2
            refine et ρ1 Sa true Sb h2 w5 σ5 H5 s5 _ fun w6 H6 s6 x6 => ?_
            rw [if_pos rfl]
            split at e2
            · rename_i ds1 chk1 Sc h3
              split at e2
              · rename_i ys Sd h4
                split at e2
                · rename_i hck
                  split at e2
                  · rename_i zs Se h5
                    cases e2
                    refine ei1 ρ1 Sb ds1 chk1 Sc h3 w6 σ5 H6 s6 _ fun J1 w7 H7 s7 x7 jd1 hk1 => ?_
                    have xx := ((x4.trans x5).trans x6).trans x7
                    refine loop_ok eg1 et1 ee jd1 ⟨fun _ _ => rfl, fun _ _ e => e, fun _ _ e => e, Nat.le_refl _⟩ (x.trans xx) s7 hk1 (aw.ext xx) (ln.ext xx) hP h4 ?_ fun w8 H8 acc8 c8 x8 r8 aw8 ln8 _ => ?_
                    · have hlen := congrArg List.length hy
                      simp only [List.length_append] at hlen ⊢
                      omega
                    · exact ⟨w8, Sd, acc8, aD ++ ys, zs, s.ofWR c8 (xx.wr.trans r8), x8, hck, aw8, ln8, h5, by rw [List.append_assoc]; exact hy⟩
                  · cases e2
                · cases e2
              · cases e2
            · cases e2
          · rename_i Sb h2
            refine et ρ1 Sa false Sb h2 w5 σ5 H5 s5 _ fun w6 H6 s6 x6 => ?_
            rw [if_neg (by decide)]
            split at e2
            · rename_i hck
              have xx := (x4.trans x5).trans x6
              exact ⟨w6, Sb, acc, aD, ys', s.ofCore s6.core xx, x.trans xx, hck, aw.ext xx, ln.ext xx, e2, hy⟩
            · cases e2
          · cases e2
        · cases e2
    · cases e
  · cases e

/-! ### the rules -/
variable {scope : Scope} {own : List (Str × Nat)} {ifs ifs1 : List Expr} {elt tg1 iter1 : Expr} {mk : List D → Sto → Option (D × Sto)} {ri1 : RI} {g1 : RG} {tt1 : RT} {vs1 : List Nat}
theorem de_lc (hmk : MkL mk) (hc : X.calm = true) (hN : X.N.Nodup) (hi : DI X G tg iter ri) (ok : BlkOk X.N X.env.scope scope own)
    (hg : ∀ (s : Shared) (H : Hp) (C : Addr) (cl : List (Str × Addr)) (fp : List Addr), DGw (X.blk s H scope (compEnvC scope cl C X.env) fp) G (own.map (·.2)) tg g) (ht : ∀ (s : Shared) (H : Hp) (C : Addr) (cl : List (Str × Addr)) (fp : List Addr), DTs (X.blk s H scope (compEnvC scope cl C X.env) fp) G ifs tt)
    (he : ∀ (s : Shared) (H : Hp) (C : Addr) (cl : List (Str × Addr)) (fp : List Addr), DE (X.blk s H scope (compEnvC scope cl C X.env) fp) G elt te) (hs : ∀ x, foldedSetIterable iter X.env x = pure x := by intro _; rfl) :
    DE X G (.ListComp elt [⟨tg, iter, ifs, 0⟩] scope pos) (eLc mk ri g tt te (own.map (·.2))) :=
  ⟨_, pe_lc hc hN hi.pi ok (fun s H C cl fp => (hg s H C cl fp).pg) (fun s H C cl fp => (ht s H C cl fp).pts) (fun s H C cl fp => (he s H C cl fp).pe) hs, ev_lc hmk evi_of evg_of evt_of ev_of⟩
theorem evs_setE {i : Nat} {xe : TE} (h : Ev G xe te) : EvS G (tAsg xe (gName i)) (sSet i te) := fun ρ S o e w σ H s D p => by
  unfold sSet at e
  split at e
  · rename_i d S1 h1
    cases e
    exact h ρ S d S1 h1 w σ H s _ fun w1 v H1 s1 x1 d1 => p w1 _ H1 (s1.set d1 i) x1
  · cases e
theorem ds_setLc {i : Nat} {y : Str} {py spos : Pos} (hmk : MkL mk) (hc : X.calm = true) (hN : X.N.Nodup) (hy : X.N[i]? = some y) (hyl : X.env.scope.names.lookup y = some .local)
    (hsw : swapsWith (.ListComp elt [⟨tg, iter, ifs, 0⟩] scope pos) (some (.Name y py)) spos.line X.env = pure true) (hi : DI X G tg iter ri) (ok : BlkOk X.N X.env.scope scope own)
    (hg : ∀ (s : Shared) (H : Hp) (C : Addr) (cl : List (Str × Addr)) (fp : List Addr), DGw (X.blk s H scope (compEnvC scope cl C X.env) fp) G (own.map (·.2)) tg g) (ht : ∀ (s : Shared) (H : Hp) (C : Addr) (cl : List (Str × Addr)) (fp : List Addr), DTs (X.blk s H scope (compEnvC scope cl C X.env) fp) G ifs tt)
    (he : ∀ (s : Shared) (H : Hp) (C : Addr) (cl : List (Str × Addr)) (fp : List Addr), DE (X.blk s H scope (compEnvC scope cl C X.env) fp) G elt te) (hs : ∀ x, foldedSetIterable iter X.env x = pure x := by intro _; rfl) :
    DS X G (.Assign [.Name y py] (.ListComp elt [⟨tg, iter, ifs, 0⟩] scope pos) spos) (sSet i (eLc mk ri g tt te (own.map (·.2)))) :=
  ⟨_, ps_setLc hc hN hy hyl hsw hi.pi ok (fun s H C cl fp => (hg s H C cl fp).pg) (fun s H C cl fp => (ht s H C cl fp).pts) (fun s H C cl fp => (he s H C cl fp).pe) hs, evs_setE (ev_lc hmk evi_of evg_of evt_of ev_of)⟩
theorem de_lc2 (hmk : MkL mk) (hc : X.calm = true) (hN : X.N.Nodup) (hi : DI X G tg iter ri) (ok : BlkOk X.N X.env.scope scope own) (hv : ∀ i ∈ vs1, i ∈ own.map (·.2))
    (hg : ∀ (s : Shared) (H : Hp) (C : Addr) (cl : List (Str × Addr)) (fp : List Addr), DGw (X.blk s H scope (compEnvC scope cl C X.env) fp) G (own.map (·.2)) tg g) (ht : ∀ (s : Shared) (H : Hp) (C : Addr) (cl : List (Str × Addr)) (fp : List Addr), DTs (X.blk s H scope (compEnvC scope cl C X.env) fp) G ifs tt)
    (hi1 : ∀ (s : Shared) (H : Hp) (C : Addr) (cl : List (Str × Addr)) (fp : List Addr), DI (X.blk s H scope (compEnvC scope cl C X.env) fp) G tg1 iter1 ri1)
    (hg1 : ∀ (s : Shared) (H : Hp) (C : Addr) (cl : List (Str × Addr)) (fp : List Addr), DGw (X.blk s H scope (compEnvC scope cl C X.env) fp) G vs1 tg1 g1) (ht1 : ∀ (s : Shared) (H : Hp) (C : Addr) (cl : List (Str × Addr)) (fp : List Addr), DTs (X.blk s H scope (compEnvC scope cl C X.env) fp) G ifs1 tt1)
    (he : ∀ (s : Shared) (H : Hp) (C : Addr) (cl : List (Str × Addr)) (fp : List Addr), DE (X.blk s H scope (compEnvC scope cl C X.env) fp) G elt te) (hs : ∀ x, foldedSetIterable iter X.env x = pure x := by intro _; rfl) (hs1 : ∀ env x, foldedSetIterable iter1 env x = pure x := by intro _ _; rfl) :
    DE X G (.ListComp elt [⟨tg, iter, ifs, 0⟩, ⟨tg1, iter1, ifs1, 0⟩] scope pos) (eLc2 mk ri g tt ri1 g1 tt1 te (own.map (·.2)) vs1) :=
  ⟨_, pe_lc2 hc hN hi.pi ok hv (fun s H C cl fp => (hg s H C cl fp).pg) (fun s H C cl fp => (ht s H C cl fp).pts) (fun s H C cl fp => (hi1 s H C cl fp).pi) (fun s H C cl fp => (hg1 s H C cl fp).pg) (fun s H C cl fp => (ht1 s H C cl fp).pts) (fun s H C cl fp => (he s H C cl fp).pe) hs hs1,
    ev_lc2 hmk evi_of evg_of evt_of evi_of evg_of evt_of ev_of⟩
theorem ds_setLc2 {i : Nat} {y : Str} {py spos : Pos} (hmk : MkL mk) (hc : X.calm = true) (hN : X.N.Nodup) (hy : X.N[i]? = some y) (hyl : X.env.scope.names.lookup y = some .local)
    (hsw : swapsWith (.ListComp elt [⟨tg, iter, ifs, 0⟩, ⟨tg1, iter1, ifs1, 0⟩] scope pos) (some (.Name y py)) spos.line X.env = pure true) (hi : DI X G tg iter ri) (ok : BlkOk X.N X.env.scope scope own) (hv : ∀ i ∈ vs1, i ∈ own.map (·.2))
    (hg : ∀ (s : Shared) (H : Hp) (C : Addr) (cl : List (Str × Addr)) (fp : List Addr), DGw (X.blk s H scope (compEnvC scope cl C X.env) fp) G (own.map (·.2)) tg g) (ht : ∀ (s : Shared) (H : Hp) (C : Addr) (cl : List (Str × Addr)) (fp : List Addr), DTs (X.blk s H scope (compEnvC scope cl C X.env) fp) G ifs tt)
    (hi1 : ∀ (s : Shared) (H : Hp) (C : Addr) (cl : List (Str × Addr)) (fp : List Addr), DI (X.blk s H scope (compEnvC scope cl C X.env) fp) G tg1 iter1 ri1)
    (hg1 : ∀ (s : Shared) (H : Hp) (C : Addr) (cl : List (Str × Addr)) (fp : List Addr), DGw (X.blk s H scope (compEnvC scope cl C X.env) fp) G vs1 tg1 g1) (ht1 : ∀ (s : Shared) (H : Hp) (C : Addr) (cl : List (Str × Addr)) (fp : List Addr), DTs (X.blk s H scope (compEnvC scope cl C X.env) fp) G ifs1 tt1)
    (he : ∀ (s : Shared) (H : Hp) (C : Addr) (cl : List (Str × Addr)) (fp : List Addr), DE (X.blk s H scope (compEnvC scope cl C X.env) fp) G elt te) (hs : ∀ x, foldedSetIterable iter X.env x = pure x := by intro _; rfl) (hs1 : ∀ env x, foldedSetIterable iter1 env x = pure x := by intro _ _; rfl) :
    DS X G (.Assign [.Name y py] (.ListComp elt [⟨tg, iter, ifs, 0⟩, ⟨tg1, iter1, ifs1, 0⟩] scope pos) spos) (sSet i (eLc2 mk ri g tt ri1 g1 tt1 te (own.map (·.2)) vs1)) :=
  ⟨_, ps_setLc2 hc hN hy hyl hsw hi.pi ok hv (fun s H C cl fp => (hg s H C cl fp).pg) (fun s H C cl fp => (ht s H C cl fp).pts) (fun s H C cl fp => (hi1 s H C cl fp).pi) (fun s H C cl fp => (hg1 s H C cl fp).pg) (fun s H C cl fp => (ht1 s H C cl fp).pts) (fun s H C cl fp => (he s H C cl fp).pe) hs hs1,
    evs_setE (ev_lc2 hmk evi_of evg_of evt_of evi_of evg_of evt_of ev_of)⟩
end
end DL

set_option maxRecDepth 100000
set_option maxHeartbeats 4000000
set_option pp.maxSteps 900
namespace DL
open PySem PySem.Spec PyProof.Rows L2 GX
open Classical

abbrev Gc.at (G : Gc) (v : Value) : Gc := { G with cv := some v }
section
variable {G : Gc} {X : Cx} {pos gpos p : Pos} {elt tg iter : Expr} {ifs : List Expr} {te : RE} {ri : RI} {tt : RT} {g : RG} {vs : List Nat} {scope : Scope} {own : List (Str × Nat)}
theorem Core.at {w : Wd} {S : Sto} {H : Hp} {v : Value} (c : Core G w S H) : Core (G.at v) w S H := ⟨c.sub, c.fro, c.cel, c.inj, c.tab, c.t0⟩
theorem Core.off {w : Wd} {S : Sto} {H : Hp} {v : Value} (c : Core (G.at v) w S H) : Core G w S H := ⟨c.sub, c.fro, c.cel, c.inj, c.tab, c.t0⟩
/-- the heap behind the making of a code object -/
theorem Core.grown {w : Wd} {S : Sto} {H H' : Hp} {T' : Tb} (c : Core G w S H) (t : TabI G.base T' H') (hT : ∀ a b, w.tb a b → T' a b) (gr : Grown H H') : Core G { w with tb := T' } S H' ∧ Ext w S H { w with tb := T' } S H' := by
  have nt : ∀ a o, w.fr a = some o → ∀ ps, o ≠ .tbl ps := fun a o e ps z => by
    rcases c.fro a o e with ⟨xs, h⟩ | ⟨xs, h⟩ | ⟨ob, u, h⟩ <;> rw [h] at z <;> cases z
  refine ⟨⟨fun a o e => gr.keep a o (c.sub a o e) (nt a o e), c.fro, fun k ce h => ?_, c.inj, t, fun a b e => hT a b (c.t0 a b e)⟩, ⟨fun _ _ => rfl, fun _ _ e => e, hT, Nat.le_refl _, fun k h1 h2 => absurd h2 (Nat.not_lt.mpr h1), fun a o e _ h => gr.keep a o e h, gr.none, fun a u e => .inl e⟩⟩
  obtain ⟨h1, ⟨u, h2, h3⟩, h4⟩ := c.cel k ce h
  refine ⟨h1, ⟨u, gr.keep _ u h2 h3.1, h3⟩, ?_⟩
  cases ce with
  | lst ds =>
    obtain ⟨us, e, l⟩ := h4
    exact ⟨us, gr.keep _ _ e (fun ps z => by cases z), DenL.mono (w := w) (w' := { w with tb := T' }) (n := S.length) (fun _ _ e => e) (fun _ _ => rfl) (Nat.le_refl _) l⟩
  | dct _ => trivial
  | dead => trivial
theorem gturn_tup {J : It} {ds : List D} {chk : Sto → Prop} {gg : TG} {xt : TT} {xe : TE} {w1 w1' : Wd} {S1 S2 : Sto} {H1 H1' : Hp} {ρ : En} {σ : L2.St} {yall : List D} {cv : Value}
    (eg : EvGw (G.at cv) vs gg g) (et : EvT (G.at cv) xt tt) (ee : Ev (G.at cv) xe te) (jd : JD G J ds w1 S1.length chk) (s1 : Sat (G.at cv) w1' (wipeD ρ vs) S1 (L2.wipe σ vs) H1') (x1 : Ext w1 S1 H1 w1' S1 H1') (hk : chk S1)
    (e : compL g tt te chk (wipeD ρ vs) ds S1 = some (yall, S2)) :
    ∃ W, (∃ m, W 0 m [] H1') ∧ GTurn J gg xt xe vs (L2.wipe σ vs) yall.length (fun _ _ _ => True) (fun _ _ => True) (fun ys H => ∃ w, Core G w S2 H ∧ Ext w1' S1 H1' w S2 H ∧ DenL w S2.length ys yall) W := by
  refine ⟨fun i m acc H => ∃ w S aD ys', Core G w S H ∧ Ext w1' S1 H1' w S H ∧ chk S ∧ i + m = ds.length ∧ DenL w S.length acc aD ∧ compL g tt te chk (wipeD ρ vs) (ds.drop i) S = some (ys', S2) ∧ aD ++ ys' = yall,
    ⟨ds.length, w1', S1, [], yall, s1.core.off, Ext.refl .., hk, Nat.zero_add _, .nil, e, rfl⟩, fun i m acc H ⟨w, S, aD, ys', c, x, hc, hm, ln, e, hy⟩ => ?_⟩
  have rr := x1.trans x
  obtain ⟨hstop, hgo⟩ := jd i w S H c rr.fr rr.al rr.sz hc
  cases m with
  | zero =>
    have hi : i = ds.length := by omega
    rw [hi, List.drop_length] at e
    unfold compL at e
    cases e
    rw [List.append_nil] at hy
    subst hy
    exact .inl ⟨hstop hi, w, c, x, ln⟩
  | succ m =>
    have hil : i < ds.length := by omega
    rw [List.drop_eq_getElem_cons hil] at e
    obtain ⟨go, hyl⟩ := hgo ds[i] (List.getElem?_eq_getElem hil)
    unfold compL at e
    refine .inr ⟨go, fun v H2 hyld => ?_⟩
    obtain ⟨w4, c4, x4, d4⟩ := hyl v H2 hyld
    have s4 := s1.ofCore c4.at (x.trans x4)
    split at e
    · rename_i ρ1 Sa h1
      refine eg ds[i] (wipeD ρ vs) S ρ1 Sa h1 w4 _ H2 v s4 d4 _ fun w5 σ5 H5 z5 s5 x5 => ⟨z5.trans wipe_wipe, ?_⟩
      split at e
      · rename_i Sb h2
        refine et ρ1 Sa true Sb h2 w5 σ5 H5 s5 _ fun w6 H6 s6 x6 => ?_
        rw [if_pos rfl]
        split at e
        · rename_i y Sc h3
          refine ee ρ1 Sb y Sc h3 w6 σ5 H6 s6 _ fun w7 vy H7 s7 x7 d7 => ?_
          split at e
          · rename_i hck
            split at e
            · rename_i ys2 Sd h4
              cases e
              have xx := ((x4.trans x5).trans x6).trans x7
              refine ⟨?_, trivial, fun _ => ⟨m, Nat.lt_succ_self m, w7, Sc, aD ++ [y], ys2, s7.core.off, x.trans xx, hck, by omega, (ln.ext xx).app (.cons d7 .nil), h4, by rw [List.append_assoc]; exact hy⟩⟩
              have hlen := congrArg List.length hy
              rw [List.length_append, List.length_cons, ← ln.len] at hlen
              omega
            · cases e
          · cases e
        · cases e
      · rename_i Sb h2
        refine et ρ1 Sa false Sb h2 w5 σ5 H5 s5 _ fun w6 H6 s6 x6 => ?_
        rw [if_neg (by decide)]
        split at e
        · rename_i hck
          have xx := (x4.trans x5).trans x6
          exact ⟨m, Nat.lt_succ_self m, w6, Sb, aD, ys', s6.core.off, x.trans xx, hck, by omega, ln.ext xx, e, hy⟩
        · cases e
      · cases e
    · cases e
/-- what the body of a generator expression computes -/
def GBody (X : Cx) (G : Gc) (k : Nat) (scope : Scope) (vs : List Nat) (tg : Expr) (ifs : List Expr) (elt : Expr) (g : RG) (tt : RT) (te : RE) : Prop :=
  ∀ (s : Shared) (H : Hp) (L : Addr) (cl : List (Str × Addr)) (q : Str) (c' : Addr) (fp : List Addr) (pn : List (Addr × Obj)) (A : Around), Room k A →
    DGw (gx X s H scope L cl q (.ref c') fp pn A) (G.at (.ref c')) vs tg g ∧ DTs (gx X s H scope L cl q (.ref c') fp pn A) (G.at (.ref c')) ifs tt ∧ DE (gx X s H scope L cl q (.ref c') fp pn A) (G.at (.ref c')) elt te
theorem boot_tuple : bootBuiltins "tuple" = some (.type "tuple") := by decide +kernel
theorem boot_all : bootBuiltins "all" = some (.builtin "all") := by decide +kernel
theorem boot_any : bootBuiltins "any" = some (.builtin "any") := by decide +kernel
theorem de_tupGen {k : Nat} (hr : Room (k + 5) X.A) (hm : X.mg "tuple" = none) (hb : G.base = X.base) (hcv : G.cv = some X.env.code) (hc : X.calm = true) (hN : X.N.Nodup) (bm : ∃ P, X.base.BuiltinsAt X.mg P) (hi : DI X G tg iter ri) (ok : BlkOk X.N X.env.scope scope own)
    (hbd : GBody X G k scope (own.map (·.2)) tg ifs elt g tt te) (hg : Gl X "tuple" := by rfl) (hco : scope.isCoroutine = false := by rfl) (h0 : scope.names.lookup (".0" : Str) = some .local := by rfl) (hs : ∀ v, genFold iter X.env v = pure v := by intro _; rfl)
    (he : starEach [.GeneratorExp elt [⟨tg, iter, ifs, 0⟩] scope gpos] X.env = (false, eval (.GeneratorExp elt [⟨tg, iter, ifs, 0⟩] scope gpos) X.env) :: starEach [] X.env := by rfl) :
    DE X G (.Call (.Name "tuple" p) [.GeneratorExp elt [⟨tg, iter, ifs, 0⟩] scope gpos] [] pos) (eLc fTup ri g tt te (own.map (·.2))) := by
  refine ⟨teOf G _, ⟨fun pins s σ H Q I ⟨ρ, S, d, S', w, e, st, q⟩ => ?_⟩, ev_of⟩
  unfold eLc at e
  split at e
  · rename_i ds chk S1 h1
    split at e
    · rename_i yall S2 h2
      have hz : yall.length ≤ 1000000 := by
        unfold fTup at e
        split at e
        · assumption
        · cases e
      refine wpAny_Call_Name_kw (ld_blt I hg hm boot_tuple ?_)
      refine PyProof.Rows.callWith_type1 ?_ he (by rfl)
      rw [he]
      show wpAny _ _ (spliced ((false, eval (.GeneratorExp elt [⟨tg, iter, ifs, 0⟩] scope gpos) X.env) :: backTo pos (starEach [] X.env))) _ _ s
      refine Calls.spliced_cons (thn (gx_made (k := k) (N := yall.length) (Qy := fun _ _ _ => True) (Rs := fun _ _ => True) (Qe := fun ys H2 => ∃ w2, Core G w2 S2 H2 ∧ Ext w S H w2 S2 H2 ∧ DenL w2 S2.length ys yall) (hr.mono (by omega)) hc hN hi.pi ok hco h0 bm hs I ?_) fun u s1 hmd => ?_)
      · refine evi_of ρ S ds chk S1 h1 w σ H st _ fun J w1 H1 s1 x1 jd hk => ?_
        obtain ⟨c, P, hcc, hT⟩ := s1.code _ hcv
        refine ⟨w1.tb, c, P, hcc, hb ▸ s1.core.tab, hT, fun H' T' c' P' t' hTT hT' gr s' L cl qn fp pn A hrA => ?_⟩
        obtain ⟨b1, b2, b3⟩ := hbd s' H' L cl qn c' fp pn A hrA
        obtain ⟨c2, x2⟩ := s1.core.grown (hb ▸ t') hTT gr
        have s2 : Sat (G.at (.ref c')) { w1 with tb := T' } (wipeD ρ (own.map (·.2))) S1 (L2.wipe σ (own.map (·.2))) H' := by
          have z := (s1.ofCore c2 x2).wipe (own.map (·.2))
          exact ⟨z.core.at, z.env, z.len, fun v hv => by cases hv; exact ⟨c', P', rfl, hT'⟩⟩
        obtain ⟨W, hW, ht⟩ := gturn_tup (G := G) evg_of evt_of ev_of jd s2 x2 hk h2
        refine ⟨_, _, _, W, b1.pg, b2.pts, b3.pe, hW, fun i m ys Hh hw => ?_⟩
        rcases ht i m ys Hh hw with ⟨a1, w2, b1, b2, b3⟩ | z
        · exact .inl ⟨a1, w2, b1, (x1.trans x2).trans b2, b3⟩
        · exact .inr z
      · refine Calls.spliced_nil ?_
        refine call_tuple_md hr I.ok.frames (le_line hz) (fun _ _ => trivial) hmd fun s2 acc H2 ys hv hl I2 ⟨w2, c2, x2, l2⟩ => ?_
        have hf : H2 s2.heap.objs.size = none := I2.hok.fresh (Nat.le_refl _)
        refine ⟨.ref s2.heap.objs.size, upd H2 s2.heap.objs.size (.tup ys), I2.laid (t' := s2.toks) (fun b u e => Heap.get?_push_of_some _ e) (Nat.le_refl _) ?_, rfl, ?_⟩
        · exact ⟨Nat.le_trans hl (le_line hz), acc, hv, ⟨_, Heap.get?_push_size _ rfl, rfl, _, rfl⟩⟩
        · exact (new_tup (st.ofCore c2 x2) l2 e fun w3 v3 H3 s3 x3 d3 => q w3 v3 H3 s3 (x2.trans x3) d3).2 _ hf
    · cases e
  · cases e

/-! ### all, any -/
noncomputable def quantL (stop : Bool) (g : RG) (c : RT) (e : RE) (chk : Sto → Prop) (ρ : En) : List D → Sto → Option (Bool × Sto)
  | [], S => some (!stop, S)
  | d :: ds, S => match g d ρ S with
    | some (ρ1, S1) => (match c ρ1 S1 with
      | some (true, S2) => (match e ρ1 S2 with
        | some (.bl b, S3) => if b = stop then some (stop, S3) else if chk S3 then quantL stop g c e chk ρ ds S3 else none
        | _ => none)
      | some (false, S2) => if chk S2 then quantL stop g c e chk ρ ds S2 else none
      | none => none)
    | none => none
@[simp] noncomputable def tGenQ (stop : Bool) (it : RI) (g : RG) (c : RT) (e : RE) (vs : List Nat) : RT := fun ρ S => match it ρ S with
  | some (ds, chk, S1) => quantL stop g c e chk (wipeD ρ vs) ds S1
  | none => none
@[simp] def eBl (t : RT) : RE := fun ρ S => match t ρ S with | some (b, S1) => some (.bl b, S1) | none => none
theorem gturn_q {J : It} {ds : List D} {chk : Sto → Prop} {gg : TG} {xt : TT} {xe : TE} {w1 w1' : Wd} {S1 S2 : Sto} {H1 H1' : Hp} {ρ : En} {σ : L2.St} {stop r : Bool} {cv : Value}
    (eg : EvGw (G.at cv) vs gg g) (et : EvT (G.at cv) xt tt) (ee : Ev (G.at cv) xe te) (jd : JD G J ds w1 S1.length chk) (s1 : Sat (G.at cv) w1' (wipeD ρ vs) S1 (L2.wipe σ vs) H1') (x1 : Ext w1 S1 H1 w1' S1 H1') (hk : chk S1)
    (e : quantL stop g tt te chk (wipeD ρ vs) ds S1 = some (r, S2)) :
    ∃ W, (∃ m, W 0 m [] H1') ∧ GTurn J gg xt xe vs (L2.wipe σ vs) ds.length (fun _ x H => ∃ b, x = .bl b ∧ (b = stop → r = stop ∧ ∃ w, Core G w S2 H ∧ Ext w1' S1 H1' w S2 H)) (fun _ x => x = .bl (!stop)) (fun _ H => r = !stop ∧ ∃ w, Core G w S2 H ∧ Ext w1' S1 H1' w S2 H) W := by
  refine ⟨fun i m acc H => ∃ w S, Core G w S H ∧ Ext w1' S1 H1' w S H ∧ chk S ∧ i + m = ds.length ∧ acc.length ≤ i ∧ quantL stop g tt te chk (wipeD ρ vs) (ds.drop i) S = some (r, S2),
    ⟨ds.length, w1', S1, s1.core.off, Ext.refl .., hk, Nat.zero_add _, Nat.le_refl _, e⟩, fun i m acc H ⟨w, S, c, x, hc, hm, hl, e⟩ => ?_⟩
  have rr := x1.trans x
  obtain ⟨hstop, hgo⟩ := jd i w S H c rr.fr rr.al rr.sz hc
  cases m with
  | zero =>
    have hi : i = ds.length := by omega
    rw [hi, List.drop_length] at e
    unfold quantL at e
    cases e
    exact .inl ⟨hstop hi, rfl, w, c, x⟩
  | succ m =>
    have hil : i < ds.length := by omega
    rw [List.drop_eq_getElem_cons hil] at e
    obtain ⟨go, hyl⟩ := hgo ds[i] (List.getElem?_eq_getElem hil)
    unfold quantL at e
    refine .inr ⟨go, fun v H2 hyld => ?_⟩
    obtain ⟨w4, c4, x4, d4⟩ := hyl v H2 hyld
    have s4 := s1.ofCore c4.at (x.trans x4)
    split at e
    · rename_i ρ1 Sa h1
      refine eg ds[i] (wipeD ρ vs) S ρ1 Sa h1 w4 _ H2 v s4 d4 _ fun w5 σ5 H5 z5 s5 x5 => ⟨z5.trans wipe_wipe, ?_⟩
      split at e
      · rename_i Sb h2
        refine et ρ1 Sa true Sb h2 w5 σ5 H5 s5 _ fun w6 H6 s6 x6 => ?_
        rw [if_pos rfl]
        split at e
        · rename_i b Sc h3
          refine ee ρ1 Sb _ Sc h3 w6 σ5 H6 s6 _ fun w7 vy H7 s7 x7 d7 => ?_
          have xx := ((x4.trans x5).trans x6).trans x7
          cases den_bl d7
          refine ⟨by omega, ⟨b, rfl, fun hb => ?_⟩, fun hb => ?_⟩
          · rw [if_pos hb] at e
            cases e
            exact ⟨rfl, w7, s7.core.off, x.trans xx⟩
          · have hb : b = !stop := by cases hb; rfl
            rw [if_neg (by rw [hb]; cases stop <;> decide)] at e
            split at e
            · rename_i hck
              exact ⟨m, Nat.lt_succ_self m, w7, Sc, s7.core.off, x.trans xx, hck, by omega, by rw [List.length_append]; show acc.length + 1 ≤ i + 1; omega, e⟩
            · cases e
        · cases e
      · rename_i Sb h2
        refine et ρ1 Sa false Sb h2 w5 σ5 H5 s5 _ fun w6 H6 s6 x6 => ?_
        rw [if_neg (by decide)]
        split at e
        · rename_i hck
          have xx := (x4.trans x5).trans x6
          exact ⟨m, Nat.lt_succ_self m, w6, Sb, s6.core.off, x.trans xx, hck, by omega, by omega, e⟩
        · cases e
      · cases e
    · cases e
theorem gen_q {k : Nat} {stop : Bool} {pins : List (Addr × Obj)} {s : Shared} {σ : L2.St} {H : Hp} {ρ : En} {S S1 S2 : Sto} {w : Wd} {ds : List D} {chk : Sto → Prop} {r : Bool} (hr : Room 1 X.A) (hb : G.base = X.base) (hcv : G.cv = some X.env.code) (hc : X.calm = true) (hN : X.N.Nodup) (bm : ∃ P, X.base.BuiltinsAt X.mg P) (hi : DI X G tg iter ri) (ok : BlkOk X.N X.env.scope scope own)
    (hbd : GBody X G k scope (own.map (·.2)) tg ifs elt g tt te) (hco : scope.isCoroutine = false) (h0 : scope.names.lookup (".0" : Str) = some .local) (hs : ∀ v, genFold iter X.env v = pure v) (I : Inv X pins σ H s) (st : Sat G w ρ S σ H)
    (h1 : ri ρ S = some (ds, chk, S1)) (h2 : quantL stop g tt te chk (wipeD ρ (own.map (·.2))) ds S1 = some (r, S2)) :
    wpAny (model X.prog X.w) X.A (eval (.GeneratorExp elt [⟨tg, iter, ifs, 0⟩] scope gpos) X.env) (GMd X k pins σ ds.length (fun _ x H' => ∃ b, x = .bl b ∧ (b = stop → r = stop ∧ ∃ w', Core G w' S2 H' ∧ Ext w S H w' S2 H')) (fun _ x => x = .bl (!stop)) (fun _ H' => r = !stop ∧ ∃ w', Core G w' S2 H' ∧ Ext w S H w' S2 H')) X.xe s := by
  refine gx_made (k := k) hr hc hN hi.pi ok hco h0 bm hs I ?_
  refine evi_of ρ S ds chk S1 h1 w σ H st _ fun J w1 H1 s1 x1 jd hk => ?_
  obtain ⟨c, P, hcc, hT⟩ := s1.code _ hcv
  refine ⟨w1.tb, c, P, hcc, hb ▸ s1.core.tab, hT, fun H' T' c' P' t' hTT hT' gr s' L cl qn fp pn A hrA => ?_⟩
  obtain ⟨b1, b2, b3⟩ := hbd s' H' L cl qn c' fp pn A hrA
  obtain ⟨c2, x2⟩ := s1.core.grown (hb ▸ t') hTT gr
  have s2 : Sat (G.at (.ref c')) { w1 with tb := T' } (wipeD ρ (own.map (·.2))) S1 (L2.wipe σ (own.map (·.2))) H' := by
    have z := (s1.ofCore c2 x2).wipe (own.map (·.2))
    exact ⟨z.core.at, z.env, z.len, fun v hv => by cases hv; exact ⟨c', P', rfl, hT'⟩⟩
  obtain ⟨W, hW, ht⟩ := gturn_q (G := G) evg_of evt_of ev_of jd s2 x2 hk h2
  have xx := x1.trans x2
  refine ⟨_, _, _, W, b1.pg, b2.pts, b3.pe, hW, fun i m ys Hh hw => ?_⟩
  rcases ht i m ys Hh hw with ⟨a1, b1, w2, b2, b3⟩ | ⟨a1, z⟩
  · exact .inl ⟨a1, b1, w2, b2, xx.trans b3⟩
  · refine .inr ⟨a1, fun x H' hy => ?_⟩
    have z := z x H' hy
    obtain ⟨d, ρ2, Sx, ρ', S', w', z1, z2, z3, z4⟩ := z
    refine ⟨d, ρ2, Sx, ρ', S', w', z1, z2, z3, fun w'' σ' H'' y1 y2 y3 => ?_⟩
    obtain ⟨z5, ρa, Sa, b, Sa', wa, z6, z7, z8⟩ := z4 w'' σ' H'' y1 y2 y3
    refine ⟨z5, ρa, Sa, b, Sa', wa, z6, z7, fun wb Hb y4 y5 => ?_⟩
    have z9 := z8 wb Hb y4 y5
    cases b with
    | false => exact z9
    | true =>
      show teOf (G.at (Value.ref c')) te σ' Hb _
      obtain ⟨ρc, Sc, dc, Sc', wc, y6, y7, y8⟩ := z9
      refine ⟨ρc, Sc, dc, Sc', wc, y6, y7, fun wd vd Hd y9 y10 y11 => ?_⟩
      obtain ⟨u1, ⟨b, u2, u3⟩, u4⟩ := y8 wd vd Hd y9 y10 y11
      exact ⟨u1, ⟨b, u2, fun hb => let ⟨q1, w9, q2, q3⟩ := u3 hb; ⟨q1, w9, q2, xx.trans q3⟩⟩, u4⟩
theorem de_allGen {k : Nat} (hr : Room (k + 5) X.A) (hm : X.mg "all" = none) (hb : G.base = X.base) (hcv : G.cv = some X.env.code) (hc : X.calm = true) (hN : X.N.Nodup) (bm : ∃ P, X.base.BuiltinsAt X.mg P) (hi : DI X G tg iter ri) (ok : BlkOk X.N X.env.scope scope own)
    (hbd : GBody X G k scope (own.map (·.2)) tg ifs elt g tt te) (hg : Gl X "all" := by rfl) (hco : scope.isCoroutine = false := by rfl) (h0 : scope.names.lookup (".0" : Str) = some .local := by rfl) (hs : ∀ v, genFold iter X.env v = pure v := by intro _; rfl)
    (he : starEach [.GeneratorExp elt [⟨tg, iter, ifs, 0⟩] scope gpos] X.env = (false, eval (.GeneratorExp elt [⟨tg, iter, ifs, 0⟩] scope gpos) X.env) :: starEach [] X.env := by rfl) :
    DE X G (.Call (.Name "all" p) [.GeneratorExp elt [⟨tg, iter, ifs, 0⟩] scope gpos] [] pos) (eBl (tGenQ false ri g tt te (own.map (·.2)))) := by
  refine ⟨teOf G _, ⟨fun pins s σ H Q I ⟨ρ, S, d, S', w, e, st, q⟩ => ?_⟩, ev_of⟩
  unfold eBl tGenQ at e
  split at e
  · rename_i r S2 e0
    cases e
    split at e0
    · rename_i ds chk S1 h1
      refine wpAny_Call_Name_kw (ld_blt I hg hm boot_all ?_)
      refine PyProof.Rows.callWith_builtin1 ?_ he (by rfl)
      rw [he]
      show wpAny _ _ (spliced ((false, eval (.GeneratorExp elt [⟨tg, iter, ifs, 0⟩] scope gpos) X.env) :: backTo pos (starEach [] X.env))) _ _ s
      refine Calls.spliced_cons (thn (gen_q (stop := false) (hr.mono (by omega)) hb hcv hc hN bm hi ok hbd hco h0 hs I st h1 e0) fun u s1 hmd => ?_)
      refine Calls.spliced_nil ?_
      refine call_all_md (hr.mono (by omega)) I.ok.frames hmd (fun s2 H2 I2 ⟨hb2, w2, c2, x2⟩ => ?_) (fun s2 H2 I2 ⟨hb2, w2, c2, x2⟩ => ?_)
      · exact ⟨.bl true, H2, I2, rfl, q w2 _ H2 (st.ofCore c2 x2) x2 (by rw [hb2]; exact .bl true)⟩
      · exact ⟨.bl false, H2, I2, rfl, q w2 _ H2 (st.ofCore c2 x2) x2 (by rw [hb2]; exact .bl false)⟩
    · cases e0
  · cases e
theorem de_anyGen {k : Nat} (hr : Room (k + 5) X.A) (hm : X.mg "any" = none) (hb : G.base = X.base) (hcv : G.cv = some X.env.code) (hc : X.calm = true) (hN : X.N.Nodup) (bm : ∃ P, X.base.BuiltinsAt X.mg P) (hi : DI X G tg iter ri) (ok : BlkOk X.N X.env.scope scope own)
    (hbd : GBody X G k scope (own.map (·.2)) tg ifs elt g tt te) (hg : Gl X "any" := by rfl) (hco : scope.isCoroutine = false := by rfl) (h0 : scope.names.lookup (".0" : Str) = some .local := by rfl) (hs : ∀ v, genFold iter X.env v = pure v := by intro _; rfl)
    (he : starEach [.GeneratorExp elt [⟨tg, iter, ifs, 0⟩] scope gpos] X.env = (false, eval (.GeneratorExp elt [⟨tg, iter, ifs, 0⟩] scope gpos) X.env) :: starEach [] X.env := by rfl) :
    DE X G (.Call (.Name "any" p) [.GeneratorExp elt [⟨tg, iter, ifs, 0⟩] scope gpos] [] pos) (eBl (tGenQ true ri g tt te (own.map (·.2)))) := by
  refine ⟨teOf G _, ⟨fun pins s σ H Q I ⟨ρ, S, d, S', w, e, st, q⟩ => ?_⟩, ev_of⟩
  unfold eBl tGenQ at e
  split at e
  · rename_i r S2 e0
    cases e
    split at e0
    · rename_i ds chk S1 h1
      refine wpAny_Call_Name_kw (ld_blt I hg hm boot_any ?_)
      refine PyProof.Rows.callWith_builtin1 ?_ he (by rfl)
      rw [he]
      show wpAny _ _ (spliced ((false, eval (.GeneratorExp elt [⟨tg, iter, ifs, 0⟩] scope gpos) X.env) :: backTo pos (starEach [] X.env))) _ _ s
      refine Calls.spliced_cons (thn (gen_q (stop := true) (hr.mono (by omega)) hb hcv hc hN bm hi ok hbd hco h0 hs I st h1 e0) fun u s1 hmd => ?_)
      refine Calls.spliced_nil ?_
      refine call_any_md (hr.mono (by omega)) I.ok.frames hmd (fun s2 H2 I2 ⟨hb2, w2, c2, x2⟩ => ?_) (fun s2 H2 I2 ⟨hb2, w2, c2, x2⟩ => ?_)
      · exact ⟨.bl true, H2, I2, rfl, q w2 _ H2 (st.ofCore c2 x2) x2 (by rw [hb2]; exact .bl true)⟩
      · exact ⟨.bl false, H2, I2, rfl, q w2 _ H2 (st.ofCore c2 x2) x2 (by rw [hb2]; exact .bl false)⟩
    · cases e0
  · cases e
end
end DL

set_option maxRecDepth 100000
set_option maxHeartbeats 4000000
set_option pp.maxSteps 900
namespace DL
open PySem PySem.Spec PyProof.Rows L2 GX
open Classical

abbrev FD := List D → Sto → Option (D × Sto)
def SpD (G : Gc) (F : FD) : Sp := fun vs H Q _ => ∃ w S ds d S', Core G w S H ∧ DenL w S.length vs ds ∧ F ds S = some (d, S') ∧ ∀ w' v H', Core G w' S' H' → Ext w S H w' S' H' → Den w' S'.length v d → Q v H'
/-- a def of the text that computes F -/
structure DFn (P : Program) (wd : World) (G : Gc) (mg : Str → Option Value) (k : Nat) (x : Str) (f : Addr) (fd : FuncData) (ps : List Str) (F : FD) : Prop where
  ok : FnOk P wd G.K mg G.base CX0 k f fd ps (SpD G F)
  kp : PySem.W.keepIn G.K (.ref f) = true
  bd : Binds G.K fd ps []
  mg : mg x = some (.ref f)
section
variable {G : Gc} {X : Cx} {pos p : Pos} {e : Expr} {es : List Expr} {ra : RA} {x : Str} {f : Addr} {fd : FuncData} {ps : List Str} {F : FD} {k : Nat}
theorem sp_cv {G : Gc} {cv : Option Value} {F : FD} {vs : List V} {H : Hp} {Q : VK} {E : XK} {w : Wd} {S S' : Sto} {ds : List D} {d : D} (c : Core { G with cv := cv } w S H) (l : DenL w S.length vs ds) (e : F ds S = some (d, S'))
    (q : ∀ w' v H', Core { G with cv := cv } w' S' H' → Ext w S H w' S' H' → Den w' S'.length v d → Q v H') : SpD G F vs H Q E :=
  ⟨w, S, ds, d, S', ⟨c.sub, c.fro, c.cel, c.inj, c.tab, c.t0⟩, l, e, fun w' v H' c' x d => q w' v H' ⟨c'.sub, c'.fro, c'.cel, c'.inj, c'.tab, c'.t0⟩ x d⟩
theorem ev_call {cv : Option Value} {E : XK} {ta : TA} (ha : EvA { G with cv := cv } ta ra) : Ev { G with cv := cv } (tCall (SpD G F) [] E ta) (eA F ra) := fun ρ S d S' e w σ H s Q q => by
  unfold eA at e
  split at e
  · rename_i xs S1 h1
    refine ha ρ S xs S1 h1 w σ H s _ fun w1 vs H1 s1 x1 d1 => ?_
    rw [List.append_nil]
    exact sp_cv s1.core d1 e fun w2 v H2 c2 x2 d2 => q w2 v H2 (s1.ofCore c2 x2) (x1.trans x2) d2
  · cases e
theorem de_call {cv : Option Value} (hf : DFn X.prog X.w G X.mg k x f fd ps F) (hr : Room k X.A) (hK : X.K = G.K) (hB : X.base = G.base) (ha : DA X { G with cv := cv } (e :: es) ra) (hg : Gl X x := by rfl) (hdb : (x == ("__debug__" : Str)) = false := by decide)
    (he : starEach (e :: es) X.env = (false, eval e X.env) :: starEach es X.env := by rfl) (hpl : (backTo pos (starEach es X.env)).any (·.1) = false := by rfl) : DE X { G with cv := cv } (.Call (.Name x p) (e :: es) [] pos) (eA F ra) :=
  let ⟨_, pa, ea⟩ := ha
  ⟨_, pe_call (E := E0) (by rw [hK, hB]; exact hf.ok) hr hg hf.mg (by rw [hK]; exact hf.kp) (by rw [hK]; exact hf.bd) .nil pass0 pa hdb he hpl, ev_call ea⟩

/-! ### the end of a def -/
mutual
@[simp] def clos (n : Nat) : D → Bool
  | .obj k => decide (k < n)
  | .tup xs => closL n xs
  | .lst xs => closL n xs
  | .scr xs => closL n xs
  | _ => true
@[simp] def closL (n : Nat) : List D → Bool
  | [] => true
  | x :: r => clos n x && closL n r
end
mutual
theorem Den.clos {w : Wd} {n m : Nat} : ∀ {v : V} {d : D}, Den w n v d → clos m d = true → Den w m v d
  | _, _, .non, _ => .non
  | _, _, .bl b, _ => .bl b
  | _, _, .int i, _ => .int i
  | _, _, .str x, _ => .str x
  | _, _, .tup r h, e => .tup r (DenL.clos h (by simpa [DL.clos] using e))
  | _, _, .lst r h, e => .lst r (DenL.clos h (by simpa [DL.clos] using e))
  | _, _, .scr r h, e => .scr r (DenL.clos h (by simpa [DL.clos] using e))
  | _, _, .obj h, e => .obj (by simpa [DL.clos] using e)
theorem DenL.clos {w : Wd} {n m : Nat} : ∀ {v : List V} {d : List D}, DenL w n v d → closL m d = true → DenL w m v d
  | _, _, .nil, _ => .nil
  | _, _, .cons h t, e => by
    have e : (DL.clos m _ && closL m _) = true := e
    rw [Bool.and_eq_true] at e
    exact .cons (Den.clos h e.1) (DenL.clos t e.2)
end
mutual
theorem Den.is_clos {w : Wd} {n : Nat} : ∀ {v : V} {d : D}, Den w n v d → clos n d = true
  | _, _, .non => rfl
  | _, _, .bl b => rfl
  | _, _, .int i => rfl
  | _, _, .str x => rfl
  | _, _, .tup r h => DenL.is_clos h
  | _, _, .lst r h => DenL.is_clos h
  | _, _, .scr r h => DenL.is_clos h
  | _, _, .obj h => decide_eq_true h
theorem DenL.is_clos {w : Wd} {n : Nat} : ∀ {v : List V} {d : List D}, DenL w n v d → closL n d = true
  | _, _, .nil => rfl
  | _, _, .cons h t => by
    show (DL.clos n _ && closL n _) = true
    rw [h.is_clos, t.is_clos]; rfl
end
@[simp] def cellClos (n : Nat) : Cell → Bool
  | .lst xs => closL n xs
  | _ => true
theorem Core.cell_clos {w : Wd} {S : Sto} {H : Hp} (c : Core G w S H) : ∀ ce ∈ S, cellClos S.length ce = true := fun ce h => by
  obtain ⟨k, hk⟩ := List.getElem?_of_mem h
  obtain ⟨_, _, h4⟩ := c.cel k ce hk
  cases ce with
  | lst ds => obtain ⟨vs, _, l⟩ := h4; exact l.is_clos
  | dct _ => rfl
  | dead => rfl
/-- what lies behind the first n is forgotten -/
theorem Core.take {w0 w : Wd} {S0 S : Sto} {H0 H : Hp} (c : Core G w S H) (x : Ext w0 S0 H0 w S H) (hc : ∀ ce ∈ S.take S0.length, cellClos S0.length ce = true) :
    Core G w (S.take S0.length) H ∧ Ext w0 S0 H0 w (S.take S0.length) H := by
  have ln : (S.take S0.length).length = S0.length := by rw [List.length_take]; have := x.sz; omega
  refine ⟨⟨c.sub, c.fro, fun k ce h => ?_, fun j k hj hk e => ?_, c.tab, c.t0⟩, ⟨x.al, x.fr, x.tb, by rw [ln]; exact Nat.le_refl _, fun k h1 h2 => by rw [ln] at h2; omega, x.keep, x.non, x.frn⟩⟩
  · have hk : k < S0.length := by have := (List.getElem?_eq_some_iff.mp h).1; rw [ln] at this; exact this
    have hm : ce ∈ S.take S0.length := List.mem_of_getElem? h
    rw [List.getElem?_take_of_lt hk] at h
    obtain ⟨h1, h2, h4⟩ := c.cel k ce h
    refine ⟨h1, h2, ?_⟩
    have hcc := hc ce hm
    cases ce with
    | lst ds => obtain ⟨vs, e, l⟩ := h4; exact ⟨vs, e, by rw [ln]; exact l.clos hcc⟩
    | dct _ => trivial
    | dead => trivial
  · rw [ln] at hj hk
    have := x.sz
    exact c.inj j k (by omega) (by omega) e
/-- how a def ends: the result and the store for the caller -/
def FinOk (fin : D → Sto → Sto → Option (D × Sto)) : Prop := ∀ (G : Gc) (w0 w : Wd) (S0 S S' : Sto) (H0 H : Hp) (v : V) (d d' : D), Core G w0 S0 H0 → Core G w S H → Ext w0 S0 H0 w S H → Den w S.length v d → fin d S0 S = some (d', S') →
  ∃ w', Core G w' S' H ∧ Ext w0 S0 H0 w' S' H ∧ Den w' S'.length v d'
/-- all stays -/
@[simp] def finK : D → Sto → Sto → Option (D × Sto) := fun d _ S => some (d, S)
theorem finK_ok : FinOk finK := fun G w0 w S0 S S' H0 H v d d' c0 c x hd e => by cases e; exact ⟨w, c, x, hd⟩
/-- own lists are forgotten, a returned one is frozen -/
@[simp] def frzD (n : Nat) (d : D) (S : Sto) : Option D := match d with
  | .obj k => if k < n then some (.obj k) else (match S[k]? with | some (.lst xs) => if closL n xs = true then some (.lst xs) else none | _ => none)
  | d => if clos n d = true then some d else none
theorem frz_ok {w0 w : Wd} {S0 S : Sto} {H0 H : Hp} {v : V} {d d' : D} (c : Core G w S H) (x : Ext w0 S0 H0 w S H) (hd : Den w S.length v d) (e : frzD S0.length d S = some d') (hc : ∀ ce ∈ S.take S0.length, cellClos S0.length ce = true) :
    ∃ w', Core G w' (S.take S0.length) H ∧ Ext w0 S0 H0 w' (S.take S0.length) H ∧ Den w' (S.take S0.length).length v d' := by
  have ln : (S.take S0.length).length = S0.length := by rw [List.length_take]; have := x.sz; omega
  obtain ⟨c1, x1⟩ := c.take x hc
  unfold frzD at e
  split at e
  · rename_i k
    split at e
    · rename_i hk
      cases e
      exact ⟨w, c1, x1, hd.clos (by rw [ln]; exact decide_eq_true hk)⟩
    · rename_i hk
      split at e
      · rename_i xs hx
        split at e
        · rename_i hcl
          cases e
          have hkl : k < S.length := (List.getElem?_eq_some_iff.mp hx).1
          obtain ⟨g1, _, vs, g3, l⟩ := c.cel k _ hx
          cases hd with
          | obj _ =>
            have al : ∀ j, j < (S.take S0.length).length → w.al j ≠ w.al k := fun j hj z => by
              rw [ln] at hj
              have := c.inj j k (by have := x.sz; omega) hkl z
              omega
            refine ⟨_, c1.freeze g3 (.inr ⟨vs, rfl⟩) g1 al, ⟨x1.al, fun b u e => ?_, x1.tb, x1.sz, x1.new, x1.keep, x1.non, fun b u e => ?_⟩, den_newL (l.clos (by rw [ln]; exact hcl)) g1⟩
            · have e := x1.fr b u e
              show upd w.fr (w.al k) _ b = some u
              rw [upd_ne (ne_of_none e g1)]; exact e
            · by_cases h : b = w.al k
              · exact .inr (.inl (by rw [h]; exact x.new k (Nat.not_lt.mp hk) hkl))
              · have e : upd w.fr (w.al k) (.lst vs) b = some u := e
                rw [upd_ne h] at e; exact x1.frn b u e
        · cases e
      · cases e
  · split at e
    · rename_i hcl
      cases e
      exact ⟨w, c1, x1, hd.clos (by rw [ln]; exact hcl)⟩
    · cases e
/-- .. the store is as it was -/
@[simp] noncomputable def finP : D → Sto → Sto → Option (D × Sto) := fun d S0 S => match frzD S0.length d S with
  | some d' => if S.take S0.length = S0 then some (d', S0) else none
  | none => none
theorem finP_ok : FinOk finP := fun G w0 w S0 S S' H0 H v d d' c0 c x hd e => by
  unfold finP at e
  split at e
  · rename_i d2 h2
    split at e
    · rename_i ht
      cases e
      obtain ⟨w', c', x', d'⟩ := frz_ok c x hd h2 (by rw [ht]; exact c0.cell_clos)
      rw [ht] at c' x' d'
      exact ⟨w', c', x', d'⟩
    · cases e
  · cases e
/-- .. the store may have changed -/
@[simp] def finM : D → Sto → Sto → Option (D × Sto) := fun d S0 S => match frzD S0.length d S with
  | some d' => if ((S.take S0.length).all (cellClos S0.length)) = true then some (d', S.take S0.length) else none
  | none => none
theorem finM_ok : FinOk finM := fun G w0 w S0 S S' H0 H v d d' c0 c x hd e => by
  unfold finM at e
  split at e
  · rename_i d2 h2
    split at e
    · rename_i ht
      cases e
      exact frz_ok c x hd h2 (by rw [List.all_eq_true] at ht; exact ht)
    · cases e
  · cases e
/-- a def: n parameters, m names -/
@[simp] def startD (m : Nat) (ds : List D) : En := ds.map some ++ List.replicate (m - ds.length) none
@[simp] def fnD (n m : Nat) (fin : D → Sto → Sto → Option (D × Sto)) (t : RS) : FD := fun ds S => if ds.length = n then (match t (startD m ds) S with
  | some (.rt d S1) => fin d S S1
  | some (.nx _ S1) => fin .non S S1
  | _ => none) else none
theorem sat_start {cv : Option Value} {w : Wd} {S : Sto} {H : Hp} {vs : List V} {ds : List D} {N : List Str} (c : Core G w S H) (l : DenL w S.length vs ds) (hcv : ∀ v, cv = some v → ∃ c P, v = .ref c ∧ G.t0 c P) : Sat { G with cv := cv } w (startD N.length ds) S (start N vs) H := by
  refine ⟨⟨c.sub, c.fro, c.cel, c.inj, c.tab, c.t0⟩, fun i d h => ?_, ?_, fun v hv => let ⟨a, b, h1, h2⟩ := hcv v hv; ⟨a, b, h1, c.t0 _ _ h2⟩⟩
  · unfold startD at h
    by_cases hi : i < ds.length
    · rw [List.getElem?_append_left (by simpa using hi), List.getElem?_map] at h
      cases q : ds[i]? with
      | none => rw [q] at h; cases h
      | some d0 =>
        rw [q] at h
        cases h
        obtain ⟨v, hv, dv⟩ := l.get q
        refine ⟨v, ?_, dv⟩
        unfold L2.start
        rw [List.getElem?_append_left (by rw [List.length_map, l.len]; exact hi), List.getElem?_map, hv]
        rfl
    · rw [List.getElem?_append_right (by simpa using hi), List.getElem?_replicate] at h
      split at h <;> cases h
  · unfold startD L2.start
    simp only [List.length_append, List.length_map, List.length_replicate, l.len]
theorem fn_d {P : Program} {wd : World} {mg : Str → Option Value} {name qual : Str} {params : Arguments} {body : List Stmt} {scope : Scope} {dV kV doc pm cdv ct oc : Value} {an od : Option Addr} {osl : Array (Option Value)} {N : List Str} {fin : D → Sto → Sto → Option (D × Sto)} {t : RS} {cv : Option Value}
    (lk : G.K.lookup f = some ⟨oc, od, .func (PySem.W.fnOf name qual params body scope dV kV doc pm an cdv ct), osl⟩) (hcd : PySem.W.codeIn G.K cdv qual = true) (Sc : FnScope N ps scope) (hfin : FinOk fin)
    (hcv : ∀ v, cv = some v → ∃ c P, v = .ref c ∧ G.t0 c P)
    (hbody : ∀ (A : Around) (outer : List Env) (s : Shared) (H : Hp) (E : XK), Room k (A.deeper (envOfC qual scope s.heap.objs.size f cdv)) → DSs (cxOf CX0 P wd G.K mg G.base N qual scope f cdv A outer s H E).nox { G with cv := cv } body t) :
    FnOk P wd G.K mg G.base CX0 (k + 1) f (PySem.W.fnOf name qual params body scope dV kV doc pm an cdv ct) ps (SpD G (fnD ps.length N.length fin t)) := by
  refine fn_of lk hcd Sc (fun vs H Q E h => ?_) fun A outer s H vs Q E hr h => ?_
  · obtain ⟨w, S, ds, d, S', c, l, e, q⟩ := h
    unfold fnD at e
    split at e
    · rename_i hl; rw [l.len]; exact hl
    · cases e
  · obtain ⟨w, S, ds, d, S', c, l, e, q⟩ := h
    unfold fnD at e
    split at e
    · rename_i hl
      obtain ⟨ts, p, ev⟩ := hbody A outer s H E hr
      have st := sat_start (N := N) (cv := cv) c l hcv
      split at e
      · rename_i d1 S1 h1
        refine ⟨ts, p.nox, ev _ _ _ h1 w _ H st _ fun w1 v H1 c1 x1 d1 => ?_⟩
        have c1 : Core G w1 S1 H1 := ⟨c1.sub, c1.fro, c1.cel, c1.inj, c1.tab, c1.t0⟩
        obtain ⟨w2, c2, x2, d2⟩ := hfin G w w1 S S1 S' H H1 v _ d c c1 x1 d1 e
        exact q w2 v H1 c2 x2 d2
      · rename_i ρ1 S1 h1
        refine ⟨ts, p.nox, ev _ _ _ h1 w _ H st _ fun w1 σ1 H1 s1 x1 => ?_⟩
        have c1 : Core G w1 S1 H1 := ⟨s1.core.sub, s1.core.fro, s1.core.cel, s1.core.inj, s1.core.tab, s1.core.t0⟩
        obtain ⟨w2, c2, x2, d2⟩ := hfin G w w1 S S1 S' H H1 .non _ d c c1 x1 .non e
        exact q w2 .non H1 c2 x2 d2
      · cases e
    · cases e
end
end DL

set_option maxRecDepth 100000
set_option maxHeartbeats 4000000
set_option pp.maxSteps 900
namespace DL
open PySem PySem.Spec PyProof.Rows L2 GX
open Classical

/-! ### a list or a tuple -/
inductive SK where | l | t
def SqX (k : SK) (K : PySem.W.Frag) (H : Hp) (a : Addr) (xs : List V) : Prop := match k with | .l => SqL K H a xs | .t => SqT K H a xs
def IsX (k : SK) (h : Heap) (a : Addr) (its : Array Value) : Prop := match k with | .l => h.IsList a its | .t => h.IsTuple a its
def ItX (k : SK) (h : Heap) (it a : Addr) (i : Nat) : Prop := match k with | .l => h.IsListIter it a i | .t => h.IsTupleIter it a i
def obX (k : SK) (a : Addr) : Obj := match k with | .l => { cls := .type "list_iterator", data := .fields #[.ref a, .int 0 0] } | .t => { cls := .type "tuple_iterator", data := .fields #[.ref a, .int 0 0] }
section
variable {X : Cx} {G : Gc} {pins : List (Addr × Obj)} {σ : L2.St} {H : Hp} {s : Shared} {a : Addr} {xs ys : List V} {k k2 : SK}
theorem inv_sx (I : Inv X pins σ H s) (h : SqX k X.K H a xs) : ∃ its : List Value, Vals xs its ∧ IsX k s.heap a its.toArray ∧ a < s.heap.objs.size := by
  cases k with
  | l => obtain ⟨its, r, p, _⟩ := I.list h; exact ⟨its, r, p.isList, p.lt⟩
  | t => obtain ⟨its, r, p, _⟩ := I.tuple h; exact ⟨its, r, p, let ⟨o, e, _⟩ := p; Heap.lt_size e⟩
theorem sx_inj (I : Inv X pins σ H s) (h : SqX k X.K H a xs) (h' : SqX k X.K H a ys) : xs = ys := by
  cases k with
  | l => exact I.list_inj h h'
  | t => exact I.tuple_inj h h'
theorem dr_x {prog : Program} {w : World} {A : Around} (hh : A.handled = none) (it : Addr) (hne : a ≠ it) (items : Array Value) : Draws prog w A it [it, a] items.size (fun i v => items[i]? = some v) (fun i h => ItX k h it a i ∧ IsX k h a items) := by
  cases k with
  | l => exact Draws.list hh it a hne items
  | t => exact Draws.tuple hh it a hne items
theorem bg_x (items : Array Value) : Begins (.ref a) (obX k a) fun h => IsX k h a items := by
  cases k with
  | l => exact begins_list a items
  | t => exact begins_tuple a items
theorem it_new {h : Heap} {it : Addr} (e : h.get? it = some (obX k a)) : ItX k h it a 0 := by
  cases k with
  | l => exact ⟨_, e, rfl, rfl⟩
  | t => exact ⟨_, e, rfl, rfl⟩
theorem it_at {h h' : Heap} {it : Addr} {i : Nat} (x : ItX k h it a i) (e : ∀ o, h.get? it = some o → h'.get? it = some o) : ItX k h' it a i := by
  cases k with
  | l => exact Heap.IsListIter.at x e
  | t => exact Heap.IsTupleIter.at x e
theorem it_obj {h : Heap} {it : Addr} {i : Nat} (x : ItX k h it a i) : ∃ o, h.get? it = some o ∧ ∀ v, o.data ≠ .cell v := by
  cases k with
  | l => obtain ⟨o, e, _, d⟩ := x; exact ⟨o, e, fun v q => by rw [d] at q; cases q⟩
  | t => obtain ⟨o, e, _, d⟩ := x; exact ⟨o, e, fun v q => by rw [d] at q; cases q⟩
theorem is_at {h h' : Heap} {its : Array Value} (x : IsX k h a its) (e : ∀ o, h.get? a = some o → h'.get? a = some o) : IsX k h' a its := by
  cases k with
  | l => exact Heap.IsList.at x e
  | t => exact Heap.IsTuple.at x e

/-! ### enumerate -/
def ItE (k : SK) (K : PySem.W.Frag) (a : Addr) : It :=
  ⟨fun i H => ∃ (xs : List V) (x : V), SqX k K H a xs ∧ xs[i]? = some x, fun i H v H' => ∃ T x, v = .ref T ∧ H T = none ∧ H' = upd H T (.tup [.int (i : Nat), x]) ∧ ∀ xs, SqX k K H a xs → xs[i]? = some x, fun i H => ∃ xs : List V, SqX k K H a xs ∧ xs.length = i⟩
theorem turn_e {P : Program} {w : World} {K : PySem.W.Frag} {elts : List Expr} {kk : Nat} {tpos : Pos} (e it : Addr) (hei : e ≠ it) (hea : e ≠ a) (hia : a ≠ it) :
    L2.Turn P w K (.Tuple elts kk tpos) (ItE k K a) [e, it] e (fun i h => (∃ old, IsEnum h e it ((i : Nat) : Int) old) ∧ ItX k h it a i) where
  mem := by simp
  obj := fun i h st b hb => by
    obtain ⟨⟨old, he⟩, hit⟩ := st
    have z : b = e ∨ b = it := by simpa using hb
    rcases z with z | z
    · rw [z]; exact ⟨_, he, fun v q => nomatch q⟩
    · rw [z]; exact it_obj hit
  keep := fun i h h' st q => let ⟨⟨old, he⟩, hi⟩ := st; ⟨⟨old, q e (by simp) _ he⟩, it_at hi fun o z => q it (by simp) o z⟩
  item := by
    intro X hP hw hK hc i pins s σ H E I hf st hg
    subst hP hw hK
    obtain ⟨⟨old, he⟩, hit⟩ := st
    obtain ⟨xs, x, hq, hx⟩ := hg
    obtain ⟨its, rv, p, hal⟩ := inv_sx I hq
    obtain ⟨u, hu, ru⟩ := rv.get hx
    have hel : e < s.heap.objs.size := Heap.lt_size he
    have hil : it < s.heap.objs.size := by obtain ⟨_, q, _⟩ := it_obj hit; exact Heap.lt_size q
    have hlt : i < its.toArray.size := by
      rw [List.size_toArray, ← rv.length]
      exact (List.getElem?_eq_some_iff.mp hx).1
    refine wpAny_pyNext_enum_itemD (dr_x (A := X.A.in1) (k := k) (I.ok.hd hc) it hia its.toArray) he ⟨hit, p⟩ hlt hei (by simp [hei, hea]) fun u' h' tk hu' ho st' hT hsz hk => ?_
    have eu : u' = u := by
      have z : its.toArray[i]? = some u := by simpa using hu
      rw [z] at hu'; cases hu'; rfl
    subst eu
    refine ⟨_, rfl, wpAny_letOwnedTupleGo_enum (s := { s with heap := h', toks := tk + 1 }) ho fun h'' he' sb => ?_⟩
    have hT2 : h''.get? s.heap.objs.size = some { cls := .type "tuple", data := .seq #[.int i tk, u'] } := (sb.2 _ (Nat.ne_of_gt hel)).trans hT
    have new : ObjOk X.prog X.w (upd H s.heap.objs.size (.tup [.int (i : Nat), x])) h'' s.heap.objs.size (.tup [.int (i : Nat), x]) :=
      ⟨by show 2 ≤ sizeLine; decide, [.int i tk, u'], .cons ⟨_, rfl⟩ (.cons ru .nil), ⟨_, hT2, rfl, _, rfl⟩⟩
    have I1 : Inv X pins σ (upd H s.heap.objs.size (.tup [.int (i : Nat), x])) { s with heap := h'', toks := tk + 1 } :=
      I.turnedNew (ch := [e, it]) (fun b ob hb q => (sb.2 b (fun z => hb (by simp [z]))).trans (hk b ob (fun z => hb (by simp [z])) (fun z => hb (by simp [z])) q)) hf (Nat.le_refl _) new
    refine ⟨.ref s.heap.objs.size, _, I1, rfl, ⟨_, x, rfl, I.hok.fresh (Nat.le_refl _), rfl, fun l hl => by rw [sx_inj I hl hq]; exact hx⟩, ⟨⟨u', ?_⟩, it_at st'.1 fun o q => (sb.2 it (Ne.symm hei)).trans q⟩, fun b hb => ?_⟩
    · have e1 : ((i + 1 : Nat) : Int) = (i : Int) + 1 := by omega
      rw [e1]; exact he'
    · have hb2 : b < s.heap.objs.size := by
        have z : b = e ∨ b = it := by simpa using hb
        rcases z with z | z
        · rw [z]; exact hel
        · rw [z]; exact hil
      rw [upd_ne (Nat.ne_of_lt hb2)]
      exact (hf b hb).1
  done := by
    intro X hP hw hK hc i pins s σ H E I hf st hg
    subst hP hw hK
    obtain ⟨⟨old, he⟩, hit⟩ := st
    obtain ⟨xs, hq, hx⟩ := hg
    obtain ⟨its, rv, p, hal⟩ := inv_sx I hq
    obtain ⟨f0, f1, f2, f3, f4, f5⟩ := hf it (by simp)
    have hi : i = its.toArray.size := by rw [List.size_toArray, ← rv.length]; exact hx.symm
    refine wpAny_pyNext_enum_endD (dr_x (A := X.A.in1) (k := k) (I.ok.hd hc) it hia its.toArray) he ⟨by rw [← hi]; exact hit, p⟩ fun h' eb => ⟨rfl, I.turned (t' := s.toks) (fun b o hb q => eb b o hb q) f0 f1 f3 f4 f5⟩
  self := fun A i s Q E st h => let ⟨⟨_, he⟩, _⟩ := st; wpAny_pyIter_enum he h
theorem meets_enum1 {v : Value} {o : Obj} {Hh : Heap → Prop} (B : Begins v o Hh) :
    Meets (Builtin.«enumerate.__new__» ⟨[.type "enumerate", v], []⟩) (fun _ R s => Hh s.heap ∧
      R (.ok (.ret (.ref (s.heap.push o).objs.size))) { s with heap := (s.heap.push o).push { cls := .type "enumerate", data := .fields #[.none, .bool false, .ref s.heap.objs.size, rawInt 0, .none, .none] } }) :=
  .of_wp fun prog w A R s h => by
    obtain ⟨hp, g, d, tk, os⟩ := s
    obtain ⟨h1, h⟩ := h
    have hsub := sub_enumerate
    have q1 : ∀ {A' : Around} {E : Value → Shared → Prop} {Q : Value → Shared → Prop}, Q (.ref hp.objs.size) ⟨hp.push o, g, d, tk, os⟩ → wpAny (model prog w) A' (pyIter v) Q E ⟨hp, g, d, tk, os⟩ :=
      fun q => B.iter prog w _ _ ⟨hp, g, d, tk, os⟩ _ h1 q
    wp_walk using q1
    refine wpAny_stack_any fun st => wpAny_pure ?_
    split
    · rename_i c _ _ _ _ _
      cases (c == Value.type "enumerate")
      · wp_walk using q1
        exact ⟨_, rfl, h⟩
      · wp_walk using q1
        exact ⟨_, rfl, h⟩
    · wp_walk using q1
      exact ⟨_, rfl, h⟩
theorem enum1_begins {prog : Program} {w : World} {A : Around} {E : Value → Shared → Prop} {s : Shared} {v : Value} {o : Obj} {Hh : Heap → Prop} {Q : Value → Shared → Prop} (B : Begins v o Hh) (h1 : Hh s.heap)
    (h : ∀ h', IsEnum h' (s.heap.objs.size + 1) s.heap.objs.size 0 .none → h'.get? s.heap.objs.size = some o → (∀ b o, s.heap.get? b = some o → h'.get? b = some o) → Q (.ref (s.heap.objs.size + 1)) { s with heap := h' }) :
    wpAny (model prog w) A (call (.type "enumerate") [v]) Q E s := by
  refine callType_new F.called_enumerate (by decide) (F.typeCall_enumerate_1 _) (F.newCall_enumerate_1 _) (fun obj => F.args_object_init_2 obj _) F.entry_enumerate_new (meets_enum1 B) ⟨h1, ?_⟩
  have hz : (s.heap.push o).objs.size = s.heap.objs.size + 1 := Heap.size_push ..
  show _ ∧ _
  rw [hz]
  have he : IsEnum ((s.heap.push o).push { cls := .type "enumerate", data := .fields #[.none, .bool false, .ref s.heap.objs.size, rawInt 0, .none, .none] }) (s.heap.objs.size + 1) s.heap.objs.size 0 .none := by
    have q := Heap.get?_push_size (s.heap.push o) (o := { cls := .type "enumerate", data := .fields #[.none, .bool false, .ref s.heap.objs.size, rawInt 0, .none, .none] }) rfl
    rw [hz] at q; exact q
  exact ⟨⟨_, he, rfl⟩, h _ he (Heap.get?_push_of_some _ (Heap.get?_push_size _ B.free)) fun b o x => Heap.get?_push_of_some _ (Heap.get?_push_of_some _ x)⟩
def iEnX (K : PySem.W.Frag) (ta : TA) : TI := fun σ H R => ta σ H fun vs H1 => ∃ k a xs, vs = [.ref a] ∧ SqX k K H1 a xs ∧ R (ItE k K a) H1
theorem pi_enX {X : Cx} {e : Expr} {ta : TA} {p pos tpos : Pos} {elts : List Expr} {kk : Nat} (hg : Gl X "enumerate") (hm : X.mg "enumerate" = none) (ha : PA X [e] ta) (hs : starEach [e] X.env = [(false, eval e X.env)] := by rfl) :
    PI X (.Tuple elts kk tpos) (.Call (.Name "enumerate" p) [e] [] pos) (iEnX X.K ta) := by
  refine ⟨fun pins s σ H R I h => ?_⟩
  refine Call_ (ld_blt I hg hm boot_enumerate (PyProof.Rows.callWith_type1 (thn (ha.run pos pins s σ H _ I h) fun us s1 ⟨vs, H1, I1, r1, q1⟩ => ?_) hs rfl))
  obtain ⟨k, a, xs, ex, hq, q⟩ := q1
  subst ex
  cases r1 with
  | cons r rr =>
    cases rr
    cases r
    obtain ⟨its, rv, p', hal⟩ := inv_sx I1 hq
    refine enum1_begins (bg_x (k := k) its.toArray) p' fun h' he hit hk => wpAny_pyIter_enum he ?_
    have I2 : Inv X pins σ H1 { s1 with heap := h' } := I1.kept (t' := s1.toks) hk
    refine ⟨s1.heap.objs.size + 1, [s1.heap.objs.size + 1, s1.heap.objs.size], _, _, H1, rfl, I2, turn_e (k := k) (a := a) (s1.heap.objs.size + 1) s1.heap.objs.size (Nat.succ_ne_self _) (Nat.ne_of_gt (Nat.lt_succ_of_lt hal)) (Nat.ne_of_lt hal), ⟨⟨.none, he⟩, it_new hit⟩, fun b hb => ?_, q⟩
    have z : b = s1.heap.objs.size + 1 ∨ b = s1.heap.objs.size := by simpa using hb
    have hle : s1.heap.objs.size ≤ b := by
      rcases z with z | z
      · rw [z]; exact Nat.le_add_right _ _
      · rw [z]; exact Nat.le_refl _
    exact I1.fpOk hle (I1.hok.fresh hle)

/-! ### zip of two -/
def ItZ (k k2 : SK) (K : PySem.W.Frag) (a b : Addr) : It :=
  ⟨fun i H => ∃ (xs ys : List V) (x y : V), SqX k K H a xs ∧ SqX k2 K H b ys ∧ xs[i]? = some x ∧ ys[i]? = some y,
    fun i H v H' => ∃ T x y, v = .ref T ∧ H T = none ∧ H' = upd H T (.tup [x, y]) ∧ (∀ xs, SqX k K H a xs → xs[i]? = some x) ∧ ∀ ys, SqX k2 K H b ys → ys[i]? = some y,
    fun i H => ∃ xs ys : List V, SqX k K H a xs ∧ SqX k2 K H b ys ∧ i ≤ xs.length ∧ i ≤ ys.length ∧ (i = xs.length ∨ i = ys.length)⟩
theorem turn_z {P : Program} {w : World} {K : PySem.W.Frag} {elts : List Expr} {kk : Nat} {tpos : Pos} {b z TI TO i1 i2 : Addr} (Sp : ZipSep2 z TI TO i1 i2 [i1, a] [i2, b]) (ha : a ≠ i1) (hb : b ≠ i2) :
    L2.Turn P w K (.Tuple elts kk tpos) (ItZ k k2 K a b) [z, TI, TO, i1, i2] z (fun i h => IsZip h z TI TO .none ∧ IsTupOf2 h TI (.ref i1) (.ref i2) ∧ (∃ x y, IsTupOf2 h TO x y) ∧ ItX k h i1 a i ∧ ItX k2 h i2 b i) where
  mem := by simp
  obj := fun i h st c hc => by
    obtain ⟨hz, hTI, ⟨x, y, hTO⟩, h1, h2⟩ := st
    have q : c = z ∨ c = TI ∨ c = TO ∨ c = i1 ∨ c = i2 := by simpa using hc
    rcases q with q | q | q | q | q
    · rw [q]; exact ⟨_, hz, fun v q => nomatch q⟩
    · rw [q]; exact ⟨_, hTI, fun v q => nomatch q⟩
    · rw [q]; exact ⟨_, hTO, fun v q => nomatch q⟩
    · rw [q]; exact it_obj h1
    · rw [q]; exact it_obj h2
  keep := fun i h h' st k => by
    obtain ⟨hz, hTI, ⟨x, y, hTO⟩, h1, h2⟩ := st
    exact ⟨k z (by simp) _ hz, k TI (by simp) _ hTI, ⟨x, y, k TO (by simp) _ hTO⟩, it_at h1 fun o q => k i1 (by simp) o q, it_at h2 fun o q => k i2 (by simp) o q⟩
  item := by
    intro X hP hw hK hc i pins s σ H E I hf st hg
    subst hP hw hK
    obtain ⟨hz, hTI, ⟨x0, y0, hTO⟩, h1, h2⟩ := st
    obtain ⟨xs, ys, x, y, hqx, hqy, hx, hy⟩ := hg
    obtain ⟨its, rv, p, _⟩ := inv_sx I hqx
    obtain ⟨its2, rv2, p2, _⟩ := inv_sx I hqy
    obtain ⟨u, hu, ru⟩ := rv.get hx
    obtain ⟨u2, hu2, ru2⟩ := rv2.get hy
    have hzl : z < s.heap.objs.size := Heap.lt_size hz
    have lt1 : i < its.toArray.size := by rw [List.size_toArray, ← rv.length]; exact (List.getElem?_eq_some_iff.mp hx).1
    have lt2 : i < its2.toArray.size := by rw [List.size_toArray, ← rv2.length]; exact (List.getElem?_eq_some_iff.mp hy).1
    refine wpAny_pyNext_zipD2_item Sp (dr_x (A := X.A.in1) (k := k) (I.ok.hd hc) i1 ha its.toArray) (dr_x (A := X.A.in1) (k := k2) (I.ok.hd hc) i2 hb its2.toArray) hz hTI hTO ⟨h1, p⟩ ⟨h2, p2⟩ lt1 lt2 fun u' u2' h' tk hu' hu2' z' TO' st1 st2 hT hsz hk => ?_
    have eu : u' = u := by
      have q : its.toArray[i]? = some u := by simpa using hu
      rw [q] at hu'; cases hu'; rfl
    have eu2 : u2' = u2 := by
      have q : its2.toArray[i]? = some u2 := by simpa using hu2
      rw [q] at hu2'; cases hu2'; rfl
    subst eu eu2
    refine ⟨_, rfl, wpAny_letOwnedTupleGo_zip (s := { s with heap := h', toks := tk }) z' fun h'' z'' sb => ?_⟩
    have hT2 : h''.get? s.heap.objs.size = some { cls := .type "tuple", data := .seq #[u', u2'] } := (sb.2 _ (Nat.ne_of_gt hzl)).trans hT
    have new : ObjOk X.prog X.w (upd H s.heap.objs.size (.tup [x, y])) h'' s.heap.objs.size (.tup [x, y]) :=
      ⟨by show 2 ≤ sizeLine; decide, [u', u2'], .cons ru (.cons ru2 .nil), ⟨_, hT2, rfl, _, rfl⟩⟩
    have I1 : Inv X pins σ (upd H s.heap.objs.size (.tup [x, y])) { s with heap := h'', toks := tk } :=
      I.turnedNew (t' := tk) (ch := [z, TI, TO, i1, i2]) (fun c o hb q => (sb.2 c (fun q' => hb (by simp [q']))).trans (hk c o (fun q' => hb (by simp [q'])) (fun q' => hb (by simp [q'])) (fun q' => hb (by simp [q'])) (fun q' => hb (by simp [q'])) q)) hf (Nat.le_refl _) new
    refine ⟨.ref s.heap.objs.size, _, I1, rfl, ⟨_, x, y, rfl, I.hok.fresh (Nat.le_refl _), rfl, fun l hl => by rw [sx_inj I hl hqx]; exact hx, fun l hl => by rw [sx_inj I hl hqy]; exact hy⟩, ⟨z'', ?_, ⟨u', u2', ?_⟩, ?_, ?_⟩, fun c hcm => ?_⟩
    · exact (sb.2 _ Sp.TIz).trans (hk _ _ Sp.TIz Sp.TITO Sp.TIi1 Sp.TIi2 hTI)
    · exact (sb.2 _ Sp.TOz).trans TO'
    · exact it_at st1.1 fun o q => (sb.2 _ Sp.zi1.symm).trans q
    · exact it_at st2.1 fun o q => (sb.2 _ Sp.zi2.symm).trans q
    · have hlt : c < s.heap.objs.size := by
        have q : c = z ∨ c = TI ∨ c = TO ∨ c = i1 ∨ c = i2 := by simpa using hcm
        rcases q with q | q | q | q | q
        · rw [q]; exact hzl
        · rw [q]; exact Heap.lt_size hTI
        · rw [q]; exact Heap.lt_size hTO
        · rw [q]; obtain ⟨_, e1, _⟩ := it_obj h1; exact Heap.lt_size e1
        · rw [q]; obtain ⟨_, e2, _⟩ := it_obj h2; exact Heap.lt_size e2
      rw [upd_ne (Nat.ne_of_lt hlt)]
      exact (hf c hcm).1
  done := by
    intro X hP hw hK hc i pins s σ H E I hf st hg
    subst hP hw hK
    obtain ⟨hz, hTI, ⟨x0, y0, hTO⟩, h1, h2⟩ := st
    obtain ⟨xs, ys, hqx, hqy, hl1, hl2, hend⟩ := hg
    obtain ⟨its, rv, p, _⟩ := inv_sx I hqx
    obtain ⟨its2, rv2, p2, _⟩ := inv_sx I hqy
    rw [rv.length] at hl1 hend
    rw [rv2.length] at hl2 hend
    exact wpAny_pyNext_zipD2_end Sp (dr_x (A := X.A.in1) (k := k) (I.ok.hd hc) i1 ha its.toArray) (dr_x (A := X.A.in1) (k := k2) (I.ok.hd hc) i2 hb its2.toArray) hz hTI hTO ⟨h1, p⟩ ⟨h2, p2⟩ (by simpa using hl1) (by simpa using hl2) (by simpa using hend) fun h' tk hk => ⟨rfl, I.turnedL (t' := tk) (ch := [z, TI, TO, i1, i2]) (fun c o hb q =>
      hk c o (fun q' => hb (by simp [q'])) (fun q' => hb (by simp [q'])) (fun q' => hb (by simp [q'])) (fun q' => hb (by simp [q'])) q) hf⟩
  self := fun A i s Q E st h => wpAny_pyIter_zip st.1 h
def iZpX (K : PySem.W.Frag) (ta : TA) : TI := fun σ H R => ta σ H fun vs H1 => ∃ k k2 a b xs ys, vs = [.ref a, .ref b] ∧ SqX k K H1 a xs ∧ SqX k2 K H1 b ys ∧ R (ItZ k k2 K a b) H1
theorem pi_zpX {X : Cx} {e e2 : Expr} {ta : TA} {p pos tpos : Pos} {elts : List Expr} {kk : Nat} (hg : Gl X "zip") (hm : X.mg "zip" = none) (ha : PA X [e, e2] ta)
    (hs : starEach [e, e2] X.env = (false, eval e X.env) :: starEach [e2] X.env := by rfl) (hpl : (backTo pos (starEach [e2] X.env)).any (·.1) = false := by rfl) :
    PI X (.Tuple elts kk tpos) (.Call (.Name "zip" p) [e, e2] [] pos) (iZpX X.K ta) := by
  refine ⟨fun pins s σ H R I h => ?_⟩
  refine Call_ (ld_blt I hg hm PyProof.Rows.boot_zip (PyProof.Rows.callWith_type1 (thn (ha.run pos pins s σ H _ I h) fun us s1 ⟨vs, H1, I1, r1, q1⟩ => ?_) hs hpl))
  obtain ⟨k, k2, a, b, xs, ys, ex, hqx, hqy, q⟩ := q1
  subst ex
  cases r1 with
  | cons r rr =>
    cases rr with
    | cons r' rr =>
      cases rr
      cases r
      cases r'
      obtain ⟨its, rv, p1, la⟩ := inv_sx I1 hqx
      obtain ⟨its2, rv2, p2, lb⟩ := inv_sx I1 hqy
      refine zip_begins2 (bg_x (k := k) its.toArray) (bg_x (k := k2) its2.toArray) p1 p2 fun h' hz hTI hTO g1 g2 hsz hk => wpAny_pyIter_zip hz ?_
      have I2 : Inv X pins σ H1 { s1 with heap := h' } := I1.kept (t' := s1.toks) hk
      have sep := zip_sep2 (N := s1.heap.objs.size) (fp1 := [a]) (fp2 := [b]) (fun c hc => by rw [List.mem_singleton.mp hc]; exact la) (fun c hc => by rw [List.mem_singleton.mp hc]; exact lb)
      refine ⟨s1.heap.objs.size + 4, [s1.heap.objs.size + 4, s1.heap.objs.size + 2, s1.heap.objs.size + 3, s1.heap.objs.size, s1.heap.objs.size + 1], _, _, H1, rfl, I2, turn_z (k := k) (k2 := k2) sep (Nat.ne_of_lt la) (Nat.ne_of_lt (Nat.lt_succ_of_lt lb)), ⟨hz, hTI, ⟨_, _, hTO⟩, it_new g1, it_new g2⟩, fun c hcm => ?_, q⟩
      have e' : c = s1.heap.objs.size + 4 ∨ c = s1.heap.objs.size + 2 ∨ c = s1.heap.objs.size + 3 ∨ c = s1.heap.objs.size ∨ c = s1.heap.objs.size + 1 := by simpa using hcm
      have hle : s1.heap.objs.size ≤ c := by
        rcases e' with z | z | z | z | z <;> (rw [z]; first | exact Nat.le_add_right _ _ | exact Nat.le_refl _)
      exact I1.fpOk hle (I1.hok.fresh hle)

/-! ### the rules -/
/-- the items of a sequence, and that they stay -/
@[simp] def seqC (d : D) (S : Sto) : Option (List D × (Sto → Prop)) := match d with
  | .tup xs => some (xs, fun _ => True)
  | .lst xs => some (xs, fun _ => True)
  | .scr xs => some (xs, fun _ => True)
  | .obj k => match S[k]? with | some (.lst xs) => some (xs, fun S' => S'[k]? = some (.lst xs)) | _ => none
  | _ => none
theorem seqC_ok {K : PySem.W.Frag} {w : Wd} {S : Sto} {H : Hp} (c : Core G w S H) {v : V} {d : D} {ds : List D} {chk : Sto → Prop} (h : Den w S.length v d) (e : seqC d S = some (ds, chk)) :
    ∃ a k, v = .ref a ∧ chk S ∧ ∀ (w1 : Wd) (S1 : Sto) (H1 : Hp), Core G w1 S1 H1 → (∀ a o, w.fr a = some o → w1.fr a = some o) → (∀ k, k < S.length → w1.al k = w.al k) → S.length ≤ S1.length → chk S1 → ∃ vs, SqX k K H1 a vs ∧ DenL w1 S1.length vs ds := by
  cases h with
  | non => simp [seqC] at e
  | bl b => simp [seqC] at e
  | int b => simp [seqC] at e
  | str x => simp [seqC] at e
  | tup r l => simp only [seqC] at e; cases e; exact ⟨_, .t, rfl, trivial, fun w1 S1 H1 c1 hf ha hn _ => ⟨_, .inl (.inl (c1.sub _ _ (hf _ _ r))), l.mono hf ha hn⟩⟩
  | lst r l => simp only [seqC] at e; cases e; exact ⟨_, .l, rfl, trivial, fun w1 S1 H1 c1 hf ha hn _ => ⟨_, .inl (.inl (c1.sub _ _ (hf _ _ r))), l.mono hf ha hn⟩⟩
  | scr r l => simp only [seqC] at e; cases e; exact ⟨_, .l, rfl, trivial, fun w1 S1 H1 c1 hf ha hn _ => ⟨_, .inl (rd_sub c1.sub (rd_sub hf r)), l.mono hf ha hn⟩⟩
  | obj hk =>
    simp only [seqC] at e
    split at e
    · rename_i xs hx
      cases e
      refine ⟨_, .l, rfl, hx, fun w1 S1 H1 c1 hf ha hn hck => ?_⟩
      obtain ⟨_, _, vs, hv, l⟩ := c1.cel _ _ hck
      rw [ha _ hk] at hv
      exact ⟨vs, .inl (.inl hv), l⟩
    · cases e
def pairsE (ds : List D) : List D := ds.mapIdx fun i d => .tup [.int (i : Nat), d]
def pairsZ (ds es : List D) : List D := (ds.zip es).map fun p => .tup [p.1, p.2]
@[simp] def iEnum (a : RA) : RI := fun ρ S => match a ρ S with
  | some ([d], S1) => (match seqC d S1 with | some (ds, chk) => some (pairsE ds, chk, S1) | none => none)
  | _ => none
@[simp] def iZip (a : RA) : RI := fun ρ S => match a ρ S with
  | some ([d, e], S1) => (match seqC d S1, seqC e S1 with | some (ds, chk), some (es, chk2) => some (pairsZ ds es, fun S => chk S ∧ chk2 S, S1) | _, _ => none)
  | _ => none
theorem di_enum {p pos tpos : Pos} {elts : List Expr} {kk : Nat} {e : Expr} {ta : RE} (hm : X.mg "enumerate" = none) (ha : DE X G e ta) (hg : Gl X "enumerate" := by rfl) (hs : starEach [e] X.env = [(false, eval e X.env)] := by rfl) :
    DI X G (.Tuple elts kk tpos) (.Call (.Name "enumerate" p) [e] [] pos) (iEnum (aCons ta aNil)) :=
  let ⟨_, pa, ea⟩ := da_cons ha da_nil hs
  ⟨_, pi_enX hg hm pa hs, fun ρ S ds chk S' e w σ H s R q => by
    unfold iEnum at e
    split at e
    · rename_i d S1 h1
      split at e
      · rename_i ds0 chk0 h2
        cases e
        refine ea ρ S _ _ h1 w σ H s _ fun w1 vs H1 s1 x1 d1 => ?_
        obtain ⟨v, rfl, hv⟩ := denL1 d1
        obtain ⟨a, k, rfl, hck, hsq⟩ := seqC_ok (K := X.K) s1.core hv h2
        obtain ⟨vs0, hq0, l0⟩ := hsq w1 _ H1 s1.core (fun _ _ e => e) (fun _ _ => rfl) (Nat.le_refl _) hck
        refine ⟨k, a, vs0, rfl, hq0, q _ w1 H1 s1 x1 (fun i w2 S2 H2 c2 hf ha hn hk2 => ?_) hck⟩
        obtain ⟨vs2, hq2, l2⟩ := hsq w2 S2 H2 c2 hf ha hn hk2
        refine ⟨fun hi => ⟨vs2, hq2, by rw [l2.len, hi]; simp [pairsE]⟩, fun d hd => ?_⟩
        unfold pairsE at hd
        rw [List.getElem?_mapIdx] at hd
        cases hdi : ds0[i]? with
        | none => rw [hdi] at hd; cases hd
        | some di =>
          rw [hdi] at hd
          cases hd
          obtain ⟨u, hu, du⟩ := l2.get hdi
          refine ⟨⟨vs2, u, hq2, hu⟩, fun x H3 ⟨T, x', ex, hT, eH, hx'⟩ => ?_⟩
          subst ex eH
          have hxu := hx' vs2 hq2
          rw [hu] at hxu
          cases hxu
          obtain ⟨c3, x3⟩ := c2.newF (o := .tup [.int (i : Nat), u]) hT (.inl ⟨_, rfl⟩)
          exact ⟨_, c3, x3, den_newT (.cons (.int _) (.cons du .nil)) (c2.fresh hT)⟩
      · cases e
    · cases e⟩
theorem di_zip {p pos tpos : Pos} {elts : List Expr} {kk : Nat} {e e2 : Expr} {ta tb : RE} (hm : X.mg "zip" = none) (ha : DE X G e ta) (hb : DE X G e2 tb) (hg : Gl X "zip" := by rfl) (hs : starEach [e, e2] X.env = (false, eval e X.env) :: starEach [e2] X.env := by rfl) (hs2 : starEach [e2] X.env = (false, eval e2 X.env) :: starEach [] X.env := by rfl) (hpl : (backTo pos (starEach [e2] X.env)).any (·.1) = false := by rfl) :
    DI X G (.Tuple elts kk tpos) (.Call (.Name "zip" p) [e, e2] [] pos) (iZip (aCons ta (aCons tb aNil))) :=
  let ⟨_, pa, ea⟩ := da_cons ha (da_cons hb da_nil hs2) hs
  ⟨_, pi_zpX hg hm pa hs hpl, fun ρ S ds chk S' e w σ H s R q => by
    unfold iZip at e
    split at e
    · rename_i d d' S1 h1
      split at e
      · rename_i ds0 chk0 es0 chk1 h2 h3
        cases e
        refine ea ρ S _ _ h1 w σ H s _ fun w1 vs H1 s1 x1 d1 => ?_
        obtain ⟨v, v2, rfl, hv, hv2⟩ := denL2 d1
        obtain ⟨a, k, rfl, hck, hsq⟩ := seqC_ok (K := X.K) s1.core hv h2
        obtain ⟨b, k2, rfl, hck2, hsq2⟩ := seqC_ok (K := X.K) s1.core hv2 h3
        obtain ⟨vs0, hq0, l0⟩ := hsq w1 _ H1 s1.core (fun _ _ e => e) (fun _ _ => rfl) (Nat.le_refl _) hck
        obtain ⟨us0, hu0, m0⟩ := hsq2 w1 _ H1 s1.core (fun _ _ e => e) (fun _ _ => rfl) (Nat.le_refl _) hck2
        refine ⟨k, k2, a, b, vs0, us0, rfl, hq0, hu0, q _ w1 H1 s1 x1 (fun i w2 S2 H2 c2 hf ha hn hk2 => ?_) ⟨hck, hck2⟩⟩
        obtain ⟨vs2, hq2, l2⟩ := hsq w2 S2 H2 c2 hf ha hn hk2.1
        obtain ⟨us2, hu2, m2⟩ := hsq2 w2 S2 H2 c2 hf ha hn hk2.2
        refine ⟨fun hi => ⟨vs2, us2, hq2, hu2, ?_⟩, fun d hd => ?_⟩
        · rw [l2.len, m2.len, hi]
          unfold pairsZ
          rw [List.length_map, List.length_zip]
          omega
        · unfold pairsZ at hd
          rw [List.getElem?_map] at hd
          cases hz : (ds0.zip es0)[i]? with
          | none => rw [hz] at hd; cases hd
          | some pr =>
            rw [hz] at hd
            cases hd
            obtain ⟨g1, g2⟩ := List.getElem?_zip_eq_some.mp hz
            obtain ⟨u, hu, du⟩ := l2.get g1
            obtain ⟨u', hu', du'⟩ := m2.get g2
            refine ⟨⟨vs2, us2, u, u', hq2, hu2, hu, hu'⟩, fun x H3 ⟨T, x', y', ex, hT, eH, hx', hy'⟩ => ?_⟩
            subst ex eH
            have e1 := hx' vs2 hq2
            rw [hu] at e1
            cases e1
            have e2 := hy' us2 hu2
            rw [hu'] at e2
            cases e2
            obtain ⟨c3, x3⟩ := c2.newF (o := .tup [u, u']) hT (.inl ⟨_, rfl⟩)
            exact ⟨_, c3, x3, den_newT (.cons du (.cons du' .nil)) (c2.fresh hT)⟩
      · cases e
    · cases e⟩
end
end DL

set_option maxRecDepth 100000
set_option maxHeartbeats 4000000
set_option pp.maxSteps 900
namespace DL
open PySem PySem.Spec PyProof.Rows L2 GX
open Classical
section
variable {G : Gc} {X : Cx} {pos p : Pos} {a b c e o : Expr} {es : List Expr} {ta tb tc te : RE} {ra : RA}

/-! ### name op= e, o[i] op= e -/
def AugOk (X : Cx) (G : Gc) (op : Operator) (f : D → D → Sto → Option D) : Prop := ∃ r, PIp X op r ∧ R2Ok G r f
theorem iop_mulW : OpR X (inplaceOp .Mult) (rI CMulW fun i j => .int (i * j)) := opI fun _ _ _ _ _ _ _ hc q => imul_int q hc.ok
theorem g_add : AugOk X G .Add fAdd := ⟨_, iop_add, r_I0 fun x y S d e => by unfold fAdd at e; split at e <;> cases e; exact ⟨_, _, rfl, rfl, fun _ _ => .int _⟩⟩
theorem g_sub : AugOk X G .Sub fSub := ⟨_, iop_sub, r_I0 fun x y S d e => by unfold fSub at e; split at e <;> cases e; exact ⟨_, _, rfl, rfl, fun _ _ => .int _⟩⟩
theorem g_mul : AugOk X G .Mult fMul := ⟨_, iop_mulW, r_I fun x y S d e => by
  unfold fMul at e
  split at e
  · split at e
    · rename_i hc; cases e; exact ⟨_, _, rfl, rfl, hc, fun _ _ => .int _⟩
    · cases e
  · cases e⟩
@[simp] def sAug (i : Nat) (f : D → D → Sto → Option D) (e : RE) : RS := fun ρ S => match ρ[i]? with
  | some (some x) => (match e ρ S with
    | some (y, S1) => (match f x y S1 with | some z => some (.nx (ρ.set i (some z)) S1) | none => none)
    | none => none)
  | _ => none
theorem ds_aug {i : Nat} {x : Str} {op : Operator} {f : D → D → Sto → Option D} {pos' : Pos} (ho : AugOk X G op f) (hN : X.N.Nodup) (hi : X.N[i]? = some x) (hx : Loc X.env.scope x) (he : DE X G e te) (hf : X.fn x = true ∨ X.env.scope.names.lookup x = some .local) :
    DS X G (.AugAssign (.Name x pos') op e pos) (sAug i f te) :=
  let ⟨_, po, eo⟩ := ho; let ⟨_, pa, ea⟩ := he
  ⟨_, ps_aug hN hi hx pa po hf, fun ρ S o e w σ H s D p => by
    unfold sAug at e
    split at e
    · rename_i x0 h0
      split at e
      · rename_i y S1 h1
        split at e
        · rename_i z h2
          cases e
          obtain ⟨v, hv, dv⟩ := s.env i x0 h0
          refine ⟨v, hv, ea ρ S y S1 h1 w σ H s _ fun w1 u H1 s1 x1 d1 => ?_⟩
          exact eo w1 S1 H1 v u x0 y z _ s1.core (dv.ext x1) d1 h2 fun zv dz => p w1 _ H1 (s1.set dz i) x1
        · cases e
      · cases e
    · cases e⟩
/-- o[i] op= e, a list of the store -/
@[simp] def sAugIx (f : D → D → Sto → Option D) (o i e : RE) : RS := fun ρ S => match o ρ S with
  | some (.obj k, S1) => (match i ρ S1 with
    | some (.int z, S2) => (match S2[k]? with
      | some (.lst xs) => (match ixN xs.length z with
        | some j => (match xs[j]? with
          | some x => (match e ρ S2 with
            | some (y, S3) => (match f x y S3 with
              | some r => (match S3[k]? with
                | some (.lst xs2) => if xs2.length = xs.length then some (.nx ρ (S3.set k (.lst (xs2.set j r)))) else none
                | _ => none)
              | none => none)
            | none => none)
          | none => none)
        | none => none)
      | _ => none)
    | _ => none)
  | _ => none
theorem get_seq : PGet X (fun x y H Q => ∃ l xs i v, x = .ref l ∧ y = .int i ∧ SqL X.K H l xs ∧ atI xs i = some v ∧ Q v H) := by
  intro pins s σ H o i ov iv Q I rx ry h
  obtain ⟨p, xs, i, z, rfl, rfl, hq, he, q⟩ := h
  cases rx
  obtain ⟨t, rfl⟩ := ry
  obtain ⟨its, r, pl, hz⟩ := I.list hq
  obtain ⟨j, h1, h2, h3, h4, h5⟩ := atI_get he
  obtain ⟨w, ew, rw'⟩ := r.get h2
  have hl := r.length
  have hn := line63
  have fin : EP X pins σ Q w s := ⟨z, H, I, rw', q⟩
  by_cases h0 : 0 ≤ i
  · have hj : i.toNat = j := by rw [seqIndex_of h0 h5] at h1; exact Option.some.inj h1
    exact wpAny_getItem_list pl.isList h0 (by omega) (by rw [hj]; simpa using ew) fin
  · have hj : (i + (its.toArray.size : Int)).toNat = j := by
      rw [seqIndex_neg (by omega) h4] at h1
      rw [List.size_toArray, ← hl]; exact Option.some.inj h1
    exact wpAny_getItem_list_neg pl.isList (by omega) (by rw [List.size_toArray]; omega) (by omega) (by rw [hj]; simpa using ew) fin
theorem ds_augIx {op : Operator} {f : D → D → Sto → Option D} {tpos : Pos} (hop : AugOk X G op f) (ho : DE X G a ta) (hi : DE X G b tb) (he : DE X G e te)
    (hs : ∀ ov iv new, augStore b ov iv new = (do holding [new, ov, iv] (setItem ov iv new); release [new, ov, iv] []; pure .next) := by intros; rfl) : DS X G (.AugAssign (.Subscript a b tpos) op e pos) (sAugIx f ta tb te) :=
  let ⟨_, pop, eop⟩ := hop; let ⟨_, pa, ea⟩ := ho; let ⟨_, pb, eb⟩ := hi; let ⟨_, pe, ee⟩ := he
  ⟨_, ps_augS pa pb get_seq pe pop set_list hs, fun ρ S out e w σ H s D p => by
    unfold sAugIx at e
    split at e
    · rename_i k S1 h1
      split at e
      · rename_i z S2 h2
        split at e
        · rename_i xs h3
          split at e
          · rename_i j h4
            split at e
            · rename_i x h5
              split at e
              · rename_i y S3 h6
                split at e
                · rename_i r h7
                  split at e
                  · rename_i xs2 h8
                    split at e
                    · rename_i hl
                      cases e
                      refine ea ρ S _ _ h1 w σ H s _ fun w1 ov H1 s1 x1 d1 => eb ρ S1 _ _ h2 w1 σ H1 s1 _ fun w2 iv H2 s2 x2 d2 => ?_
                      have d1' := d1.ext x2
                      obtain ⟨_, _, vs, hv, l⟩ := s2.core.cel _ _ h3
                      cases d1' with
                      | obj hk =>
                        obtain ⟨xv, hxv, dx⟩ := l.get h5
                        refine ⟨_, vs, z, xv, rfl, den_int d2, .inl (.inl hv), by unfold atI; rw [l.len, h4]; exact hxv, ee ρ S2 y S3 h6 w2 σ H2 s2 _ fun w3 yv H3 s3 x3 d3 => ?_⟩
                        refine eop w3 S3 H3 xv yv x y r _ s3.core (dx.ext x3) d3 h7 fun rv dr => ?_
                        obtain ⟨_, _, us, hu, l2⟩ := s3.core.cel _ _ h8
                        rw [x3.al k hk] at hu
                        refine ⟨_, us, z, j, rfl, den_int d2, hu, by rw [l2.len, hl]; exact h4, ?_⟩
                        obtain ⟨c4, x4⟩ := s3.core.setL h8 (l2.set dr j)
                        have e4 : w3.al k = w2.al k := x3.al k hk
                        rw [e4] at c4 x4
                        exact p w3 σ _ (s3.ofCore c4 x4) (((x1.trans x2).trans x3).trans x4)
                    · cases e
                  · cases e
                · cases e
              · cases e
            · cases e
          · cases e
        · cases e
      · cases e
    · cases e⟩

/-! ### constants to a power, three at once -/
@[simp] noncomputable def fPow : D → D → Sto → Option D := fun x y _ => match x, y with | .int i, .int j => if 0 ≤ j ∧ j ≤ 1000000 ∧ i.natAbs < 2 ^ 64 then some (.int (i ^ j.toNat)) else none | _, _ => none
theorem de_pow (ha : DE X G a ta) (hb : DE X G b tb) : DE X G (.BinOp a .Pow b pos) (e2 fPow ta tb) :=
  let ⟨_, pa, ea⟩ := ha; let ⟨_, pb, eb⟩ := hb
  ⟨_, pe_op op_pow pa pb, ev_2 (r_I fun x y S d e => by
    unfold fPow at e
    split at e
    · split at e
      · rename_i hc; cases e; exact ⟨_, _, rfl, rfl, hc, fun _ _ => .int _⟩
      · cases e
    · cases e) ea eb⟩
@[simp] def sPar3 (i j l : Nat) (a : RA) : RS := fun ρ S => match a ρ S with | some ([d, e, f], S1) => some (.nx (((ρ.set i (some d)).set j (some e)).set l (some f)) S1) | _ => none
theorem denL3 {w : Wd} {n : Nat} {xs : List V} {d d2 d3 : D} (h : DenL w n xs [d, d2, d3]) : ∃ v u t, xs = [v, u, t] ∧ Den w n v d ∧ Den w n u d2 ∧ Den w n t d3 := by
  cases h with
  | cons h t =>
    obtain ⟨u, t', rfl, h2, h3⟩ := denL2 t
    exact ⟨_, u, t', rfl, h, h2, h3⟩
theorem ds_par3 {i j l : Nat} {x y z : Str} {px py pz pt : Pos} {kt k2 : Nat} {pt2 : Pos} (hc : X.calm = true) (hN : X.N.Nodup) (hi : X.N[i]? = some x) (hj : X.N[j]? = some y) (hl : X.N[l]? = some z) (hij : i ≠ j) (hil : i ≠ l) (hjl : j ≠ l)
    (hx : X.env.scope.names.lookup x = some .local) (hy : X.env.scope.names.lookup y = some .local) (hz : X.env.scope.names.lookup z = some .local) (ha : DA X G [a, b, c] ra)
    (hw : swappedStores [.Tuple [.Name x px, .Name y py, .Name z pz] kt pt] (.Tuple [a, b, c] k2 pt2) X.env = pure (some [x, y, z]))
    (hs : swapsWithSole [.Tuple [.Name x px, .Name y py, .Name z pz] kt pt] (.Tuple [a, b, c] k2 pt2) pos.line X.env = pure false := by rfl) :
    DS X G (.Assign [.Tuple [.Name x px, .Name y py, .Name z pz] kt pt] (.Tuple [a, b, c] k2 pt2) pos) (sPar3 i j l ra) :=
  let ⟨_, pa, ea⟩ := ha
  ⟨_, ps_par3 hc hN hi hj hl hij hil hjl hx hy hz pa hw hs, fun ρ S o e w σ H s D p => by
    unfold sPar3 at e
    split at e
    · rename_i d d2 d3 S1 h1
      cases e
      refine ea ρ S _ _ h1 w σ H s _ fun w1 vs H1 s1 x1 d1 => ?_
      obtain ⟨v, u, t, rfl, hv, hu, ht⟩ := denL3 d1
      exact ⟨v, u, t, rfl, p w1 _ H1 (((s1.set hv i).set hu j).set ht l) x1⟩
    · cases e⟩

/-! ### sum, max, min -/
@[simp] def intsD : List D → Option (List Int)
  | [] => some []
  | .int i :: r => match intsD r with | some ns => some (i :: ns) | none => none
  | _ :: _ => none
theorem ints_of {w : Wd} {n : Nat} : ∀ {vs : List V} {ds : List D} {ns : List Int}, DenL w n vs ds → intsD ds = some ns → vs = ns.map V.int
  | _, _, _, .nil, e => by unfold intsD at e; cases e; rfl
  | _, _, _, .cons (d := d) h t, e => by
    cases d with
    | int i =>
      unfold intsD at e
      split at e
      · rename_i ns' h2
        cases e
        rw [den_int h, ints_of t h2]; rfl
      · cases e
    | _ => simp [intsD] at e
@[simp] def fSum : List D → Sto → Option (D × Sto) := fun ds S => match ds with
  | [d] => (match seqD d S with | some xs => (match intsD xs with | some ns => some (.int ns.sum, S) | none => none) | none => none)
  | _ => none
def rSumX (K : PySem.W.Frag) : List V → Hp → VK → Prop := fun vs H Q => ∃ (a : Addr) (ns : List Int), vs = [.ref a] ∧ (SqL K H a (ns.map V.int) ∨ SqT K H a (ns.map V.int)) ∧ Q (.int ns.sum) H
theorem cr_sumX (hc : X.calm = true) : CallR X (.builtin "sum") (rSumX X.K) := by
  intro pins s σ H vs us Q I r h
  obtain ⟨a, ns, rfl, hs, q⟩ := h
  rcases hs with hs | hs
  · exact cr_sum hc pins s σ H _ us Q I r ⟨a, ns, rfl, hs, q⟩
  · obtain ⟨its, rv, hl, _⟩ := I.tuple hs
    rw [Vals.ref1 r]
    have hi := rv.ints
    obtain ⟨xs, e⟩ := hi.allInts.items
    have hn : numsOf (intItems xs).toList = ns := by rw [← e]; exact hi.numsOf
    rw [nums_intItems] at hn
    have hl : s.heap.IsTuple a its.toArray := hl
    rw [e] at hl
    refine PySem.W.ktm_sumG (I.ok.hd hc) hl fun h' tk t' hk => ?_
    rw [preSum_eq, List.take_of_length_le (by simp), hn]
    exact ⟨.int _, H, I.kept hk, ⟨_, rfl⟩, q⟩
theorem boot_sum : bootBuiltins "sum" = some (.builtin "sum") := by decide +kernel
theorem de_sum {p : Pos} (hc : X.calm = true) (hm : X.mg "sum" = none) (ha : DE X G a ta) (hg : Gl X "sum" := by rfl) (hs : starEach [a] X.env = (false, eval a X.env) :: starEach [] X.env := by rfl) (hpl : (backTo pos (starEach [] X.env)).any (·.1) = false := by rfl) :
    DE X G (.Call (.Name "sum" p) [a] [] pos) (eA fSum (aCons ta aNil)) :=
  let ⟨_, pa, ea⟩ := da_cons ha da_nil hs
  ⟨_, pe_callB (cr_sumX hc) hg hm boot_sum pa (by decide) (by decide) hs hpl, ev_cb (fun w ρ S σ H xs ds d S' Q s hd e q => by
    unfold fSum at e
    split at e
    · rename_i dd
      obtain ⟨v, rfl, hv⟩ := denL1 hd
      split at e
      · rename_i ys h1
        split at e
        · rename_i ns h2
          cases e
          obtain ⟨a, vs, rfl, hq, l⟩ := seq_ok (K := X.K) s.core hv h1
          rw [ints_of l h2] at hq
          exact ⟨a, ns, rfl, hq, q w _ H s (Ext.refl ..) (.int _)⟩
        · cases e
      · cases e
    · cases e) ea⟩

/-! ### methods of a list of the store -/
@[simp] def fAppend : D → List D → Sto → Option (D × Sto) := fun o xs S => match o, xs with
  | .obj k, [y] => (match S[k]? with | some (.lst ys) => if ys.length < 1000000 then some (.non, S.set k (.lst (ys ++ [y]))) else none | _ => none)
  | _, _ => none
@[simp] def fPop : D → List D → Sto → Option (D × Sto) := fun o xs S => match o, xs with
  | .obj k, [] => (match S[k]? with | some (.lst ys) => (match ys[ys.length - 1]? with | some y => some (y, S.set k (.lst ys.dropLast)) | none => none) | _ => none)
  | _, _ => none
@[simp] def fPopAt : D → List D → Sto → Option (D × Sto) := fun o xs S => match o, xs with
  | .obj k, [.int i] => (match S[k]? with
    | some (.lst ys) => if -(2 ^ 62) ≤ i ∧ i < 2 ^ 62 then (match seqIndex? i ys.length with | some j => (match ys[j]? with | some y => some (y, S.set k (.lst (ys.eraseIdx j))) | none => none) | none => none) else none
    | _ => none)
  | _, _ => none
@[simp] def fReverse : D → List D → Sto → Option (D × Sto) := fun o xs S => match o, xs with
  | .obj k, [] => (match S[k]? with | some (.lst ys) => some (.non, S.set k (.lst ys.reverse)) | _ => none)
  | _, _ => none
/-- o.m(..), o a list of the store -/
@[simp] def eM (f : D → List D → Sto → Option (D × Sto)) (o : RE) (a : RA) : RE := fun ρ S => match o ρ S with
  | some (.obj k, S1) => (match S1[k]? with
    | some (.lst _) => (match a ρ S1 with | some (ys, S2) => f (.obj k) ys S2 | none => none)
    | _ => none)
  | _ => none
theorem DenL.dropLast {w : Wd} {n : Nat} {vs : List V} {ds : List D} (h : DenL w n vs ds) : DenL w n vs.dropLast ds.dropLast := by
  rw [List.dropLast_eq_take, List.dropLast_eq_take, h.len]
  exact h.take _
theorem DenL.erase {w : Wd} {n : Nat} : ∀ {vs : List V} {ds : List D} (k : Nat), DenL w n vs ds → DenL w n (vs.eraseIdx k) (ds.eraseIdx k)
  | _, _, _, .nil => .nil
  | _, _, 0, .cons _ t => t
  | _, _, k + 1, .cons h t => .cons h (DenL.erase k t)
theorem DenL.rev {w : Wd} {n : Nat} : ∀ {vs : List V} {ds : List D}, DenL w n vs ds → DenL w n vs.reverse ds.reverse
  | _, _, .nil => .nil
  | _, _, .cons h t => by rw [List.reverse_cons, List.reverse_cons]; exact (DenL.rev t).app (.cons h .nil)
/-- the list behind o -/
theorem obj_at {w : Wd} {S : Sto} {H : Hp} (c : Core G w S H) {v : V} {k : Nat} {ys : List D} (h : Den w S.length v (.obj k)) (e : S[k]? = some (.lst ys)) : v = .ref (w.al k) ∧ ∃ vs, H (w.al k) = some (.lst vs) ∧ DenL w S.length vs ys := by
  cases h
  obtain ⟨_, _, vs, hv, l⟩ := c.cel _ _ e
  exact ⟨rfl, vs, hv, l⟩
/-- a list's method by values -/
def MOk (G : Gc) (r : V → List V → Hp → VK → Prop) (f : D → List D → Sto → Option (D × Sto)) : Prop :=
  ∀ (w : Wd) (ρ : En) (S : Sto) (σ : L2.St) (H : Hp) (v : V) (xs : List V) (k : Nat) (ds : List D) (d : D) (S' : Sto) (Q : VK), Sat G w ρ S σ H → Den w S.length v (.obj k) → DenL w S.length xs ds → f (.obj k) ds S = some (d, S') →
      (∀ w' v H', Sat G w' ρ S' σ H' → Ext w S H w' S' H' → Den w' S'.length v d → Q v H') → r v xs H Q
theorem ev_m {K : PySem.W.Frag} {r : V → List V → Hp → VK → Prop} {f : D → List D → Sto → Option (D × Sto)} {xo : TE} {xa : TA} (hr : MOk G r f) (ho : Ev G xo ta) (ha : EvA G xa ra) :
    Ev G (tBM K "list" r xo xa) (eM f ta ra) := fun ρ S d S' e w σ H s Q q => by
  unfold eM at e
  split at e
  · rename_i k S1 h1
    split at e
    · rename_i zs hz
      split at e
      · rename_i ys S2 h2
        refine ho ρ S _ S1 h1 w σ H s _ fun w1 v H1 s1 x1 d1 => ?_
        obtain ⟨ev, vs, hv, l⟩ := obj_at s1.core d1 hz
        refine ⟨?_, ha ρ S1 ys S2 h2 w1 σ H1 s1 _ fun w2 us H2 s2 x2 d2 => hr w2 ρ S2 σ H2 v us k ys d S' Q s2 (d1.ext x2) d2 e fun w3 u H3 s3 x3 d3 => q w3 u H3 s3 ((x1.trans x2).trans x3) d3⟩
        rw [ev]
        exact .inl ⟨rfl, vs, .inl (.inl hv)⟩
      · cases e
    · cases e
  · cases e
theorem m_append : MOk G rAppend fAppend := fun w ρ S σ H v xs k ds d S' Q s hv hd e q => by
  unfold fAppend at e
  split at e
  · rename_i k' y hk'
    split at e
    · rename_i ys hy
      split at e
      · rename_i hl
        cases e
        cases hk'
        obtain ⟨rfl, vs, hvs, l⟩ := obj_at s.core hv hy
        obtain ⟨u, rfl, hu⟩ := denL1 hd
        obtain ⟨c1, x1⟩ := s.core.setL hy (l.app (.cons hu .nil))
        exact ⟨_, vs, u, rfl, rfl, hvs, by rw [l.len]; exact lt_line hl, q w _ _ (s.ofCore c1 x1) x1 .non⟩
      · cases e
    · cases e
  · cases e
theorem m_pop : MOk G rPop fPop := fun w ρ S σ H v xs k ds d S' Q s hv hd e q => by
  unfold fPop at e
  split at e
  · rename_i k' hk'
    split at e
    · rename_i ys hy
      split at e
      · rename_i y hl
        cases e
        cases hk'
        obtain ⟨rfl, vs, hvs, l⟩ := obj_at s.core hv hy
        cases hd
        obtain ⟨u, hu, du⟩ := l.get hl
        obtain ⟨c1, x1⟩ := s.core.setL hy l.dropLast
        exact ⟨_, vs, u, rfl, rfl, hvs, by rw [l.len]; exact hu, q w _ _ (s.ofCore c1 x1) x1 (du.ext x1)⟩
      · cases e
    · cases e
  · cases e
theorem m_popAt : MOk G rPopAt fPopAt := fun w ρ S σ H v xs k ds d S' Q s hv hd e q => by
  unfold fPopAt at e
  split at e
  · rename_i k' i hk'
    split at e
    · rename_i ys hy
      split at e
      · rename_i hi
        split at e
        · rename_i j hj
          split at e
          · rename_i y hl
            cases e
            cases hk'
            obtain ⟨rfl, vs, hvs, l⟩ := obj_at s.core hv hy
            obtain ⟨iv, rfl, hiv⟩ := denL1 hd
            cases den_int hiv
            obtain ⟨u, hu, du⟩ := l.get hl
            obtain ⟨c1, x1⟩ := s.core.setL hy (l.erase j)
            have h1 := hi.1
            have h2 := hi.2
            exact ⟨_, vs, i, j, u, rfl, rfl, hvs, by omega, by omega, by rw [l.len]; exact hj, hu, q w _ _ (s.ofCore c1 x1) x1 (du.ext x1)⟩
          · cases e
        · cases e
      · cases e
    · cases e
  · cases e
theorem m_reverse : MOk G rReverse fReverse := fun w ρ S σ H v xs k ds d S' Q s hv hd e q => by
  unfold fReverse at e
  split at e
  · rename_i k' hk'
    split at e
    · rename_i ys hy
      cases e
      cases hk'
      obtain ⟨rfl, vs, hvs, l⟩ := obj_at s.core hv hy
      cases hd
      obtain ⟨c1, x1⟩ := s.core.setL hy l.rev
      exact ⟨_, vs, rfl, rfl, hvs, q w _ _ (s.ofCore c1 x1) x1 .non⟩
    · cases e
  · cases e
section
variable {apos cpos : Pos}
theorem de_append (ho : DE X G o ta) (ha : DA X G (e :: es) ra) (hbase : attributeBase o "append" X.env (eval o X.env) = eval o X.env := by rfl)
    (hfew : ((backTo cpos (starEach (e :: es) X.env)).all (fun x => !x.1) && (backToKw cpos (keywordEach [] X.env)).all (fun x => x.1.isSome) && decide ((e :: es).length + ([] : List Keyword).length + (if ([] : List Keyword).isEmpty then 0 else 1) < 30)) = true := by rfl)
    (hline : (apos.endLine == cpos.line) = true := by rfl) (hs : starEach (e :: es) X.env = (false, eval e X.env) :: starEach es X.env := by rfl) (hplain : (backTo cpos (starEach es X.env)).any (·.1) = false := by rfl) :
    DE X G (.Call (.Attribute o "append" apos) (e :: es) [] cpos) (eM fAppend ta ra) :=
  let ⟨_, po, eo⟩ := ho; let ⟨_, pa, ea⟩ := ha
  ⟨_, pe_bm PySem.F.plainAttrs_list PySem.F.slot_list_append PySem.F.type_list_append mt_append po pa hbase hfew hline hs hplain, ev_m m_append eo ea⟩
theorem de_popAt (ho : DE X G o ta) (ha : DA X G (e :: es) ra) (hbase : attributeBase o "pop" X.env (eval o X.env) = eval o X.env := by rfl)
    (hfew : ((backTo cpos (starEach (e :: es) X.env)).all (fun x => !x.1) && (backToKw cpos (keywordEach [] X.env)).all (fun x => x.1.isSome) && decide ((e :: es).length + ([] : List Keyword).length + (if ([] : List Keyword).isEmpty then 0 else 1) < 30)) = true := by rfl)
    (hline : (apos.endLine == cpos.line) = true := by rfl) (hs : starEach (e :: es) X.env = (false, eval e X.env) :: starEach es X.env := by rfl) (hplain : (backTo cpos (starEach es X.env)).any (·.1) = false := by rfl) :
    DE X G (.Call (.Attribute o "pop" apos) (e :: es) [] cpos) (eM fPopAt ta ra) :=
  let ⟨_, po, eo⟩ := ho; let ⟨_, pa, ea⟩ := ha
  ⟨_, pe_bm PySem.F.plainAttrs_list PySem.F.slot_list_pop PySem.F.type_list_pop mt_popAt po pa hbase hfew hline hs hplain, ev_m m_popAt eo ea⟩
theorem ev_m0 {K : PySem.W.Frag} {r : V → List V → Hp → VK → Prop} {f : D → List D → Sto → Option (D × Sto)} {xo : TE} (hr : MOk G r f) (ho : Ev G xo ta) : Ev G (tBM0 K "list" r xo) (eM f ta aNil) := fun ρ S d S' e w σ H s Q q => by
  unfold eM at e
  split at e
  · rename_i k S1 h1
    split at e
    · rename_i zs hz
      have e : f (.obj k) [] S1 = some (d, S') := e
      refine ho ρ S _ S1 h1 w σ H s _ fun w1 v H1 s1 x1 d1 => ?_
      obtain ⟨ev, vs, hv, l⟩ := obj_at s1.core d1 hz
      refine ⟨?_, hr w1 ρ S1 σ H1 v [] k [] d S' Q s1 d1 .nil e fun w3 u H3 s3 x3 d3 => q w3 u H3 s3 (x1.trans x3) d3⟩
      rw [ev]
      exact .inl ⟨rfl, vs, .inl (.inl hv)⟩
    · cases e
  · cases e
theorem de_pop (ho : DE X G o ta) (hbase : attributeBase o "pop" X.env (eval o X.env) = eval o X.env := by rfl) (hline : (apos.endLine == cpos.line) = true := by rfl) : DE X G (.Call (.Attribute o "pop" apos) [] [] cpos) (eM fPop ta aNil) :=
  let ⟨_, po, eo⟩ := ho
  ⟨_, pe_bm0 PySem.F.plainAttrs_list PySem.F.slot_list_pop PySem.F.type_list_pop mt_pop po hbase hline, ev_m0 m_pop eo⟩
theorem de_reverse (ho : DE X G o ta) (hbase : attributeBase o "reverse" X.env (eval o X.env) = eval o X.env := by rfl) (hline : (apos.endLine == cpos.line) = true := by rfl) : DE X G (.Call (.Attribute o "reverse" apos) [] [] cpos) (eM fReverse ta aNil) :=
  let ⟨_, po, eo⟩ := ho
  ⟨_, pe_bm0 PySem.F.plainAttrs_list PySem.F.slot_list_reverse PySem.F.type_list_reverse mt_reverse po hbase hline, ev_m0 m_reverse eo⟩
end
end
end DL

set_option maxRecDepth 100000
set_option maxHeartbeats 4000000
set_option pp.maxSteps 900
namespace DL
open PySem PySem.Spec PyProof.Rows L2 GX LamX
open Classical

/-- a def of the text as it stands behind the top, its code object at c -/
structure FAt (K : PySem.W.Frag) (mg : Str → Option Value) (x : Str) (st : Stmt) (f c : Addr) : Prop where
  lk : ∃ (oc : Value) (od : Option Addr) (kV doc pm : Value) (an : Option Addr) (ct : Value) (osl : Array (Option Value)), K.lookup f = some ⟨oc, od, .func (PySem.W.fnOf x x (defArgs st) (defBody st) (defScope st) .none kV doc pm an (.ref c) ct), osl⟩
  cd : PySem.W.codeIn K (.ref c) x = true
  kp : PySem.W.keepIn K (.ref f) = true
  mg : mg x = some (.ref f)
/-- .. that computes F -/
structure DFs (P : Program) (wd : World) (G : Gc) (mg : Str → Option Value) (k : Nat) (x : Str) (st : Stmt) (f : Addr) (ps : List Str) (F : FD) : Prop where
  ok : ∃ (kV doc pm : Value) (an : Option Addr) (cdv ct : Value), (∃ (oc : Value) (od : Option Addr) (osl : Array (Option Value)), G.K.lookup f = some ⟨oc, od, .func (PySem.W.fnOf x x (defArgs st) (defBody st) (defScope st) .none kV doc pm an cdv ct), osl⟩) ∧ FnOk P wd G.K mg G.base CX0 k f (PySem.W.fnOf x x (defArgs st) (defBody st) (defScope st) .none kV doc pm an cdv ct) ps (SpD G F)
  kp : PySem.W.keepIn G.K (.ref f) = true
  mg : mg x = some (.ref f)
def BindsP (st : Stmt) (ps : List Str) : Prop := ∀ (x : Str) (kV doc pm : Value) (an : Option Addr) (cdv ct : Value) (us : List Value), us.length = ps.length → bindArgs (PySem.W.fnOf x x (defArgs st) (defBody st) (defScope st) .none kV doc pm an cdv ct) ⟨us, []⟩ = pure (ps.zip us)
@[simp] def pick {α : Type} (idx : List Nat) (xs : List α) : List α := idx.filterMap fun i => xs[i]?
def BindsK (st : Stmt) (ps ks : List Str) (idx : List Nat) : Prop := ∀ (x : Str) (kV doc pm : Value) (an : Option Addr) (cdv ct : Value) (ws : List Value), ws.length = ks.length → bindArgs (PySem.W.fnOf x x (defArgs st) (defBody st) (defScope st) .none kV doc pm an cdv ct) ⟨[], ks.zip ws⟩ = pure (ps.zip (pick idx ws))
section
variable {G : Gc} {X : Cx} {pos p : Pos} {e : Expr} {es : List Expr} {ra : RA} {te : RE} {x : Str} {st : Stmt} {f c : Addr} {ps ks : List Str} {F : FD} {k : Nat} {P : Program} {wd : World} {mg : Str → Option Value}
theorem DFs.mono {j : Nat} (h : DFs P wd G mg k x st f ps F) (hj : k ≤ j) : DFs P wd G mg j x st f ps F :=
  let ⟨a, b, c, d, e, g, lk, h1⟩ := h.ok; ⟨⟨a, b, c, d, e, g, lk, h1.mono hj⟩, h.kp, h.mg⟩
theorem DFs.cv {cv : Option Value} (h : DFs P wd G mg k x st f ps F) : DFs P wd { G with cv := cv } mg k x st f ps F :=
  let ⟨a, b, c, d, e, g, lk, h1⟩ := h.ok; ⟨⟨a, b, c, d, e, g, lk, h1.imp fun vs H Q E ⟨w, S, ds, d, S', c', l, e', q⟩ => ⟨w, S, ds, d, S', ⟨c'.sub, c'.fro, c'.cel, c'.inj, c'.tab, c'.t0⟩, l, e', fun w' v H' c2 x2 d2 => q w' v H' ⟨c2.sub, c2.fro, c2.cel, c2.inj, c2.tab, c2.t0⟩ x2 d2⟩⟩, h.kp, h.mg⟩
/-- f(..) -/
theorem dcall {cv : Option Value} (hf : DFs X.prog X.w G X.mg k x st f ps F) (hb : BindsP st ps) (hr : Room k X.A) (ha : DA X { G with cv := cv } (e :: es) ra) (hK : X.K = G.K := by rfl) (hB : X.base = G.base := by rfl) (hg : Gl X x := by rfl) (hdb : (x == ("__debug__" : Str)) = false := by decide)
    (he : starEach (e :: es) X.env = (false, eval e X.env) :: starEach es X.env := by rfl) (hpl : (backTo pos (starEach es X.env)).any (·.1) = false := by rfl) : DE X { G with cv := cv } (.Call (.Name x p) (e :: es) [] pos) (eA F ra) := by
  obtain ⟨kV, doc, pm, an, cdv, ct, _, hok⟩ := hf.ok
  exact de_call ⟨hok, hf.kp, .all (hb x kV doc pm an cdv ct), hf.mg⟩ hr hK hB ha hg hdb he hpl
def DK (X : Cx) (G : Gc) (kws : List Keyword) (t : RA) : Prop := ∃ ta, PK X kws ta ∧ EvA G ta t
theorem dk_nil : DK X G [] aNil := ⟨_, pk_nil, fun ρ S ds S' e w σ H s Q q => by cases e; exact q w [] H s (Ext.refl ..) .nil⟩
theorem dk_cons {nm : Option Str} {kpos : Pos} {kws : List Keyword} (h : DE X G e te) (h2 : DK X G kws ra) : DK X G (⟨nm, e, kpos⟩ :: kws) (aCons te ra) :=
  let ⟨_, pa, ea⟩ := h; let ⟨_, pb, eb⟩ := h2
  ⟨_, pk_cons pa pb, fun ρ S ds S' e w σ H s Q q => by
    unfold aCons at e
    split at e
    · rename_i x S1 h1
      split at e
      · rename_i xs S2 h2
        cases e
        exact ea ρ S x S1 h1 w σ H s _ fun w1 v H1 s1 x1 d1 => eb ρ S1 xs _ h2 w1 σ H1 s1 _ fun w2 vs H2 s2 x2 d2 => q w2 _ H2 s2 (x1.trans x2) (.cons (d1.ext x2) d2)
      · cases e
    · cases e⟩
theorem pick_vals {vs : List V} {us : List Value} (r : Vals vs us) : ∀ idx : List Nat, Vals (pick idx vs) (pick idx us)
  | [] => .nil
  | i :: rest => by
    have ih := pick_vals r rest
    unfold pick at ih ⊢
    by_cases hi : i < vs.length
    · obtain ⟨v, hv⟩ : ∃ v, vs[i]? = some v := ⟨_, List.getElem?_eq_getElem hi⟩
      obtain ⟨u, hu, ru⟩ := r.get hv
      rw [List.filterMap_cons, List.filterMap_cons, hv, hu]
      exact .cons ru ih
    · have h1 : vs[i]? = none := List.getElem?_eq_none (Nat.not_lt.mp hi)
      have h2 : us[i]? = none := List.getElem?_eq_none (by rw [← r.length]; exact Nat.not_lt.mp hi)
      rw [List.filterMap_cons, List.filterMap_cons, h1, h2]
      exact ih
theorem pick_den {w : Wd} {n : Nat} {vs : List V} {ds : List D} (r : DenL w n vs ds) : ∀ idx : List Nat, DenL w n (pick idx vs) (pick idx ds)
  | [] => .nil
  | i :: rest => by
    have ih := pick_den r rest
    unfold pick at ih ⊢
    by_cases hi : i < ds.length
    · obtain ⟨v, hv⟩ : ∃ v, ds[i]? = some v := ⟨_, List.getElem?_eq_getElem hi⟩
      obtain ⟨u, hu, ru⟩ := r.get hv
      rw [List.filterMap_cons, List.filterMap_cons, hv, hu]
      exact .cons ru ih
    · have h1 : ds[i]? = none := List.getElem?_eq_none (Nat.not_lt.mp hi)
      have h2 : vs[i]? = none := List.getElem?_eq_none (by rw [r.len]; exact Nat.not_lt.mp hi)
      rw [List.filterMap_cons, List.filterMap_cons, h1, h2]
      exact ih
/-- f(k = v, ..) -/
theorem dcallK {cv : Option Value} {kws : List Keyword} {idx : List Nat} (hf : DFs X.prog X.w G X.mg k x st f ps F) (hb : BindsK st ps ks idx) (hr : Room k X.A) (ha : DK X { G with cv := cv } kws ra) (hK : X.K = G.K := by rfl) (hB : X.base = G.base := by rfl) (hg : Gl X x := by rfl) (hdb : (x == ("__debug__" : Str)) = false := by decide)
    (hall : (backToKw pos (keywordEach kws X.env)).all (·.1.isSome) = true := by rfl) (hks : (backToKw pos (keywordEach kws X.env)).filterMap (·.1) = ks := by rfl) (hlen : kws.length = ks.length := by rfl)
    (hpl : ((backTo pos (starEach [] X.env)).any (·.1) || (backToKw pos (keywordEach kws X.env)).any (·.1.isNone)) = false := by rfl) (hn : ∀ (ρ : En) (S : Sto) (xs : List D) (S' : Sto), ra ρ S = some (xs, S') → xs.length = ks.length) :
    DE X { G with cv := cv } (.Call (.Name x p) [] kws pos) (eA (fun xs S => F (pick idx xs) S) ra) := by
  obtain ⟨kV, doc, pm, an, cdv, ct, _, hok⟩ := hf.ok
  obtain ⟨ta, pa, ea⟩ := ha
  refine ⟨teOf _ _, ⟨fun pins s σ H Q I ⟨ρ, S, d, S', w, e, sat, q⟩ => ?_⟩, ev_of⟩
  unfold eA at e
  split at e
  · rename_i xs S1 h1
    have hxl := hn _ _ _ _ h1
    refine wpAny_Call_Name_kw (ld_glob I hg hf.mg ?_ hdb)
    refine PySem.W.callWith_KW0 (h₀ := X.base) I.ok.mod.kin (by rw [hK]; exact hf.kp) hall ?_ hpl
    refine thn (pa.run pos pins s σ H (fun zs H1 => zs.length = xs.length ∧ SpD G F (pick idx zs) H1 Q E0) I (ea ρ S xs S1 h1 w σ H sat _ fun w1 vs H1 s1 x1 d1 => ⟨d1.len, sp_cv s1.core (pick_den d1 idx) e fun w2 v H2 c2 x2 d2 => q w2 v H2 (s1.ofCore c2 x2) (x1.trans x2) d2⟩)) fun ws s2 ⟨zs, H2, I2, rz, hzl, sp⟩ => ⟨I2.kIn, ?_⟩
    rw [hks]
    have hl := hok.len _ _ _ _ sp
    have r2 := pick_vals rz idx
    have hok : FnOk X.prog X.w X.K X.mg X.base CX0 k f (PySem.W.fnOf x x (defArgs st) (defBody st) (defScope st) .none kV doc pm an cdv ct) ps (SpD G F) := by rw [hK, hB]; exact hok
    refine wpAny_call (codeAny_mono (hok.run X.A X.stack s2 H2 ⟨[], ks.zip ws⟩ (pick idx ws) (pick idx zs) Q E0 hr I2.env0 (.of_eq (hb x kV doc pm an cdv ct ws (by rw [← rz.length, hzl, hxl]))) r2 sp) fun r s' hq => ?_)
    cases r with
    | error e => exact hq.elim
    | ok fl =>
      cases fl with
      | ret u => exact I2.after hq
      | next => exact False.elim hq
      | brk => exact False.elim hq
      | cont => exact False.elim hq
  · cases e
/-- THE RULE for a def -/
theorem fn_at {N : List Str} {fin : D → Sto → Sto → Option (D × Sto)} {t : RS} {cv : Option Value} (A : FAt G.K mg x st f c) (Sc : FnScope N ps (defScope st)) (hfin : FinOk fin) (hcv : ∀ v, cv = some v → v = .ref c ∧ ∃ P, G.t0 c P)
    (hbody : ∀ (A : Around) (outer : List Env) (s : Shared) (H : Hp) (E : XK), Room k (A.deeper (envOfC x (defScope st) s.heap.objs.size f (.ref c))) → DSs (cxOf CX0 P wd G.K mg G.base N x (defScope st) f (.ref c) A outer s H E).nox { G with cv := cv } (defBody st) t) :
    DFs P wd G mg (k + 1) x st f ps (fnD ps.length N.length fin t) := by
  obtain ⟨oc, od, kV, doc, pm, an, ct, osl, lk⟩ := A.lk
  exact ⟨⟨kV, doc, pm, an, .ref c, ct, ⟨oc, od, osl, lk⟩, fn_d lk A.cd Sc hfin (fun v hv => let ⟨e, P, h⟩ := hcv v hv; ⟨c, P, e, h⟩) hbody⟩, A.kp, A.mg⟩
end

/-! ### the law -/
def noLists (K : PySem.W.Frag) : Bool := K.all fun p => match p.2.cls with | .type "list" => false | _ => true
theorem lk_mem {a : Addr} {o : Obj} : ∀ {K : List (Addr × Obj)}, K.lookup a = some o → (a, o) ∈ K
  | [], e => by cases e
  | (b, u) :: r, e => by
    rw [List.lookup_cons] at e
    split at e
    · rename_i hb
      have hb := beq_iff_eq.mp hb
      cases e
      rw [hb]; exact List.mem_cons_self
    · exact List.mem_cons_of_mem _ (lk_mem e)
theorem noLists_of {K : PySem.W.Frag} (h : noLists K = true) {a : Addr} {o : Obj} (e : K.lookup a = some o) : o.cls ≠ .type "list" := fun hc => by
  have hm := lk_mem e
  unfold noLists at h
  rw [List.all_eq_true] at h
  have q := h _ hm
  simp only [hc] at q
  cases q
theorem triples_nil : TriplesOk ([] : List Value) := by first | exact trivial | decide | simp [TriplesOk]
theorem law_at {l : PySem.W.OpenLaw} {w : World} {K : PySem.W.Frag} {k n : Nat} {mg : Str → Option Value} {fa : Addr} {h : Heap} {st : Stmt} {x : Str} {ln : Str} {F : FD} (cs : List (Addr × Addr))
    (hT : ∀ p ∈ cs, h.get? p.2 = some { cls := .none, data := .fields #[] }) (hN : ∀ p ∈ cs, K.lookup p.2 = none) (hC : ∀ p ∈ cs, PySem.W.CodeHd h p.1 p.2) (hK : noLists K = true) (hb : BindsP st [x])
    (hlaw : ∀ ns : List Int, ns.length ≤ n → (∀ z ∈ ns, Builtin.Int.intBits z ≤ 1048576) → F [.scr (ns.map D.int)] [] = some (.bl true, []))
    {c : Addr} (A : FAt K mg ln st fa c) (hF : ∀ base : Heap, K.In base → base.Ns mainGlobals mg → (∀ p ∈ cs, TabB base mg p.1 p.2) → DFs l.prog w ⟨base, K, fun c P => (c, P) ∈ cs, none⟩ mg k ln st fa [x] F) : LawAtS l w K CX0 k n x mg fa h := by
  obtain ⟨oc, od, kV, doc, pm, an, ct, osl, lk⟩ := A.lk
  have hF : ∀ base : Heap, K.In base → base.Ns mainGlobals mg → (∀ p ∈ cs, TabB base mg p.1 p.2) → FnOk l.prog w K mg base CX0 k fa (PySem.W.fnOf ln ln (defArgs st) (defBody st) (defScope st) .none kV doc pm an (.ref c) ct) [x] (SpD ⟨base, K, fun c P => (c, P) ∈ cs, none⟩ F) := fun base hk hns ht => by
    obtain ⟨kV', doc', pm', an', cdv', ct', ⟨oc', od', osl', lk'⟩, hok⟩ := (hF base hk hns ht).ok
    have e := congrArg Obj.data (Option.some.inj (lk'.symm.trans lk))
    have e2 := Data.func.inj e
    rw [← e2]; exact hok
  refine ⟨_, cs, fun vs H Q _ => ∃ a ns, vs = [.ref a] ∧ SqL K H a (ns.map V.int) ∧ ns.length ≤ n ∧ (∀ z ∈ ns, Builtin.Int.intBits z ≤ 1048576) ∧ (∀ p ∈ cs, H p.2 = some (.tbl #[])) ∧ ∀ H', Q (.bl true) H', hT, hN, hC,
    fun s u => .of_eq (hb ln kV doc pm an (.ref c) ct [u] rfl), fun H a ns h1 h2 h3 h4 => ⟨a, ns, rfl, h4, h1, h2, h3, fun _ => rfl⟩, fun base hk hns ht => (hF base hk hns ht).imp fun vs H Q E ⟨a, ns, e, hs, h1, h2, h3, q⟩ => ?_⟩
  subst e
  have hr : Rd H a (.lst (ns.map V.int)) := by
    rcases hs with hs | ⟨o, its, m, hk2, hc, _⟩
    · exact hs
    · exact absurd hc (noLists_of hK hk2)
  obtain ⟨o, ho, hrd⟩ : ∃ o, H a = some o ∧ (o = .lst (ns.map V.int) ∨ ∃ ob, o = .frz ob (.lst (ns.map V.int))) := by
    rcases hr with hr | ⟨ob, hr⟩
    · exact ⟨_, hr, .inl rfl⟩
    · exact ⟨_, hr, .inr ⟨ob, rfl⟩⟩
  refine ⟨⟨fun _ => 0, fun b => if b = a then some o else none, fun c P => (c, P) ∈ cs⟩, [], [.scr (ns.map D.int)], .bl true, [], ?_, .cons (.scr ?_ (DenL.ints ns)) .nil, hlaw ns h1 h2, fun w' v H' _ _ d => by rw [den_bl d]; exact q H'⟩
  · refine ⟨fun b u hb => ?_, fun b u hb => ?_, fun k c hk => by simp at hk, fun j k hj _ _ => absurd hj (Nat.not_lt_zero _), ⟨fun c P hcp => ⟨.inr (ht _ hcp).code, #[], h3 _ hcp, triples_nil, fun pos cv hcv => ?_⟩⟩, fun _ _ h => h⟩
    · have hb : (if b = a then some o else none) = some u := hb
      split at hb
      · rename_i hba; cases hb; rw [hba]; exact ho
      · cases hb
    · have hb : (if b = a then some o else none) = some u := hb
      split at hb
      · cases hb
        rcases hrd with z | ⟨ob, z⟩
        · exact .inr (.inl ⟨_, z⟩)
        · exact .inr (.inr ⟨ob, _, z⟩)
      · cases hb
    · simp [codeAmong] at hcv
  · show Rd (fun b => if b = a then some o else none) a _
    rcases hrd with z | ⟨ob, z⟩
    · exact .inl ((if_pos rfl).trans (congrArg some z))
    · exact .inr ⟨ob, (if_pos rfl).trans (congrArg some z)⟩
/-- what the head's promise gives of each def's table -/
theorem walk_ofD {l : PySem.W.OpenLaw} {n k : Nat} {q : Program} {loose : List Str} {XP : (Str → Option Value) → Heap → Prop} {YP : World → Heap → Prop} {d : DefRec} {K : Params → PySem.W.Frag} {x : Str}
    (hn : l.most = some n) (hn2 : n ≤ sizeLine) (hdf : d.params.defaults = []) (hr : Room k callerA) (hY : ∀ (w : World) (h : Heap), YP w h → (K w.params).In h)
    (F : ∀ (w : World) (mg : Str → Option Value) (fa : Addr) (h : Heap), YP w h → (K w.params).In h → h.Ns mainGlobals mg → mg d.name = some (.ref fa) → (∀ y : Str, ((recsOf q).any fun e => e.name == y) = true → ∀ f, mg y = some (.ref f) → OwnTab (K w.params) f h) → LawAtS l w (K w.params) CX0 k n x mg fa h) :
    PySem.W.WalkO q loose XP YP l.row.toRowW d [] (fun f vs => PySem.call f vs) := by
  refine Att.attach_callB hn hdf fun w s₀ s₁ mg mb fa o pm cd doc a vs ns G Y ho hd hcd hmg hobj hints hlen hbits hg => ?_
  have KX := hY w _ Y
  have own : ∀ y : Str, ((recsOf q).any fun e => e.name == y) = true → ∀ f, mg y = some (.ref f) → OwnTab (K w.params) f s₁.heap := fun y hy f hmy c P o1 fd1 e dd vs1 sl k1 k2 k3 k4 k5 => by
    obtain ⟨dL, hm, hn1⟩ := List.any_eq_true.mp hy
    have hn2 : dL.name = y := beq_iff_eq.mp hn1
    obtain ⟨a', o', fd', c', P', h1, h2, h3, h4, h5, h6⟩ := G.T.tab dL hm
    rw [hn2, hmy] at h1
    cases h1
    rw [KX _ _ k1] at h2
    cases h2
    rw [k2] at h3
    cases h3
    rw [k3] at h4
    cases h4
    obtain ⟨⟨oc, vc, e1, _, e3, e4⟩, hP⟩ := h6
    rw [KX _ _ k4] at e1
    cases e1
    cases e3
    rw [k5] at e4
    cases e4
    exact hP
  obtain ⟨fd, cs, sp, hT, nT, C, hb, hsp, hF⟩ := F w mg fa _ Y KX G.T.g hmg own
  exact law_callTs KX G.T.g G.T.b G.T.builtins G.T.nolimit hg hT nT C G.T.bmain hobj hints (Nat.le_trans hlen hn2) hr hF hb (fun H hH hS => hsp H a ns hlen hbits hH hS) fun H e s' h => h.elim
end DL

set_option maxRecDepth 100000
set_option maxHeartbeats 4000000
set_option pp.maxSteps 900
namespace DL
open PySem PySem.Spec PyProof.Rows L2 GX
open Classical
section
variable {G : Gc} {X : Cx} {pos p : Pos} {a b c e o : Expr} {es : List Expr} {ta tb tc te : RE} {ra : RA} {mk : List D → Sto → Option (D × Sto)}
/-- + by what stands there -/
@[simp] def fPlus (mk : List D → Sto → Option (D × Sto)) : D → D → Sto → Option (D × Sto) := fun x y S => match x with
  | .int i => (match y with | .int j => some (.int (i + j), S) | _ => none)
  | .tup _ => fCatT x y S
  | .str u => (match y with | .str v => if u.length + v.length ≤ 1000000 then some (.str (u ++ v), S) else none | _ => none)
  | _ => fCatL mk x y S
@[simp] noncomputable def fTimes (mk : List D → Sto → Option (D × Sto)) : D → D → Sto → Option (D × Sto) := fun x y S => match x with
  | .int i => (match y with | .int j => if CMulW i j then some (.int (i * j), S) else none | _ => none)
  | .tup _ => fRepT x y S
  | _ => fRepL mk x y S
/-- a made list is known: frozen, or an object of the store -/
def NewL (mk : List D → Sto → Option (D × Sto)) : Prop := ∀ {G : Gc} {w : Wd} {ρ : En} {S S' : Sto} {σ : L2.St} {H : Hp} {xs : List V} {ds : List D} {d : D} {Q : VK}, Sat G w ρ S σ H → DenL w S.length xs ds → mk ds S = some (d, S') →
      (∀ w' v H', Sat G w' ρ S' σ H' → Ext w S H w' S' H' → Den w' S'.length v d → Q v H') → xs.length ≤ sizeLine ∧ ∀ p, H p = none → Q (.ref p) (upd H p (.lst xs))
theorem newF : NewL fLst := fun s hd e q => new_lst s hd e q
theorem newO : NewL fObj := fun s hd e q => new_obj s hd e q
theorem r_catT : R2New G (rCatA X.K) fCatT := fun w ρ S σ H x y dx dy d S' Q s hx hy e q => by
  unfold fCatT at e
  split at e
  · rename_i xs ys
    split at e
    · rename_i hl
      cases e
      obtain ⟨p, vs, rfl, hp, l⟩ := den_tup hx
      obtain ⟨p', us, rfl, hp', l'⟩ := den_tup hy
      refine ⟨p, p', vs, us, rfl, rfl, .inl (.inl (s.core.sub _ _ hp)), .inl (.inl (s.core.sub _ _ hp')), by rw [l.len, l'.len]; exact le_line hl, fun h => ?_, fun h h' => ?_, fun h h' r hr => ?_⟩
      · have : xs = [] := l.nil_iff.mp h
        exact q w _ H s (Ext.refl ..) (by rw [this, List.nil_append]; exact .tup hp' l')
      · have : ys = [] := l'.nil_iff.mp h'
        exact q w _ H s (Ext.refl ..) (by rw [this, List.append_nil]; exact .tup hp l)
      · obtain ⟨s1, x1⟩ := s.newF (o := .tup (vs ++ us)) hr (.inl ⟨_, rfl⟩)
        exact q _ _ _ s1 x1 (den_newT (l.app l') (s.core.fresh hr))
    · cases e
  · cases e
theorem de_plus (hmk : NewL mk) (ha : DE X G a ta) (hb : DE X G b tb) : DE X G (.BinOp a .Add b pos) (e2s (fPlus mk) ta tb) :=
  let ⟨_, pa, ea⟩ := ha; let ⟨_, pb, eb⟩ := hb
  ⟨_, pe_op (op_add.or (op_catA.or (op_add_str.or op_cat))) pa pb, ev_2s (fun w ρ S σ H x y dx dy d S' Q s hx hy e q => by
    unfold fPlus at e
    split at e
    · split at e
      · cases e
        exact .inl ⟨_, _, den_int hx, den_int hy, q w _ H s (Ext.refl ..) (.int _)⟩
      · cases e
    · exact .inr (.inl (r_catT (X := X) w ρ S σ H x y _ dy d S' Q s hx hy e q))
    · split at e
      · split at e
        · rename_i hl
          cases e
          exact .inr (.inr (.inl ⟨_, _, den_str hx, den_str hy, le_line hl, q w _ H s (Ext.refl ..) (.str _)⟩))
        · cases e
      · cases e
    · exact .inr (.inr (.inr (r_catL (fun s hd e q => hmk s hd e q) w ρ S σ H x y _ dy d S' Q s hx hy e q)))) ea eb⟩
theorem r_repT : R2New G (fun x y H Q => rRep1 X.K x y H Q ∨ rRepT X.K x y H Q) fRepT := fun w ρ S σ H x y dx dy d S' Q s hx hy e q => by
  unfold fRepT at e
  split at e
  · rename_i xs k
    split at e
    · rename_i hc
      obtain ⟨h1, h2, h3, h4⟩ := hc
      cases e
      obtain ⟨p, vs, rfl, hp, l⟩ := den_tup hx
      cases den_int hy
      by_cases hk : k = 1
      · subst hk
        refine .inl ⟨p, vs, rfl, rfl, .inl (.inl (s.core.sub _ _ hp)), q w _ H s (Ext.refl ..) ?_⟩
        have : (List.replicate (1 : Int).toNat xs).flatten = xs := by simp
        rw [this]
        exact .tup hp l
      · refine .inr ⟨p, k, vs, rfl, rfl, .inl (.inl (s.core.sub _ _ hp)), fun z => h1 (l.nil_iff.mp z), by omega, h3, by rw [l.len]; exact h4, fun r hr => ?_⟩
        obtain ⟨s1, x1⟩ := s.newF (o := .tup (List.replicate k.toNat vs).flatten) hr (.inl ⟨_, rfl⟩)
        exact q _ _ _ s1 x1 (den_newT (l.rep k.toNat) (s.core.fresh hr))
    · cases e
  · cases e
theorem de_times (hmk : NewL mk) (ha : DE X G a ta) (hb : DE X G b tb) : DE X G (.BinOp a .Mult b pos) (e2s (fTimes mk) ta tb) :=
  let ⟨_, pa, ea⟩ := ha; let ⟨_, pb, eb⟩ := hb
  ⟨_, pe_op (op_mulW.or (OpR.or (OpR.or op_repT1 op_repT) op_rep)) pa pb, ev_2s (fun w ρ S σ H x y dx dy d S' Q s hx hy e q => by
    unfold fTimes at e
    split at e
    · split at e
      · split at e
        · rename_i hc
          cases e
          exact .inl ⟨_, _, den_int hx, den_int hy, hc, q w _ H s (Ext.refl ..) (.int _)⟩
        · cases e
      · cases e
    · exact .inr (.inl (r_repT (X := X) w ρ S σ H x y _ dy d S' Q s hx hy e q))
    · exact .inr (.inr (r_repL (fun s hd e q => hmk s hd e q) w ρ S σ H x y _ dy d S' Q s hx hy e q))) ea eb⟩
/-- steps of a while: by the ints that stand in the names -/
def fuelI : En → Sto → Nat := fun ρ _ => (ρ.map fun d => match d with | some (.int i) => i.natAbs | _ => 0).sum + 2
theorem dfs_zero {P : Program} {wd : World} {mg : Str → Option Value} {x : Str} {st : Stmt} {f c : Addr} {ps : List Str} {k : Nat} (A : FAt G.K mg x st f c) : DFs P wd G mg k x st f ps (fun _ _ => none) := by
  obtain ⟨oc, od, kV, doc, pm, an, ct, osl, lk⟩ := A.lk
  have z : ∀ vs H Q E, SpD G (fun _ _ => none) vs H Q E → False := fun vs H Q E h => by
    obtain ⟨_, _, _, _, _, _, _, e, _⟩ := h
    cases e
  exact ⟨⟨kV, doc, pm, an, .ref c, ct, ⟨oc, od, osl, lk⟩, ⟨fun vs H Q E h => (z vs H Q E h).elim, fun A outer s H args us vs Q E _ _ _ _ h => (z vs H Q E h).elim⟩⟩, A.kp, A.mg⟩
end
end DL

set_option maxRecDepth 100000
set_option maxHeartbeats 4000000
set_option pp.maxSteps 900
namespace DL
open PySem PySem.Spec PyProof.Rows L2 GX
open Classical
section
variable {G : Gc} {X : Cx} {pos p : Pos} {a b c e o : Expr} {es : List Expr} {ta tb tc te : RE} {ra : RA} {t1 : RT}
theorem bt_int : bootBuiltins "int" = some (.type "int") := by decide +kernel
theorem bt_bool : bootBuiltins "bool" = some (.type "bool") := by decide +kernel
theorem bt_str : bootBuiltins "str" = some (.type "str") := by decide +kernel
theorem bt_tuple : bootBuiltins "tuple" = some (.type "tuple") := by decide +kernel
theorem bt_list : bootBuiltins "list" = some (.type "list") := by decide +kernel
/-- how many values an argument list has -/
def AL (n : Nat) (r : RA) : Prop := ∀ (ρ : En) (S : Sto) (xs : List D) (S' : Sto), r ρ S = some (xs, S') → xs.length = n
theorem al_nil : AL 0 aNil := fun ρ S xs S' e => by cases e; rfl
theorem al_cons {n : Nat} {t : RE} {r : RA} (h : AL n r) : AL (n + 1) (aCons t r) := fun ρ S xs S' e => by
  unfold aCons at e
  split at e
  · split at e
    · rename_i h2
      cases e
      rw [List.length_cons, h _ _ _ _ h2]
    · cases e
  · cases e
/-- a look at the names of a def's scope -/
def scOk (N P : List Str) (sc : Scope) : Bool :=
  decide (sc.kind = .function) && !sc.isCoroutine && !sc.isGenerator && decide N.Nodup && decide (N.take P.length = P) && P.all (fun x => decide (sc.names.lookup x = some .local) || decide (sc.names.lookup x = some .cell)) && sc.names.all (fun y => !decide (y.2 = .free))
theorem sc_by {N P : List Str} {sc : Scope} (h : scOk N P sc = true) : FnScope N P sc := by
  unfold scOk at h
  simp only [Bool.and_eq_true, Bool.not_eq_true', decide_eq_true_eq, List.all_eq_true, Bool.or_eq_true, decide_eq_false_iff_not] at h
  obtain ⟨⟨⟨⟨⟨⟨h1, h2⟩, h3⟩, h4⟩, h5⟩, h6⟩, h7⟩ := h
  exact ⟨h1, h2, h3, h4, h5, h6, h7⟩
end
end DL

set_option maxRecDepth 100000
set_option maxHeartbeats 4000000
/-! plain lemmas of loops, comprehensions, sizes, fractions -/
namespace DL
open PySem
open Classical
theorem forL_ind {g : RG} {b : RS} {chk : Sto → Prop} (I : Nat → En → Sto → Prop) : ∀ (ds : List D) (k0 : Nat) (ρ : En) (S : Sto), I k0 ρ S →
    (∀ k d ρ S, ds[k]? = some d → I (k0 + k) ρ S → ∃ ρ1 S1 ρ2 S2, g d ρ S = some (ρ1, S1) ∧ (b ρ1 S1 = some (.nx ρ2 S2) ∨ b ρ1 S1 = some (.ct ρ2 S2)) ∧ chk S2 ∧ I (k0 + k + 1) ρ2 S2) →
    ∃ ρ' S', forL g b chk ds ρ S = some (.nx ρ' S') ∧ I (k0 + ds.length) ρ' S'
  | [], k0, ρ, S, h, _ => ⟨ρ, S, rfl, h⟩
  | d :: ds, k0, ρ, S, h, hs => by
    obtain ⟨ρ1, S1, ρ2, S2, h1, h2, h3, h4⟩ := hs 0 d ρ S rfl h
    obtain ⟨ρ', S', h5, h6⟩ := forL_ind (g := g) (b := b) (chk := chk) I ds (k0 + 1) ρ2 S2 h4 fun k d ρ S hk hi => by
      have q := hs (k + 1) d ρ S hk (by rw [show k0 + (k + 1) = k0 + 1 + k by omega]; exact hi)
      rw [show k0 + (k + 1) + 1 = k0 + 1 + k + 1 by omega] at q
      exact q
    refine ⟨ρ', S', ?_, by rw [List.length_cons, show k0 + (ds.length + 1) = k0 + 1 + ds.length by omega]; exact h6⟩
    unfold forL
    rw [h1]
    rcases h2 with h2 | h2 <;> simp only [h2, if_pos h3, h5]
/-- a comprehension whose items leave the store -/
theorem compL_map {α : Type} {i : Nat} {e : RE} {chk : Sto → Prop} {ρ : En} {S : Sto} (hc : chk S) (h f : α → D) : ∀ xs : List α, (∀ x ∈ xs, e (ρ.set i (some (h x))) S = some (f x, S)) → compL (gNm i) tYesD e chk ρ (xs.map h) S = some (xs.map f, S)
  | [], _ => rfl
  | x :: xs, hx => by
    have ih := compL_map (i := i) (e := e) (ρ := ρ) hc h f xs fun y hy => hx y (List.mem_cons_of_mem _ hy)
    rw [List.map_cons, List.map_cons]
    unfold compL
    simp only [gNm, tYesD, hx x List.mem_cons_self, if_pos hc, ih]
/-- .. of pairs -/
theorem compL_map2 {α : Type} {i j : Nat} {e : RE} {chk : Sto → Prop} {ρ : En} {S : Sto} (hc : chk S) (h1 h2 f : α → D) : ∀ xs : List α, (∀ x ∈ xs, e ((ρ.set i (some (h1 x))).set j (some (h2 x))) S = some (f x, S)) →
    compL (gTp 2 (gsCons (gNm i) (gsCons (gNm j) gsNil))) tYesD e chk ρ (xs.map fun x => .tup [h1 x, h2 x]) S = some (xs.map f, S)
  | [], _ => rfl
  | x :: xs, hx => by
    have ih := compL_map2 (i := i) (j := j) (e := e) (ρ := ρ) hc h1 h2 f xs fun y hy => hx y (List.mem_cons_of_mem _ hy)
    rw [List.map_cons, List.map_cons]
    unfold compL
    simp only [gTp, gsCons, gsNil, gNm, tYesD, List.length_cons, List.length_nil, if_true, hx x List.mem_cons_self, if_pos hc, ih]
/-- .. whose store may change: an invariant of the store and what each item is -/
theorem compL_inv {i : Nat} {e : RE} {chk : Sto → Prop} {ρ : En} (I : Sto → Prop) (P : Nat → D → Prop) : ∀ (ds : List D) (k0 : Nat) (S : Sto), I S → (∀ k d S, ds[k]? = some d → I S → ∃ y S', e (ρ.set i (some d)) S = some (y, S') ∧ chk S' ∧ I S' ∧ P (k0 + k) y) →
    ∃ ys S', compL (gNm i) tYesD e chk ρ ds S = some (ys, S') ∧ I S' ∧ ys.length = ds.length ∧ ∀ (k : Nat) (y : D), ys[k]? = some y → P (k0 + k) y
  | [], k0, S, h, _ => ⟨[], S, rfl, h, rfl, fun k y hk => by simp at hk⟩
  | d :: ds, k0, S, h, hs => by
    obtain ⟨y, S1, h1, h2, h3, h4⟩ := hs 0 d S rfl h
    obtain ⟨ys, S', h5, h6, h7, h8⟩ := compL_inv (i := i) (e := e) (chk := chk) (ρ := ρ) I P ds (k0 + 1) S1 h3 fun k d S hk hi => by
      have q := hs (k + 1) d S hk hi
      rw [show k0 + (k + 1) = k0 + 1 + k by omega] at q
      exact q
    refine ⟨y :: ys, S', ?_, h6, by rw [List.length_cons, List.length_cons, h7], fun k z hk => ?_⟩
    · unfold compL
      simp only [gNm, tYesD, h1, if_pos h2, h5]
    · cases k with
      | zero => simp at hk; rw [← hk]; exact h4
      | succ k =>
        have q := h8 k z (by simpa using hk)
        rw [show k0 + (k + 1) = k0 + 1 + k by omega]
        exact q

theorem compL_id {j : Nat} {chk : Sto → Prop} {ρ : En} {S : Sto} (hc : chk S) (hj : j < ρ.length) (xs : List D) : compL (gNm j) tYesD (eV j) chk ρ xs S = some (xs, S) := by
  have h := compL_map (i := j) (e := eV j) (chk := chk) (ρ := ρ) (S := S) hc (fun d => d) (fun d => d) xs fun x _ => by
    simp [eV, List.getElem?_set_self hj]
  rwa [List.map_id'] at h
/-- [y for x in rows for y in x] -/
theorem compL2_flat {i j : Nat} {ρ : En} {S : Sto} (hi : i < ρ.length) (hj : j < ρ.length) (hij : i ≠ j) : ∀ rows : List (List D), compL2 (gNm i) tYesD (iSeq (eV i)) (gNm j) tYesD (eV j) [j] (fun _ => True) ρ (rows.map D.tup) S = some (rows.flatten, S)
  | [] => rfl
  | r :: rows => by
    have ih := compL2_flat hi hj hij rows (S := S)
    rw [List.map_cons, List.flatten_cons]
    unfold compL2
    have h1 : iSeq (eV i) (ρ.set i (some (.tup r))) S = some (r, fun _ => True, S) := by simp [iSeq, eV, List.getElem?_set_self hi]
    have h2 := compL_id (j := j) (chk := fun _ => True) (ρ := wipeD (ρ.set i (some (.tup r))) [j]) (S := S) trivial (by simpa [wipeD] using hj) r
    simp only [gNm, tYesD, h1, h2, if_true, ih]

/-! ### steps -/
theorem fnD_rt {n m : Nat} {fin : D → Sto → Sto → Option (D × Sto)} {t : RS} {ds : List D} {S S1 : Sto} {d : D} (hl : ds.length = n) (h : t (startD m ds) S = some (.rt d S1)) : fnD n m fin t ds S = fin d S S1 := by
  unfold fnD
  rw [if_pos hl, h]
theorem fnD_nx {n m : Nat} {fin : D → Sto → Sto → Option (D × Sto)} {t : RS} {ds : List D} {ρ : En} {S S1 : Sto} (hl : ds.length = n) (h : t (startD m ds) S = some (.nx ρ S1)) : fnD n m fin t ds S = fin .non S S1 := by
  unfold fnD
  rw [if_pos hl, h]
theorem sSeq_nx {a b : RS} {ρ ρ1 : En} {S S1 : Sto} (h : a ρ S = some (.nx ρ1 S1)) : sSeq a b ρ S = b ρ1 S1 := by
  unfold sSeq
  rw [h]
theorem sSeq_rt {a b : RS} {ρ : En} {S S1 : Sto} {d : D} (h : a ρ S = some (.rt d S1)) : sSeq a b ρ S = some (.rt d S1) := by
  unfold sSeq
  rw [h]
theorem sSet_ok {i : Nat} {e : RE} {ρ : En} {S S1 : Sto} {d : D} (h : e ρ S = some (d, S1)) : sSet i e ρ S = some (.nx (ρ.set i (some d)) S1) := by
  unfold sSet
  rw [h]
theorem sRet_ok {e : RE} {ρ : En} {S S1 : Sto} {d : D} (h : e ρ S = some (d, S1)) : sRet e ρ S = some (.rt d S1) := by
  unfold sRet
  rw [h]
theorem sExpr_ok {e : RE} {ρ : En} {S S1 : Sto} {d : D} (h : e ρ S = some (d, S1)) : sExpr e ρ S = some (.nx ρ S1) := by
  unfold sExpr
  rw [h]
theorem sIf_t {c : RT} {a b : RS} {ρ : En} {S S1 : Sto} (h : c ρ S = some (true, S1)) : sIf c a b ρ S = a ρ S1 := by
  unfold sIf
  rw [h]
theorem sIf_f {c : RT} {a b : RS} {ρ : En} {S S1 : Sto} (h : c ρ S = some (false, S1)) : sIf c a b ρ S = b ρ S1 := by
  unfold sIf
  rw [h]
theorem sFor_ok {it : RI} {g : RG} {b : RS} {ρ : En} {S S1 : Sto} {ds : List D} {chk : Sto → Prop} (h : it ρ S = some (ds, chk, S1)) : sFor it g b ρ S = forL g b chk ds ρ S1 := by
  unfold sFor
  rw [h]
theorem eLc_ok {mk : List D → Sto → Option (D × Sto)} {it : RI} {g : RG} {c : RT} {e : RE} {vs : List Nat} {ρ : En} {S S1 S2 : Sto} {ds ys : List D} {chk : Sto → Prop} (h : it ρ S = some (ds, chk, S1)) (h2 : compL g c e chk (wipeD ρ vs) ds S1 = some (ys, S2)) : eLc mk it g c e vs ρ S = mk ys S2 := by
  unfold eLc
  simp only [h, h2]
theorem eLc2_ok {mk : List D → Sto → Option (D × Sto)} {it it1 : RI} {g g1 : RG} {c c1 : RT} {e : RE} {vs vs1 : List Nat} {ρ : En} {S S1 S2 : Sto} {ds ys : List D} {chk : Sto → Prop} (h : it ρ S = some (ds, chk, S1)) (h2 : compL2 g c it1 g1 c1 e vs1 chk (wipeD ρ vs) ds S1 = some (ys, S2)) : eLc2 mk it g c it1 g1 c1 e vs vs1 ρ S = mk ys S2 := by
  unfold eLc2
  simp only [h, h2]
theorem eA_ok {f : List D → Sto → Option (D × Sto)} {a : RA} {ρ : En} {S S1 : Sto} {xs : List D} (h : a ρ S = some (xs, S1)) : eA f a ρ S = f xs S1 := by
  unfold eA
  rw [h]
theorem aCons_ok {a : RE} {r : RA} {ρ : En} {S S1 S2 : Sto} {x : D} {xs : List D} (h : a ρ S = some (x, S1)) (h2 : r ρ S1 = some (xs, S2)) : aCons a r ρ S = some (x :: xs, S2) := by
  unfold aCons
  rw [h]
  simp only [h2]
theorem fTup_ok {xs : List D} {S : Sto} (h : xs.length ≤ 1000000) : fTup xs S = some (.tup xs, S) := if_pos h
theorem fLst_ok {xs : List D} {S : Sto} (h : xs.length ≤ 1000000) : fLst xs S = some (.lst xs, S) := if_pos h
theorem fObj_ok {xs : List D} {S : Sto} (h : xs.length ≤ 1000000) : fObj xs S = some (.obj S.length, S ++ [.lst xs]) := if_pos h
theorem closL_map {α : Type} {n : Nat} {f : α → D} (h : ∀ x, clos n (f x) = true) : ∀ xs : List α, closL n (xs.map f) = true
  | [] => rfl
  | x :: xs => by
    show (clos n (f x) && closL n (xs.map f)) = true
    rw [h x, closL_map h xs]; rfl
theorem clos_tup {n : Nat} {xs : List D} (h : closL n xs = true) : clos n (.tup xs) = true := h
theorem clos_lst {n : Nat} {xs : List D} (h : closL n xs = true) : clos n (.lst xs) = true := h
theorem closL_nil {n : Nat} : closL n [] = true := rfl
theorem closL_cons {n : Nat} {x : D} {xs : List D} (h : clos n x = true) (h2 : closL n xs = true) : closL n (x :: xs) = true := by
  show (clos n x && closL n xs) = true
  rw [h, h2]; rfl
theorem clos_int {n : Nat} {i : Int} : clos n (.int i) = true := rfl
/-- a value without lists of the store -/
def isObj : D → Bool | .obj _ => true | _ => false
theorem frz_self {n : Nat} {d : D} {S : Sto} (h : clos n d = true) (ho : isObj d = false) : frzD n d S = some d := by
  cases d <;> simp_all [frzD, isObj]
theorem finP_self {d : D} {S : Sto} (h : clos S.length d = true) (ho : isObj d = false) : finP d S S = some (d, S) := by
  unfold finP
  rw [frz_self h ho]
  simp only [List.take_length, if_true]
theorem finP_drop {d : D} {S T : Sto} (h : clos S.length d = true) (ho : isObj d = false) : finP d S (S ++ T) = some (d, S) := by
  unfold finP
  rw [frz_self h ho]
  simp only [List.take_left', if_true]

/-! ### == -/
open PySem.SeqAt (shaped) in
theorem shaped_of {p : PyData} (h : p.canLay0 = true) (hd : p.depth ≤ 64) : shaped p = true := by
  unfold shaped
  rw [h, decide_eq_true hd]; rfl
/-- d is the data p, of depth n at most -/
structure Da (n : Nat) (d : D) (p : PyData) : Prop where
  eq : toP d = some p
  lay : p.canLay0 = true
  dep : p.depth ≤ n
structure DaL (n : Nat) (ds : List D) (ps : List PyData) : Prop where
  eq : toPs ds = some ps
  lay : PyData.canLayAll0 ps = true
  dep : PyData.depthAll ps ≤ n
theorem Da.int {n : Nat} {i : Int} : Da n (.int i) (.int i) := ⟨rfl, rfl, Nat.zero_le _⟩
theorem Da.bl {n : Nat} {b : Bool} : Da n (.bl b) (.bool b) := ⟨rfl, rfl, Nat.zero_le _⟩
theorem Da.non {n : Nat} : Da n .non .none := ⟨rfl, rfl, Nat.zero_le _⟩
theorem DaL.nil {n : Nat} : DaL n [] [] := ⟨rfl, rfl, Nat.zero_le _⟩
theorem DaL.cons {n : Nat} {d : D} {p : PyData} {ds : List D} {ps : List PyData} (h : Da n d p) (t : DaL n ds ps) : DaL n (d :: ds) (p :: ps) :=
  ⟨by simp only [toPs, h.eq, t.eq], by show (p.canLay0 && PyData.canLayAll0 ps) = true; rw [h.lay, t.lay]; rfl, Nat.max_le.mpr ⟨h.dep, t.dep⟩⟩
theorem DaL.tup {n : Nat} {ds : List D} {ps : List PyData} (h : DaL n ds ps) : Da (n + 1) (.tup ds) (.tuple ps) := ⟨by simp only [toP, h.eq], h.lay, Nat.succ_le_succ h.dep⟩
theorem DaL.lst {n : Nat} {ds : List D} {ps : List PyData} (h : DaL n ds ps) : Da (n + 1) (.lst ds) (.list ps) := ⟨by simp only [toP, h.eq], h.lay, Nat.succ_le_succ h.dep⟩
theorem DaL.map {α : Type} {n : Nat} {f : α → D} {g : α → PyData} (h : ∀ x, Da n (f x) (g x)) : ∀ xs : List α, DaL n (xs.map f) (xs.map g)
  | [] => .nil
  | x :: xs => .cons (h x) (DaL.map h xs)
theorem DaL.all {n : Nat} : ∀ {ds : List D}, (∀ d ∈ ds, ∃ p, Da n d p) → ∃ ps, DaL n ds ps
  | [], _ => ⟨[], .nil⟩
  | d :: ds, h => by
    obtain ⟨p, hp⟩ := h d List.mem_cons_self
    obtain ⟨ps, hps⟩ := DaL.all fun x hx => h x (List.mem_cons_of_mem _ hx)
    exact ⟨p :: ps, .cons hp hps⟩
theorem Da.mono {n m : Nat} {d : D} {p : PyData} (h : Da n d p) (hm : n ≤ m) : Da m d p := ⟨h.eq, h.lay, Nat.le_trans h.dep hm⟩
theorem fEq_da {n m : Nat} {x y : D} {p q : PyData} {S : Sto} (h : Da n x p) (h' : Da m y q) (hn : n ≤ 64 := by decide) (hm : m ≤ 64 := by decide) : fEq x y S = some (.bl (PyData.eqv p q)) := by
  unfold fEq
  simp only [h.eq, h'.eq, shaped_of h.lay (Nat.le_trans h.dep hn), shaped_of h'.lay (Nat.le_trans h'.dep hm), and_self, if_true]
theorem fNe_da {n m : Nat} {x y : D} {p q : PyData} {S : Sto} (h : Da n x p) (h' : Da m y q) (hn : n ≤ 64 := by decide) (hm : m ≤ 64 := by decide) : fNe x y S = some (.bl (!PyData.eqv p q)) := by
  unfold fNe
  simp only [h.eq, h'.eq, shaped_of h.lay (Nat.le_trans h.dep hn), shaped_of h'.lay (Nat.le_trans h'.dep hm), and_self, if_true]
mutual
theorem eqv_self : ∀ p : PyData, p.canLay0 = true → PyData.eqv p p = true
  | .none, _ => rfl
  | .bool b, _ => by simp [PyData.eqv]
  | .int b, _ => by simp [PyData.eqv]
  | .str b, _ => by simp [PyData.eqv]
  | .list xs, h => by
    show PyData.eqvAll xs xs = true
    exact eqvAll_self xs h
  | .tuple xs, h => by
    show PyData.eqvAll xs xs = true
    exact eqvAll_self xs h
  | .dict _, h => by cases h
theorem eqvAll_self : ∀ ps : List PyData, PyData.canLayAll0 ps = true → PyData.eqvAll ps ps = true
  | [], _ => rfl
  | p :: ps, h => by
    have h : (p.canLay0 && PyData.canLayAll0 ps) = true := h
    rw [Bool.and_eq_true] at h
    show (PyData.eqv p p && PyData.eqvAll ps ps) = true
    rw [eqv_self p h.1, eqvAll_self ps h.2]; rfl
end
@[simp] theorem fEq_int (a b : Int) (S : Sto) : fEq (.int a) (.int b) S = some (.bl (decide (a = b))) := by
  rw [fEq_da (n := 0) (m := 0) .int .int]
  simp only [PyData.eqv]
  congr 2
@[simp] theorem fNe_int (a b : Int) (S : Sto) : fNe (.int a) (.int b) S = some (.bl (!decide (a = b))) := by
  rw [fNe_da (n := 0) (m := 0) .int .int]
  simp only [PyData.eqv]
  congr 2
@[simp] theorem fEq_bl (a b : Bool) (S : Sto) : fEq (.bl a) (.bl b) S = some (.bl (a == b)) := by
  rw [fEq_da (n := 0) (m := 0) .bl .bl]
  simp only [PyData.eqv]
theorem fEq_self {n : Nat} {d : D} {p : PyData} {S : Sto} (h : Da n d p) (hn : n ≤ 64 := by decide) : fEq d d S = some (.bl true) := by
  rw [fEq_da h h hn hn, eqv_self p h.lay]
theorem fNe_self {n : Nat} {d : D} {p : PyData} {S : Sto} (h : Da n d p) (hn : n ≤ 64 := by decide) : fNe d d S = some (.bl false) := by
  rw [fNe_da h h hn hn, eqv_self p h.lay]; rfl
theorem eqvAll_nil : ∀ ps : List PyData, PyData.eqvAll ps [] = ps.isEmpty
  | [] => rfl
  | _ :: _ => rfl
theorem toPs_len : ∀ {ds : List D} {ps : List PyData}, toPs ds = some ps → ps.isEmpty = ds.isEmpty
  | [], ps, h => by cases h; rfl
  | d :: ds, ps, h => by
    simp only [toPs] at h
    split at h
    · split at h
      · cases h; rfl
      · cases h
    · cases h
theorem fEq_tnil {n : Nat} {ds : List D} {ps : List PyData} {S : Sto} (h : DaL n ds ps) (hn : n < 64 := by decide) : fEq (.tup ds) (.tup []) S = some (.bl ds.isEmpty) := by
  rw [fEq_da h.tup (DaL.tup (n := 0) .nil) (by omega) (by decide)]
  show some (D.bl (PyData.eqvAll ps [])) = _
  rw [eqvAll_nil, toPs_len h.eq]
theorem fNe_tnil {n : Nat} {ds : List D} {ps : List PyData} {S : Sto} (h : DaL n ds ps) (hn : n < 64 := by decide) : fNe (.tup ds) (.tup []) S = some (.bl (!ds.isEmpty)) := by
  rw [fNe_da h.tup (DaL.tup (n := 0) .nil) (by omega) (by decide)]
  show some (D.bl (!PyData.eqvAll ps [])) = _
  rw [eqvAll_nil, toPs_len h.eq]

/-! ### sizes -/
/-- less than n bits -/
def Bt (n : Nat) (i : Int) : Prop := i.natAbs < 2 ^ n
theorem Bt.mono {n m : Nat} {i : Int} (h : Bt n i) (hm : n ≤ m) : Bt m i := Nat.lt_of_lt_of_le h (Nat.pow_le_pow_right (by omega) hm)
theorem Bt.mul {n m : Nat} {i j : Int} (h : Bt n i) (h' : Bt m j) : Bt (n + m) (i * j) := by
  unfold Bt at *
  rw [Int.natAbs_mul, Nat.pow_add]
  exact Nat.mul_lt_mul'' h h'
theorem Bt.add {n m : Nat} {i j : Int} (h : Bt n i) (h' : Bt m j) : Bt (max n m + 1) (i + j) := by
  have a := h.mono (Nat.le_max_left n m)
  have b := h'.mono (Nat.le_max_right n m)
  unfold Bt at *
  rw [Nat.pow_succ]
  omega
theorem Bt.le {n : Nat} {i j : Int} (h : Bt n j) (h0 : 0 ≤ i) (hle : i ≤ j) : Bt n i := by
  unfold Bt at *
  omega
theorem Bt.of_nat {n k : Nat} (h : k < 2 ^ n) : Bt n (k : Int) := by unfold Bt; omega
theorem mul_ok {n m : Nat} {i j : Int} (h : Bt n i) (h' : Bt m j) (hs : n + m + 2 ≤ 1000000) : L2.CMulW i j :=
  L2.wide_mul (a := n + 1) (b := m + 1) (h.mono (by omega)) (h'.mono (by omega)) (by omega) (by omega) (by omega)
theorem div_ok {n : Nat} {i j : Int} (h0 : 0 < j) (h : Bt n j) (hs : n ≤ 8999) : L2.CDivW i j ∨ L2.CDivN i j :=
  .inl (L2.wide_div (b := n + 1) h0 (h.mono (by omega)) (by omega) (by omega))
theorem div_sm {i j : Int} (h0 : j ≠ 0) (h : j.natAbs < 1073741824) : L2.CDivW i j ∨ L2.CDivN i j := .inr ⟨h0, h⟩

/-! ### numbers -/
theorem fmod_nat (x y : Nat) : Int.fmod (x : Int) (y : Int) = ((x % y : Nat) : Int) := by
  rw [Int.fmod_eq_emod_of_nonneg _ (Int.natCast_nonneg _)]; rfl
theorem abs_nat (a : Int) : (if a < 0 then -a else a) = (a.natAbs : Int) := by split <;> omega
theorem gcd_ne {a b : Int} (h : b ≠ 0) : (Int.gcd a b : Int) ≠ 0 := by
  have := Int.gcd_pos_of_ne_zero_right a h
  omega
/-- a fraction in lowest terms -/
def dQ (q : Rat) : D := .tup [.int q.num, .int (q.den : Int)]
@[simp] theorem clos_dQ (n : Nat) (q : Rat) : clos n (dQ q) = true := rfl
theorem Da.dQ {n : Nat} {q : Rat} : Da (n + 1) (dQ q) (.tuple [.int q.num, .int (q.den : Int)]) := DaL.tup (.cons .int (.cons .int .nil))
theorem low_num (a b : Int) (h : 0 < b) : ((a : Rat) / (b : Rat)).num = a.fdiv (Int.gcd a b : Int) := by
  rw [← Rat.divInt_eq_div, Rat.num_divInt, Int.gcd_comm b a]
  have hd : (Int.gcd a b : Int) ∣ a := Int.gcd_dvd_left ..
  rw [Int.fdiv_eq_ediv_of_dvd hd, Int.sign_eq_one_of_pos h, Int.one_mul]
theorem low_den (a b : Int) (h : 0 < b) : (((a : Rat) / (b : Rat)).den : Int) = b.fdiv (Int.gcd a b : Int) := by
  rw [← Rat.divInt_eq_div, Rat.den_divInt, if_neg (by omega), Int.gcd_comm b a, Int.natCast_ediv]
  have hd : (Int.gcd a b : Int) ∣ b := Int.gcd_dvd_right ..
  rw [Int.fdiv_eq_ediv_of_dvd hd]
  congr 1
  omega
theorem gcd_bt {n : Nat} {a b : Int} (h : 0 < b) (hb : Bt n b) : Bt n (Int.gcd a b : Int) := by
  have hd : Int.gcd a b ∣ b.natAbs := Int.gcd_dvd_natAbs_right a b
  have := Nat.le_of_dvd (by omega) hd
  unfold Bt at *
  omega
end DL

set_option maxRecDepth 100000
set_option maxHeartbeats 4000000
set_option pp.maxSteps 900
namespace LW
open PySem PySem.Spec PyProof.Rows L2 GX DL LamX
open Classical
def topS (i : Nat) : Stmt := PySem.Challenge.pw_moretold_k80_beliefs_behind_signs.main.body.getD i (.Pass ⟨0, 0, 0, 0⟩)
abbrev s_common_part : Stmt := topS 1
abbrev N_common_part : List Str := ["one", "other"]
theorem sc_common_part : FnScope N_common_part ["one", "other"] (defScope s_common_part) := sc_by (by decide +kernel)
theorem bd_common_part : BindsP s_common_part ["one", "other"] := fun _ _ _ _ _ _ _ us hl => match us, hl with | [_, _], _ => rfl
noncomputable def t_common_part : RS := (sSeq (sPar 0 1 (aCons (eA fAbs (aCons (eV 0) aNil)) (aCons (eA fAbs (aCons (eV 1) aNil)) aNil)))
    (sSeq (sWhile fuelI (tTru (eV 1)) (sPar 0 1 (aCons (eV 1) (aCons (e2 fMod (eV 0) (eV 1)) aNil))))
    (sRet (eV 0))))
noncomputable def F_common_part : FD := fnD 2 2 finP t_common_part
abbrev s_lowest : Stmt := topS 2
abbrev N_lowest : List Str := ["top", "bottom", "part"]
theorem sc_lowest : FnScope N_lowest ["top", "bottom"] (defScope s_lowest) := sc_by (by decide +kernel)
theorem bd_lowest : BindsP s_lowest ["top", "bottom"] := fun _ _ _ _ _ _ _ us hl => match us, hl with | [_, _], _ => rfl
noncomputable def t_lowest : RS := (sSeq (sSet 2 (eA F_common_part (aCons (eV 0) (aCons (eV 1) aNil))))
    (sSeq (sIf (tBl (e2 (fCmp fun i j => decide (i < j)) (eV 1) (eC (.int 0)))) (sSet 2 (e1 fNeg (eV 2))) sPass)
    (sRet (eA fTup (aCons (e2 fDiv (eV 0) (eV 2)) (aCons (e2 fDiv (eV 1) (eV 2)) aNil))))))
noncomputable def F_lowest : FD := fnD 2 3 finP t_lowest
abbrev s_bottom_of : Stmt := topS 3
abbrev N_bottom_of : List Str := ["fractions", "bottom", "one"]
theorem sc_bottom_of : FnScope N_bottom_of ["fractions"] (defScope s_bottom_of) := sc_by (by decide +kernel)
theorem bd_bottom_of : BindsP s_bottom_of ["fractions"] := fun _ _ _ _ _ _ _ us hl => match us, hl with | [_], _ => rfl
noncomputable def t_bottom_of : RS := (sSeq (sSet 1 (eC (.int 1)))
    (sSeq (sFor (iSeq (eV 0)) (gNm 2) (sSet 1 (e2s (fTimes fLst) (e2 fDiv (eV 1) (eA F_common_part (aCons (eV 1) (aCons (e2 fIx (eV 2) (eC (.int 1))) aNil)))) (e2 fIx (eV 2) (eC (.int 1))))))
    (sRet (eV 1))))
noncomputable def F_bottom_of : FD := fnD 1 3 finP t_bottom_of
abbrev s_wholes : Stmt := topS 4
abbrev N_wholes : List Str := ["fractions", "bottom", "one"]
theorem sc_wholes : FnScope N_wholes ["fractions", "bottom"] (defScope s_wholes) := sc_by (by decide +kernel)
theorem bd_wholes : BindsP s_wholes ["fractions", "bottom"] := fun _ _ _ _ _ _ _ us hl => match us, hl with | [_, _], _ => rfl
noncomputable def t_wholes : RS := (sRet (eLc fTup (iSeq (eV 0)) (gNm 2) tYesD (e2s (fTimes fLst) (e2 fIx (eV 2) (eC (.int 0))) (e2 fDiv (eV 1) (e2 fIx (eV 2) (eC (.int 1))))) [2]))
noncomputable def F_wholes : FD := fnD 2 3 finP t_wholes
abbrev s_rows_over : Stmt := topS 5
abbrev N_rows_over : List Str := ["rows", "bottom", "row", "one"]
theorem sc_rows_over : FnScope N_rows_over ["rows"] (defScope s_rows_over) := sc_by (by decide +kernel)
theorem bd_rows_over : BindsP s_rows_over ["rows"] := fun _ _ _ _ _ _ _ us hl => match us, hl with | [_], _ => rfl
noncomputable def t_rows_over : RS := (sSeq (sSet 1 (eA F_bottom_of (aCons (eLc2 fLst (iSeq (eV 0)) (gNm 2) tYesD (iSeq (eV 2)) (gNm 3) tYesD (eV 3) [2, 3] [3]) aNil)))
    (sRet (eA fTup (aCons (eV 1) (aCons (eLc fTup (iSeq (eV 0)) (gNm 2) tYesD (eA F_wholes (aCons (eV 2) (aCons (eV 1) aNil))) [2]) aNil)))))
noncomputable def F_rows_over : FD := fnD 1 4 finP t_rows_over
abbrev s__changed : Stmt := topS 7
abbrev N__changed : List Str := ["numbers", "moves", "at", "one", "row"]
theorem sc__changed : FnScope N__changed ["numbers", "moves"] (defScope s__changed) := sc_by (by decide +kernel)
theorem bd__changed : BindsP s__changed ["numbers", "moves"] := fun _ _ _ _ _ _ _ us hl => match us, hl with | [_, _], _ => rfl
noncomputable def t__changed : RS := (sRet (eLc fLst (iRange1 (eA fLen (aCons (eV 1) aNil))) (gNm 2) tYesD (eA fSum (aCons (eLc fLst (iZip (aCons (eV 0) (aCons (eV 1) aNil))) (gTp 2 (gsCons (gNm 3) (gsCons (gNm 4) gsNil))) tYesD (e2s (fTimes fLst) (eV 3) (e2 fIx (eV 4) (eV 2))) [3, 4]) aNil)) [2]))
noncomputable def F__changed : FD := fnD 2 5 finP t__changed
abbrev s__heard : Stmt := topS 8
abbrev N__heard : List Str := ["numbers", "chances", "sign", "one", "row"]
theorem sc__heard : FnScope N__heard ["numbers", "chances", "sign"] (defScope s__heard) := sc_by (by decide +kernel)
theorem bd__heard : BindsP s__heard ["numbers", "chances", "sign"] := fun _ _ _ _ _ _ _ us hl => match us, hl with | [_, _, _], _ => rfl
noncomputable def t__heard : RS := (sRet (eLc fLst (iZip (aCons (eV 0) (aCons (eV 1) aNil))) (gTp 2 (gsCons (gNm 3) (gsCons (gNm 4) gsNil))) tYesD (e2s (fTimes fLst) (eV 3) (e2 fIx (eV 4) (eV 2))) [3, 4]))
noncomputable def F__heard : FD := fnD 3 5 finP t__heard
abbrev s_after : Stmt := topS 9
abbrev N_after : List Str := ["weights", "change", "telling", "signs", "bottom", "numbers", "under", "moves", "low", "chances", "step", "sign", "mass", "one"]
theorem sc_after : FnScope N_after ["weights", "change", "telling", "signs"] (defScope s_after) := sc_by (by decide +kernel)
theorem bd_after : BindsP s_after ["weights", "change", "telling", "signs"] := fun _ _ _ _ _ _ _ us hl => match us, hl with | [_, _, _, _], _ => rfl
noncomputable def t_after : RS := (sSeq (sIf (tNotD (tTru (eV 3))) (sRet (eA fTup (aCons (eA fTup (aCons (eC (.int 1)) (aCons (eC (.int 1)) aNil))) (aCons (eV 0) aNil)))) sPass)
    (sSeq (sSet 4 (eA F_bottom_of (aCons (eV 0) aNil)))
    (sSeq (sSet 5 (eA F_wholes (aCons (eV 0) (aCons (eV 4) aNil))))
    (sSeq (sAsg (eA F_rows_over (aCons (eV 1) aNil)) (gTp 2 (gsCons (gNm 6) (gsCons (gNm 7) gsNil))))
    (sSeq (sAsg (eA F_rows_over (aCons (eV 2) aNil)) (gTp 2 (gsCons (gNm 8) (gsCons (gNm 9) gsNil))))
    (sSeq (sFor (iEnum (aCons (eV 3) aNil)) (gTp 2 (gsCons (gNm 10) (gsCons (gNm 11) gsNil))) (sSeq (sIf (tTru (eV 10)) (sSeq (sSet 5 (eA F__changed (aCons (eV 5) (aCons (eV 7) aNil))))
    (sAug 4 fMul (eV 6))) sPass)
    (sSeq (sSet 5 (eA F__heard (aCons (eV 5) (aCons (eV 9) (aCons (eV 11) aNil)))))
    (sAug 4 fMul (eV 8)))))
    (sSeq (sSet 12 (eA fSum (aCons (eV 5) aNil)))
    (sSeq (sIf (tBl (e2 fEq (eV 12) (eC (.int 0)))) (sRet (eA fTup (aCons (eA fTup (aCons (eC (.int 0)) (aCons (eC (.int 1)) aNil))) (aCons (eA fTup aNil) aNil)))) sPass)
    (sRet (eA fTup (aCons (eA F_lowest (aCons (eV 12) (aCons (eV 4) aNil))) (aCons (eLc fTup (iSeq (eV 5)) (gNm 13) tYesD (eA F_lowest (aCons (eV 13) (aCons (eV 12) aNil))) [13]) aNil))))))))))))
noncomputable def F_after : FD := fnD 4 14 finP t_after
abbrev s__law_pool : Stmt := topS 11
abbrev N__law_pool : List Str := ["script"]
theorem sc__law_pool : FnScope N__law_pool ["script"] (defScope s__law_pool) := sc_by (by decide +kernel)
theorem bd__law_pool : BindsP s__law_pool ["script"] := fun _ _ _ _ _ _ _ us hl => match us, hl with | [_], _ => rfl
noncomputable def t__law_pool : RS := (sRet (e2s (fPlus fObj) (eA fLst (aCons (eC (.int 0)) (aCons (eC (.int 7)) (aCons (eC (.int 3)) aNil)))) (eA fListF (aCons (eV 0) aNil))))
noncomputable def F__law_pool : FD := fnD 1 1 finK t__law_pool
abbrev s__law_draw : Stmt := topS 12
abbrev N__law_draw : List Str := ["pool", "many", "cell", "digit", "mixed"]
theorem sc__law_draw : FnScope N__law_draw ["pool", "many"] (defScope s__law_draw) := sc_by (by decide +kernel)
theorem bd__law_draw : BindsP s__law_draw ["pool", "many"] := fun _ _ _ _ _ _ _ us hl => match us, hl with | [_, _], _ => rfl
noncomputable def t__law_draw : RS := (sSeq (sIf (tAndD (tBl (e2 fEq (e2 fIx (eV 0) (eC (.int 0))) (eC (.int 0)))) (tBl (e2 (fCmp fun i j => decide (i < j)) (e2 fIx (eV 0) (eC (.int 2))) (eA fLen (aCons (eV 0) aNil))))) (sSeq (sSet 2 (e2 fIx (eV 0) (e2 fIx (eV 0) (eC (.int 2)))))
    (sSeq (sAsg (e2s (fPlus fLst) (e2 fIx (eV 0) (eC (.int 2))) (eC (.int 1))) (gIx (eV 0) (eC (.int 2))))
    (sSeq (sAsg (e2 fMod (eA fInt1 (aCons (e2s (fPlus fLst) (e2s (fTimes fLst) (e2 fIx (eV 0) (eC (.int 1))) (eC (.int 31))) (eV 2)) aNil)) (eC (.int 2147483647))) (gIx (eV 0) (eC (.int 1))))
    (sIf (tBl (e2 (fCmp fun i j => decide (j ≤ i)) (eA fAbs (aCons (eV 2) aNil)) (e2 fPow (eC (.int 10)) (eC (.int 18))))) (sAsg (eA fAbs (aCons (eV 2) aNil)) (gIx (eV 0) (eC (.int 0)))) sPass)))) sPass)
    (sSeq (sIf (tBl (e2 (fCmp fun i j => decide (j < i)) (e2 fIx (eV 0) (eC (.int 0))) (eC (.int 0)))) (sSeq (sSet 3 (e2 fMod (eA fInt1 (aCons (e2 fIx (eV 0) (eC (.int 0))) aNil)) (eV 1)))
    (sSeq (sAsg (e2 fDiv (e2 fIx (eV 0) (eC (.int 0))) (eV 1)) (gIx (eV 0) (eC (.int 0))))
    (sRet (eV 3)))) sPass)
    (sSeq (sAsg (e2 fMod (eA fInt1 (aCons (e2s (fPlus fLst) (e2s (fTimes fLst) (e2 fIx (eV 0) (eC (.int 1))) (eC (.int 48271))) (eC (.int 12345))) aNil)) (eC (.int 2147483647))) (gIx (eV 0) (eC (.int 1))))
    (sSeq (sSet 4 (e2 fMod (eA fInt1 (aCons (e2s (fPlus fLst) (e2s (fPlus fLst) (e2s (fTimes fLst) (e2 fIx (eV 0) (eC (.int 1))) (eC (.int 69621))) (e2 fDiv (e2 fIx (eV 0) (eC (.int 1))) (eC (.int 65536)))) (eC (.int 17))) aNil)) (eC (.int 2147483629))))
    (sRet (e2 fMod (eA fInt1 (aCons (e2 fDiv (eV 4) (eC (.int 16))) aNil)) (eV 1)))))))
noncomputable def F__law_draw : FD := fnD 2 5 finM t__law_draw
abbrev s__law_pick : Stmt := topS 13
abbrev N__law_pick : List Str := ["pool", "things"]
theorem sc__law_pick : FnScope N__law_pick ["pool", "things"] (defScope s__law_pick) := sc_by (by decide +kernel)
theorem bd__law_pick : BindsP s__law_pick ["pool", "things"] := fun _ _ _ _ _ _ _ us hl => match us, hl with | [_, _], _ => rfl
noncomputable def t__law_pick : RS := (sRet (e2 fIx (eV 1) (eA F__law_draw (aCons (eV 0) (aCons (eA fLen (aCons (eV 1) aNil)) aNil)))))
noncomputable def F__law_pick : FD := fnD 2 2 finM t__law_pick
abbrev s__law_same : Stmt := topS 14
abbrev N__law_same : List Str := ["told", "due", "k"]
theorem sc__law_same : FnScope N__law_same ["told", "due"] (defScope s__law_same) := sc_by (by decide +kernel)
theorem bd__law_same : BindsP s__law_same ["told", "due"] := fun _ _ _ _ _ _ _ us hl => match us, hl with | [_, _], _ => rfl
noncomputable def t__law_same (self : FD) : RS := (sSeq (sIf (tTru (e1 (fIsi "tuple") (eV 1))) (sSeq (sIf (tOrD (tNotD (tTru (e1 (fIsi "tuple") (eV 0)))) (tBl (e2 fNe (eA fLen (aCons (eV 0) aNil)) (eA fLen (aCons (eV 1) aNil))))) (sRet (eC (.bl false))) sPass)
    (sRet (e2 fEq (eLc fLst (iRange1 (eA fLen (aCons (eV 1) aNil))) (gNm 2) (tNotD (tTru (eA self (aCons (e2 fIx (eV 0) (eV 2)) (aCons (e2 fIx (eV 1) (eV 2)) aNil))))) (eV 2) [2]) (eA fLst aNil)))) sPass)
    (sSeq (sIf (tTru (e1 (fIsi "str") (eV 1))) (sRet (eAnd (e1 (fIsi "str") (eV 0)) (e2 fEq (eV 0) (eV 1)))) sPass)
    (sSeq (sIf (tBl (e2 fIsN (eV 1) (eC .non))) (sRet (e2 fIsN (eV 0) (eC .non))) sPass)
    (sRet (eAnd (e1 (fIsi "int") (eV 0)) (eAnd (e2 fEq (e1 (fIsi "bool") (eV 0)) (e1 (fIsi "bool") (eV 1))) (e2 fEq (eV 0) (eV 1))))))))
noncomputable def F__law_same : Nat → FD
  | 0 => fun _ _ => none
  | m + 1 => fnD 2 3 finP (t__law_same (F__law_same m))
abbrev s__law_fraction : Stmt := topS 15
abbrev N__law_fraction : List Str := ["over", "under", "one", "other", "turn", "sign"]
theorem sc__law_fraction : FnScope N__law_fraction ["over", "under"] (defScope s__law_fraction) := sc_by (by decide +kernel)
theorem bd__law_fraction : BindsP s__law_fraction ["over", "under"] := fun _ _ _ _ _ _ _ us hl => match us, hl with | [_, _], _ => rfl
noncomputable def t__law_fraction : RS := (sSeq (sPar 2 3 (aCons (eA fAbs (aCons (eV 0) aNil)) (aCons (eA fAbs (aCons (eV 1) aNil)) aNil)))
    (sSeq (sFor (iRange1 (eC (.int 20000))) (gNm 4) (sSeq (sIf (tBl (e2 fEq (eV 3) (eC (.int 0)))) sBreak sPass)
    (sPar 2 3 (aCons (eV 3) (aCons (e2 fMod (eA fInt1 (aCons (eV 2) aNil)) (eV 3)) aNil)))))
    (sSeq (sSet 5 (eIf (tBl (e2 (fCmp fun i j => decide (j < i)) (eV 1) (eC (.int 0)))) (eC (.int 1)) (e1 fNeg (eC (.int 1)))))
    (sRet (eA fTup (aCons (e2 fDiv (e2s (fTimes fLst) (eV 5) (eV 0)) (eA fMax2 (aCons (eC (.int 1)) (aCons (eV 2) aNil)))) (aCons (e2 fDiv (eA fAbs (aCons (eV 1) aNil)) (eA fMax2 (aCons (eC (.int 1)) (aCons (eV 2) aNil)))) aNil)))))))
noncomputable def F__law_fraction : FD := fnD 2 6 finP t__law_fraction
abbrev s__law_plus : Stmt := topS 16
abbrev N__law_plus : List Str := ["a", "b"]
theorem sc__law_plus : FnScope N__law_plus ["a", "b"] (defScope s__law_plus) := sc_by (by decide +kernel)
theorem bd__law_plus : BindsP s__law_plus ["a", "b"] := fun _ _ _ _ _ _ _ us hl => match us, hl with | [_, _], _ => rfl
noncomputable def t__law_plus : RS := (sRet (eA F__law_fraction (aCons (e2s (fPlus fLst) (e2s (fTimes fLst) (e2 fIx (eV 0) (eC (.int 0))) (e2 fIx (eV 1) (eC (.int 1)))) (e2s (fTimes fLst) (e2 fIx (eV 1) (eC (.int 0))) (e2 fIx (eV 0) (eC (.int 1))))) (aCons (e2s (fTimes fLst) (e2 fIx (eV 0) (eC (.int 1))) (e2 fIx (eV 1) (eC (.int 1)))) aNil))))
noncomputable def F__law_plus : FD := fnD 2 2 finP t__law_plus
abbrev s__law_times : Stmt := topS 17
abbrev N__law_times : List Str := ["a", "b"]
theorem sc__law_times : FnScope N__law_times ["a", "b"] (defScope s__law_times) := sc_by (by decide +kernel)
theorem bd__law_times : BindsP s__law_times ["a", "b"] := fun _ _ _ _ _ _ _ us hl => match us, hl with | [_, _], _ => rfl
noncomputable def t__law_times : RS := (sRet (eA F__law_fraction (aCons (e2s (fTimes fLst) (e2 fIx (eV 0) (eC (.int 0))) (e2 fIx (eV 1) (eC (.int 0)))) (aCons (e2s (fTimes fLst) (e2 fIx (eV 0) (eC (.int 1))) (e2 fIx (eV 1) (eC (.int 1)))) aNil))))
noncomputable def F__law_times : FD := fnD 2 2 finP t__law_times
abbrev s__law_total : Stmt := topS 18
abbrev N__law_total : List Str := ["some", "found", "one"]
theorem sc__law_total : FnScope N__law_total ["some"] (defScope s__law_total) := sc_by (by decide +kernel)
theorem bd__law_total : BindsP s__law_total ["some"] := fun _ _ _ _ _ _ _ us hl => match us, hl with | [_], _ => rfl
noncomputable def t__law_total : RS := (sSeq (sSet 1 (eA fTup (aCons (eC (.int 0)) (aCons (eC (.int 1)) aNil))))
    (sSeq (sFor (iSeq (eV 0)) (gNm 2) (sSet 1 (eA F__law_plus (aCons (eV 1) (aCons (eV 2) aNil)))))
    (sRet (eV 1))))
noncomputable def F__law_total : FD := fnD 1 3 finP t__law_total
abbrev s__law_row : Stmt := topS 19
abbrev N__law_row : List Str := ["pool", "many", "numbers", "k", "number"]
theorem sc__law_row : FnScope N__law_row ["pool", "many"] (defScope s__law_row) := sc_by (by decide +kernel)
theorem bd__law_row : BindsP s__law_row ["pool", "many"] := fun _ _ _ _ _ _ _ us hl => match us, hl with | [_, _], _ => rfl
noncomputable def t__law_row : RS := (sSeq (sSet 2 (eLc fObj (iRange1 (eV 1)) (gNm 3) tYesD (eA F__law_pick (aCons (eV 0) (aCons (eA fLst (aCons (eC (.int 0)) (aCons (eC (.int 0)) (aCons (eC (.int 1)) (aCons (eC (.int 1)) (aCons (eC (.int 2)) (aCons (eC (.int 3)) (aCons (eC (.int 5)) aNil)))))))) aNil))) [3]))
    (sSeq (sIf (tBl (e2 fEq (eA fSum (aCons (eV 2) aNil)) (eC (.int 0)))) (sAsg (eC (.int 1)) (gIx (eV 2) (eA F__law_draw (aCons (eV 0) (aCons (eV 1) aNil))))) sPass)
    (sRet (eA fTupOf (aCons (eLc fLst (iSeq (eV 2)) (gNm 4) tYesD (eA F__law_fraction (aCons (eV 4) (aCons (eA fSum (aCons (eV 2) aNil)) aNil))) [4]) aNil)))))
noncomputable def F__law_row : FD := fnD 2 5 finM t__law_row
abbrev s__law_telling : Stmt := topS 20
abbrev N__law_telling : List Str := ["pool", "worlds", "signs", "rows", "w"]
theorem sc__law_telling : FnScope N__law_telling ["pool", "worlds", "signs"] (defScope s__law_telling) := sc_by (by decide +kernel)
theorem bd__law_telling : BindsP s__law_telling ["pool", "worlds", "signs"] := fun _ _ _ _ _ _ _ us hl => match us, hl with | [_, _, _], _ => rfl
noncomputable def t__law_telling : RS := (sSeq (sSet 3 (eLc fObj (iRange1 (eV 1)) (gNm 4) tYesD (eA F__law_row (aCons (eV 0) (aCons (eV 2) aNil))) [4]))
    (sSeq (sIf (tAndD (tBl (e2 (fCmp fun i j => decide (j < i)) (eV 1) (eC (.int 1)))) (tBl (e2 fEq (eA F__law_draw (aCons (eV 0) (aCons (eC (.int 4)) aNil))) (eC (.int 0))))) (sAsg (e2 fIx (eV 3) (eA F__law_draw (aCons (eV 0) (aCons (eV 1) aNil)))) (gIx (eV 3) (eA F__law_draw (aCons (eV 0) (aCons (eV 1) aNil))))) sPass)
    (sRet (eA fTupOf (aCons (eV 3) aNil)))))
noncomputable def F__law_telling : FD := fnD 3 5 finM t__law_telling
abbrev s__law_change : Stmt := topS 21
abbrev N__law_change : List Str := ["pool", "worlds", "w", "v"]
theorem sc__law_change : FnScope N__law_change ["pool", "worlds"] (defScope s__law_change) := sc_by (by decide +kernel)
theorem bd__law_change : BindsP s__law_change ["pool", "worlds"] := fun _ _ _ _ _ _ _ us hl => match us, hl with | [_, _], _ => rfl
noncomputable def t__law_change : RS := (sSeq (sIf (tBl (e2 fEq (eA F__law_draw (aCons (eV 0) (aCons (eC (.int 4)) aNil))) (eC (.int 0)))) (sRet (eA fTupOf (aCons (eLc fLst (iRange1 (eV 1)) (gNm 2) tYesD (eA fTupOf (aCons (eLc fLst (iRange1 (eV 1)) (gNm 3) tYesD (eIf (tBl (e2 fEq (eV 2) (eV 3))) (eA fTup (aCons (eC (.int 1)) (aCons (eC (.int 1)) aNil))) (eA fTup (aCons (eC (.int 0)) (aCons (eC (.int 1)) aNil)))) [3]) aNil)) [2]) aNil))) sPass)
    (sRet (eA fTupOf (aCons (eLc fLst (iRange1 (eV 1)) (gNm 2) tYesD (eA F__law_row (aCons (eV 0) (aCons (eV 1) aNil))) [2]) aNil))))
noncomputable def F__law_change : FD := fnD 2 4 finM t__law_change
abbrev s__law_moved : Stmt := topS 22
abbrev N__law_moved : List Str := ["change", "numbers", "found", "v", "w"]
theorem sc__law_moved : FnScope N__law_moved ["change", "numbers"] (defScope s__law_moved) := sc_by (by decide +kernel)
theorem bd__law_moved : BindsP s__law_moved ["change", "numbers"] := fun _ _ _ _ _ _ _ us hl => match us, hl with | [_, _], _ => rfl
noncomputable def t__law_moved : RS := (sSeq (sSet 2 (eA fObj aNil))
    (sSeq (sFor (iRange1 (eA fLen (aCons (eV 0) aNil))) (gNm 3) (sExpr (eM fAppend (eV 2) (aCons (eA F__law_total (aCons (eLc fLst (iRange1 (eA fLen (aCons (eV 0) aNil))) (gNm 4) tYesD (eA F__law_times (aCons (e2 fIx (eV 1) (eV 4)) (aCons (e2 fIx (e2 fIx (eV 0) (eV 4)) (eV 3)) aNil))) [4]) aNil)) aNil))))
    (sRet (eV 2))))
noncomputable def F__law_moved : FD := fnD 2 5 finP t__law_moved
abbrev s__law_joint : Stmt := topS 23
abbrev N__law_joint : List Str := ["weights", "change", "telling", "signs", "numbers", "k", "w"]
theorem sc__law_joint : FnScope N__law_joint ["weights", "change", "telling", "signs"] (defScope s__law_joint) := sc_by (by decide +kernel)
theorem bd__law_joint : BindsP s__law_joint ["weights", "change", "telling", "signs"] := fun _ _ _ _ _ _ _ us hl => match us, hl with | [_, _, _, _], _ => rfl
noncomputable def t__law_joint : RS := (sSeq (sSet 4 (eA fListF (aCons (eV 0) aNil)))
    (sSeq (sFor (iRange1 (eA fLen (aCons (eV 3) aNil))) (gNm 5) (sSeq (sIf (tBl (e2 (fCmp fun i j => decide (j < i)) (eV 5) (eC (.int 0)))) (sSet 4 (eA F__law_moved (aCons (eV 1) (aCons (eV 4) aNil)))) sPass)
    (sSet 4 (eLc fLst (iRange1 (eA fLen (aCons (eV 4) aNil))) (gNm 6) tYesD (eA F__law_times (aCons (e2 fIx (eV 4) (eV 6)) (aCons (e2 fIx (e2 fIx (eV 2) (eV 6)) (e2 fIx (eV 3) (eV 5))) aNil))) [6]))))
    (sRet (eV 4))))
noncomputable def F__law_joint : FD := fnD 4 7 finP t__law_joint
abbrev s__law_rows_of : Stmt := topS 24
abbrev N__law_rows_of : List Str := ["signs", "steps", "found", "k", "longer", "row", "s"]
theorem sc__law_rows_of : FnScope N__law_rows_of ["signs", "steps"] (defScope s__law_rows_of) := sc_by (by decide +kernel)
theorem bd__law_rows_of : BindsP s__law_rows_of ["signs", "steps"] := fun _ _ _ _ _ _ _ us hl => match us, hl with | [_, _], _ => rfl
noncomputable def t__law_rows_of : RS := (sSeq (sSet 2 (eA fLst (aCons (eA fTup aNil) aNil)))
    (sSeq (sFor (iRange1 (eV 1)) (gNm 3) (sSeq (sSet 4 (eA fLst aNil))
    (sSeq (sFor (iSeq (eV 2)) (gNm 5) (sSet 4 (e2s (fPlus fLst) (eV 4) (eLc fLst (iRange1 (eV 0)) (gNm 6) tYesD (e2s (fPlus fLst) (eV 5) (eA fTup (aCons (eV 6) aNil))) [6]))))
    (sSet 2 (eV 4)))))
    (sRet (eV 2))))
noncomputable def F__law_rows_of : FD := fnD 2 7 finP t__law_rows_of
abbrev s__law_due : Stmt := topS 25
abbrev N__law_due : List Str := ["weights", "change", "telling", "signs", "numbers", "chance", "one"]
theorem sc__law_due : FnScope N__law_due ["weights", "change", "telling", "signs"] (defScope s__law_due) := sc_by (by decide +kernel)
theorem bd__law_due : BindsP s__law_due ["weights", "change", "telling", "signs"] := fun _ _ _ _ _ _ _ us hl => match us, hl with | [_, _, _, _], _ => rfl
noncomputable def t__law_due : RS := (sSeq (sIf (tBl (e2 fEq (eV 3) (eA fTup aNil))) (sRet (eA fTup (aCons (eA fTup (aCons (eC (.int 1)) (aCons (eC (.int 1)) aNil))) (aCons (eV 0) aNil)))) sPass)
    (sSeq (sSet 4 (eA F__law_joint (aCons (eV 0) (aCons (eV 1) (aCons (eV 2) (aCons (eV 3) aNil))))))
    (sSeq (sSet 5 (eA F__law_total (aCons (eV 4) aNil)))
    (sSeq (sIf (tBl (e2 fEq (e2 fIx (eV 5) (eC (.int 0))) (eC (.int 0)))) (sRet (eA fTup (aCons (eA fTup (aCons (eC (.int 0)) (aCons (eC (.int 1)) aNil))) (aCons (eA fTup aNil) aNil)))) sPass)
    (sRet (eA fTup (aCons (eV 5) (aCons (eA fTupOf (aCons (eLc fLst (iSeq (eV 4)) (gNm 6) tYesD (eA F__law_fraction (aCons (e2s (fTimes fLst) (e2 fIx (eV 6) (eC (.int 0))) (e2 fIx (eV 5) (eC (.int 1)))) (aCons (e2s (fTimes fLst) (e2 fIx (eV 6) (eC (.int 1))) (e2 fIx (eV 5) (eC (.int 0)))) aNil))) [6]) aNil)) aNil))))))))
noncomputable def F__law_due : FD := fnD 4 7 finP t__law_due
abbrev s_law : Stmt := topS 26
abbrev N_law : List Str := ["script", "pool", "turn", "again", "row", "worlds", "signs", "weights", "change", "telling", "due", "chances", "means", "chance", "belief", "w", "k"]
theorem sc_law : FnScope N_law ["script"] (defScope s_law) := sc_by (by decide +kernel)
theorem bd_law : BindsP s_law ["script"] := fun _ _ _ _ _ _ _ us hl => match us, hl with | [_], _ => rfl
noncomputable def t_law : RS := (sSeq (sSet 1 (eA F__law_pool (aCons (eV 0) aNil)))
    (sSeq (sFor (iRange1 (eC (.int 4))) (gNm 2) (sSeq (sAsg (eA fTup (aCons (e2s (fPlus fLst) (eC (.int 1)) (eA F__law_draw (aCons (eV 1) (aCons (eC (.int 4)) aNil)))) (aCons (e2s (fPlus fLst) (eC (.int 1)) (eA F__law_draw (aCons (eV 1) (aCons (eC (.int 4)) aNil)))) aNil))) (gTp 2 (gsCons (gNm 5) (gsCons (gNm 6) gsNil))))
    (sSeq (sPar3 7 8 9 (aCons (eA F__law_row (aCons (eV 1) (aCons (eV 5) aNil))) (aCons (eA F__law_change (aCons (eV 1) (aCons (eV 5) aNil))) (aCons (eA F__law_telling (aCons (eV 1) (aCons (eV 5) (aCons (eV 6) aNil)))) aNil))))
    (sSeq (sFor (iRange1 (eC (.int 6))) (gNm 3) (sSeq (sSet 4 (eA fTupOf (aCons (eLc fLst (iRange1 (eA F__law_pick (aCons (eV 1) (aCons (eA fLst (aCons (eC (.int 0)) (aCons (eC (.int 1)) (aCons (eC (.int 2)) (aCons (eC (.int 3)) (aCons (eC (.int 5)) (aCons (eC (.int 8)) aNil))))))) aNil)))) (gNm 16) tYesD (eA F__law_draw (aCons (eV 1) (aCons (eV 6) aNil))) [16]) aNil)))
    (sSeq (sSet 10 (eA F__law_due (aCons (eV 7) (aCons (eV 8) (aCons (eV 9) (aCons (eV 4) aNil))))))
    (sIf (tOrD (tNotD (tTru (eA (F__law_same 8) (aCons (eA F_after (aCons (eV 7) (aCons (eV 8) (aCons (eV 9) (aCons (eV 4) aNil))))) (aCons (eV 10) aNil))))) (tNotD (tTru (eA (F__law_same 8) (aCons (eA (fun xs S => F_after (pick [0, 1, 2, 3] xs) S) (aCons (eV 7) (aCons (eV 8) (aCons (eV 9) (aCons (eV 4) aNil))))) (aCons (eV 10) aNil)))))) (sRet (eC (.bl false))) sPass))))
    (sSeq (sAsg (eA fTup (aCons (eA fObj aNil) (aCons (eLc fLst (iRange1 (eV 5)) (gNm 15) tYesD (eA fTup (aCons (eC (.int 0)) (aCons (eC (.int 1)) aNil))) [15]) aNil))) (gTp 2 (gsCons (gNm 11) (gsCons (gNm 12) gsNil))))
    (sSeq (sFor (iSeq (eA F__law_rows_of (aCons (eV 6) (aCons (eC (.int 2)) aNil)))) (gNm 4) (sSeq (sAsg (eA F_after (aCons (eV 7) (aCons (eV 8) (aCons (eV 9) (aCons (eV 4) aNil))))) (gTp 2 (gsCons (gNm 13) (gsCons (gNm 14) gsNil))))
    (sSeq (sExpr (eM fAppend (eV 11) (aCons (eV 13) aNil)))
    (sIf (tBl (e2 fNe (eV 14) (eA fTup aNil))) (sSet 12 (eLc fLst (iRange1 (eV 5)) (gNm 15) tYesD (eA F__law_plus (aCons (e2 fIx (eV 12) (eV 15)) (aCons (eA F__law_times (aCons (eV 13) (aCons (e2 fIx (eV 14) (eV 15)) aNil))) aNil))) [15])) sPass))))
    (sIf (tOrD (tBl (e2 fNe (eA F__law_total (aCons (eV 11) aNil)) (eA fTup (aCons (eC (.int 1)) (aCons (eC (.int 1)) aNil))))) (tBl (e2 fNe (eV 12) (eA F__law_moved (aCons (eV 8) (aCons (eA fListF (aCons (eV 7) aNil)) aNil)))))) (sRet (eC (.bl false))) sPass)))))))
    (sRet (eC (.bl true)))))
noncomputable def F_law : FD := fnD 1 17 finP t_law
theorem bk_after_0123 : BindsK s_after ["weights", "change", "telling", "signs"] ["weights", "change", "telling", "signs"] [0, 1, 2, 3] := fun _ _ _ _ _ _ _ us hl => match us, hl with | [_, _, _, _], _ => rfl
section
variable {P : Program} {wd : World} {G : Gc} {mg : Str → Option Value}
theorem ok_common_part {f c  : Addr}  (A : FAt G.K mg "common_part" s_common_part f c) (z_abs : mg "abs" = none) : DFs P wd G mg 2 "common_part" s_common_part f ["one", "other"] F_common_part := by
  refine fn_at (k := 1) (cv := none) (N := N_common_part) (ps := ["one", "other"]) (fin := finP) (t := t_common_part) A sc_common_part finP_ok (fun v hv => by cases hv) fun A1 outer s H E hr => ?_
  exact (dss_cons (ds_par (i := 0) (j := 1) rfl sc_common_part.nd rfl rfl (by decide) rfl rfl (da_cons (de_abs z_abs (dv 0)) (da_cons (de_abs z_abs (dv 1)) da_nil)) rfl)
    (dss_cons (ds_while (n := fuelI) PassesOwn.never (dt_tru (dv 1)) (dss_one (ds_par (i := 0) (j := 1) rfl sc_common_part.nd rfl rfl (by decide) rfl rfl (da_cons (dv 1) (da_cons (de_mod (dv 0) (dv 1)) da_nil)) rfl)))
    (dss_one (ds_ret (dv 0)))))
theorem ok_lowest {f c f_common_part : Addr}  (A : FAt G.K mg "lowest" s_lowest f c) (h_common_part : DFs P wd G mg 2 "common_part" s_common_part f_common_part ["one", "other"] F_common_part) : DFs P wd G mg 3 "lowest" s_lowest f ["top", "bottom"] F_lowest := by
  refine fn_at (k := 2) (cv := none) (N := N_lowest) (ps := ["top", "bottom"]) (fin := finP) (t := t_lowest) A sc_lowest finP_ok (fun v hv => by cases hv) fun A1 outer s H E hr => ?_
  exact (dss_cons (ds_set (i := 2) sc_lowest.nd rfl (by first | exact .inl rfl | exact .inr rfl) (dcall (G := G) h_common_part bd_common_part (hr.mono (by omega)) (da_cons (dv 0) (da_cons (dv 1) da_nil))) rfl (by first | exact .inl rfl | exact .inr rfl))
    (dss_cons (ds_if (dt_cmp c_lt (dv 1) de_int) (dss_one (ds_set (i := 2) sc_lowest.nd rfl (by first | exact .inl rfl | exact .inr rfl) (de_neg (dv 2)) rfl (by first | exact .inl rfl | exact .inr rfl))) dss_nil)
    (dss_one (ds_ret (de_tup (da_cons (de_div (dv 0) (dv 2)) (da_cons (de_div (dv 1) (dv 2)) da_nil)))))))
theorem ok_bottom_of {f c f_common_part : Addr}  (A : FAt G.K mg "bottom_of" s_bottom_of f c) (h_common_part : DFs P wd G mg 2 "common_part" s_common_part f_common_part ["one", "other"] F_common_part) : DFs P wd G mg 3 "bottom_of" s_bottom_of f ["fractions"] F_bottom_of := by
  refine fn_at (k := 2) (cv := none) (N := N_bottom_of) (ps := ["fractions"]) (fin := finP) (t := t_bottom_of) A sc_bottom_of finP_ok (fun v hv => by cases hv) fun A1 outer s H E hr => ?_
  exact (dss_cons (ds_set (i := 1) sc_bottom_of.nd rfl (by first | exact .inl rfl | exact .inr rfl) de_int rfl (by first | exact .inl rfl | exact .inr rfl))
    (dss_cons (ds_for PassesOwn.never rfl (fun _ => rfl) (di_seq (dv 0)) (dg_name (i := 2) sc_bottom_of.nd rfl (by first | exact .inl rfl | exact .inr rfl) (by first | exact .inl rfl | exact .inr rfl)) (dss_one (ds_set (i := 1) sc_bottom_of.nd rfl (by first | exact .inl rfl | exact .inr rfl) (de_times newF (de_div (dv 1) (dcall (G := G) h_common_part bd_common_part (hr.mono (by omega)) (da_cons (dv 1) (da_cons (de_ix (dv 2) de_int) da_nil)))) (de_ix (dv 2) de_int)) rfl (by first | exact .inl rfl | exact .inr rfl))))
    (dss_one (ds_ret (dv 1)))))
theorem ok_wholes {f c  : Addr}  (A : FAt G.K mg "wholes" s_wholes f c) (z_tuple : mg "tuple" = none) (bm : ∃ B, G.base.BuiltinsAt mg B) (ht : ∃ B, G.t0 c B) : DFs P wd G mg 6 "wholes" s_wholes f ["fractions", "bottom"] F_wholes := by
  refine fn_at (k := 5) (cv := some (.ref c)) (N := N_wholes) (ps := ["fractions", "bottom"]) (fin := finP) (t := t_wholes) A sc_wholes finP_ok (fun v hv => by cases hv; exact ⟨rfl, ht⟩) fun A1 outer s H E hr => ?_
  exact (dss_one (ds_ret (de_tupGen (k := 0) (own := [("one", 2)]) (hr.mono (by omega)) z_tuple rfl rfl rfl sc_wholes.nd bm (di_seq (dv 0)) (blkOk_by (by kernel_rfl)) (fun s H L cl qn c0 fp pn A0 hr => ⟨(dgw_name (i := 2) sc_wholes.nd rfl (by first | exact .inl rfl | exact .inr rfl) (by first | exact .inl rfl | exact .inr rfl) (by decide)), dts_nil, (de_times newF (de_ix (dv 2) de_int) (de_div (dv 1) (de_ix (dv 2) de_int)))⟩))))
theorem ok_rows_over {f c f_bottom_of f_wholes : Addr}  (A : FAt G.K mg "rows_over" s_rows_over f c) (z_tuple : mg "tuple" = none) (h_bottom_of : DFs P wd G mg 3 "bottom_of" s_bottom_of f_bottom_of ["fractions"] F_bottom_of) (h_wholes : DFs P wd G mg 6 "wholes" s_wholes f_wholes ["fractions", "bottom"] F_wholes) (bm : ∃ B, G.base.BuiltinsAt mg B) (ht : ∃ B, G.t0 c B) : DFs P wd G mg 12 "rows_over" s_rows_over f ["rows"] F_rows_over := by
  refine fn_at (k := 11) (cv := some (.ref c)) (N := N_rows_over) (ps := ["rows"]) (fin := finP) (t := t_rows_over) A sc_rows_over finP_ok (fun v hv => by cases hv; exact ⟨rfl, ht⟩) fun A1 outer s H E hr => ?_
  exact (dss_cons (ds_set (i := 1) sc_rows_over.nd rfl (by first | exact .inl rfl | exact .inr rfl) (dcall (G := G) h_bottom_of bd_bottom_of (hr.mono (by omega)) (da_cons (de_lc2 (own := [("row", 2), ("one", 3)]) (vs1 := [3]) mkF rfl sc_rows_over.nd (di_seq (dv 0)) (blkOk_by (by kernel_rfl)) (by decide) (fun s H C cl fp => (dgw_name (i := 2) sc_rows_over.nd rfl (by first | exact .inl rfl | exact .inr rfl) (by first | exact .inl rfl | exact .inr rfl) (by decide))) (fun s H C cl fp => dts_nil) (fun s H C cl fp => (di_seq (dv 2))) (fun s H C cl fp => (dgw_name (i := 3) sc_rows_over.nd rfl (by first | exact .inl rfl | exact .inr rfl) (by first | exact .inl rfl | exact .inr rfl) (by decide))) (fun s H C cl fp => dts_nil) (fun s H C cl fp => (dv 3))) da_nil)) rfl (by first | exact .inl rfl | exact .inr rfl))
    (dss_one (ds_ret (de_tup (da_cons (dv 1) (da_cons (de_tupGen (k := 6) (own := [("row", 2)]) (hr.mono (by omega)) z_tuple rfl rfl rfl sc_rows_over.nd bm (di_seq (dv 0)) (blkOk_by (by kernel_rfl)) (fun s H L cl qn c0 fp pn A0 hr => ⟨(dgw_name (i := 2) sc_rows_over.nd rfl (by first | exact .inl rfl | exact .inr rfl) (by first | exact .inl rfl | exact .inr rfl) (by decide)), dts_nil, (dcall (G := G) h_wholes bd_wholes (hr.mono (by omega)) (da_cons (dv 2) (da_cons (dv 1) da_nil)))⟩)) da_nil))))))
theorem ok__changed {f c  : Addr}  (A : FAt G.K mg "_changed" s__changed f c) (z_len : mg "len" = none) (z_range : mg "range" = none) (z_sum : mg "sum" = none) (z_zip : mg "zip" = none) : DFs P wd G mg 2 "_changed" s__changed f ["numbers", "moves"] F__changed := by
  refine fn_at (k := 1) (cv := none) (N := N__changed) (ps := ["numbers", "moves"]) (fin := finP) (t := t__changed) A sc__changed finP_ok (fun v hv => by cases hv) fun A1 outer s H E hr => ?_
  exact (dss_one (ds_ret (de_lc (own := [("at", 2)]) mkF rfl sc__changed.nd (di_range1 z_range (de_len z_len (dv 1))) (blkOk_by (by kernel_rfl)) (fun s H C cl fp => (dgw_name (i := 2) sc__changed.nd rfl (by first | exact .inl rfl | exact .inr rfl) (by first | exact .inl rfl | exact .inr rfl) (by decide))) (fun s H C cl fp => dts_nil) (fun s H C cl fp => (de_sum rfl z_sum (de_lc (own := [("one", 3), ("row", 4)]) mkF rfl sc__changed.nd (di_zip z_zip (dv 0) (dv 1)) (blkOk_by (by kernel_rfl)) (fun s H C cl fp => (dgw_tup rfl (dgsw_cons (dgw_name (i := 3) sc__changed.nd rfl (by first | exact .inl rfl | exact .inr rfl) (by first | exact .inl rfl | exact .inr rfl) (by decide)) (dgsw_cons (dgw_name (i := 4) sc__changed.nd rfl (by first | exact .inl rfl | exact .inr rfl) (by first | exact .inl rfl | exact .inr rfl) (by decide)) dgsw_nil)))) (fun s H C cl fp => dts_nil) (fun s H C cl fp => (de_times newF (dv 3) (de_ix (dv 4) (dv 2))))))))))
theorem ok__heard {f c  : Addr}  (A : FAt G.K mg "_heard" s__heard f c) (z_zip : mg "zip" = none) : DFs P wd G mg 2 "_heard" s__heard f ["numbers", "chances", "sign"] F__heard := by
  refine fn_at (k := 1) (cv := none) (N := N__heard) (ps := ["numbers", "chances", "sign"]) (fin := finP) (t := t__heard) A sc__heard finP_ok (fun v hv => by cases hv) fun A1 outer s H E hr => ?_
  exact (dss_one (ds_ret (de_lc (own := [("one", 3), ("row", 4)]) mkF rfl sc__heard.nd (di_zip z_zip (dv 0) (dv 1)) (blkOk_by (by kernel_rfl)) (fun s H C cl fp => (dgw_tup rfl (dgsw_cons (dgw_name (i := 3) sc__heard.nd rfl (by first | exact .inl rfl | exact .inr rfl) (by first | exact .inl rfl | exact .inr rfl) (by decide)) (dgsw_cons (dgw_name (i := 4) sc__heard.nd rfl (by first | exact .inl rfl | exact .inr rfl) (by first | exact .inl rfl | exact .inr rfl) (by decide)) dgsw_nil)))) (fun s H C cl fp => dts_nil) (fun s H C cl fp => (de_times newF (dv 3) (de_ix (dv 4) (dv 2)))))))
theorem ok_after {f c f__changed f__heard f_bottom_of f_lowest f_rows_over f_wholes : Addr}  (A : FAt G.K mg "after" s_after f c) (z_enumerate : mg "enumerate" = none) (z_sum : mg "sum" = none) (z_tuple : mg "tuple" = none) (h__changed : DFs P wd G mg 2 "_changed" s__changed f__changed ["numbers", "moves"] F__changed) (h__heard : DFs P wd G mg 2 "_heard" s__heard f__heard ["numbers", "chances", "sign"] F__heard) (h_bottom_of : DFs P wd G mg 3 "bottom_of" s_bottom_of f_bottom_of ["fractions"] F_bottom_of) (h_lowest : DFs P wd G mg 3 "lowest" s_lowest f_lowest ["top", "bottom"] F_lowest) (h_rows_over : DFs P wd G mg 12 "rows_over" s_rows_over f_rows_over ["rows"] F_rows_over) (h_wholes : DFs P wd G mg 6 "wholes" s_wholes f_wholes ["fractions", "bottom"] F_wholes) (bm : ∃ B, G.base.BuiltinsAt mg B) (ht : ∃ B, G.t0 c B) : DFs P wd G mg 13 "after" s_after f ["weights", "change", "telling", "signs"] F_after := by
  refine fn_at (k := 12) (cv := some (.ref c)) (N := N_after) (ps := ["weights", "change", "telling", "signs"]) (fin := finP) (t := t_after) A sc_after finP_ok (fun v hv => by cases hv; exact ⟨rfl, ht⟩) fun A1 outer s H E hr => ?_
  exact (dss_cons (ds_if (dt_not (dt_tru (dv 3))) (dss_one (ds_ret (de_tup (da_cons (de_tup (da_cons de_int (da_cons de_int da_nil))) (da_cons (dv 0) da_nil))))) dss_nil)
    (dss_cons (ds_set (i := 4) sc_after.nd rfl (by first | exact .inl rfl | exact .inr rfl) (dcall (G := G) h_bottom_of bd_bottom_of (hr.mono (by omega)) (da_cons (dv 0) da_nil)) rfl (by first | exact .inl rfl | exact .inr rfl))
    (dss_cons (ds_set (i := 5) sc_after.nd rfl (by first | exact .inl rfl | exact .inr rfl) (dcall (G := G) h_wholes bd_wholes (hr.mono (by omega)) (da_cons (dv 0) (da_cons (dv 4) da_nil))) rfl (by first | exact .inl rfl | exact .inr rfl))
    (dss_cons (ds_asg (dcall (G := G) h_rows_over bd_rows_over (hr.mono (by omega)) (da_cons (dv 1) da_nil)) (dg_tup rfl (dgs_cons (dg_name (i := 6) sc_after.nd rfl (by first | exact .inl rfl | exact .inr rfl) (by first | exact .inl rfl | exact .inr rfl)) (dgs_cons (dg_name (i := 7) sc_after.nd rfl (by first | exact .inl rfl | exact .inr rfl) (by first | exact .inl rfl | exact .inr rfl)) dgs_nil))))
    (dss_cons (ds_asg (dcall (G := G) h_rows_over bd_rows_over (hr.mono (by omega)) (da_cons (dv 2) da_nil)) (dg_tup rfl (dgs_cons (dg_name (i := 8) sc_after.nd rfl (by first | exact .inl rfl | exact .inr rfl) (by first | exact .inl rfl | exact .inr rfl)) (dgs_cons (dg_name (i := 9) sc_after.nd rfl (by first | exact .inl rfl | exact .inr rfl) (by first | exact .inl rfl | exact .inr rfl)) dgs_nil))))
    (dss_cons (ds_for PassesOwn.never rfl (fun _ => rfl) (di_enum z_enumerate (dv 3)) (dg_tup rfl (dgs_cons (dg_name (i := 10) sc_after.nd rfl (by first | exact .inl rfl | exact .inr rfl) (by first | exact .inl rfl | exact .inr rfl)) (dgs_cons (dg_name (i := 11) sc_after.nd rfl (by first | exact .inl rfl | exact .inr rfl) (by first | exact .inl rfl | exact .inr rfl)) dgs_nil))) (dss_cons (ds_if (dt_tru (dv 10)) (dss_cons (ds_set (i := 5) sc_after.nd rfl (by first | exact .inl rfl | exact .inr rfl) (dcall (G := G) h__changed bd__changed (hr.mono (by omega)) (da_cons (dv 5) (da_cons (dv 7) da_nil))) rfl (by first | exact .inl rfl | exact .inr rfl))
    (dss_one (ds_aug (i := 4) g_mul sc_after.nd rfl (by first | exact .inl rfl | exact .inr rfl) (dv 6) (by first | exact .inl rfl | exact .inr rfl)))) dss_nil)
    (dss_cons (ds_set (i := 5) sc_after.nd rfl (by first | exact .inl rfl | exact .inr rfl) (dcall (G := G) h__heard bd__heard (hr.mono (by omega)) (da_cons (dv 5) (da_cons (dv 9) (da_cons (dv 11) da_nil)))) rfl (by first | exact .inl rfl | exact .inr rfl))
    (dss_one (ds_aug (i := 4) g_mul sc_after.nd rfl (by first | exact .inl rfl | exact .inr rfl) (dv 8) (by first | exact .inl rfl | exact .inr rfl))))))
    (dss_cons (ds_set (i := 12) sc_after.nd rfl (by first | exact .inl rfl | exact .inr rfl) (de_sum rfl z_sum (dv 5)) rfl (by first | exact .inl rfl | exact .inr rfl))
    (dss_cons (ds_if (dt_cmp (c_eq hr) (dv 12) de_int) (dss_one (ds_ret (de_tup (da_cons (de_tup (da_cons de_int (da_cons de_int da_nil))) (da_cons (de_tup da_nil) da_nil))))) dss_nil)
    (dss_one (ds_ret (de_tup (da_cons (dcall (G := G) h_lowest bd_lowest (hr.mono (by omega)) (da_cons (dv 12) (da_cons (dv 4) da_nil))) (da_cons (de_tupGen (k := 3) (own := [("one", 13)]) (hr.mono (by omega)) z_tuple rfl rfl rfl sc_after.nd bm (di_seq (dv 5)) (blkOk_by (by kernel_rfl)) (fun s H L cl qn c0 fp pn A0 hr => ⟨(dgw_name (i := 13) sc_after.nd rfl (by first | exact .inl rfl | exact .inr rfl) (by first | exact .inl rfl | exact .inr rfl) (by decide)), dts_nil, (dcall (G := G) h_lowest bd_lowest (hr.mono (by omega)) (da_cons (dv 13) (da_cons (dv 12) da_nil)))⟩)) da_nil)))))))))))))
theorem ok__law_pool {f c  : Addr}  (A : FAt G.K mg "_law_pool" s__law_pool f c) (z_list : mg "list" = none) : DFs P wd G mg 2 "_law_pool" s__law_pool f ["script"] F__law_pool := by
  refine fn_at (k := 1) (cv := none) (N := N__law_pool) (ps := ["script"]) (fin := finK) (t := t__law_pool) A sc__law_pool finK_ok (fun v hv => by cases hv) fun A1 outer s H E hr => ?_
  exact (dss_one (ds_ret (de_plus newO (de_lst (da_cons de_int (da_cons de_int (da_cons de_int da_nil)))) (de_listF z_list (dv 0)))))
theorem ok__law_draw {f c  : Addr}  (A : FAt G.K mg "_law_draw" s__law_draw f c) (z_abs : mg "abs" = none) (z_int : mg "int" = none) (z_len : mg "len" = none) : DFs P wd G mg 2 "_law_draw" s__law_draw f ["pool", "many"] F__law_draw := by
  refine fn_at (k := 1) (cv := none) (N := N__law_draw) (ps := ["pool", "many"]) (fin := finM) (t := t__law_draw) A sc__law_draw finM_ok (fun v hv => by cases hv) fun A1 outer s H E hr => ?_
  exact (dss_cons (ds_if (dt_w (dw_and (dt_cmp (c_eq hr) (de_ix (dv 0) de_int) de_int) (dw_and1 (dt_cmp c_lt (de_ix (dv 0) de_int) (de_len z_len (dv 0)))))) (dss_cons (ds_set (i := 2) sc__law_draw.nd rfl (by first | exact .inl rfl | exact .inr rfl) (de_ix (dv 0) (de_ix (dv 0) de_int)) rfl (by first | exact .inl rfl | exact .inr rfl))
    (dss_cons (ds_asg (de_plus newF (de_ix (dv 0) de_int) de_int) (dg_ix (dv 0) de_int))
    (dss_cons (ds_asg (de_mod (de_int1 z_int (de_plus newF (de_times newF (de_ix (dv 0) de_int) de_int) (dv 2))) de_int) (dg_ix (dv 0) de_int))
    (dss_one (ds_if (dt_cmp c_ge (de_abs z_abs (dv 2)) (de_pow de_int de_int)) (dss_one (ds_asg (de_abs z_abs (dv 2)) (dg_ix (dv 0) de_int))) dss_nil))))) dss_nil)
    (dss_cons (ds_if (dt_cmp c_gt (de_ix (dv 0) de_int) de_int) (dss_cons (ds_set (i := 3) sc__law_draw.nd rfl (by first | exact .inl rfl | exact .inr rfl) (de_mod (de_int1 z_int (de_ix (dv 0) de_int)) (dv 1)) rfl (by first | exact .inl rfl | exact .inr rfl))
    (dss_cons (ds_asg (de_div (de_ix (dv 0) de_int) (dv 1)) (dg_ix (dv 0) de_int))
    (dss_one (ds_ret (dv 3))))) dss_nil)
    (dss_cons (ds_asg (de_mod (de_int1 z_int (de_plus newF (de_times newF (de_ix (dv 0) de_int) de_int) de_int)) de_int) (dg_ix (dv 0) de_int))
    (dss_cons (ds_set (i := 4) sc__law_draw.nd rfl (by first | exact .inl rfl | exact .inr rfl) (de_mod (de_int1 z_int (de_plus newF (de_plus newF (de_times newF (de_ix (dv 0) de_int) de_int) (de_div (de_ix (dv 0) de_int) de_int)) de_int)) de_int) rfl (by first | exact .inl rfl | exact .inr rfl))
    (dss_one (ds_ret (de_mod (de_int1 z_int (de_div (dv 4) de_int)) (dv 1))))))))
theorem ok__law_pick {f c f__law_draw : Addr}  (A : FAt G.K mg "_law_pick" s__law_pick f c) (z_len : mg "len" = none) (h__law_draw : DFs P wd G mg 2 "_law_draw" s__law_draw f__law_draw ["pool", "many"] F__law_draw) : DFs P wd G mg 3 "_law_pick" s__law_pick f ["pool", "things"] F__law_pick := by
  refine fn_at (k := 2) (cv := none) (N := N__law_pick) (ps := ["pool", "things"]) (fin := finM) (t := t__law_pick) A sc__law_pick finM_ok (fun v hv => by cases hv) fun A1 outer s H E hr => ?_
  exact (dss_one (ds_ret (de_ix (dv 1) (dcall (G := G) h__law_draw bd__law_draw (hr.mono (by omega)) (da_cons (dv 0) (da_cons (de_len z_len (dv 1)) da_nil))))))
theorem ok__law_same {f c  : Addr}  (A : FAt G.K mg "_law_same" s__law_same f c) (z_bool : mg "bool" = none) (z_int : mg "int" = none) (z_isinstance : mg "isinstance" = none) (z_len : mg "len" = none) (z_range : mg "range" = none) (z_str : mg "str" = none) (z_tuple : mg "tuple" = none) : ∀ m : Nat, DFs P wd G mg (1 + 1 * m) "_law_same" s__law_same f ["told", "due"] (F__law_same m)
  | 0 => dfs_zero A
  | m + 1 => by
    have ih := ok__law_same A z_bool z_int z_isinstance z_len z_range z_str z_tuple   m
    refine DFs.mono (fn_at (k := 1 + 1 * m + 0) (cv := none) (N := N__law_same) (ps := ["told", "due"]) (fin := finP) (t := t__law_same (F__law_same m)) A sc__law_same finP_ok (fun v hv => by cases hv) fun A1 outer s H E hr => ?_) (by omega)
    exact (dss_cons (ds_if (dt_tru (de_isi z_isinstance (dv 1) z_tuple bt_tuple)) (dss_cons (ds_if (dt_w (dw_or (dt_not (dt_tru (de_isi z_isinstance (dv 0) z_tuple bt_tuple))) (dw_or1 (dt_cmp (c_ne hr) (de_len z_len (dv 0)) (de_len z_len (dv 1)))))) (dss_one (ds_ret de_bl)) dss_nil)
    (dss_one (ds_ret (de_cmp (c_eq hr) (de_lc (own := [("k", 2)]) mkF rfl sc__law_same.nd (di_range1 z_range (de_len z_len (dv 1))) (blkOk_by (by kernel_rfl)) (fun s H C cl fp => (dgw_name (i := 2) sc__law_same.nd rfl (by first | exact .inl rfl | exact .inr rfl) (by first | exact .inl rfl | exact .inr rfl) (by decide))) (fun s H C cl fp => (dts_one (dt_not (dt_tru (dcall (G := G) ih bd__law_same (hr.mono (by omega)) (da_cons (de_ix (dv 0) (dv 2)) (da_cons (de_ix (dv 1) (dv 2)) da_nil))))))) (fun s H C cl fp => (dv 2))) (de_lst da_nil))))) dss_nil)
    (dss_cons (ds_if (dt_tru (de_isi z_isinstance (dv 1) z_str bt_str)) (dss_one (ds_ret (de_and (de_isi z_isinstance (dv 0) z_str bt_str) (de_one (de_cmp (c_eq hr) (dv 0) (dv 1)))))) dss_nil)
    (dss_cons (ds_if (dt_cmp c_isN (dv 1) de_non) (dss_one (ds_ret (de_cmp c_isN (dv 0) de_non))) dss_nil)
    (dss_one (ds_ret (de_and (de_isi z_isinstance (dv 0) z_int bt_int) (de_and (de_cmp (c_eq hr) (de_isi z_isinstance (dv 0) z_bool bt_bool) (de_isi z_isinstance (dv 1) z_bool bt_bool)) (de_one (de_cmp (c_eq hr) (dv 0) (dv 1))))))))))
theorem ok__law_fraction {f c  : Addr}  (A : FAt G.K mg "_law_fraction" s__law_fraction f c) (z_abs : mg "abs" = none) (z_int : mg "int" = none) (z_max : mg "max" = none) (z_range : mg "range" = none) : DFs P wd G mg 2 "_law_fraction" s__law_fraction f ["over", "under"] F__law_fraction := by
  refine fn_at (k := 1) (cv := none) (N := N__law_fraction) (ps := ["over", "under"]) (fin := finP) (t := t__law_fraction) A sc__law_fraction finP_ok (fun v hv => by cases hv) fun A1 outer s H E hr => ?_
  exact (dss_cons (ds_par (i := 2) (j := 3) rfl sc__law_fraction.nd rfl rfl (by decide) rfl rfl (da_cons (de_abs z_abs (dv 0)) (da_cons (de_abs z_abs (dv 1)) da_nil)) rfl)
    (dss_cons (ds_for PassesOwn.never rfl (fun _ => rfl) (di_range1 z_range de_int) (dg_name (i := 4) sc__law_fraction.nd rfl (by first | exact .inl rfl | exact .inr rfl) (by first | exact .inl rfl | exact .inr rfl)) (dss_cons (ds_if (dt_cmp (c_eq hr) (dv 3) de_int) (dss_one ds_break) dss_nil)
    (dss_one (ds_par (i := 2) (j := 3) rfl sc__law_fraction.nd rfl rfl (by decide) rfl rfl (da_cons (dv 3) (da_cons (de_mod (de_int1 z_int (dv 2)) (dv 3)) da_nil)) rfl))))
    (dss_cons (ds_set (i := 5) sc__law_fraction.nd rfl (by first | exact .inl rfl | exact .inr rfl) (de_if (dt_cmp c_gt (dv 1) de_int) de_int (de_neg de_int)) rfl (by first | exact .inl rfl | exact .inr rfl))
    (dss_one (ds_ret (de_tup (da_cons (de_div (de_times newF (dv 5) (dv 0)) (de_max2 rfl z_max de_int (dv 2))) (da_cons (de_div (de_abs z_abs (dv 1)) (de_max2 rfl z_max de_int (dv 2))) da_nil))))))))
theorem ok__law_plus {f c f__law_fraction : Addr}  (A : FAt G.K mg "_law_plus" s__law_plus f c) (h__law_fraction : DFs P wd G mg 2 "_law_fraction" s__law_fraction f__law_fraction ["over", "under"] F__law_fraction) : DFs P wd G mg 3 "_law_plus" s__law_plus f ["a", "b"] F__law_plus := by
  refine fn_at (k := 2) (cv := none) (N := N__law_plus) (ps := ["a", "b"]) (fin := finP) (t := t__law_plus) A sc__law_plus finP_ok (fun v hv => by cases hv) fun A1 outer s H E hr => ?_
  exact (dss_one (ds_ret (dcall (G := G) h__law_fraction bd__law_fraction (hr.mono (by omega)) (da_cons (de_plus newF (de_times newF (de_ix (dv 0) de_int) (de_ix (dv 1) de_int)) (de_times newF (de_ix (dv 1) de_int) (de_ix (dv 0) de_int))) (da_cons (de_times newF (de_ix (dv 0) de_int) (de_ix (dv 1) de_int)) da_nil)))))
theorem ok__law_times {f c f__law_fraction : Addr}  (A : FAt G.K mg "_law_times" s__law_times f c) (h__law_fraction : DFs P wd G mg 2 "_law_fraction" s__law_fraction f__law_fraction ["over", "under"] F__law_fraction) : DFs P wd G mg 3 "_law_times" s__law_times f ["a", "b"] F__law_times := by
  refine fn_at (k := 2) (cv := none) (N := N__law_times) (ps := ["a", "b"]) (fin := finP) (t := t__law_times) A sc__law_times finP_ok (fun v hv => by cases hv) fun A1 outer s H E hr => ?_
  exact (dss_one (ds_ret (dcall (G := G) h__law_fraction bd__law_fraction (hr.mono (by omega)) (da_cons (de_times newF (de_ix (dv 0) de_int) (de_ix (dv 1) de_int)) (da_cons (de_times newF (de_ix (dv 0) de_int) (de_ix (dv 1) de_int)) da_nil)))))
theorem ok__law_total {f c f__law_plus : Addr}  (A : FAt G.K mg "_law_total" s__law_total f c) (h__law_plus : DFs P wd G mg 3 "_law_plus" s__law_plus f__law_plus ["a", "b"] F__law_plus) : DFs P wd G mg 4 "_law_total" s__law_total f ["some"] F__law_total := by
  refine fn_at (k := 3) (cv := none) (N := N__law_total) (ps := ["some"]) (fin := finP) (t := t__law_total) A sc__law_total finP_ok (fun v hv => by cases hv) fun A1 outer s H E hr => ?_
  exact (dss_cons (ds_set (i := 1) sc__law_total.nd rfl (by first | exact .inl rfl | exact .inr rfl) (de_tup (da_cons de_int (da_cons de_int da_nil))) rfl (by first | exact .inl rfl | exact .inr rfl))
    (dss_cons (ds_for PassesOwn.never rfl (fun _ => rfl) (di_seq (dv 0)) (dg_name (i := 2) sc__law_total.nd rfl (by first | exact .inl rfl | exact .inr rfl) (by first | exact .inl rfl | exact .inr rfl)) (dss_one (ds_set (i := 1) sc__law_total.nd rfl (by first | exact .inl rfl | exact .inr rfl) (dcall (G := G) h__law_plus bd__law_plus (hr.mono (by omega)) (da_cons (dv 1) (da_cons (dv 2) da_nil))) rfl (by first | exact .inl rfl | exact .inr rfl))))
    (dss_one (ds_ret (dv 1)))))
theorem ok__law_row {f c f__law_draw f__law_fraction f__law_pick : Addr}  (A : FAt G.K mg "_law_row" s__law_row f c) (z_range : mg "range" = none) (z_sum : mg "sum" = none) (z_tuple : mg "tuple" = none) (h__law_draw : DFs P wd G mg 2 "_law_draw" s__law_draw f__law_draw ["pool", "many"] F__law_draw) (h__law_fraction : DFs P wd G mg 2 "_law_fraction" s__law_fraction f__law_fraction ["over", "under"] F__law_fraction) (h__law_pick : DFs P wd G mg 3 "_law_pick" s__law_pick f__law_pick ["pool", "things"] F__law_pick) : DFs P wd G mg 4 "_law_row" s__law_row f ["pool", "many"] F__law_row := by
  refine fn_at (k := 3) (cv := none) (N := N__law_row) (ps := ["pool", "many"]) (fin := finM) (t := t__law_row) A sc__law_row finM_ok (fun v hv => by cases hv) fun A1 outer s H E hr => ?_
  exact (dss_cons (ds_set (i := 2) sc__law_row.nd rfl (by first | exact .inl rfl | exact .inr rfl) (de_lc (own := [("k", 3)]) mkO rfl sc__law_row.nd (di_range1 z_range (dv 1)) (blkOk_by (by kernel_rfl)) (fun s H C cl fp => (dgw_name (i := 3) sc__law_row.nd rfl (by first | exact .inl rfl | exact .inr rfl) (by first | exact .inl rfl | exact .inr rfl) (by decide))) (fun s H C cl fp => dts_nil) (fun s H C cl fp => (dcall (G := G) h__law_pick bd__law_pick (hr.mono (by omega)) (da_cons (dv 0) (da_cons (de_lst (da_cons de_int (da_cons de_int (da_cons de_int (da_cons de_int (da_cons de_int (da_cons de_int (da_cons de_int da_nil)))))))) da_nil))))) rfl (by first | exact .inl rfl | exact .inr rfl))
    (dss_cons (ds_if (dt_cmp (c_eq hr) (de_sum rfl z_sum (dv 2)) de_int) (dss_one (ds_asg de_int (dg_ix (dv 2) (dcall (G := G) h__law_draw bd__law_draw (hr.mono (by omega)) (da_cons (dv 0) (da_cons (dv 1) da_nil)))))) dss_nil)
    (dss_one (ds_ret (de_tupOf z_tuple (de_lc (own := [("number", 4)]) mkF rfl sc__law_row.nd (di_seq (dv 2)) (blkOk_by (by kernel_rfl)) (fun s H C cl fp => (dgw_name (i := 4) sc__law_row.nd rfl (by first | exact .inl rfl | exact .inr rfl) (by first | exact .inl rfl | exact .inr rfl) (by decide))) (fun s H C cl fp => dts_nil) (fun s H C cl fp => (dcall (G := G) h__law_fraction bd__law_fraction (hr.mono (by omega)) (da_cons (dv 4) (da_cons (de_sum rfl z_sum (dv 2)) da_nil))))))))))
theorem ok__law_telling {f c f__law_draw f__law_row : Addr}  (A : FAt G.K mg "_law_telling" s__law_telling f c) (z_range : mg "range" = none) (z_tuple : mg "tuple" = none) (h__law_draw : DFs P wd G mg 2 "_law_draw" s__law_draw f__law_draw ["pool", "many"] F__law_draw) (h__law_row : DFs P wd G mg 4 "_law_row" s__law_row f__law_row ["pool", "many"] F__law_row) : DFs P wd G mg 5 "_law_telling" s__law_telling f ["pool", "worlds", "signs"] F__law_telling := by
  refine fn_at (k := 4) (cv := none) (N := N__law_telling) (ps := ["pool", "worlds", "signs"]) (fin := finM) (t := t__law_telling) A sc__law_telling finM_ok (fun v hv => by cases hv) fun A1 outer s H E hr => ?_
  exact (dss_cons (ds_setLc (own := [("w", 4)]) mkO rfl sc__law_telling.nd (i := 3) rfl rfl (sw_true rfl rfl rfl rfl) (di_range1 z_range (dv 1)) (blkOk_by (by kernel_rfl)) (fun s H C cl fp => (dgw_name (i := 4) sc__law_telling.nd rfl (by first | exact .inl rfl | exact .inr rfl) (by first | exact .inl rfl | exact .inr rfl) (by decide))) (fun s H C cl fp => dts_nil) (fun s H C cl fp => (dcall (G := G) h__law_row bd__law_row (hr.mono (by omega)) (da_cons (dv 0) (da_cons (dv 2) da_nil)))))
    (dss_cons (ds_if (dt_w (dw_and (dt_cmp c_gt (dv 1) de_int) (dw_and1 (dt_cmp (c_eq hr) (dcall (G := G) h__law_draw bd__law_draw (hr.mono (by omega)) (da_cons (dv 0) (da_cons de_int da_nil))) de_int)))) (dss_one (ds_asg (de_ix (dv 3) (dcall (G := G) h__law_draw bd__law_draw (hr.mono (by omega)) (da_cons (dv 0) (da_cons (dv 1) da_nil)))) (dg_ix (dv 3) (dcall (G := G) h__law_draw bd__law_draw (hr.mono (by omega)) (da_cons (dv 0) (da_cons (dv 1) da_nil)))))) dss_nil)
    (dss_one (ds_ret (de_tupOf z_tuple (dv 3))))))
theorem ok__law_change {f c f__law_draw f__law_row : Addr}  (A : FAt G.K mg "_law_change" s__law_change f c) (z_range : mg "range" = none) (z_tuple : mg "tuple" = none) (h__law_draw : DFs P wd G mg 2 "_law_draw" s__law_draw f__law_draw ["pool", "many"] F__law_draw) (h__law_row : DFs P wd G mg 4 "_law_row" s__law_row f__law_row ["pool", "many"] F__law_row) : DFs P wd G mg 5 "_law_change" s__law_change f ["pool", "worlds"] F__law_change := by
  refine fn_at (k := 4) (cv := none) (N := N__law_change) (ps := ["pool", "worlds"]) (fin := finM) (t := t__law_change) A sc__law_change finM_ok (fun v hv => by cases hv) fun A1 outer s H E hr => ?_
  exact (dss_cons (ds_if (dt_cmp (c_eq hr) (dcall (G := G) h__law_draw bd__law_draw (hr.mono (by omega)) (da_cons (dv 0) (da_cons de_int da_nil))) de_int) (dss_one (ds_ret (de_tupOf z_tuple (de_lc (own := [("w", 2)]) mkF rfl sc__law_change.nd (di_range1 z_range (dv 1)) (blkOk_by (by kernel_rfl)) (fun s H C cl fp => (dgw_name (i := 2) sc__law_change.nd rfl (by first | exact .inl rfl | exact .inr rfl) (by first | exact .inl rfl | exact .inr rfl) (by decide))) (fun s H C cl fp => dts_nil) (fun s H C cl fp => (de_tupOf z_tuple (de_lc (own := [("v", 3)]) mkF rfl sc__law_change.nd (di_range1 z_range (dv 1)) (blkOk_by (by kernel_rfl)) (fun s H C cl fp => (dgw_name (i := 3) sc__law_change.nd rfl (by first | exact .inl rfl | exact .inr rfl) (by first | exact .inl rfl | exact .inr rfl) (by decide))) (fun s H C cl fp => dts_nil) (fun s H C cl fp => (de_if (dt_cmp (c_eq hr) (dv 2) (dv 3)) (de_tup (da_cons de_int (da_cons de_int da_nil))) (de_tup (da_cons de_int (da_cons de_int da_nil)))))))))))) dss_nil)
    (dss_one (ds_ret (de_tupOf z_tuple (de_lc (own := [("w", 2)]) mkF rfl sc__law_change.nd (di_range1 z_range (dv 1)) (blkOk_by (by kernel_rfl)) (fun s H C cl fp => (dgw_name (i := 2) sc__law_change.nd rfl (by first | exact .inl rfl | exact .inr rfl) (by first | exact .inl rfl | exact .inr rfl) (by decide))) (fun s H C cl fp => dts_nil) (fun s H C cl fp => (dcall (G := G) h__law_row bd__law_row (hr.mono (by omega)) (da_cons (dv 0) (da_cons (dv 1) da_nil)))))))))
theorem ok__law_moved {f c f__law_times f__law_total : Addr}  (A : FAt G.K mg "_law_moved" s__law_moved f c) (z_len : mg "len" = none) (z_range : mg "range" = none) (h__law_times : DFs P wd G mg 3 "_law_times" s__law_times f__law_times ["a", "b"] F__law_times) (h__law_total : DFs P wd G mg 4 "_law_total" s__law_total f__law_total ["some"] F__law_total) : DFs P wd G mg 5 "_law_moved" s__law_moved f ["change", "numbers"] F__law_moved := by
  refine fn_at (k := 4) (cv := none) (N := N__law_moved) (ps := ["change", "numbers"]) (fin := finP) (t := t__law_moved) A sc__law_moved finP_ok (fun v hv => by cases hv) fun A1 outer s H E hr => ?_
  exact (dss_cons (ds_set (i := 2) sc__law_moved.nd rfl (by first | exact .inl rfl | exact .inr rfl) (de_lstO da_nil) rfl (by first | exact .inl rfl | exact .inr rfl))
    (dss_cons (ds_for PassesOwn.never rfl (fun _ => rfl) (di_range1 z_range (de_len z_len (dv 0))) (dg_name (i := 3) sc__law_moved.nd rfl (by first | exact .inl rfl | exact .inr rfl) (by first | exact .inl rfl | exact .inr rfl)) (dss_one (ds_expr (de_append (dv 2) (da_cons (dcall (G := G) h__law_total bd__law_total (hr.mono (by omega)) (da_cons (de_lc (own := [("w", 4)]) mkF rfl sc__law_moved.nd (di_range1 z_range (de_len z_len (dv 0))) (blkOk_by (by kernel_rfl)) (fun s H C cl fp => (dgw_name (i := 4) sc__law_moved.nd rfl (by first | exact .inl rfl | exact .inr rfl) (by first | exact .inl rfl | exact .inr rfl) (by decide))) (fun s H C cl fp => dts_nil) (fun s H C cl fp => (dcall (G := G) h__law_times bd__law_times (hr.mono (by omega)) (da_cons (de_ix (dv 1) (dv 4)) (da_cons (de_ix (de_ix (dv 0) (dv 4)) (dv 3)) da_nil))))) da_nil)) da_nil)))))
    (dss_one (ds_ret (dv 2)))))
theorem ok__law_joint {f c f__law_moved f__law_times : Addr}  (A : FAt G.K mg "_law_joint" s__law_joint f c) (z_len : mg "len" = none) (z_list : mg "list" = none) (z_range : mg "range" = none) (h__law_moved : DFs P wd G mg 5 "_law_moved" s__law_moved f__law_moved ["change", "numbers"] F__law_moved) (h__law_times : DFs P wd G mg 3 "_law_times" s__law_times f__law_times ["a", "b"] F__law_times) : DFs P wd G mg 6 "_law_joint" s__law_joint f ["weights", "change", "telling", "signs"] F__law_joint := by
  refine fn_at (k := 5) (cv := none) (N := N__law_joint) (ps := ["weights", "change", "telling", "signs"]) (fin := finP) (t := t__law_joint) A sc__law_joint finP_ok (fun v hv => by cases hv) fun A1 outer s H E hr => ?_
  exact (dss_cons (ds_set (i := 4) sc__law_joint.nd rfl (by first | exact .inl rfl | exact .inr rfl) (de_listF z_list (dv 0)) rfl (by first | exact .inl rfl | exact .inr rfl))
    (dss_cons (ds_for PassesOwn.never rfl (fun _ => rfl) (di_range1 z_range (de_len z_len (dv 3))) (dg_name (i := 5) sc__law_joint.nd rfl (by first | exact .inl rfl | exact .inr rfl) (by first | exact .inl rfl | exact .inr rfl)) (dss_cons (ds_if (dt_cmp c_gt (dv 5) de_int) (dss_one (ds_set (i := 4) sc__law_joint.nd rfl (by first | exact .inl rfl | exact .inr rfl) (dcall (G := G) h__law_moved bd__law_moved (hr.mono (by omega)) (da_cons (dv 1) (da_cons (dv 4) da_nil))) rfl (by first | exact .inl rfl | exact .inr rfl))) dss_nil)
    (dss_one (ds_set (i := 4) sc__law_joint.nd rfl (by first | exact .inl rfl | exact .inr rfl) (de_lc (own := [("w", 6)]) mkF rfl sc__law_joint.nd (di_range1 z_range (de_len z_len (dv 4))) (blkOk_by (by kernel_rfl)) (fun s H C cl fp => (dgw_name (i := 6) sc__law_joint.nd rfl (by first | exact .inl rfl | exact .inr rfl) (by first | exact .inl rfl | exact .inr rfl) (by decide))) (fun s H C cl fp => dts_nil) (fun s H C cl fp => (dcall (G := G) h__law_times bd__law_times (hr.mono (by omega)) (da_cons (de_ix (dv 4) (dv 6)) (da_cons (de_ix (de_ix (dv 2) (dv 6)) (de_ix (dv 3) (dv 5))) da_nil))))) rfl (by first | exact .inl rfl | exact .inr rfl)))))
    (dss_one (ds_ret (dv 4)))))
theorem ok__law_rows_of {f c  : Addr}  (A : FAt G.K mg "_law_rows_of" s__law_rows_of f c) (z_range : mg "range" = none) : DFs P wd G mg 2 "_law_rows_of" s__law_rows_of f ["signs", "steps"] F__law_rows_of := by
  refine fn_at (k := 1) (cv := none) (N := N__law_rows_of) (ps := ["signs", "steps"]) (fin := finP) (t := t__law_rows_of) A sc__law_rows_of finP_ok (fun v hv => by cases hv) fun A1 outer s H E hr => ?_
  exact (dss_cons (ds_set (i := 2) sc__law_rows_of.nd rfl (by first | exact .inl rfl | exact .inr rfl) (de_lst (da_cons (de_tup da_nil) da_nil)) rfl (by first | exact .inl rfl | exact .inr rfl))
    (dss_cons (ds_for PassesOwn.never rfl (fun _ => rfl) (di_range1 z_range (dv 1)) (dg_name (i := 3) sc__law_rows_of.nd rfl (by first | exact .inl rfl | exact .inr rfl) (by first | exact .inl rfl | exact .inr rfl)) (dss_cons (ds_set (i := 4) sc__law_rows_of.nd rfl (by first | exact .inl rfl | exact .inr rfl) (de_lst da_nil) rfl (by first | exact .inl rfl | exact .inr rfl))
    (dss_cons (ds_for PassesOwn.never rfl (fun _ => rfl) (di_seq (dv 2)) (dg_name (i := 5) sc__law_rows_of.nd rfl (by first | exact .inl rfl | exact .inr rfl) (by first | exact .inl rfl | exact .inr rfl)) (dss_one (ds_set (i := 4) sc__law_rows_of.nd rfl (by first | exact .inl rfl | exact .inr rfl) (de_plus newF (dv 4) (de_lc (own := [("s", 6)]) mkF rfl sc__law_rows_of.nd (di_range1 z_range (dv 0)) (blkOk_by (by kernel_rfl)) (fun s H C cl fp => (dgw_name (i := 6) sc__law_rows_of.nd rfl (by first | exact .inl rfl | exact .inr rfl) (by first | exact .inl rfl | exact .inr rfl) (by decide))) (fun s H C cl fp => dts_nil) (fun s H C cl fp => (de_plus newF (dv 5) (de_tup (da_cons (dv 6) da_nil)))))) rfl (by first | exact .inl rfl | exact .inr rfl))))
    (dss_one (ds_set (i := 2) sc__law_rows_of.nd rfl (by first | exact .inl rfl | exact .inr rfl) (dv 4) rfl (by first | exact .inl rfl | exact .inr rfl))))))
    (dss_one (ds_ret (dv 2)))))
theorem ok__law_due {f c f__law_fraction f__law_joint f__law_total : Addr}  (A : FAt G.K mg "_law_due" s__law_due f c) (z_tuple : mg "tuple" = none) (h__law_fraction : DFs P wd G mg 2 "_law_fraction" s__law_fraction f__law_fraction ["over", "under"] F__law_fraction) (h__law_joint : DFs P wd G mg 6 "_law_joint" s__law_joint f__law_joint ["weights", "change", "telling", "signs"] F__law_joint) (h__law_total : DFs P wd G mg 4 "_law_total" s__law_total f__law_total ["some"] F__law_total) : DFs P wd G mg 7 "_law_due" s__law_due f ["weights", "change", "telling", "signs"] F__law_due := by
  refine fn_at (k := 6) (cv := none) (N := N__law_due) (ps := ["weights", "change", "telling", "signs"]) (fin := finP) (t := t__law_due) A sc__law_due finP_ok (fun v hv => by cases hv) fun A1 outer s H E hr => ?_
  exact (dss_cons (ds_if (dt_cmp (c_eq hr) (dv 3) (de_tup da_nil)) (dss_one (ds_ret (de_tup (da_cons (de_tup (da_cons de_int (da_cons de_int da_nil))) (da_cons (dv 0) da_nil))))) dss_nil)
    (dss_cons (ds_set (i := 4) sc__law_due.nd rfl (by first | exact .inl rfl | exact .inr rfl) (dcall (G := G) h__law_joint bd__law_joint (hr.mono (by omega)) (da_cons (dv 0) (da_cons (dv 1) (da_cons (dv 2) (da_cons (dv 3) da_nil))))) rfl (by first | exact .inl rfl | exact .inr rfl))
    (dss_cons (ds_set (i := 5) sc__law_due.nd rfl (by first | exact .inl rfl | exact .inr rfl) (dcall (G := G) h__law_total bd__law_total (hr.mono (by omega)) (da_cons (dv 4) da_nil)) rfl (by first | exact .inl rfl | exact .inr rfl))
    (dss_cons (ds_if (dt_cmp (c_eq hr) (de_ix (dv 5) de_int) de_int) (dss_one (ds_ret (de_tup (da_cons (de_tup (da_cons de_int (da_cons de_int da_nil))) (da_cons (de_tup da_nil) da_nil))))) dss_nil)
    (dss_one (ds_ret (de_tup (da_cons (dv 5) (da_cons (de_tupOf z_tuple (de_lc (own := [("one", 6)]) mkF rfl sc__law_due.nd (di_seq (dv 4)) (blkOk_by (by kernel_rfl)) (fun s H C cl fp => (dgw_name (i := 6) sc__law_due.nd rfl (by first | exact .inl rfl | exact .inr rfl) (by first | exact .inl rfl | exact .inr rfl) (by decide))) (fun s H C cl fp => dts_nil) (fun s H C cl fp => (dcall (G := G) h__law_fraction bd__law_fraction (hr.mono (by omega)) (da_cons (de_times newF (de_ix (dv 6) de_int) (de_ix (dv 5) de_int)) (da_cons (de_times newF (de_ix (dv 6) de_int) (de_ix (dv 5) de_int)) da_nil)))))) da_nil)))))))))
theorem ok_law {f c f__law_change f__law_draw f__law_due f__law_moved f__law_pick f__law_plus f__law_pool f__law_row f__law_rows_of f__law_same f__law_telling f__law_times f__law_total f_after : Addr}  (A : FAt G.K mg "law" s_law f c) (z_list : mg "list" = none) (z_range : mg "range" = none) (z_tuple : mg "tuple" = none) (h__law_change : DFs P wd G mg 5 "_law_change" s__law_change f__law_change ["pool", "worlds"] F__law_change) (h__law_draw : DFs P wd G mg 2 "_law_draw" s__law_draw f__law_draw ["pool", "many"] F__law_draw) (h__law_due : DFs P wd G mg 7 "_law_due" s__law_due f__law_due ["weights", "change", "telling", "signs"] F__law_due) (h__law_moved : DFs P wd G mg 5 "_law_moved" s__law_moved f__law_moved ["change", "numbers"] F__law_moved) (h__law_pick : DFs P wd G mg 3 "_law_pick" s__law_pick f__law_pick ["pool", "things"] F__law_pick) (h__law_plus : DFs P wd G mg 3 "_law_plus" s__law_plus f__law_plus ["a", "b"] F__law_plus) (h__law_pool : DFs P wd G mg 2 "_law_pool" s__law_pool f__law_pool ["script"] F__law_pool) (h__law_row : DFs P wd G mg 4 "_law_row" s__law_row f__law_row ["pool", "many"] F__law_row) (h__law_rows_of : DFs P wd G mg 2 "_law_rows_of" s__law_rows_of f__law_rows_of ["signs", "steps"] F__law_rows_of) (h__law_same : DFs P wd G mg 9 "_law_same" s__law_same f__law_same ["told", "due"] (F__law_same 8)) (h__law_telling : DFs P wd G mg 5 "_law_telling" s__law_telling f__law_telling ["pool", "worlds", "signs"] F__law_telling) (h__law_times : DFs P wd G mg 3 "_law_times" s__law_times f__law_times ["a", "b"] F__law_times) (h__law_total : DFs P wd G mg 4 "_law_total" s__law_total f__law_total ["some"] F__law_total) (h_after : DFs P wd G mg 13 "after" s_after f_after ["weights", "change", "telling", "signs"] F_after) : DFs P wd G mg 14 "law" s_law f ["script"] F_law := by
  refine fn_at (k := 13) (cv := none) (N := N_law) (ps := ["script"]) (fin := finP) (t := t_law) A sc_law finP_ok (fun v hv => by cases hv) fun A1 outer s H E hr => ?_
  exact (dss_cons (ds_set (i := 1) sc_law.nd rfl (by first | exact .inl rfl | exact .inr rfl) (dcall (G := G) h__law_pool bd__law_pool (hr.mono (by omega)) (da_cons (dv 0) da_nil)) rfl (by first | exact .inl rfl | exact .inr rfl))
    (dss_cons (ds_for PassesOwn.never rfl (fun _ => rfl) (di_range1 z_range de_int) (dg_name (i := 2) sc_law.nd rfl (by first | exact .inl rfl | exact .inr rfl) (by first | exact .inl rfl | exact .inr rfl)) (dss_cons (ds_asg (de_tup (da_cons (de_plus newF de_int (dcall (G := G) h__law_draw bd__law_draw (hr.mono (by omega)) (da_cons (dv 1) (da_cons de_int da_nil)))) (da_cons (de_plus newF de_int (dcall (G := G) h__law_draw bd__law_draw (hr.mono (by omega)) (da_cons (dv 1) (da_cons de_int da_nil)))) da_nil))) (dg_tup rfl (dgs_cons (dg_name (i := 5) sc_law.nd rfl (by first | exact .inl rfl | exact .inr rfl) (by first | exact .inl rfl | exact .inr rfl)) (dgs_cons (dg_name (i := 6) sc_law.nd rfl (by first | exact .inl rfl | exact .inr rfl) (by first | exact .inl rfl | exact .inr rfl)) dgs_nil))))
    (dss_cons (ds_par3 (i := 7) (j := 8) (l := 9) rfl sc_law.nd rfl rfl rfl (by decide) (by decide) (by decide) rfl rfl rfl (da_cons (dcall (G := G) h__law_row bd__law_row (hr.mono (by omega)) (da_cons (dv 1) (da_cons (dv 5) da_nil))) (da_cons (dcall (G := G) h__law_change bd__law_change (hr.mono (by omega)) (da_cons (dv 1) (da_cons (dv 5) da_nil))) (da_cons (dcall (G := G) h__law_telling bd__law_telling (hr.mono (by omega)) (da_cons (dv 1) (da_cons (dv 5) (da_cons (dv 6) da_nil)))) da_nil))) rfl)
    (dss_cons (ds_for PassesOwn.never rfl (fun _ => rfl) (di_range1 z_range de_int) (dg_name (i := 3) sc_law.nd rfl (by first | exact .inl rfl | exact .inr rfl) (by first | exact .inl rfl | exact .inr rfl)) (dss_cons (ds_set (i := 4) sc_law.nd rfl (by first | exact .inl rfl | exact .inr rfl) (de_tupOf z_tuple (de_lc (own := [("k", 16)]) mkF rfl sc_law.nd (di_range1 z_range (dcall (G := G) h__law_pick bd__law_pick (hr.mono (by omega)) (da_cons (dv 1) (da_cons (de_lst (da_cons de_int (da_cons de_int (da_cons de_int (da_cons de_int (da_cons de_int (da_cons de_int da_nil))))))) da_nil)))) (blkOk_by (by kernel_rfl)) (fun s H C cl fp => (dgw_name (i := 16) sc_law.nd rfl (by first | exact .inl rfl | exact .inr rfl) (by first | exact .inl rfl | exact .inr rfl) (by decide))) (fun s H C cl fp => dts_nil) (fun s H C cl fp => (dcall (G := G) h__law_draw bd__law_draw (hr.mono (by omega)) (da_cons (dv 1) (da_cons (dv 6) da_nil)))))) rfl (by first | exact .inl rfl | exact .inr rfl))
    (dss_cons (ds_set (i := 10) sc_law.nd rfl (by first | exact .inl rfl | exact .inr rfl) (dcall (G := G) h__law_due bd__law_due (hr.mono (by omega)) (da_cons (dv 7) (da_cons (dv 8) (da_cons (dv 9) (da_cons (dv 4) da_nil))))) rfl (by first | exact .inl rfl | exact .inr rfl))
    (dss_one (ds_if (dt_w (dw_or (dt_not (dt_tru (dcall (G := G) h__law_same bd__law_same (hr.mono (by omega)) (da_cons (dcall (G := G) h_after bd_after (hr.mono (by omega)) (da_cons (dv 7) (da_cons (dv 8) (da_cons (dv 9) (da_cons (dv 4) da_nil))))) (da_cons (dv 10) da_nil))))) (dw_or1 (dt_not (dt_tru (dcall (G := G) h__law_same bd__law_same (hr.mono (by omega)) (da_cons (dcallK (G := G) (idx := [0, 1, 2, 3]) h_after bk_after_0123 (hr.mono (by omega)) (dk_cons (dv 7) (dk_cons (dv 8) (dk_cons (dv 9) (dk_cons (dv 4) dk_nil)))) (hn := (al_cons (al_cons (al_cons (al_cons al_nil)))))) (da_cons (dv 10) da_nil)))))))) (dss_one (ds_ret de_bl)) dss_nil)))))
    (dss_cons (ds_asg (de_tup (da_cons (de_lstO da_nil) (da_cons (de_lc (own := [("w", 15)]) mkF rfl sc_law.nd (di_range1 z_range (dv 5)) (blkOk_by (by kernel_rfl)) (fun s H C cl fp => (dgw_name (i := 15) sc_law.nd rfl (by first | exact .inl rfl | exact .inr rfl) (by first | exact .inl rfl | exact .inr rfl) (by decide))) (fun s H C cl fp => dts_nil) (fun s H C cl fp => (de_tup (da_cons de_int (da_cons de_int da_nil))))) da_nil))) (dg_tup rfl (dgs_cons (dg_name (i := 11) sc_law.nd rfl (by first | exact .inl rfl | exact .inr rfl) (by first | exact .inl rfl | exact .inr rfl)) (dgs_cons (dg_name (i := 12) sc_law.nd rfl (by first | exact .inl rfl | exact .inr rfl) (by first | exact .inl rfl | exact .inr rfl)) dgs_nil))))
    (dss_cons (ds_for PassesOwn.never rfl (fun _ => rfl) (di_seq (dcall (G := G) h__law_rows_of bd__law_rows_of (hr.mono (by omega)) (da_cons (dv 6) (da_cons de_int da_nil)))) (dg_name (i := 4) sc_law.nd rfl (by first | exact .inl rfl | exact .inr rfl) (by first | exact .inl rfl | exact .inr rfl)) (dss_cons (ds_asg (dcall (G := G) h_after bd_after (hr.mono (by omega)) (da_cons (dv 7) (da_cons (dv 8) (da_cons (dv 9) (da_cons (dv 4) da_nil))))) (dg_tup rfl (dgs_cons (dg_name (i := 13) sc_law.nd rfl (by first | exact .inl rfl | exact .inr rfl) (by first | exact .inl rfl | exact .inr rfl)) (dgs_cons (dg_name (i := 14) sc_law.nd rfl (by first | exact .inl rfl | exact .inr rfl) (by first | exact .inl rfl | exact .inr rfl)) dgs_nil))))
    (dss_cons (ds_expr (de_append (dv 11) (da_cons (dv 13) da_nil)))
    (dss_one (ds_if (dt_cmp (c_ne hr) (dv 14) (de_tup da_nil)) (dss_one (ds_set (i := 12) sc_law.nd rfl (by first | exact .inl rfl | exact .inr rfl) (de_lc (own := [("w", 15)]) mkF rfl sc_law.nd (di_range1 z_range (dv 5)) (blkOk_by (by kernel_rfl)) (fun s H C cl fp => (dgw_name (i := 15) sc_law.nd rfl (by first | exact .inl rfl | exact .inr rfl) (by first | exact .inl rfl | exact .inr rfl) (by decide))) (fun s H C cl fp => dts_nil) (fun s H C cl fp => (dcall (G := G) h__law_plus bd__law_plus (hr.mono (by omega)) (da_cons (de_ix (dv 12) (dv 15)) (da_cons (dcall (G := G) h__law_times bd__law_times (hr.mono (by omega)) (da_cons (dv 13) (da_cons (de_ix (dv 14) (dv 15)) da_nil))) da_nil))))) rfl (by first | exact .inl rfl | exact .inr rfl))) dss_nil)))))
    (dss_one (ds_if (dt_w (dw_or (dt_cmp (c_ne hr) (dcall (G := G) h__law_total bd__law_total (hr.mono (by omega)) (da_cons (dv 11) da_nil)) (de_tup (da_cons de_int (da_cons de_int da_nil)))) (dw_or1 (dt_cmp (c_ne hr) (dv 12) (dcall (G := G) h__law_moved bd__law_moved (hr.mono (by omega)) (da_cons (dv 8) (da_cons (de_listF z_list (dv 7)) da_nil))))))) (dss_one (ds_ret de_bl)) dss_nil))))))))
    (dss_one (ds_ret de_bl))))
end
end LW

set_option maxRecDepth 100000
set_option maxHeartbeats 4000000
namespace LW
open PySem DL
open Classical
theorem cp_loop : ∀ (n x y : Nat) (S : Sto), y < n → whileL (tTru (eV 1)) (sPar 0 1 (aCons (eV 1) (aCons (e2 fMod (eV 0) (eV 1)) aNil))) n [some (.int x), some (.int y)] S = some (.nx [some (.int (Nat.gcd x y : Nat)), some (.int 0)] S)
  | 0, _, _, _, h => absurd h (Nat.not_lt_zero _)
  | n + 1, x, y, S, h => by
    unfold whileL
    by_cases hy : y = 0
    · subst hy
      simp
    · have hy2 : (y : Int) ≠ 0 := by omega
      have hl : x % y < y := Nat.mod_lt _ (Nat.pos_of_ne_zero hy)
      have ih := cp_loop n y (x % y) S (by omega)
      have hg : Nat.gcd x y = Nat.gcd y (x % y) := by rw [Nat.gcd_comm x y, Nat.gcd_rec, Nat.gcd_comm]
      have hb : ((y : Int) != 0) = true := by simp [hy]
      simp only [Int.natCast_emod] at ih
      simp [hb, hy, fmod_nat, ih, hg]
theorem F_cp (a b : Int) (S : Sto) : F_common_part [.int a, .int b] S = some (.int (Int.gcd a b : Nat), S) := by
  unfold F_common_part t_common_part
  have h := cp_loop (a.natAbs + (b.natAbs + 0) + 2) a.natAbs b.natAbs S (by omega)
  simp [abs_nat, fuelI] at h ⊢
  rw [h]
  simp [Int.gcd]
theorem F_low {a b : Int} {n : Nat} (hb : 0 < b) (hn : Bt n b) (h9 : n ≤ 8999) (S : Sto) : F_lowest [.int a, .int b] S = some (dQ ((a : Rat) / (b : Rat)), S) := by
  have hg : (0 : Int) < (Int.gcd a b : Int) := by
    have := gcd_ne (a := a) (b := b) (by omega)
    omega
  have hd : ∀ x : Int, L2.CDivW x (Int.gcd a b : Int) ∨ L2.CDivN x (Int.gcd a b : Int) := fun x => div_ok hg (gcd_bt hb hn) h9
  have hlt : ¬ b < 0 := by omega
  unfold F_lowest t_lowest dQ
  rw [low_num a b hb, low_den a b hb]
  simp [F_cp, hlt, hd]
/-- the least common multiple of the denominators -/
def lcmD (qs : List Rat) : Nat := qs.foldl (fun b q => Nat.lcm b q.den) 1
theorem lcm_step (b d : Nat) (hb : 0 < b) : Int.fdiv (b : Int) (Int.gcd (b : Int) (d : Int) : Int) * (d : Int) = (Nat.lcm b d : Nat) := by
  have hd : Nat.gcd b d ∣ b := Nat.gcd_dvd_left b d
  rw [Int.gcd_natCast_natCast, Int.fdiv_eq_ediv_of_dvd (Int.natCast_dvd_natCast.mpr hd), ← Int.natCast_ediv, ← Int.natCast_mul]
  congr 1
  rw [Nat.lcm, ← Nat.mul_div_right_comm hd]
theorem lcm_fold_dvd {B : Nat} : ∀ (qs : List Rat) (b : Nat), b ∣ B → (∀ q ∈ qs, q.den ∣ B) → qs.foldl (fun b q => Nat.lcm b q.den) b ∣ B
  | [], b, h, _ => h
  | q :: qs, b, h, hq => lcm_fold_dvd qs _ (Nat.lcm_dvd h (hq q List.mem_cons_self)) fun x hx => hq x (List.mem_cons_of_mem _ hx)
theorem lcmD_dvd {B : Nat} {qs : List Rat} (hq : ∀ q ∈ qs, q.den ∣ B) : lcmD qs ∣ B := lcm_fold_dvd qs 1 (Nat.one_dvd B) hq
theorem fold_dvd : ∀ (qs : List Rat) (b : Nat), b ∣ qs.foldl (fun b q => Nat.lcm b q.den) b
  | [], b => Nat.dvd_refl b
  | q :: qs, b => Nat.dvd_trans (Nat.dvd_lcm_left b q.den) (fold_dvd qs _)
theorem den_dvd_fold : ∀ (qs : List Rat) (b : Nat) (q : Rat), q ∈ qs → q.den ∣ qs.foldl (fun b q => Nat.lcm b q.den) b
  | q0 :: qs, b, q, h => by
    rcases List.mem_cons.mp h with e | e
    · subst e
      exact Nat.dvd_trans (Nat.dvd_lcm_right b q.den) (fold_dvd qs _)
    · exact den_dvd_fold qs _ q e
theorem den_dvd {qs : List Rat} {q : Rat} (h : q ∈ qs) : q.den ∣ lcmD qs := den_dvd_fold qs 1 q h
theorem lcmD_take {qs : List Rat} {k : Nat} {q : Rat} (h : qs[k]? = some q) : lcmD (qs.take (k + 1)) = Nat.lcm (lcmD (qs.take k)) q.den := by
  unfold lcmD
  rw [List.take_add_one, h]
  simp [List.foldl_append]
theorem den_pos (q : Rat) : 0 < q.den := Nat.pos_of_ne_zero q.den_nz
/-- the sequence d of the items ds -/
def IsSeq (d : D) (ds : List D) : Prop := d = .tup ds ∨ d = .lst ds
theorem F_bot {d : D} {qs : List Rat} {B n : Nat} (hd : IsSeq d (qs.map dQ)) (hB : 0 < B) (hq : ∀ q ∈ qs, q.den ∣ B) (hn : B < 2 ^ n) (h9 : n ≤ 8999) (S : Sto) : F_bottom_of [d] S = some (.int (lcmD qs : Nat), S) := by
  have hle : ∀ k, lcmD (qs.take k) ∣ B := fun k => lcmD_dvd fun q h => hq q (List.mem_of_mem_take h)
  have hpos : ∀ k, 0 < lcmD (qs.take k) := fun k => Nat.pos_of_dvd_of_pos (hle k) hB
  obtain ⟨ρ', S', h1, rfl, t, rfl⟩ := forL_ind (g := gNm 2) (b := sSet 1 (e2s (fTimes fLst) (e2 fDiv (eV 1) (eA F_common_part (aCons (eV 1) (aCons (e2 fIx (eV 2) (eC (.int 1))) aNil)))) (e2 fIx (eV 2) (eC (.int 1))))) (chk := fun _ => True)
    (fun k ρ S' => S' = S ∧ ∃ t, ρ = [some d, some (.int (lcmD (qs.take k) : Nat)), t]) (qs.map dQ) 0 [some d, some (.int 1), none] S ⟨rfl, none, by simp [lcmD]⟩ fun k x ρ S1 hk ⟨e, t, eρ⟩ => by
      subst e eρ
      rw [List.getElem?_map] at hk
      obtain ⟨q, hkq, rfl⟩ := Option.map_eq_some_iff.mp hk
      have hm : q ∈ qs := List.mem_of_getElem? hkq
      rw [Nat.zero_add]
      have bl : Bt n (lcmD (qs.take k) : Int) := Bt.of_nat (Nat.lt_of_le_of_lt (Nat.le_of_dvd hB (hle k)) hn)
      have bd : Bt n (q.den : Int) := Bt.of_nat (Nat.lt_of_le_of_lt (Nat.le_of_dvd hB (hq q hm)) hn)
      have pd : (0 : Int) < (q.den : Int) := by have := den_pos q; omega
      have hg := gcd_ne (a := (lcmD (qs.take k) : Int)) (b := (q.den : Int)) (by omega)
      have dv : L2.CDivW (lcmD (qs.take k) : Int) (Int.gcd (lcmD (qs.take k) : Int) (q.den : Int) : Int) ∨ L2.CDivN (lcmD (qs.take k) : Int) (Int.gcd (lcmD (qs.take k) : Int) (q.den : Int) : Int) :=
        div_ok (by omega) (gcd_bt pd bd) h9
      have hst := lcm_step (lcmD (qs.take k)) q.den (hpos k)
      have b1 : Bt n (Int.fdiv (lcmD (qs.take k) : Int) (Int.gcd (lcmD (qs.take k) : Int) (q.den : Int) : Int)) := by
        refine bl.le ?_ ?_
        · exact Int.fdiv_nonneg (by omega) (by omega)
        · rw [Int.fdiv_eq_ediv_of_nonneg _ (by omega)]
          exact Int.ediv_le_self _ (by omega)
      have mu := mul_ok b1 bd (by omega)
      refine ⟨[some d, some (.int (lcmD (qs.take k) : Nat)), some (dQ q)], S1, [some d, some (.int (lcmD (qs.take (k + 1)) : Nat)), some (dQ q)], S1, by simp, .inl ?_, trivial, rfl, _, rfl⟩
      rw [lcmD_take hkq]
      simp only [Int.gcd_natCast_natCast] at dv mu hst
      simp [dQ, L2.atI, L2.ixN, F_cp, dv, mu, hst]
  unfold F_bottom_of t_bottom_of
  have e0 : iSeq (eV 0) [some d, some (.int 1), none] S' = some (qs.map dQ, fun _ => True, S') := by
    rcases hd with e | e <;> subst e <;> rfl
  have e1 : startD 3 [d] = [some d, none, none] := rfl
  have e2 : sFor (iSeq (eV 0)) (gNm 2) (sSet 1 (e2s (fTimes fLst) (e2 fDiv (eV 1) (eA F_common_part (aCons (eV 1) (aCons (e2 fIx (eV 2) (eC (.int 1))) aNil)))) (e2 fIx (eV 2) (eC (.int 1))))) [some d, some (.int 1), none] S' = some (.nx [some d, some (.int (lcmD (qs.take (0 + (qs.map dQ).length)) : Nat)), t] S') := by
    unfold sFor
    rw [e0]
    exact h1
  have e3 : qs.take (0 + (qs.map dQ).length) = qs := by simp
  rw [e3] at e2
  simp only [fnD, List.length_cons, List.length_nil, if_true, e1, sSeq, sSet, eC]
  show (match (match sFor _ _ _ [some d, some (.int 1), none] S' with | some (.nx ρ1 S1) => _ | o => o) with | some (.rt d S1) => _ | some (.nx _ S1) => _ | _ => none) = _
  rw [e2]
  simp
/-- a fraction times a multiple of its denominator -/
def wh (b : Int) (q : Rat) : Int := q.num * (b / (q.den : Int))
theorem F_wh {d : D} {qs : List Rat} {b : Int} {n : Nat} (hd : IsSeq d (qs.map dQ)) (hb : 0 < b) (hn : Bt n b) (hq : ∀ q ∈ qs, Bt n q.num ∧ Bt n (q.den : Int)) (h9 : n ≤ 8999) (hl : qs.length ≤ 1000000) (S : Sto) :
    F_wholes [d, .int b] S = some (.tup (qs.map fun q => .int (wh b q)), S) := by
  have e0 : ∀ t, iSeq (eV 0) [some d, some (.int b), t] S = some (qs.map dQ, fun _ => True, S) := fun t => by
    rcases hd with e | e <;> subst e <;> rfl
  have h1 := compL_map (i := 2) (e := e2s (fTimes fLst) (e2 fIx (eV 2) (eC (.int 0))) (e2 fDiv (eV 1) (e2 fIx (eV 2) (eC (.int 1))))) (chk := fun _ => True) (ρ := [some d, some (.int b), none]) (S := S) trivial dQ (fun q => .int (wh b q)) qs fun q hm => by
    obtain ⟨g1, g2⟩ := hq q hm
    have pd : (0 : Int) < (q.den : Int) := by have := den_pos q; omega
    have dv : L2.CDivW b (q.den : Int) ∨ L2.CDivN b (q.den : Int) := div_ok pd g2 h9
    have b1 : Bt n (b / (q.den : Int)) := hn.le (Int.ediv_nonneg (by omega) (by omega)) (Int.ediv_le_self _ (by omega))
    have mu := mul_ok g1 b1 (by omega)
    have ef : Int.fdiv b (q.den : Int) = b / (q.den : Int) := Int.fdiv_eq_ediv_of_nonneg _ (by omega)
    simp [dQ, L2.atI, L2.ixN, dv, ef, mu, wh]
  refine (fnD_rt rfl (sRet_ok ((eLc_ok (e0 none) h1).trans (fTup_ok (by simpa using hl))))).trans (finP_self ?_ rfl)
  exact closL_map (fun q => rfl) qs
theorem F_ro {rows : List (List Rat)} {B n : Nat} (hB : 0 < B) (hq : ∀ r ∈ rows, ∀ q ∈ r, q.den ∣ B ∧ Bt n q.num) (hn : B < 2 ^ n) (h9 : n ≤ 8999) (hl : rows.length ≤ 1000) (hl2 : ∀ r ∈ rows, r.length ≤ 1000) (S : Sto) :
    F_rows_over [.tup (rows.map fun r => .tup (r.map dQ))] S = some (.tup [.int (lcmD rows.flatten : Nat), .tup (rows.map fun r => .tup (r.map fun q => .int (wh (lcmD rows.flatten : Nat) q)))], S) := by
  have hq2 : ∀ q ∈ rows.flatten, q.den ∣ B := fun q h => by
    obtain ⟨r, h1, h2⟩ := List.mem_flatten.mp h
    exact (hq r h1 q h2).1
  have hL : lcmD rows.flatten ∣ B := lcmD_dvd hq2
  have hLp : 0 < lcmD rows.flatten := Nat.pos_of_dvd_of_pos hL hB
  have bl : Bt n (lcmD rows.flatten : Int) := Bt.of_nat (Nat.lt_of_le_of_lt (Nat.le_of_dvd hB hL) hn)
  have e1 : (rows.map fun r => D.tup (r.map dQ)) = (rows.map fun r => r.map dQ).map D.tup := by rw [List.map_map]; rfl
  have e2 : (rows.map fun r => r.map dQ).flatten = rows.flatten.map dQ := by rw [List.map_flatten]
  have hlen : rows.flatten.length ≤ 1000000 := by
    rw [List.length_flatten]
    have : (rows.map List.length).sum ≤ rows.length * 1000 := by
      clear e1 e2 bl hLp hL hq2 hq hl
      induction rows with
      | nil => simp
      | cons r rs ih =>
        have h1 := hl2 r List.mem_cons_self
        have h2 := ih fun x hx => hl2 x (List.mem_cons_of_mem _ hx)
        simp only [List.map_cons, List.sum_cons, List.length_cons]
        omega
    omega
  have h1 : eLc2 fLst (iSeq (eV 0)) (gNm 2) tYesD (iSeq (eV 2)) (gNm 3) tYesD (eV 3) [2, 3] [3] [some (.tup (rows.map fun r => .tup (r.map dQ))), none, none, none] S = some (.lst (rows.flatten.map dQ), S) := by
    rw [e1]
    refine (eLc2_ok (ds := (rows.map fun r => r.map dQ).map D.tup) (chk := fun _ => True) (S1 := S) rfl (compL2_flat (by simp) (by simp) (by decide) _)).trans ?_
    rw [e2]
    exact fLst_ok (by rw [List.length_map]; exact hlen)
  have h2 : F_bottom_of [.lst (rows.flatten.map dQ)] S = some (.int (lcmD rows.flatten : Nat), S) := F_bot (.inr rfl) hB hq2 hn h9 S
  have h3 := compL_map (i := 2) (e := eA F_wholes (aCons (eV 2) (aCons (eV 1) aNil))) (chk := fun _ => True) (ρ := [some (.tup (rows.map fun r => .tup (r.map dQ))), some (.int (lcmD rows.flatten : Nat)), none, none]) (S := S) trivial
    (fun r => D.tup (r.map dQ)) (fun r => D.tup (r.map fun q => .int (wh (lcmD rows.flatten : Nat) q))) rows fun r hr => by
      have := F_wh (d := .tup (r.map dQ)) (qs := r) (b := (lcmD rows.flatten : Nat)) (n := n) (.inl rfl) (by omega) bl (fun q hm => ⟨(hq r hr q hm).2, Bt.of_nat (Nat.lt_of_le_of_lt (Nat.le_of_dvd hB (hq r hr q hm).1) hn)⟩) h9 (by have := hl2 r hr; omega) S
      simpa using this
  refine (fnD_rt rfl ((sSeq_nx (sSet_ok ((eA_ok (aCons_ok h1 rfl)).trans h2))).trans (sRet_ok ((eA_ok (aCons_ok rfl (aCons_ok ((eLc_ok rfl h3).trans (fTup_ok (by simp; omega))) rfl))).trans (fTup_ok (by simp)))))).trans (finP_self ?_ rfl)
  exact clos_tup (closL_cons clos_int (closL_cons (clos_tup (closL_map (fun r => clos_tup (closL_map (fun q => clos_int) r)) rows)) closL_nil))
end LW

set_option maxRecDepth 100000
set_option maxHeartbeats 4000000
/-! fractions: bounds, sums -/
namespace LW
open PySem DL
open Classical
theorem num_den (q : Rat) : (q.num : Rat) / ((q.den : Int) : Rat) = q := by
  rw [← Rat.divInt_eq_div]
  exact Rat.num_divInt_den q
theorem den_ne (q : Rat) : ((q.den : Int) : Rat) ≠ 0 := by
  have := den_pos q
  simp
  omega
theorem mul_den (q : Rat) : q * ((q.den : Int) : Rat) = (q.num : Rat) := by
  have h := num_den q
  have h2 := den_ne q
  grind
theorem den_dvd_iff {q : Rat} {B : Nat} (hB : 0 < B) : q.den ∣ B ↔ ∃ z : Int, q * (B : Rat) = (z : Rat) := by
  constructor
  · rintro ⟨k, rfl⟩
    refine ⟨q.num * k, ?_⟩
    have h := mul_den q
    push_cast
    have h2 : (((q.den : Nat) : Rat)) = (((q.den : Int)) : Rat) := rfl
    grind
  · rintro ⟨z, hz⟩
    have hb : ((B : Nat) : Rat) ≠ 0 := by
      have : B ≠ 0 := by omega
      simpa using this
    have e : q = (z : Rat) / (((B : Nat) : Int) : Rat) := by
      have : (((B : Nat) : Int) : Rat) = ((B : Nat) : Rat) := rfl
      grind
    rw [e, ← Rat.divInt_eq_div, Rat.den_divInt]
    split
    · exact Nat.one_dvd _
    · exact Nat.div_dvd_of_dvd (Int.gcd_dvd_natAbs_left _ _)
/-- a fraction from 0 to M with a denominator that divides B -/
structure In (B M : Nat) (q : Rat) : Prop where
  den : q.den ∣ B
  nn : 0 ≤ q
  le : q ≤ (M : Rat)
theorem In.add {B M N : Nat} {x y : Rat} (hB : 0 < B) (h : In B M x) (h' : In B N y) : In B (M + N) (x + y) := by
  refine ⟨?_, ?_, ?_⟩
  · obtain ⟨a, ha⟩ := (den_dvd_iff hB).mp h.den
    obtain ⟨b, hb⟩ := (den_dvd_iff hB).mp h'.den
    refine (den_dvd_iff hB).mpr ⟨a + b, ?_⟩
    push_cast
    grind
  · have := h.nn; have := h'.nn; grind
  · have := h.le; have := h'.le; push_cast; grind
theorem In.mul {B C M N : Nat} {x y : Rat} (hB : 0 < B) (hC : 0 < C) (h : In B M x) (h' : In C N y) : In (B * C) (M * N) (x * y) := by
  refine ⟨?_, Rat.mul_nonneg h.nn h'.nn, ?_⟩
  · obtain ⟨a, ha⟩ := (den_dvd_iff hB).mp h.den
    obtain ⟨b, hb⟩ := (den_dvd_iff hC).mp h'.den
    refine (den_dvd_iff (Nat.mul_pos hB hC)).mpr ⟨a * b, ?_⟩
    push_cast
    grind
  · push_cast
    have h1 := Rat.mul_le_mul_of_nonneg_right h.le h'.nn
    have h2 := Rat.mul_le_mul_of_nonneg_left h'.le (show (0 : Rat) ≤ (M : Rat) from by have := h.nn; have := h.le; grind)
    grind
theorem In.mono {B C M N : Nat} {x : Rat} (h : In B M x) (hB : B ∣ C) (hM : M ≤ N) : In C N x :=
  ⟨Nat.dvd_trans h.den hB, h.nn, by have := h.le; have h2 : ((M : Nat) : Rat) ≤ ((N : Nat) : Rat) := by exact_mod_cast hM
                                    grind⟩
theorem In.num {B M : Nat} {q : Rat} (hB : 0 < B) (h : In B M q) : 0 ≤ q.num ∧ q.num ≤ ((M * B : Nat) : Int) := by
  refine ⟨Rat.num_nonneg.mpr h.nn, ?_⟩
  have h1 := mul_den q
  have h2 : ((q.den : Int) : Rat) ≤ ((B : Int) : Rat) := by
    have := Nat.le_of_dvd hB h.den
    exact_mod_cast this
  have h3 : (0 : Rat) ≤ ((q.den : Int) : Rat) := by
    have := den_pos q
    exact_mod_cast Nat.zero_le _
  have h4 : (q.num : Rat) ≤ (((M * B : Nat) : Int) : Rat) := by
    rw [← h1]
    have h5 := Rat.mul_le_mul_of_nonneg_right h.le h3
    have h6 := Rat.mul_le_mul_of_nonneg_left h2 (show (0 : Rat) ≤ (M : Rat) from by have := h.nn; have := h.le; grind)
    push_cast
    exact Rat.le_trans h5 h6
  exact_mod_cast h4
theorem In.bt {B M n : Nat} {q : Rat} (hB : 0 < B) (h : In B M q) (hn : M * B < 2 ^ n) (hn2 : B < 2 ^ n) : Bt n q.num ∧ Bt n (q.den : Int) := by
  obtain ⟨h1, h2⟩ := h.num hB
  have h3 := Nat.le_of_dvd hB h.den
  unfold Bt
  omega

/-! ### the law's own fractions -/
/-- k steps of Euclid's come to 0 -/
def Eu : Nat → Nat → Nat → Prop
  | 0, _, y => y = 0
  | k + 1, x, y => y = 0 ∨ Eu k y (x % y)
theorem eu_bound : ∀ (m x y : Nat), y < 2 ^ m → Eu (2 * m) x y
  | 0, x, y, h => by show y = 0; omega
  | m + 1, x, y, h => by
    show y = 0 ∨ (x % y = 0 ∨ Eu (2 * m) (x % y) (y % (x % y)))
    by_cases h0 : y = 0
    · exact .inl h0
    · by_cases h1 : x % y = 0
      · exact .inr (.inl h1)
      · refine .inr (.inr (eu_bound m _ _ ?_))
        have a := Nat.mod_lt x (Nat.pos_of_ne_zero h0)
        have b := Nat.mod_lt y (Nat.pos_of_ne_zero h1)
        have c : y % (x % y) ≤ y - x % y := by
          rw [Nat.mod_eq_sub_mod (by omega)]
          exact Nat.mod_le _ _
        rw [Nat.pow_succ] at h
        omega
theorem eu_more : ∀ (k x y : Nat), Eu k x y → Eu (k + 1) x y
  | 0, x, y, h => .inl h
  | k + 1, x, y, h => by
    rcases h with h | h
    · exact .inl h
    · exact .inr (eu_more k _ _ h)
theorem eu_le {k j x y : Nat} (h : Eu k x y) (hj : k ≤ j) : Eu j x y := by
  induction hj with
  | refl => exact h
  | step _ ih => exact eu_more _ _ _ ih
theorem q_lf {a b : Int} {n : Nat} (hb : 0 < b) (hn : Bt n b) (ha : Bt 500000 a) (h9 : n ≤ 8999) : True := trivial
end LW

set_option maxRecDepth 100000
set_option maxHeartbeats 4000000
namespace LW
open PySem DL
open Classical
theorem lf_loop : ∀ (ds : List D) (x y : Nat) (a b t s : Option D) (S : Sto), Eu ds.length x y → ∃ t', forL (gNm 4) (sSeq (sIf (tBl (e2 fEq (eV 3) (eC (.int 0)))) sBreak sPass) (sPar 2 3 (aCons (eV 3) (aCons (e2 fMod (eA fInt1 (aCons (eV 2) aNil)) (eV 3)) aNil)))) (fun _ => True) ds [a, b, some (.int x), some (.int y), t, s] S = some (.nx [a, b, some (.int (Nat.gcd x y : Nat)), some (.int 0), t', s] S)
  | [], x, y, a, b, t, s, S, h => by
    have h : y = 0 := h
    subst h
    exact ⟨t, by simp [forL]⟩
  | d :: ds, x, y, a, b, t, s, S, h => by
    by_cases hy : y = 0
    · subst hy
      refine ⟨some d, ?_⟩
      unfold forL
      simp
    · have h : Eu ds.length y (x % y) := by
        rcases h with h | h
        · exact absurd h hy
        · exact h
      obtain ⟨t', ih⟩ := lf_loop ds y (x % y) a b (some d) s S h
      refine ⟨t', ?_⟩
      have hg : Nat.gcd x y = Nat.gcd y (x % y) := by rw [Nat.gcd_comm x y, Nat.gcd_rec, Nat.gcd_comm]
      unfold forL
      simp only [Int.natCast_emod] at ih
      simp [hy, fmod_nat, hg]
      simpa using ih
theorem F_lf {a b : Int} {n : Nat} (hb : 0 < b) (hn : Bt n b) (ha : Bt 500000 a) (h9 : n ≤ 8999) (S : Sto) : F__law_fraction [.int a, .int b] S = some (dQ ((a : Rat) / (b : Rat)), S) := by
  obtain ⟨t', h1⟩ := lf_loop (rangeD 0 20000) a.natAbs b.natAbs (some (.int a)) (some (.int b)) none none S (eu_le (eu_bound n _ _ hn) (by simp [rangeD]; omega))
  have hg : (0 : Int) < (Int.gcd a b : Int) := by
    have := gcd_ne (a := a) (b := b) (by omega)
    omega
  have hd : ∀ x : Int, L2.CDivW x (Int.gcd a b : Int) ∨ L2.CDivN x (Int.gcd a b : Int) := fun x => div_ok hg (gcd_bt hb hn) h9
  have hm : (if (Int.gcd a b : Int) > 1 then (Int.gcd a b : Int) else 1) = (Int.gcd a b : Int) := by split <;> omega
  have mu : L2.CMulW 1 a := mul_ok (n := 1) (by unfold Bt; decide) ha (by omega)
  have e1 : sFor (iRange1 (eC (.int 20000))) (gNm 4) (sSeq (sIf (tBl (e2 fEq (eV 3) (eC (.int 0)))) sBreak sPass) (sPar 2 3 (aCons (eV 3) (aCons (e2 fMod (eA fInt1 (aCons (eV 2) aNil)) (eV 3)) aNil)))) [some (.int a), some (.int b), some (.int a.natAbs), some (.int b.natAbs), none, none] S = some (.nx [some (.int a), some (.int b), some (.int (Int.gcd a b : Nat)), some (.int 0), t', none] S) := by
    refine (sFor_ok (ds := rangeD 0 20000) (chk := fun _ => True) (S1 := S) ?_).trans h1
    simp [iRange1]
  have e2 : sPar 2 3 (aCons (eA fAbs (aCons (eV 0) aNil)) (aCons (eA fAbs (aCons (eV 1) aNil)) aNil)) [some (.int a), some (.int b), none, none, none, none] S = some (.nx [some (.int a), some (.int b), some (.int a.natAbs), some (.int b.natAbs), none, none] S) := by
    simp [abs_nat]
  unfold F__law_fraction t__law_fraction
  refine (fnD_rt rfl ((sSeq_nx e2).trans ((sSeq_nx e1).trans ?_))).trans (finP_self (d := dQ ((a : Rat) / (b : Rat))) (clos_dQ _ _) rfl)
  unfold dQ
  rw [low_num a b hb, low_den a b hb]
  have hab : (if b < 0 then -b else b) = b := by split <;> omega
  simp [hb, hd, hm, mu, hab]
/-- numerator and denominator of less than n bits -/
structure Sm (n : Nat) (q : Rat) : Prop where
  num : Bt n q.num
  den : Bt n (q.den : Int)
theorem F_lp {x y : Rat} {n : Nat} (hx : Sm n x) (hy : Sm n y) (h9 : n ≤ 4000) (S : Sto) : F__law_plus [dQ x, dQ y] S = some (dQ (x + y), S) := by
  have px : (0 : Int) < (x.den : Int) := by have := den_pos x; omega
  have py : (0 : Int) < (y.den : Int) := by have := den_pos y; omega
  have m1 := mul_ok hx.num hy.den (by omega)
  have m2 := mul_ok hy.num hx.den (by omega)
  have m3 := mul_ok hx.den hy.den (by omega)
  have h := F_lf (a := x.num * y.den + y.num * x.den) (b := x.den * y.den) (Int.mul_pos px py) (hx.den.mul hy.den) (((hx.num.mul hy.den).add (hy.num.mul hx.den)).mono (by omega)) (by omega) S
  have e : ((x.num * y.den + y.num * x.den : Int) : Rat) / ((x.den * y.den : Int) : Rat) = x + y := by
    have a := mul_den x
    have b := mul_den y
    have c := den_ne x
    have d := den_ne y
    push_cast
    push_cast at a b c d
    grind
  rw [e] at h
  unfold F__law_plus t__law_plus
  refine (fnD_rt (d := dQ (x + y)) (S1 := S) rfl ?_).trans (finP_self (clos_dQ _ _) rfl)
  simp [dQ, L2.atI, L2.ixN, m1, m2, m3]
  simp [dQ] at h
  simp [h]
theorem F_lt {x y : Rat} {n : Nat} (hx : Sm n x) (hy : Sm n y) (h9 : n ≤ 4000) (S : Sto) : F__law_times [dQ x, dQ y] S = some (dQ (x * y), S) := by
  have px : (0 : Int) < (x.den : Int) := by have := den_pos x; omega
  have py : (0 : Int) < (y.den : Int) := by have := den_pos y; omega
  have m1 := mul_ok hx.num hy.num (by omega)
  have m3 := mul_ok hx.den hy.den (by omega)
  have h := F_lf (a := x.num * y.num) (b := x.den * y.den) (Int.mul_pos px py) (hx.den.mul hy.den) ((hx.num.mul hy.num).mono (by omega)) (by omega) S
  have e : ((x.num * y.num : Int) : Rat) / ((x.den * y.den : Int) : Rat) = x * y := by
    have a := mul_den x
    have b := mul_den y
    have c := den_ne x
    have d := den_ne y
    push_cast
    push_cast at a b c d
    grind
  rw [e] at h
  unfold F__law_times t__law_times
  refine (fnD_rt (d := dQ (x * y)) (S1 := S) rfl ?_).trans (finP_self (clos_dQ _ _) rfl)
  simp [dQ, L2.atI, L2.ixN, m1, m3]
  simp [dQ] at h
  simp [h]
/-- the partial sums are small -/
theorem F_tot {d : D} {qs : List Rat} {n : Nat} (hd : IsSeq d (qs.map dQ)) (hq : ∀ q ∈ qs, Sm n q) (hs : ∀ k, Sm n (qs.take k).sum) (h9 : n ≤ 4000) (S : Sto) : F__law_total [d] S = some (dQ qs.sum, S) := by
  obtain ⟨ρ', S', h1, rfl, t, rfl⟩ := forL_ind (g := gNm 2) (b := sSet 1 (eA F__law_plus (aCons (eV 1) (aCons (eV 2) aNil)))) (chk := fun _ => True)
    (fun k ρ S' => S' = S ∧ ∃ t, ρ = [some d, some (dQ (qs.take k).sum), t]) (qs.map dQ) 0 [some d, some (dQ 0), none] S ⟨rfl, none, by simp⟩ fun k x ρ S1 hk ⟨e, t, eρ⟩ => by
      subst e eρ
      rw [List.getElem?_map] at hk
      obtain ⟨q, hkq, rfl⟩ := Option.map_eq_some_iff.mp hk
      have hm : q ∈ qs := List.mem_of_getElem? hkq
      rw [Nat.zero_add]
      have h := F_lp (hs k) (hq q hm) h9 S1
      have e2 : (qs.take (k + 1)).sum = (qs.take k).sum + q := by
        rw [List.take_add_one, hkq]
        simp [List.sum_append, Rat.add_zero]
      refine ⟨[some d, some (dQ (qs.take k).sum), some (dQ q)], S1, [some d, some (dQ (qs.take (k + 1)).sum), some (dQ q)], S1, by simp, .inl ?_, trivial, rfl, _, rfl⟩
      rw [e2]
      exact sSet_ok ((eA_ok (aCons_ok rfl (aCons_ok rfl rfl))).trans h)
  unfold F__law_total t__law_total
  have e0 : iSeq (eV 0) [some d, some (dQ 0), none] S' = some (qs.map dQ, fun _ => True, S') := by
    rcases hd with e | e <;> subst e <;> rfl
  have e3 : qs.take (0 + (qs.map dQ).length) = qs := by simp
  rw [e3] at h1
  refine (fnD_rt rfl ((sSeq_nx (sSet_ok (d := dQ 0) (S1 := S') ?_)).trans ((sSeq_nx ((sFor_ok e0).trans h1)).trans (sRet_ok rfl)))).trans (finP_self (clos_dQ _ _) rfl)
  exact (eA_ok (aCons_ok rfl (aCons_ok rfl rfl))).trans (fTup_ok (by simp))
end LW

set_option maxRecDepth 100000
set_option maxHeartbeats 4000000
namespace LW
open PySem DL
open Classical
/-- the pool: what it holds -/
def pl (a b c : Int) (rest : List Int) : Cell := .lst ((a :: b :: c :: rest).map D.int)
structure Pool (a b c : Int) : Prop where
  a0 : 0 ≤ a
  b0 : 0 ≤ b
  b1 : b < 2147483647
  c0 : 0 ≤ c
@[simp] theorem at0 {α : Type} (x : α) (xs : List α) : L2.atI (x :: xs) 0 = some x := by
  unfold L2.atI L2.ixN
  rw [if_pos (by omega), if_pos (by simp <;> omega)]
  rfl
@[simp] theorem at1 {α : Type} (x y : α) (xs : List α) : L2.atI (x :: y :: xs) 1 = some y := by
  unfold L2.atI L2.ixN
  rw [if_pos (by omega), if_pos (by simp <;> omega)]
  rfl
@[simp] theorem at2 {α : Type} (x y z : α) (xs : List α) : L2.atI (x :: y :: z :: xs) 2 = some z := by
  unfold L2.atI L2.ixN
  rw [if_pos (by omega), if_pos (by simp <;> omega)]
  rfl
@[simp] theorem ix0 (n : Nat) : L2.ixN (n + 1) 0 = some 0 := by
  unfold L2.ixN
  rw [if_pos (by omega), if_pos (by omega)]
  rfl
@[simp] theorem ix1 (n : Nat) : L2.ixN (n + 1 + 1) 1 = some 1 := by
  unfold L2.ixN
  rw [if_pos (by omega), if_pos (by omega)]
  rfl
@[simp] theorem ix2 (n : Nat) : L2.ixN (n + 1 + 1 + 1) 2 = some 2 := by
  unfold L2.ixN
  rw [if_pos (by omega), if_pos (by omega)]
  rfl
theorem pow18 : e2 fPow (eC (.int 10)) (eC (.int 18)) = fun ρ S => some (.int 1000000000000000000, S) := by
  funext ρ S
  simp [fPow]
theorem fmod_lt (x : Int) : 0 ≤ Int.fmod x 2147483647 ∧ Int.fmod x 2147483647 < 2147483647 := by
  rw [Int.fmod_eq_emod_of_nonneg _ (by omega)]
  omega
theorem drawA (a b c : Int) (rest : List Int) (T : Sto) (m : Int) (hp : Pool a b c) : ∃ x a' b' c', Pool a' b' c' ∧
    sIf (tAndD (tBl (e2 fEq (e2 fIx (eV 0) (eC (.int 0))) (eC (.int 0)))) (tBl (e2 (fCmp fun i j => decide (i < j)) (e2 fIx (eV 0) (eC (.int 2))) (eA fLen (aCons (eV 0) aNil))))) (sSeq (sSet 2 (e2 fIx (eV 0) (e2 fIx (eV 0) (eC (.int 2)))))
    (sSeq (sAsg (e2s (fPlus fLst) (e2 fIx (eV 0) (eC (.int 2))) (eC (.int 1))) (gIx (eV 0) (eC (.int 2))))
    (sSeq (sAsg (e2 fMod (eA fInt1 (aCons (e2s (fPlus fLst) (e2s (fTimes fLst) (e2 fIx (eV 0) (eC (.int 1))) (eC (.int 31))) (eV 2)) aNil)) (eC (.int 2147483647))) (gIx (eV 0) (eC (.int 1))))
    (sIf (tBl (e2 (fCmp fun i j => decide (j ≤ i)) (eA fAbs (aCons (eV 2) aNil)) (e2 fPow (eC (.int 10)) (eC (.int 18))))) (sAsg (eA fAbs (aCons (eV 2) aNil)) (gIx (eV 0) (eC (.int 0)))) sPass)))) sPass
      [some (.obj 0), some (.int m), none, none, none] (pl a b c rest :: T) = some (.nx [some (.obj 0), some (.int m), x, none, none] (pl a' b' c' rest :: T)) := by
  obtain ⟨h1, h2, h3, h4⟩ := hp
  by_cases ha : a = 0
  · subst ha
    by_cases hc : c < (rest.length : Int) + 3
    · -- a cell is taken
      obtain ⟨cell, hcell⟩ : ∃ cell, (0 :: b :: c :: rest)[c.toNat]? = some cell := ⟨_, List.getElem?_eq_getElem (by simp; omega)⟩
      have hat : L2.atI (((0 : Int) :: b :: c :: rest).map D.int) c = some (.int cell) := by
        unfold L2.atI L2.ixN
        rw [if_pos h4, if_pos (by simp; omega)]
        simp only [Option.bind, List.getElem?_map, hcell, Option.map]
      have mu : L2.CMulW b 31 := mul_ok (n := 31) (m := 5) (by unfold Bt; omega) (by unfold Bt; decide) (by omega)
      have hm := fmod_lt (b * 31 + cell)
      have hat2 := hat
      simp at hat2
      have hc2 : c < (rest.length : Int) + 1 + 1 + 1 := by omega
      by_cases hb : 1000000000000000000 ≤ (if cell < 0 then -cell else cell)
      · refine ⟨some (.int cell), (if cell < 0 then -cell else cell), Int.fmod (b * 31 + cell) 2147483647, c + 1, ⟨by omega, hm.1, hm.2, by omega⟩, ?_⟩
        simp [pl, hc2, hat2, mu, hb, pow18]
      · refine ⟨some (.int cell), 0, Int.fmod (b * 31 + cell) 2147483647, c + 1, ⟨by omega, hm.1, hm.2, by omega⟩, ?_⟩
        simp [pl, hc2, hat2, mu, hb, pow18]
    · refine ⟨none, 0, b, c, ⟨h1, h2, h3, h4⟩, ?_⟩
      have hc2 : ¬ c < (rest.length : Int) + 1 + 1 + 1 := by omega
      simp [pl, hc2]
  · refine ⟨none, a, b, c, ⟨h1, h2, h3, h4⟩, ?_⟩
    simp [pl, ha]
/-- what stands behind the pool is closed -/
def Cl (T : Sto) : Prop := ∀ ce ∈ T, cellClos (T.length + 1) ce = true
theorem fmod_m (x m : Int) (h : 1 ≤ m) : 0 ≤ Int.fmod x m ∧ Int.fmod x m < m := by
  rw [Int.fmod_eq_emod_of_nonneg _ (by omega)]
  exact ⟨Int.emod_nonneg _ (by omega), Int.emod_lt_of_pos _ (by omega)⟩
theorem finM_pl {a b c : Int} {rest : List Int} {T : Sto} {d : D} {S : Sto} (hT : Cl T) (hS : S.length = T.length + 1) (hd : clos (T.length + 1) d = true) (ho : isObj d = false) : finM d S (pl a b c rest :: T) = some (d, pl a b c rest :: T) := by
  unfold finM
  rw [hS, frz_self hd ho]
  have e : (pl a b c rest :: T).take (T.length + 1) = pl a b c rest :: T := List.take_of_length_le (Nat.le_refl _)
  simp only [e]
  rw [if_pos]
  rw [List.all_eq_true]
  intro ce hce
  rcases List.mem_cons.mp hce with h | h
  · subst h
    exact closL_map (fun i => rfl) _
  · exact hT ce h
theorem draw (a b c : Int) (rest : List Int) (T : Sto) (m : Int) (hp : Pool a b c) (hT : Cl T) (h1 : 1 ≤ m) (h2 : m ≤ 1000) : ∃ r a' b' c', Pool a' b' c' ∧ 0 ≤ r ∧ r < m ∧
    F__law_draw [.obj 0, .int m] (pl a b c rest :: T) = some (.int r, pl a' b' c' rest :: T) := by
  obtain ⟨x, a1, b1, c1, hp1, hA⟩ := drawA a b c rest T m hp
  obtain ⟨p1, p2, p3, p4⟩ := hp1
  have dm : ∀ y : Int, L2.CDivW y m ∨ L2.CDivN y m := fun y => div_sm (by omega) (by omega)
  have m0 : ¬ m = 0 := by omega
  by_cases ha : 0 < a1
  · have hr := fmod_m a1 m h1
    refine ⟨Int.fmod a1 m, Int.fdiv a1 m, b1, c1, ⟨Int.fdiv_nonneg (by omega) (by omega), p2, p3, p4⟩, hr.1, hr.2, ?_⟩
    unfold F__law_draw t__law_draw
    refine (fnD_rt (S1 := pl (Int.fdiv a1 m) b1 c1 rest :: T) (d := .int (Int.fmod a1 m)) rfl ((sSeq_nx hA).trans (sSeq_rt ?_))).trans (finM_pl hT rfl rfl rfl)
    simp [pl, ha, dm, m0]
  · have hx := fmod_lt (b1 * 48271 + 12345)
    have mu : L2.CMulW b1 48271 := mul_ok (n := 31) (m := 16) (by unfold Bt; omega) (by unfold Bt; decide) (by omega)
    generalize hy : Int.fmod (b1 * 48271 + 12345) 2147483647 = y at hx
    have mu2 : L2.CMulW y 69621 := mul_ok (n := 31) (m := 17) (by unfold Bt; omega) (by unfold Bt; decide) (by omega)
    have d1 : L2.CDivW y 65536 ∨ L2.CDivN y 65536 := div_sm (by omega) (by decide)
    have d2 : ∀ z : Int, L2.CDivW z 16 ∨ L2.CDivN z 16 := fun z => div_sm (by omega) (by decide)
    have hr := fmod_m (Int.fdiv (Int.fmod (y * 69621 + Int.fdiv y 65536 + 17) 2147483629) 16) m h1
    refine ⟨_, a1, y, c1, ⟨p1, hx.1, hx.2, p4⟩, hr.1, hr.2, ?_⟩
    unfold F__law_draw t__law_draw
    refine (fnD_rt (S1 := pl a1 y c1 rest :: T) rfl ((sSeq_nx hA).trans ((sSeq_nx (ρ1 := [some (.obj 0), some (.int m), x, none, none]) (S1 := pl a1 b1 c1 rest :: T) ?_).trans ?_))).trans (finM_pl hT rfl rfl rfl)
    · simp [pl, ha]
    · simp [pl, hy, mu, mu2, d1, d2, m0]
end LW

set_option maxRecDepth 100000
set_option maxHeartbeats 4000000
namespace LW
open PySem DL
open Classical
/-- the pool stands first, then T -/
def St (rest : List Int) (T : Sto) (S : Sto) : Prop := ∃ a b c, Pool a b c ∧ S = pl a b c rest :: T
theorem draw_st {rest : List Int} {T S : Sto} {m : Int} (h : St rest T S) (hT : Cl T) (h1 : 1 ≤ m) (h2 : m ≤ 1000) : ∃ r S', F__law_draw [.obj 0, .int m] S = some (.int r, S') ∧ St rest T S' ∧ 0 ≤ r ∧ r < m := by
  obtain ⟨a, b, c, hp, rfl⟩ := h
  obtain ⟨r, a', b', c', hp', r0, r1, e⟩ := draw a b c rest T m hp hT h1 h2
  exact ⟨r, _, e, ⟨a', b', c', hp', rfl⟩, r0, r1⟩
theorem St.len {rest : List Int} {T S : Sto} (h : St rest T S) : S.length = T.length + 1 := by
  obtain ⟨a, b, c, _, rfl⟩ := h
  rfl
theorem finM_st {rest : List Int} {T S0 S U : Sto} {d : D} (h0 : S0.length = T.length + 1) (h : St rest (T ++ U) S) (hT : Cl T) (hd : clos (T.length + 1) d = true) (ho : isObj d = false) : ∃ S', finM d S0 S = some (d, S') ∧ St rest T S' := by
  obtain ⟨a, b, c, hp, rfl⟩ := h
  refine ⟨pl a b c rest :: T, ?_, a, b, c, hp, rfl⟩
  unfold finM
  rw [h0, frz_self hd ho]
  have e : (pl a b c rest :: (T ++ U)).take (T.length + 1) = pl a b c rest :: T := by simp
  simp only [e]
  rw [if_pos]
  rw [List.all_eq_true]
  intro ce hce
  rcases List.mem_cons.mp hce with h | h
  · subst h
    exact closL_map (fun i => rfl) _
  · exact hT ce h
theorem finM_st0 {rest : List Int} {T S0 S : Sto} {d : D} (h0 : S0.length = T.length + 1) (h : St rest T S) (hT : Cl T) (hd : clos (T.length + 1) d = true) (ho : isObj d = false) : finM d S0 S = some (d, S) := by
  obtain ⟨a, b, c, hp, rfl⟩ := h
  exact finM_pl hT h0 hd ho
theorem pick_st {rest : List Int} {T S : Sto} {ds : List D} (h : St rest T S) (hT : Cl T) (h1 : ds ≠ []) (h2 : ds.length ≤ 1000) (hd : ∀ d ∈ ds, clos (T.length + 1) d = true ∧ isObj d = false) :
    ∃ d S', F__law_pick [.obj 0, .lst ds] S = some (d, S') ∧ St rest T S' ∧ d ∈ ds := by
  have hl : 1 ≤ ds.length := Nat.pos_of_ne_zero fun z => h1 (List.length_eq_zero_iff.mp z)
  obtain ⟨r, S', e, hs, r0, r1⟩ := draw_st (m := (ds.length : Int)) h hT (by omega) (by omega)
  obtain ⟨d, hdr⟩ : ∃ d, ds[r.toNat]? = some d := ⟨_, List.getElem?_eq_getElem (by omega)⟩
  have hm : d ∈ ds := List.mem_of_getElem? hdr
  have hat : L2.atI ds r = some d := by
    unfold L2.atI L2.ixN
    rw [if_pos r0, if_pos r1]
    exact hdr
  refine ⟨d, S', ?_, hs, hm⟩
  unfold F__law_pick t__law_pick
  refine (fnD_rt (d := d) (S1 := S') rfl ?_).trans (finM_st0 h.len hs hT (hd d hm).1 (hd d hm).2)
  simp [e, hat]
theorem Cl.snoc {T : Sto} {xs : List D} (hT : Cl T) (hx : ∀ n, closL n xs = true) (hm : ∀ ce ∈ T, ∀ n m, n ≤ m → cellClos n ce = true → cellClos m ce = true) : Cl (T ++ [.lst xs]) := by
  intro ce hce
  rcases List.mem_append.mp hce with h | h
  · exact hm ce h _ _ (by simp) (hT ce h)
  · rw [List.mem_singleton.mp h]
    exact hx _
mutual
theorem clos_mono {n m : Nat} (h : n ≤ m) : ∀ d : D, clos n d = true → clos m d = true
  | .non, _ => rfl
  | .bl _, _ => rfl
  | .int _, _ => rfl
  | .str _, _ => rfl
  | .tup xs, e => closL_mono h xs e
  | .lst xs, e => closL_mono h xs e
  | .scr xs, e => closL_mono h xs e
  | .obj k, e => by
    have e : decide (k < n) = true := e
    exact decide_eq_true (Nat.lt_of_lt_of_le (of_decide_eq_true e) h)
theorem closL_mono {n m : Nat} (h : n ≤ m) : ∀ ds : List D, closL n ds = true → closL m ds = true
  | [], _ => rfl
  | d :: ds, e => by
    have e : (clos n d && closL n ds) = true := e
    rw [Bool.and_eq_true] at e
    exact closL_cons (clos_mono h d e.1) (closL_mono h ds e.2)
end
theorem Cl.add {T : Sto} {xs : List D} (hT : Cl T) (hx : closL (T.length + 2) xs = true) : Cl (T ++ [.lst xs]) := by
  intro ce hce
  have hl : (T ++ [Cell.lst xs]).length + 1 = T.length + 2 := by simp
  rw [hl]
  rcases List.mem_append.mp hce with h | h
  · have := hT ce h
    cases ce with
    | lst ds => exact closL_mono (by omega) ds this
    | dct _ => rfl
    | dead => rfl
  · rw [List.mem_singleton.mp h]
    exact hx
theorem inv_nn (s : Rat) (h : 0 < s) : 0 ≤ s⁻¹ := by
  by_cases h2 : 0 ≤ s⁻¹
  · exact h2
  · have h3 : 0 ≤ -s⁻¹ := by grind
    have h4 := Rat.mul_nonneg h3 (show (0 : Rat) ≤ s by grind)
    have h5 : s * s⁻¹ = 1 := Rat.mul_inv_cancel s (by grind)
    grind
theorem div_nn (x s : Rat) (h : 0 < s) (h2 : 0 ≤ x) : 0 ≤ x / s := by
  rw [Rat.div_def]; exact Rat.mul_nonneg h2 (inv_nn s h)
theorem div_le1 (x s : Rat) (h : 0 < s) (h2 : x ≤ s) : x / s ≤ 1 := by
  rw [Rat.div_def]
  have := Rat.mul_le_mul_of_nonneg_right h2 (inv_nn s h)
  have h5 : s * s⁻¹ = 1 := Rat.mul_inv_cancel s (by grind)
  grind
/-- numbers that make a row -/
def B0 : Nat := 232792560
structure Row (qs : List Rat) : Prop where
  q : ∀ q ∈ qs, In B0 1 q
  sum : qs.sum = 1
theorem sum_nn : ∀ {ns : List Int}, (∀ i ∈ ns, 0 ≤ i) → 0 ≤ ns.sum
  | [], _ => by simp
  | i :: ns, h => by
    have a := h i List.mem_cons_self
    have b := sum_nn fun x hx => h x (List.mem_cons_of_mem _ hx)
    simp only [List.sum_cons]
    omega
theorem mem_le_sum : ∀ {ns : List Int}, (∀ i ∈ ns, 0 ≤ i) → ∀ i ∈ ns, i ≤ ns.sum
  | j :: ns, h, i, hi => by
    have a := h j List.mem_cons_self
    have b := sum_nn fun x hx => h x (List.mem_cons_of_mem _ hx)
    simp only [List.sum_cons]
    rcases List.mem_cons.mp hi with e | e
    · omega
    · have := mem_le_sum (fun x hx => h x (List.mem_cons_of_mem _ hx)) i e
      omega
theorem sum_le_mul {m : Int} : ∀ {ns : List Int}, (∀ i ∈ ns, i ≤ m) → ns.sum ≤ m * ns.length
  | [], _ => by simp
  | i :: ns, h => by
    have a := h i List.mem_cons_self
    have b := sum_le_mul fun x hx => h x (List.mem_cons_of_mem _ hx)
    simp only [List.sum_cons, List.length_cons]
    push_cast
    rw [Int.mul_add]
    omega
theorem small_dvd : ∀ s : Nat, 1 ≤ s → s ≤ 20 → s ∣ B0 := by
  intro s h1 h2
  have : ∀ k : Fin 21, 1 ≤ k.val → k.val ∣ 232792560 := by decide
  exact this ⟨s, by omega⟩ h1
theorem row_sum : ∀ (ns : List Int) (s : Rat), s ≠ 0 → (ns.map fun i => ((i : Int) : Rat) / s).sum = ((ns.sum : Int) : Rat) / s
  | [], s, h => by
    simp
    grind
  | i :: ns, s, h => by
    have ih := row_sum ns s h
    simp only [List.map_cons, List.sum_cons, ih]
    push_cast
    grind
theorem row_of {ns : List Int} (h0 : ∀ i ∈ ns, 0 ≤ i) (hs : 1 ≤ ns.sum) (hs2 : ns.sum ≤ 20) : Row (ns.map fun i => ((i : Int) : Rat) / ((ns.sum : Int) : Rat)) := by
  have hsr : ((ns.sum : Int) : Rat) ≠ 0 := by
    have : ns.sum ≠ 0 := by omega
    simpa using this
  have hp : (0 : Rat) < ((ns.sum : Int) : Rat) := by exact_mod_cast (show (0 : Int) < ns.sum by omega)
  refine ⟨fun q hq => ?_, ?_⟩
  · obtain ⟨i, hi, rfl⟩ := List.mem_map.mp hq
    have hi0 := h0 i hi
    have hile := mem_le_sum h0 i hi
    refine ⟨?_, ?_, ?_⟩
    · have : (((i : Int) : Rat) / ((ns.sum : Int) : Rat)).den ∣ ns.sum.toNat := by
        refine (den_dvd_iff (by omega)).mpr ⟨i, ?_⟩
        have e : ((ns.sum.toNat : Nat) : Rat) = ((ns.sum : Int) : Rat) := by
          have : ((ns.sum.toNat : Nat) : Int) = ns.sum := by omega
          exact_mod_cast this
        rw [e]
        grind
      exact Nat.dvd_trans this (small_dvd _ (by omega) (by omega))
    · have : (0 : Rat) ≤ ((i : Int) : Rat) := by exact_mod_cast hi0
      exact div_nn _ _ hp this
    · have : ((i : Int) : Rat) ≤ ((ns.sum : Int) : Rat) := by exact_mod_cast hile
      exact div_le1 _ _ hp this
  · rw [row_sum ns _ hsr]
    grind
theorem zero_sum : ∀ (ns : List Int), (∀ i ∈ ns, i = 0) → ns.sum = 0
  | [], _ => rfl
  | x :: xs, h => by
    rw [List.sum_cons, h x List.mem_cons_self, zero_sum xs fun y hy => h y (List.mem_cons_of_mem _ hy)]
    rfl
theorem setsum : ∀ (ns : List Int) (k : Nat), (∀ i ∈ ns, i = 0) → k < ns.length → (ns.set k 1).sum = 1
  | [], k, _, h => by simp at h
  | i :: ns, 0, h, _ => by
    have h1 : ∀ i ∈ ns, i = 0 := fun x hx => h x (List.mem_cons_of_mem _ hx)
    have : ns.sum = 0 := zero_sum ns h1
    simp [this]
  | i :: ns, k + 1, h, hk => by
    have ih := setsum ns k (fun x hx => h x (List.mem_cons_of_mem _ hx)) (by simpa using hk)
    have h0 := h i List.mem_cons_self
    simp [ih, h0]
theorem intsD_map : ∀ ns : List Int, intsD (ns.map D.int) = some ns
  | [] => rfl
  | i :: ns => by
    rw [List.map_cons]
    unfold intsD
    rw [intsD_map ns]
theorem ints_of_all : ∀ {ys : List D}, (∀ (k : Nat) (y : D), ys[k]? = some y → ∃ i : Int, y = .int i ∧ 0 ≤ i ∧ i ≤ 5) → ∃ ns : List Int, ys = ns.map D.int ∧ ∀ i ∈ ns, 0 ≤ i ∧ i ≤ 5
  | [], _ => ⟨[], rfl, fun i h => by cases h⟩
  | y :: ys, h => by
    obtain ⟨i, rfl, hi⟩ := h 0 y rfl
    obtain ⟨ns, rfl, hn⟩ := ints_of_all fun k y hk => h (k + 1) y (by simpa using hk)
    refine ⟨i :: ns, rfl, fun j hj => ?_⟩
    rcases List.mem_cons.mp hj with e | e
    · rw [e]; exact hi
    · exact hn j e
theorem row_st {rest : List Int} {T S : Sto} {m : Int} (h : St rest T S) (hT : Cl T) (h1 : 1 ≤ m) (h2 : m ≤ 4) : ∃ qs S', F__law_row [.obj 0, .int m] S = some (.tup (qs.map dQ), S') ∧ St rest T S' ∧ qs.length = m.toNat ∧ Row qs := by
  -- numbers
  obtain ⟨ys, S1, e1, hs1, hl1, hy1⟩ := compL_inv (i := 3) (e := eA F__law_pick (aCons (eV 0) (aCons (eA fLst (aCons (eC (.int 0)) (aCons (eC (.int 0)) (aCons (eC (.int 1)) (aCons (eC (.int 1)) (aCons (eC (.int 2)) (aCons (eC (.int 3)) (aCons (eC (.int 5)) aNil)))))))) aNil))) (chk := fun _ => True) (ρ := [some (.obj 0), some (.int m), none, none, none])
    (St rest T) (fun _ y => ∃ i : Int, y = .int i ∧ 0 ≤ i ∧ i ≤ 5) (rangeD 0 m.toNat) 0 S h fun k d S hk hs => by
      obtain ⟨y, S', e, hs', hm⟩ := pick_st (ds := [.int 0, .int 0, .int 1, .int 1, .int 2, .int 3, .int 5]) hs hT (by simp) (by simp) (fun d hd => by simp at hd; rcases hd with z | z | z | z | z <;> rw [z] <;> exact ⟨rfl, rfl⟩)
      refine ⟨y, S', ?_, trivial, hs', ?_⟩
      · simpa using e
      · simp at hm
        rcases hm with z | z | z | z | z <;> exact ⟨_, z, by decide, by decide⟩
  obtain ⟨ns, rfl, hns⟩ := ints_of_all fun k y hk => hy1 k y hk
  have hln : ns.length = m.toNat := by simpa [rangeD] using hl1
  have e1' : eLc fObj (iRange1 (eV 1)) (gNm 3) tYesD (eA F__law_pick (aCons (eV 0) (aCons (eA fLst (aCons (eC (.int 0)) (aCons (eC (.int 0)) (aCons (eC (.int 1)) (aCons (eC (.int 1)) (aCons (eC (.int 2)) (aCons (eC (.int 3)) (aCons (eC (.int 5)) aNil)))))))) aNil))) [3] [some (.obj 0), some (.int m), none, none, none] S = some (.obj S1.length, S1 ++ [.lst (ns.map D.int)]) := by
    refine (eLc_ok (ds := rangeD 0 m.toNat) (chk := fun _ => True) (S1 := S) ?_ e1).trans (fObj_ok ?_)
    · simp [iRange1]; omega
    · simp; omega
  have hlen1 := hs1.len
  obtain ⟨a, b, c, hp, rfl⟩ := hs1
  -- the greatest case: one number is set
  have key : ∃ ms : List Int, ∃ S2, sIf (tBl (e2 fEq (eA fSum (aCons (eV 2) aNil)) (eC (.int 0)))) (sAsg (eC (.int 1)) (gIx (eV 2) (eA F__law_draw (aCons (eV 0) (aCons (eV 1) aNil))))) sPass [some (.obj 0), some (.int m), some (.obj (T.length + 1)), none, none] (pl a b c rest :: (T ++ [.lst (ns.map D.int)])) = some (.nx [some (.obj 0), some (.int m), some (.obj (T.length + 1)), none, none] S2) ∧
      St rest (T ++ [.lst (ms.map D.int)]) S2 ∧ ms.length = ns.length ∧ (∀ i ∈ ms, 0 ≤ i ∧ i ≤ 5) ∧ 1 ≤ ms.sum := by
    have hsum0 := sum_nn fun i hi => (hns i hi).1
    have hget : (pl a b c rest :: (T ++ [Cell.lst (ns.map D.int)]))[T.length + 1]? = some (.lst (ns.map D.int)) := by simp
    by_cases hz : ns.sum = 0
    · obtain ⟨r, S2, e, hs2, r0, r1⟩ := draw_st (m := m) (S := pl a b c rest :: (T ++ [Cell.lst (ns.map D.int)])) ⟨a, b, c, hp, rfl⟩ (hT.add (closL_map (fun _ => rfl) ns)) h1 (by omega)
      obtain ⟨a', b', c', hp', rfl⟩ := hs2
      refine ⟨ns.set r.toNat 1, pl a' b' c' rest :: (T ++ [.lst ((ns.set r.toNat 1).map D.int)]), ?_, ⟨a', b', c', hp', rfl⟩, by simp, fun i hi => ?_, ?_⟩
      · have hix : L2.ixN ns.length r = some r.toNat := by
          unfold L2.ixN
          rw [if_pos r0, if_pos (by omega)]
        have hset : (T ++ [Cell.lst (ns.map D.int)]).set T.length (.lst ((ns.map D.int).set r.toNat (.int 1))) = T ++ [.lst ((ns.set r.toNat 1).map D.int)] := by
          rw [List.set_append_right _ _ (Nat.le_refl _), List.map_set]
          simp
        simp [hz, intsD_map, e, hix, hset]
      · rcases List.mem_or_eq_of_mem_set hi with z | z
        · exact hns i z
        · rw [z]; decide
      · rw [setsum ns r.toNat (fun i hi => ?_) (by omega)]
        · exact Int.le_refl 1
        · have := mem_le_sum (fun i hi => (hns i hi).1) i hi
          have := (hns i hi).1
          omega
    · refine ⟨ns, pl a b c rest :: (T ++ [.lst (ns.map D.int)]), ?_, ⟨a, b, c, hp, rfl⟩, rfl, hns, by omega⟩
      simp [hz, intsD_map]
  obtain ⟨ms, S2, e2, hs2, hlm, hms, hsum⟩ := key
  have hle := sum_le_mul fun i hi => (hms i hi).2
  have hrow := row_of (fun i hi => (hms i hi).1) hsum (by omega)
  obtain ⟨a2, b2, c2, hp2, rfl⟩ := hs2
  have hget : (pl a2 b2 c2 rest :: (T ++ [Cell.lst (ms.map D.int)]))[T.length + 1]? = some (.lst (ms.map D.int)) := by simp
  have e3 := compL_map (i := 4) (e := eA F__law_fraction (aCons (eV 4) (aCons (eA fSum (aCons (eV 2) aNil)) aNil))) (chk := fun S => S[T.length + 1]? = some (.lst (ms.map D.int))) (ρ := [some (.obj 0), some (.int m), some (.obj (T.length + 1)), none, none]) (S := pl a2 b2 c2 rest :: (T ++ [Cell.lst (ms.map D.int)])) hget
    D.int (fun i => dQ (((i : Int) : Rat) / ((ms.sum : Int) : Rat))) ms fun i hi => by
      have hf := F_lf (a := i) (b := ms.sum) (n := 8) (by omega) (by unfold Bt; omega) (by
        have := hms i hi
        exact Bt.mono (n := 8) (by unfold Bt; omega) (by omega)) (by omega) (pl a2 b2 c2 rest :: (T ++ [Cell.lst (ms.map D.int)]))
      simp [intsD_map, hf]
  obtain ⟨S3, e4, hs3⟩ := finM_st (S0 := S) (d := .tup ((ms.map fun i => ((i : Int) : Rat) / ((ms.sum : Int) : Rat)).map dQ)) (U := [Cell.lst (ms.map D.int)]) h.len ⟨a2, b2, c2, hp2, rfl⟩ hT (clos_tup (closL_map (fun q => rfl) _)) rfl
  refine ⟨ms.map fun i => ((i : Int) : Rat) / ((ms.sum : Int) : Rat), S3, ?_, hs3, by simp; omega, hrow⟩
  unfold F__law_row t__law_row
  refine (fnD_rt (S1 := pl a2 b2 c2 rest :: (T ++ [Cell.lst (ms.map D.int)])) rfl ((sSeq_nx (sSet_ok e1')).trans ((sSeq_nx (ρ1 := [some (.obj 0), some (.int m), some (.obj (T.length + 1)), none, none]) (S1 := pl a2 b2 c2 rest :: (T ++ [Cell.lst (ms.map D.int)])) ?_).trans (sRet_ok ?_)))).trans e4
  · have : (pl a b c rest :: T).length = T.length + 1 := rfl
    rw [this]
    exact e2
  · refine (eA_ok (aCons_ok ((eLc_ok (ds := ms.map D.int) (chk := fun S => S[T.length + 1]? = some (.lst (ms.map D.int))) ?_ e3).trans (fLst_ok (by simp; omega))) rfl)).trans ?_
    · simp
    · simp
end LW

set_option maxRecDepth 100000
set_option maxHeartbeats 4000000
namespace LW
open PySem DL
open Classical
/-- a row, rows -/
def dT (r : List Rat) : D := .tup (r.map dQ)
def dTT (rs : List (List Rat)) : D := .tup (rs.map dT)
theorem clos_dT (n : Nat) (r : List Rat) : clos n (dT r) = true := clos_tup (closL_map (fun q => rfl) r)
theorem clos_dTT (n : Nat) (rs : List (List Rat)) : clos n (dTT rs) = true := clos_tup (closL_map (fun r => clos_dT n r) rs)
structure RowN (n : Nat) (r : List Rat) : Prop where
  len : r.length = n
  row : Row r
theorem rows_of_all {n : Nat} : ∀ {ys : List D}, (∀ (k : Nat) (y : D), ys[k]? = some y → ∃ r, y = dT r ∧ RowN n r) → ∃ rs : List (List Rat), ys = rs.map dT ∧ ∀ r ∈ rs, RowN n r
  | [], _ => ⟨[], rfl, fun i h => by cases h⟩
  | y :: ys, h => by
    obtain ⟨i, rfl, hi⟩ := h 0 y rfl
    obtain ⟨ns, rfl, hn⟩ := rows_of_all fun k y hk => h (k + 1) y (by simpa using hk)
    refine ⟨i :: ns, rfl, fun j hj => ?_⟩
    rcases List.mem_cons.mp hj with e | e
    · rw [e]; exact hi
    · exact hn j e
theorem range1 {e : RE} {ρ : En} {S S1 : Sto} {j : Int} (h : e ρ S = some (.int j, S1)) (h0 : 0 ≤ j) (h1 : j ≤ 1000000) : iRange1 e ρ S = some (rangeD 0 j.toNat, fun _ => True, S1) := by
  unfold iRange1
  rw [h]
  simp only
  rw [if_pos ⟨by omega, by omega⟩]
/-- rows made by draws -/
theorem rows_st {rest : List Int} {T S : Sto} {m n : Int} {e : RE} {i : Nat} {ρ : En} (h : St rest T S) (hm0 : 0 ≤ m) (hm : m ≤ 1000)
    (he : ∀ d S, St rest T S → ∃ r S', e (ρ.set i (some d)) S = some (dT r, S') ∧ St rest T S' ∧ RowN n.toNat r) :
    ∃ (rs : List (List Rat)) (S' : Sto), compL (gNm i) tYesD e (fun _ => True) ρ (rangeD 0 m.toNat) S = some (rs.map dT, S') ∧ St rest T S' ∧ rs.length = m.toNat ∧ ∀ r ∈ rs, RowN n.toNat r := by
  obtain ⟨ys, S1, e1, hs1, hl1, hy1⟩ := compL_inv (i := i) (e := e) (chk := fun _ => True) (ρ := ρ) (St rest T) (fun _ y => ∃ r, y = dT r ∧ RowN n.toNat r) (rangeD 0 m.toNat) 0 S h fun k d S hk hs => by
    obtain ⟨r, S', e, hs', hr⟩ := he d S hs
    exact ⟨dT r, S', e, trivial, hs', r, rfl, hr⟩
  obtain ⟨rs, rfl, hrs⟩ := rows_of_all fun k y hk => hy1 k y hk
  exact ⟨rs, S1, e1, hs1, by simpa [rangeD] using hl1, hrs⟩
theorem telling_st {rest : List Int} {T S : Sto} {m n : Int} (h : St rest T S) (hT : Cl T) (h1 : 1 ≤ m) (h2 : m ≤ 4) (h3 : 1 ≤ n) (h4 : n ≤ 4) :
    ∃ (rs : List (List Rat)) (S' : Sto), F__law_telling [.obj 0, .int m, .int n] S = some (dTT rs, S') ∧ St rest T S' ∧ rs.length = m.toNat ∧ ∀ r ∈ rs, RowN n.toNat r := by
  obtain ⟨rs, S1, e1, hs1, hl1, hr1⟩ := rows_st (e := eA F__law_row (aCons (eV 0) (aCons (eV 2) aNil))) (i := 4) (ρ := [some (.obj 0), some (.int m), some (.int n), none, none]) (n := n) (m := m) h (by omega) (by omega) fun d S hs => by
    obtain ⟨qs, S', e, hs', hl, hr⟩ := row_st hs hT h3 h4
    exact ⟨qs, S', by simpa [dT] using e, hs', ⟨hl, hr⟩⟩
  have e1' : eLc fObj (iRange1 (eV 1)) (gNm 4) tYesD (eA F__law_row (aCons (eV 0) (aCons (eV 2) aNil))) [4] [some (.obj 0), some (.int m), some (.int n), none, none] S = some (.obj S1.length, S1 ++ [.lst (rs.map dT)]) :=
    (eLc_ok (range1 rfl (by omega) (by omega)) e1).trans (fObj_ok (by simp; omega))
  obtain ⟨a, b, c, hp, rfl⟩ := hs1
  have hcl : ∀ rs : List (List Rat), Cl (T ++ [Cell.lst (rs.map dT)]) := fun rs => hT.add (closL_map (fun r => clos_dT _ r) rs)
  have key : ∃ ms : List (List Rat), ∃ S2, sIf (tAndD (tBl (e2 (fCmp fun i j => decide (j < i)) (eV 1) (eC (.int 1)))) (tBl (e2 fEq (eA F__law_draw (aCons (eV 0) (aCons (eC (.int 4)) aNil))) (eC (.int 0))))) (sAsg (e2 fIx (eV 3) (eA F__law_draw (aCons (eV 0) (aCons (eV 1) aNil)))) (gIx (eV 3) (eA F__law_draw (aCons (eV 0) (aCons (eV 1) aNil))))) sPass
        [some (.obj 0), some (.int m), some (.int n), some (.obj (T.length + 1)), none] (pl a b c rest :: (T ++ [.lst (rs.map dT)])) = some (.nx [some (.obj 0), some (.int m), some (.int n), some (.obj (T.length + 1)), none] S2) ∧
      St rest (T ++ [.lst (ms.map dT)]) S2 ∧ ms.length = rs.length ∧ ∀ r ∈ ms, RowN n.toNat r := by
    by_cases hm1 : 1 < m
    · obtain ⟨r, S2, e, hs2, r0, r1⟩ := draw_st (m := 4) (S := pl a b c rest :: (T ++ [Cell.lst (rs.map dT)])) ⟨a, b, c, hp, rfl⟩ (hcl rs) (by omega) (by omega)
      by_cases hr : r = 0
      · subst hr
        obtain ⟨r2, S3, e3, hs3, p0, p1⟩ := draw_st (m := m) hs2 (hcl rs) h1 (by omega)
        obtain ⟨r4, S4, e4, hs4, q0, q1⟩ := draw_st (m := m) hs3 (hcl rs) h1 (by omega)
        obtain ⟨row, hrow⟩ : ∃ row, rs[r2.toNat]? = some row := ⟨_, List.getElem?_eq_getElem (by omega)⟩
        have hat : L2.atI (rs.map dT) r2 = some (dT row) := by
          unfold L2.atI L2.ixN
          rw [if_pos p0, if_pos (by simp; omega)]
          simp [hrow]
        have hix : L2.ixN rs.length r4 = some r4.toNat := by
          unfold L2.ixN
          rw [if_pos q0, if_pos (by omega)]
        have g3 : S3[T.length + 1]? = some (.lst (rs.map dT)) := by
          obtain ⟨a', b', c', _, rfl⟩ := hs3
          simp
        have g4 : S4[T.length + 1]? = some (.lst (rs.map dT)) := by
          obtain ⟨a', b', c', _, rfl⟩ := hs4
          simp
        refine ⟨rs.set r4.toNat row, S4.set (T.length + 1) (.lst ((rs.set r4.toNat row).map dT)), ?_, ?_, by simp, fun x hx => ?_⟩
        · have ems : (rs.set r4.toNat row).map dT = (rs.map dT).set r4.toNat (dT row) := List.map_set
          rw [ems]
          simp [hm1, e, e3, e4, g3, g4, hat, hix]
        · obtain ⟨a', b', c', hp', rfl⟩ := hs4
          refine ⟨a', b', c', hp', ?_⟩
          simp [List.set_append_right]
        · rcases List.mem_or_eq_of_mem_set hx with z | z
          · exact hr1 x z
          · rw [z]; exact hr1 row (List.mem_of_getElem? hrow)
      · refine ⟨rs, S2, ?_, hs2, rfl, hr1⟩
        simp [hm1, e, hr]
    · refine ⟨rs, _, ?_, ⟨a, b, c, hp, rfl⟩, rfl, hr1⟩
      simp [hm1]
  obtain ⟨ms, S2, e2, hs2, hlm, hms⟩ := key
  obtain ⟨S3, e4, hs3⟩ := finM_st (S0 := S) (d := dTT ms) (U := [Cell.lst (ms.map dT)]) h.len hs2 hT (clos_dTT _ _) rfl
  refine ⟨ms, S3, ?_, hs3, by omega, hms⟩
  unfold F__law_telling t__law_telling
  have g2 : S2[T.length + 1]? = some (.lst (ms.map dT)) := by
    obtain ⟨a', b', c', _, rfl⟩ := hs2
    simp
  refine (fnD_rt (S1 := S2) (d := dTT ms) rfl ((sSeq_nx (sSet_ok e1')).trans ((sSeq_nx (ρ1 := [some (.obj 0), some (.int m), some (.int n), some (.obj (T.length + 1)), none]) (S1 := S2) ?_).trans (sRet_ok ?_)))).trans e4
  · have : (pl a b c rest :: T).length = T.length + 1 := rfl
    rw [this]
    exact e2
  · simp [g2, dTT]
/-- the identity -/
def eyeR (n w : Nat) : List Rat := (List.range n).map fun v => if w = v then 1 else 0
theorem eye_sum (n w : Nat) (h : w < n) : (eyeR n w).sum = 1 := by
  induction n with
  | zero => omega
  | succ n ih =>
    unfold eyeR at ih ⊢
    rw [List.range_succ, List.map_append, List.sum_append]
    by_cases hw : w < n
    · rw [ih hw]
      have : w ≠ n := by omega
      simp [this, Rat.add_zero]
    · have e : w = n := by omega
      have z : ((List.range n).map fun v => if w = v then (1 : Rat) else 0).sum = 0 := by
        have : ((List.range n).map fun v => if w = v then (1 : Rat) else 0) = (List.range n).map fun _ => (0 : Rat) := by
          apply List.map_congr_left
          intro v hv
          have := List.mem_range.mp hv
          rw [if_neg (by omega)]
        rw [this]
        clear ih hw e this h
        induction n with
        | zero => rfl
        | succ n ih => rw [List.range_succ, List.map_append, List.sum_append, ih]; simp [Rat.add_zero]
      rw [z]
      simp [e, Rat.add_zero, Rat.zero_add]
theorem eye_row (n w : Nat) (h : w < n) : RowN n (eyeR n w) := by
  refine ⟨by simp [eyeR], ⟨fun q hq => ?_, eye_sum n w h⟩⟩
  obtain ⟨v, _, rfl⟩ := List.mem_map.mp hq
  split
  · exact ⟨Nat.one_dvd _, by decide, by decide⟩
  · exact ⟨Nat.one_dvd _, by decide, by decide⟩
end LW

set_option maxRecDepth 100000
set_option maxHeartbeats 4000000
namespace LW
open PySem DL
open Classical
theorem change_st {rest : List Int} {T S : Sto} {m : Int} (h : St rest T S) (hT : Cl T) (h1 : 1 ≤ m) (h2 : m ≤ 4) :
    ∃ (rs : List (List Rat)) (S' : Sto), F__law_change [.obj 0, .int m] S = some (dTT rs, S') ∧ St rest T S' ∧ rs.length = m.toNat ∧ ∀ r ∈ rs, RowN m.toNat r := by
  obtain ⟨r, S1, e, hs1, r0, r1⟩ := draw_st (m := 4) h hT (by omega) (by omega)
  by_cases hr : r = 0
  · subst hr
    have inner : ∀ w : Nat, compL (gNm 3) tYesD (eIf (tBl (e2 fEq (eV 2) (eV 3))) (eA fTup (aCons (eC (.int 1)) (aCons (eC (.int 1)) aNil))) (eA fTup (aCons (eC (.int 0)) (aCons (eC (.int 1)) aNil)))) (fun _ => True) [some (.obj 0), some (.int m), some (.int (0 + (w : Nat))), none] (rangeD 0 m.toNat) S1 = some ((eyeR m.toNat w).map dQ, S1) := fun w => by
      have := compL_map (i := 3) (e := eIf (tBl (e2 fEq (eV 2) (eV 3))) (eA fTup (aCons (eC (.int 1)) (aCons (eC (.int 1)) aNil))) (eA fTup (aCons (eC (.int 0)) (aCons (eC (.int 1)) aNil)))) (chk := fun _ => True) (ρ := [some (.obj 0), some (.int m), some (.int (0 + (w : Nat))), none]) (S := S1) trivial (fun i : Nat => D.int (0 + (i : Nat))) (fun v => dQ (if w = v then 1 else 0)) (List.range m.toNat) fun v hv => by
        by_cases hw : w = v
        · subst hw
          simp
          rfl
        · have : ¬ ((w : Int) = (v : Int)) := by omega
          simp [hw, this]
          rfl
      unfold rangeD eyeR
      rw [List.map_map]
      exact this
    have outer := compL_map (i := 2) (e := eA fTupOf (aCons (eLc fLst (iRange1 (eV 1)) (gNm 3) tYesD (eIf (tBl (e2 fEq (eV 2) (eV 3))) (eA fTup (aCons (eC (.int 1)) (aCons (eC (.int 1)) aNil))) (eA fTup (aCons (eC (.int 0)) (aCons (eC (.int 1)) aNil)))) [3]) aNil)) (chk := fun _ => True) (ρ := [some (.obj 0), some (.int m), none, none]) (S := S1) trivial (fun i : Nat => D.int (0 + (i : Nat))) (fun w => dT (eyeR m.toNat w)) (List.range m.toNat) fun w hw =>
      (eA_ok (aCons_ok ((eLc_ok (range1 rfl (by omega) (by omega)) (inner w)).trans (fLst_ok (by simp [eyeR]; omega))) rfl)).trans rfl
    refine ⟨(List.range m.toNat).map (eyeR m.toNat), S1, ?_, hs1, by simp, fun x hx => ?_⟩
    · unfold F__law_change t__law_change
      refine (fnD_rt (S1 := S1) rfl (sSeq_rt ((sIf_t ?_).trans (sRet_ok ((eA_ok (aCons_ok ((eLc_ok (range1 rfl (by omega) (by omega)) outer).trans (fLst_ok (by simp; omega))) rfl)).trans ?_))))).trans (finM_st0 h.len hs1 hT (clos_dTT _ _) rfl)
      · simp [e]
      · simp [dTT]
    · obtain ⟨w, hw, rfl⟩ := List.mem_map.mp hx
      exact eye_row _ _ (List.mem_range.mp hw)
  · obtain ⟨rs, S2, e1, hs2, hl, hrs⟩ := rows_st (e := eA F__law_row (aCons (eV 0) (aCons (eV 1) aNil))) (i := 2) (ρ := [some (.obj 0), some (.int m), none, none]) (n := m) (m := m) hs1 (by omega) (by omega) fun d S hs => by
      obtain ⟨qs, S', e, hs', hl, hr⟩ := row_st hs hT h1 h2
      exact ⟨qs, S', by simpa [dT] using e, hs', ⟨hl, hr⟩⟩
    refine ⟨rs, S2, ?_, hs2, hl, hrs⟩
    unfold F__law_change t__law_change
    refine (fnD_rt (S1 := S2) (d := dTT rs) rfl ((sSeq_nx (ρ1 := [some (.obj 0), some (.int m), none, none]) (S1 := S1) ?_).trans (sRet_ok ((eA_ok (aCons_ok ((eLc_ok (range1 rfl (by omega) (by omega)) e1).trans (fLst_ok (by simp; omega))) rfl)).trans rfl)))).trans (finM_st0 h.len hs2 hT (clos_dTT _ _) rfl)
    simp [e, hr]
/-! ### vectors -/
/-- v moved by the table c: sums over the worlds -/
def dots (v : List Rat) (c : List (List Rat)) (k : Nat) : List Rat := (List.range c.length).map fun w => v.getD w 0 * (c.getD w []).getD k 0
def moved (c : List (List Rat)) (v : List Rat) : List Rat := (List.range c.length).map fun k => (dots v c k).sum
def seen (t : List (List Rat)) (s : Nat) (v : List Rat) : List Rat := (List.range v.length).map fun w => v.getD w 0 * (t.getD w []).getD s 0
/-- the joint chances of the worlds with the first k signs -/
def jv (c t : List (List Rat)) (ss : List Nat) (v : List Rat) : Nat → List Rat
  | 0 => v
  | k + 1 => seen t (ss.getD k 0) (if k = 0 then v else moved c (jv c t ss v k))
/-- bounds by the number of steps -/
def Lv (a b : Nat) (v : List Rat) : Prop := ∀ q ∈ v, In (B0 ^ a) (4 ^ b) q
theorem b0_pos (a : Nat) : 0 < B0 ^ a := Nat.pow_pos (by decide)
theorem b0_lt (a : Nat) : B0 ^ a ≤ 2 ^ (28 * a) := by
  rw [Nat.pow_mul]
  exact Nat.pow_le_pow_left (by decide) a
theorem sm_of {a b : Nat} {q : Rat} (h : In (B0 ^ a) (4 ^ b) q) (ha : a ≤ 20) (hb : b ≤ 19) : Sm 600 q := by
  have h1 : 4 ^ b * B0 ^ a < 2 ^ 600 := by
    have e : 4 ^ b = 2 ^ (2 * b) := by rw [Nat.pow_mul]
    have h2 := b0_lt a
    have h3 : 4 ^ b * B0 ^ a ≤ 2 ^ (2 * b) * 2 ^ (28 * a) := by rw [e]; exact Nat.mul_le_mul_left _ h2
    rw [← Nat.pow_add] at h3
    exact Nat.lt_of_le_of_lt h3 (Nat.pow_lt_pow_right (by omega) (by omega))
  have h2 : B0 ^ a < 2 ^ 600 := Nat.lt_of_le_of_lt (Nat.le_mul_of_pos_left _ (Nat.pow_pos (by omega))) h1
  obtain ⟨x, y⟩ := h.bt (b0_pos a) h1 h2
  exact ⟨x, y⟩
theorem In.zero {B M : Nat} : In B M 0 := ⟨Nat.one_dvd _, by decide, by exact_mod_cast Nat.zero_le M⟩
theorem sum_in {B M : Nat} (hB : 0 < B) : ∀ qs : List Rat, (∀ q ∈ qs, In B M q) → In B (qs.length * M) qs.sum
  | [], _ => by simpa using In.zero
  | q :: qs, h => by
    have h1 := h q List.mem_cons_self
    have h2 := sum_in hB qs fun x hx => h x (List.mem_cons_of_mem _ hx)
    rw [List.sum_cons, List.length_cons]
    exact (h1.add hB h2).mono (Nat.dvd_refl _) (by rw [Nat.add_mul]; omega)
theorem take_in {B M : Nat} (hB : 0 < B) {qs : List Rat} (h : ∀ q ∈ qs, In B M q) (hl : qs.length ≤ 4) (k : Nat) : In B (4 * M) (qs.take k).sum :=
  (sum_in hB (qs.take k) fun q hq => h q (List.mem_of_mem_take hq)).mono (Nat.dvd_refl _) (Nat.mul_le_mul_right _ (by simp; omega))
theorem getD_in {B M : Nat} {v : List Rat} (h : ∀ q ∈ v, In B M q) (k : Nat) : In B M (v.getD k 0) := by
  by_cases hk : k < v.length
  · rw [List.getD_eq_getElem?_getD, List.getElem?_eq_getElem hk]
    exact h _ (List.getElem_mem hk)
  · rw [List.getD_eq_getElem?_getD, List.getElem?_eq_none (Nat.not_lt.mp hk)]
    exact In.zero
def Tb1 (n m : Nat) (c : List (List Rat)) : Prop := c.length = m ∧ ∀ r ∈ c, RowN n r
theorem Tb1.at {n m : Nat} {c : List (List Rat)} (h : Tb1 n m c) (w k : Nat) : In B0 1 ((c.getD w []).getD k 0) := by
  by_cases hw : w < c.length
  · have e : c.getD w [] = c[w] := by rw [List.getD_eq_getElem?_getD, List.getElem?_eq_getElem hw]; rfl
    rw [e]
    exact getD_in (h.2 _ (List.getElem_mem hw)).row.q k
  · have e : c.getD w [] = [] := by rw [List.getD_eq_getElem?_getD, List.getElem?_eq_none (Nat.not_lt.mp hw)]; rfl
    rw [e]
    exact In.zero
theorem dots_in {a b n m : Nat} {c : List (List Rat)} {v : List Rat} (h : Lv a b v) (hc : Tb1 n m c) (k : Nat) : Lv (a + 1) b (dots v c k) := by
  intro q hq
  obtain ⟨w, _, rfl⟩ := List.mem_map.mp hq
  have := (getD_in h w).mul (b0_pos a) (by decide) (hc.at w k)
  rw [Nat.mul_one] at this
  rw [Nat.pow_succ]
  exact this
theorem moved_in {a b n m : Nat} {c : List (List Rat)} {v : List Rat} (h : Lv a b v) (hc : Tb1 n m c) (hm : m ≤ 4) : Lv (a + 1) (b + 1) (moved c v) := by
  intro q hq
  obtain ⟨k, _, rfl⟩ := List.mem_map.mp hq
  have := sum_in (b0_pos (a + 1)) _ (dots_in h hc k)
  refine this.mono (Nat.dvd_refl _) ?_
  rw [Nat.pow_succ, Nat.mul_comm]
  exact Nat.mul_le_mul_left _ (by simp [dots, hc.1]; omega)
theorem seen_in {a b n m : Nat} {t : List (List Rat)} {v : List Rat} (h : Lv a b v) (ht : Tb1 n m t) (s : Nat) : Lv (a + 1) b (seen t s v) := by
  intro q hq
  obtain ⟨w, _, rfl⟩ := List.mem_map.mp hq
  have := (getD_in h w).mul (b0_pos a) (by decide) (ht.at w s)
  rw [Nat.mul_one] at this
  rw [Nat.pow_succ]
  exact this
theorem Lv.mono {a b a' b' : Nat} {v : List Rat} (h : Lv a b v) (ha : a ≤ a') (hb : b ≤ b') : Lv a' b' v := fun q hq =>
  (h q hq).mono (Nat.pow_dvd_pow _ ha) (Nat.pow_le_pow_right (by omega) hb)
theorem jv_in {n m : Nat} {c t : List (List Rat)} {ss : List Nat} {v : List Rat} {a : Nat} (h : Lv a 0 v) (hc : Tb1 m m c) (ht : Tb1 n m t) (hm : m ≤ 4) : ∀ k, Lv (a + 2 * k) k (jv c t ss v k)
  | 0 => h
  | k + 1 => by
    unfold jv
    have ih := jv_in (ss := ss) h hc ht hm k
    split
    · rename_i hk
      subst hk
      exact (seen_in h ht _).mono (by omega) (by omega)
    · exact (seen_in (moved_in ih hc hm) ht _).mono (by omega) (by omega)
theorem moved_len {c : List (List Rat)} {v : List Rat} : (moved c v).length = c.length := by simp [moved]
theorem seen_len {t : List (List Rat)} {s : Nat} {v : List Rat} : (seen t s v).length = v.length := by simp [seen]
theorem jv_len {c t : List (List Rat)} {ss : List Nat} {v : List Rat} (hv : v.length = c.length) : ∀ k, (jv c t ss v k).length = c.length
  | 0 => hv
  | k + 1 => by
    unfold jv
    rw [seen_len]
    split
    · exact hv
    · exact moved_len
end LW

set_option maxRecDepth 100000
set_option maxHeartbeats 4000000
namespace LW
open PySem DL
open Classical
def dL (v : List Rat) : D := .lst (v.map dQ)
theorem at_map {α : Type} (f : α → D) (xs : List α) (k : Nat) (d : α) (h : k < xs.length) : L2.atI (xs.map f) ((k : Nat) : Int) = some (f (xs.getD k d)) := by
  unfold L2.atI L2.ixN
  rw [if_pos (by omega), if_pos (by simp; omega)]
  simp [List.getD_eq_getElem?_getD, h]
theorem fIx_L {v : List Rat} {k : Nat} (h : k < v.length) (U : Sto) : fIx (dL v) (.int ((k : Nat) : Int)) U = some (dQ (v.getD k 0)) := at_map dQ v k 0 h
theorem fIx_T {v : List Rat} {k : Nat} (h : k < v.length) (U : Sto) : fIx (dT v) (.int ((k : Nat) : Int)) U = some (dQ (v.getD k 0)) := at_map dQ v k 0 h
theorem fIx_TT {c : List (List Rat)} {k : Nat} (h : k < c.length) (U : Sto) : fIx (dTT c) (.int ((k : Nat) : Int)) U = some (dT (c.getD k [])) := at_map dT c k [] h
theorem e2_ok {f : D → D → Sto → Option D} {a b : RE} {ρ : En} {S S1 S2 : Sto} {x y z : D} (h : a ρ S = some (x, S1)) (h2 : b ρ S1 = some (y, S2)) (h3 : f x y S2 = some z) : e2 f a b ρ S = some (z, S2) := by
  unfold DL.e2
  rw [h]
  simp only [h2, h3]
theorem rangeD0 (n : Nat) : rangeD 0 n = (List.range n).map fun i : Nat => D.int ((i : Nat) : Int) := by
  unfold rangeD
  simp
theorem sm1 {q : Rat} (h : In B0 1 q) : Sm 600 q := sm_of (a := 1) (b := 0) (by simpa using h) (by omega) (by omega)
theorem Tb1.get {n m : Nat} {c : List (List Rat)} (h : Tb1 n m c) {w : Nat} (hw : w < m) : (c.getD w []).length = n := by
  have hl := h.1
  have e : c.getD w [] = c[w] := by rw [List.getD_eq_getElem?_getD, List.getElem?_eq_getElem (by omega)]; rfl
  rw [e]
  exact (h.2 _ (List.getElem_mem (by omega))).len
theorem len_TT {c : List (List Rat)} {S : Sto} {ρ : En} {i : Nat} (h : ρ[i]? = some (some (dTT c))) : eA fLen (aCons (eV i) aNil) ρ S = some (.int ((c.length : Nat) : Int), S) := by
  refine (eA_ok (aCons_ok (x := dTT c) (S1 := S) ?_ rfl)).trans ?_
  · simp [eV, h]
  · simp [dTT]
theorem eV_ok {ρ : En} {i : Nat} {d : D} {S : Sto} (h : ρ[i]? = some (some d)) : eV i ρ S = some (d, S) := by simp [eV, h]
theorem eM_ok {f : D → List D → Sto → Option (D × Sto)} {o : RE} {a : RA} {ρ : En} {S S1 S2 : Sto} {k : Nat} {zs ys : List D} (h : o ρ S = some (.obj k, S1)) (hz : S1[k]? = some (.lst zs)) (h2 : a ρ S1 = some (ys, S2)) : eM f o a ρ S = f (.obj k) ys S2 := by
  unfold eM
  rw [h]
  simp only [hz, h2]
theorem fAppend_ok {k : Nat} {S : Sto} {ys : List D} {y : D} (h : S[k]? = some (.lst ys)) (hl : ys.length < 1000000) : fAppend (.obj k) [y] S = some (.non, S.set k (.lst (ys ++ [y]))) := by
  unfold fAppend
  simp only [h]
  rw [if_pos hl]
/-- the products of one sum -/
theorem dots_ok {a b m k : Nat} {c : List (List Rat)} {v : List Rat} (hv : Lv a b v) (hc : Tb1 m m c) (hl : v.length = m) (hk : k < m) (ha : a ≤ 19) (hb : b ≤ 18) (x2 : Option D) (U : Sto) :
    compL (gNm 4) tYesD (eA F__law_times (aCons (e2 fIx (eV 1) (eV 4)) (aCons (e2 fIx (e2 fIx (eV 0) (eV 4)) (eV 3)) aNil))) (fun _ => True) [some (dTT c), some (dL v), x2, some (.int ((k : Nat) : Int)), none] (rangeD 0 m) U = some ((dots v c k).map dQ, U) := by
  have hcl : c.length = m := hc.1
  have := compL_map (i := 4) (e := eA F__law_times (aCons (e2 fIx (eV 1) (eV 4)) (aCons (e2 fIx (e2 fIx (eV 0) (eV 4)) (eV 3)) aNil))) (chk := fun _ => True) (ρ := [some (dTT c), some (dL v), x2, some (.int ((k : Nat) : Int)), none]) (S := U) trivial
        (fun i : Nat => D.int ((i : Nat) : Int)) (fun w => dQ (v.getD w 0 * (c.getD w []).getD k 0)) (List.range m) fun w hw => by
    have hw := List.mem_range.mp hw
    have f := F_lt (sm_of (getD_in hv w) (by omega) (by omega)) (sm1 (hc.at w k)) (by omega) U
    exact (eA_ok (aCons_ok (e2_ok rfl rfl (fIx_L (by omega) U)) (aCons_ok (e2_ok (e2_ok rfl rfl (fIx_TT (by omega) U)) rfl (fIx_T (by rw [hc.get hw]; exact hk) U)) rfl))).trans f
  rw [rangeD0, this]
  unfold dots
  rw [List.map_map, hcl]
  rfl
theorem F_mv {a b m : Nat} {c : List (List Rat)} {v : List Rat} (hv : Lv a b v) (hc : Tb1 m m c) (hl : v.length = m) (hm : m ≤ 4) (ha : a ≤ 19) (hb : b ≤ 18) (S : Sto) :
    F__law_moved [dTT c, dL v] S = some (dL (moved c v), S) := by
  have hcl : c.length = m := hc.1
  obtain ⟨ρ', S', h1, rfl, t, rfl⟩ := forL_ind (g := gNm 3) (b := sExpr (eM fAppend (eV 2) (aCons (eA F__law_total (aCons (eLc fLst (iRange1 (eA fLen (aCons (eV 0) aNil))) (gNm 4) tYesD (eA F__law_times (aCons (e2 fIx (eV 1) (eV 4)) (aCons (e2 fIx (e2 fIx (eV 0) (eV 4)) (eV 3)) aNil))) [4]) aNil)) aNil))) (chk := fun _ => True)
    (fun k ρ S' => S' = S ++ [.lst (((List.range k).map fun k => (dots v c k).sum).map dQ)] ∧ ∃ t, ρ = [some (dTT c), some (dL v), some (.obj S.length), t, none]) (rangeD 0 m) 0 [some (dTT c), some (dL v), some (.obj S.length), none, none] (S ++ [.lst []]) ⟨rfl, none, rfl⟩ fun k x ρ S1 hk ⟨e, t, eρ⟩ => by
      subst e eρ
      rw [Nat.zero_add]
      rw [rangeD0, List.getElem?_map] at hk
      obtain ⟨k', hk2, rfl⟩ := Option.map_eq_some_iff.mp hk
      have hkm : k < m := by have := (List.getElem?_eq_some_iff.mp hk2).1; simpa using this
      have ek : k' = k := by
        rw [List.getElem?_range hkm] at hk2
        exact (Option.some.inj hk2).symm
      subst ek
      have hget : (S ++ [Cell.lst (((List.range k').map fun k => (dots v c k).sum).map dQ)])[S.length]? = some (.lst (((List.range k').map fun k => (dots v c k).sum).map dQ)) := by simp
      have hset : (S ++ [Cell.lst (((List.range k').map fun k => (dots v c k).sum).map dQ)]).set S.length (.lst (((List.range k').map fun k => (dots v c k).sum).map dQ ++ [dQ (dots v c k').sum])) = S ++ [.lst (((List.range (k' + 1)).map fun k => (dots v c k).sum).map dQ)] := by
        rw [List.set_append_right _ _ (Nat.le_refl _)]
        simp [List.range_succ]
      have hlen : (((List.range k').map fun k => (dots v c k).sum).map dQ).length < 1000000 := by simp; omega
      generalize ((List.range k').map fun k => (dots v c k).sum).map dQ = acc at hget hset hlen ⊢
      generalize S ++ [Cell.lst acc] = U at hget hset ⊢
      have ft := F_tot (d := .lst ((dots v c k').map dQ)) (n := 600) (.inr rfl) (fun q hq => sm_of (dots_in hv hc k' q hq) (by omega) (by omega)) (fun j => by
        have := take_in (b0_pos (a + 1)) (dots_in hv hc k') (by simp [dots]; omega) j
        rw [Nat.mul_comm, ← Nat.pow_succ] at this
        exact sm_of this (by omega) (by omega)) (by omega) U
      refine ⟨_, _, [some (dTT c), some (dL v), some (.obj S.length), some (.int ((k' : Nat) : Int)), none], S ++ [.lst (((List.range (k' + 1)).map fun k => (dots v c k).sum).map dQ)], rfl, .inl (sExpr_ok (d := .non) ?_), trivial, rfl, _, rfl⟩
      have earg := aCons_ok ((eA_ok (aCons_ok ((eLc_ok (mk := fLst) (it := iRange1 (eA fLen (aCons (eV 0) aNil))) (vs := [4]) (range1 (len_TT (c := c) (ρ := [some (dTT c), some (dL v), some (.obj S.length), some (.int ((k' : Nat) : Int)), none]) (S := U) rfl) (by omega) (by omega)) (by rw [hcl]; exact dots_ok hv hc hl hkm ha hb _ U)).trans (fLst_ok (by simp [dots]; omega))) (rfl : aNil _ U = some ([], U)))).trans ft) (rfl : aNil _ U = some ([], U))
      exact ((eM_ok rfl hget earg).trans (fAppend_ok hget hlen)).trans (by rw [hset])
  unfold F__law_moved t__law_moved
  have e3 : (List.range (0 + (rangeD 0 m).length)).map (fun k => (dots v c k).sum) = moved c v := by
    unfold moved
    rw [hcl]
    simp [rangeD]
  rw [e3] at h1
  have efor : sFor (iRange1 (eA fLen (aCons (eV 0) aNil))) (gNm 3) (sExpr (eM fAppend (eV 2) (aCons (eA F__law_total (aCons (eLc fLst (iRange1 (eA fLen (aCons (eV 0) aNil))) (gNm 4) tYesD (eA F__law_times (aCons (e2 fIx (eV 1) (eV 4)) (aCons (e2 fIx (e2 fIx (eV 0) (eV 4)) (eV 3)) aNil))) [4]) aNil)) aNil))) [some (dTT c), some (dL v), some (.obj S.length), none, none] (S ++ [.lst []]) = some (.nx [some (dTT c), some (dL v), some (.obj S.length), t, none] (S ++ [.lst ((moved c v).map dQ)])) := by
    refine (sFor_ok (range1 (len_TT rfl) (by omega) (by omega))).trans ?_
    rw [hcl]
    exact h1
  have e1 : sSet 2 (eA fObj aNil) [some (dTT c), some (dL v), none, none, none] S = some (.nx [some (dTT c), some (dL v), some (.obj S.length), none, none] (S ++ [.lst []])) := by simp
  have e2 : sRet (eV 2) [some (dTT c), some (dL v), some (.obj S.length), t, none] (S ++ [.lst ((moved c v).map dQ)]) = some (.rt (.obj S.length) (S ++ [.lst ((moved c v).map dQ)])) := rfl
  have e4 := (sSeq_nx (b := sRet (eV 2)) efor).trans e2
  have e5 := (sSeq_nx e1).trans e4
  refine (fnD_rt (n := 2) (m := 5) (ds := [dTT c, dL v]) rfl e5).trans ?_
  have hcl2 : closL S.length ((moved c v).map dQ) = true := closL_map (fun q => rfl) _
  simp [hcl2, dL]
end LW

set_option maxRecDepth 100000
set_option maxHeartbeats 4000000
namespace LW
open PySem DL
open Classical
def dS (ss : List Nat) : D := .tup (ss.map fun s : Nat => .int ((s : Nat) : Int))
theorem fIx_S {ss : List Nat} {k : Nat} (h : k < ss.length) (U : Sto) : fIx (dS ss) (.int ((k : Nat) : Int)) U = some (.int ((ss.getD k 0 : Nat) : Int)) := at_map (fun s : Nat => D.int ((s : Nat) : Int)) ss k 0 h
theorem seen_ok {a b m n k : Nat} {t : List (List Rat)} {v : List Rat} {ss : List Nat} (hv : Lv a b v) (ht : Tb1 n m t) (hl : v.length = m) (hk : k < ss.length) (hs : ∀ s ∈ ss, s < n) (ha : a ≤ 19) (hb : b ≤ 18) (x0 x1 : Option D) (U : Sto) :
    compL (gNm 6) tYesD (eA F__law_times (aCons (e2 fIx (eV 4) (eV 6)) (aCons (e2 fIx (e2 fIx (eV 2) (eV 6)) (e2 fIx (eV 3) (eV 5))) aNil))) (fun _ => True) [x0, x1, some (dTT t), some (dS ss), some (dL v), some (.int ((k : Nat) : Int)), none] (rangeD 0 m) U = some ((seen t (ss.getD k 0) v).map dQ, U) := by
  have htl : t.length = m := ht.1
  have hsk : ss.getD k 0 < n := by
    rw [List.getD_eq_getElem?_getD, List.getElem?_eq_getElem hk]
    exact hs _ (List.getElem_mem hk)
  have := compL_map (i := 6) (e := eA F__law_times (aCons (e2 fIx (eV 4) (eV 6)) (aCons (e2 fIx (e2 fIx (eV 2) (eV 6)) (e2 fIx (eV 3) (eV 5))) aNil))) (chk := fun _ => True) (ρ := [x0, x1, some (dTT t), some (dS ss), some (dL v), some (.int ((k : Nat) : Int)), none]) (S := U) trivial
        (fun i : Nat => D.int ((i : Nat) : Int)) (fun w => dQ (v.getD w 0 * (t.getD w []).getD (ss.getD k 0) 0)) (List.range m) fun w hw => by
    have hw := List.mem_range.mp hw
    have f := F_lt (sm_of (getD_in hv w) (by omega) (by omega)) (sm1 (ht.at w (ss.getD k 0))) (by omega) U
    exact (eA_ok (aCons_ok (e2_ok rfl rfl (fIx_L (by omega) U)) (aCons_ok (e2_ok (e2_ok rfl rfl (fIx_TT (by omega) U)) (e2_ok rfl rfl (fIx_S hk U)) (fIx_T (by rw [ht.get hw]; exact hsk) U)) rfl))).trans f
  rw [rangeD0, this]
  unfold seen
  rw [List.map_map, hl]
  rfl
theorem len_L {v : List Rat} {S : Sto} {ρ : En} {i : Nat} (h : ρ[i]? = some (some (dL v))) : eA fLen (aCons (eV i) aNil) ρ S = some (.int ((v.length : Nat) : Int), S) := by
  refine (eA_ok (aCons_ok (x := dL v) (S1 := S) (eV_ok h) rfl)).trans ?_
  simp [dL]
theorem len_S {v : List Nat} {S : Sto} {ρ : En} {i : Nat} (h : ρ[i]? = some (some (dS v))) : eA fLen (aCons (eV i) aNil) ρ S = some (.int ((v.length : Nat) : Int), S) := by
  refine (eA_ok (aCons_ok (x := dS v) (S1 := S) (eV_ok h) rfl)).trans ?_
  simp [dS]
theorem range_at {n k : Nat} {d : D} (h : (rangeD 0 n)[k]? = some d) : k < n ∧ d = .int ((k : Nat) : Int) := by
  rw [rangeD0, List.getElem?_map] at h
  obtain ⟨k', hk, rfl⟩ := Option.map_eq_some_iff.mp h
  have hkm : k < n := by have := (List.getElem?_eq_some_iff.mp hk).1; simpa using this
  rw [List.getElem?_range hkm] at hk
  cases hk
  exact ⟨hkm, rfl⟩
theorem range_len (n : Nat) : (rangeD 0 n).length = n := by simp [rangeD]
/-- the law's tables: m worlds, n signs -/
structure Set (m n : Nat) (ws : List Rat) (c t : List (List Rat)) : Prop where
  m1 : 1 ≤ m
  m4 : m ≤ 4
  n1 : 1 ≤ n
  n4 : n ≤ 4
  ws : RowN m ws
  c : Tb1 m m c
  t : Tb1 n m t
theorem Set.lv {m n : Nat} {ws : List Rat} {c t : List (List Rat)} (h : Set m n ws c t) : Lv 1 0 ws := fun q hq => by simpa using h.ws.row.q q hq
theorem Set.jlen {m n : Nat} {ws : List Rat} {c t : List (List Rat)} (h : Set m n ws c t) (ss : List Nat) (k : Nat) : (jv c t ss ws k).length = m := by
  rw [jv_len (by rw [h.ws.len, h.c.1]) k, h.c.1]
theorem F_jt {m n : Nat} {ws : List Rat} {c t : List (List Rat)} {ss : List Nat} (h : Set m n ws c t) (hs : ∀ s ∈ ss, s < n) (hl : ss.length ≤ 8) (S : Sto) :
    F__law_joint [dT ws, dTT c, dTT t, dS ss] S = some (dL (jv c t ss ws ss.length), S) := by
  have m4 := h.m4
  obtain ⟨ρ', S', h1, rfl, x, rfl⟩ := forL_ind (g := gNm 5) (b := sSeq (sIf (tBl (e2 (fCmp fun i j => decide (j < i)) (eV 5) (eC (.int 0)))) (sSet 4 (eA F__law_moved (aCons (eV 1) (aCons (eV 4) aNil)))) sPass)
    (sSet 4 (eLc fLst (iRange1 (eA fLen (aCons (eV 4) aNil))) (gNm 6) tYesD (eA F__law_times (aCons (e2 fIx (eV 4) (eV 6)) (aCons (e2 fIx (e2 fIx (eV 2) (eV 6)) (e2 fIx (eV 3) (eV 5))) aNil))) [6]))) (chk := fun _ => True)
    (fun k ρ S' => S' = S ∧ ∃ x, ρ = [some (dT ws), some (dTT c), some (dTT t), some (dS ss), some (dL (jv c t ss ws k)), x, none]) (rangeD 0 ss.length) 0 [some (dT ws), some (dTT c), some (dTT t), some (dS ss), some (dL ws), none, none] S ⟨rfl, none, rfl⟩ fun k x ρ S1 hk ⟨e, x', eρ⟩ => by
      subst e eρ
      rw [Nat.zero_add]
      obtain ⟨hkm, rfl⟩ := range_at hk
      have lv := jv_in (ss := ss) h.lv h.c h.t h.m4 k
      have jl := h.jlen ss k
      refine ⟨_, _, [some (dT ws), some (dTT c), some (dTT t), some (dS ss), some (dL (jv c t ss ws (k + 1))), some (.int ((k : Nat) : Int)), none], S1, rfl, .inl ?_, trivial, rfl, _, rfl⟩
      have step : ∀ u : List Rat, Lv (1 + 2 * k + 1) (k + 1) u → u.length = m → sSet 4 (eLc fLst (iRange1 (eA fLen (aCons (eV 4) aNil))) (gNm 6) tYesD (eA F__law_times (aCons (e2 fIx (eV 4) (eV 6)) (aCons (e2 fIx (e2 fIx (eV 2) (eV 6)) (e2 fIx (eV 3) (eV 5))) aNil))) [6]) [some (dT ws), some (dTT c), some (dTT t), some (dS ss), some (dL u), some (.int ((k : Nat) : Int)), none] S1 = some (.nx [some (dT ws), some (dTT c), some (dTT t), some (dS ss), some (dL (seen t (ss.getD k 0) u)), some (.int ((k : Nat) : Int)), none] S1) := fun u hu hul =>
        sSet_ok ((eLc_ok (range1 (len_L (v := u) rfl) (by omega) (by omega)) (by rw [hul]; exact seen_ok hu h.t hul hkm hs (by omega) (by omega) _ _ S1)).trans (fLst_ok (by rw [List.length_map, seen_len]; omega)))
      have ej : jv c t ss ws (k + 1) = seen t (ss.getD k 0) (if k = 0 then ws else moved c (jv c t ss ws k)) := rfl
      rw [ej]
      by_cases hk0 : k = 0
      · subst hk0
        have st := step ws (h.lv.mono (by omega) (by omega)) h.ws.len
        refine (sSeq_nx (ρ1 := [some (dT ws), some (dTT c), some (dTT t), some (dS ss), some (dL ws), some (.int ((0 : Nat) : Int)), none]) (S1 := S1) ?_).trans st
        simp [jv]
      · have mv := F_mv lv h.c jl h.m4 (by omega) (by omega) S1
        have st := step (moved c (jv c t ss ws k)) (moved_in lv h.c h.m4) (by rw [moved_len, h.c.1])
        rw [if_neg hk0]
        refine (sSeq_nx (ρ1 := [some (dT ws), some (dTT c), some (dTT t), some (dS ss), some (dL (moved c (jv c t ss ws k))), some (.int ((k : Nat) : Int)), none]) (S1 := S1) ?_).trans st
        have hk1 : (0 : Int) < ((k : Nat) : Int) := by omega
        refine (sIf_t (S1 := S1) ?_).trans (sSet_ok ((eA_ok (aCons_ok rfl (aCons_ok rfl rfl))).trans mv))
        simp [hk1]
        omega
  unfold F__law_joint t__law_joint
  rw [range_len, Nat.zero_add] at h1
  have e1 : sSet 4 (eA fListF (aCons (eV 0) aNil)) [some (dT ws), some (dTT c), some (dTT t), some (dS ss), none, none, none] S' = some (.nx [some (dT ws), some (dTT c), some (dTT t), some (dS ss), some (dL ws), none, none] S') := by simp [dT, dL]
  have e2 := (sFor_ok (g := gNm 5) (b := sSeq (sIf (tBl (e2 (fCmp fun i j => decide (j < i)) (eV 5) (eC (.int 0)))) (sSet 4 (eA F__law_moved (aCons (eV 1) (aCons (eV 4) aNil)))) sPass)
    (sSet 4 (eLc fLst (iRange1 (eA fLen (aCons (eV 4) aNil))) (gNm 6) tYesD (eA F__law_times (aCons (e2 fIx (eV 4) (eV 6)) (aCons (e2 fIx (e2 fIx (eV 2) (eV 6)) (e2 fIx (eV 3) (eV 5))) aNil))) [6]))) (range1 (len_S (i := 3) (v := ss) (ρ := [some (dT ws), some (dTT c), some (dTT t), some (dS ss), some (dL ws), none, none]) (S := S') rfl) (by omega) (by omega))).trans h1
  have e3 : sRet (eV 4) [some (dT ws), some (dTT c), some (dTT t), some (dS ss), some (dL (jv c t ss ws ss.length)), x, none] S' = some (.rt (dL (jv c t ss ws ss.length)) S') := rfl
  have e4 := (sSeq_nx (b := sRet (eV 4)) e2).trans e3
  have e5 := (sSeq_nx e1).trans e4
  refine (fnD_rt (n := 4) (m := 7) (ds := [dT ws, dTT c, dTT t, dS ss]) rfl e5).trans (finP_self (clos_lst (closL_map (fun q => rfl) _)) rfl)
end LW

set_option maxRecDepth 100000
set_option maxHeartbeats 4000000
namespace LW
open PySem DL
open Classical
/-- what is due -/
noncomputable def due (ws : List Rat) (c t : List (List Rat)) (ss : List Nat) : D :=
  if ss = [] then .tup [dQ 1, dT ws] else if (jv c t ss ws ss.length).sum = 0 then .tup [dQ 0, .tup []] else
    .tup [dQ (jv c t ss ws ss.length).sum, dT ((jv c t ss ws ss.length).map fun q => q / (jv c t ss ws ss.length).sum)]
theorem dQ1 : dQ 1 = .tup [.int 1, .int 1] := rfl
theorem dQ0 : dQ 0 = .tup [.int 0, .int 1] := rfl
theorem Set.jsm {m n : Nat} {ws : List Rat} {c t : List (List Rat)} (h : Set m n ws c t) (ss : List Nat) {k : Nat} (hk : k ≤ 8) : Lv 17 8 (jv c t ss ws k) :=
  (jv_in (ss := ss) h.lv h.c h.t h.m4 k).mono (by omega) hk
theorem Set.jsum {m n : Nat} {ws : List Rat} {c t : List (List Rat)} (h : Set m n ws c t) (ss : List Nat) {k : Nat} (hk : k ≤ 8) : In (B0 ^ 17) (4 ^ 9) (jv c t ss ws k).sum := by
  have := sum_in (b0_pos 17) _ (h.jsm ss hk)
  refine this.mono (Nat.dvd_refl _) ?_
  rw [h.jlen ss k, Nat.pow_succ 4 8, Nat.mul_comm]
  exact Nat.mul_le_mul_left _ h.m4
theorem tot_jv {m n : Nat} {ws : List Rat} {c t : List (List Rat)} (h : Set m n ws c t) (ss : List Nat) {k : Nat} (hk : k ≤ 8) (S : Sto) : F__law_total [dL (jv c t ss ws k)] S = some (dQ (jv c t ss ws k).sum, S) :=
  F_tot (n := 600) (.inr rfl) (fun q hq => sm_of (h.jsm ss hk q hq) (by omega) (by omega)) (fun j => by
    have := take_in (b0_pos 17) (h.jsm ss hk) (by rw [h.jlen]; exact h.m4) j
    rw [Nat.mul_comm, ← Nat.pow_succ] at this
    exact sm_of this (by omega) (by omega)) (by omega) S
theorem frac_div {q s : Rat} (hs : 0 < s.num) (hq : Sm 600 q) (hs2 : Sm 600 s) (S : Sto) : F__law_fraction [.int (q.num * (s.den : Int)), .int ((q.den : Int) * s.num)] S = some (dQ (q / s), S) := by
  have px : (0 : Int) < (q.den : Int) := by have := den_pos q; omega
  have h := F_lf (a := q.num * s.den) (b := q.den * s.num) (Int.mul_pos px hs) (hq.den.mul hs2.num) ((hq.num.mul hs2.den).mono (by omega)) (by omega) S
  have e : ((q.num * s.den : Int) : Rat) / ((q.den * s.num : Int) : Rat) = q / s := by
    have a := mul_den q
    have b := mul_den s
    have c := den_ne q
    have d := den_ne s
    have s0 : s ≠ 0 := fun z => by rw [z] at hs; exact absurd hs (by decide)
    push_cast
    push_cast at a b c d
    rw [← a, ← b]
    grind
  rw [e] at h
  exact h
theorem ints_da : ∀ ss : List Nat, DaL 0 (ss.map fun s : Nat => D.int ((s : Nat) : Int)) (ss.map fun s : Nat => PyData.int ((s : Nat) : Int)) := DaL.map fun _ => .int
theorem F_du {m n : Nat} {ws : List Rat} {c t : List (List Rat)} {ss : List Nat} (h : Set m n ws c t) (hs : ∀ s ∈ ss, s < n) (hl : ss.length ≤ 8) (S : Sto) :
    F__law_due [dT ws, dTT c, dTT t, dS ss] S = some (due ws c t ss, S) := by
  have heq : fEq (dS ss) (.tup []) S = some (.bl (ss.map fun s : Nat => D.int ((s : Nat) : Int)).isEmpty) := fEq_tnil (ints_da ss)
  have e0 : eA fTup aNil [some (dT ws), some (dTT c), some (dTT t), some (dS ss), none, none, none] S = some (.tup [], S) := by simp
  have e1 : tBl (e2 fEq (eV 3) (eA fTup aNil)) [some (dT ws), some (dTT c), some (dTT t), some (dS ss), none, none, none] S = some (ss.isEmpty, S) := by
    have := e2_ok (a := eV 3) (b := eA fTup aNil) (f := fEq) (ρ := [some (dT ws), some (dTT c), some (dTT t), some (dS ss), none, none, none]) (S := S) rfl e0 heq
    unfold tBl
    rw [this]
    simp
  unfold F__law_due t__law_due
  by_cases hss : ss = []
  · subst hss
    have : sIf (tBl (e2 fEq (eV 3) (eA fTup aNil))) (sRet (eA fTup (aCons (eA fTup (aCons (eC (.int 1)) (aCons (eC (.int 1)) aNil))) (aCons (eV 0) aNil)))) sPass [some (dT ws), some (dTT c), some (dTT t), some (dS []), none, none, none] S = some (.rt (.tup [dQ 1, dT ws]) S) := by
      refine (sIf_t e1).trans (sRet_ok ?_)
      simp [dQ1]
    refine (fnD_rt (n := 4) (m := 7) (ds := [dT ws, dTT c, dTT t, dS []]) rfl (sSeq_rt this)).trans ?_
    unfold due
    rw [if_pos rfl]
    exact finP_self (clos_tup (closL_cons (clos_dQ _ _) (closL_cons (clos_dT _ _) closL_nil))) rfl
  · have hne : ss.isEmpty = false := by cases ss <;> simp_all
    rw [hne] at e1
    have jt := F_jt h hs hl S
    have tj := tot_jv h ss hl S
    generalize hJ : jv c t ss ws ss.length = J at jt tj
    have hsm := h.jsum ss hl
    have hlv := h.jsm ss hl
    rw [hJ] at hsm hlv
    have p1 : sIf (tBl (e2 fEq (eV 3) (eA fTup aNil))) (sRet (eA fTup (aCons (eA fTup (aCons (eC (.int 1)) (aCons (eC (.int 1)) aNil))) (aCons (eV 0) aNil)))) sPass [some (dT ws), some (dTT c), some (dTT t), some (dS ss), none, none, none] S = some (.nx [some (dT ws), some (dTT c), some (dTT t), some (dS ss), none, none, none] S) := sIf_f e1
    have p2 : sSet 4 (eA F__law_joint (aCons (eV 0) (aCons (eV 1) (aCons (eV 2) (aCons (eV 3) aNil))))) [some (dT ws), some (dTT c), some (dTT t), some (dS ss), none, none, none] S = some (.nx [some (dT ws), some (dTT c), some (dTT t), some (dS ss), some (dL J), none, none] S) :=
      sSet_ok ((eA_ok (aCons_ok rfl (aCons_ok rfl (aCons_ok rfl (aCons_ok rfl rfl))))).trans jt)
    have p3 : sSet 5 (eA F__law_total (aCons (eV 4) aNil)) [some (dT ws), some (dTT c), some (dTT t), some (dS ss), some (dL J), none, none] S = some (.nx [some (dT ws), some (dTT c), some (dTT t), some (dS ss), some (dL J), some (dQ J.sum), none] S) :=
      sSet_ok ((eA_ok (aCons_ok rfl rfl)).trans tj)
    have c4 : tBl (e2 fEq (e2 fIx (eV 5) (eC (.int 0))) (eC (.int 0))) [some (dT ws), some (dTT c), some (dTT t), some (dS ss), some (dL J), some (dQ J.sum), none] S = some (decide (J.sum.num = 0), S) := by simp [dQ]
    unfold due
    rw [if_neg hss, hJ]
    by_cases h0 : J.sum = 0
    · have hn : J.sum.num = 0 := Rat.num_eq_zero.mpr h0
      rw [hn] at c4
      have p4 : sIf (tBl (e2 fEq (e2 fIx (eV 5) (eC (.int 0))) (eC (.int 0)))) (sRet (eA fTup (aCons (eA fTup (aCons (eC (.int 0)) (aCons (eC (.int 1)) aNil))) (aCons (eA fTup aNil) aNil)))) sPass [some (dT ws), some (dTT c), some (dTT t), some (dS ss), some (dL J), some (dQ J.sum), none] S = some (.rt (.tup [dQ 0, .tup []]) S) := by
        refine (sIf_t c4).trans (sRet_ok ?_)
        simp [dQ0]
      rw [if_pos h0]
      exact (fnD_rt (n := 4) (m := 7) (ds := [dT ws, dTT c, dTT t, dS ss]) rfl ((sSeq_nx p1).trans ((sSeq_nx p2).trans ((sSeq_nx p3).trans (sSeq_rt p4))))).trans (finP_self (clos_tup (closL_cons (clos_dQ _ _) (closL_cons (clos_tup closL_nil) closL_nil))) rfl)
    · have hn : J.sum.num ≠ 0 := fun z => h0 (Rat.num_eq_zero.mp z)
      have hp : 0 < J.sum.num := by
        have := (hsm.num (b0_pos 17)).1
        omega
      rw [decide_eq_false hn] at c4
      rw [if_neg h0]
      have p4 : sIf (tBl (e2 fEq (e2 fIx (eV 5) (eC (.int 0))) (eC (.int 0)))) (sRet (eA fTup (aCons (eA fTup (aCons (eC (.int 0)) (aCons (eC (.int 1)) aNil))) (aCons (eA fTup aNil) aNil)))) sPass [some (dT ws), some (dTT c), some (dTT t), some (dS ss), some (dL J), some (dQ J.sum), none] S = some (.nx [some (dT ws), some (dTT c), some (dTT t), some (dS ss), some (dL J), some (dQ J.sum), none] S) := sIf_f c4
      have ss600 := sm_of hsm (by omega) (by omega)
      have inner := compL_map (i := 6) (e := eA F__law_fraction (aCons (e2s (fTimes fLst) (e2 fIx (eV 6) (eC (.int 0))) (e2 fIx (eV 5) (eC (.int 1)))) (aCons (e2s (fTimes fLst) (e2 fIx (eV 6) (eC (.int 1))) (e2 fIx (eV 5) (eC (.int 0)))) aNil))) (chk := fun _ => True) (ρ := [some (dT ws), some (dTT c), some (dTT t), some (dS ss), some (dL J), some (dQ J.sum), none]) (S := S) trivial
        dQ (fun q => dQ (q / J.sum)) J fun q hq => by
          have hq6 := sm_of (hlv q hq) (by omega) (by omega)
          have m1 := mul_ok hq6.num ss600.den (by omega)
          have m2 := mul_ok hq6.den ss600.num (by omega)
          have f := frac_div hp hq6 ss600 S
          simp [dQ, m1, m2] at f ⊢
          exact f
      have p5 : sRet (eA fTup (aCons (eV 5) (aCons (eA fTupOf (aCons (eLc fLst (iSeq (eV 4)) (gNm 6) tYesD (eA F__law_fraction (aCons (e2s (fTimes fLst) (e2 fIx (eV 6) (eC (.int 0))) (e2 fIx (eV 5) (eC (.int 1)))) (aCons (e2s (fTimes fLst) (e2 fIx (eV 6) (eC (.int 1))) (e2 fIx (eV 5) (eC (.int 0)))) aNil))) [6]) aNil)) aNil))) [some (dT ws), some (dTT c), some (dTT t), some (dS ss), some (dL J), some (dQ J.sum), none] S = some (.rt (.tup [dQ J.sum, dT (J.map fun q => q / J.sum)]) S) := by
        refine sRet_ok ((eA_ok (aCons_ok rfl (aCons_ok ((eA_ok (aCons_ok ((eLc_ok (ds := J.map dQ) (chk := fun _ => True) (S1 := S) rfl inner).trans (fLst_ok ?_)) rfl)).trans rfl) rfl))).trans ?_)
        · rw [List.length_map, ← hJ, h.jlen]; have := h.m4; omega
        · rw [fTup_ok (by simp)]
          unfold dT
          rw [List.map_map]
          rfl
      exact (fnD_rt (n := 4) (m := 7) (ds := [dT ws, dTT c, dTT t, dS ss]) rfl ((sSeq_nx p1).trans ((sSeq_nx p2).trans ((sSeq_nx p3).trans ((sSeq_nx p4).trans p5))))).trans (finP_self (clos_tup (closL_cons (clos_dQ _ _) (closL_cons (clos_dT _ _) closL_nil))) rfl)
end LW

set_option maxRecDepth 100000
set_option maxHeartbeats 4000000
namespace LW
open PySem DL
open Classical
/-- whole numbers that are a vector times b -/
def Rz (b : Int) (v : List Rat) (zs : List Int) : Prop := zs.length = v.length ∧ ∀ w, ((zs.getD w 0 : Int) : Rat) = v.getD w 0 * (b : Rat)
theorem wh_cast {b : Nat} {q : Rat} (h : q.den ∣ b) : ((wh (b : Int) q : Int) : Rat) = q * ((b : Int) : Rat) := by
  obtain ⟨k, rfl⟩ := h
  unfold wh
  have pd := den_pos q
  have e : (((q.den * k : Nat) : Int)) / (q.den : Int) = (k : Int) := by
    push_cast
    exact Int.mul_ediv_cancel_left _ (by omega)
  rw [e]
  have h := mul_den q
  push_cast at h ⊢
  grind
theorem getD_map {α β : Type} (f : α → β) (xs : List α) (k : Nat) (a : α) : (xs.map f).getD k (f a) = f (xs.getD k a) := by
  simp [List.getD_eq_getElem?_getD]
theorem wh0 (b : Int) : wh b 0 = 0 := by unfold wh; simp
theorem getD_mem_or {α : Type} (xs : List α) (k : Nat) (a : α) : xs.getD k a = a ∨ xs.getD k a ∈ xs := by
  by_cases hk : k < xs.length
  · right
    rw [List.getD_eq_getElem?_getD, List.getElem?_eq_getElem hk]
    exact List.getElem_mem hk
  · left
    rw [List.getD_eq_getElem?_getD, List.getElem?_eq_none (Nat.not_lt.mp hk)]
    rfl
theorem rz_wh {b : Nat} {v : List Rat} (h : ∀ q ∈ v, q.den ∣ b) : Rz b v (v.map (wh b)) := by
  refine ⟨by simp, fun w => ?_⟩
  have := getD_map (wh (b : Int)) v w 0
  rw [wh0] at this
  rw [this]
  rcases getD_mem_or v w 0 with e | e
  · rw [e, wh0]; simp [Rat.zero_mul]
  · exact wh_cast (h _ e)
/-- a pair list by places -/
theorem pairs_range (zs : List Int) (rs : List (List Int)) (m : Nat) (h1 : zs.length = m) (h2 : rs.length = m) :
    pairsZ (zs.map D.int) (rs.map fun r => D.tup (r.map D.int)) = (List.range m).map fun w => .tup [.int (zs.getD w 0), .tup ((rs.getD w []).map D.int)] := by
  unfold pairsZ
  apply List.ext_getElem
  · simp [h1, h2]
  · intro i g1 g2
    have i1 : i < zs.length := by simp at g1; omega
    have i2 : i < rs.length := by simp at g1; omega
    simp [List.getD_eq_getElem?_getD, i1, i2]
theorem sum_cast : ∀ {α : Type} (xs : List α) (f : α → Int), (((xs.map f).sum : Int) : Rat) = (xs.map fun x => ((f x : Int) : Rat)).sum
  | _, [], _ => rfl
  | _, x :: xs, f => by
    have ih := sum_cast xs f
    simp only [List.map_cons, List.sum_cons]
    push_cast
    rw [ih]
theorem sum_mulr : ∀ {α : Type} (xs : List α) (f : α → Rat) (b : Rat), (xs.map fun x => f x * b).sum = (xs.map f).sum * b
  | _, [], f, b => by simp [Rat.zero_mul]
  | _, x :: xs, f, b => by
    have ih := sum_mulr xs f b
    simp only [List.map_cons, List.sum_cons, ih]
    grind
theorem sum_zs {b : Int} {v : List Rat} {zs : List Int} (h : Rz b v zs) : ((zs.sum : Int) : Rat) = v.sum * (b : Rat) := by
  have e : ∀ {α : Type} (a : α) (xs : List α), xs = (List.range xs.length).map fun w => xs.getD w a := fun a xs => by
    apply List.ext_getElem
    · simp
    · intro i g1 g2
      simp [List.getD_eq_getElem?_getD, g1]
  have e1 := e 0 zs
  have e2 := e 0 v
  rw [e1, e2, sum_cast, ← sum_mulr, h.1]
  congr 1
  apply List.map_congr_left
  intro w _
  simpa using h.2 w
/-- bits -/
theorem z_bt {a b : Nat} {q : Rat} {y : Nat} {z : Int} (h : In (B0 ^ a) (4 ^ b) q) (hy : y ≤ B0 ^ 17) (ha : a ≤ 20) (hb : b ≤ 19) (hz : (z : Rat) = q * ((y : Int) : Rat)) : Bt 600 z := by
  have h0 : (0 : Rat) ≤ (z : Rat) := by
    rw [hz]
    exact Rat.mul_nonneg h.nn (by exact_mod_cast Nat.zero_le y)
  have h1 : (z : Rat) ≤ (((4 ^ b * B0 ^ 17 : Nat) : Int) : Rat) := by
    rw [hz]
    have a1 := Rat.mul_le_mul_of_nonneg_right h.le (show (0 : Rat) ≤ ((y : Int) : Rat) by exact_mod_cast Nat.zero_le y)
    have a2 := Rat.mul_le_mul_of_nonneg_left (show ((y : Int) : Rat) ≤ (((B0 ^ 17 : Nat) : Int) : Rat) by exact_mod_cast hy) (show (0 : Rat) ≤ ((4 ^ b : Nat) : Rat) by exact_mod_cast Nat.zero_le _)
    refine Rat.le_trans a1 (Rat.le_trans a2 ?_)
    push_cast
    exact Rat.le_refl
  have z0 : 0 ≤ z := by exact_mod_cast h0
  have z1 : z ≤ ((4 ^ b * B0 ^ 17 : Nat) : Int) := by exact_mod_cast h1
  have hlt : 4 ^ b * B0 ^ 17 < 2 ^ 600 := by
    have e : 4 ^ b = 2 ^ (2 * b) := by rw [Nat.pow_mul]
    have h2 := b0_lt 17
    have h3 : 4 ^ b * B0 ^ 17 ≤ 2 ^ (2 * b) * 2 ^ (28 * 17) := by rw [e]; exact Nat.mul_le_mul_left _ h2
    rw [← Nat.pow_add] at h3
    exact Nat.lt_of_le_of_lt h3 (Nat.pow_lt_pow_right (by omega) (by omega))
  unfold Bt
  omega
/-- the moved whole numbers -/
def chz (zs : List Int) (mv : List (List Int)) (m : Nat) : List Int := (List.range m).map fun k => ((List.range m).map fun w => zs.getD w 0 * (mv.getD w []).getD k 0).sum
def hez (zs : List Int) (ch : List (List Int)) (m s : Nat) : List Int := (List.range m).map fun w => zs.getD w 0 * (ch.getD w []).getD s 0
theorem F_ch {d : D} {zs : List Int} {mv : List (List Int)} {m : Nat} (hd : IsSeq d (zs.map D.int)) (h1 : zs.length = m) (h2 : mv.length = m) (h3 : ∀ r ∈ mv, r.length = m) (hm : m ≤ 4) (hz : ∀ w, Bt 600 (zs.getD w 0)) (hr : ∀ w k, Bt 600 ((mv.getD w []).getD k 0)) (S : Sto) :
    F__changed [d, .tup (mv.map fun r => .tup (r.map D.int))] S = some (.lst ((chz zs mv m).map D.int), S) := by
  have inner : ∀ k : Nat, k < m → compL (gTp 2 (gsCons (gNm 3) (gsCons (gNm 4) gsNil))) tYesD (e2s (fTimes fLst) (eV 3) (e2 fIx (eV 4) (eV 2))) (fun S => True ∧ True) [some d, some (.tup (mv.map fun r => .tup (r.map D.int))), some (.int ((k : Nat) : Int)), none, none] (pairsZ (zs.map D.int) (mv.map fun r => .tup (r.map D.int))) S = some (((List.range m).map fun w => zs.getD w 0 * (mv.getD w []).getD k 0).map D.int, S) := fun k hk => by
    rw [pairs_range zs mv m h1 h2, List.map_map]
    refine compL_map2 (i := 3) (j := 4) ⟨trivial, trivial⟩ (fun w => D.int (zs.getD w 0)) (fun w => D.tup ((mv.getD w []).map D.int)) (fun w => D.int (zs.getD w 0 * (mv.getD w []).getD k 0)) (List.range m) fun w hw => ?_
    have hw := List.mem_range.mp hw
    have hl : (mv.getD w []).length = m := by
      rcases getD_mem_or mv w [] with e | e
      · have : mv.getD w [] = mv[w] := by rw [List.getD_eq_getElem?_getD, List.getElem?_eq_getElem (by omega)]; rfl
        rw [this]
        exact h3 _ (List.getElem_mem _)
      · exact h3 _ e
    have at1 := at_map D.int (mv.getD w []) k 0 (by omega)
    have mu := mul_ok (hz w) (hr w k) (by omega)
    generalize zs.getD w 0 = z at mu ⊢
    generalize hx : (mv.getD w []).getD k 0 = x at mu at1 ⊢
    generalize (mv.getD w []).map D.int = row at at1 ⊢
    simp [at1, mu]
  have e0 : ∀ x, iZip (aCons (eV 0) (aCons (eV 1) aNil)) [some d, some (.tup (mv.map fun r => .tup (r.map D.int))), x, none, none] S = some (pairsZ (zs.map D.int) (mv.map fun r => .tup (r.map D.int)), fun S => True ∧ True, S) := fun x => by
    rcases hd with e | e <;> subst e <;> rfl
  have outer := compL_map (i := 2) (e := eA fSum (aCons (eLc fLst (iZip (aCons (eV 0) (aCons (eV 1) aNil))) (gTp 2 (gsCons (gNm 3) (gsCons (gNm 4) gsNil))) tYesD (e2s (fTimes fLst) (eV 3) (e2 fIx (eV 4) (eV 2))) [3, 4]) aNil)) (chk := fun _ => True) (ρ := [some d, some (.tup (mv.map fun r => .tup (r.map D.int))), none, none, none]) (S := S) trivial
    (fun i : Nat => D.int ((i : Nat) : Int)) (fun k => D.int ((List.range m).map fun w => zs.getD w 0 * (mv.getD w []).getD k 0).sum) (List.range m) fun k hk => by
      have hk := List.mem_range.mp hk
      refine (eA_ok (aCons_ok ((eLc_ok (e0 _) (inner k hk)).trans (fLst_ok (by simp; omega))) rfl)).trans ?_
      simp only [fSum, seqD, intsD_map]
  unfold F__changed
  have e1 : eA fLen (aCons (eV 1) aNil) [some d, some (.tup (mv.map fun r => .tup (r.map D.int))), none, none, none] S = some (.int ((m : Nat) : Int), S) := by
    refine (eA_ok (aCons_ok rfl rfl)).trans ?_
    simp [h2]
  have e : ((m : Nat) : Int).toNat = m := by omega
  have e2 := range1 e1 (by omega) (by omega)
  rw [e, rangeD0] at e2
  have e3 := (eLc_ok (mk := fLst) (vs := [2]) e2 outer).trans (fLst_ok (by simp; omega))
  have e4 := sRet_ok e3
  have e5 : t__changed (startD 5 [d, D.tup (mv.map fun r => .tup (r.map D.int))]) S = some (.rt (.lst (List.map (fun k => D.int ((List.range m).map fun w => zs.getD w 0 * (mv.getD w []).getD k 0).sum) (List.range m))) S) := by
    unfold t__changed
    exact e4
  unfold chz
  rw [List.map_map]
  unfold fnD
  rw [if_pos (by simp), e5]
  exact finP_self (clos_lst (closL_map (fun k => rfl) _)) rfl
theorem F_he {d : D} {zs : List Int} {ch : List (List Int)} {m n s : Nat} (hd : IsSeq d (zs.map D.int)) (h1 : zs.length = m) (h2 : ch.length = m) (h3 : ∀ r ∈ ch, r.length = n) (hs : s < n) (hm : m ≤ 4) (hz : ∀ w, Bt 600 (zs.getD w 0)) (hr : ∀ w k, Bt 600 ((ch.getD w []).getD k 0)) (S : Sto) :
    F__heard [d, .tup (ch.map fun r => .tup (r.map D.int)), .int ((s : Nat) : Int)] S = some (.lst ((hez zs ch m s).map D.int), S) := by
  have inner : compL (gTp 2 (gsCons (gNm 3) (gsCons (gNm 4) gsNil))) tYesD (e2s (fTimes fLst) (eV 3) (e2 fIx (eV 4) (eV 2))) (fun S => True ∧ True) [some d, some (.tup (ch.map fun r => .tup (r.map D.int))), some (.int ((s : Nat) : Int)), none, none] (pairsZ (zs.map D.int) (ch.map fun r => .tup (r.map D.int))) S = some ((hez zs ch m s).map D.int, S) := by
    rw [pairs_range zs ch m h1 h2]
    unfold hez
    rw [List.map_map]
    refine compL_map2 (i := 3) (j := 4) ⟨trivial, trivial⟩ (fun w => D.int (zs.getD w 0)) (fun w => D.tup ((ch.getD w []).map D.int)) (fun w => D.int (zs.getD w 0 * (ch.getD w []).getD s 0)) (List.range m) fun w hw => ?_
    have hw := List.mem_range.mp hw
    have hl : (ch.getD w []).length = n := by
      rcases getD_mem_or ch w [] with e | e
      · have : ch.getD w [] = ch[w] := by rw [List.getD_eq_getElem?_getD, List.getElem?_eq_getElem (by omega)]; rfl
        rw [this]
        exact h3 _ (List.getElem_mem _)
      · exact h3 _ e
    have at1 := at_map D.int (ch.getD w []) s 0 (by omega)
    have mu := mul_ok (hz w) (hr w s) (by omega)
    generalize zs.getD w 0 = z at mu ⊢
    generalize hx : (ch.getD w []).getD s 0 = x at mu at1 ⊢
    generalize (ch.getD w []).map D.int = row at at1 ⊢
    simp [at1, mu]
  have e0 : iZip (aCons (eV 0) (aCons (eV 1) aNil)) [some d, some (.tup (ch.map fun r => .tup (r.map D.int))), some (.int ((s : Nat) : Int)), none, none] S = some (pairsZ (zs.map D.int) (ch.map fun r => .tup (r.map D.int)), fun S => True ∧ True, S) := by
    rcases hd with e | e <;> subst e <;> rfl
  unfold F__heard t__heard
  have e3 := (eLc_ok (mk := fLst) (vs := [3, 4]) e0 inner).trans (fLst_ok (by simp [hez]; omega))
  have e4 := fnD_rt (n := 3) (m := 5) (fin := finP) (ds := [d, .tup (ch.map fun r => .tup (r.map D.int)), .int ((s : Nat) : Int)]) rfl (sRet_ok e3)
  exact e4.trans (finP_self (clos_lst (closL_map (fun k => rfl) _)) rfl)
end LW

set_option maxRecDepth 100000
set_option maxHeartbeats 4000000
namespace LW
open PySem DL
open Classical
theorem getD_range {α : Type} (f : Nat → α) (m k : Nat) (a : α) : ((List.range m).map f).getD k a = if k < m then f k else a := by
  by_cases h : k < m
  · rw [if_pos h, List.getD_eq_getElem?_getD, List.getElem?_eq_getElem (by simpa using h)]
    simp
  · rw [if_neg h, List.getD_eq_getElem?_getD, List.getElem?_eq_none (by simpa using Nat.not_lt.mp h)]
    rfl
/-- a table of whole numbers that is c times u -/
structure Rt (u : Int) (c : List (List Rat)) (mv : List (List Int)) : Prop where
  len : mv.length = c.length
  at_ : ∀ w k, (((mv.getD w []).getD k 0 : Int) : Rat) = (c.getD w []).getD k 0 * (u : Rat)
theorem rt_wh {u : Nat} {c : List (List Rat)} (h : ∀ r ∈ c, ∀ q ∈ r, q.den ∣ u) : Rt u c (c.map fun r => r.map (wh u)) := by
  refine ⟨by simp, fun w k => ?_⟩
  have e := getD_map (fun r : List Rat => r.map (wh u)) c w []
  rw [List.map_nil] at e
  rw [e]
  have e2 := getD_map (wh (u : Int)) (c.getD w []) k 0
  rw [wh0] at e2
  rw [e2]
  rcases getD_mem_or c w [] with e | e
  · rw [e]
    simp [wh0, Rat.zero_mul]
  · rcases getD_mem_or (c.getD w []) k 0 with e3 | e3
    · rw [e3, wh0]; simp [Rat.zero_mul]
    · exact wh_cast (h _ e _ e3)
theorem rz_ch {b u : Int} {v : List Rat} {zs : List Int} {c : List (List Rat)} {mv : List (List Int)} {m : Nat} (h : Rz b v zs) (ht : Rt u c mv) (hc : c.length = m) : Rz (b * u) (moved c v) (chz zs mv m) := by
  refine ⟨by simp [chz, moved, hc], fun k => ?_⟩
  unfold chz moved
  rw [getD_range, getD_range, hc]
  split
  · rw [sum_cast]
    unfold dots
    rw [hc, ← sum_mulr]
    congr 1
    apply List.map_congr_left
    intro w _
    have a := h.2 w
    have d := ht.at_ w k
    push_cast
    rw [a, d]
    grind
  · simp [Rat.zero_mul]
theorem rz_he {b u : Int} {v : List Rat} {zs : List Int} {c : List (List Rat)} {mv : List (List Int)} {m s : Nat} (h : Rz b v zs) (ht : Rt u c mv) (hv : v.length = m) : Rz (b * u) (seen c s v) (hez zs mv m s) := by
  refine ⟨by simp [hez, seen, hv], fun w => ?_⟩
  unfold hez seen
  rw [getD_range, getD_range, hv]
  split
  · have a := h.2 w
    have d := ht.at_ w s
    push_cast
    rw [a, d]
    grind
  · simp [Rat.zero_mul]
theorem rz_bt {a b y : Nat} {v : List Rat} {zs : List Int} (h : Rz y v zs) (hv : Lv a b v) (hy : y ≤ B0 ^ 17) (ha : a ≤ 20) (hb : b ≤ 19) (w : Nat) : Bt 600 (zs.getD w 0) := z_bt (getD_in hv w) hy ha hb (h.2 w)
theorem rt_bt {u n m : Nat} {c : List (List Rat)} {mv : List (List Int)} (h : Rt u c mv) (hc : Tb1 n m c) (hu : u ≤ B0 ^ 17) (w k : Nat) : Bt 600 ((mv.getD w []).getD k 0) :=
  z_bt (a := 1) (b := 0) (by simpa using hc.at w k) hu (by omega) (by omega) (h.at_ w k)
theorem b0_le {x y : Nat} (h : x ≤ y) : B0 ^ x ≤ B0 ^ y := Nat.pow_le_pow_right (by decide) h
theorem b17 (a : Nat) (h : a ≤ 17) {b : Nat} (hb : b ≤ B0 ^ a) : Bt 600 ((b : Nat) : Int) :=
  Bt.of_nat (Nat.lt_of_le_of_lt (Nat.le_trans hb (Nat.le_trans (b0_le h) (b0_lt 17))) (Nat.pow_lt_pow_right (by omega) (by omega)))
theorem tbl_dvd {n m : Nat} {c : List (List Rat)} (hc : Tb1 n m c) : lcmD c.flatten ∣ B0 := lcmD_dvd fun q h => by
  obtain ⟨r, h1, h2⟩ := List.mem_flatten.mp h
  exact ((hc.2 r h1).row.q q h2).den
theorem ro_tbl {n m : Nat} {c : List (List Rat)} (hc : Tb1 n m c) (hm : m ≤ 4) (hn : n ≤ 4) (S : Sto) :
    F_rows_over [dTT c] S = some (.tup [.int (lcmD c.flatten : Nat), .tup ((c.map fun r => r.map (wh (lcmD c.flatten : Nat))).map fun r => .tup (r.map D.int))], S) := by
  have h := F_ro (rows := c) (B := B0) (n := 600) (by decide) (fun r hr q hq => ⟨((hc.2 r hr).row.q q hq).den, (sm1 ((hc.2 r hr).row.q q hq)).num⟩) (Nat.lt_of_lt_of_le (show B0 < 2 ^ 28 by decide) (Nat.pow_le_pow_right (by omega) (by omega))) (by omega) (by rw [hc.1]; omega) (fun r hr => by rw [(hc.2 r hr).len]; omega) S
  have e : (c.map fun r => r.map (wh (lcmD c.flatten : Nat))).map (fun r => D.tup (r.map D.int)) = c.map fun r => D.tup (r.map fun q => D.int (wh (lcmD c.flatten : Nat) q)) := by
    rw [List.map_map]
    apply List.map_congr_left
    intro r _
    simp
  rw [e]
  exact h
/-- the body of the loop -/
theorem aft_step {m n k : Nat} {ws : List Rat} {c t : List (List Rat)} {ss : List Nat} (h : Set m n ws c t) (hs : ∀ s ∈ ss, s < n) (hl : ss.length ≤ 8) (hk : k < ss.length) {b u l : Nat} {zs : List Int} {dz : D} {mv ch : List (List Int)}
    (hu : Rt u c mv) (ht : Rt l t ch) (hmv : ∀ r ∈ mv, r.length = m) (hch : ∀ r ∈ ch, r.length = n) (u1 : u ≤ B0) (l1 : l ≤ B0) (u0 : 0 < u) (l0 : 0 < l) (hz : Rz b (jv c t ss ws k) zs) (hd : IsSeq dz (zs.map D.int)) (b0 : 0 < b) (b1 : b ≤ B0 ^ (1 + 2 * k)) (x0 x1 x2 x3 x12 x13 : Option D) (S : Sto) :
    ∃ (b' : Nat) (zs' : List Int) (dz' : D), 0 < b' ∧ b' ≤ B0 ^ (1 + 2 * (k + 1)) ∧ Rz b' (jv c t ss ws (k + 1)) zs' ∧ IsSeq dz' (zs'.map D.int) ∧
      sSeq (sIf (tTru (eV 10)) (sSeq (sSet 5 (eA F__changed (aCons (eV 5) (aCons (eV 7) aNil)))) (sAug 4 fMul (eV 6))) sPass) (sSeq (sSet 5 (eA F__heard (aCons (eV 5) (aCons (eV 9) (aCons (eV 11) aNil))))) (sAug 4 fMul (eV 8)))
        [x0, x1, x2, x3, some (.int ((b : Nat) : Int)), some dz, some (.int ((u : Nat) : Int)), some (.tup (mv.map fun r => .tup (r.map D.int))), some (.int ((l : Nat) : Int)), some (.tup (ch.map fun r => .tup (r.map D.int))), some (.int ((k : Nat) : Int)), some (.int ((ss.getD k 0 : Nat) : Int)), x12, x13] S
      = some (.nx [x0, x1, x2, x3, some (.int ((b' : Nat) : Int)), some dz', some (.int ((u : Nat) : Int)), some (.tup (mv.map fun r => .tup (r.map D.int))), some (.int ((l : Nat) : Int)), some (.tup (ch.map fun r => .tup (r.map D.int))), some (.int ((k : Nat) : Int)), some (.int ((ss.getD k 0 : Nat) : Int)), x12, x13] S) := by
  have m4 := h.m4
  have hcl := h.c.1
  have htl := h.t.1
  have hsk : ss.getD k 0 < n := by
    rw [List.getD_eq_getElem?_getD, List.getElem?_eq_getElem hk]
    exact hs _ (List.getElem_mem hk)
  have lv := jv_in (ss := ss) h.lv h.c h.t h.m4 k
  have jl := h.jlen ss k
  have u17 : u ≤ B0 ^ 17 := Nat.le_trans u1 (by have := b0_le (show 1 ≤ 17 by omega); rwa [Nat.pow_one] at this)
  have l17 : l ≤ B0 ^ 17 := Nat.le_trans l1 (by have := b0_le (show 1 ≤ 17 by omega); rwa [Nat.pow_one] at this)
  have ej : jv c t ss ws (k + 1) = seen t (ss.getD k 0) (if k = 0 then ws else moved c (jv c t ss ws k)) := rfl
  -- the second half, from any vector
  have half : ∀ (b : Nat) (v : List Rat) (zs : List Int) (dz : D), Rz b v zs → Lv (2 + 2 * k) (k + 1) v → v.length = m → IsSeq dz (zs.map D.int) → b ≤ B0 ^ (2 + 2 * k) →
      sSeq (sSet 5 (eA F__heard (aCons (eV 5) (aCons (eV 9) (aCons (eV 11) aNil))))) (sAug 4 fMul (eV 8)) [x0, x1, x2, x3, some (.int ((b : Nat) : Int)), some dz, some (.int ((u : Nat) : Int)), some (.tup (mv.map fun r => .tup (r.map D.int))), some (.int ((l : Nat) : Int)), some (.tup (ch.map fun r => .tup (r.map D.int))), some (.int ((k : Nat) : Int)), some (.int ((ss.getD k 0 : Nat) : Int)), x12, x13] S
      = some (.nx [x0, x1, x2, x3, some (.int ((b * l : Nat) : Int)), some (.lst ((hez zs ch m (ss.getD k 0)).map D.int)), some (.int ((u : Nat) : Int)), some (.tup (mv.map fun r => .tup (r.map D.int))), some (.int ((l : Nat) : Int)), some (.tup (ch.map fun r => .tup (r.map D.int))), some (.int ((k : Nat) : Int)), some (.int ((ss.getD k 0 : Nat) : Int)), x12, x13] S) := fun b v zs dz hz hlv hvl hd hb => by
    have bb : b ≤ B0 ^ 17 := Nat.le_trans hb (b0_le (by omega))
    have he := F_he (s := ss.getD k 0) (n := n) hd (by rw [hz.1, hvl]) (by rw [ht.len, htl]) hch hsk m4 (rz_bt hz hlv bb (by omega) (by omega)) (rt_bt ht h.t l17) S
    have mu := mul_ok (b17 17 (Nat.le_refl _) bb) (b17 17 (Nat.le_refl _) l17) (by omega)
    have e1 : sSet 5 (eA F__heard (aCons (eV 5) (aCons (eV 9) (aCons (eV 11) aNil)))) [x0, x1, x2, x3, some (.int ((b : Nat) : Int)), some dz, some (.int ((u : Nat) : Int)), some (.tup (mv.map fun r => .tup (r.map D.int))), some (.int ((l : Nat) : Int)), some (.tup (ch.map fun r => .tup (r.map D.int))), some (.int ((k : Nat) : Int)), some (.int ((ss.getD k 0 : Nat) : Int)), x12, x13] S = some (.nx [x0, x1, x2, x3, some (.int ((b : Nat) : Int)), some (.lst ((hez zs ch m (ss.getD k 0)).map D.int)), some (.int ((u : Nat) : Int)), some (.tup (mv.map fun r => .tup (r.map D.int))), some (.int ((l : Nat) : Int)), some (.tup (ch.map fun r => .tup (r.map D.int))), some (.int ((k : Nat) : Int)), some (.int ((ss.getD k 0 : Nat) : Int)), x12, x13] S) :=
      sSet_ok ((eA_ok (aCons_ok rfl (aCons_ok rfl (aCons_ok rfl rfl)))).trans he)
    refine (sSeq_nx e1).trans ?_
    simp [fMul, mu]
  by_cases hk0 : k = 0
  · subst hk0
    have e1 : sIf (tTru (eV 10)) (sSeq (sSet 5 (eA F__changed (aCons (eV 5) (aCons (eV 7) aNil)))) (sAug 4 fMul (eV 6))) sPass [x0, x1, x2, x3, some (.int ((b : Nat) : Int)), some dz, some (.int ((u : Nat) : Int)), some (.tup (mv.map fun r => .tup (r.map D.int))), some (.int ((l : Nat) : Int)), some (.tup (ch.map fun r => .tup (r.map D.int))), some (.int ((0 : Nat) : Int)), some (.int ((ss.getD 0 0 : Nat) : Int)), x12, x13] S = some (.nx [x0, x1, x2, x3, some (.int ((b : Nat) : Int)), some dz, some (.int ((u : Nat) : Int)), some (.tup (mv.map fun r => .tup (r.map D.int))), some (.int ((l : Nat) : Int)), some (.tup (ch.map fun r => .tup (r.map D.int))), some (.int ((0 : Nat) : Int)), some (.int ((ss.getD 0 0 : Nat) : Int)), x12, x13] S) := by simp
    have hf := half b ws zs dz hz (h.lv.mono (by omega) (by omega)) h.ws.len hd (Nat.le_trans b1 (b0_le (by omega)))
    refine ⟨b * l, hez zs ch m (ss.getD 0 0), _, Nat.mul_pos b0 l0, ?_, ?_, .inr rfl, (sSeq_nx e1).trans hf⟩
    · have := Nat.mul_le_mul b1 l1
      refine Nat.le_trans this ?_
      rw [← Nat.pow_succ]
      exact b0_le (by omega)
    · rw [ej, if_pos rfl]
      have := rz_he (m := m) (s := ss.getD 0 0) hz ht h.ws.len
      rw [← Int.natCast_mul] at this
      exact this
  · have bb : b ≤ B0 ^ 17 := Nat.le_trans b1 (b0_le (by omega))
    have hc := F_ch hd (by rw [hz.1, jl]) (by rw [hu.len, hcl]) hmv m4 (rz_bt hz lv bb (by omega) (by omega)) (rt_bt hu h.c u17) S
    have mu := mul_ok (b17 17 (Nat.le_refl _) bb) (b17 17 (Nat.le_refl _) u17) (by omega)
    have hz2 := rz_ch (m := m) hz hu hcl
    rw [← Int.natCast_mul] at hz2
    have bu : b * u ≤ B0 ^ (2 + 2 * k) := by
      refine Nat.le_trans (Nat.mul_le_mul b1 u1) ?_
      rw [← Nat.pow_succ]
      exact b0_le (by omega)
    have e0 : sSet 5 (eA F__changed (aCons (eV 5) (aCons (eV 7) aNil))) [x0, x1, x2, x3, some (.int ((b : Nat) : Int)), some dz, some (.int ((u : Nat) : Int)), some (.tup (mv.map fun r => .tup (r.map D.int))), some (.int ((l : Nat) : Int)), some (.tup (ch.map fun r => .tup (r.map D.int))), some (.int ((k : Nat) : Int)), some (.int ((ss.getD k 0 : Nat) : Int)), x12, x13] S = some (.nx [x0, x1, x2, x3, some (.int ((b : Nat) : Int)), some (.lst ((chz zs mv m).map D.int)), some (.int ((u : Nat) : Int)), some (.tup (mv.map fun r => .tup (r.map D.int))), some (.int ((l : Nat) : Int)), some (.tup (ch.map fun r => .tup (r.map D.int))), some (.int ((k : Nat) : Int)), some (.int ((ss.getD k 0 : Nat) : Int)), x12, x13] S) :=
      sSet_ok ((eA_ok (aCons_ok rfl (aCons_ok rfl rfl))).trans hc)
    have e1 : sIf (tTru (eV 10)) (sSeq (sSet 5 (eA F__changed (aCons (eV 5) (aCons (eV 7) aNil)))) (sAug 4 fMul (eV 6))) sPass [x0, x1, x2, x3, some (.int ((b : Nat) : Int)), some dz, some (.int ((u : Nat) : Int)), some (.tup (mv.map fun r => .tup (r.map D.int))), some (.int ((l : Nat) : Int)), some (.tup (ch.map fun r => .tup (r.map D.int))), some (.int ((k : Nat) : Int)), some (.int ((ss.getD k 0 : Nat) : Int)), x12, x13] S = some (.nx [x0, x1, x2, x3, some (.int ((b * u : Nat) : Int)), some (.lst ((chz zs mv m).map D.int)), some (.int ((u : Nat) : Int)), some (.tup (mv.map fun r => .tup (r.map D.int))), some (.int ((l : Nat) : Int)), some (.tup (ch.map fun r => .tup (r.map D.int))), some (.int ((k : Nat) : Int)), some (.int ((ss.getD k 0 : Nat) : Int)), x12, x13] S) := by
      refine (sIf_t (S1 := S) ?_).trans ((sSeq_nx e0).trans ?_)
      · simp [hk0]
      · simp [fMul, mu]
    have hf := half (b * u) (moved c (jv c t ss ws k)) (chz zs mv m) _ hz2 ((moved_in lv h.c m4).mono (by omega) (by omega)) (by rw [moved_len, hcl]) (.inr rfl) bu
    refine ⟨b * u * l, hez (chz zs mv m) ch m (ss.getD k 0), _, Nat.mul_pos (Nat.mul_pos b0 u0) l0, ?_, ?_, .inr rfl, (sSeq_nx e1).trans hf⟩
    · refine Nat.le_trans (Nat.mul_le_mul bu l1) ?_
      rw [← Nat.pow_succ]
      exact b0_le (by omega)
    · rw [ej, if_neg hk0]
      have := rz_he (m := m) (s := ss.getD k 0) hz2 ht (by rw [moved_len, hcl])
      rw [← Int.natCast_mul] at this
      exact this
end LW

set_option maxRecDepth 100000
set_option maxHeartbeats 4000000
namespace LW
open PySem DL
open Classical
theorem tupL (rs : List (List Int)) (n : Nat) : clos n (.tup (rs.map fun r => .tup (r.map D.int))) = true := clos_tup (closL_map (fun r => clos_tup (closL_map (fun i => rfl) r)) rs)
theorem F_aft {m n : Nat} {ws : List Rat} {c t : List (List Rat)} {ss : List Nat} (h : Set m n ws c t) (hs : ∀ s ∈ ss, s < n) (hl : ss.length ≤ 8) (S : Sto) :
    F_after [dT ws, dTT c, dTT t, dS ss] S = some (due ws c t ss, S) := by
  have m4 := h.m4
  have hcl := h.c.1
  have htl := h.t.1
  have e0 : tNotD (tTru (eV 3)) [some (dT ws), some (dTT c), some (dTT t), some (dS ss), none, none, none, none, none, none, none, none, none, none] S = some (ss.isEmpty, S) := by
    simp [dS]
  by_cases hss : ss = []
  · subst hss
    have : sIf (tNotD (tTru (eV 3))) (sRet (eA fTup (aCons (eA fTup (aCons (eC (.int 1)) (aCons (eC (.int 1)) aNil))) (aCons (eV 0) aNil)))) sPass [some (dT ws), some (dTT c), some (dTT t), some (dS []), none, none, none, none, none, none, none, none, none, none] S = some (.rt (.tup [dQ 1, dT ws]) S) := by
      refine (sIf_t e0).trans (sRet_ok ?_)
      simp [dQ1]
    unfold F_after t_after
    refine (fnD_rt (n := 4) (m := 14) (ds := [dT ws, dTT c, dTT t, dS []]) rfl (sSeq_rt this)).trans ?_
    unfold due
    rw [if_pos rfl]
    exact finP_self (clos_tup (closL_cons (clos_dQ _ _) (closL_cons (clos_dT _ _) closL_nil))) rfl
  · have hne : ss.isEmpty = false := by cases ss <;> simp_all
    rw [hne] at e0
    have p1 : sIf (tNotD (tTru (eV 3))) (sRet (eA fTup (aCons (eA fTup (aCons (eC (.int 1)) (aCons (eC (.int 1)) aNil))) (aCons (eV 0) aNil)))) sPass [some (dT ws), some (dTT c), some (dTT t), some (dS ss), none, none, none, none, none, none, none, none, none, none] S = some (.nx [some (dT ws), some (dTT c), some (dTT t), some (dS ss), none, none, none, none, none, none, none, none, none, none] S) := sIf_f e0
    -- the common denominators
    have hwd : ∀ q ∈ ws, q.den ∣ B0 := fun q hq => (h.ws.row.q q hq).den
    have hB600 : B0 < 2 ^ 600 := Nat.lt_of_lt_of_le (show B0 < 2 ^ 28 by decide) (Nat.pow_le_pow_right (by omega) (by omega))
    have bot := F_bot (d := dT ws) (qs := ws) (B := B0) (n := 600) (.inl rfl) (by decide) hwd hB600 (by omega) S
    have lw := lcmD_dvd hwd
    have lc := tbl_dvd h.c
    have lt := tbl_dvd h.t
    have ro1 := ro_tbl h.c m4 m4 S
    have ro2 := ro_tbl h.t m4 h.n4 S
    have pw : 0 < lcmD ws := Nat.pos_of_dvd_of_pos lw (by decide)
    have pc : 0 < lcmD c.flatten := Nat.pos_of_dvd_of_pos lc (by decide)
    have pt : 0 < lcmD t.flatten := Nat.pos_of_dvd_of_pos lt (by decide)
    have w1 := Nat.le_of_dvd (by decide) lw
    have c1 := Nat.le_of_dvd (by decide) lc
    have t1 := Nat.le_of_dvd (by decide) lt
    have whs := F_wh (d := dT ws) (qs := ws) (b := (lcmD ws : Nat)) (n := 600) (.inl rfl) (by omega) (b17 1 (by omega) (by simpa using w1)) (fun q hq => ⟨(sm1 (h.ws.row.q q hq)).num, (sm1 (h.ws.row.q q hq)).den⟩) (by omega) (by rw [h.ws.len]; omega) S
    have rw0 : Rz (lcmD ws : Nat) ws (ws.map (wh (lcmD ws : Nat))) := rz_wh fun q hq => den_dvd hq
    have rtc : Rt (lcmD c.flatten : Nat) c (c.map fun r => r.map (wh (lcmD c.flatten : Nat))) := rt_wh fun r hr q hq => den_dvd (List.mem_flatten.mpr ⟨r, hr, hq⟩)
    have rtt : Rt (lcmD t.flatten : Nat) t (t.map fun r => r.map (wh (lcmD t.flatten : Nat))) := rt_wh fun r hr q hq => den_dvd (List.mem_flatten.mpr ⟨r, hr, hq⟩)
    have mvl : ∀ r ∈ (c.map fun r => r.map (wh (lcmD c.flatten : Nat))), r.length = m := fun r hr => by
      obtain ⟨x, hx, rfl⟩ := List.mem_map.mp hr
      rw [List.length_map]; exact (h.c.2 x hx).len
    have chl : ∀ r ∈ (t.map fun r => r.map (wh (lcmD t.flatten : Nat))), r.length = n := fun r hr => by
      obtain ⟨x, hx, rfl⟩ := List.mem_map.mp hr
      rw [List.length_map]; exact (h.t.2 x hx).len
    have ez : (ws.map fun q => D.int (wh (lcmD ws : Nat) q)) = (ws.map (wh (lcmD ws : Nat))).map D.int := by rw [List.map_map]; rfl
    rw [ez] at whs
    generalize lcmD ws = b0 at bot whs rw0 pw w1
    generalize ws.map (wh (b0 : Nat)) = z0 at whs rw0
    generalize (c.map fun r => r.map (wh (lcmD c.flatten : Nat))) = mv at ro1 rtc mvl
    generalize (t.map fun r => r.map (wh (lcmD t.flatten : Nat))) = ch at ro2 rtt chl
    generalize lcmD c.flatten = u at ro1 rtc pc c1
    generalize lcmD t.flatten = l at ro2 rtt pt t1
    have p2 : sSet 4 (eA F_bottom_of (aCons (eV 0) aNil)) [some (dT ws), some (dTT c), some (dTT t), some (dS ss), none, none, none, none, none, none, none, none, none, none] S = some (.nx [some (dT ws), some (dTT c), some (dTT t), some (dS ss), some (.int ((b0 : Nat) : Int)), none, none, none, none, none, none, none, none, none] S) := sSet_ok ((eA_ok (aCons_ok rfl rfl)).trans bot)
    have p3 : sSet 5 (eA F_wholes (aCons (eV 0) (aCons (eV 4) aNil))) [some (dT ws), some (dTT c), some (dTT t), some (dS ss), some (.int ((b0 : Nat) : Int)), none, none, none, none, none, none, none, none, none] S = some (.nx [some (dT ws), some (dTT c), some (dTT t), some (dS ss), some (.int ((b0 : Nat) : Int)), some (.tup (z0.map D.int)), none, none, none, none, none, none, none, none] S) := sSet_ok ((eA_ok (aCons_ok rfl (aCons_ok rfl rfl))).trans whs)
    have asg : ∀ {e : RE} {g : RG} {ρ ρ2 : En} {d : D}, e ρ S = some (d, S) → g d ρ S = some (ρ2, S) → sAsg e g ρ S = some (.nx ρ2 S) := fun h1 h2 => by
      unfold sAsg
      rw [h1]
      simp only [h2]
    have p4 : sAsg (eA F_rows_over (aCons (eV 1) aNil)) (gTp 2 (gsCons (gNm 6) (gsCons (gNm 7) gsNil))) [some (dT ws), some (dTT c), some (dTT t), some (dS ss), some (.int ((b0 : Nat) : Int)), some (.tup (z0.map D.int)), none, none, none, none, none, none, none, none] S = some (.nx [some (dT ws), some (dTT c), some (dTT t), some (dS ss), some (.int ((b0 : Nat) : Int)), some (.tup (z0.map D.int)), some (.int ((u : Nat) : Int)), some (.tup (mv.map fun r => .tup (r.map D.int))), none, none, none, none, none, none] S) :=
      asg ((eA_ok (aCons_ok rfl rfl)).trans ro1) (by simp)
    have p5 : sAsg (eA F_rows_over (aCons (eV 2) aNil)) (gTp 2 (gsCons (gNm 8) (gsCons (gNm 9) gsNil))) [some (dT ws), some (dTT c), some (dTT t), some (dS ss), some (.int ((b0 : Nat) : Int)), some (.tup (z0.map D.int)), some (.int ((u : Nat) : Int)), some (.tup (mv.map fun r => .tup (r.map D.int))), none, none, none, none, none, none] S = some (.nx [some (dT ws), some (dTT c), some (dTT t), some (dS ss), some (.int ((b0 : Nat) : Int)), some (.tup (z0.map D.int)), some (.int ((u : Nat) : Int)), some (.tup (mv.map fun r => .tup (r.map D.int))), some (.int ((l : Nat) : Int)), some (.tup (ch.map fun r => .tup (r.map D.int))), none, none, none, none] S) :=
      asg ((eA_ok (aCons_ok rfl rfl)).trans ro2) (by simp)
    -- the loop
    obtain ⟨ρ', S', h1, rfl, b, zs, dz, x, y, rfl, hb0, hb1, hrz, hdz⟩ := forL_ind (g := gTp 2 (gsCons (gNm 10) (gsCons (gNm 11) gsNil))) (b := sSeq (sIf (tTru (eV 10)) (sSeq (sSet 5 (eA F__changed (aCons (eV 5) (aCons (eV 7) aNil)))) (sAug 4 fMul (eV 6))) sPass) (sSeq (sSet 5 (eA F__heard (aCons (eV 5) (aCons (eV 9) (aCons (eV 11) aNil))))) (sAug 4 fMul (eV 8)))) (chk := fun _ => True)
      (fun k ρ S' => S' = S ∧ ∃ (b : Nat) (zs : List Int) (dz : D) (x y : Option D), ρ = [some (dT ws), some (dTT c), some (dTT t), some (dS ss), some (.int ((b : Nat) : Int)), some dz, some (.int ((u : Nat) : Int)), some (.tup (mv.map fun r => .tup (r.map D.int))), some (.int ((l : Nat) : Int)), some (.tup (ch.map fun r => .tup (r.map D.int))), x, y, none, none] ∧ 0 < b ∧ b ≤ B0 ^ (1 + 2 * k) ∧ Rz b (jv c t ss ws k) zs ∧ IsSeq dz (zs.map D.int))
      (pairsE (ss.map fun s : Nat => D.int ((s : Nat) : Int))) 0 _ S ⟨rfl, b0, z0, _, none, none, rfl, pw, by simpa using w1, rw0, .inl rfl⟩ fun k x ρ S1 hk ⟨e, b, zs, dz, x', y', eρ, g1, g2, g3, g4⟩ => by
        subst e eρ
        rw [Nat.zero_add] at g2 g3 ⊢
        unfold pairsE at hk
        rw [List.getElem?_mapIdx, List.getElem?_map] at hk
        obtain ⟨d', hk2, rfl⟩ := Option.map_eq_some_iff.mp hk
        obtain ⟨s, hk3, rfl⟩ := Option.map_eq_some_iff.mp hk2
        have hkl : k < ss.length := (List.getElem?_eq_some_iff.mp hk3).1
        have es : s = ss.getD k 0 := by rw [List.getD_eq_getElem?_getD, hk3]; rfl
        subst es
        obtain ⟨b', zs', dz', q1, q2, q3, q4, q5⟩ := aft_step h hs hl hkl rtc rtt mvl chl c1 t1 pc pt g3 g4 g1 g2 (some (dT ws)) (some (dTT c)) (some (dTT t)) (some (dS ss)) none none S1
        exact ⟨_, S1, _, S1, by simp, .inl q5, trivial, rfl, b', zs', dz', _, _, rfl, q1, q2, q3, q4⟩
    have elen : (pairsE (ss.map fun s : Nat => D.int ((s : Nat) : Int))).length = ss.length := by simp [pairsE]
    rw [elen, Nat.zero_add] at hb1 hrz
    have eit : iEnum (aCons (eV 3) aNil) [some (dT ws), some (dTT c), some (dTT t), some (dS ss), some (.int ((b0 : Nat) : Int)), some (.tup (z0.map D.int)), some (.int ((u : Nat) : Int)), some (.tup (mv.map fun r => .tup (r.map D.int))), some (.int ((l : Nat) : Int)), some (.tup (ch.map fun r => .tup (r.map D.int))), none, none, none, none] S' = some (pairsE (ss.map fun s : Nat => D.int ((s : Nat) : Int)), fun _ => True, S') := rfl
    have p6 := (sFor_ok eit).trans h1
    -- the end
    have hlv := h.jsm ss hl
    have hsm := h.jsum ss hl
    have jl := h.jlen ss ss.length
    unfold due
    rw [if_neg hss]
    generalize jv c t ss ws ss.length = J at hrz hlv hsm jl ⊢
    have b17' : b ≤ B0 ^ 17 := Nat.le_trans hb1 (b0_le (by omega))
    have hsum := sum_zs hrz
    have bpos : (0 : Rat) < ((b : Int) : Rat) := by exact_mod_cast (show (0 : Int) < (b : Int) by omega)
    have hzl : zs.length = m := by rw [hrz.1, jl]
    have p7 : sSet 12 (eA fSum (aCons (eV 5) aNil)) [some (dT ws), some (dTT c), some (dTT t), some (dS ss), some (.int ((b : Nat) : Int)), some dz, some (.int ((u : Nat) : Int)), some (.tup (mv.map fun r => .tup (r.map D.int))), some (.int ((l : Nat) : Int)), some (.tup (ch.map fun r => .tup (r.map D.int))), x, y, none, none] S' = some (.nx [some (dT ws), some (dTT c), some (dTT t), some (dS ss), some (.int ((b : Nat) : Int)), some dz, some (.int ((u : Nat) : Int)), some (.tup (mv.map fun r => .tup (r.map D.int))), some (.int ((l : Nat) : Int)), some (.tup (ch.map fun r => .tup (r.map D.int))), x, y, some (.int zs.sum), none] S') := by
      refine sSet_ok ((eA_ok (aCons_ok rfl rfl)).trans ?_)
      rcases hdz with e | e <;> subst e <;> simp only [fSum, seqD, intsD_map]
    have c8 : tBl (e2 fEq (eV 12) (eC (.int 0))) [some (dT ws), some (dTT c), some (dTT t), some (dS ss), some (.int ((b : Nat) : Int)), some dz, some (.int ((u : Nat) : Int)), some (.tup (mv.map fun r => .tup (r.map D.int))), some (.int ((l : Nat) : Int)), some (.tup (ch.map fun r => .tup (r.map D.int))), x, y, some (.int zs.sum), none] S' = some (decide (zs.sum = 0), S') := by simp
    unfold F_after t_after
    by_cases h0 : J.sum = 0
    · have z0 : zs.sum = 0 := by
        rw [h0, Rat.zero_mul] at hsum
        exact_mod_cast hsum
      rw [z0] at c8 p7
      rw [if_pos h0]
      have p8 : sIf (tBl (e2 fEq (eV 12) (eC (.int 0)))) (sRet (eA fTup (aCons (eA fTup (aCons (eC (.int 0)) (aCons (eC (.int 1)) aNil))) (aCons (eA fTup aNil) aNil)))) sPass [some (dT ws), some (dTT c), some (dTT t), some (dS ss), some (.int ((b : Nat) : Int)), some dz, some (.int ((u : Nat) : Int)), some (.tup (mv.map fun r => .tup (r.map D.int))), some (.int ((l : Nat) : Int)), some (.tup (ch.map fun r => .tup (r.map D.int))), x, y, some (.int 0), none] S' = some (.rt (.tup [dQ 0, .tup []]) S') := by
        refine (sIf_t c8).trans (sRet_ok ?_)
        simp [dQ0]
      refine (fnD_rt (n := 4) (m := 14) (ds := [dT ws, dTT c, dTT t, dS ss]) rfl ((sSeq_nx p1).trans ((sSeq_nx p2).trans ((sSeq_nx p3).trans ((sSeq_nx p4).trans ((sSeq_nx p5).trans ((sSeq_nx p6).trans ((sSeq_nx p7).trans (sSeq_rt p8))))))))).trans ?_
      exact finP_self (clos_tup (closL_cons (clos_dQ _ _) (closL_cons (clos_tup closL_nil) closL_nil))) rfl
    · have hz0 : zs.sum ≠ 0 := fun z => by
        rw [z] at hsum
        have : J.sum * ((b : Int) : Rat) = 0 := by rw [← hsum]; rfl
        rcases Rat.mul_eq_zero.mp this with q | q
        · exact h0 q
        · rw [q] at bpos; exact absurd bpos (by decide)
      rw [decide_eq_false hz0] at c8
      rw [if_neg h0]
      have p8 : sIf (tBl (e2 fEq (eV 12) (eC (.int 0)))) (sRet (eA fTup (aCons (eA fTup (aCons (eC (.int 0)) (aCons (eC (.int 1)) aNil))) (aCons (eA fTup aNil) aNil)))) sPass [some (dT ws), some (dTT c), some (dTT t), some (dS ss), some (.int ((b : Nat) : Int)), some dz, some (.int ((u : Nat) : Int)), some (.tup (mv.map fun r => .tup (r.map D.int))), some (.int ((l : Nat) : Int)), some (.tup (ch.map fun r => .tup (r.map D.int))), x, y, some (.int zs.sum), none] S' = some (.nx [some (dT ws), some (dTT c), some (dTT t), some (dS ss), some (.int ((b : Nat) : Int)), some dz, some (.int ((u : Nat) : Int)), some (.tup (mv.map fun r => .tup (r.map D.int))), some (.int ((l : Nat) : Int)), some (.tup (ch.map fun r => .tup (r.map D.int))), x, y, some (.int zs.sum), none] S') := sIf_f c8
      have hsp : 0 < zs.sum := by
        have h1 : (0 : Rat) ≤ ((zs.sum : Int) : Rat) := by
          rw [hsum]
          exact Rat.mul_nonneg hsm.nn (by grind)
        have : 0 ≤ zs.sum := by exact_mod_cast h1
        omega
      have bts : Bt 600 zs.sum := z_bt hsm b17' (by omega) (by omega) hsum
      have low1 := F_low (a := zs.sum) (b := ((b : Nat) : Int)) (n := 600) (by omega) (b17 17 (Nat.le_refl _) b17') (by omega) S'
      have el1 : ((zs.sum : Int) : Rat) / (((b : Nat) : Int) : Rat) = J.sum := by
        rw [hsum]
        grind
      rw [el1] at low1
      have low2 : ∀ z : Int, F_lowest [.int z, .int zs.sum] S' = some (dQ ((z : Rat) / ((zs.sum : Int) : Rat)), S') := fun z => F_low hsp bts (by omega) S'
      have inner := compL_map (i := 13) (e := eA F_lowest (aCons (eV 13) (aCons (eV 12) aNil))) (chk := fun _ => True) (ρ := [some (dT ws), some (dTT c), some (dTT t), some (dS ss), some (.int ((b : Nat) : Int)), some dz, some (.int ((u : Nat) : Int)), some (.tup (mv.map fun r => .tup (r.map D.int))), some (.int ((l : Nat) : Int)), some (.tup (ch.map fun r => .tup (r.map D.int))), x, y, some (.int zs.sum), none]) (S := S') trivial
        D.int (fun z : Int => dQ ((z : Rat) / ((zs.sum : Int) : Rat))) zs fun z _ => (eA_ok (aCons_ok rfl (aCons_ok rfl rfl))).trans (low2 z)
      have ei : iSeq (eV 5) [some (dT ws), some (dTT c), some (dTT t), some (dS ss), some (.int ((b : Nat) : Int)), some dz, some (.int ((u : Nat) : Int)), some (.tup (mv.map fun r => .tup (r.map D.int))), some (.int ((l : Nat) : Int)), some (.tup (ch.map fun r => .tup (r.map D.int))), x, y, some (.int zs.sum), none] S' = some (zs.map D.int, fun _ => True, S') := by
        rcases hdz with e | e <;> subst e <;> rfl
      have eJ : (zs.map fun z : Int => dQ ((z : Rat) / ((zs.sum : Int) : Rat))) = (J.map fun q => q / J.sum).map dQ := by
        rw [List.map_map]
        apply List.ext_getElem
        · simp [hrz.1]
        · intro i g1 g2
          have i1 : i < zs.length := by simpa using g1
          have i2 : i < J.length := by simpa using g2
          have := hrz.2 i
          rw [List.getD_eq_getElem?_getD, List.getD_eq_getElem?_getD, List.getElem?_eq_getElem i1, List.getElem?_eq_getElem i2] at this
          simp only [Option.getD_some] at this
          simp only [List.getElem_map, Function.comp]
          rw [this, hsum]
          congr 1
          grind
      have p9 : sRet (eA fTup (aCons (eA F_lowest (aCons (eV 12) (aCons (eV 4) aNil))) (aCons (eLc fTup (iSeq (eV 5)) (gNm 13) tYesD (eA F_lowest (aCons (eV 13) (aCons (eV 12) aNil))) [13]) aNil))) [some (dT ws), some (dTT c), some (dTT t), some (dS ss), some (.int ((b : Nat) : Int)), some dz, some (.int ((u : Nat) : Int)), some (.tup (mv.map fun r => .tup (r.map D.int))), some (.int ((l : Nat) : Int)), some (.tup (ch.map fun r => .tup (r.map D.int))), x, y, some (.int zs.sum), none] S' = some (.rt (.tup [dQ J.sum, dT (J.map fun q => q / J.sum)]) S') := by
        have e9 := (eLc_ok (mk := fTup) (vs := [13]) ei inner).trans (fTup_ok (by simp; omega))
        rw [eJ] at e9
        refine sRet_ok ((eA_ok (aCons_ok ((eA_ok (aCons_ok rfl (aCons_ok rfl rfl))).trans low1) (aCons_ok e9 rfl))).trans (fTup_ok (by simp)))
      refine (fnD_rt (n := 4) (m := 14) (ds := [dT ws, dTT c, dTT t, dS ss]) rfl ((sSeq_nx p1).trans ((sSeq_nx p2).trans ((sSeq_nx p3).trans ((sSeq_nx p4).trans ((sSeq_nx p5).trans ((sSeq_nx p6).trans ((sSeq_nx p7).trans ((sSeq_nx p8).trans p9))))))))).trans ?_
      exact finP_self (clos_tup (closL_cons (clos_dQ _ _) (closL_cons (clos_dT _ _) closL_nil))) rfl
end LW

set_option maxRecDepth 100000
set_option maxHeartbeats 4000000
namespace LW
open PySem DL
open Classical
theorem kb (a b : String) : L2.kitB a b = L2.kitB a b := rfl
theorem compL_none {i : Nat} {c : RT} {e : RE} {chk : Sto → Prop} {ρ : En} {S : Sto} (hc : chk S) : ∀ ds : List D, (∀ d ∈ ds, c (ρ.set i (some d)) S = some (false, S)) → compL (gNm i) c e chk ρ ds S = some ([], S)
  | [], _ => rfl
  | d :: ds, h => by
    have ih := compL_none (i := i) (c := c) (e := e) (ρ := ρ) hc ds fun x hx => h x (List.mem_cons_of_mem _ hx)
    unfold compL
    simp only [gNm, h d List.mem_cons_self, if_pos hc, ih]
theorem same_int (n : Nat) (i : Int) (S : Sto) : F__law_same (n + 1) [.int i, .int i] S = some (.bl true, S) := by
  have k1 : L2.kitB "int" "tuple" = some false := by decide +kernel
  have k2 : L2.kitB "int" "str" = some false := by decide +kernel
  have k3 : L2.kitB "int" "int" = some true := by decide +kernel
  have k4 : L2.kitB "int" "bool" = some false := by decide +kernel
  have e : t__law_same (F__law_same n) (startD 3 [.int i, .int i]) S = some (.rt (.bl true) S) := by
    unfold t__law_same
    simp [k1, k2, k3, k4]
  exact (fnD_rt (n := 2) (m := 3) rfl e).trans (finP_self rfl rfl)
theorem same_tup {n : Nat} {ds : List D} {S : Sto} (hl : ds.length ≤ 1000) (h : ∀ d ∈ ds, F__law_same n [d, d] S = some (.bl true, S)) : F__law_same (n + 1) [.tup ds, .tup ds] S = some (.bl true, S) := by
  have k1 : L2.kitB "tuple" "tuple" = some true := by decide +kernel
  have ec : compL (gNm 2) (tNotD (tTru (eA (F__law_same n) (aCons (e2 fIx (eV 0) (eV 2)) (aCons (e2 fIx (eV 1) (eV 2)) aNil))))) (eV 2) (fun _ => True) [some (.tup ds), some (.tup ds), none] (rangeD 0 ds.length) S = some ([], S) := by
    refine compL_none trivial _ fun d hd => ?_
    obtain ⟨k, hk⟩ := List.getElem?_of_mem hd
    obtain ⟨hkl, rfl⟩ := range_at hk
    have hat : fIx (.tup ds) (.int ((k : Nat) : Int)) S = some ds[k] := by
      show L2.atI ds ((k : Nat) : Int) = some ds[k]
      unfold L2.atI L2.ixN
      rw [if_pos (by omega), if_pos (by omega)]
      simp [hkl]
    have e1 := (eA_ok (f := F__law_same n) (ρ := [some (.tup ds), some (.tup ds), some (.int ((k : Nat) : Int))]) (aCons_ok (e2_ok (a := eV 0) (b := eV 2) (f := fIx) (S := S) rfl rfl hat) (aCons_ok (e2_ok (a := eV 1) (b := eV 2) (f := fIx) rfl rfl hat) (rfl : aNil _ S = some ([], S))))).trans (h ds[k] (List.getElem_mem hkl))
    show tNotD (tTru (eA (F__law_same n) _)) [some (.tup ds), some (.tup ds), some (.int ((k : Nat) : Int))] S = _
    unfold tNotD tTru
    rw [e1]
    simp
  have el : eA fLen (aCons (eV 1) aNil) [some (.tup ds), some (.tup ds), none] S = some (.int ((ds.length : Nat) : Int), S) := by simp
  have e2 := (eLc_ok (mk := fLst) (vs := [2]) (range1 el (by omega) (by omega)) (by
    have e : ((ds.length : Nat) : Int).toNat = ds.length := by omega
    rw [e]
    exact ec)).trans (fLst_ok (by simp))
  have e3 : DL.e2 fEq (eLc fLst (iRange1 (eA fLen (aCons (eV 1) aNil))) (gNm 2) (tNotD (tTru (eA (F__law_same n) (aCons (DL.e2 fIx (eV 0) (eV 2)) (aCons (DL.e2 fIx (eV 1) (eV 2)) aNil))))) (eV 2) [2]) (eA fLst aNil) [some (.tup ds), some (.tup ds), none] S = some (.bl true, S) := by
    refine e2_ok e2 (y := .lst []) (S2 := S) (by simp) ?_
    exact fEq_self (DaL.lst (n := 0) .nil)
  have e : t__law_same (F__law_same n) (startD 3 [.tup ds, .tup ds]) S = some (.rt (.bl true) S) := by
    unfold t__law_same
    refine sSeq_rt ((sIf_t (S1 := S) ?_).trans ((sSeq_nx (ρ1 := [some (.tup ds), some (.tup ds), none]) (S1 := S) ?_).trans (sRet_ok e3)))
    · simp [k1]
    · simp [k1]
  exact (fnD_rt (n := 2) (m := 3) rfl e).trans (finP_self rfl rfl)
theorem same_dQ (n : Nat) (q : Rat) (S : Sto) : F__law_same (n + 2) [dQ q, dQ q] S = some (.bl true, S) :=
  same_tup (by simp) fun d hd => by
    simp at hd
    rcases hd with e | e <;> rw [e] <;> exact same_int _ _ _
theorem same_dT (n : Nat) (v : List Rat) (hv : v.length ≤ 1000) (S : Sto) : F__law_same (n + 3) [dT v, dT v] S = some (.bl true, S) :=
  same_tup (by simpa using hv) fun d hd => by
    obtain ⟨q, _, rfl⟩ := List.mem_map.mp hd
    exact same_dQ n q S
theorem same_due {m n : Nat} {ws : List Rat} {c t : List (List Rat)} (h : Set m n ws c t) (ss : List Nat) (S : Sto) : F__law_same 8 [due ws c t ss, due ws c t ss] S = some (.bl true, S) := by
  have m4 := h.m4
  unfold due
  split
  · refine same_tup (n := 7) (by simp) fun d hd => ?_
    simp at hd
    rcases hd with e | e <;> rw [e]
    · exact same_dQ 5 _ _
    · exact same_dT 4 _ (by rw [h.ws.len]; omega) _
  · split
    · refine same_tup (n := 7) (by simp) fun d hd => ?_
      simp at hd
      rcases hd with e | e <;> rw [e]
      · exact same_dQ 5 _ _
      · exact same_tup (n := 6) (by simp) fun d hd => by simp at hd
    · refine same_tup (n := 7) (by simp) fun d hd => ?_
      simp at hd
      rcases hd with e | e <;> rw [e]
      · exact same_dQ 5 _ _
      · exact same_dT 4 _ (by rw [List.length_map, h.jlen]; omega) _
/-! ### sums of the second part -/
/-- items that any sequence hands out -/
theorem F_tot2 {d : D} {qs : List Rat} {n : Nat} {chk : Sto → Prop} {S : Sto} (hc : chk S) (hd : ∀ x y, iSeq (eV 0) [some d, x, y] S = some (qs.map dQ, chk, S)) (hq : ∀ q ∈ qs, Sm n q) (hs : ∀ k, Sm n (qs.take k).sum) (h9 : n ≤ 4000) : F__law_total [d] S = some (dQ qs.sum, S) := by
  obtain ⟨ρ', S', h1, rfl, t, rfl⟩ := forL_ind (g := gNm 2) (b := sSet 1 (eA F__law_plus (aCons (eV 1) (aCons (eV 2) aNil)))) (chk := chk)
    (fun k ρ S' => S' = S ∧ ∃ t, ρ = [some d, some (dQ (qs.take k).sum), t]) (qs.map dQ) 0 [some d, some (dQ 0), none] S ⟨rfl, none, by simp⟩ fun k x ρ S1 hk ⟨e, t, eρ⟩ => by
      subst e eρ
      rw [List.getElem?_map] at hk
      obtain ⟨q, hkq, rfl⟩ := Option.map_eq_some_iff.mp hk
      have hm : q ∈ qs := List.mem_of_getElem? hkq
      rw [Nat.zero_add]
      have h := F_lp (hs k) (hq q hm) h9 S1
      have e2 : (qs.take (k + 1)).sum = (qs.take k).sum + q := by
        rw [List.take_add_one, hkq]
        simp [List.sum_append, Rat.add_zero]
      refine ⟨[some d, some (dQ (qs.take k).sum), some (dQ q)], S1, [some d, some (dQ (qs.take (k + 1)).sum), some (dQ q)], S1, by simp, .inl ?_, hc, rfl, _, rfl⟩
      rw [e2]
      exact sSet_ok ((eA_ok (aCons_ok rfl (aCons_ok rfl rfl))).trans h)
  unfold F__law_total t__law_total
  have e3 : qs.take (0 + (qs.map dQ).length) = qs := by simp
  rw [e3] at h1
  refine (fnD_rt rfl ((sSeq_nx (sSet_ok (d := dQ 0) (S1 := S') ?_)).trans ((sSeq_nx ((sFor_ok (hd _ _)).trans h1)).trans (sRet_ok rfl)))).trans (finP_self (clos_dQ _ _) rfl)
  exact (eA_ok (aCons_ok rfl (aCons_ok rfl rfl))).trans (fTup_ok (by simp))
/-- a quotient's size -/
theorem sm_div {q s : Rat} (hq : Sm 600 q) (hs : Sm 600 s) (hp : 0 < s.num) : Sm 1200 (q / s) := by
  have px : (0 : Int) < (q.den : Int) := by have := den_pos q; omega
  have hb : (0 : Int) < (q.den : Int) * s.num := Int.mul_pos px hp
  have e : ((q.num * s.den : Int) : Rat) / ((q.den * s.num : Int) : Rat) = q / s := by
    have a := mul_den q
    have b := mul_den s
    have c := den_ne q
    have d := den_ne s
    have s0 : s ≠ 0 := fun z => by rw [z] at hp; exact absurd hp (by decide)
    push_cast
    push_cast at a b c d
    rw [← a, ← b]
    grind
  have h1 := low_num (q.num * s.den) (q.den * s.num) hb
  have h2 := low_den (q.num * s.den) (q.den * s.num) hb
  rw [e] at h1 h2
  have g0 : (0 : Int) < (Int.gcd (q.num * s.den) (q.den * s.num) : Int) := by
    have := gcd_ne (a := q.num * s.den) (b := q.den * s.num) (by omega)
    omega
  have bn : Bt 1200 (q.num * s.den) := hq.num.mul hs.den
  have bd : Bt 1200 ((q.den : Int) * s.num) := hq.den.mul hs.num
  refine ⟨?_, ?_⟩
  · rw [h1, Int.fdiv_eq_ediv_of_dvd (Int.gcd_dvd_left ..)]
    unfold Bt at *
    exact Nat.lt_of_le_of_lt (Int.natAbs_ediv_le_natAbs _ _) bn
  · rw [h2, Int.fdiv_eq_ediv_of_dvd (Int.gcd_dvd_right ..)]
    unfold Bt at *
    exact Nat.lt_of_le_of_lt (Int.natAbs_ediv_le_natAbs _ _) bd
end LW

set_option maxRecDepth 100000
set_option maxHeartbeats 4000000
namespace LW
open PySem DL
open Classical
def exts (n : Nat) (r : List Nat) : List (List Nat) := (List.range n).map fun s => r ++ [s]
def ext (n : Nat) (rs : List (List Nat)) : List (List Nat) := rs.flatMap (exts n)
theorem ext_len (n : Nat) : ∀ rs : List (List Nat), (ext n rs).length = rs.length * n
  | [] => by simp [ext]
  | r :: rs => by
    have ih := ext_len n rs
    unfold ext at ih ⊢
    rw [List.flatMap_cons, List.length_append, ih]
    simp [exts, Nat.add_mul, Nat.add_comm]
theorem ext_take {n j : Nat} {rs : List (List Nat)} {r : List Nat} (h : rs[j]? = some r) : ext n (rs.take (j + 1)) = ext n (rs.take j) ++ exts n r := by
  unfold ext
  rw [List.take_add_one, h]
  simp
theorem mem_ext {n : Nat} {rs : List (List Nat)} {r : List Nat} (h : r ∈ ext n rs) : ∃ r0 s, r0 ∈ rs ∧ s < n ∧ r = r0 ++ [s] := by
  unfold ext at h
  obtain ⟨r0, h0, h1⟩ := List.mem_flatMap.mp h
  obtain ⟨s, hs, rfl⟩ := List.mem_map.mp h1
  exact ⟨r0, s, h0, List.mem_range.mp hs, rfl⟩
theorem e2s_ok {f : D → D → Sto → Option (D × Sto)} {a b : RE} {ρ : En} {S S1 S2 : Sto} {x y : D} (h : a ρ S = some (x, S1)) (h2 : b ρ S1 = some (y, S2)) : e2s f a b ρ S = f x y S2 := by
  unfold e2s
  rw [h]
  simp only [h2]
theorem dS_snoc (r : List Nat) (s : Nat) (S : Sto) (h : r.length ≤ 100) : fPlus fLst (dS r) (.tup [.int ((s : Nat) : Int)]) S = some (dS (r ++ [s]), S) := by
  unfold dS
  simp
  omega
theorem ext_ok {n : Nat} {rs : List (List Nat)} (hn : n ≤ 4) (hl : rs.length ≤ 100) (hr : ∀ r ∈ rs, r.length ≤ 50) (x1 x3 x4 x5 : Option D) (S : Sto) :
    ∃ y5, sSeq (sSet 4 (eA fLst aNil)) (sSeq (sFor (iSeq (eV 2)) (gNm 5) (sSet 4 (e2s (fPlus fLst) (eV 4) (eLc fLst (iRange1 (eV 0)) (gNm 6) tYesD (e2s (fPlus fLst) (eV 5) (eA fTup (aCons (eV 6) aNil))) [6])))) (sSet 2 (eV 4)))
      [some (.int ((n : Nat) : Int)), x1, some (.lst (rs.map dS)), x3, x4, x5, none] S = some (.nx [some (.int ((n : Nat) : Int)), x1, some (.lst ((ext n rs).map dS)), x3, some (.lst ((ext n rs).map dS)), y5, none] S) := by
  obtain ⟨ρ', S', h1, rfl, y5, rfl⟩ := forL_ind (g := gNm 5) (b := sSet 4 (e2s (fPlus fLst) (eV 4) (eLc fLst (iRange1 (eV 0)) (gNm 6) tYesD (e2s (fPlus fLst) (eV 5) (eA fTup (aCons (eV 6) aNil))) [6]))) (chk := fun _ => True)
    (fun j ρ S' => S' = S ∧ ∃ y, ρ = [some (.int ((n : Nat) : Int)), x1, some (.lst (rs.map dS)), x3, some (.lst ((ext n (rs.take j)).map dS)), y, none]) (rs.map dS) 0 [some (.int ((n : Nat) : Int)), x1, some (.lst (rs.map dS)), x3, some (.lst []), x5, none] S ⟨rfl, x5, by simp [ext]⟩ fun j d ρ S1 hk ⟨e, y, eρ⟩ => by
      subst e eρ
      rw [Nat.zero_add]
      rw [List.getElem?_map] at hk
      obtain ⟨r, hkr, rfl⟩ := Option.map_eq_some_iff.mp hk
      have hm : r ∈ rs := List.mem_of_getElem? hkr
      have inner := compL_map (i := 6) (e := e2s (fPlus fLst) (eV 5) (eA fTup (aCons (eV 6) aNil))) (chk := fun _ => True) (ρ := [some (.int ((n : Nat) : Int)), x1, some (.lst (rs.map dS)), x3, some (.lst ((ext n (rs.take j)).map dS)), some (dS r), none]) (S := S1) trivial
        (fun i : Nat => D.int ((i : Nat) : Int)) (fun s => dS (r ++ [s])) (List.range n) fun s hs => by
          have := dS_snoc r s S1 (by have := hr r hm; omega)
          generalize hx : dS r = x at this
          simp
          rw [← this]
          simp
      have einner : eLc fLst (iRange1 (eV 0)) (gNm 6) tYesD (e2s (fPlus fLst) (eV 5) (eA fTup (aCons (eV 6) aNil))) [6] [some (.int ((n : Nat) : Int)), x1, some (.lst (rs.map dS)), x3, some (.lst ((ext n (rs.take j)).map dS)), some (dS r), none] S1 = some (.lst ((exts n r).map dS), S1) := by
        refine (eLc_ok (mk := fLst) (vs := [6]) (range1 (j := ((n : Nat) : Int)) rfl (by omega) (by omega)) (by
          have e : ((n : Nat) : Int).toNat = n := by omega
          rw [e, rangeD0]
          exact inner)).trans ((fLst_ok (by simp; omega)).trans ?_)
        unfold exts
        rw [List.map_map]
        rfl
      refine ⟨_, _, _, S1, rfl, .inl (sSet_ok (d := .lst ((ext n (rs.take (j + 1))).map dS)) (S1 := S1) ?_), trivial, rfl, _, rfl⟩
      rw [ext_take hkr]
      refine (e2s_ok (S1 := S1) rfl einner).trans ?_
      have hlen : ((ext n (rs.take j)).map dS ++ (exts n r).map dS).length ≤ 1000000 := by
        rw [List.length_append, List.length_map, List.length_map, ext_len]
        have : (rs.take j).length * n ≤ 100 * 4 := Nat.mul_le_mul (by simp; omega) hn
        have h2 : (exts n r).length ≤ 4 := by simp [exts]; omega
        omega
      simp only [fPlus, fCatL, lstD]
      rw [fLst_ok hlen, List.map_append]
  have e3 : ext n (rs.take (0 + (rs.map dS).length)) = ext n rs := by simp
  rw [e3] at h1
  refine ⟨y5, ?_⟩
  have p1 : sSet 4 (eA fLst aNil) [some (.int ((n : Nat) : Int)), x1, some (.lst (rs.map dS)), x3, x4, x5, none] S' = some (.nx [some (.int ((n : Nat) : Int)), x1, some (.lst (rs.map dS)), x3, some (.lst []), x5, none] S') := by simp
  have p2 := (sFor_ok (it := iSeq (eV 2)) (ρ := [some (.int ((n : Nat) : Int)), x1, some (.lst (rs.map dS)), x3, some (.lst []), x5, none]) (S := S') (S1 := S') (ds := rs.map dS) (chk := fun _ => True) rfl).trans h1
  refine (sSeq_nx p1).trans ((sSeq_nx p2).trans ?_)
  rfl
/-- all rows of two signs -/
def rows2 (n : Nat) : List (List Nat) := ext n (ext n [[]])
theorem rows_it (n : Nat) (x : Option D) (S : Sto) : iRange1 (eV 1) [some (.int ((n : Nat) : Int)), some (.int 2), x, none, none, none, none] S = some ([.int 0, .int 1], fun _ => True, S) := by
  simp [iRange1, rangeD, List.range_succ]
theorem rows_loop {n : Nat} {S : Sto} {y5 z5 : Option D} {A B C : D} {body : RS}
    (h1 : body [some (.int ((n : Nat) : Int)), some (.int 2), some A, some (.int 0), none, none, none] S = some (.nx [some (.int ((n : Nat) : Int)), some (.int 2), some B, some (.int 0), some B, y5, none] S))
    (h2 : body [some (.int ((n : Nat) : Int)), some (.int 2), some B, some (.int 1), some B, y5, none] S = some (.nx [some (.int ((n : Nat) : Int)), some (.int 2), some C, some (.int 1), some C, z5, none] S)) :
    sFor (iRange1 (eV 1)) (gNm 3) body [some (.int ((n : Nat) : Int)), some (.int 2), some A, none, none, none, none] S = some (.nx [some (.int ((n : Nat) : Int)), some (.int 2), some C, some (.int 1), some C, z5, none] S) := by
  refine (sFor_ok (rows_it n (some A) S)).trans ?_
  simp [forL, h1, h2]
theorem F_rows {n : Nat} (hn : n ≤ 4) (S : Sto) : F__law_rows_of [.int ((n : Nat) : Int), .int 2] S = some (.lst ((rows2 n).map dS), S) := by
  obtain ⟨y5, h1⟩ := ext_ok (n := n) (rs := [[]]) hn (by simp) (by simp) (some (.int 2)) (some (.int 0)) none none S
  obtain ⟨z5, h2⟩ := ext_ok (n := n) (rs := ext n [[]]) hn (by rw [ext_len]; simp; omega) (fun r hr => by
    obtain ⟨r0, s, h0, _, rfl⟩ := mem_ext hr
    rw [List.mem_singleton.mp h0]
    simp) (some (.int 2)) (some (.int 1)) (some (.lst ((ext n [[]]).map dS))) y5 S
  have p1 : sSet 2 (eA fLst (aCons (eA fTup aNil) aNil)) [some (.int ((n : Nat) : Int)), some (.int 2), none, none, none, none, none] S = some (.nx [some (.int ((n : Nat) : Int)), some (.int 2), some (.lst ([[]].map dS)), none, none, none, none] S) := by
    simp [dS]
  have p2 := rows_loop h1 h2
  have p3 : sRet (eV 2) [some (.int ((n : Nat) : Int)), some (.int 2), some (.lst ((ext n (ext n [[]])).map dS)), some (.int 1), some (.lst ((ext n (ext n [[]])).map dS)), z5, none] S = some (.rt (.lst ((ext n (ext n [[]])).map dS)) S) := sRet_ok (eV_ok rfl)
  have e := (sSeq_nx p1).trans ((sSeq_nx p2).trans p3)
  unfold F__law_rows_of rows2
  have e2 := fnD_rt (n := 2) (m := 7) (fin := finP) (ds := [.int ((n : Nat) : Int), .int 2]) (t := t__law_rows_of) (by simp) e
  exact e2.trans (finP_self (clos_lst (closL_map (fun r => clos_tup (closL_map (fun s => rfl) r)) _)) rfl)
theorem rows2_mem {n : Nat} {r : List Nat} (h : r ∈ rows2 n) : ∃ a b, a < n ∧ b < n ∧ r = [a, b] := by
  obtain ⟨r0, b, h0, hb, rfl⟩ := mem_ext h
  obtain ⟨r1, a, h1, ha, rfl⟩ := mem_ext h0
  rw [List.mem_singleton.mp h1]
  exact ⟨a, b, ha, hb, rfl⟩
end LW

set_option maxRecDepth 100000
set_option maxHeartbeats 4000000
namespace LW
open PySem DL
open Classical
def rsum (n : Nat) (f : Nat → Rat) : Rat := ((List.range n).map f).sum
theorem rsum_succ (n : Nat) (f : Nat → Rat) : rsum (n + 1) f = rsum n f + f n := by
  unfold rsum
  rw [List.range_succ, List.map_append, List.sum_append]
  simp [Rat.add_zero]
theorem rsum_zero (f : Nat → Rat) : rsum 0 f = 0 := rfl
theorem rsum_congr {n : Nat} {f g : Nat → Rat} (h : ∀ k, k < n → f k = g k) : rsum n f = rsum n g := by
  unfold rsum
  congr 1
  exact List.map_congr_left fun k hk => h k (List.mem_range.mp hk)
theorem rsum_add (n : Nat) (f g : Nat → Rat) : rsum n (fun k => f k + g k) = rsum n f + rsum n g := by
  induction n with
  | zero => simp [rsum_zero, Rat.add_zero]
  | succ n ih => rw [rsum_succ, rsum_succ, rsum_succ, ih]; grind
theorem rsum_mulr (n : Nat) (f : Nat → Rat) (b : Rat) : rsum n (fun k => f k * b) = rsum n f * b := by
  induction n with
  | zero => simp [rsum_zero, Rat.zero_mul]
  | succ n ih => rw [rsum_succ, rsum_succ, ih]; grind
theorem rsum_mull (n : Nat) (f : Nat → Rat) (b : Rat) : rsum n (fun k => b * f k) = b * rsum n f := by
  induction n with
  | zero => simp [rsum_zero, Rat.mul_zero]
  | succ n ih => rw [rsum_succ, rsum_succ, ih]; grind
theorem rsum_0 (n : Nat) : rsum n (fun _ => 0) = 0 := by
  induction n with
  | zero => rfl
  | succ n ih => rw [rsum_succ, ih, Rat.add_zero]
theorem rsum_swap (n m : Nat) (f : Nat → Nat → Rat) : rsum n (fun a => rsum m (fun b => f a b)) = rsum m (fun b => rsum n (fun a => f a b)) := by
  induction n with
  | zero => simp [rsum_zero, rsum_0]
  | succ n ih =>
    rw [rsum_succ, ih, ← rsum_add]
    exact rsum_congr fun b _ => (rsum_succ n _).symm
theorem sum_rsum {m : Nat} {v : List Rat} (h : v.length = m) : v.sum = rsum m (fun w => v.getD w 0) := by
  subst h
  unfold rsum
  congr 1
  apply List.ext_getElem
  · simp
  · intro i g1 g2
    simp [List.getD_eq_getElem?_getD, g1]
theorem sum_ext (n : Nat) (f : List Nat → Rat) : ∀ rs : List (List Nat), ((ext n rs).map f).sum = (rs.map fun r => rsum n fun s => f (r ++ [s])).sum
  | [] => rfl
  | r :: rs => by
    have ih := sum_ext n f rs
    unfold ext at ih ⊢
    rw [List.flatMap_cons, List.map_append, List.sum_append, ih]
    simp [exts, rsum, Function.comp_def]
theorem sum_rows2 (n : Nat) (f : List Nat → Rat) : ((rows2 n).map f).sum = rsum n fun a => rsum n fun b => f [a, b] := by
  unfold rows2
  rw [sum_ext, sum_ext]
  simp [Rat.add_zero]
theorem getD_moved {c : List (List Rat)} {v : List Rat} {m w : Nat} (hc : c.length = m) (hw : w < m) : (moved c v).getD w 0 = rsum m fun w' => v.getD w' 0 * (c.getD w' []).getD w 0 := by
  unfold moved
  rw [hc, getD_range, if_pos hw]
  unfold dots rsum
  rw [hc]
theorem getD_seen {t : List (List Rat)} {v : List Rat} {m s w : Nat} (hv : v.length = m) (hw : w < m) : (seen t s v).getD w 0 = v.getD w 0 * (t.getD w []).getD s 0 := by
  unfold seen
  rw [hv, getD_range, if_pos hw]
theorem Tb1.sum1 {n m w : Nat} {c : List (List Rat)} (h : Tb1 n m c) (hw : w < m) : rsum n (fun s => (c.getD w []).getD s 0) = 1 := by
  have hl := h.1
  have e : c.getD w [] = c[w] := by rw [List.getD_eq_getElem?_getD, List.getElem?_eq_getElem (by omega)]; rfl
  have hr := h.2 _ (List.getElem_mem (show w < c.length by omega))
  rw [e, ← sum_rsum hr.len]
  exact hr.row.sum
theorem jv2 {c t : List (List Rat)} {ws : List Rat} {a b : Nat} : jv c t [a, b] ws 2 = seen t b (moved c (seen t a ws)) := rfl
theorem mean_sum {m n : Nat} {ws : List Rat} {c t : List (List Rat)} (h : Set m n ws c t) {w : Nat} (hw : w < m) : ((rows2 n).map fun r => (jv c t r ws 2).getD w 0).sum = (moved c ws).getD w 0 := by
  rw [sum_rows2, getD_moved h.c.1 hw]
  have e : ∀ a, rsum n (fun b => (jv c t [a, b] ws 2).getD w 0) = rsum m fun w' => ws.getD w' 0 * (t.getD w' []).getD a 0 * (c.getD w' []).getD w 0 := fun a => by
    have e1 : rsum n (fun b => (jv c t [a, b] ws 2).getD w 0) = rsum n fun b => (moved c (seen t a ws)).getD w 0 * (t.getD w []).getD b 0 := rsum_congr fun b _ => by
      rw [jv2, getD_seen (m := m) (by rw [moved_len, h.c.1]) hw]
    rw [e1, rsum_mull, h.t.sum1 hw, Rat.mul_one, getD_moved h.c.1 hw]
    exact rsum_congr fun w' hw' => by rw [getD_seen h.ws.len hw']
  rw [rsum_congr fun a _ => e a, rsum_swap]
  refine rsum_congr fun w' hw' => ?_
  have e2 : rsum n (fun a => ws.getD w' 0 * (t.getD w' []).getD a 0 * (c.getD w' []).getD w 0) = rsum n (fun a => (ws.getD w' 0 * (c.getD w' []).getD w 0) * (t.getD w' []).getD a 0) := rsum_congr fun a _ => by grind
  rw [e2, rsum_mull, h.t.sum1 hw', Rat.mul_one]
theorem all_sum {m n : Nat} {ws : List Rat} {c t : List (List Rat)} (h : Set m n ws c t) : ((rows2 n).map fun r => (jv c t r ws 2).sum).sum = 1 := by
  have e : ((rows2 n).map fun r => (jv c t r ws 2).sum).sum = rsum m fun w => ((rows2 n).map fun r => (jv c t r ws 2).getD w 0).sum := by
    rw [sum_rows2]
    have e1 : (rsum n fun a => rsum n fun b => (jv c t [a, b] ws 2).sum) = rsum n fun a => rsum m fun w => rsum n fun b => (jv c t [a, b] ws 2).getD w 0 := rsum_congr fun a _ => by
      rw [← rsum_swap]
      exact rsum_congr fun b _ => sum_rsum (h.jlen _ 2)
    rw [e1, rsum_swap]
    exact rsum_congr fun w _ => (sum_rows2 n fun r => (jv c t r ws 2).getD w 0).symm
  rw [e, rsum_congr fun w hw => mean_sum h hw, rsum_congr fun w hw => getD_moved h.c.1 hw, rsum_swap]
  have e3 : (rsum m fun b => rsum m fun a => ws.getD b 0 * (c.getD b []).getD a 0) = rsum m fun b => ws.getD b 0 := rsum_congr fun b hb => by
    rw [rsum_mull, h.c.sum1 hb, Rat.mul_one]
  rw [e3, ← sum_rsum h.ws.len]
  exact h.ws.row.sum
end LW

set_option maxRecDepth 100000
set_option maxHeartbeats 4000000
namespace LW
open PySem DL
open Classical
theorem Sm.mono {n k : Nat} {q : Rat} (h : Sm n q) (hk : n ≤ k) : Sm k q := ⟨h.num.mono hk, h.den.mono hk⟩
theorem nn_zero : ∀ {v : List Rat}, (∀ q ∈ v, 0 ≤ q) → v.sum = 0 → ∀ q ∈ v, q = 0
  | [], _, _, q, h => by cases h
  | x :: v, hn, hs, q, hq => by
    rw [List.sum_cons] at hs
    have h0 := hn x List.mem_cons_self
    have h1 : 0 ≤ v.sum := by
      have hv : ∀ q ∈ v, 0 ≤ q := fun y hy => hn y (List.mem_cons_of_mem _ hy)
      clear hs hq hn h0
      induction v with
      | nil => exact Rat.le_refl
      | cons y v ih =>
        rw [List.sum_cons]
        have a := hv y List.mem_cons_self
        have b := ih fun z hz => hv z (List.mem_cons_of_mem _ hz)
        grind
    have hx : x = 0 := by grind
    have hv : v.sum = 0 := by grind
    rcases List.mem_cons.mp hq with e | e
    · rw [e]; exact hx
    · exact nn_zero (fun y hy => hn y (List.mem_cons_of_mem _ hy)) hv q e
def ms (m : Nat) (J : List Nat → List Rat) (rs : List (List Nat)) : List Rat := (List.range m).map fun w => (rs.map fun r => (J r).getD w 0).sum
theorem ms_len {m : Nat} {J : List Nat → List Rat} {rs : List (List Nat)} : (ms m J rs).length = m := by simp [ms]
theorem rows2_len {n : Nat} : (rows2 n).length = n * n := by
  unfold rows2
  rw [ext_len, ext_len]
  simp
theorem jr_in {m n : Nat} {ws : List Rat} {c t : List (List Rat)} (h : Set m n ws c t) (r : List Nat) : Lv 5 2 (jv c t r ws 2) := jv_in (ss := r) h.lv h.c h.t h.m4 2
theorem jr_sum {m n : Nat} {ws : List Rat} {c t : List (List Rat)} (h : Set m n ws c t) (r : List Nat) : In (B0 ^ 5) (4 ^ 3) (jv c t r ws 2).sum := by
  refine (sum_in (b0_pos 5) _ (jr_in h r)).mono (Nat.dvd_refl _) ?_
  rw [h.jlen]
  have := h.m4
  omega
theorem ms_in {m n : Nat} {ws : List Rat} {c t : List (List Rat)} (h : Set m n ws c t) {rs : List (List Nat)} (hl : rs.length ≤ 16) : Lv 5 4 (ms m (fun r => jv c t r ws 2) rs) := by
  intro q hq
  obtain ⟨w, _, rfl⟩ := List.mem_map.mp hq
  refine (sum_in (B := B0 ^ 5) (M := 4 ^ 2) (b0_pos 5) _ fun x hx => ?_).mono (Nat.dvd_refl _) ?_
  · obtain ⟨r, _, rfl⟩ := List.mem_map.mp hx
    exact getD_in (jr_in h r) w
  · rw [List.length_map]
    omega
theorem sums_in {m n : Nat} {ws : List Rat} {c t : List (List Rat)} (h : Set m n ws c t) {rs : List (List Nat)} (hl : rs.length ≤ 16) : In (B0 ^ 5) (4 ^ 5) (rs.map fun r => (jv c t r ws 2).sum).sum := by
  refine (sum_in (B := B0 ^ 5) (M := 4 ^ 3) (b0_pos 5) _ fun x hx => ?_).mono (Nat.dvd_refl _) ?_
  · obtain ⟨r, _, rfl⟩ := List.mem_map.mp hx
    exact jr_sum h r
  · rw [List.length_map]
    omega
theorem ms_snoc {m : Nat} {J : List Nat → List Rat} {rs : List (List Nat)} {r : List Nat} {w : Nat} (hw : w < m) : (ms m J (rs ++ [r])).getD w 0 = (ms m J rs).getD w 0 + (J r).getD w 0 := by
  unfold ms
  rw [getD_range, getD_range, if_pos hw, if_pos hw]
  simp [List.sum_append, Rat.add_zero]
theorem p2_step {m n kk : Nat} {ws : List Rat} {c t : List (List Rat)} (h1m : 1 ≤ m) (m4 : m ≤ 4) {r : List Nat} {J M M' : List Rat} {acc : List D} {U V : Sto} {x0 x2 x3 x10 y13 y14 : Option D}
    (aft : F_after [dT ws, dTT c, dTT t, dS r] U = some (if J.sum = 0 then .tup [dQ 0, .tup []] else .tup [dQ J.sum, dT (J.map fun q => q / J.sum)], U))
    (hget : U[kk]? = some (.lst acc)) (hset : U.set kk (.lst (acc ++ [dQ J.sum])) = V) (hlen : acc.length < 1000000) (hml : M.length = m) (hml2 : M'.length = m) (hmi : Lv 5 4 M) (hJl : J.length = m) (hJi : Lv 5 2 J) (hJs : In (B0 ^ 5) (4 ^ 3) J.sum)
    (hsn : ∀ w, w < m → M'.getD w 0 = M.getD w 0 + J.getD w 0) : ∃ y13' y14',
    sSeq (sAsg (eA F_after (aCons (eV 7) (aCons (eV 8) (aCons (eV 9) (aCons (eV 4) aNil))))) (gTp 2 (gsCons (gNm 13) (gsCons (gNm 14) gsNil))))
    (sSeq (sExpr (eM fAppend (eV 11) (aCons (eV 13) aNil)))
    (sIf (tBl (e2 fNe (eV 14) (eA fTup aNil))) (sSet 12 (eLc fLst (iRange1 (eV 5)) (gNm 15) tYesD (eA F__law_plus (aCons (e2 fIx (eV 12) (eV 15)) (aCons (eA F__law_times (aCons (eV 13) (aCons (e2 fIx (eV 14) (eV 15)) aNil))) aNil))) [15])) sPass))
      [x0, some (.obj 0), x2, x3, some (dS r), some (.int ((m : Nat) : Int)), some (.int ((n : Nat) : Int)), some (dT ws), some (dTT c), some (dTT t), x10, some (.obj kk), some (dL M), y13, y14, none, none] U
    = some (.nx [x0, some (.obj 0), x2, x3, some (dS r), some (.int ((m : Nat) : Int)), some (.int ((n : Nat) : Int)), some (dT ws), some (dTT c), some (dTT t), x10, some (.obj kk), some (dL M'), y13', y14', none, none] V) := by
  have asg : ∀ {e : RE} {g : RG} {ρ ρ2 : En} {d : D} {S : Sto}, e ρ S = some (d, S) → g d ρ S = some (ρ2, S) → sAsg e g ρ S = some (.nx ρ2 S) := fun h1 h2 => by
    unfold sAsg
    rw [h1]
    simp only [h2]
  have app : ∀ B : D, sExpr (eM fAppend (eV 11) (aCons (eV 13) aNil)) [x0, some (.obj 0), x2, x3, some (dS r), some (.int ((m : Nat) : Int)), some (.int ((n : Nat) : Int)), some (dT ws), some (dTT c), some (dTT t), x10, some (.obj kk), some (dL M), some (dQ J.sum), some B, none, none] U = some (.nx [x0, some (.obj 0), x2, x3, some (dS r), some (.int ((m : Nat) : Int)), some (.int ((n : Nat) : Int)), some (dT ws), some (dTT c), some (dTT t), x10, some (.obj kk), some (dL M), some (dQ J.sum), some B, none, none] V) := fun B =>
    sExpr_ok (((eM_ok (o := eV 11) (a := aCons (eV 13) aNil) rfl hget (aCons_ok rfl rfl)).trans (fAppend_ok hget hlen)).trans (by rw [hset]))
  by_cases h0 : J.sum = 0
  · rw [if_pos h0] at aft
    have p1 : sAsg (eA F_after (aCons (eV 7) (aCons (eV 8) (aCons (eV 9) (aCons (eV 4) aNil))))) (gTp 2 (gsCons (gNm 13) (gsCons (gNm 14) gsNil))) [x0, some (.obj 0), x2, x3, some (dS r), some (.int ((m : Nat) : Int)), some (.int ((n : Nat) : Int)), some (dT ws), some (dTT c), some (dTT t), x10, some (.obj kk), some (dL M), y13, y14, none, none] U = some (.nx [x0, some (.obj 0), x2, x3, some (dS r), some (.int ((m : Nat) : Int)), some (.int ((n : Nat) : Int)), some (dT ws), some (dTT c), some (dTT t), x10, some (.obj kk), some (dL M), some (dQ J.sum), some (.tup []), none, none] U) :=
      asg ((eA_ok (aCons_ok rfl (aCons_ok rfl (aCons_ok rfl (aCons_ok rfl rfl))))).trans aft) (by rw [h0]; simp)
    have p3 : sIf (tBl (e2 fNe (eV 14) (eA fTup aNil))) (sSet 12 (eLc fLst (iRange1 (eV 5)) (gNm 15) tYesD (eA F__law_plus (aCons (e2 fIx (eV 12) (eV 15)) (aCons (eA F__law_times (aCons (eV 13) (aCons (e2 fIx (eV 14) (eV 15)) aNil))) aNil))) [15])) sPass [x0, some (.obj 0), x2, x3, some (dS r), some (.int ((m : Nat) : Int)), some (.int ((n : Nat) : Int)), some (dT ws), some (dTT c), some (dTT t), x10, some (.obj kk), some (dL M), some (dQ J.sum), some (.tup []), none, none] V = some (.nx [x0, some (.obj 0), x2, x3, some (dS r), some (.int ((m : Nat) : Int)), some (.int ((n : Nat) : Int)), some (dT ws), some (dTT c), some (dTT t), x10, some (.obj kk), some (dL M), some (dQ J.sum), some (.tup []), none, none] V) := by
      refine (sIf_f (S1 := V) ?_).trans rfl
      have := fNe_self (d := .tup []) (S := V) (DaL.tup (n := 0) .nil)
      simp [this]
    have em : M' = M := by
      apply List.ext_getElem
      · rw [hml, hml2]
      · intro i g1 g2
        have hi : i < m := by rw [hml2] at g1; exact g1
        have := hsn i hi
        rw [List.getD_eq_getElem?_getD, List.getD_eq_getElem?_getD, List.getD_eq_getElem?_getD, List.getElem?_eq_getElem g1, List.getElem?_eq_getElem g2, List.getElem?_eq_getElem (by omega)] at this
        have z := nn_zero (fun q hq => (hJi q hq).nn) h0 _ (List.getElem_mem (show i < J.length by omega))
        simp only [Option.getD_some] at this
        rw [this, z, Rat.add_zero]
    rw [em]
    exact ⟨_, _, (sSeq_nx p1).trans ((sSeq_nx (app _)).trans p3)⟩
  · rw [if_neg h0] at aft
    have hp : 0 < J.sum.num := by
      have a1 := (hJs.num (b0_pos 5)).1
      have a2 : J.sum.num ≠ 0 := fun z => h0 (Rat.num_eq_zero.mp z)
      omega
    have sJ := sm_of hJs (by omega) (by omega)
    have p1 : sAsg (eA F_after (aCons (eV 7) (aCons (eV 8) (aCons (eV 9) (aCons (eV 4) aNil))))) (gTp 2 (gsCons (gNm 13) (gsCons (gNm 14) gsNil))) [x0, some (.obj 0), x2, x3, some (dS r), some (.int ((m : Nat) : Int)), some (.int ((n : Nat) : Int)), some (dT ws), some (dTT c), some (dTT t), x10, some (.obj kk), some (dL M), y13, y14, none, none] U = some (.nx [x0, some (.obj 0), x2, x3, some (dS r), some (.int ((m : Nat) : Int)), some (.int ((n : Nat) : Int)), some (dT ws), some (dTT c), some (dTT t), x10, some (.obj kk), some (dL M), some (dQ J.sum), some (dT (J.map fun q => q / J.sum)), none, none] U) :=
      asg ((eA_ok (aCons_ok rfl (aCons_ok rfl (aCons_ok rfl (aCons_ok rfl rfl))))).trans aft) (by simp)
    have inner := compL_map (i := 15) (e := eA F__law_plus (aCons (e2 fIx (eV 12) (eV 15)) (aCons (eA F__law_times (aCons (eV 13) (aCons (e2 fIx (eV 14) (eV 15)) aNil))) aNil))) (chk := fun _ => True) (ρ := [x0, some (.obj 0), x2, x3, some (dS r), some (.int ((m : Nat) : Int)), some (.int ((n : Nat) : Int)), some (dT ws), some (dTT c), some (dTT t), x10, some (.obj kk), some (dL M), some (dQ J.sum), some (dT (J.map fun q => q / J.sum)), none, none]) (S := V) trivial
      (fun i : Nat => D.int ((i : Nat) : Int)) (fun w => dQ (M.getD w 0 + J.getD w 0)) (List.range m) fun w hw => by
        have hw := List.mem_range.mp hw
        have eb : (J.map fun q => q / J.sum).getD w 0 = J.getD w 0 / J.sum := by
          rw [List.getD_eq_getElem?_getD, List.getD_eq_getElem?_getD, List.getElem?_map, List.getElem?_eq_getElem (by omega)]
          rfl
        have jw := sm_of (getD_in hJi w) (by omega) (by omega)
        have f1 := F_lt (sJ.mono (show 600 ≤ 1200 by omega)) (sm_div jw sJ hp) (by omega) V
        have ep : J.sum * (J.getD w 0 / J.sum) = J.getD w 0 := by grind
        rw [ep] at f1
        have f2 := F_lp (sm_of (getD_in hmi w) (by omega) (by omega)) jw (by omega) V
        have i1 := fIx_T (v := J.map fun q => q / J.sum) (k := w) (by rw [List.length_map]; omega) V
        rw [eb] at i1
        exact (eA_ok (aCons_ok (e2_ok rfl rfl (fIx_L (by rw [hml]; exact hw) V)) (aCons_ok ((eA_ok (aCons_ok rfl (aCons_ok (e2_ok rfl rfl i1) rfl))).trans f1) rfl))).trans f2
    have em : (List.range m).map (fun w => dQ (M.getD w 0 + J.getD w 0)) = M'.map dQ := by
      have e1 : M' = (List.range m).map fun w => M'.getD w 0 := by
        apply List.ext_getElem
        · rw [hml2]; simp
        · intro i g1 g2
          simp [List.getD_eq_getElem?_getD, g1]
      rw [e1, List.map_map]
      apply List.map_congr_left
      intro w hw
      simp only [Function.comp]
      rw [hsn w (List.mem_range.mp hw)]
    have p3 : sIf (tBl (e2 fNe (eV 14) (eA fTup aNil))) (sSet 12 (eLc fLst (iRange1 (eV 5)) (gNm 15) tYesD (eA F__law_plus (aCons (e2 fIx (eV 12) (eV 15)) (aCons (eA F__law_times (aCons (eV 13) (aCons (e2 fIx (eV 14) (eV 15)) aNil))) aNil))) [15])) sPass [x0, some (.obj 0), x2, x3, some (dS r), some (.int ((m : Nat) : Int)), some (.int ((n : Nat) : Int)), some (dT ws), some (dTT c), some (dTT t), x10, some (.obj kk), some (dL M), some (dQ J.sum), some (dT (J.map fun q => q / J.sum)), none, none] V = some (.nx [x0, some (.obj 0), x2, x3, some (dS r), some (.int ((m : Nat) : Int)), some (.int ((n : Nat) : Int)), some (dT ws), some (dTT c), some (dTT t), x10, some (.obj kk), some (dL M'), some (dQ J.sum), some (dT (J.map fun q => q / J.sum)), none, none] V) := by
      have en : fNe (dT (J.map fun q => q / J.sum)) (.tup []) V = some (.bl true) := by
        have := fNe_tnil (S := V) (DaL.map (n := 1) (f := dQ) (fun q : Rat => Da.dQ (q := q)) (J.map fun q => q / J.sum))
        have e2 : ((J.map fun q => q / J.sum).map dQ).isEmpty = false := by
          have := h1m
          cases J with
          | nil => simp at hJl; omega
          | cons q J => rfl
        rw [e2] at this
        exact this
      have e9 := (eLc_ok (mk := fLst) (vs := [15]) (range1 (e := eV 5) (j := ((m : Nat) : Int)) (ρ := [x0, some (.obj 0), x2, x3, some (dS r), some (.int ((m : Nat) : Int)), some (.int ((n : Nat) : Int)), some (dT ws), some (dTT c), some (dTT t), x10, some (.obj kk), some (dL M), some (dQ J.sum), some (dT (J.map fun q => q / J.sum)), none, none]) (S := V) rfl (by omega) (by omega)) (by
        have e : ((m : Nat) : Int).toNat = m := by omega
        rw [e, rangeD0]
        exact inner)).trans (fLst_ok (by simp; omega))
      rw [em] at e9
      refine (sIf_t (S1 := V) ?_).trans (sSet_ok e9)
      unfold tBl
      rw [e2_ok (a := eV 14) (b := eA fTup aNil) (f := fNe) (S := V) rfl (by simp) en]
    exact ⟨_, _, (sSeq_nx p1).trans ((sSeq_nx (app _)).trans p3)⟩
end LW

set_option maxRecDepth 100000
set_option maxHeartbeats 4000000
namespace LW
open PySem DL
open Classical
theorem rows_seq {n : Nat} (hn : n ≤ 4) {ρ : En} (h : ∀ S, eV 6 ρ S = some (.int ((n : Nat) : Int), S)) (S : Sto) : iSeq (eA F__law_rows_of (aCons (eV 6) (aCons (eC (.int 2)) aNil))) ρ S = some ((rows2 n).map dS, fun _ => True, S) := by
  have fr := F_rows hn S
  have e := (eA_ok (f := F__law_rows_of) (aCons_ok (h S) (aCons_ok (a := eC (.int 2)) (x := .int 2) (S1 := S) (by simp) (r := aNil) (xs := []) (S2 := S) (by simp)))).trans fr
  unfold iSeq
  rw [e]
theorem p2_loop {m n : Nat} {ws : List Rat} {c t : List (List Rat)} (h : Set m n ws c t) (P : Cell) (T : Sto) (x0 x2 x3 x4 x10 : Option D) (x13 x14 : Option D) :
    ∃ y4 y13 y14, forL (gNm 4) (sSeq (sAsg (eA F_after (aCons (eV 7) (aCons (eV 8) (aCons (eV 9) (aCons (eV 4) aNil))))) (gTp 2 (gsCons (gNm 13) (gsCons (gNm 14) gsNil))))
    (sSeq (sExpr (eM fAppend (eV 11) (aCons (eV 13) aNil)))
    (sIf (tBl (e2 fNe (eV 14) (eA fTup aNil))) (sSet 12 (eLc fLst (iRange1 (eV 5)) (gNm 15) tYesD (eA F__law_plus (aCons (e2 fIx (eV 12) (eV 15)) (aCons (eA F__law_times (aCons (eV 13) (aCons (e2 fIx (eV 14) (eV 15)) aNil))) aNil))) [15])) sPass))) (fun _ => True) ((rows2 n).map dS)
      [x0, some (.obj 0), x2, x3, x4, some (.int ((m : Nat) : Int)), some (.int ((n : Nat) : Int)), some (dT ws), some (dTT c), some (dTT t), x10, some (.obj (T.length + 1)), some (dL (ms m (fun r => jv c t r ws 2) [])), x13, x14, none, none] (P :: (T ++ [.lst []]))
    = some (.nx [x0, some (.obj 0), x2, x3, y4, some (.int ((m : Nat) : Int)), some (.int ((n : Nat) : Int)), some (dT ws), some (dTT c), some (dTT t), x10, some (.obj (T.length + 1)), some (dL (ms m (fun r => jv c t r ws 2) (rows2 n))), y13, y14, none, none] (P :: (T ++ [.lst (((rows2 n).map fun r => (jv c t r ws 2).sum).map dQ)]))) := by
  have m4 := h.m4
  have n4 := h.n4
  have hrl : (rows2 n).length ≤ 16 := by
    rw [rows2_len]
    have := Nat.mul_le_mul n4 n4
    omega
  obtain ⟨ρ', S', h1, hS', y4, y13, y14, hρ'⟩ := forL_ind (g := gNm 4) (b := sSeq (sAsg (eA F_after (aCons (eV 7) (aCons (eV 8) (aCons (eV 9) (aCons (eV 4) aNil))))) (gTp 2 (gsCons (gNm 13) (gsCons (gNm 14) gsNil))))
    (sSeq (sExpr (eM fAppend (eV 11) (aCons (eV 13) aNil)))
    (sIf (tBl (e2 fNe (eV 14) (eA fTup aNil))) (sSet 12 (eLc fLst (iRange1 (eV 5)) (gNm 15) tYesD (eA F__law_plus (aCons (e2 fIx (eV 12) (eV 15)) (aCons (eA F__law_times (aCons (eV 13) (aCons (e2 fIx (eV 14) (eV 15)) aNil))) aNil))) [15])) sPass))) (chk := fun _ => True)
    (fun j ρ S' => S' = P :: (T ++ [.lst (((rows2 n).take j).map (fun r => (jv c t r ws 2).sum) |>.map dQ)]) ∧ ∃ y4 y13 y14, ρ = [x0, some (.obj 0), x2, x3, y4, some (.int ((m : Nat) : Int)), some (.int ((n : Nat) : Int)), some (dT ws), some (dTT c), some (dTT t), x10, some (.obj (T.length + 1)), some (dL (ms m (fun r => jv c t r ws 2) ((rows2 n).take j))), y13, y14, none, none])
    ((rows2 n).map dS) 0 [x0, some (.obj 0), x2, x3, x4, some (.int ((m : Nat) : Int)), some (.int ((n : Nat) : Int)), some (dT ws), some (dTT c), some (dTT t), x10, some (.obj (T.length + 1)), some (dL (ms m (fun r => jv c t r ws 2) [])), x13, x14, none, none] (P :: (T ++ [.lst []])) ⟨by simp, x4, x13, x14, by simp⟩ fun j d ρ S1 hk ⟨e, y4, y13, y14, eρ⟩ => by
      subst e eρ
      rw [Nat.zero_add]
      rw [List.getElem?_map] at hk
      obtain ⟨r, hkr, rfl⟩ := Option.map_eq_some_iff.mp hk
      have hm : r ∈ rows2 n := List.mem_of_getElem? hkr
      have htk : (rows2 n).take (j + 1) = (rows2 n).take j ++ [r] := by rw [List.take_add_one, hkr]; rfl
      obtain ⟨a, b, ha, hb, er⟩ := rows2_mem hm
      have hrl2 : r.length = 2 := by rw [er]; rfl
      have hrs : ∀ s ∈ r, s < n := fun s hs => by
        rw [er] at hs
        simp at hs
        rcases hs with e | e <;> omega
      have hne : r ≠ [] := fun z => by rw [z] at hrl2; simp at hrl2
      have htl : ((rows2 n).take j).length ≤ 16 := by simp; omega
      rw [htk]
      have aft := F_aft h hrs (by omega) (P :: (T ++ [.lst (((rows2 n).take j).map (fun r => (jv c t r ws 2).sum) |>.map dQ)]))
      have hget : (P :: (T ++ [Cell.lst (((rows2 n).take j).map (fun r => (jv c t r ws 2).sum) |>.map dQ)]))[T.length + 1]? = some (.lst (((rows2 n).take j).map (fun r => (jv c t r ws 2).sum) |>.map dQ)) := by simp
      have hset : (P :: (T ++ [Cell.lst (((rows2 n).take j).map (fun r => (jv c t r ws 2).sum) |>.map dQ)])).set (T.length + 1) (.lst ((((rows2 n).take j).map (fun r => (jv c t r ws 2).sum) |>.map dQ) ++ [dQ (jv c t r ws 2).sum])) = P :: (T ++ [.lst (((rows2 n).take j ++ [r]).map (fun r => (jv c t r ws 2).sum) |>.map dQ)]) := by
        simp [List.set_append_right]
      have hlen : (((rows2 n).take j).map (fun r => (jv c t r ws 2).sum) |>.map dQ).length < 1000000 := by simp; omega
      have hmi := ms_in h htl
      generalize ((rows2 n).take j) = rs at aft hget hset hlen hmi ⊢
      generalize (rs.map (fun r => (jv c t r ws 2).sum)).map dQ = acc at aft hget hset hlen ⊢
      generalize P :: (T ++ [Cell.lst acc]) = U at aft hget hset ⊢
      generalize P :: (T ++ [Cell.lst (((rs ++ [r]).map (fun r => (jv c t r ws 2).sum)).map dQ)]) = V at hset ⊢
      have hJl := h.jlen r 2
      have hJi := jr_in h r
      have hJs := jr_sum h r
      have hsn : ∀ w, w < m → (ms m (fun r => jv c t r ws 2) (rs ++ [r])).getD w 0 = (ms m (fun r => jv c t r ws 2) rs).getD w 0 + (jv c t r ws 2).getD w 0 := fun w hw => ms_snoc hw
      unfold due at aft
      rw [if_neg hne, hrl2] at aft
      obtain ⟨z13, z14, e9⟩ := p2_step (x0 := x0) (x2 := x2) (x3 := x3) (x10 := x10) (y13 := y13) (y14 := y14) (n := n) h.m1 m4 aft hget hset hlen ms_len ms_len hmi hJl hJi hJs hsn
      exact ⟨_, U, _, V, rfl, .inl e9, trivial, rfl, some (dS r), z13, z14, rfl⟩
  have e3 : (rows2 n).take (0 + ((rows2 n).map dS).length) = rows2 n := List.take_of_length_le (by rw [List.length_map]; omega)
  rw [e3] at hS' hρ'
  rw [hS', hρ'] at h1
  exact ⟨y4, y13, y14, h1⟩
end LW

set_option maxRecDepth 100000
set_option maxHeartbeats 4000000
namespace LW
open PySem DL
open Classical
theorem sFor_sq {it : RI} {g : RG} {b : RS} {ρ : En} {S S1 : Sto} {ds : List D} {chk : Sto → Prop} {o : Option Out} (h : it ρ S = some (ds, chk, S1)) (h1 : forL g b chk ds ρ S1 = o) : sFor it g b ρ S = o := (sFor_ok h).trans h1
theorem part2 {m n : Nat} {ws : List Rat} {c t : List (List Rat)} (h : Set m n ws c t) (P : Cell) (T : Sto) (x0 x2 x3 x4 x10 : Option D) (x13 x14 : Option D) :
    ∃ y4 y13 y14, sFor (iSeq (eA F__law_rows_of (aCons (eV 6) (aCons (eC (.int 2)) aNil)))) (gNm 4) (sSeq (sAsg (eA F_after (aCons (eV 7) (aCons (eV 8) (aCons (eV 9) (aCons (eV 4) aNil))))) (gTp 2 (gsCons (gNm 13) (gsCons (gNm 14) gsNil))))
    (sSeq (sExpr (eM fAppend (eV 11) (aCons (eV 13) aNil)))
    (sIf (tBl (e2 fNe (eV 14) (eA fTup aNil))) (sSet 12 (eLc fLst (iRange1 (eV 5)) (gNm 15) tYesD (eA F__law_plus (aCons (e2 fIx (eV 12) (eV 15)) (aCons (eA F__law_times (aCons (eV 13) (aCons (e2 fIx (eV 14) (eV 15)) aNil))) aNil))) [15])) sPass)))
      [x0, some (.obj 0), x2, x3, x4, some (.int ((m : Nat) : Int)), some (.int ((n : Nat) : Int)), some (dT ws), some (dTT c), some (dTT t), x10, some (.obj (T.length + 1)), some (dL (ms m (fun r => jv c t r ws 2) [])), x13, x14, none, none] (P :: (T ++ [.lst []]))
    = some (.nx [x0, some (.obj 0), x2, x3, y4, some (.int ((m : Nat) : Int)), some (.int ((n : Nat) : Int)), some (dT ws), some (dTT c), some (dTT t), x10, some (.obj (T.length + 1)), some (dL (ms m (fun r => jv c t r ws 2) (rows2 n))), y13, y14, none, none] (P :: (T ++ [.lst (((rows2 n).map fun r => (jv c t r ws 2).sum).map dQ)]))) := by
  obtain ⟨y4, y13, y14, h1⟩ := p2_loop h P T x0 x2 x3 x4 x10 x13 x14
  have n4 := h.n4
  refine ⟨y4, y13, y14, ?_⟩
  clear h
  have h6 : ∀ S, eV 6 [x0, some (.obj 0), x2, x3, x4, some (.int ((m : Nat) : Int)), some (.int ((n : Nat) : Int)), some (dT ws), some (dTT c), some (dTT t), x10, some (.obj (T.length + 1)), some (dL (ms m (fun r => jv c t r ws 2) [])), x13, x14, none, none] S = some (.int ((n : Nat) : Int), S) := fun S => eV_ok rfl
  generalize [x0, some (.obj 0), x2, x3, x4, some (.int ((m : Nat) : Int)), some (.int ((n : Nat) : Int)), some (dT ws), some (dTT c), some (dTT t), x10, some (.obj (T.length + 1)), some (dL (ms m (fun r => jv c t r ws 2) [])), x13, x14, none, none] = ρ at h1 h6 ⊢
  generalize P :: (T ++ [Cell.lst []]) = U at h1 ⊢
  exact sFor_sq (rows_seq n4 h6 U) h1
end LW

set_option maxRecDepth 100000
set_option maxHeartbeats 4000000
namespace LW
open PySem DL
open Classical
theorem draw1 {rest : List Int} {T S : Sto} {ρ : En} (h1 : ρ[1]? = some (some (.obj 0))) (h : St rest T S) (hT : Cl T) : ∃ (m : Nat) (S' : Sto), e2s (fPlus fLst) (eC (.int 1)) (eA F__law_draw (aCons (eV 1) (aCons (eC (.int 4)) aNil))) ρ S = some (.int ((m : Nat) : Int), S') ∧ St rest T S' ∧ 1 ≤ m ∧ m ≤ 4 := by
  obtain ⟨r, S', e, hs, r0, r1⟩ := draw_st (m := 4) h hT (by omega) (by omega)
  refine ⟨(1 + r).toNat, S', ?_, hs, by omega, by omega⟩
  have hr : (((1 + r).toNat : Nat) : Int) = 1 + r := by omega
  rw [hr]
  refine e2s_ok (x := .int 1) (y := .int r) (S1 := S) (S2 := S') rfl ((eA_ok (xs := [.obj 0, .int 4]) (S1 := S) (aCons_ok (eV_ok h1) (aCons_ok (x := .int 4) (S1 := S) rfl rfl))).trans e) |>.trans rfl
theorem mn_st {rest : List Int} {T S : Sto} {ρ : En} (h1 : ρ[1]? = some (some (.obj 0))) (h : St rest T S) (hT : Cl T) : ∃ (m n : Nat) (S' : Sto), eA fTup (aCons (e2s (fPlus fLst) (eC (.int 1)) (eA F__law_draw (aCons (eV 1) (aCons (eC (.int 4)) aNil)))) (aCons (e2s (fPlus fLst) (eC (.int 1)) (eA F__law_draw (aCons (eV 1) (aCons (eC (.int 4)) aNil)))) aNil)) ρ S = some (.tup [.int ((m : Nat) : Int), .int ((n : Nat) : Int)], S') ∧ St rest T S' ∧ 1 ≤ m ∧ m ≤ 4 ∧ 1 ≤ n ∧ n ≤ 4 := by
  obtain ⟨m, S1, e1, hs1, m1, m4⟩ := draw1 h1 h hT
  obtain ⟨n, S2, e2, hs2, n1, n4⟩ := draw1 h1 hs1 hT
  exact ⟨m, n, S2, (eA_ok (aCons_ok e1 (aCons_ok e2 (r := aNil) (xs := []) (S2 := S2) rfl))).trans (fTup_ok (by simp)), hs2, m1, m4, n1, n4⟩
theorem row3_st {rest : List Int} {T S : Sto} {ρ : En} {m n : Nat} (h1 : ρ[1]? = some (some (.obj 0))) (h5 : ρ[5]? = some (some (.int ((m : Nat) : Int)))) (h6 : ρ[6]? = some (some (.int ((n : Nat) : Int)))) (h : St rest T S) (hT : Cl T) (m1 : 1 ≤ m) (m4 : m ≤ 4) (n1 : 1 ≤ n) (n4 : n ≤ 4) :
    ∃ (ws : List Rat) (c t : List (List Rat)) (S' : Sto), Set m n ws c t ∧ aCons (eA F__law_row (aCons (eV 1) (aCons (eV 5) aNil))) (aCons (eA F__law_change (aCons (eV 1) (aCons (eV 5) aNil))) (aCons (eA F__law_telling (aCons (eV 1) (aCons (eV 5) (aCons (eV 6) aNil)))) aNil)) ρ S = some ([dT ws, dTT c, dTT t], S') ∧ St rest T S' := by
  obtain ⟨ws, S1, e1, hs1, hl1, hr1⟩ := row_st (m := ((m : Nat) : Int)) h hT (by omega) (by omega)
  obtain ⟨c, S2, e2, hs2, hl2, hr2⟩ := change_st (m := ((m : Nat) : Int)) hs1 hT (by omega) (by omega)
  obtain ⟨t, S3, e3, hs3, hl3, hr3⟩ := telling_st (m := ((m : Nat) : Int)) (n := ((n : Nat) : Int)) hs2 hT (by omega) (by omega) (by omega) (by omega)
  rw [Int.toNat_natCast] at hl1 hl2 hl3 hr2 hr3
  refine ⟨ws, c, t, S3, ⟨m1, m4, n1, n4, ⟨hl1, hr1⟩, ⟨hl2, hr2⟩, ⟨hl3, hr3⟩⟩, ?_, hs3⟩
  exact aCons_ok ((eA_ok (aCons_ok (eV_ok h1) (aCons_ok (eV_ok h5) rfl))).trans e1) (aCons_ok ((eA_ok (aCons_ok (eV_ok h1) (aCons_ok (eV_ok h5) rfl))).trans e2) (aCons_ok ((eA_ok (aCons_ok (eV_ok h1) (aCons_ok (eV_ok h5) (aCons_ok (eV_ok h6) rfl)))).trans e3) rfl))
theorem nats_of_all {n : Nat} : ∀ {ys : List D}, (∀ (k : Nat) (y : D), ys[k]? = some y → ∃ s : Nat, y = .int ((s : Nat) : Int) ∧ s < n) → ∃ ss : List Nat, ys = ss.map (fun s : Nat => D.int ((s : Nat) : Int)) ∧ ∀ s ∈ ss, s < n
  | [], _ => ⟨[], rfl, fun i h => by cases h⟩
  | y :: ys, h => by
    obtain ⟨i, rfl, hi⟩ := h 0 y rfl
    obtain ⟨ns, rfl, hn⟩ := nats_of_all fun k y hk => h (k + 1) y (by simpa using hk)
    refine ⟨i :: ns, rfl, fun j hj => ?_⟩
    rcases List.mem_cons.mp hj with e | e
    · rw [e]; exact hi
    · exact hn j e
theorem signs_st {rest : List Int} {T S : Sto} {ρ : En} {n : Nat} (hl : 16 < ρ.length) (h1 : ρ[1]? = some (some (.obj 0))) (h6 : ρ[6]? = some (some (.int ((n : Nat) : Int)))) (h : St rest T S) (hT : Cl T) (n1 : 1 ≤ n) (n4 : n ≤ 4) :
    ∃ (ss : List Nat) (S' : Sto), eA fTupOf (aCons (eLc fLst (iRange1 (eA F__law_pick (aCons (eV 1) (aCons (eA fLst (aCons (eC (.int 0)) (aCons (eC (.int 1)) (aCons (eC (.int 2)) (aCons (eC (.int 3)) (aCons (eC (.int 5)) (aCons (eC (.int 8)) aNil))))))) aNil)))) (gNm 16) tYesD (eA F__law_draw (aCons (eV 1) (aCons (eV 6) aNil))) [16]) aNil) ρ S = some (dS ss, S') ∧ St rest T S' ∧ ss.length ≤ 8 ∧ ∀ s ∈ ss, s < n := by
  obtain ⟨d, S1, e1, hs1, hm⟩ := pick_st (ds := [.int 0, .int 1, .int 2, .int 3, .int 5, .int 8]) h hT (by simp) (by simp) (fun d hd => by simp at hd; rcases hd with z | z | z | z | z | z <;> rw [z] <;> exact ⟨rfl, rfl⟩)
  obtain ⟨k, rfl, k0, k8⟩ : ∃ k : Int, d = .int k ∧ 0 ≤ k ∧ k ≤ 8 := by
    simp at hm
    rcases hm with z | z | z | z | z | z <;> exact ⟨_, z, by decide, by decide⟩
  have ei := range1 (e := eA F__law_pick (aCons (eV 1) (aCons (eA fLst (aCons (eC (.int 0)) (aCons (eC (.int 1)) (aCons (eC (.int 2)) (aCons (eC (.int 3)) (aCons (eC (.int 5)) (aCons (eC (.int 8)) aNil))))))) aNil))) (ρ := ρ) (S := S) (S1 := S1) (j := k) ((eA_ok (aCons_ok (eV_ok h1) (aCons_ok (x := .lst [.int 0, .int 1, .int 2, .int 3, .int 5, .int 8]) (S1 := S) (by simp) (r := aNil) (xs := []) (S2 := S) rfl))).trans e1) k0 (by omega)
  obtain ⟨ys, S2, e2, hs2, hl2, hy⟩ := compL_inv (i := 16) (e := eA F__law_draw (aCons (eV 1) (aCons (eV 6) aNil))) (chk := fun _ => True) (ρ := wipeD ρ [16]) (St rest T) (fun _ y => ∃ s : Nat, y = .int ((s : Nat) : Int) ∧ s < n) (rangeD 0 k.toNat) 0 S1 hs1 fun j d S hk hs => by
    obtain ⟨r, S', e, hs', r0, r1⟩ := draw_st (m := ((n : Nat) : Int)) hs hT (by omega) (by omega)
    have g1 : ((wipeD ρ [16]).set 16 (some d))[1]? = some (some (.obj 0)) := by simp [h1]
    have g6 : ((wipeD ρ [16]).set 16 (some d))[6]? = some (some (.int ((n : Nat) : Int))) := by simp [h6]
    exact ⟨.int r, S', (eA_ok (aCons_ok (eV_ok g1) (aCons_ok (eV_ok g6) rfl))).trans e, trivial, hs', r.toNat, by rw [show ((r.toNat : Nat) : Int) = r by omega], by omega⟩
  obtain ⟨ss, rfl, hss⟩ := nats_of_all fun k y hk => hy k y hk
  have hl3 : ss.length ≤ 8 := by
    have : ss.length = k.toNat := by simpa [rangeD] using hl2
    omega
  refine ⟨ss, S2, ?_, hs2, hl3, hss⟩
  have e3 := (eLc_ok (mk := fLst) ei e2).trans (fLst_ok (by simp; omega))
  exact (eA_ok (aCons_ok e3 (r := aNil) (xs := []) (S2 := S2) rfl)).trans rfl
theorem same_f {a : RE} {x : D} {ρ : En} {S S1 : Sto} {i : Nat} (h : a ρ S = some (x, S1)) (hi : ρ[i]? = some (some x)) (hs : F__law_same 8 [x, x] S1 = some (.bl true, S1)) : tNotD (tTru (eA (F__law_same 8) (aCons a (aCons (eV i) aNil)))) ρ S = some (false, S1) := by
  have e := (eA_ok (f := F__law_same 8) (aCons_ok h (aCons_ok (eV_ok hi) (r := aNil) (xs := []) (S2 := S1) rfl))).trans hs
  simp only [tNotD, tTru, e, tru]
  rfl
theorem or_f {a b : RT} {ρ : En} {S S1 S2 : Sto} (h : a ρ S = some (false, S1)) (h2 : b ρ S1 = some (false, S2)) : tOrD a b ρ S = some (false, S2) := by
  simp only [tOrD, h, h2]
end LW

set_option maxRecDepth 100000
set_option maxHeartbeats 4000000
namespace LW
open PySem DL
open Classical
noncomputable abbrev inB : RS := (sSeq (sSet 4 (eA fTupOf (aCons (eLc fLst (iRange1 (eA F__law_pick (aCons (eV 1) (aCons (eA fLst (aCons (eC (.int 0)) (aCons (eC (.int 1)) (aCons (eC (.int 2)) (aCons (eC (.int 3)) (aCons (eC (.int 5)) (aCons (eC (.int 8)) aNil))))))) aNil)))) (gNm 16) tYesD (eA F__law_draw (aCons (eV 1) (aCons (eV 6) aNil))) [16]) aNil)))
    (sSeq (sSet 10 (eA F__law_due (aCons (eV 7) (aCons (eV 8) (aCons (eV 9) (aCons (eV 4) aNil))))))
    (sIf (tOrD (tNotD (tTru (eA (F__law_same 8) (aCons (eA F_after (aCons (eV 7) (aCons (eV 8) (aCons (eV 9) (aCons (eV 4) aNil))))) (aCons (eV 10) aNil))))) (tNotD (tTru (eA (F__law_same 8) (aCons (eA (fun xs S => F_after (pick [0, 1, 2, 3] xs) S) (aCons (eV 7) (aCons (eV 8) (aCons (eV 9) (aCons (eV 4) aNil))))) (aCons (eV 10) aNil)))))) (sRet (eC (.bl false))) sPass)))
theorem in_step {rest : List Int} {T S : Sto} {m n : Nat} {ws : List Rat} {c t : List (List Rat)} (hset : Set m n ws c t) (h : St rest T S) (hT : Cl T) (x0 x2 x3 x4 x10 x11 x12 x13 x14 : Option D) :
    ∃ y4 y10 S', inB [x0, some (.obj 0), x2, x3, x4, some (.int ((m : Nat) : Int)), some (.int ((n : Nat) : Int)), some (dT ws), some (dTT c), some (dTT t), x10, x11, x12, x13, x14, none, none] S
    = some (.nx [x0, some (.obj 0), x2, x3, y4, some (.int ((m : Nat) : Int)), some (.int ((n : Nat) : Int)), some (dT ws), some (dTT c), some (dTT t), y10, x11, x12, x13, x14, none, none] S') ∧ St rest T S' := by
  obtain ⟨ss, S1, e1, hs1, hl, hss⟩ := signs_st (ρ := [x0, some (.obj 0), x2, x3, x4, some (.int ((m : Nat) : Int)), some (.int ((n : Nat) : Int)), some (dT ws), some (dTT c), some (dTT t), x10, x11, x12, x13, x14, none, none]) (n := n) (by simp) rfl rfl h hT hset.n1 hset.n4
  have du := F_du hset hss hl S1
  have af := F_aft hset hss hl S1
  have sm := same_due hset ss S1
  generalize due ws c t ss = X at du af sm
  refine ⟨some (dS ss), some X, S1, ?_, hs1⟩
  have e2 : eA F__law_due (aCons (eV 7) (aCons (eV 8) (aCons (eV 9) (aCons (eV 4) aNil)))) [x0, some (.obj 0), x2, x3, some (dS ss), some (.int ((m : Nat) : Int)), some (.int ((n : Nat) : Int)), some (dT ws), some (dTT c), some (dTT t), x10, x11, x12, x13, x14, none, none] S1 = some (X, S1) :=
    (eA_ok (aCons_ok (eV_ok rfl) (aCons_ok (eV_ok rfl) (aCons_ok (eV_ok rfl) (aCons_ok (eV_ok rfl) rfl))))).trans du
  have e3 : eA F_after (aCons (eV 7) (aCons (eV 8) (aCons (eV 9) (aCons (eV 4) aNil)))) [x0, some (.obj 0), x2, x3, some (dS ss), some (.int ((m : Nat) : Int)), some (.int ((n : Nat) : Int)), some (dT ws), some (dTT c), some (dTT t), some X, x11, x12, x13, x14, none, none] S1 = some (X, S1) :=
    (eA_ok (aCons_ok (eV_ok rfl) (aCons_ok (eV_ok rfl) (aCons_ok (eV_ok rfl) (aCons_ok (eV_ok rfl) rfl))))).trans af
  have e4 : eA (fun xs S => F_after (pick [0, 1, 2, 3] xs) S) (aCons (eV 7) (aCons (eV 8) (aCons (eV 9) (aCons (eV 4) aNil)))) [x0, some (.obj 0), x2, x3, some (dS ss), some (.int ((m : Nat) : Int)), some (.int ((n : Nat) : Int)), some (dT ws), some (dTT c), some (dTT t), some X, x11, x12, x13, x14, none, none] S1 = some (X, S1) :=
    (eA_ok (aCons_ok (eV_ok rfl) (aCons_ok (eV_ok rfl) (aCons_ok (eV_ok rfl) (aCons_ok (eV_ok rfl) rfl))))).trans af
  exact (sSeq_nx (sSet_ok e1)).trans ((sSeq_nx (sSet_ok e2)).trans ((sIf_f (or_f (same_f e3 rfl sm) (same_f e4 rfl sm))).trans rfl))
theorem in_loop {rest : List Int} {T S : Sto} {m n : Nat} {ws : List Rat} {c t : List (List Rat)} (hset : Set m n ws c t) (h : St rest T S) (hT : Cl T) (x0 x2 x3 x4 x10 x11 x12 x13 x14 : Option D) :
    ∃ y3 y4 y10 S', sFor (iRange1 (eC (.int 6))) (gNm 3) inB [x0, some (.obj 0), x2, x3, x4, some (.int ((m : Nat) : Int)), some (.int ((n : Nat) : Int)), some (dT ws), some (dTT c), some (dTT t), x10, x11, x12, x13, x14, none, none] S
    = some (.nx [x0, some (.obj 0), x2, y3, y4, some (.int ((m : Nat) : Int)), some (.int ((n : Nat) : Int)), some (dT ws), some (dTT c), some (dTT t), y10, x11, x12, x13, x14, none, none] S') ∧ St rest T S' := by
  obtain ⟨ρ', S', h1, hS, y3, y4, y10, rfl⟩ := forL_ind (g := gNm 3) (b := inB) (chk := fun _ => True)
    (fun _ ρ S => St rest T S ∧ ∃ y3 y4 y10, ρ = [x0, some (.obj 0), x2, y3, y4, some (.int ((m : Nat) : Int)), some (.int ((n : Nat) : Int)), some (dT ws), some (dTT c), some (dTT t), y10, x11, x12, x13, x14, none, none])
    (rangeD 0 6) 0 [x0, some (.obj 0), x2, x3, x4, some (.int ((m : Nat) : Int)), some (.int ((n : Nat) : Int)), some (dT ws), some (dTT c), some (dTT t), x10, x11, x12, x13, x14, none, none] S ⟨h, x3, x4, x10, rfl⟩ fun k d ρ S1 hk ⟨hs, y3, y4, y10, eρ⟩ => by
      subst eρ
      obtain ⟨z4, z10, S2, e, hs2⟩ := in_step hset hs hT x0 x2 (some d) y4 y10 x11 x12 x13 x14
      exact ⟨_, S1, _, S2, rfl, .inl e, trivial, hs2, some d, z4, z10, rfl⟩
  exact ⟨y3, y4, y10, S', sFor_sq (ds := rangeD 0 6) (chk := fun _ => True) (S1 := S) (range1 (j := 6) rfl (by decide) (by decide)) h1, hS⟩
theorem init_ok {m : Nat} {ρ : En} {S : Sto} {J : List Nat → List Rat} (h5 : ρ[5]? = some (some (.int ((m : Nat) : Int)))) (m4 : m ≤ 4) :
    eA fTup (aCons (eA fObj aNil) (aCons (eLc fLst (iRange1 (eV 5)) (gNm 15) tYesD (eA fTup (aCons (eC (.int 0)) (aCons (eC (.int 1)) aNil))) [15]) aNil)) ρ S = some (.tup [.obj S.length, dL (ms m J [])], S ++ [.lst []]) := by
  have e1 : eA fObj aNil ρ S = some (.obj S.length, S ++ [.lst []]) := (eA_ok (xs := []) (S1 := S) rfl).trans (fObj_ok (by simp))
  have e2 := compL_map (i := 15) (e := eA fTup (aCons (eC (.int 0)) (aCons (eC (.int 1)) aNil))) (chk := fun _ => True) (ρ := wipeD ρ [15]) (S := S ++ [.lst []]) trivial (fun i : Nat => D.int ((i : Nat) : Int)) (fun _ => dQ 0) (List.range m) fun x _ => by simp [dQ0]
  rw [← rangeD0] at e2
  have e3 := (eLc_ok (mk := fLst) (vs := [15]) (range1 (e := eV 5) (ρ := ρ) (S := S ++ [.lst []]) (eV_ok h5) (by omega) (by omega)) (by rw [Int.toNat_natCast]; exact e2)).trans (fLst_ok (by simp; omega))
  have e4 : ((List.range m).map fun _ => dQ 0) = (ms m J []).map dQ := by simp [ms]
  rw [e4] at e3
  exact (eA_ok (aCons_ok e1 (aCons_ok e3 (r := aNil) (xs := []) (S2 := S ++ [.lst []]) rfl))).trans (fTup_ok (by simp))
theorem means_eq {m n : Nat} {ws : List Rat} {c t : List (List Rat)} (h : Set m n ws c t) : ms m (fun r => jv c t r ws 2) (rows2 n) = moved c ws := by
  have hl : (moved c ws).length = m := by rw [moved_len, h.c.1]
  refine List.ext_getElem (by rw [ms_len, hl]) fun i h1 h2 => ?_
  have hi : i < m := by rw [ms_len] at h1; exact h1
  have e := mean_sum h hi
  rw [List.getD_eq_getElem?_getD, List.getElem?_eq_getElem h2, Option.getD_some] at e
  rw [← e]
  simp [ms]
theorem total_end {m n : Nat} {ws : List Rat} {c t : List (List Rat)} (h : Set m n ws c t) (P : Cell) (T : Sto) : F__law_total [.obj (T.length + 1)] (P :: (T ++ [.lst (((rows2 n).map fun r => (jv c t r ws 2).sum).map dQ)])) = some (dQ 1, P :: (T ++ [.lst (((rows2 n).map fun r => (jv c t r ws 2).sum).map dQ)])) := by
  have n4 := h.n4
  have hrl : (rows2 n).length ≤ 16 := by
    rw [rows2_len]
    have := Nat.mul_le_mul n4 n4
    omega
  have hget : (P :: (T ++ [Cell.lst (((rows2 n).map fun r => (jv c t r ws 2).sum).map dQ)]))[T.length + 1]? = some (.lst (((rows2 n).map fun r => (jv c t r ws 2).sum).map dQ)) := by simp
  have a := all_sum h
  rw [← a]
  refine F_tot2 (n := 600) (chk := fun S => S[T.length + 1]? = some (.lst (((rows2 n).map fun r => (jv c t r ws 2).sum).map dQ))) hget (fun x y => ?_) (fun q hq => ?_) (fun k => ?_) (by omega)
  · generalize P :: (T ++ [Cell.lst (((rows2 n).map fun r => (jv c t r ws 2).sum).map dQ)]) = U at hget
    generalize ((rows2 n).map fun r => (jv c t r ws 2).sum).map dQ = ds at hget ⊢
    simp [iSeq, eV, hget]
  · obtain ⟨r, hr, rfl⟩ := List.mem_map.mp hq
    exact sm_of (jr_sum h r) (by omega) (by omega)
  · rw [← List.map_take]
    exact sm_of (sums_in h (rs := (rows2 n).take k) (by simp; omega)) (by omega) (by omega)
end LW

set_option maxRecDepth 100000
set_option maxHeartbeats 4000000
namespace LW
open PySem DL
open Classical
theorem tBl_ok {e : RE} {ρ : En} {S S1 : Sto} {b : Bool} (h : e ρ S = some (.bl b, S1)) : tBl e ρ S = some (b, S1) := by
  simp only [tBl, h]
noncomputable abbrev p2B : RS := (sSeq (sAsg (eA F_after (aCons (eV 7) (aCons (eV 8) (aCons (eV 9) (aCons (eV 4) aNil))))) (gTp 2 (gsCons (gNm 13) (gsCons (gNm 14) gsNil))))
    (sSeq (sExpr (eM fAppend (eV 11) (aCons (eV 13) aNil)))
    (sIf (tBl (e2 fNe (eV 14) (eA fTup aNil))) (sSet 12 (eLc fLst (iRange1 (eV 5)) (gNm 15) tYesD (eA F__law_plus (aCons (e2 fIx (eV 12) (eV 15)) (aCons (eA F__law_times (aCons (eV 13) (aCons (e2 fIx (eV 14) (eV 15)) aNil))) aNil))) [15])) sPass)))
noncomputable abbrev finB : RS := (sIf (tOrD (tBl (e2 fNe (eA F__law_total (aCons (eV 11) aNil)) (eA fTup (aCons (eC (.int 1)) (aCons (eC (.int 1)) aNil))))) (tBl (e2 fNe (eV 12) (eA F__law_moved (aCons (eV 8) (aCons (eA fListF (aCons (eV 7) aNil)) aNil)))))) (sRet (eC (.bl false))) sPass)
theorem fin_ok {m n : Nat} {ws : List Rat} {c t : List (List Rat)} (h : Set m n ws c t) {k : Nat} {S : Sto} {ρ : En} {M : List Rat} (h7 : ρ[7]? = some (some (dT ws))) (h8 : ρ[8]? = some (some (dTT c))) (h11 : ρ[11]? = some (some (.obj k))) (h12 : ρ[12]? = some (some (dL M)))
    (htot : F__law_total [.obj k] S = some (dQ 1, S)) (hM : M = moved c ws) : finB ρ S = some (.nx ρ S) := by
  subst hM
  have hmv := F_mv (a := 1) (b := 0) h.lv h.c h.ws.len h.m4 (by omega) (by omega) S
  have e1 : tBl (e2 fNe (eA F__law_total (aCons (eV 11) aNil)) (eA fTup (aCons (eC (.int 1)) (aCons (eC (.int 1)) aNil)))) ρ S = some (false, S) :=
    tBl_ok (e2_ok ((eA_ok (aCons_ok (eV_ok h11) (r := aNil) (xs := []) (S2 := S) rfl)).trans htot) (y := dQ 1) (S2 := S) (by simp [dQ1]) (fNe_self (n := 1) Da.dQ))
  have e2' : tBl (e2 fNe (eV 12) (eA F__law_moved (aCons (eV 8) (aCons (eA fListF (aCons (eV 7) aNil)) aNil)))) ρ S = some (false, S) := by
    have hl : eA fListF (aCons (eV 7) aNil) ρ S = some (dL ws, S) := (eA_ok (aCons_ok (eV_ok h7) (r := aNil) (xs := []) (S2 := S) rfl)).trans rfl
    exact tBl_ok (e2_ok (eV_ok h12) ((eA_ok (aCons_ok (eV_ok h8) (aCons_ok hl (r := aNil) (xs := []) (S2 := S) rfl))).trans hmv) (fNe_self (n := 2) (DaL.map (n := 1) (f := dQ) (fun q : Rat => Da.dQ (q := q)) (moved c ws)).lst))
  exact (sIf_f (or_f e1 e2')).trans rfl
noncomputable abbrev turnB : RS := (sSeq (sAsg (eA fTup (aCons (e2s (fPlus fLst) (eC (.int 1)) (eA F__law_draw (aCons (eV 1) (aCons (eC (.int 4)) aNil)))) (aCons (e2s (fPlus fLst) (eC (.int 1)) (eA F__law_draw (aCons (eV 1) (aCons (eC (.int 4)) aNil)))) aNil))) (gTp 2 (gsCons (gNm 5) (gsCons (gNm 6) gsNil))))
    (sSeq (sPar3 7 8 9 (aCons (eA F__law_row (aCons (eV 1) (aCons (eV 5) aNil))) (aCons (eA F__law_change (aCons (eV 1) (aCons (eV 5) aNil))) (aCons (eA F__law_telling (aCons (eV 1) (aCons (eV 5) (aCons (eV 6) aNil)))) aNil))))
    (sSeq (sFor (iRange1 (eC (.int 6))) (gNm 3) inB)
    (sSeq (sAsg (eA fTup (aCons (eA fObj aNil) (aCons (eLc fLst (iRange1 (eV 5)) (gNm 15) tYesD (eA fTup (aCons (eC (.int 0)) (aCons (eC (.int 1)) aNil))) [15]) aNil))) (gTp 2 (gsCons (gNm 11) (gsCons (gNm 12) gsNil))))
    (sSeq (sFor (iSeq (eA F__law_rows_of (aCons (eV 6) (aCons (eC (.int 2)) aNil)))) (gNm 4) p2B) finB)))))
def EnvOk (x0 : D) (ρ : En) : Prop := ∃ x2 x3 x4 x5 x6 x7 x8 x9 x10 x11 x12 x13 x14 : Option D, ρ = [some x0, some (.obj 0), x2, x3, x4, x5, x6, x7, x8, x9, x10, x11, x12, x13, x14, none, none]
theorem sAsg_ok {e : RE} {g : RG} {ρ ρ2 : En} {S S1 S2 : Sto} {d : D} (h : e ρ S = some (d, S1)) (h2 : g d ρ S1 = some (ρ2, S2)) : sAsg e g ρ S = some (.nx ρ2 S2) := by
  simp only [sAsg, h, h2]
theorem sPar3_ok {i j l : Nat} {a : RA} {ρ : En} {S S1 : Sto} {x y z : D} (h : a ρ S = some ([x, y, z], S1)) : sPar3 i j l a ρ S = some (.nx (((ρ.set i (some x)).set j (some y)).set l (some z)) S1) := by
  simp only [sPar3, h]
theorem turn_ok {rest : List Int} {T S : Sto} {x0 : D} {ρ : En} (he : EnvOk x0 ρ) (h : St rest T S) (hT : Cl T) : ∃ ρ' S' T', turnB ρ S = some (.nx ρ' S') ∧ EnvOk x0 ρ' ∧ St rest T' S' ∧ Cl T' := by
  obtain ⟨x2, x3, x4, x5, x6, x7, x8, x9, x10, x11, x12, x13, x14, rfl⟩ := he
  obtain ⟨m, n, S1, e1, hs1, m1, m4, n1, n4⟩ := mn_st (ρ := [some x0, some (.obj 0), x2, x3, x4, x5, x6, x7, x8, x9, x10, x11, x12, x13, x14, none, none]) rfl h hT
  obtain ⟨ws, c, t, S2, hset, e2, hs2⟩ := row3_st (ρ := [some x0, some (.obj 0), x2, x3, x4, some (.int ((m : Nat) : Int)), some (.int ((n : Nat) : Int)), x7, x8, x9, x10, x11, x12, x13, x14, none, none]) (m := m) (n := n) rfl rfl rfl hs1 hT m1 m4 n1 n4
  obtain ⟨y3, y4, y10, S3, e3, hs3⟩ := in_loop hset hs2 hT (some x0) x2 x3 x4 x10 x11 x12 x13 x14
  obtain ⟨a, b, cc, hp, rfl⟩ := hs3
  have e4 := init_ok (m := m) (ρ := [some x0, some (.obj 0), x2, y3, y4, some (.int ((m : Nat) : Int)), some (.int ((n : Nat) : Int)), some (dT ws), some (dTT c), some (dTT t), y10, x11, x12, x13, x14, none, none]) (S := pl a b cc rest :: T) (J := fun r => jv c t r ws 2) rfl m4
  obtain ⟨z4, z13, z14, e5⟩ := part2 hset (pl a b cc rest) T (some x0) x2 y3 y4 y10 x13 x14
  have e6 := fin_ok hset (k := T.length + 1) (S := pl a b cc rest :: (T ++ [.lst (((rows2 n).map fun r => (jv c t r ws 2).sum).map dQ)])) (ρ := [some x0, some (.obj 0), x2, y3, z4, some (.int ((m : Nat) : Int)), some (.int ((n : Nat) : Int)), some (dT ws), some (dTT c), some (dTT t), y10, some (.obj (T.length + 1)), some (dL (ms m (fun r => jv c t r ws 2) (rows2 n))), z13, z14, none, none]) rfl rfl rfl rfl (total_end hset _ T) (means_eq hset)
  have hcl : Cl (T ++ [.lst (((rows2 n).map fun r => (jv c t r ws 2).sum).map dQ)]) := hT.add (closL_map (fun q => rfl) _)
  refine ⟨[some x0, some (.obj 0), x2, y3, z4, some (.int ((m : Nat) : Int)), some (.int ((n : Nat) : Int)), some (dT ws), some (dTT c), some (dTT t), y10, some (.obj (T.length + 1)), some (dL (ms m (fun r => jv c t r ws 2) (rows2 n))), z13, z14, none, none], _, _, ?_, ⟨x2, y3, z4, some (.int ((m : Nat) : Int)), some (.int ((n : Nat) : Int)), some (dT ws), some (dTT c), some (dTT t), y10, some (.obj (T.length + 1)), some (dL (ms m (fun r => jv c t r ws 2) (rows2 n))), z13, z14, rfl⟩, ⟨a, b, cc, hp, rfl⟩, hcl⟩
  generalize ms m (fun r => jv c t r ws 2) [] = M0 at e4 e5
  generalize ms m (fun r => jv c t r ws 2) (rows2 n) = M1 at e5 e6 ⊢
  generalize T ++ [Cell.lst (((rows2 n).map fun r => (jv c t r ws 2).sum).map dQ)] = T9 at e5 e6 ⊢
  have f1 := sAsg_ok (g := gTp 2 (gsCons (gNm 5) (gsCons (gNm 6) gsNil))) e1 rfl
  have f2 := sPar3_ok (i := 7) (j := 8) (l := 9) e2
  have f4 := sAsg_ok (g := gTp 2 (gsCons (gNm 11) (gsCons (gNm 12) gsNil))) e4 rfl
  exact (sSeq_nx f1).trans ((sSeq_nx f2).trans ((sSeq_nx e3).trans ((sSeq_nx f4).trans ((sSeq_nx e5).trans e6))))
theorem pool_ok (ns : List Int) (hl : ns.length ≤ 63) : F__law_pool [.scr (ns.map D.int)] [] = some (.obj 0, [pl 0 7 3 ns]) := by
  unfold F__law_pool t__law_pool
  refine (fnD_rt (d := .obj 0) (S1 := [pl 0 7 3 ns]) rfl (sRet_ok ?_)).trans rfl
  simp [pl]
  omega
theorem law_loop {rest : List Int} {S : Sto} {x0 : D} {ρ : En} (he : EnvOk x0 ρ) (h : St rest [] S) : ∃ ρ' S', sFor (iRange1 (eC (.int 4))) (gNm 2) turnB ρ S = some (.nx ρ' S') := by
  obtain ⟨ρ', S', h1, -⟩ := forL_ind (g := gNm 2) (b := turnB) (chk := fun _ => True)
    (fun _ ρ S => EnvOk x0 ρ ∧ ∃ T, St rest T S ∧ Cl T) (rangeD 0 4) 0 ρ S ⟨he, [], h, fun ce hce => by cases hce⟩ fun k d ρ S1 hk ⟨he, T, hs, hT⟩ => by
      have he2 : EnvOk x0 (ρ.set 2 (some d)) := by
        obtain ⟨x2, x3, x4, x5, x6, x7, x8, x9, x10, x11, x12, x13, x14, rfl⟩ := he
        exact ⟨some d, x3, x4, x5, x6, x7, x8, x9, x10, x11, x12, x13, x14, rfl⟩
      obtain ⟨ρ', S', T', e, he', hs', hT'⟩ := turn_ok he2 hs hT
      exact ⟨_, S1, ρ', S', rfl, .inl e, trivial, he', T', hs', hT'⟩
  exact ⟨ρ', S', sFor_sq (ds := rangeD 0 4) (chk := fun _ => True) (S1 := S) (range1 (j := 4) rfl (by decide) (by decide)) h1⟩
theorem law_holds : ∀ ns : List Int, ns.length ≤ 63 → (∀ z ∈ ns, Builtin.Int.intBits z ≤ 1048576) → F_law [.scr (ns.map D.int)] [] = some (.bl true, []) := by
  intro ns hl hz
  have e1 : eA F__law_pool (aCons (eV 0) aNil) (startD 17 [.scr (ns.map D.int)]) [] = some (.obj 0, [pl 0 7 3 ns]) := (eA_ok (aCons_ok (eV_ok rfl) (r := aNil) (xs := []) (S2 := []) rfl)).trans (pool_ok ns hl)
  obtain ⟨ρ', S', e2⟩ := law_loop (rest := ns) (S := [pl 0 7 3 ns]) (x0 := .scr (ns.map D.int)) (ρ := (startD 17 [.scr (ns.map D.int)]).set 1 (some (.obj 0))) ⟨none, none, none, none, none, none, none, none, none, none, none, none, none, rfl⟩ ⟨0, 7, 3, ⟨by decide, by decide, by decide, by decide⟩, rfl⟩
  unfold F_law t_law
  refine (fnD_rt (d := .bl true) (S1 := S') rfl ?_).trans ?_
  · exact (sSeq_nx (sSet_ok e1)).trans ((sSeq_nx e2).trans (sRet_ok rfl))
  · simp
end LW

set_option maxRecDepth 100000
set_option maxHeartbeats 4000000
set_option pp.maxSteps 900
namespace LW
open PySem PySem.Spec PyProof.Rows L2 GX DL LamX
theorem all_mk {l : PySem.W.OpenLaw} {w : World} {K : PySem.W.Frag} {mg : Str → Option Value} {fa : Addr} {h : Heap} {q : Program} (KX : K.In h) (Gn : h.Ns mainGlobals mg) (hfa : mg "law" = some (.ref fa))
    (own : ∀ y : Str, ((recsOf q).any fun e => e.name == y) = true → ∀ f, mg y = some (.ref f) → OwnTab K f h)
    (hlaw : ∀ ns : List Int, ns.length ≤ 63 → (∀ z ∈ ns, Builtin.Int.intBits z ≤ 1048576) → F_law [.scr (ns.map D.int)] [] = some (.bl true, []))
    {f_common_part c_common_part : Addr} {od_common_part an_common_part : Option Addr} {sl_common_part : Array (Option Value)} {oc_common_part kV_common_part dc_common_part pm_common_part ct_common_part : Value}
    (a_common_part : PySem.W.nsIn K mainGlobals "common_part" = some (some (.ref f_common_part))) (l_common_part : K.lookup f_common_part = some ⟨oc_common_part, od_common_part, .func (PySem.W.fnOf "common_part" "common_part" (defArgs s_common_part) (defBody s_common_part) (defScope s_common_part) .none kV_common_part dc_common_part pm_common_part an_common_part (.ref c_common_part) ct_common_part), sl_common_part⟩) (d_common_part : PySem.W.codeIn K (.ref c_common_part) "common_part" = true) (k_common_part : PySem.W.keepIn K (.ref f_common_part) = true)
    {f_lowest c_lowest : Addr} {od_lowest an_lowest : Option Addr} {sl_lowest : Array (Option Value)} {oc_lowest kV_lowest dc_lowest pm_lowest ct_lowest : Value}
    (a_lowest : PySem.W.nsIn K mainGlobals "lowest" = some (some (.ref f_lowest))) (l_lowest : K.lookup f_lowest = some ⟨oc_lowest, od_lowest, .func (PySem.W.fnOf "lowest" "lowest" (defArgs s_lowest) (defBody s_lowest) (defScope s_lowest) .none kV_lowest dc_lowest pm_lowest an_lowest (.ref c_lowest) ct_lowest), sl_lowest⟩) (d_lowest : PySem.W.codeIn K (.ref c_lowest) "lowest" = true) (k_lowest : PySem.W.keepIn K (.ref f_lowest) = true)
    {f_bottom_of c_bottom_of : Addr} {od_bottom_of an_bottom_of : Option Addr} {sl_bottom_of : Array (Option Value)} {oc_bottom_of kV_bottom_of dc_bottom_of pm_bottom_of ct_bottom_of : Value}
    (a_bottom_of : PySem.W.nsIn K mainGlobals "bottom_of" = some (some (.ref f_bottom_of))) (l_bottom_of : K.lookup f_bottom_of = some ⟨oc_bottom_of, od_bottom_of, .func (PySem.W.fnOf "bottom_of" "bottom_of" (defArgs s_bottom_of) (defBody s_bottom_of) (defScope s_bottom_of) .none kV_bottom_of dc_bottom_of pm_bottom_of an_bottom_of (.ref c_bottom_of) ct_bottom_of), sl_bottom_of⟩) (d_bottom_of : PySem.W.codeIn K (.ref c_bottom_of) "bottom_of" = true) (k_bottom_of : PySem.W.keepIn K (.ref f_bottom_of) = true)
    {f_wholes c_wholes : Addr} {od_wholes an_wholes : Option Addr} {sl_wholes : Array (Option Value)} {oc_wholes kV_wholes dc_wholes pm_wholes ct_wholes : Value}
    (a_wholes : PySem.W.nsIn K mainGlobals "wholes" = some (some (.ref f_wholes))) (l_wholes : K.lookup f_wholes = some ⟨oc_wholes, od_wholes, .func (PySem.W.fnOf "wholes" "wholes" (defArgs s_wholes) (defBody s_wholes) (defScope s_wholes) .none kV_wholes dc_wholes pm_wholes an_wholes (.ref c_wholes) ct_wholes), sl_wholes⟩) (d_wholes : PySem.W.codeIn K (.ref c_wholes) "wholes" = true) (k_wholes : PySem.W.keepIn K (.ref f_wholes) = true)
    {f_rows_over c_rows_over : Addr} {od_rows_over an_rows_over : Option Addr} {sl_rows_over : Array (Option Value)} {oc_rows_over kV_rows_over dc_rows_over pm_rows_over ct_rows_over : Value}
    (a_rows_over : PySem.W.nsIn K mainGlobals "rows_over" = some (some (.ref f_rows_over))) (l_rows_over : K.lookup f_rows_over = some ⟨oc_rows_over, od_rows_over, .func (PySem.W.fnOf "rows_over" "rows_over" (defArgs s_rows_over) (defBody s_rows_over) (defScope s_rows_over) .none kV_rows_over dc_rows_over pm_rows_over an_rows_over (.ref c_rows_over) ct_rows_over), sl_rows_over⟩) (d_rows_over : PySem.W.codeIn K (.ref c_rows_over) "rows_over" = true) (k_rows_over : PySem.W.keepIn K (.ref f_rows_over) = true)
    {f__changed c__changed : Addr} {od__changed an__changed : Option Addr} {sl__changed : Array (Option Value)} {oc__changed kV__changed dc__changed pm__changed ct__changed : Value}
    (a__changed : PySem.W.nsIn K mainGlobals "_changed" = some (some (.ref f__changed))) (l__changed : K.lookup f__changed = some ⟨oc__changed, od__changed, .func (PySem.W.fnOf "_changed" "_changed" (defArgs s__changed) (defBody s__changed) (defScope s__changed) .none kV__changed dc__changed pm__changed an__changed (.ref c__changed) ct__changed), sl__changed⟩) (d__changed : PySem.W.codeIn K (.ref c__changed) "_changed" = true) (k__changed : PySem.W.keepIn K (.ref f__changed) = true)
    {f__heard c__heard : Addr} {od__heard an__heard : Option Addr} {sl__heard : Array (Option Value)} {oc__heard kV__heard dc__heard pm__heard ct__heard : Value}
    (a__heard : PySem.W.nsIn K mainGlobals "_heard" = some (some (.ref f__heard))) (l__heard : K.lookup f__heard = some ⟨oc__heard, od__heard, .func (PySem.W.fnOf "_heard" "_heard" (defArgs s__heard) (defBody s__heard) (defScope s__heard) .none kV__heard dc__heard pm__heard an__heard (.ref c__heard) ct__heard), sl__heard⟩) (d__heard : PySem.W.codeIn K (.ref c__heard) "_heard" = true) (k__heard : PySem.W.keepIn K (.ref f__heard) = true)
    {f_after c_after : Addr} {od_after an_after : Option Addr} {sl_after : Array (Option Value)} {oc_after kV_after dc_after pm_after ct_after : Value}
    (a_after : PySem.W.nsIn K mainGlobals "after" = some (some (.ref f_after))) (l_after : K.lookup f_after = some ⟨oc_after, od_after, .func (PySem.W.fnOf "after" "after" (defArgs s_after) (defBody s_after) (defScope s_after) .none kV_after dc_after pm_after an_after (.ref c_after) ct_after), sl_after⟩) (d_after : PySem.W.codeIn K (.ref c_after) "after" = true) (k_after : PySem.W.keepIn K (.ref f_after) = true)
    {f__law_pool c__law_pool : Addr} {od__law_pool an__law_pool : Option Addr} {sl__law_pool : Array (Option Value)} {oc__law_pool kV__law_pool dc__law_pool pm__law_pool ct__law_pool : Value}
    (a__law_pool : PySem.W.nsIn K mainGlobals "_law_pool" = some (some (.ref f__law_pool))) (l__law_pool : K.lookup f__law_pool = some ⟨oc__law_pool, od__law_pool, .func (PySem.W.fnOf "_law_pool" "_law_pool" (defArgs s__law_pool) (defBody s__law_pool) (defScope s__law_pool) .none kV__law_pool dc__law_pool pm__law_pool an__law_pool (.ref c__law_pool) ct__law_pool), sl__law_pool⟩) (d__law_pool : PySem.W.codeIn K (.ref c__law_pool) "_law_pool" = true) (k__law_pool : PySem.W.keepIn K (.ref f__law_pool) = true)
    {f__law_draw c__law_draw : Addr} {od__law_draw an__law_draw : Option Addr} {sl__law_draw : Array (Option Value)} {oc__law_draw kV__law_draw dc__law_draw pm__law_draw ct__law_draw : Value}
    (a__law_draw : PySem.W.nsIn K mainGlobals "_law_draw" = some (some (.ref f__law_draw))) (l__law_draw : K.lookup f__law_draw = some ⟨oc__law_draw, od__law_draw, .func (PySem.W.fnOf "_law_draw" "_law_draw" (defArgs s__law_draw) (defBody s__law_draw) (defScope s__law_draw) .none kV__law_draw dc__law_draw pm__law_draw an__law_draw (.ref c__law_draw) ct__law_draw), sl__law_draw⟩) (d__law_draw : PySem.W.codeIn K (.ref c__law_draw) "_law_draw" = true) (k__law_draw : PySem.W.keepIn K (.ref f__law_draw) = true)
    {f__law_pick c__law_pick : Addr} {od__law_pick an__law_pick : Option Addr} {sl__law_pick : Array (Option Value)} {oc__law_pick kV__law_pick dc__law_pick pm__law_pick ct__law_pick : Value}
    (a__law_pick : PySem.W.nsIn K mainGlobals "_law_pick" = some (some (.ref f__law_pick))) (l__law_pick : K.lookup f__law_pick = some ⟨oc__law_pick, od__law_pick, .func (PySem.W.fnOf "_law_pick" "_law_pick" (defArgs s__law_pick) (defBody s__law_pick) (defScope s__law_pick) .none kV__law_pick dc__law_pick pm__law_pick an__law_pick (.ref c__law_pick) ct__law_pick), sl__law_pick⟩) (d__law_pick : PySem.W.codeIn K (.ref c__law_pick) "_law_pick" = true) (k__law_pick : PySem.W.keepIn K (.ref f__law_pick) = true)
    {f__law_same c__law_same : Addr} {od__law_same an__law_same : Option Addr} {sl__law_same : Array (Option Value)} {oc__law_same kV__law_same dc__law_same pm__law_same ct__law_same : Value}
    (a__law_same : PySem.W.nsIn K mainGlobals "_law_same" = some (some (.ref f__law_same))) (l__law_same : K.lookup f__law_same = some ⟨oc__law_same, od__law_same, .func (PySem.W.fnOf "_law_same" "_law_same" (defArgs s__law_same) (defBody s__law_same) (defScope s__law_same) .none kV__law_same dc__law_same pm__law_same an__law_same (.ref c__law_same) ct__law_same), sl__law_same⟩) (d__law_same : PySem.W.codeIn K (.ref c__law_same) "_law_same" = true) (k__law_same : PySem.W.keepIn K (.ref f__law_same) = true)
    {f__law_fraction c__law_fraction : Addr} {od__law_fraction an__law_fraction : Option Addr} {sl__law_fraction : Array (Option Value)} {oc__law_fraction kV__law_fraction dc__law_fraction pm__law_fraction ct__law_fraction : Value}
    (a__law_fraction : PySem.W.nsIn K mainGlobals "_law_fraction" = some (some (.ref f__law_fraction))) (l__law_fraction : K.lookup f__law_fraction = some ⟨oc__law_fraction, od__law_fraction, .func (PySem.W.fnOf "_law_fraction" "_law_fraction" (defArgs s__law_fraction) (defBody s__law_fraction) (defScope s__law_fraction) .none kV__law_fraction dc__law_fraction pm__law_fraction an__law_fraction (.ref c__law_fraction) ct__law_fraction), sl__law_fraction⟩) (d__law_fraction : PySem.W.codeIn K (.ref c__law_fraction) "_law_fraction" = true) (k__law_fraction : PySem.W.keepIn K (.ref f__law_fraction) = true)
    {f__law_plus c__law_plus : Addr} {od__law_plus an__law_plus : Option Addr} {sl__law_plus : Array (Option Value)} {oc__law_plus kV__law_plus dc__law_plus pm__law_plus ct__law_plus : Value}
    (a__law_plus : PySem.W.nsIn K mainGlobals "_law_plus" = some (some (.ref f__law_plus))) (l__law_plus : K.lookup f__law_plus = some ⟨oc__law_plus, od__law_plus, .func (PySem.W.fnOf "_law_plus" "_law_plus" (defArgs s__law_plus) (defBody s__law_plus) (defScope s__law_plus) .none kV__law_plus dc__law_plus pm__law_plus an__law_plus (.ref c__law_plus) ct__law_plus), sl__law_plus⟩) (d__law_plus : PySem.W.codeIn K (.ref c__law_plus) "_law_plus" = true) (k__law_plus : PySem.W.keepIn K (.ref f__law_plus) = true)
    {f__law_times c__law_times : Addr} {od__law_times an__law_times : Option Addr} {sl__law_times : Array (Option Value)} {oc__law_times kV__law_times dc__law_times pm__law_times ct__law_times : Value}
    (a__law_times : PySem.W.nsIn K mainGlobals "_law_times" = some (some (.ref f__law_times))) (l__law_times : K.lookup f__law_times = some ⟨oc__law_times, od__law_times, .func (PySem.W.fnOf "_law_times" "_law_times" (defArgs s__law_times) (defBody s__law_times) (defScope s__law_times) .none kV__law_times dc__law_times pm__law_times an__law_times (.ref c__law_times) ct__law_times), sl__law_times⟩) (d__law_times : PySem.W.codeIn K (.ref c__law_times) "_law_times" = true) (k__law_times : PySem.W.keepIn K (.ref f__law_times) = true)
    {f__law_total c__law_total : Addr} {od__law_total an__law_total : Option Addr} {sl__law_total : Array (Option Value)} {oc__law_total kV__law_total dc__law_total pm__law_total ct__law_total : Value}
    (a__law_total : PySem.W.nsIn K mainGlobals "_law_total" = some (some (.ref f__law_total))) (l__law_total : K.lookup f__law_total = some ⟨oc__law_total, od__law_total, .func (PySem.W.fnOf "_law_total" "_law_total" (defArgs s__law_total) (defBody s__law_total) (defScope s__law_total) .none kV__law_total dc__law_total pm__law_total an__law_total (.ref c__law_total) ct__law_total), sl__law_total⟩) (d__law_total : PySem.W.codeIn K (.ref c__law_total) "_law_total" = true) (k__law_total : PySem.W.keepIn K (.ref f__law_total) = true)
    {f__law_row c__law_row : Addr} {od__law_row an__law_row : Option Addr} {sl__law_row : Array (Option Value)} {oc__law_row kV__law_row dc__law_row pm__law_row ct__law_row : Value}
    (a__law_row : PySem.W.nsIn K mainGlobals "_law_row" = some (some (.ref f__law_row))) (l__law_row : K.lookup f__law_row = some ⟨oc__law_row, od__law_row, .func (PySem.W.fnOf "_law_row" "_law_row" (defArgs s__law_row) (defBody s__law_row) (defScope s__law_row) .none kV__law_row dc__law_row pm__law_row an__law_row (.ref c__law_row) ct__law_row), sl__law_row⟩) (d__law_row : PySem.W.codeIn K (.ref c__law_row) "_law_row" = true) (k__law_row : PySem.W.keepIn K (.ref f__law_row) = true)
    {f__law_telling c__law_telling : Addr} {od__law_telling an__law_telling : Option Addr} {sl__law_telling : Array (Option Value)} {oc__law_telling kV__law_telling dc__law_telling pm__law_telling ct__law_telling : Value}
    (a__law_telling : PySem.W.nsIn K mainGlobals "_law_telling" = some (some (.ref f__law_telling))) (l__law_telling : K.lookup f__law_telling = some ⟨oc__law_telling, od__law_telling, .func (PySem.W.fnOf "_law_telling" "_law_telling" (defArgs s__law_telling) (defBody s__law_telling) (defScope s__law_telling) .none kV__law_telling dc__law_telling pm__law_telling an__law_telling (.ref c__law_telling) ct__law_telling), sl__law_telling⟩) (d__law_telling : PySem.W.codeIn K (.ref c__law_telling) "_law_telling" = true) (k__law_telling : PySem.W.keepIn K (.ref f__law_telling) = true)
    {f__law_change c__law_change : Addr} {od__law_change an__law_change : Option Addr} {sl__law_change : Array (Option Value)} {oc__law_change kV__law_change dc__law_change pm__law_change ct__law_change : Value}
    (a__law_change : PySem.W.nsIn K mainGlobals "_law_change" = some (some (.ref f__law_change))) (l__law_change : K.lookup f__law_change = some ⟨oc__law_change, od__law_change, .func (PySem.W.fnOf "_law_change" "_law_change" (defArgs s__law_change) (defBody s__law_change) (defScope s__law_change) .none kV__law_change dc__law_change pm__law_change an__law_change (.ref c__law_change) ct__law_change), sl__law_change⟩) (d__law_change : PySem.W.codeIn K (.ref c__law_change) "_law_change" = true) (k__law_change : PySem.W.keepIn K (.ref f__law_change) = true)
    {f__law_moved c__law_moved : Addr} {od__law_moved an__law_moved : Option Addr} {sl__law_moved : Array (Option Value)} {oc__law_moved kV__law_moved dc__law_moved pm__law_moved ct__law_moved : Value}
    (a__law_moved : PySem.W.nsIn K mainGlobals "_law_moved" = some (some (.ref f__law_moved))) (l__law_moved : K.lookup f__law_moved = some ⟨oc__law_moved, od__law_moved, .func (PySem.W.fnOf "_law_moved" "_law_moved" (defArgs s__law_moved) (defBody s__law_moved) (defScope s__law_moved) .none kV__law_moved dc__law_moved pm__law_moved an__law_moved (.ref c__law_moved) ct__law_moved), sl__law_moved⟩) (d__law_moved : PySem.W.codeIn K (.ref c__law_moved) "_law_moved" = true) (k__law_moved : PySem.W.keepIn K (.ref f__law_moved) = true)
    {f__law_joint c__law_joint : Addr} {od__law_joint an__law_joint : Option Addr} {sl__law_joint : Array (Option Value)} {oc__law_joint kV__law_joint dc__law_joint pm__law_joint ct__law_joint : Value}
    (a__law_joint : PySem.W.nsIn K mainGlobals "_law_joint" = some (some (.ref f__law_joint))) (l__law_joint : K.lookup f__law_joint = some ⟨oc__law_joint, od__law_joint, .func (PySem.W.fnOf "_law_joint" "_law_joint" (defArgs s__law_joint) (defBody s__law_joint) (defScope s__law_joint) .none kV__law_joint dc__law_joint pm__law_joint an__law_joint (.ref c__law_joint) ct__law_joint), sl__law_joint⟩) (d__law_joint : PySem.W.codeIn K (.ref c__law_joint) "_law_joint" = true) (k__law_joint : PySem.W.keepIn K (.ref f__law_joint) = true)
    {f__law_rows_of c__law_rows_of : Addr} {od__law_rows_of an__law_rows_of : Option Addr} {sl__law_rows_of : Array (Option Value)} {oc__law_rows_of kV__law_rows_of dc__law_rows_of pm__law_rows_of ct__law_rows_of : Value}
    (a__law_rows_of : PySem.W.nsIn K mainGlobals "_law_rows_of" = some (some (.ref f__law_rows_of))) (l__law_rows_of : K.lookup f__law_rows_of = some ⟨oc__law_rows_of, od__law_rows_of, .func (PySem.W.fnOf "_law_rows_of" "_law_rows_of" (defArgs s__law_rows_of) (defBody s__law_rows_of) (defScope s__law_rows_of) .none kV__law_rows_of dc__law_rows_of pm__law_rows_of an__law_rows_of (.ref c__law_rows_of) ct__law_rows_of), sl__law_rows_of⟩) (d__law_rows_of : PySem.W.codeIn K (.ref c__law_rows_of) "_law_rows_of" = true) (k__law_rows_of : PySem.W.keepIn K (.ref f__law_rows_of) = true)
    {f__law_due c__law_due : Addr} {od__law_due an__law_due : Option Addr} {sl__law_due : Array (Option Value)} {oc__law_due kV__law_due dc__law_due pm__law_due ct__law_due : Value}
    (a__law_due : PySem.W.nsIn K mainGlobals "_law_due" = some (some (.ref f__law_due))) (l__law_due : K.lookup f__law_due = some ⟨oc__law_due, od__law_due, .func (PySem.W.fnOf "_law_due" "_law_due" (defArgs s__law_due) (defBody s__law_due) (defScope s__law_due) .none kV__law_due dc__law_due pm__law_due an__law_due (.ref c__law_due) ct__law_due), sl__law_due⟩) (d__law_due : PySem.W.codeIn K (.ref c__law_due) "_law_due" = true) (k__law_due : PySem.W.keepIn K (.ref f__law_due) = true)
    {f_law c_law : Addr} {od_law an_law : Option Addr} {sl_law : Array (Option Value)} {oc_law kV_law dc_law pm_law ct_law : Value}
    (a_law : PySem.W.nsIn K mainGlobals "law" = some (some (.ref f_law))) (l_law : K.lookup f_law = some ⟨oc_law, od_law, .func (PySem.W.fnOf "law" "law" (defArgs s_law) (defBody s_law) (defScope s_law) .none kV_law dc_law pm_law an_law (.ref c_law) ct_law), sl_law⟩) (d_law : PySem.W.codeIn K (.ref c_law) "law" = true) (k_law : PySem.W.keepIn K (.ref f_law) = true)
    {P_wholes : Addr} {e_wholes : Value} {dd_wholes : Option Addr} {vs_wholes : Array Value} {s2_wholes : Array (Option Value)}
    (t_wholes : K.lookup c_wholes = some ⟨e_wholes, dd_wholes, .fields vs_wholes, s2_wholes⟩) (p_wholes : vs_wholes[11]? = some (.ref P_wholes)) (n_wholes : K.lookup P_wholes = none) (h_wholes : PySem.W.codeHdIn K c_wholes P_wholes = true) (r_wholes : ((recsOf q).any fun e => e.name == ("wholes" : Str)) = true)
    {P_rows_over : Addr} {e_rows_over : Value} {dd_rows_over : Option Addr} {vs_rows_over : Array Value} {s2_rows_over : Array (Option Value)}
    (t_rows_over : K.lookup c_rows_over = some ⟨e_rows_over, dd_rows_over, .fields vs_rows_over, s2_rows_over⟩) (p_rows_over : vs_rows_over[11]? = some (.ref P_rows_over)) (n_rows_over : K.lookup P_rows_over = none) (h_rows_over : PySem.W.codeHdIn K c_rows_over P_rows_over = true) (r_rows_over : ((recsOf q).any fun e => e.name == ("rows_over" : Str)) = true)
    {P_after : Addr} {e_after : Value} {dd_after : Option Addr} {vs_after : Array Value} {s2_after : Array (Option Value)}
    (t_after : K.lookup c_after = some ⟨e_after, dd_after, .fields vs_after, s2_after⟩) (p_after : vs_after[11]? = some (.ref P_after)) (n_after : K.lookup P_after = none) (h_after : PySem.W.codeHdIn K c_after P_after = true) (r_after : ((recsOf q).any fun e => e.name == ("after" : Str)) = true)
    (z_abs : PySem.W.nsIn K mainGlobals "abs" = some none)
    (z_bool : PySem.W.nsIn K mainGlobals "bool" = some none)
    (z_enumerate : PySem.W.nsIn K mainGlobals "enumerate" = some none)
    (z_int : PySem.W.nsIn K mainGlobals "int" = some none)
    (z_isinstance : PySem.W.nsIn K mainGlobals "isinstance" = some none)
    (z_len : PySem.W.nsIn K mainGlobals "len" = some none)
    (z_list : PySem.W.nsIn K mainGlobals "list" = some none)
    (z_max : PySem.W.nsIn K mainGlobals "max" = some none)
    (z_range : PySem.W.nsIn K mainGlobals "range" = some none)
    (z_str : PySem.W.nsIn K mainGlobals "str" = some none)
    (z_sum : PySem.W.nsIn K mainGlobals "sum" = some none)
    (z_tuple : PySem.W.nsIn K mainGlobals "tuple" = some none)
    (z_zip : PySem.W.nsIn K mainGlobals "zip" = some none)
    (nl : noLists K = true) : LawAtS l w K CX0 14 63 "script" mg fa h := by
  have e := hfa.symm.trans (PySem.W.mg_of KX Gn a_law)
  cases e
  have A_common_part : FAt K mg "common_part" s_common_part f_common_part c_common_part := ⟨⟨_, _, _, _, _, _, _, _, l_common_part⟩, d_common_part, k_common_part, PySem.W.mg_of KX Gn a_common_part⟩
  have A_lowest : FAt K mg "lowest" s_lowest f_lowest c_lowest := ⟨⟨_, _, _, _, _, _, _, _, l_lowest⟩, d_lowest, k_lowest, PySem.W.mg_of KX Gn a_lowest⟩
  have A_bottom_of : FAt K mg "bottom_of" s_bottom_of f_bottom_of c_bottom_of := ⟨⟨_, _, _, _, _, _, _, _, l_bottom_of⟩, d_bottom_of, k_bottom_of, PySem.W.mg_of KX Gn a_bottom_of⟩
  have A_wholes : FAt K mg "wholes" s_wholes f_wholes c_wholes := ⟨⟨_, _, _, _, _, _, _, _, l_wholes⟩, d_wholes, k_wholes, PySem.W.mg_of KX Gn a_wholes⟩
  have A_rows_over : FAt K mg "rows_over" s_rows_over f_rows_over c_rows_over := ⟨⟨_, _, _, _, _, _, _, _, l_rows_over⟩, d_rows_over, k_rows_over, PySem.W.mg_of KX Gn a_rows_over⟩
  have A__changed : FAt K mg "_changed" s__changed f__changed c__changed := ⟨⟨_, _, _, _, _, _, _, _, l__changed⟩, d__changed, k__changed, PySem.W.mg_of KX Gn a__changed⟩
  have A__heard : FAt K mg "_heard" s__heard f__heard c__heard := ⟨⟨_, _, _, _, _, _, _, _, l__heard⟩, d__heard, k__heard, PySem.W.mg_of KX Gn a__heard⟩
  have A_after : FAt K mg "after" s_after f_after c_after := ⟨⟨_, _, _, _, _, _, _, _, l_after⟩, d_after, k_after, PySem.W.mg_of KX Gn a_after⟩
  have A__law_pool : FAt K mg "_law_pool" s__law_pool f__law_pool c__law_pool := ⟨⟨_, _, _, _, _, _, _, _, l__law_pool⟩, d__law_pool, k__law_pool, PySem.W.mg_of KX Gn a__law_pool⟩
  have A__law_draw : FAt K mg "_law_draw" s__law_draw f__law_draw c__law_draw := ⟨⟨_, _, _, _, _, _, _, _, l__law_draw⟩, d__law_draw, k__law_draw, PySem.W.mg_of KX Gn a__law_draw⟩
  have A__law_pick : FAt K mg "_law_pick" s__law_pick f__law_pick c__law_pick := ⟨⟨_, _, _, _, _, _, _, _, l__law_pick⟩, d__law_pick, k__law_pick, PySem.W.mg_of KX Gn a__law_pick⟩
  have A__law_same : FAt K mg "_law_same" s__law_same f__law_same c__law_same := ⟨⟨_, _, _, _, _, _, _, _, l__law_same⟩, d__law_same, k__law_same, PySem.W.mg_of KX Gn a__law_same⟩
  have A__law_fraction : FAt K mg "_law_fraction" s__law_fraction f__law_fraction c__law_fraction := ⟨⟨_, _, _, _, _, _, _, _, l__law_fraction⟩, d__law_fraction, k__law_fraction, PySem.W.mg_of KX Gn a__law_fraction⟩
  have A__law_plus : FAt K mg "_law_plus" s__law_plus f__law_plus c__law_plus := ⟨⟨_, _, _, _, _, _, _, _, l__law_plus⟩, d__law_plus, k__law_plus, PySem.W.mg_of KX Gn a__law_plus⟩
  have A__law_times : FAt K mg "_law_times" s__law_times f__law_times c__law_times := ⟨⟨_, _, _, _, _, _, _, _, l__law_times⟩, d__law_times, k__law_times, PySem.W.mg_of KX Gn a__law_times⟩
  have A__law_total : FAt K mg "_law_total" s__law_total f__law_total c__law_total := ⟨⟨_, _, _, _, _, _, _, _, l__law_total⟩, d__law_total, k__law_total, PySem.W.mg_of KX Gn a__law_total⟩
  have A__law_row : FAt K mg "_law_row" s__law_row f__law_row c__law_row := ⟨⟨_, _, _, _, _, _, _, _, l__law_row⟩, d__law_row, k__law_row, PySem.W.mg_of KX Gn a__law_row⟩
  have A__law_telling : FAt K mg "_law_telling" s__law_telling f__law_telling c__law_telling := ⟨⟨_, _, _, _, _, _, _, _, l__law_telling⟩, d__law_telling, k__law_telling, PySem.W.mg_of KX Gn a__law_telling⟩
  have A__law_change : FAt K mg "_law_change" s__law_change f__law_change c__law_change := ⟨⟨_, _, _, _, _, _, _, _, l__law_change⟩, d__law_change, k__law_change, PySem.W.mg_of KX Gn a__law_change⟩
  have A__law_moved : FAt K mg "_law_moved" s__law_moved f__law_moved c__law_moved := ⟨⟨_, _, _, _, _, _, _, _, l__law_moved⟩, d__law_moved, k__law_moved, PySem.W.mg_of KX Gn a__law_moved⟩
  have A__law_joint : FAt K mg "_law_joint" s__law_joint f__law_joint c__law_joint := ⟨⟨_, _, _, _, _, _, _, _, l__law_joint⟩, d__law_joint, k__law_joint, PySem.W.mg_of KX Gn a__law_joint⟩
  have A__law_rows_of : FAt K mg "_law_rows_of" s__law_rows_of f__law_rows_of c__law_rows_of := ⟨⟨_, _, _, _, _, _, _, _, l__law_rows_of⟩, d__law_rows_of, k__law_rows_of, PySem.W.mg_of KX Gn a__law_rows_of⟩
  have A__law_due : FAt K mg "_law_due" s__law_due f__law_due c__law_due := ⟨⟨_, _, _, _, _, _, _, _, l__law_due⟩, d__law_due, k__law_due, PySem.W.mg_of KX Gn a__law_due⟩
  have A_law : FAt K mg "law" s_law fa c_law := ⟨⟨_, _, _, _, _, _, _, _, l_law⟩, d_law, k_law, PySem.W.mg_of KX Gn a_law⟩
  have o_wholes := own "wholes" r_wholes _ (PySem.W.mg_of KX Gn a_wholes) _ _ _ _ _ _ _ _ l_wholes rfl rfl t_wholes p_wholes
  have o_rows_over := own "rows_over" r_rows_over _ (PySem.W.mg_of KX Gn a_rows_over) _ _ _ _ _ _ _ _ l_rows_over rfl rfl t_rows_over p_rows_over
  have o_after := own "after" r_after _ (PySem.W.mg_of KX Gn a_after) _ _ _ _ _ _ _ _ l_after rfl rfl t_after p_after
  refine law_at (c := c_law) (st := s_law) (ln := "law") (F := F_law) [(c_wholes, P_wholes), (c_rows_over, P_rows_over), (c_after, P_after)] (List.forall_mem_cons.mpr ⟨o_wholes, (List.forall_mem_cons.mpr ⟨o_rows_over, (List.forall_mem_cons.mpr ⟨o_after, (fun _ hq => nomatch hq)⟩)⟩)⟩) (List.forall_mem_cons.mpr ⟨n_wholes, (List.forall_mem_cons.mpr ⟨n_rows_over, (List.forall_mem_cons.mpr ⟨n_after, (fun _ hq => nomatch hq)⟩)⟩)⟩) (List.forall_mem_cons.mpr ⟨PySem.W.codeHd_of_K KX h_wholes, (List.forall_mem_cons.mpr ⟨PySem.W.codeHd_of_K KX h_rows_over, (List.forall_mem_cons.mpr ⟨PySem.W.codeHd_of_K KX h_after, (fun _ hq => nomatch hq)⟩)⟩)⟩) nl bd_law hlaw A_law fun base hk hns ht => ?_
  have bm : ∃ B, base.BuiltinsAt mg B := ⟨_, (ht _ List.mem_cons_self).bm⟩
  have tb_wholes : ∃ B, (c_wholes, B) ∈ ([(c_wholes, P_wholes), (c_rows_over, P_rows_over), (c_after, P_after)] : List (Addr × Addr)) := ⟨P_wholes, by simp⟩
  have tb_rows_over : ∃ B, (c_rows_over, B) ∈ ([(c_wholes, P_wholes), (c_rows_over, P_rows_over), (c_after, P_after)] : List (Addr × Addr)) := ⟨P_rows_over, by simp⟩
  have tb_after : ∃ B, (c_after, B) ∈ ([(c_wholes, P_wholes), (c_rows_over, P_rows_over), (c_after, P_after)] : List (Addr × Addr)) := ⟨P_after, by simp⟩
  have y_abs := PySem.W.mg_none_of KX Gn z_abs
  have y_bool := PySem.W.mg_none_of KX Gn z_bool
  have y_enumerate := PySem.W.mg_none_of KX Gn z_enumerate
  have y_int := PySem.W.mg_none_of KX Gn z_int
  have y_isinstance := PySem.W.mg_none_of KX Gn z_isinstance
  have y_len := PySem.W.mg_none_of KX Gn z_len
  have y_list := PySem.W.mg_none_of KX Gn z_list
  have y_max := PySem.W.mg_none_of KX Gn z_max
  have y_range := PySem.W.mg_none_of KX Gn z_range
  have y_str := PySem.W.mg_none_of KX Gn z_str
  have y_sum := PySem.W.mg_none_of KX Gn z_sum
  have y_tuple := PySem.W.mg_none_of KX Gn z_tuple
  have y_zip := PySem.W.mg_none_of KX Gn z_zip
  have D_common_part : DFs l.prog w ⟨base, K, fun c P => (c, P) ∈ ([(c_wholes, P_wholes), (c_rows_over, P_rows_over), (c_after, P_after)] : List (Addr × Addr)), none⟩ mg 2 "common_part" s_common_part f_common_part ["one", "other"] F_common_part := ok_common_part A_common_part y_abs
  have D_lowest : DFs l.prog w ⟨base, K, fun c P => (c, P) ∈ ([(c_wholes, P_wholes), (c_rows_over, P_rows_over), (c_after, P_after)] : List (Addr × Addr)), none⟩ mg 3 "lowest" s_lowest f_lowest ["top", "bottom"] F_lowest := ok_lowest A_lowest D_common_part
  have D_bottom_of : DFs l.prog w ⟨base, K, fun c P => (c, P) ∈ ([(c_wholes, P_wholes), (c_rows_over, P_rows_over), (c_after, P_after)] : List (Addr × Addr)), none⟩ mg 3 "bottom_of" s_bottom_of f_bottom_of ["fractions"] F_bottom_of := ok_bottom_of A_bottom_of D_common_part
  have D_wholes : DFs l.prog w ⟨base, K, fun c P => (c, P) ∈ ([(c_wholes, P_wholes), (c_rows_over, P_rows_over), (c_after, P_after)] : List (Addr × Addr)), none⟩ mg 6 "wholes" s_wholes f_wholes ["fractions", "bottom"] F_wholes := ok_wholes A_wholes y_tuple bm tb_wholes
  have D_rows_over : DFs l.prog w ⟨base, K, fun c P => (c, P) ∈ ([(c_wholes, P_wholes), (c_rows_over, P_rows_over), (c_after, P_after)] : List (Addr × Addr)), none⟩ mg 12 "rows_over" s_rows_over f_rows_over ["rows"] F_rows_over := ok_rows_over A_rows_over y_tuple D_bottom_of D_wholes bm tb_rows_over
  have D__changed : DFs l.prog w ⟨base, K, fun c P => (c, P) ∈ ([(c_wholes, P_wholes), (c_rows_over, P_rows_over), (c_after, P_after)] : List (Addr × Addr)), none⟩ mg 2 "_changed" s__changed f__changed ["numbers", "moves"] F__changed := ok__changed A__changed y_len y_range y_sum y_zip
  have D__heard : DFs l.prog w ⟨base, K, fun c P => (c, P) ∈ ([(c_wholes, P_wholes), (c_rows_over, P_rows_over), (c_after, P_after)] : List (Addr × Addr)), none⟩ mg 2 "_heard" s__heard f__heard ["numbers", "chances", "sign"] F__heard := ok__heard A__heard y_zip
  have D_after : DFs l.prog w ⟨base, K, fun c P => (c, P) ∈ ([(c_wholes, P_wholes), (c_rows_over, P_rows_over), (c_after, P_after)] : List (Addr × Addr)), none⟩ mg 13 "after" s_after f_after ["weights", "change", "telling", "signs"] F_after := ok_after A_after y_enumerate y_sum y_tuple D__changed D__heard D_bottom_of D_lowest D_rows_over D_wholes bm tb_after
  have D__law_pool : DFs l.prog w ⟨base, K, fun c P => (c, P) ∈ ([(c_wholes, P_wholes), (c_rows_over, P_rows_over), (c_after, P_after)] : List (Addr × Addr)), none⟩ mg 2 "_law_pool" s__law_pool f__law_pool ["script"] F__law_pool := ok__law_pool A__law_pool y_list
  have D__law_draw : DFs l.prog w ⟨base, K, fun c P => (c, P) ∈ ([(c_wholes, P_wholes), (c_rows_over, P_rows_over), (c_after, P_after)] : List (Addr × Addr)), none⟩ mg 2 "_law_draw" s__law_draw f__law_draw ["pool", "many"] F__law_draw := ok__law_draw A__law_draw y_abs y_int y_len
  have D__law_pick : DFs l.prog w ⟨base, K, fun c P => (c, P) ∈ ([(c_wholes, P_wholes), (c_rows_over, P_rows_over), (c_after, P_after)] : List (Addr × Addr)), none⟩ mg 3 "_law_pick" s__law_pick f__law_pick ["pool", "things"] F__law_pick := ok__law_pick A__law_pick y_len D__law_draw
  have D__law_same : DFs l.prog w ⟨base, K, fun c P => (c, P) ∈ ([(c_wholes, P_wholes), (c_rows_over, P_rows_over), (c_after, P_after)] : List (Addr × Addr)), none⟩ mg 9 "_law_same" s__law_same f__law_same ["told", "due"] (F__law_same 8) := ok__law_same A__law_same y_bool y_int y_isinstance y_len y_range y_str y_tuple 8
  have D__law_fraction : DFs l.prog w ⟨base, K, fun c P => (c, P) ∈ ([(c_wholes, P_wholes), (c_rows_over, P_rows_over), (c_after, P_after)] : List (Addr × Addr)), none⟩ mg 2 "_law_fraction" s__law_fraction f__law_fraction ["over", "under"] F__law_fraction := ok__law_fraction A__law_fraction y_abs y_int y_max y_range
  have D__law_plus : DFs l.prog w ⟨base, K, fun c P => (c, P) ∈ ([(c_wholes, P_wholes), (c_rows_over, P_rows_over), (c_after, P_after)] : List (Addr × Addr)), none⟩ mg 3 "_law_plus" s__law_plus f__law_plus ["a", "b"] F__law_plus := ok__law_plus A__law_plus D__law_fraction
  have D__law_times : DFs l.prog w ⟨base, K, fun c P => (c, P) ∈ ([(c_wholes, P_wholes), (c_rows_over, P_rows_over), (c_after, P_after)] : List (Addr × Addr)), none⟩ mg 3 "_law_times" s__law_times f__law_times ["a", "b"] F__law_times := ok__law_times A__law_times D__law_fraction
  have D__law_total : DFs l.prog w ⟨base, K, fun c P => (c, P) ∈ ([(c_wholes, P_wholes), (c_rows_over, P_rows_over), (c_after, P_after)] : List (Addr × Addr)), none⟩ mg 4 "_law_total" s__law_total f__law_total ["some"] F__law_total := ok__law_total A__law_total D__law_plus
  have D__law_row : DFs l.prog w ⟨base, K, fun c P => (c, P) ∈ ([(c_wholes, P_wholes), (c_rows_over, P_rows_over), (c_after, P_after)] : List (Addr × Addr)), none⟩ mg 4 "_law_row" s__law_row f__law_row ["pool", "many"] F__law_row := ok__law_row A__law_row y_range y_sum y_tuple D__law_draw D__law_fraction D__law_pick
  have D__law_telling : DFs l.prog w ⟨base, K, fun c P => (c, P) ∈ ([(c_wholes, P_wholes), (c_rows_over, P_rows_over), (c_after, P_after)] : List (Addr × Addr)), none⟩ mg 5 "_law_telling" s__law_telling f__law_telling ["pool", "worlds", "signs"] F__law_telling := ok__law_telling A__law_telling y_range y_tuple D__law_draw D__law_row
  have D__law_change : DFs l.prog w ⟨base, K, fun c P => (c, P) ∈ ([(c_wholes, P_wholes), (c_rows_over, P_rows_over), (c_after, P_after)] : List (Addr × Addr)), none⟩ mg 5 "_law_change" s__law_change f__law_change ["pool", "worlds"] F__law_change := ok__law_change A__law_change y_range y_tuple D__law_draw D__law_row
  have D__law_moved : DFs l.prog w ⟨base, K, fun c P => (c, P) ∈ ([(c_wholes, P_wholes), (c_rows_over, P_rows_over), (c_after, P_after)] : List (Addr × Addr)), none⟩ mg 5 "_law_moved" s__law_moved f__law_moved ["change", "numbers"] F__law_moved := ok__law_moved A__law_moved y_len y_range D__law_times D__law_total
  have D__law_joint : DFs l.prog w ⟨base, K, fun c P => (c, P) ∈ ([(c_wholes, P_wholes), (c_rows_over, P_rows_over), (c_after, P_after)] : List (Addr × Addr)), none⟩ mg 6 "_law_joint" s__law_joint f__law_joint ["weights", "change", "telling", "signs"] F__law_joint := ok__law_joint A__law_joint y_len y_list y_range D__law_moved D__law_times
  have D__law_rows_of : DFs l.prog w ⟨base, K, fun c P => (c, P) ∈ ([(c_wholes, P_wholes), (c_rows_over, P_rows_over), (c_after, P_after)] : List (Addr × Addr)), none⟩ mg 2 "_law_rows_of" s__law_rows_of f__law_rows_of ["signs", "steps"] F__law_rows_of := ok__law_rows_of A__law_rows_of y_range
  have D__law_due : DFs l.prog w ⟨base, K, fun c P => (c, P) ∈ ([(c_wholes, P_wholes), (c_rows_over, P_rows_over), (c_after, P_after)] : List (Addr × Addr)), none⟩ mg 7 "_law_due" s__law_due f__law_due ["weights", "change", "telling", "signs"] F__law_due := ok__law_due A__law_due y_tuple D__law_fraction D__law_joint D__law_total
  have D_law : DFs l.prog w ⟨base, K, fun c P => (c, P) ∈ ([(c_wholes, P_wholes), (c_rows_over, P_rows_over), (c_after, P_after)] : List (Addr × Addr)), none⟩ mg 14 "law" s_law fa ["script"] F_law := ok_law A_law y_list y_range y_tuple D__law_change D__law_draw D__law_due D__law_moved D__law_pick D__law_plus D__law_pool D__law_row D__law_rows_of D__law_same D__law_telling D__law_times D__law_total D_after
  exact D_law
end LW
open PySem PySem.W PyProof.Rows
set_option maxHeartbeats 0 in
theorem PySem.Challenge.cw_moretold_k80_beliefs_behind_signs_holds : PySem.Challenge.rw_moretold_k80_beliefs_behind_signs.Holds := by
  w_on; o_law; k_head; (case hw => w_witness2)
  k_fill
  refine DL.walk_ofD (n := 63) (k := 14) (x := "script") rfl (by decide) rfl ⟨rfl, by decide, by decide⟩ (fun w h Y => PySem.W.kIn_of Y) ?F
  case F =>
    intro w mg fa h Y KX Gn hmg own
    refine' LW.all_mk KX Gn hmg own LW.law_holds ?a_common_part ?l_common_part ?d_common_part ?k_common_part ?a_lowest ?l_lowest ?d_lowest ?k_lowest ?a_bottom_of ?l_bottom_of ?d_bottom_of ?k_bottom_of ?a_wholes ?l_wholes ?d_wholes ?k_wholes ?a_rows_over ?l_rows_over ?d_rows_over ?k_rows_over ?a__changed ?l__changed ?d__changed ?k__changed ?a__heard ?l__heard ?d__heard ?k__heard ?a_after ?l_after ?d_after ?k_after ?a__law_pool ?l__law_pool ?d__law_pool ?k__law_pool ?a__law_draw ?l__law_draw ?d__law_draw ?k__law_draw ?a__law_pick ?l__law_pick ?d__law_pick ?k__law_pick ?a__law_same ?l__law_same ?d__law_same ?k__law_same ?a__law_fraction ?l__law_fraction ?d__law_fraction ?k__law_fraction ?a__law_plus ?l__law_plus ?d__law_plus ?k__law_plus ?a__law_times ?l__law_times ?d__law_times ?k__law_times ?a__law_total ?l__law_total ?d__law_total ?k__law_total ?a__law_row ?l__law_row ?d__law_row ?k__law_row ?a__law_telling ?l__law_telling ?d__law_telling ?k__law_telling ?a__law_change ?l__law_change ?d__law_change ?k__law_change ?a__law_moved ?l__law_moved ?d__law_moved ?k__law_moved ?a__law_joint ?l__law_joint ?d__law_joint ?k__law_joint ?a__law_rows_of ?l__law_rows_of ?d__law_rows_of ?k__law_rows_of ?a__law_due ?l__law_due ?d__law_due ?k__law_due ?a_law ?l_law ?d_law ?k_law ?t_wholes ?p_wholes ?n_wholes ?h_wholes ?r_wholes ?t_rows_over ?p_rows_over ?n_rows_over ?h_rows_over ?r_rows_over ?t_after ?p_after ?n_after ?h_after ?r_after ?z_abs ?z_bool ?z_enumerate ?z_int ?z_isinstance ?z_len ?z_list ?z_max ?z_range ?z_str ?z_sum ?z_tuple ?z_zip ?nl
    (case a_common_part => k_is)
    (case l_common_part => k_is)
    (case d_common_part => k_is)
    (case k_common_part => k_is)
    (case a_lowest => k_is)
    (case l_lowest => k_is)
    (case d_lowest => k_is)
    (case k_lowest => k_is)
    (case a_bottom_of => k_is)
    (case l_bottom_of => k_is)
    (case d_bottom_of => k_is)
    (case k_bottom_of => k_is)
    (case a_wholes => k_is)
    (case l_wholes => k_is)
    (case d_wholes => k_is)
    (case k_wholes => k_is)
    (case a_rows_over => k_is)
    (case l_rows_over => k_is)
    (case d_rows_over => k_is)
    (case k_rows_over => k_is)
    (case a__changed => k_is)
    (case l__changed => k_is)
    (case d__changed => k_is)
    (case k__changed => k_is)
    (case a__heard => k_is)
    (case l__heard => k_is)
    (case d__heard => k_is)
    (case k__heard => k_is)
    (case a_after => k_is)
    (case l_after => k_is)
    (case d_after => k_is)
    (case k_after => k_is)
    (case a__law_pool => k_is)
    (case l__law_pool => k_is)
    (case d__law_pool => k_is)
    (case k__law_pool => k_is)
    (case a__law_draw => k_is)
    (case l__law_draw => k_is)
    (case d__law_draw => k_is)
    (case k__law_draw => k_is)
    (case a__law_pick => k_is)
    (case l__law_pick => k_is)
    (case d__law_pick => k_is)
    (case k__law_pick => k_is)
    (case a__law_same => k_is)
    (case l__law_same => k_is)
    (case d__law_same => k_is)
    (case k__law_same => k_is)
    (case a__law_fraction => k_is)
    (case l__law_fraction => k_is)
    (case d__law_fraction => k_is)
    (case k__law_fraction => k_is)
    (case a__law_plus => k_is)
    (case l__law_plus => k_is)
    (case d__law_plus => k_is)
    (case k__law_plus => k_is)
    (case a__law_times => k_is)
    (case l__law_times => k_is)
    (case d__law_times => k_is)
    (case k__law_times => k_is)
    (case a__law_total => k_is)
    (case l__law_total => k_is)
    (case d__law_total => k_is)
    (case k__law_total => k_is)
    (case a__law_row => k_is)
    (case l__law_row => k_is)
    (case d__law_row => k_is)
    (case k__law_row => k_is)
    (case a__law_telling => k_is)
    (case l__law_telling => k_is)
    (case d__law_telling => k_is)
    (case k__law_telling => k_is)
    (case a__law_change => k_is)
    (case l__law_change => k_is)
    (case d__law_change => k_is)
    (case k__law_change => k_is)
    (case a__law_moved => k_is)
    (case l__law_moved => k_is)
    (case d__law_moved => k_is)
    (case k__law_moved => k_is)
    (case a__law_joint => k_is)
    (case l__law_joint => k_is)
    (case d__law_joint => k_is)
    (case k__law_joint => k_is)
    (case a__law_rows_of => k_is)
    (case l__law_rows_of => k_is)
    (case d__law_rows_of => k_is)
    (case k__law_rows_of => k_is)
    (case a__law_due => k_is)
    (case l__law_due => k_is)
    (case d__law_due => k_is)
    (case k__law_due => k_is)
    (case a_law => k_is)
    (case l_law => k_is)
    (case d_law => k_is)
    (case k_law => k_is)
    (case t_wholes => k_is)
    (case p_wholes => exact rfl)
    (case n_wholes => kernel_rfl)
    (case h_wholes => kernel_rfl)
    (case r_wholes => first | kernel_rfl | decide +kernel)
    (case t_rows_over => k_is)
    (case p_rows_over => exact rfl)
    (case n_rows_over => kernel_rfl)
    (case h_rows_over => kernel_rfl)
    (case r_rows_over => first | kernel_rfl | decide +kernel)
    (case t_after => k_is)
    (case p_after => exact rfl)
    (case n_after => kernel_rfl)
    (case h_after => kernel_rfl)
    (case r_after => first | kernel_rfl | decide +kernel)
    (case z_abs => k_is)
    (case z_bool => k_is)
    (case z_enumerate => k_is)
    (case z_int => k_is)
    (case z_isinstance => k_is)
    (case z_len => k_is)
    (case z_list => k_is)
    (case z_max => k_is)
    (case z_range => k_is)
    (case z_str => k_is)
    (case z_sum => k_is)
    (case z_tuple => k_is)
    (case z_zip => k_is)
    (case nl => kernel_rfl)
