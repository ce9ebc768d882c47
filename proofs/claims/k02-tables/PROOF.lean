import PyProof.Rows.All
import HandS.ForMost
import HandS.GenList
import KE.KNest
import PyProof.TupleOfGen
import PyProof.ConsumeS
import KE.KDictKeyed
import KE.KeyNested
import HandS.IsInst
import HandS.Wide
import HandS.TupAny
import HandS.TupMul
import HandS.Style
import HandS.TryOnly
import KE.GoesMore
import KE.GoesEnum
import HandS.WideMore
import HandS.EndOwn
import HandS.Words
import KE.DataEq
import KE.SortData
import KE.DataMinMax
import HandS.ExcOwn
import HandS.WordsExc
import HandS.Conv
import PySem.Challenge.RW_moretold_k02_tables_and_garbling
set_option Elab.async false
set_option linter.all false
set_option maxRecDepth 100000
set_option maxHeartbeats 4000000
/-! GenX: generator expressions, made in a def's body (or in another one's), their elements any code. -/
namespace GX
open PySem PySem.Spec PyProof.Rows L2 GenW
open PySem.W (CodeHd)

/-! ### the around of a generator's frame -/
section
variable {A : Around} {elt : Expr} {gs : List Comprehension} {scope : Scope} {pos : Pos} {it acc : Value} {env : Env}
theorem ov_h : (A.over (.compLoop (.GeneratorExp elt gs scope pos) 0 it acc env) []).handled = A.handled := rfl
theorem ov_d : (A.over (.compLoop (.GeneratorExp elt gs scope pos) 0 it acc env) []).depth = A.depth + 1 := by
  first | rfl | simp [Around.over, frameCount, Code.weight, Code.frames, Code.isFrame]
theorem ov_f {l : List Env} (h : A.frames = some l) : (A.over (.compLoop (.GeneratorExp elt gs scope pos) 0 it acc env) []).frames = some (env :: l) := by
  simp [Around.over, pushEnvs, envsOf, Code.envs, Code.env?, Code.isFrame, h]
theorem ov_u : (A.over (.compLoop (.GeneratorExp elt gs scope pos) 0 it acc env) []).units = A.units + 3 := by
  first | rfl | simp [Around.over, unitsOf, Code.cUnits, Code.frames, Code.isFrame]
theorem ov_room {k : Nat} (hr : Room (k + 1) A) : Room k (A.over (.compLoop (.GeneratorExp elt gs scope pos) 0 it acc env) []) :=
  ⟨by rw [ov_h]; exact hr.hd, by rw [ov_d]; have := hr.dp; omega, by rw [ov_u]; have := hr.un; omega⟩
end

/-! ### tables of code objects -/
abbrev Tb := Addr → Addr → Prop
/-- the code object at c has its table at P -/
def CodeK (base : Heap) (H : Hp) (c P : Addr) : Prop := H c = some (.ext fun h => CodeHd h c P) ∨ CodeHd base c P
theorem codeHd_at {h h' : Heap} {c P : Addr} (x : CodeHd h c P) (k : ∀ o, h.get? c = some o → h'.get? c = some o) : CodeHd h' c P :=
  let ⟨o, vs, file, tf, flags, tg, inF, text, tt, e, r⟩ := x; ⟨o, vs, file, tf, flags, tg, inF, text, tt, k _ e, r⟩
theorem codeHd_get {h : Heap} {c P : Addr} (x : CodeHd h c P) : ∃ o, h.get? c = some o := let ⟨o, _, _, _, _, _, _, _, _, e, _⟩ := x; ⟨o, e⟩
structure TabI (base : Heap) (T : Tb) (H : Hp) : Prop where
  ok : ∀ c P, T c P → CodeK base H c P ∧ ∃ ps : Array Value, H P = some (.tbl ps) ∧ TriplesOk ps.toList ∧ ∀ pos cv, codeAmong pos ps.toList = some cv → ∃ c' P', cv = .ref c' ∧ T c' P'
theorem TabI.hd {X : Cx} {pins : List (Addr × Obj)} {σ : L2.St} {H : Hp} {s : Shared} {T : Tb} {c P : Addr} (t : TabI X.base T H) (I : Inv X pins σ H s) (h : T c P) : CodeHd s.heap c P := by
  rcases (t.ok c P h).1 with e | e
  · exact (I.hok c _ e).1
  · exact e.keeps I.bk
/-- tables and codes stay: so does TabI -/
theorem TabI.stay {base : Heap} {T : Tb} {H H' : Hp} (t : TabI base T H) (k : ∀ a o, H a = some o → (∀ xs, o ≠ .lst xs) → ((∃ ps, o = .tbl ps) ∨ (∃ c P, o = .ext fun h => CodeHd h c P)) → H' a = some o) : TabI base T H' := by
  refine ⟨fun c P h => ?_⟩
  obtain ⟨h1, ps, h2, h3, h4⟩ := t.ok c P h
  refine ⟨?_, ps, k P _ h2 (fun xs e => by cases e) (.inl ⟨ps, rfl⟩), h3, h4⟩
  rcases h1 with e | e
  · exact .inl (k c _ e (fun xs e => by cases e) (.inr ⟨_, _, rfl⟩))
  · exact .inr e

theorem codeAmong_snoc_inv {pos pos' : Pos} {c cv : Value} (l : List Value) (h : TriplesOk l) : codeAmong pos (l ++ [rawInt pos'.line, rawInt pos'.col, c]) = some cv → codeAmong pos l = some cv ∨ cv = c := by
  fun_induction TriplesOk l with
  | case1 =>
    intro e
    simp only [List.nil_append, codeAmong, rawInt] at e
    split at e
    · cases e; exact .inr rfl
    · cases e
  | case2 a t b u x rest ih =>
    intro e
    simp only [List.cons_append, codeAmong] at e ⊢
    split at e
    · rename_i hc; rw [if_pos hc]; exact .inl e
    · rename_i hc; rw [if_neg hc]; exact ih h e
  | case3 l h1 h2 => exact h.elim

section
variable {X : Cx} {pins : List (Addr × Obj)} {σ : L2.St} {H : Hp} {s : Shared}
/-- the table at P grows; new objects; what stood is kept -/
theorem inv_grow {P c' P' : Addr} {ps more : Array Value} {h' : Heap} {t' : Nat} (I : Inv X pins σ H s) (hP : H P = some (.tbl ps)) (k : ∀ b o, b ≠ P → s.heap.get? b = some o → h'.get? b = some o)
    (hm : h'.get? P = some { cls := .none, data := .fields (ps ++ more) }) (hc : s.heap.objs.size ≤ c') (hP' : s.heap.objs.size ≤ P') (hcP : c' ≠ P') (cd : CodeHd h' c' P') (hP2 : h'.get? P' = some { cls := .none, data := .fields #[] }) :
    Inv X pins σ (upd (upd (upd H P (.tbl (ps ++ more))) c' (.ext fun h => CodeHd h c' P')) P' (.tbl #[])) { s with heap := h', toks := t' } := by
  have hPs : P < s.heap.objs.size := I.hok.lt hP
  have lt : ∀ b o, s.heap.get? b = some o → b ≠ c' ∧ b ≠ P' := fun b o e => ⟨Nat.ne_of_lt (Nat.lt_of_lt_of_le (Heap.lt_size e) hc), Nat.ne_of_lt (Nat.lt_of_lt_of_le (Heap.lt_size e) hP')⟩
  have hn1 : H c' = none := I.hok.fresh hc
  have hn2 : H P' = none := I.hok.fresh hP'
  have ltH : ∀ b u, H b = some u → b ≠ c' ∧ b ≠ P' := fun b u e => ⟨ne_of_none e hn1, ne_of_none e hn2⟩
  have hPc : P ≠ c' := (ltH P _ hP).1
  have hPP : P ≠ P' := (ltH P _ hP).2
  have at_ : ∀ b, b ≠ P → b ≠ c' → b ≠ P' → (upd (upd (upd H P (.tbl (ps ++ more))) c' (.ext fun h => CodeHd h c' P')) P' (.tbl #[])) b = H b := fun b h1 h2 h3 => by rw [upd_ne h3, upd_ne h2, upd_ne h1]
  have atP : (upd (upd (upd H P (.tbl (ps ++ more))) c' (.ext fun h => CodeHd h c' P')) P' (.tbl #[])) P = some (.tbl (ps ++ more)) := by rw [upd_ne hPP, upd_ne hPc, upd_same]
  have nP : ∀ b u, H b = some u → (∀ q, u ≠ .tbl q) → b ≠ P := fun b u e q z => by
    rw [z, hP] at e
    exact q ps (Option.some.inj e).symm
  have nN : ∀ b, H b = none → b ≠ P := fun b e z => by
    rw [z, hP] at e
    cases e
  refine I.step (g' := s.gens) (d' := s.drawn) (ch := []) (fun b hb => absurd hb (by simp)) (fun b o _ _ _ e n => k b o (nN b n) e) (fun b o _ _ _ e n => ⟨o.slots, k b o (nN b n) e⟩)
    (fun b o _ e n => by rw [at_ b (nN b n) (lt b o e).1 (lt b o e).2]; exact n) (fun b o _ e => ?_) (fun b xs e => by rw [at_ b (nP b _ e (fun q z => by cases z)) (ltH b _ e).1 (ltH b _ e).2]; exact e)
    (fun b o u e => by rw [at_ b (nP b _ e (fun q z => by cases z)) (ltH b _ e).1 (ltH b _ e).2]; exact e) (fun b qs e => ?_) (fun m hn => ?_) (fun b u e => ?_) I.bare
  · by_cases hb : b = P
    · rw [hb]
      exact ⟨_, hm⟩
    · exact ⟨o, k b o hb e⟩
  · by_cases hb : b = P
    · rw [hb, hP] at e
      cases e
      rw [hb, atP]
      exact ⟨more, rfl⟩
    · rw [at_ b hb (ltH b _ e).1 (ltH b _ e).2, e]
      exact ⟨#[], by simp⟩
  · obtain ⟨ob, es, ep, ho, r⟩ := hn
    exact ⟨ob, es, ep, k _ ob (nN _ I.free) ho, r⟩
  · by_cases hb : b = P'
    · rw [hb, upd_same] at e
      cases e
      rw [hb]
      exact hP2
    · rw [upd_ne hb] at e
      by_cases hb1 : b = c'
      · rw [hb1, upd_same] at e
        cases e
        rw [hb1]
        exact ⟨cd, codeHd_get cd, fun h1 h2 x k => codeHd_at x k⟩
      · rw [upd_ne hb1] at e
        by_cases hb2 : b = P
        · rw [hb2, upd_same] at e
          cases e
          rw [hb2]
          exact hm
        · rw [upd_ne hb2] at e
          refine (I.hok b u e).stay (fun d v hd q => k d v ?_ q) (fun d q => by rw [at_ d (nP d _ q (fun q z => by cases z)) (ltH d _ q).1 (ltH d _ q).2]; exact q)
            fun d xs q => by rw [at_ d (nP d _ q (fun q z => by cases z)) (ltH d _ q).1 (ltH d _ q).2]; exact q
          rcases hd with z | z
          · rw [z]
            exact hb2
          · exact nP d _ z (fun q z => by cases z)
/-- T with one more -/
def TbAdd (T : Tb) (c' P' : Addr) : Tb := fun a b => T a b ∨ (a = c' ∧ b = P')
theorem TabI.grow {base : Heap} {T : Tb} {H : Hp} {P c c' P' : Addr} {ps : Array Value} {pos : Pos} (t : TabI base T H) (hT : T c P) (hP : H P = some (.tbl ps)) (h3 : TriplesOk ps.toList) (hn1 : H c' = none) (hn2 : H P' = none) (hcP : c' ≠ P')
    (h4 : ∀ pos cv, codeAmong pos ps.toList = some cv → ∃ c' P', cv = .ref c' ∧ T c' P') :
    TabI base (TbAdd T c' P') (upd (upd (upd H P (.tbl (ps ++ #[rawInt pos.line, rawInt pos.col, .ref c']))) c' (.ext fun h => CodeHd h c' P')) P' (.tbl #[])) := by
  have ltH : ∀ b u, H b = some u → b ≠ c' ∧ b ≠ P' := fun b u e => ⟨ne_of_none e hn1, ne_of_none e hn2⟩
  have hl : (ps ++ #[rawInt pos.line, rawInt pos.col, Value.ref c']).toList = ps.toList ++ [rawInt pos.line, rawInt pos.col, .ref c'] := by simp
  refine ⟨fun a b hab => ?_⟩
  rcases hab with hab | ⟨rfl, rfl⟩
  · obtain ⟨g1, qs, g2, g3, g4⟩ := t.ok a b hab
    refine ⟨?_, ?_⟩
    · rcases g1 with e | e
      · refine .inl ?_
        have aP : a ≠ P := fun z => by rw [z, hP] at e; cases e
        rw [upd_ne (ltH a _ e).2, upd_ne (ltH a _ e).1, upd_ne aP]; exact e
      · exact .inr e
    · by_cases hb : b = P
      · rw [hb, hP] at g2
        cases g2
        refine ⟨ps ++ #[rawInt pos.line, rawInt pos.col, .ref c'], by rw [hb, upd_ne (ltH P _ hP).2, upd_ne (ltH P _ hP).1, upd_same], by rw [hl]; exact TriplesOk_snoc _ _ _ _ h3, fun po cv h => ?_⟩
        rw [hl] at h
        rcases codeAmong_snoc_inv _ h3 h with h | h
        · obtain ⟨d, D, e1, e2⟩ := h4 po cv h
          exact ⟨d, D, e1, .inl e2⟩
        · exact ⟨c', P', h, .inr ⟨rfl, rfl⟩⟩
      · refine ⟨qs, by rw [upd_ne (ltH b _ g2).2, upd_ne (ltH b _ g2).1, upd_ne hb]; exact g2, g3, fun po cv h => ?_⟩
        obtain ⟨d, D, e1, e2⟩ := g4 po cv h
        exact ⟨d, D, e1, .inl e2⟩
  · refine ⟨.inl (by rw [upd_ne hcP, upd_same]), #[], upd_same, trivial, fun po cv h => ?_⟩
    simp [codeAmong] at h

/-- the code object of a generator expression: met or made -/
theorem genexpr_code {T : Tb} {c P : Addr} {pos : Pos} {q : Str} {scope : Scope} {E : Value → Shared → Prop} {Q : Value → Shared → Prop} (I : Inv X pins σ H s) (t : TabI X.base T H) (hc : X.env.code = .ref c) (hT : T c P)
    (h : ∀ (H' : Hp) (T' : Tb) (c' P' : Addr) (s' : Shared), Inv X pins σ H' s' → TabI X.base T' H' → (∀ a b, T a b → T' a b) → T' c' P' → (∀ b o, H b = some o → (∀ ps, o ≠ .tbl ps) → H' b = some o) → (∀ b, H' b = none → H b = none) →
      (∀ b o, s.heap.get? b = some o → H b = none → s'.heap.get? b = some o ∧ H' b = none) → s.heap.objs.size ≤ s'.heap.objs.size → Q (.ref c') s') :
    wpAny (model X.prog X.w) X.A (genexprCode X.env pos q scope) Q E s := by
  obtain ⟨_, ps, hP, h3, h4⟩ := t.ok c P hT
  have hd := t.hd I hT
  have hPs : s.heap.get? P = some { cls := .none, data := .fields ps } := I.hok P _ hP
  cases hf : codeAmong pos ps.toList with
  | some cv =>
    obtain ⟨c', P', rfl, hT'⟩ := h4 pos cv hf
    exact wpAny_genexprCode_hit hc (hd.code hPs h3) hf (h H T c' P' s I t (fun _ _ z => z) hT' (fun _ _ e _ => e) (fun _ e => e) (fun _ _ e n => ⟨e, n⟩) (Nat.le_refl _))
  | none =>
    refine wpAny_genexprCodeX hc (hd.code hPs h3) (hd.tab hPs) hf fun c' h' tk hx hge hlt hco' _ htab' hnew => ?_
    obtain ⟨P', hP'ge, hcode', htab2⟩ := hnew
    have cd : CodeHd h' c' P' := CodeHd.of hcode' htab2
    have hcP : c' ≠ P' := let ⟨_, _, _, _, _, _, _, _, _, _, _, _, _, _, _, _, _, _, e⟩ := cd; e
    have hP2 : h'.get? P' = some { cls := .none, data := .fields #[] } := htab2.2
    have hm : h'.get? P = some { cls := .none, data := .fields (ps ++ #[rawInt pos.line, rawInt pos.col, .ref c']) } := htab'.2
    have hn1 : H c' = none := I.hok.fresh hge
    have hn2 : H P' = none := I.hok.fresh hP'ge
    have J := inv_grow (t' := tk) I hP (fun b o hb e => hx b o hb e) hm hge hP'ge hcP cd hP2
    have ltH : ∀ b u, H b = some u → b ≠ c' ∧ b ≠ P' := fun b u e => ⟨ne_of_none e hn1, ne_of_none e hn2⟩
    refine h _ (TbAdd T c' P') c' P' _ J (t.grow (pos := pos) hT hP h3 hn1 hn2 hcP h4) (fun _ _ z => .inl z) (.inr ⟨rfl, rfl⟩) (fun b o e hb => ?_) (fun b e => ?_) (fun b o e n => ?_) (Nat.le_trans hge (Nat.le_of_lt hlt))
    · have bP : b ≠ P := fun z => by rw [z, hP] at e; exact hb ps (Option.some.inj e).symm
      rw [upd_ne (ltH b _ e).2, upd_ne (ltH b _ e).1, upd_ne bP]; exact e
    · by_cases hb : b = P'
      · rw [hb, upd_same] at e; cases e
      · rw [upd_ne hb] at e
        by_cases hb1 : b = c'
        · rw [hb1, upd_same] at e; cases e
        · rw [upd_ne hb1] at e
          by_cases hb2 : b = P
          · rw [hb2, upd_same] at e; cases e
          · rw [upd_ne hb2] at e; exact e
    · have bP : b ≠ P := fun z => by rw [z, hP] at n; cases n
      have b1 : b ≠ c' := Nat.ne_of_lt (Nat.lt_of_lt_of_le (Heap.lt_size e) hge)
      have b2 : b ≠ P' := Nat.ne_of_lt (Nat.lt_of_lt_of_le (Heap.lt_size e) hP'ge)
      exact ⟨hx b o bP e, by rw [upd_ne b2, upd_ne b1, upd_ne bP]; exact n⟩
end
end GX

set_option maxRecDepth 100000
set_option maxHeartbeats 4000000
namespace GX
open PySem PySem.Spec PyProof.Rows L2 GenW
open PySem.W (CodeHd)

abbrev gxEnv (X : Cx) (scope : Scope) (L : Addr) (cl : List (Str × Addr)) (q : Str) (code : Value) : Env := newEnv scope L X.env.globals cl q none code none builtinsNs
/-- the context of a generator expression's body -/
abbrev gx (X : Cx) (s : Shared) (H : Hp) (scope : Scope) (L : Addr) (cl : List (Str × Addr)) (q : Str) (code : Value) (fp : List Addr) (pn : List (Addr × Obj)) (A : Around) : Cx :=
  { X with A := A, s_0 := s, H_0 := H, env := gxEnv X scope L cl q code, outer := X.stack, stack := gxEnv X scope L cl q code :: X.stack, ex := fp, fn := fun x => scope.names.lookup x == some .cell, pn := pn, xe := fun _ _ => False }
section
variable {X : Cx} {pins : List (Addr × Obj)} {σ : L2.St} {H : Hp} {s : Shared}
theorem gx_start {scope : Scope} {own : List (Str × Nat)} {fp : List Addr} {pn : List (Addr × Obj)} {A : Around} {code : Value} {q : Str} {s5 : Shared} (I : Inv X pins σ H s) (ok : BlkOk X.N X.env.scope scope own) (hN : X.N.Nodup)
    (hfp : ∀ b ∈ fp, FpOk X pins H b ∧ b < s.heap.objs.size) (hh : A.handled = none)
    (hfr : A.frames = some (gxEnv X scope s.heap.objs.size (cellsFrom (s.heap.objs.size + 1) scope.names (cloFrom X.env.cells scope.names [])) q code :: X.stack))
    (os : s5.os = s.os) (bare : AllBare s5.gens) (kp : ∀ b o, s.heap.get? b = some o → s5.heap.get? b = some o) (ns : ∃ m, s5.heap.Ns s.heap.objs.size m)
    (cls : ∀ y c, (y, c) ∈ cellsFrom (s.heap.objs.size + 1) scope.names (cloFrom X.env.cells scope.names []) → s.heap.objs.size + 1 ≤ c → ∃ v, s5.heap.IsCell c v)
    (hpn : ∀ p ∈ pn, s5.heap.get? p.1 = some p.2 ∧ H p.1 = none ∧ p.1 ≠ s.heap.objs.size ∧ p.1 ∉ frs X.stack ∧ ∀ v, p.2.data ≠ .cell v) :
    Inv (gx X s H scope s.heap.objs.size (cellsFrom (s.heap.objs.size + 1) scope.names (cloFrom X.env.cells scope.names [])) q code fp pn A) [] (wipe σ (own.map (·.2))) H s5 := by
  have hfree : ∀ y ∈ scope.names, y.2 = .free → ∃ c, X.env.cells.lookup y.1 = some c := fun y hy e => by
    rcases ok.free y hy e with k | k
    · exact I.ok.has _ (.inl k)
    · exact I.ok.has _ (.inr k)
  generalize hcenv : gxEnv X scope s.heap.objs.size (cellsFrom (s.heap.objs.size + 1) scope.names (cloFrom X.env.cells scope.names [])) q code = cenv at *
  have hL : cenv.locals = s.heap.objs.size := by rw [← hcenv]; rfl
  have hfrm : cenv.frame = some cenv.locals := by rw [← hcenv]; rfl
  have hcl : cenv.cells = cellsFrom (s.heap.objs.size + 1) scope.names (cloFrom X.env.cells scope.names []) := by rw [← hcenv]; rfl
  have hsc : cenv.scope = scope := by rw [← hcenv]; rfl
  have hcl0 := hcl
  rw [← Heap.size_push s.heap { cls := .type "frame", data := .dict #[] }] at hcl
  have cm : ∀ {y c}, (y, c) ∈ cloFrom X.env.cells scope.names [] → X.env.cells.lookup y = some c ∧ c < s.heap.objs.size := fun {y c} hm => by
    rcases cloFrom_mem hm with hm | ⟨h1, rfl⟩
    · cases hm
    · obtain ⟨c, hc⟩ := hfree _ h1 rfl
      rw [hc]
      obtain ⟨w, z⟩ := I.cell _ _ hc
      exact ⟨rfl, z.lt⟩
  have mem : ∀ {y c}, cenv.cells.lookup y = some c → (X.env.cells.lookup y = some c ∧ c < s.heap.objs.size) ∨ (s.heap.objs.size + 1 ≤ c ∧ ∃ v, s5.heap.IsCell c v) := fun {y c} e => by
    have e0 := e
    rw [hcl] at e
    rcases cells_mem (PySem.mem_of_lookup e) with hm | ⟨_, h2, h3⟩
    · exact .inl (cm hm)
    · rw [Heap.size_push] at h2
      rw [hcl0] at e0
      exact .inr ⟨h2, cls y c (PySem.mem_of_lookup e0) h2⟩
  have look : ∀ {y}, scope.names.lookup y = some .free → ∃ c, cenv.cells.lookup y = some c ∧ X.env.cells.lookup y = some c := fun {y} hl => by
    have hy : (y, NameKind.free) ∈ scope.names := PySem.mem_of_lookup hl
    obtain ⟨c', e'⟩ := mem_lookup (cells_acc (names := scope.names) (n := (s.heap.push { cls := .type "frame", data := .dict #[] }).objs.size) (cloFrom_has (cells := X.env.cells) (acc := []) hy))
    rw [← hcl] at e'
    refine ⟨c', e', ?_⟩
    rw [hcl] at e'
    rcases cells_mem (PySem.mem_of_lookup e') with hm | ⟨h1, _, _⟩
    · exact (cm hm).1
    · have := ok.uniq _ h1
      rw [hl] at this; cases this
  have okB : (gx X s H scope s.heap.objs.size (cellsFrom (s.heap.objs.size + 1) scope.names (cloFrom X.env.cells scope.names [])) q code fp pn A).Ok := by
    unfold gx
    rw [hcenv]
    refine ⟨I.ok.mod, by show cenv.scope.kind = _; rw [hsc]; exact ok.kind, by show cenv.globals = _; rw [← hcenv]; exact I.ok.glob, by show cenv.builtins = _; rw [← hcenv]; rfl, by show s.heap.objs.size ≤ cenv.locals; rw [hL]; exact Nat.le_refl _,
      fun y z c e1 e2 => ?_, fun y hy => ?_, fun y c z e => ?_, fun _ => hh, hfr, .inr ⟨rfl, hfrm⟩, fun b hb => ⟨?_, fun y c e z => ?_⟩, I.bs, Nat.le_trans I.ok.bsz I.sz, fun b o e hb => ?_, fun b hb z => ?_, I.stack, I.stkFree⟩
    · have e1 : cenv.cells.lookup y = some c := e1
      have e2 : cenv.cells.lookup z = some c := e2
      rw [hcl] at e1 e2
      refine cells_inj (fun p hp => ?_) (fun y z c a b => I.ok.inj y z c (cm a).1 (cm b).1) (PySem.mem_of_lookup e1) (PySem.mem_of_lookup e2)
      rw [Heap.size_push]
      exact Nat.lt_succ_of_lt (cm (y := p.1) (c := p.2) hp).2
    · show ∃ c, cenv.cells.lookup y = some c
      have key : ∀ k, cenv.kindOf y = some k → (k = .cell ∨ k = .free) → ∃ c, cenv.cells.lookup y = some c := fun k hk hk' => by
        unfold Env.kindOf at hk
        rw [hsc] at hk
        rcases hk' with rfl | rfl
        · obtain ⟨c, hm⟩ := cells_has (n := (s.heap.push { cls := .type "frame", data := .dict #[] }).objs.size) (acc := cloFrom X.env.cells scope.names []) (PySem.mem_of_lookup hk)
          obtain ⟨c', e'⟩ := mem_lookup hm
          exact ⟨c', by rw [hcl]; exact e'⟩
        · obtain ⟨c, h1, _⟩ := look hk
          exact ⟨c, h1⟩
      rcases hy with hy | hy
      · exact key _ hy (.inl rfl)
      · exact key _ hy (.inr rfl)
    · have z : (scope.names.lookup y == some NameKind.cell) = true := z
      have z : scope.names.lookup y = some .cell := by simpa using z
      have e : cenv.cells.lookup y = some c := e
      rw [hcl] at e
      rcases cells_mem (PySem.mem_of_lookup e) with hm | ⟨_, h2, _⟩
      · rcases cloFrom_mem hm with hm | ⟨h1, _⟩
        · cases hm
        · have q := ok.uniq _ h1
          rw [z] at q; cases q
      · rw [Heap.size_push] at h2
        exact Nat.le_of_succ_le h2
    · show b ≠ cenv.locals
      rw [hL]; exact Nat.ne_of_lt (hfp b hb).2
    · have e : cenv.cells.lookup y = some c := e
      rcases mem e with ⟨h1, _⟩ | ⟨h1, _⟩
      · exact (hfp b hb).1.2.2.2.2.1 y c h1 z
      · have h2 : s.heap.objs.size + 1 ≤ b := by rw [← z]; exact h1
        exact absurd (Nat.lt_of_lt_of_le (hfp b hb).2 (Nat.le_of_succ_le h2)) (Nat.lt_irrefl _)
    · rcases (hfp b hb).1.2.2.2.1 with z | z
      · exact I.ok.noex b o e z
      · exact absurd (Nat.lt_of_lt_of_le (Heap.lt_size e) (Nat.le_trans I.ok.bsz z)) (Nat.lt_irrefl _)
    · rcases List.mem_cons.mp (I.stkSub b z) with z | z
      · exact (hfp b hb).1.2.1 z
      · exact (hfp b hb).1.2.2.1 z
  obtain ⟨m0, hn0⟩ := ns
  refine ⟨okB, os, bare, Un.kept kp, ⟨m0, ?_, fun i y av e1 e2 e3 => ?_⟩, fun y c e => ?_, ?_, fun y c e => ?_, fun p hp => ?_, I.hok.kept kp, by rw [wipe_length]; exact I.len⟩
  · exact hn0
  · obtain ⟨e2, hne⟩ := wipe_some e2
    have hfr : scope.names.lookup y = some .free ∧ cenv.kindOf y = some .free := by
      have key : ∀ k, cenv.scope.names.lookup y = some k → k = .local ∨ k = .cell ∨ k = .free → scope.names.lookup y = some .free ∧ cenv.kindOf y = some .free := fun k hk hk' => by
        have hk0 := hk
        rw [hsc] at hk
        have no : ¬ (k = .local ∨ k = .cell) := fun hh => by
          rcases ok.own _ (PySem.mem_of_lookup hk) hh with e' | e'
          · obtain ⟨p, hp, hpy⟩ := List.mem_map.mp e'
            have e3 := ok.ix p hp
            have : p.1 = y := hpy
            rw [this] at e3
            exact hne (List.mem_map.mpr ⟨p, hp, nodup_ix hN e3 e1⟩)
          · exact e' (List.mem_of_getElem? e1)
        rcases hk' with rfl | rfl | rfl
        · exact absurd (.inl rfl) no
        · exact absurd (.inr rfl) no
        · exact ⟨hk, hk0⟩
      have e3 : Vis scope y := e3
      rw [← hsc] at e3
      rcases e3 with e3 | e3 | e3
      · exact key _ e3 (.inl rfl)
      · exact key _ e3 (.inr (.inl rfl))
      · exact key _ e3 (.inr (.inr rfl))
    obtain ⟨m, hn, hl⟩ := I.loc
    have hvis : Vis X.env.scope y := (ok.free _ (PySem.mem_of_lookup hfr.1) rfl).elim (fun k => .inr (.inl k)) (fun k => .inr (.inr k))
    obtain ⟨w, r, q⟩ := hl i y av e1 e2 hvis
    obtain ⟨c, h1, h2⟩ := look hfr.1
    rw [hcl0] at h1
    refine ⟨w, r, .inr ⟨.inr hfr.1, ?_⟩⟩
    rcases q with ⟨k, _⟩ | ⟨_, c', e', z⟩
    · have k : X.env.scope.names.lookup y = some .local := k
      rcases ok.free _ (PySem.mem_of_lookup hfr.1) rfl with k' | k' <;> rw [show X.env.scope.names.lookup y = _ from k'] at k <;> cases k
    · rw [h2] at e'; cases e'
      exact ⟨c, h1, z.keeps kp⟩
  · have e : cenv.cells.lookup y = some c := by rw [hcl0]; exact e
    rcases mem e with ⟨h1, _⟩ | ⟨_, z⟩
    · obtain ⟨w, z⟩ := I.cell y c h1
      exact ⟨w, z.keeps kp⟩
    · exact z
  · exact I.hok.fresh (Nat.le_refl _)
  · have e : cenv.cells.lookup y = some c := by rw [hcl0]; exact e
    rcases mem e with ⟨h1, _⟩ | ⟨h1, _⟩
    · exact I.freeC y c h1
    · exact I.hok.fresh (Nat.le_of_succ_le h1)
  · have hp' : p ∈ pn := by
      rcases List.mem_append.mp hp with z | z
      · exact z
      · exact absurd z (by simp)
    exact hpn p hp'
end
end GX

set_option maxRecDepth 100000
set_option maxHeartbeats 4000000
namespace GX
open PySem PySem.Spec PyProof.Rows L2 GenW
open PySem.W (CodeHd)

/-- the consumer's objects at Cs; at So, if it fills a list, what is out so far -/
def PinOk (So : Option Addr) (Cs : List Addr) (ys : List V) (pins : List (Addr × Obj)) : Prop :=
  pins.map (·.1) = Cs ∧ ∀ S, So = some S → ∃ (acc : Array Value) (c : Nat), (S, lstObj acc c) ∈ pins ∧ Vals ys acc.toList
def GIo (X : Cx) (So : Option Addr) (Cs : List Addr) (ys : List V) (σ : L2.St) (H : Hp) (s : Shared) : Prop := ∃ pins, PinOk So Cs ys pins ∧ Inv X pins σ H s
def NoCell (o : Obj) : Prop := ∀ v, o.data ≠ .cell v
/-- while the generator sleeps -/
structure Slo (So : Option Addr) (Cs : List Addr) (v : Value) (s s' : Shared) : Prop where
  os : s'.os = s.os
  bare : AllBare s'.gens
  keep : ∀ b o, b ∉ Cs → s.heap.get? b = some o → s'.heap.get? b = some o
  own : ∀ b ∈ Cs, ∀ o, s.heap.get? b = some o → NoCell o → ∃ o', s'.heap.get? b = some o' ∧ NoCell o' ∧ (So = some b → ∀ acc c, o = lstObj acc c → ∃ c', o' = lstObj (acc.push v) c')
def ApartC (X : Cx) (Cs : List Addr) : Prop := ∀ b ∈ Cs, X.s_0.heap.objs.size ≤ b ∧ b ≠ X.env.locals ∧ (∀ x c, X.env.cells.lookup x = some c → c ≠ b) ∧ ∀ p ∈ X.pn, p.1 ≠ b

theorem GIo.woken {X : Cx} {So : Option Addr} {Cs : List Addr} {ys : List V} {x : V} {v : Value} {σ : L2.St} {H : Hp} {s s' : Shared} (hnd : Cs.Nodup) (hA : ApartC X Cs) (hSo : ∀ S, So = some S → S ∈ Cs) (h : GIo X So Cs ys σ H s) (rv : RelV x v) (z : Slo So Cs v s s') :
    GIo X So Cs (ys ++ [x]) σ H s' := by
  obtain ⟨pins, ⟨hp1, hp2⟩, I⟩ := h
  have I0 : Inv X [] σ H s := I.pins_of fun p hp => absurd hp (by simp)
  have at_ : ∀ p ∈ pins, s.heap.get? p.1 = some p.2 ∧ H p.1 = none ∧ p.1 ≠ X.env.locals ∧ p.1 ∉ X.fs ∧ NoCell p.2 := fun p hp => I.pin p (List.mem_append_right _ hp)
  have cs : ∀ b ∈ Cs, ∃ o, (b, o) ∈ pins := fun b hb => by
    rw [← hp1] at hb
    obtain ⟨p, hp, e⟩ := List.mem_map.mp hb
    exact ⟨p.2, by rw [← e]; exact hp⟩
  have csn : ∀ b ∈ Cs, H b = none := fun b hb => by
    obtain ⟨o, ho⟩ := cs b hb
    exact (at_ _ ho).2.1
  have nt : ∀ b u, H b = some u → b ∉ Cs := fun b u q hb => by rw [csn b hb] at q; cases q
  have mk : ∀ b ∈ Cs, ∃ o', s'.heap.get? b = some o' ∧ NoCell o' := fun b hb => by
    obtain ⟨o, ho⟩ := cs b hb
    obtain ⟨e1, _, _, _, e2⟩ := at_ _ ho
    obtain ⟨o', f1, f2, _⟩ := z.own b hb o e1 e2
    exact ⟨o', f1, f2⟩
  obtain ⟨z1, z2, z3, z4⟩ := z
  obtain ⟨hh, g, d, t, o⟩ := s'
  have ho : o = s.os := z1
  subst ho
  have J : Inv X [] σ H { s with heap := hh, gens := g, drawn := d, toks := t } := by
    refine I0.step (g' := g) (t' := t) (d' := d) (ch := Cs) (fun b hb => ?_)
      (fun b ob _ _ hc q _ => z3 b ob hc q) (fun b ob _ _ hc q _ => ⟨ob.slots, z3 b ob hc q⟩) (fun _ _ _ _ n => n) (fun b ob hc q => ⟨ob, z3 b ob hc q⟩)
      (fun _ _ q => q) (fun _ _ _ q => q) (fun b ps q => ⟨#[], by rw [q]; simp⟩) (fun m hm => ?_) (fun b u q => ?_) z2
    · obtain ⟨a1, a2, a3, a4⟩ := hA b hb
      refine ⟨.inr a1, a2, a3, fun p hp => ?_⟩
      rcases List.mem_append.mp hp with hp | hp
      · exact a4 p hp
      · exact absurd hp (by simp)
    · obtain ⟨ob, es, ep, ho, r⟩ := hm
      exact ⟨ob, es, ep, z3 _ ob (fun hm => (hA _ hm).2.1 rfl) ho, r⟩
    · refine (I0.hok b u q).stay (fun c v hc y => z3 c v ?_ y) (fun _ y => y) fun _ _ y => y
      rcases hc with y | y
      · rw [y]; exact nt b u q
      · exact nt c _ y
  -- the new pins
  have mk2 : ∀ l : List (Addr × Obj), (∀ p ∈ l, p ∈ pins) → (l.map (·.1)).Nodup → ∃ l' : List (Addr × Obj), l'.map (·.1) = l.map (·.1) ∧ (∀ p ∈ l', hh.get? p.1 = some p.2 ∧ NoCell p.2 ∧ p.1 ∈ Cs) ∧
      ∀ S, So = some S → ∀ acc c, (S, lstObj acc c) ∈ l → ∃ c', (S, lstObj (acc.push v) c') ∈ l' := by
    intro l
    induction l with
    | nil => intro _ _; exact ⟨[], rfl, fun p hp => absurd hp (by simp), fun S _ acc c hp => absurd hp (by simp)⟩
    | cons p r ih =>
      intro hm hn
      obtain ⟨l', h1, h2, h3⟩ := ih (fun q hq => hm q (List.mem_cons_of_mem _ hq)) (List.nodup_cons.mp hn).2
      have hp := hm p List.mem_cons_self
      have hb : p.1 ∈ Cs := by rw [← hp1]; exact List.mem_map.mpr ⟨p, hp, rfl⟩
      obtain ⟨e1, _, _, _, e2⟩ := at_ p hp
      obtain ⟨o', f1, f2, f3⟩ := z4 p.1 hb p.2 e1 e2
      refine ⟨(p.1, o') :: l', by simp [h1], fun q hq => ?_, fun S hS acc c hq => ?_⟩
      · rcases List.mem_cons.mp hq with rfl | hq
        · exact ⟨f1, f2, hb⟩
        · exact h2 q hq
      · rcases List.mem_cons.mp hq with e | hq
        · obtain ⟨c', e'⟩ := f3 (by rw [← e]; exact hS) acc c (by rw [← e])
          refine ⟨c', ?_⟩
          rw [← e', ← e]
          exact List.mem_cons_self
        · obtain ⟨c', h⟩ := h3 S hS acc c hq
          exact ⟨c', List.mem_cons_of_mem _ h⟩
  obtain ⟨pins', q1, q2, q3⟩ := mk2 pins (fun _ h => h) (by rw [hp1]; exact hnd)
  refine ⟨pins', ⟨by rw [q1, hp1], fun S hS => ?_⟩, J.pins_of fun p hp => ?_⟩
  · obtain ⟨acc, c, m1, m2⟩ := hp2 S hS
    obtain ⟨c', m3⟩ := q3 S hS acc c m1
    refine ⟨acc.push v, c', m3, ?_⟩
    rw [Array.toList_push]
    exact m2.append (.cons rv .nil)
  · obtain ⟨e1, e2, e3⟩ := q2 p hp
    obtain ⟨o, ho⟩ := cs p.1 e3
    obtain ⟨_, b1, b2, b3, _⟩ := at_ _ ho
    exact ⟨e1, b1, b2, b3, e2⟩

/-! ### the run -/
def YO (X : Cx) (So : Option Addr) (Cs : List Addr) (N : Nat) (Qy : List V → V → Hp → Prop) (Rs : List V → V → Prop) : Protocol := fun n s₀ v s kap =>
  ∃ ys x σ H, n + 1 + ys.length = N ∧ RelV x v ∧ GIo X So Cs ys σ H s ∧ Qy ys x H ∧ (Rs ys x → ∀ s', Slo So Cs v s s' → kap (.send .none) s')
def RO (X : Cx) (So : Option Addr) (Cs : List Addr) (N : Nat) (Qe : List V → Hp → Prop) : GenEnd := fun n s₀ r s => r = .ok .next ∧ ∃ ys σ H, n + ys.length = N ∧ GIo X So Cs ys σ H s ∧ Qe ys H
def GTurn (J : It) (g : TG) (tt : TT) (te : TE) (vs : List Nat) (σg : L2.St) (N : Nat) (Qy : List V → V → Hp → Prop) (Rs : List V → V → Prop) (Qe : List V → Hp → Prop) (W : Nat → Nat → List V → Hp → Prop) : Prop :=
  ∀ i m ys H, W i m ys H → (J.stop i H ∧ Qe ys H) ∨ (J.go i H ∧ ∀ x H', J.yld i H x H' → g x σg H' fun σ2 H2 => wipe σ2 vs = σg ∧ tt σ2 H2 fun b H3 =>
    if b = true then te σ2 H3 fun y H4 => ys.length < N ∧ Qy ys y H4 ∧ (Rs ys y → ∃ m', m' < m ∧ W (i + 1) m' (ys ++ [y]) H4) else ∃ m', m' < m ∧ W (i + 1) m' ys H3)

section
variable {X : Cx} {elt tg iter : Expr} {ifs : List Expr} {scope : Scope} {pos : Pos} {it : Addr} {fp : List Addr} {tn : Nat → Heap → Prop} {J : It} {g : TG} {tt : TT} {te : TE} {vs : List Nat} {σg : L2.St} {N : Nat}
  {Qy : List V → V → Hp → Prop} {Rs : List V → V → Prop} {Qe : List V → Hp → Prop} {W : Nat → Nat → List V → Hp → Prop} {So : Option Addr} {Cs : List Addr} {A : Around}
theorem fp_ok {pins : List (Addr × Obj)} {σ : L2.St} {H : Hp} {s : Shared} (I : Inv X pins σ H s) (hn : ∀ b ∈ fp, H b = none) (hex : X.ex = fp) (hp : ∀ b ∈ fp, ∀ p ∈ X.pn ++ pins, p.1 ≠ b) : ∀ b ∈ fp, FpOk X pins H b := fun b hb =>
  have hb' : b ∈ X.ex := by rw [hex]; exact hb
  ⟨hn b hb, (I.ok.exf b hb').1, I.ok.exfs b hb', .inl hb', fun x c e => (I.ok.exf b hb').2 x c e, hp b hb⟩
theorem seg_loop (hA : A.over (.compLoop (.GeneratorExp elt [⟨tg, iter, ifs, 0⟩] scope pos) 0 (.ref it) .none X.env) [] = X.A) (hc : X.calm = true) (hex : X.ex = fp) (hxe : X.xe = fun _ _ => False) (hco : X.env.scope.isCoroutine = false)
    (T : Turn X.prog X.w X.K tg J fp it tn) (hnd : Cs.Nodup) (hAp : ApartC X Cs) (hSo : ∀ S, So = some S → S ∈ Cs) (hfpC : ∀ b ∈ fp, b ∉ Cs ∧ ∀ p ∈ X.pn, p.1 ≠ b)
    (pg : PG X tg g) (pt : PTs X ifs tt) (pe : PE X elt te) (turn : GTurn J g tt te vs σg N Qy Rs Qe W) (hlen : σg.length = X.N.length) :
    ∀ (m i n : Nat) (ys : List V) (s₀ s : Shared) (H : Hp), W i m ys H → n + ys.length = N → GIo X So Cs ys σg H s → tn i s.heap → (∀ b ∈ fp, H b = none) →
      Seg (model X.prog X.w) A (RO X So Cs N Qe) (YO X So Cs N Qy Rs) n s₀ (.compLoop (.GeneratorExp elt [⟨tg, iter, ifs, 0⟩] scope pos) 0 (.ref it) .none X.env)
        ((model X.prog X.w).den (.compLoop (.GeneratorExp elt [⟨tg, iter, ifs, 0⟩] scope pos) 0 (.ref it) .none X.env)) [] s := by
  intro m
  induction m using Nat.strongRecOn with
  | ind m ih =>
    intro i n ys s₀ s H w hn hI st nfp
    obtain ⟨pins, hpin, I⟩ := hI
    have hpo : ∀ {pins'}, PinOk So Cs ys pins' → ∀ b ∈ fp, ∀ p ∈ X.pn ++ pins', p.1 ≠ b := fun {pins'} hp b hb p hp' e => by
      rcases List.mem_append.mp hp' with z | z
      · exact (hfpC b hb).2 p z e
      · refine (hfpC b hb).1 ?_
        rw [← hp.1, ← e]
        exact List.mem_map.mpr ⟨p, z, rfl⟩
    show Seg _ A _ _ _ s₀ _ ((compTurn (.GeneratorExp elt [⟨tg, iter, ifs, 0⟩] scope pos) 0 (.ref it) .none X.env).onRaise (leaving X.env)) [] s
    rw [compTurn_gen, Sem.onRaise_eq_wrap]
    refine seg_bind_wrap (wpAny_standAt ?_)
    rcases turn i m ys H w with ⟨stop, qq⟩ | ⟨go, step⟩
    · refine seg_bind_wrap ?_
      rw [hA]
      refine wpAny_mono (T.done X rfl rfl rfl hc i pins s σg H (fun _ _ => False) I (fp_ok I nfp hex (hpo hpin)) st stop) (fun r s1 hr => ?_) fun _ _ z => z.elim
      obtain ⟨hr, I1⟩ := hr
      subst hr
      exact seg_end (.ok .next) ⟨rfl, ys, σg, H, hn, ⟨pins, hpin, I1⟩, qq⟩
    · refine seg_bind_wrap ?_
      rw [hA]
      refine wpAny_mono (T.item X rfl rfl rfl hc i pins s σg H (fun _ _ => False) I (fp_ok I nfp hex (hpo hpin)) st go) (fun r s1 hr => ?_) fun _ _ z => z.elim
      obtain ⟨u, hr, hgo⟩ := hr
      subst hr
      refine seg_bind_wrap ?_
      rw [hA]
      refine wpAny_mono hgo (fun _ s2 h2 => ?_) fun _ _ z => z.elim
      obtain ⟨x, H', I2, rx, hy, st2, nfp2⟩ := h2
      refine seg_bind_wrap ?_
      rw [hA]
      have fo2 := fp_ok I2 nfp2 hex (hpo hpin)
      have I2' := I2.pinned fo2 (T.obj _ _ st2)
      refine wpAny_mono (pg.run _ s2 σg H' x u _ I2' rx (step x H' hy)) (fun _ s3 h3 => ?_) fun e s' z => by rw [hxe] at z; exact z.elim
      obtain ⟨σ3, H3, I3, hw3, q3⟩ := h3
      -- what a turn's end has
      have fin : ∀ {s' : Shared} {H' : Hp}, Inv X (pins ++ pinsAt fp s2.heap) σ3 H' s' → Inv X pins σg H' s' ∧ tn (i + 1) s'.heap ∧ ∀ b ∈ fp, H' b = none := fun {s' H'} I' => by
        have pin' : ∀ b ∈ fp, ∀ o, s2.heap.get? b = some o → s'.heap.get? b = some o ∧ H' b = none := fun b hb o e =>
          let z := I'.pin (b, o) (List.mem_append_right _ (List.mem_append_right _ (mem_pinsAt hb e)))
          ⟨z.1, z.2.1⟩
        have hl : σg.length = σ3.length := by rw [← hw3, wipe_length]
        refine ⟨(I'.unpinned (pins := pins)).weak hl (fun j v e => ?_), T.keep _ _ _ st2 fun b hb o e => (pin' b hb o e).1, fun b hb => ?_⟩
        · rw [← hw3] at e
          exact (wipe_some e).1
        · obtain ⟨o, e, _⟩ := T.obj _ _ st2 b hb
          exact (pin' b hb o e).2
      refine seg_bind_wrap ?_
      rw [hA]
      refine wpAny_mono (pt.run _ s3 σ3 H3 _ I3 q3) (fun b s4 h4 => ?_) fun e s' z => by rw [hxe] at z; exact z.elim
      obtain ⟨H4, I4, q4⟩ := h4
      cases b with
      | false =>
        simp only [Bool.false_eq_true, if_false] at q4 ⊢
        obtain ⟨m', hm, w'⟩ := q4
        obtain ⟨I5, st5, n5⟩ := fin I4
        exact seg_again rfl (ih m' hm (i + 1) n ys s₀ s4 H4 w' hn ⟨pins, hpin, I5⟩ st5 n5)
      | true =>
        simp only [if_true] at q4 ⊢
        have hy' : ∀ v, yieldOut X.env v = yieldValue v := fun v => by simp only [yieldOut, hco, Bool.false_eq_true, if_false]
        simp only [hy']
        rw [Sem.bind_eq_wrap', Sem.bind_eq_wrap', Sem.wrap_wrap, Sem.wrap_wrap]
        refine seg_wrap ?_
        rw [hA]
        refine wpAny_mono (pe.run _ s4 σ3 H4 _ I4 q4) (fun z s5 h5 => ?_) fun e s' z => by rw [hxe] at z; exact z.elim
        obtain ⟨y, H5, I5, ry, hlt, hQy, hnext⟩ := h5
        obtain ⟨I6, st6, n6⟩ := fin I5
        obtain ⟨n, rfl⟩ : ∃ k, n = k + 1 := ⟨n - 1, by omega⟩
        have G6 : GIo X So Cs ys σg H5 s5 := ⟨pins, hpin, I6⟩
        refine seg_at (seg_yield rfl rfl rfl ⟨ys, y, σg, H5, hn, ry, G6, hQy, fun hrs s'' hsl => ?_⟩)
        obtain ⟨m', hm, w'⟩ := hnext hrs
        refine seg_again rfl (ih m' hm (i + 1) n (ys ++ [y]) s'' s'' H5 w' (by rw [List.length_append, List.length_singleton]; omega) (G6.woken hnd hAp hSo ry hsl) ?_ n6)
        exact T.keep _ _ _ st6 fun b hb o e => hsl.keep b o (hfpC b hb).1 e
theorem seg_start (hA : A.over (.compLoop (.GeneratorExp elt [⟨tg, iter, ifs, 0⟩] scope pos) 0 (.ref it) .none X.env) [] = X.A) (hc : X.calm = true) (hex : X.ex = fp) (hxe : X.xe = fun _ _ => False) (hco : X.env.scope.isCoroutine = false)
    (T : Turn X.prog X.w X.K tg J fp it tn) (hnd : Cs.Nodup) (hAp : ApartC X Cs) (hSo : ∀ S, So = some S → S ∈ Cs) (hfpC : ∀ b ∈ fp, b ∉ Cs ∧ ∀ p ∈ X.pn, p.1 ≠ b)
    (pg : PG X tg g) (pt : PTs X ifs tt) (pe : PE X elt te) (turn : GTurn J g tt te vs σg N Qy Rs Qe W) (hlen : σg.length = X.N.length)
    {m n : Nat} {ys : List V} {s₀ s : Shared} {H : Hp} (w : W 0 m ys H) (hn : n + ys.length = N) (hI : GIo X So Cs ys σg H s) (st : tn 0 s.heap) (nfp : ∀ b ∈ fp, H b = none) :
      Seg (model X.prog X.w) A (RO X So Cs N Qe) (YO X So Cs N Qy Rs) n s₀ (.compStart (.GeneratorExp elt [⟨tg, iter, ifs, 0⟩] scope pos) 0 (.ref it) .none X.env)
        ((model X.prog X.w).den (.compStart (.GeneratorExp elt [⟨tg, iter, ifs, 0⟩] scope pos) 0 (.ref it) .none X.env)) [] s := by
  have loop := seg_loop (So := So) (Cs := Cs) (Qy := Qy) (Rs := Rs) (Qe := Qe) hA hc hex hxe hco T hnd hAp hSo hfpC pg pt pe turn hlen m 0 n ys s₀ s H w hn hI st nfp
  show Seg _ A _ _ _ s₀ _ ((compStart (.GeneratorExp elt [⟨tg, iter, ifs, 0⟩] scope pos) 0 (.ref it) .none X.env).onRaise (leaving X.env)) [] s
  unfold compStart
  rw [Sem.onRaise_eq_wrap]
  show Seg _ A _ _ _ s₀ _ ((ask >>= _).wrap _ _ _ _) [] s
  refine seg_bind_wrap (wpAny_askSetting ?_)
  split
  · exact seg_again rfl loop
  · first
      | exact seg_bind_wrap (wpAny_rule (seg_bind_wrap (wpAny_standAt (seg_bind_wrap (T.self _ 0 s _ _ st (seg_again rfl loop))))))
      | (refine seg_bind_wrap (wpAny_rule ?_); show Seg _ A _ _ _ s₀ _ ((standAt iter.pos >>= _).wrap _ _ _ _) [] s; exact seg_bind_wrap (wpAny_standAt (seg_bind_wrap (T.self _ 0 s _ _ st (seg_again rfl loop)))))
end
end GX

set_option maxRecDepth 100000
set_option maxHeartbeats 4000000
set_option pp.maxSteps 900
namespace GX
open PySem PySem.Spec PyProof.Rows L2 GenW
open PySem.W (CodeHd)

theorem newEnv_gx {M : Model} {A : Around} {E : Value → Shared → Prop} {s : Shared} {scope : Scope} {globals : Addr} {clo : List (Str × Addr)} {qual : Str} {code : Value} {builtins : Addr} {it : Value} {Q : Env → Shared → Prop}
    (hk : scope.kind = .function) (h0 : scope.names.lookup (".0" : Str) = some .local) (hc : ∀ p ∈ clo, p.2 < s.heap.objs.size)
    (h : ∀ h' tk, (∃ m, h'.Ns s.heap.objs.size m) → (∀ b o, s.heap.get? b = some o → h'.get? b = some o) → (∀ y c, (y, c) ∈ cellsFrom (s.heap.objs.size + 1) scope.names clo → s.heap.objs.size + 1 ≤ c → ∃ v, h'.IsCell c v) →
      (∀ y c, (y, c) ∈ cellsFrom (s.heap.objs.size + 1) scope.names clo → c < h'.objs.size) → s.heap.objs.size < h'.objs.size → Q (newEnv scope s.heap.objs.size globals (cellsFrom (s.heap.objs.size + 1) scope.names clo) qual none code none builtins) { s with heap := h', toks := tk }) :
    wpAny M A (newFunctionEnv scope globals clo [((".0" : Str), it)] qual none code none builtins) Q E s := by
  simp only [newFunctionEnv, Option.isSome_none, Bool.false_eq_true, if_false]
  refine wpAny_bind (wpAny_alloc ?_)
  refine wpAny_bind (wpAny_layCells _ (fun name kind cells => by cases hkc : kind == NameKind.cell <;> simp [hkc]) _ _ _ _ ?_)
  rw [show ({ s with heap := s.heap.push { cls := .type "frame", data := .dict #[] } } : Shared).heap.objs.size = s.heap.objs.size + 1 from Heap.size_push ..]
  have hn : Heap.Ns (pushCells (s.heap.push { cls := .type "frame", data := .dict #[] }) scope.names) s.heap.objs.size (fun _ => none) := (Heap.Ns.new s.heap (.type "frame")).keeps (pushCells_keeps _ _)
  have sz : s.heap.objs.size < (pushCells (s.heap.push { cls := .type "frame", data := .dict #[] }) scope.names).objs.size := by
    have := pushCells_size scope.names (s.heap.push { cls := .type "frame", data := .dict #[] })
    rw [Heap.size_push] at this
    omega
  refine wpAny_bind ?_
  show wpAny M A (forIn [((".0" : Str), it)] PUnit.unit _) _ _ _
  rw [List.forIn_cons]
  refine wpAny_bind (wpAny_bind (wpAny_storeName_local (m := fun _ => none) (show (newEnv scope s.heap.objs.size globals (cellsFrom (s.heap.objs.size + 1) scope.names clo) qual none code none builtins).kindOf (".0" : Str) = some .local from h0) hn (fun h' hn' hs => ?_) (by show (scope.kind == .class || _) = false; rw [hk]; rfl)))
  refine wpAny_pure ?_
  show wpAny M A (forIn [] PUnit.unit _) _ _ _
  rw [List.forIn_nil]
  refine wpAny_pure (wpAny_pure ?_)
  have hs : Heap.SameBut s.heap.objs.size (pushCells (s.heap.push { cls := .type "frame", data := .dict #[] }) scope.names) h' := hs
  refine h h' _ ⟨_, hn'⟩ (fun b o e => ?_) (fun y c hm hge => ?_) (fun y c hm => ?_) (by rw [hs.1]; exact sz)
  · exact hs.extBut b o (Nat.ne_of_lt (Heap.lt_size e)) (pushCells_keeps _ _ _ _ (Heap.get?_push_of_some _ e))
  · rw [← Heap.size_push s.heap { cls := .type "frame", data := .dict #[] }] at hm
    rcases cells_mem hm with hm | ⟨_, _, h3⟩
    · exact absurd (Nat.lt_of_lt_of_le (hc _ hm) (Nat.le_of_succ_le hge)) (Nat.lt_irrefl _)
    · exact ⟨none, h3.sameBut hs (Nat.ne_of_gt hge)⟩
  · rw [hs.1]
    rw [← Heap.size_push s.heap { cls := .type "frame", data := .dict #[] }] at hm
    rcases cells_mem hm with hm | ⟨_, _, h3⟩
    · exact Nat.lt_trans (hc _ hm) sz
    · exact h3.lt

/-! ### what a consumer meets -/
def CsOk (So : Option Addr) (Cs : List Addr) (ys : List V) (H : Hp) (s : Shared) : Prop :=
  (∀ b ∈ Cs, H b = none ∧ ∃ o, s.heap.get? b = some o ∧ NoCell o) ∧ ∀ S, So = some S → ∃ (acc : Array Value) (c : Nat), s.heap.get? S = some (lstObj acc c) ∧ Vals ys acc.toList
def YC (X : Cx) (pins : List (Addr × Obj)) (σ : L2.St) (a : Addr) (g : Nat) (So : Option Addr) (Cs : List Addr) (N : Nat) (Qy : List V → V → Hp → Prop) (Rs : List V → V → Prop) : Protocol := fun n s₀ v s kap =>
  ∃ ys x H, n + 1 + ys.length = N ∧ RelV x v ∧ Inv X pins σ H s ∧ s.heap.IsGen a g ∧ CsOk So Cs ys H s ∧ Qy ys x H ∧ (Rs ys x → ∀ s', Slo So Cs v s s' → kap (.send .none) s')
def RC (X : Cx) (pins : List (Addr × Obj)) (σ : L2.St) (So : Option Addr) (Cs : List Addr) (N : Nat) (Qe : List V → Hp → Prop) : GenEnd := fun n s₀ r s =>
  r = .ok .next ∧ ∃ ys H, n + ys.length = N ∧ Inv X pins σ H s ∧ CsOk So Cs ys H s ∧ Qe ys H
/-- a generator that has not begun -/
def GMd (X : Cx) (k : Nat) (pins : List (Addr × Obj)) (σ : L2.St) (N : Nat) (Qy : List V → V → Hp → Prop) (Rs : List V → V → Prop) (Qe : List V → Hp → Prop) (u : Value) (s' : Shared) : Prop :=
  ∃ (a : Addr) (g : Nat) (c : Code) (H1 : Hp), u = .ref a ∧ Inv X pins σ H1 s' ∧ H1 a = none ∧ a < s'.heap.objs.size ∧ s'.heap.IsGen a g ∧ s'.gens[g]? = some (.fresh c) ∧
    ∀ (A : Around) (So : Option Addr) (Cs : List Addr) (s2 : Shared), Room (k + 1) A → A.frames = some X.stack → Cs.Nodup → (∀ b ∈ Cs, s'.heap.objs.size ≤ b ∧ ∃ o, s2.heap.get? b = some o ∧ NoCell o) →
      (∀ S, So = some S → S ∈ Cs ∧ ∃ c, s2.heap.get? S = some (lstObj #[] c)) → (∀ b o, s'.heap.get? b = some o → s2.heap.get? b = some o) → s2.os = s'.os → AllBare s2.gens →
      Seg (model X.prog X.w) A (RC X pins σ So Cs N Qe) (YC X pins σ a g So Cs N Qy Rs) N s2 c ((model X.prog X.w).den c) [] s2

section
variable {X : Cx} {pins : List (Addr × Obj)} {σ : L2.St} {H : Hp} {s : Shared}
/-- the heap's frame behind the making of the code -/
structure Grown (H H' : Hp) : Prop where
  keep : ∀ b o, H b = some o → (∀ ps, o ≠ .tbl ps) → H' b = some o
  none : ∀ b, H' b = none → H b = none

theorem gx_made {k N : Nat} {elt tg iter : Expr} {ifs : List Expr} {scope : Scope} {own : List (Str × Nat)} {pos : Pos} {wi : TI} {Qy : List V → V → Hp → Prop} {Rs : List V → V → Prop} {Qe : List V → Hp → Prop}
    (hr : Room 1 X.A) (hcalm : X.calm = true) (hN : X.N.Nodup) (hi : PI X tg iter wi) (ok : BlkOk X.N X.env.scope scope own) (hco : scope.isCoroutine = false) (h0 : scope.names.lookup (".0" : Str) = some .local)
    (bm : ∃ P, X.base.BuiltinsAt X.mg P) (hs : ∀ v, genFold iter X.env v = pure v) (I : Inv X pins σ H s)
    (h : wi σ H fun J H1 => ∃ T c P, X.env.code = .ref c ∧ TabI X.base T H1 ∧ T c P ∧ ∀ (H' : Hp) (T' : Tb) (c' P' : Addr), TabI X.base T' H' → (∀ a b, T a b → T' a b) → T' c' P' → Grown H1 H' →
      ∀ (s' : Shared) (L : Addr) (cl : List (Str × Addr)) (q : Str) (fp : List Addr) (pn : List (Addr × Obj)) (A : Around), Room k A → ∃ g tt te W, PG (gx X s' H' scope L cl q (.ref c') fp pn A) tg g ∧ PTs (gx X s' H' scope L cl q (.ref c') fp pn A) ifs tt ∧
        PE (gx X s' H' scope L cl q (.ref c') fp pn A) elt te ∧ (∃ m, W 0 m [] H') ∧ GTurn J g tt te (own.map (·.2)) (wipe σ (own.map (·.2))) N Qy Rs Qe W) :
    wpAny (model X.prog X.w) X.A (eval (.GeneratorExp elt [⟨tg, iter, ifs, 0⟩] scope pos) X.env) (GMd X k pins σ N Qy Rs Qe) X.xe s := by
  have hfree : ∀ y ∈ scope.names, y.2 = .free → ∃ c, X.env.cells.lookup y.1 = some c := fun y hy e => by
    rcases ok.free y hy e with k | k
    · exact I.ok.has _ (.inl k)
    · exact I.ok.has _ (.inr k)
  rw [eval_GeneratorExp1 _ _ _ _ _ _ _ hco, closure_ok hfree]
  refine wpAny_bind (thn (hi.run pins s σ H _ I h) fun xv s1 hx => ?_)
  refine wpAny_bind (wpAny_standAt ?_)
  refine wpAny_bind (wpAny_of_eq (hs xv) ?_)
  refine wpAny_bind (wpAny_holding (thn hx fun itv s2 h2 => ?_))
  obtain ⟨it, fp, tn, J, H2, e, I2, T, st2, f2, T0, c, P, hcode, hTabI, hTcP, hq⟩ := h2
  subst e
  refine wpAny_bind (wpAny_enterFrame I2.nolimit hr.depth ?_)
  refine wpAny_bind (wpAny_pure ?_)
  refine wpAny_bind (genexpr_code I2 hTabI hcode hTcP fun H3 T' c' P' s3 I3 hTabI' hTT hT' hk1 hk2 hk3 hsz3 => ?_)
  have q3 := hq H3 T' c' P' hTabI' hTT hT' ⟨hk1, hk2⟩
  obtain ⟨Pb, bmm, ob, e1, e2, e3, e4, e5, e6, e7, e8⟩ := bm
  refine wpAny_bind (wpAny_builtinsFor (m := X.mg) (by rw [I.ok.glob]; exact I3.mod.glob.keeps I3.bk) e1 e2 (I3.bk _ _ e5) e6 e7 e8 ?_)
  have f3 : ∀ b ∈ fp, FpOk X pins H3 b ∧ b < s3.heap.objs.size := fun b hb => by
    obtain ⟨o, ho, _⟩ := T.obj _ _ st2 b hb
    obtain ⟨g1, g2⟩ := hk3 b o ho (f2 b hb).1
    exact ⟨⟨g2, (f2 b hb).2⟩, Heap.lt_size g1⟩
  have st3 : tn 0 s3.heap := T.keep _ _ _ st2 fun b hb o ho => (hk3 b o ho (f2 b hb).1).1
  have cm : ∀ p ∈ cloFrom X.env.cells scope.names [], p.2 < s3.heap.objs.size := fun p hp => by
    rcases cloFrom_mem (n := p.1) (c := p.2) hp with hm | ⟨h1, e⟩
    · cases hm
    · obtain ⟨c, hc⟩ := hfree _ h1 rfl
      rw [e, hc]
      obtain ⟨w, z⟩ := I3.cell _ _ hc
      exact z.lt
  refine wpAny_bind (newEnv_gx (globals := X.env.globals) ok.kind h0 cm fun h4 tk4 hns4 hk4 hc4 hcl4 hsz4 => ?_)
  simp only [newGenerator, newFields]
  refine wpAny_bind (wpAny_newGen (wpAny_bind (wpAny_mkText (wpAny_bind (wpAny_mkText (wpAny_newObj_type ?_ (by size_fits)))))))
  show GMd X k pins σ N Qy Rs Qe (.ref h4.objs.size) { s3 with gens := s3.gens.push (.fresh (.compStart (.GeneratorExp elt [⟨tg, iter, ifs, 0⟩] scope pos) 0 (.ref it) .none (gxEnv X scope s3.heap.objs.size (cellsFrom (s3.heap.objs.size + 1) scope.names (cloFrom X.env.cells scope.names [])) (X.env.qual ++ "<genexpr>.") (.ref c')))), toks := tk4 + 1 + 1, heap := h4.push { cls := .type "generator", data := .fields #[rawInt s3.gens.size, .str "<genexpr>" tk4, .str (X.env.qual ++ "<genexpr>") (tk4 + 1)] } }
  generalize hgo : ({ cls := .type "generator", data := .fields #[rawInt s3.gens.size, .str "<genexpr>" tk4, .str (X.env.qual ++ "<genexpr>") (tk4 + 1)] } : Obj) = go
  have hgc : NoCell go := fun v q => by rw [← hgo] at q; cases q
  have hpush : (h4.push go).get? h4.objs.size = some go := by rw [← hgo]; exact Heap.get?_push_size _ rfl
  have hgen : ∀ hh : Heap, hh.get? h4.objs.size = some go → hh.IsGen h4.objs.size s3.gens.size := fun hh e => ⟨go, _, _, e, by rw [← hgo], by rw [← hgo]; rfl, by rw [← hgo]⟩
  have kp6 : ∀ b o, s3.heap.get? b = some o → (h4.push go).get? b = some o := fun b o e => Heap.get?_push_of_some _ (hk4 b o e)
  have age : s3.heap.objs.size ≤ h4.objs.size := Nat.le_of_lt hsz4
  have ha0 : H3 h4.objs.size = none := I3.hok.fresh age
  refine ⟨h4.objs.size, s3.gens.size, _, H3, rfl, ?_, ha0, ?_, hgen _ hpush, Array.getElem?_push_size .., ?_⟩
  · exact I3.call' (ch := []) rfl (Un.kept kp6) (I3.hok.kept kp6) (I3.bare.push rfl) fun b z => by simp at z
  · show _ < (h4.push go).objs.size
    rw [Heap.size_push]; exact Nat.lt_succ_self _
  intro A So Cs s6 hrA hfrA hnd hCs hSo hk6 hos6 hba6
  obtain ⟨gg, tt, te, W, pg, pt, pe, ⟨m0, w0⟩, turn⟩ := q3 s3 s3.heap.objs.size (cellsFrom (s3.heap.objs.size + 1) scope.names (cloFrom X.env.cells scope.names [])) (X.env.qual ++ "<genexpr>.") fp [(h4.objs.size, go)]
    (A.over (.compLoop (.GeneratorExp elt [⟨tg, iter, ifs, 0⟩] scope pos) 0 (.ref it) .none (gxEnv X scope s3.heap.objs.size (cellsFrom (s3.heap.objs.size + 1) scope.names (cloFrom X.env.cells scope.names [])) (X.env.qual ++ "<genexpr>.") (.ref c'))) []) (ov_room hrA)
  have kp7 : ∀ b o, s3.heap.get? b = some o → s6.heap.get? b = some o := fun b o e => hk6 b o (kp6 b o e)
  have hg6 : s6.heap.get? h4.objs.size = some go := hk6 _ _ hpush
  have hs6 : ∀ b ∈ Cs, h4.objs.size < b := fun b hb => by
    have q : (h4.push go).objs.size ≤ b := (hCs b hb).1
    rw [Heap.size_push] at q
    exact q
  have astk : ∀ b, s3.heap.objs.size ≤ b → b ∉ frs X.stack := fun b hb hm => by
    rcases List.mem_cons.mp (I3.stkSub b hm) with z | z
    · have := I3.lt
      rw [← z] at this
      exact absurd (Nat.lt_of_lt_of_le this hb) (Nat.lt_irrefl _)
    · exact I3.nofs hb z
  have IY := gx_start (A := A.over (.compLoop (.GeneratorExp elt [⟨tg, iter, ifs, 0⟩] scope pos) 0 (.ref it) .none (gxEnv X scope s3.heap.objs.size (cellsFrom (s3.heap.objs.size + 1) scope.names (cloFrom X.env.cells scope.names [])) (X.env.qual ++ "<genexpr>.") (.ref c'))) [])
    (code := .ref c') (q := X.env.qual ++ "<genexpr>.") (pn := [(h4.objs.size, go)]) (s5 := s6) I3 ok hN f3 hrA.hd (ov_f hfrA) hos6 hba6 kp7
    (let ⟨m, hm⟩ := hns4; ⟨m, (hm.push go).keeps hk6⟩) (fun y c hm hge => let ⟨v, z⟩ := hc4 y c hm hge; ⟨v, (z.keeps fun b o e => Heap.get?_push_of_some _ e).keeps hk6⟩)
    (fun p hp => by
      rw [List.mem_singleton.mp hp]
      exact ⟨hg6, ha0, Nat.ne_of_gt hsz4, astk _ age, hgc⟩)
  -- the consumer's pins
  have hpins : ∃ pl : List (Addr × Obj), pl.map (·.1) = Cs ∧ ∀ p ∈ pl, s6.heap.get? p.1 = some p.2 ∧ NoCell p.2 := by
    clear hnd hSo hs6
    induction Cs with
    | nil => exact ⟨[], rfl, fun p hp => absurd hp (by simp)⟩
    | cons b r ih =>
      obtain ⟨pl, h1, h2⟩ := ih fun d hd => hCs d (List.mem_cons_of_mem _ hd)
      obtain ⟨_, o, h3, h4⟩ := hCs b List.mem_cons_self
      refine ⟨(b, o) :: pl, by simp [h1], fun p hp => ?_⟩
      rcases List.mem_cons.mp hp with rfl | hp
      · exact ⟨h3, h4⟩
      · exact h2 p hp
  obtain ⟨pl, hpl1, hpl2⟩ := hpins
  have big : ∀ b ∈ Cs, s3.heap.objs.size ≤ b := fun b hb => Nat.le_trans age (Nat.le_of_lt (hs6 b hb))
  have G0 : GIo (gx X s3 H3 scope s3.heap.objs.size (cellsFrom (s3.heap.objs.size + 1) scope.names (cloFrom X.env.cells scope.names [])) (X.env.qual ++ "<genexpr>.") (.ref c') fp [(h4.objs.size, go)]
      (A.over (.compLoop (.GeneratorExp elt [⟨tg, iter, ifs, 0⟩] scope pos) 0 (.ref it) .none (gxEnv X scope s3.heap.objs.size (cellsFrom (s3.heap.objs.size + 1) scope.names (cloFrom X.env.cells scope.names [])) (X.env.qual ++ "<genexpr>.") (.ref c'))) []))
      So Cs [] (wipe σ (own.map (·.2))) H3 s6 := by
    refine ⟨pl, ⟨hpl1, fun S hS => ?_⟩, IY.pins_of fun p hp => ?_⟩
    · obtain ⟨h1, c, h2⟩ := hSo S hS
      rw [← hpl1] at h1
      obtain ⟨p, hp, e⟩ := List.mem_map.mp h1
      have h3 := (hpl2 p hp).1
      rw [e, h2] at h3
      refine ⟨#[], c, ?_, .nil⟩
      have : p = (S, lstObj #[] c) := by
        obtain ⟨p1, p2⟩ := p
        simp only at e h3
        rw [e, Option.some.inj h3]
      rw [← this]; exact hp
    · have hb : p.1 ∈ Cs := by rw [← hpl1]; exact List.mem_map.mpr ⟨p, hp, rfl⟩
      exact ⟨(hpl2 p hp).1, I3.hok.fresh (big _ hb), fun z => absurd (show (p.1 : Nat) = s3.heap.objs.size from z) (Nat.ne_of_gt (Nat.lt_trans hsz4 (hs6 _ hb))), astk _ (big _ hb), (hpl2 p hp).2⟩
  have conv : ∀ {ys : List V} {σ' : L2.St} {H' : Hp} {s' : Shared}, GIo (gx X s3 H3 scope s3.heap.objs.size (cellsFrom (s3.heap.objs.size + 1) scope.names (cloFrom X.env.cells scope.names [])) (X.env.qual ++ "<genexpr>.") (.ref c') fp [(h4.objs.size, go)]
      (A.over (.compLoop (.GeneratorExp elt [⟨tg, iter, ifs, 0⟩] scope pos) 0 (.ref it) .none (gxEnv X scope s3.heap.objs.size (cellsFrom (s3.heap.objs.size + 1) scope.names (cloFrom X.env.cells scope.names [])) (X.env.qual ++ "<genexpr>.") (.ref c'))) []))
      So Cs ys σ' H' s' → Inv X pins σ H' s' ∧ s'.heap.IsGen h4.objs.size s3.gens.size ∧ CsOk So Cs ys H' s' := fun {ys σ' H' s'} hG => by
    obtain ⟨pins', ⟨hp1, hp2⟩, IYs⟩ := hG
    refine ⟨I3.call' (ch := fp) IYs.os IYs.base IYs.hok IYs.bare fun b hb => ⟨(f3 b hb).1.2.2.2.1, (f3 b hb).1.2.1, (f3 b hb).1.2.2.2.2.1, (f3 b hb).1.2.2.2.2.2⟩, hgen _ (IYs.pin (h4.objs.size, go) (List.mem_append_left _ (List.mem_singleton.mpr rfl))).1, fun b hb => ?_, fun S hS => ?_⟩
    · rw [← hp1] at hb
      obtain ⟨p, hp, e⟩ := List.mem_map.mp hb
      obtain ⟨g1, g2, _, _, g3⟩ := IYs.pin p (List.mem_append_right _ hp)
      rw [← e]
      exact ⟨g2, p.2, g1, g3⟩
    · obtain ⟨acc, c, m1, m2⟩ := hp2 S hS
      exact ⟨acc, c, (IYs.pin _ (List.mem_append_right _ m1)).1, m2⟩
  refine seg_imp (fun n s₀ r s' hR => ?_) (fun n s₀ v s' kap kap' hkk hY => ?_) N
    (seg_start (X := gx X s3 H3 scope s3.heap.objs.size (cellsFrom (s3.heap.objs.size + 1) scope.names (cloFrom X.env.cells scope.names [])) (X.env.qual ++ "<genexpr>.") (.ref c') fp [(h4.objs.size, go)]
      (A.over (.compLoop (.GeneratorExp elt [⟨tg, iter, ifs, 0⟩] scope pos) 0 (.ref it) .none (gxEnv X scope s3.heap.objs.size (cellsFrom (s3.heap.objs.size + 1) scope.names (cloFrom X.env.cells scope.names [])) (X.env.qual ++ "<genexpr>.") (.ref c'))) []))
      (So := So) (Cs := Cs) rfl hcalm rfl rfl hco T hnd (fun b hb => ⟨big b hb, Nat.ne_of_gt (Nat.lt_trans hsz4 (hs6 b hb)), fun x c e z => ?_, fun p hp => ?_⟩) (fun S hS => (hSo S hS).1) (fun b hb => ⟨fun hm => ?_, fun p hp => ?_⟩) pg pt pe turn (by rw [wipe_length]; exact I.len)
      w0 (Nat.add_zero _) G0 (T.keep _ _ _ st3 fun b _ o e => kp7 b o e) (fun b hb => (f3 b hb).1.1))
  · obtain ⟨hr1, ys, σ', H', hn, hG, hQ⟩ := hR
    obtain ⟨c1, _, c3⟩ := conv hG
    exact ⟨hr1, ys, H', hn, c1, c3, hQ⟩
  · obtain ⟨ys, x, σ', H', hn, rv, hG, hQ, hw⟩ := hY
    obtain ⟨c1, c2, c3⟩ := conv hG
    exact ⟨ys, x, H', hn, rv, c1, c2, c3, hQ, fun hrs s'' hsl => hkk _ _ (hw hrs s'' hsl)⟩
  · have h1 := hcl4 x c (PySem.mem_of_lookup e)
    rw [z] at h1
    exact absurd (Nat.lt_trans h1 (hs6 b hb)) (Nat.lt_irrefl _)
  · rw [List.mem_singleton.mp hp]
    exact Nat.ne_of_lt (hs6 b hb)
  · exact absurd (Nat.lt_of_lt_of_le (f3 b hb).2 (big b hm)) (Nat.lt_irrefl _)
  · rw [List.mem_singleton.mp hp]
    exact Nat.ne_of_gt (Nat.lt_of_lt_of_le (f3 b hb).2 age)
end
end GX

set_option maxRecDepth 100000
set_option maxHeartbeats 4000000
set_option pp.maxSteps 900
namespace GX
open PySem PySem.Spec PyProof.Rows L2 GenW
open PySem.W (CodeHd)
section
variable {X : Cx} {pins : List (Addr × Obj)} {σ : L2.St} {N : Nat} {Qy : List V → V → Hp → Prop} {Rs : List V → V → Prop} {Qe : List V → Hp → Prop} {So : Option Addr} {Cs : List Addr} {A : Around} {E : Value → Shared → Prop}
theorem next_md {s : Shared} {a : Addr} {g n : Nat} {gs : GenState} {Q : Option Value → Shared → Prop} (hh : A.handled = none) (hl : s.heap.NoLimit) (hd : A.depth < recursionLimit) (hg : s.heap.IsGen a g) (hgs : s.gens[g]? = some gs)
    (hgo : gs.Goes (model X.prog X.w) A.in1 (RC X pins σ So Cs N Qe) (YC X pins σ a g So Cs N Qy Rs) n (.send .none) (s.setGen g .running))
    (hY : ∀ v s₁ gs' ys x H, gs'.bare = true → n - 1 + 1 + ys.length = N → RelV x v → Inv X pins σ H s₁ → s₁.heap.IsGen a g → CsOk So Cs ys H s₁ → Qy ys x H → g < s₁.gens.size →
      (Rs ys x → ∀ s'', Slo So Cs v s₁ s'' → ∃ m, n = m + 1 ∧ gs'.Goes (model X.prog X.w) A.in1 (RC X pins σ So Cs N Qe) (YC X pins σ a g So Cs N Qy Rs) m (.send .none) s'') → Q (some v) (s₁.setGen g gs'))
    (hP : ∀ s₁ ys H, n + ys.length = N → Inv X pins σ H s₁ → CsOk So Cs ys H s₁ → Qe ys H → ∀ h', (∀ b o, s₁.heap.get? b = some o → h'.get? b = some o) → Q none { s₁.setGen g .finished with heap := h' }) :
    wpAny (model X.prog X.w) A (pyNext (.ref a)) Q E s := by
  have hgl : g < s.gens.size := (Array.getElem?_eq_some_iff.mp hgs).1
  have hgo' : gs.Goes (model X.prog X.w) A.in1 (fun n s₀ r s₁ => r = .ok .next ∧ ∃ ys H, n + ys.length = N ∧ Inv X pins σ H s₁ ∧ CsOk So Cs ys H s₁ ∧ Qe ys H) (YC X pins σ a g So Cs N Qy Rs) n (.send .none) (s.setGen g .running) := hgo
  refine wpAny_gsz (n := g + 1) hgl (wpAny_pyNext_genexpQ hh hl hd hg hgs hgo' (fun v s₁ gs' hb hv => ?_) fun s₁ hp h' hk => ?_)
  · obtain ⟨ys, x, H, e1, rv, I, ig, cs, qy, hw⟩ := hv
    intro hsz
    have q : (s₁.setGen g gs').gens.size = s₁.gens.size := setGen_size _ _ _
    refine hY v s₁ gs' ys x H hb e1 rv I ig cs qy (by have : g + 1 ≤ (s₁.setGen g gs').gens.size := hsz; omega) fun hrs s'' hsl => ?_
    have z := hw hrs s'' hsl
    cases n with
    | zero => exact False.elim z
    | succ m => exact ⟨m, rfl, z⟩
  · obtain ⟨ys, H, e1, I, cs, qe⟩ := hp
    intro _
    exact hP s₁ ys H e1 I cs qe h' hk

/-! ### a list that the consumer fills -/
theorem slo_push {S : Addr} {v : Value} {s₁ : Shared} {acc : Array Value} {c : Nat} {gg : Array GenState} (hS : s₁.heap.get? S = some (lstObj acc c)) (hgg : AllBare gg) :
    Slo (some S) [S] v s₁ { s₁ with gens := gg, heap := s₁.heap.update S (Obj.mapSeq (·.push v)) } := by
  refine ⟨rfl, hgg, fun b o hb e => (Heap.get?_update_other _ _ (fun z => hb (by rw [← z]; exact List.mem_singleton.mpr rfl))).trans e, fun b hb o e nc => ?_⟩
  obtain rfl := List.mem_singleton.mp hb
  rw [hS] at e
  cases e
  refine ⟨_, Heap.get?_update_self _ hS rfl, ?_, ?_⟩
  · intro v' q
    cases q
  · intro _ acc' c' z
    cases z
    exact ⟨_, rfl⟩
theorem drain_md {R : Result → Shared → Prop} {S a : Addr} {g : Nat} {res : Value} (hh : A.handled = none) (hd : A.depth < recursionLimit) (hSa : S ≠ a) (hSc : S ≠ cStatics) (hN : N ≤ sizeLine) (hrs : ∀ ys x, Rs ys x)
    (hend : ∀ s' acc c H ys, s'.heap.get? S = some (lstObj acc c) → Vals ys acc.toList → ys.length ≤ N → Inv X pins σ H s' → Qe ys H → R (.ok (.ret res)) s') :
    ∀ (m : Nat) (s : Shared), s.heap.IsGen a g → s.heap.NoLimit →
      (∃ gs, s.gens[g]? = some gs ∧ gs.Goes (model X.prog X.w) A.in1.in1 (RC X pins σ (some S) [S] N Qe) (YC X pins σ a g (some S) [S] N Qy Rs) m (.send .none) (s.setGen g .running)) →
      codeAny (model X.prog X.w) A (.builtin "list.extend.loop" ⟨[.ref S, .ref a, res], []⟩) R s := by
  intro m
  induction m with
  | zero =>
    intro s hg hl ⟨gs, hgs, hgo⟩
    refine codeAny_builtin F.entry_extend_loop ?_
    rw [Around.under_plainId F.plain_extend_loop _]
    show wpAny _ A.in1 (pyNext (.ref a) >>= _) _ _ s
    refine wpAny_bind (next_md (A := A.in1) hh hl hd hg hgs hgo (fun v s₁ gs' ys x H hb e1 rv I ig cs qy hgl hw => ?_) fun s₁ ys H e1 I cs qe h' hk => ?_)
    · obtain ⟨acc, c, hS, hv⟩ := cs.2 S rfl
      obtain ⟨m, hm, _⟩ := hw (hrs ys x) _ (slo_push hS I.bare)
      cases hm
    · obtain ⟨acc, c, hS, hv⟩ := cs.2 S rfl
      exact wpAny_pure (hend _ acc c H ys (hk _ _ hS) hv (by omega) (I.call' (ch := []) rfl (Un.kept hk) (I.hok.kept hk) (allBare_setGen I.bare rfl) fun b z => by simp at z) qe)
  | succ m ih =>
    intro s hg hl ⟨gs, hgs, hgo⟩
    refine codeAny_builtin F.entry_extend_loop ?_
    rw [Around.under_plainId F.plain_extend_loop _]
    show wpAny _ A.in1 (pyNext (.ref a) >>= _) _ _ s
    refine wpAny_bind (next_md (A := A.in1) hh hl hd hg hgs hgo (fun v s₁ gs' ys x H hb e1 rv I ig cs qy hgl hw => ?_) fun s₁ ys H e1 I cs qe h' hk => ?_)
    · obtain ⟨acc, c, hS, hv⟩ := cs.2 S rfl
      have hasz : acc.size < sizeLine := by
        have e2 := hv.length
        have e3 : acc.toList.length = acc.size := by simp
        omega
      show wpAny _ A.in1 (updateSeq S (·.push v) >>= _) _ _ _
      refine wpAny_bind ?_
      refine wpAny_updateSeq hS rfl (wpAny_pure ⟨plainId_quiet F.plain_extend_loop _, ?_⟩) (Nat.le_of_lt hasz) (by show (acc.push v).size ≤ sizeLine + 1; rw [Array.size_push]; omega)
      have keep3 : ∀ b o, b ≠ S → s₁.heap.get? b = some o → (s₁.heap.update S (Obj.mapSeq (·.push v))).get? b = some o := fun b o hbS e => (Heap.get?_update_other _ _ (Ne.symm hbS)).trans e
      obtain ⟨m', hm', go'⟩ := hw (hrs ys x) _ (slo_push (gg := ((s₁.setGen g gs').setGen g .running).gens) hS (allBare_setGen (s := s₁.setGen g gs') (allBare_setGen I.bare hb) rfl))
      have em : m' = m := by omega
      subst em
      refine ih { s₁.setGen g gs' with heap := s₁.heap.update S (Obj.mapSeq (·.push v)) } ?_ ?_ ⟨gs', setGen_at hgl, ?_⟩
      · obtain ⟨o, nm, qn, ho, r⟩ := ig
        exact ⟨o, nm, qn, keep3 a o (Ne.symm hSa) ho, r⟩
      · obtain ⟨mc, hns, hnn⟩ := I.nolimit
        exact ⟨mc, hns.at' fun o e => keep3 _ o (Ne.symm hSc) e, hnn⟩
      · exact go'
    · obtain ⟨acc, c, hS, hv⟩ := cs.2 S rfl
      exact wpAny_pure (hend _ acc c H ys (hk _ _ hS) hv (by omega) (I.call' (ch := []) rfl (Un.kept hk) (I.hok.kept hk) (allBare_setGen I.bare rfl) fun b z => by simp at z) qe)

theorem collect_md {k : Nat} {u : Value} {s : Shared} {Q : List Value → Shared → Prop} (hr : Room (k + 3) A) (hfr : A.frames = some X.stack) (hN : N ≤ sizeLine) (hrs : ∀ ys x, Rs ys x) (h : GMd X k pins σ N Qy Rs Qe u s)
    (hQ : ∀ (s' : Shared) (acc : List Value) H ys, Vals ys acc → ys.length ≤ N → Inv X pins σ H s' → Qe ys H → Q acc s') : wpAny (model X.prog X.w) A (collect u) Q E s := by
  obtain ⟨a, g, c, H1, rfl, I, ha0, hal, hg, hgs, wake⟩ := h
  have hcl : cStatics < s.heap.objs.size := let ⟨_, hn, _⟩ := I.nolimit; hn.lt
  have hSc : s.heap.objs.size ≠ cStatics := Nat.ne_of_gt hcl
  have hSa : s.heap.objs.size ≠ a := Nat.ne_of_gt hal
  unfold collect
  refine wpAny_bind (wpAny_runValue (codeAny_builtin F.entry_proto_collect ?_))
  rw [Around.under_plainId F.plain_proto_collect _]
  show wpAny _ A.in1 (newList [] >>= fun l => again (.builtin "list.__iadd__" ⟨[l, .ref a], []⟩)) _ _ s
  refine wpAny_bind (wpAny_newObj_type ?_)
  refine wpAny_pure ⟨plainId_quiet F.plain_list_iadd _, codeAny_builtin F.entry_list_iadd ?_⟩
  rw [Around.under_plainId F.plain_list_iadd _]
  have up : ∀ (h : Heap) (f : Obj → Obj), (∀ b o, s.heap.get? b = some o → h.get? b = some o) → ∀ b o, s.heap.get? b = some o → (h.update s.heap.objs.size f).get? b = some o := fun h f q b o e =>
    (Heap.get?_update_other _ _ (Ne.symm (Nat.ne_of_lt (Heap.lt_size e)))).trans (q b o e)
  have k1 : ∀ b o, s.heap.get? b = some o → (s.heap.push { cls := .type "list", data := .seq ([] : List Value).toArray }).get? b = some o := fun b o e => Heap.get?_push_of_some _ e
  have gty : ∀ {h : Heap}, (∀ b o, s.heap.get? b = some o → h.get? b = some o) → h.IsGen a g := fun {h} q => hg.keeps q
  show wpAny _ A.in1 (Builtin.List.listExtendWith (.ref s.heap.objs.size) (.ref a) (.ref s.heap.objs.size)) _ _ _
  unfold Builtin.List.listExtendWith
  refine wpAny_bind (wpAny_typeOf (Heap.IsGen.typeIs (s := { s with heap := _ }) (gty k1)) ?_)
  have h1 : Builtin.List.listSameRef (.ref s.heap.objs.size) (.ref a) = false := by simp [Builtin.List.listSameRef, hSa]
  have h2 : (Value.type "generator" == Value.type "list") = false := by decide
  have h3 : (Value.type "generator" == Value.type "tuple") = false := by decide
  simp only [h1, h2, h3, Bool.or_false, Bool.false_eq_true, if_false]
  refine wpAny_bind (wpAny_pyIter_gen (s := { s with heap := _ }) (gty k1) ?_)
  refine wpAny_bind (wpAny_holding ?_)
  unfold Builtin.List.listLengthHint
  refine wpAny_bind (wpAny_specialOf (Heap.IsGen.typeIs (s := { s with heap := _ }) (gty k1)) F.gen_no_len ?_)
  show wpAny _ A.in1 (specialOf (Value.ref a) (Str.ofString "__length_hint__") >>= _) _ _ _
  refine wpAny_bind (wpAny_specialOf (Heap.IsGen.typeIs (s := { s with heap := _ }) (gty k1)) F.gen_no_hint ?_)
  refine wpAny_pure ?_
  show wpAny _ A.in1 (rule "list.extend.makes-room" >>= fun _ => Builtin.List.listTouch (.ref s.heap.objs.size) >>= fun _ =>
    again (.builtin "list.extend.loop" ⟨[.ref s.heap.objs.size, .ref a, .ref s.heap.objs.size], []⟩)) _ _ _
  refine wpAny_bind (wpAny_rule ?_)
  have hS1 : (s.heap.push { cls := .type "list", data := .seq ([] : List Value).toArray }).get? s.heap.objs.size = some { cls := .type "list", data := .seq ([] : List Value).toArray } := Heap.get?_push_size _ rfl
  refine wpAny_bind ?_
  show wpAny _ A.in1 (updateSeq s.heap.objs.size (·.push .none) >>= fun _ => updateSeq s.heap.objs.size (·.pop)) _ _ _
  refine wpAny_bind (wpAny_updateSeq hS1 rfl ?_)
  have hS2 := Heap.get?_update_self (Obj.mapSeq (·.push Value.none)) hS1 rfl
  refine wpAny_updateSeq (hz := by seq_fits) hS2 rfl ?_
  have hS3 := Heap.get?_update_self (Obj.mapSeq (·.pop)) hS2 rfl
  have k3 := up _ (Obj.mapSeq (·.pop)) (up _ (Obj.mapSeq (·.push Value.none)) k1)
  refine wpAny_pure ⟨plainId_quiet F.plain_extend_loop _, ?_⟩
  refine drain_md (X := X) (pins := pins) (σ := σ) (N := N) (Qy := Qy) (Rs := Rs) (Qe := Qe) (g := g) hr.hd (by have := hr.dp; show A.depth < _; omega) hSa hSc hN hrs (fun s' acc c' H ys q1 q2 q3 q4 q5 => ?_) N _ (gty k3) (I.nolimit.keeps k3) ⟨_, hgs, rfl, ?_⟩
  · show wpAny _ A (load s.heap.objs.size >>= _) _ _ _
    refine wpAny_bind (wpAny_load q1 (wpAny_pure ?_))
    exact hQ s' acc.toList H ys q2 q3 q4 q5
  · refine wake _ (some s.heap.objs.size) [s.heap.objs.size] _ ⟨hr.hd, ?_, ?_⟩ hfr (by simp) (fun b hb => ?_) (fun S hS => ?_) k3 rfl (allBare_setGen (s := { s with heap := _ }) I.bare rfl)
    · have := hr.dp
      show A.depth + 3 * (k + 1) + 5 < _
      omega
    · have := hr.un
      show A.units + 1 + 1 + 16 * (k + 1) + 200 < _
      omega
    · rw [List.mem_singleton.mp hb]
      exact ⟨Nat.le_refl _, _, hS3, fun v q => by cases q⟩
    · cases hS
      exact ⟨by simp, _, hS3⟩
end
end GX

set_option maxRecDepth 100000
set_option maxHeartbeats 4000000
set_option pp.maxSteps 900
namespace GX
open PySem PySem.Spec PyProof.Rows L2 GenW
open PySem.W (CodeHd)
open AutoSeq1 (wpAny_loadPart')
section
variable {X : Cx} {pins : List (Addr × Obj)} {σ : L2.St} {N : Nat} {Qy : List V → V → Hp → Prop} {Rs : List V → V → Prop} {Qe : List V → Hp → Prop} {A : Around} {E : Value → Shared → Prop}
theorem GMd.isGen {k : Nat} {u : Value} {s : Shared} (h : GMd X k pins σ N Qy Rs Qe u s) : s.TypeIs u "generator" := by
  obtain ⟨a, g, c, H1, rfl, I, ha0, hal, hg, hgs, wake⟩ := h
  exact hg.typeIs
theorem code_tuple_new_md {k : Nat} {u : Value} {s : Shared} {Q₁ : Value → Shared → Prop} (hr : Room (k + 4) A) (hfr : A.frames = some X.stack) (hN : N ≤ sizeLine) (hrs : ∀ ys x, Rs ys x) (h : GMd X k pins σ N Qy Rs Qe u s)
    (hQ : ∀ (s' : Shared) (acc : List Value) H ys, Vals ys acc → ys.length ≤ N → Inv X pins σ H s' → Qe ys H → Q₁ (.ref s'.heap.objs.size) { s' with heap := s'.heap.push { cls := .type "tuple", data := .seq acc.toArray } }) :
    codeAny (model X.prog X.w) A (.call (.builtin "tuple.__new__") ⟨[.type "tuple", u], []⟩) (wants Q₁ E) s := by
  have hTI := h.isGen
  obtain ⟨a, e⟩ : ∃ a, u = .ref a := let ⟨a, _, _, _, e, _⟩ := h; ⟨a, e⟩
  subst e
  refine codeAny_of_tree ?_
  show wpAny _ A.in1 (do checkBuiltinCall "tuple.__new__" ⟨[.type "tuple", .ref a], []⟩; again (.builtin "tuple.__new__" ⟨[.type "tuple", .ref a], []⟩)) _ _ s
  refine wpAny_bind (wpAny_of_eq (F.newCall_tuple_1 _) (wpAny_pure ⟨plainId_quiet F.plain_tuple_new _, codeAny_builtin F.entry_tuple_new ?_⟩))
  rw [Around.under_plainId F.plain_tuple_new _]
  have hsub := sub_tuple_self
  have hinit := init_tuple_lookup
  have hmh := madeHere_tuple
  wp_walk using wpAny_typeOf hTI, collect_md (X := X) (k := k) hr.in1 hfr hN hrs h
  intro s' acc H ys hv hl I qe
  show wpAny _ _ (Builtin.Tuple.tupleExact acc.toArray >>= fun v => ret v) _ _ _
  unfold Builtin.Tuple.tupleExact
  refine wpAny_bind (wpAny_newObj_type ?_ (by
    have := hv.length
    show acc.toArray.size ≤ sizeLine
    rw [List.size_toArray]
    omega))
  refine wpAny_pure ?_
  exact hQ s' acc H ys hv hl I qe
theorem call_tuple_md {k : Nat} {u : Value} {s : Shared} {Q : Value → Shared → Prop} (hr : Room (k + 5) A) (hfr : A.frames = some X.stack) (hN : N ≤ sizeLine) (hrs : ∀ ys x, Rs ys x) (h : GMd X k pins σ N Qy Rs Qe u s)
    (hQ : ∀ (s' : Shared) (acc : List Value) H ys, Vals ys acc → ys.length ≤ N → Inv X pins σ H s' → Qe ys H → Q (.ref s'.heap.objs.size) { s' with heap := s'.heap.push { cls := .type "tuple", data := .seq acc.toArray } }) :
    wpAny (model X.prog X.w) A (call (.type "tuple") [u]) Q E s := by
  refine callType_codes (Q₁ := fun obj s₁ => s₁.TypeIs obj "tuple" ∧ Q obj s₁) F.called_tuple (F.typeCall_tuple_1 _) F.entry_object_init
    (code_tuple_new_md hr.in1 hfr hN hrs h fun s' acc H ys hv hl I qe => ⟨⟨_, Heap.get?_push_size _ rfl, rfl⟩, hQ s' acc H ys hv hl I qe⟩) fun obj s₁ h₁ => ?_
  exact ⟨h₁.1, F.args_object_init_2 obj _, object_init_meets F.called_tuple.init.lookup F.called_tuple.made (by decide) X.prog X.w A.in1 _ s₁ ⟨h₁.1, rfl, h₁.2⟩⟩

/-! ### all, any: of truth values -/
theorem slo_none {v : Value} {s s' : Shared} (h1 : s'.os = s.os) (h2 : AllBare s'.gens) (h3 : s'.heap = s.heap) : Slo none [] v s s' :=
  ⟨h1, h2, fun b o _ e => by rw [h3]; exact e, fun b hb => absurd hb (by simp)⟩
theorem all_loop_md {R : Result → Shared → Prop} {a : Addr} {g : Nat} {Qf Qt : Hp → Prop} (hh : A.handled = none) (hd : A.depth < recursionLimit)
    (hT : ∀ s' H, Inv X pins σ H s' → Qt H → R (.ok (.ret (.bool true))) s') (hF : ∀ s' H, Inv X pins σ H s' → Qf H → R (.ok (.ret (.bool false))) s') :
    ∀ (m : Nat) (s : Shared), s.heap.IsGen a g → s.heap.NoLimit →
      (∃ gs, s.gens[g]? = some gs ∧ gs.Goes (model X.prog X.w) A.in1.in1 (RC X pins σ none [] N fun _ H => Qt H) (YC X pins σ a g none [] N (fun _ x H => ∃ b, x = .bl b ∧ (b = false → Qf H)) fun _ x => x = .bl true) m (.send .none) (s.setGen g .running)) →
      codeAny (model X.prog X.w) A (.builtin "all.loop" ⟨[.ref a], []⟩) R s := by
  intro m
  induction m with
  | zero =>
    intro s hg hl ⟨gs, hgs, hgo⟩
    refine codeAny_builtin F.entry_all_loop ?_
    rw [Around.under_plainId F.plain_all_loop _]
    show wpAny _ A.in1 (pyNext (.ref a) >>= _) _ _ s
    refine wpAny_bind (next_md (A := A.in1) hh hl hd hg hgs hgo (fun v s₁ gs' ys x H hb e1 rv I ig cs qy hgl hw => ?_) fun s₁ ys H e1 I cs qe h' hk => ?_)
    · obtain ⟨b, rfl, qf⟩ := qy
      cases rv
      refine wpAny_bind (wpAny_holding (wpAny_truthy_bool ?_))
      refine wpAny_bind (wpAny_letGo ?_)
      cases b with
      | true =>
        obtain ⟨m, hm, _⟩ := hw rfl _ (slo_none rfl I.bare rfl)
        cases hm
      | false =>
        simp only [Bool.false_eq_true, if_false]
        refine wpAny_bind (wpAny_rule (wpAny_pure ?_))
        exact hF _ H (I.call' (ch := []) rfl (Un.kept fun _ _ z => z) I.hok (allBare_setGen I.bare hb) fun b z => by simp at z) (qf rfl)
    · refine wpAny_bind (wpAny_rule (wpAny_pure ?_))
      exact hT _ H (I.call' (ch := []) rfl (Un.kept hk) (I.hok.kept hk) (allBare_setGen I.bare rfl) fun b z => by simp at z) qe
  | succ m ih =>
    intro s hg hl ⟨gs, hgs, hgo⟩
    refine codeAny_builtin F.entry_all_loop ?_
    rw [Around.under_plainId F.plain_all_loop _]
    show wpAny _ A.in1 (pyNext (.ref a) >>= _) _ _ s
    refine wpAny_bind (next_md (A := A.in1) hh hl hd hg hgs hgo (fun v s₁ gs' ys x H hb e1 rv I ig cs qy hgl hw => ?_) fun s₁ ys H e1 I cs qe h' hk => ?_)
    · obtain ⟨b, rfl, qf⟩ := qy
      cases rv
      refine wpAny_bind (wpAny_holding (wpAny_truthy_bool ?_))
      refine wpAny_bind (wpAny_letGo ?_)
      cases b with
      | true =>
        simp only [if_true]
        obtain ⟨m', hm, go'⟩ := hw rfl ((s₁.setGen g gs').setGen g .running) (slo_none rfl (allBare_setGen (allBare_setGen I.bare hb) rfl) rfl)
        have em : m' = m := by omega
        subst em
        refine wpAny_pure ⟨plainId_quiet F.plain_all_loop _, ih (s₁.setGen g gs') ig I.nolimit ⟨gs', setGen_at hgl, go'⟩⟩
      | false =>
        simp only [Bool.false_eq_true, if_false]
        refine wpAny_bind (wpAny_rule (wpAny_pure ?_))
        exact hF _ H (I.call' (ch := []) rfl (Un.kept fun _ _ z => z) I.hok (allBare_setGen I.bare hb) fun b z => by simp at z) (qf rfl)
    · refine wpAny_bind (wpAny_rule (wpAny_pure ?_))
      exact hT _ H (I.call' (ch := []) rfl (Un.kept hk) (I.hok.kept hk) (allBare_setGen I.bare rfl) fun b z => by simp at z) qe
theorem any_loop_md {R : Result → Shared → Prop} {a : Addr} {g : Nat} {Qf Qt : Hp → Prop} (hh : A.handled = none) (hd : A.depth < recursionLimit)
    (hT : ∀ s' H, Inv X pins σ H s' → Qt H → R (.ok (.ret (.bool true))) s') (hF : ∀ s' H, Inv X pins σ H s' → Qf H → R (.ok (.ret (.bool false))) s') :
    ∀ (m : Nat) (s : Shared), s.heap.IsGen a g → s.heap.NoLimit →
      (∃ gs, s.gens[g]? = some gs ∧ gs.Goes (model X.prog X.w) A.in1.in1 (RC X pins σ none [] N fun _ H => Qf H) (YC X pins σ a g none [] N (fun _ x H => ∃ b, x = .bl b ∧ (b = true → Qt H)) fun _ x => x = .bl false) m (.send .none) (s.setGen g .running)) →
      codeAny (model X.prog X.w) A (.builtin "any.loop" ⟨[.ref a], []⟩) R s := by
  intro m
  induction m with
  | zero =>
    intro s hg hl ⟨gs, hgs, hgo⟩
    refine codeAny_builtin F.entry_any_loop ?_
    rw [Around.under_plainId F.plain_any_loop _]
    show wpAny _ A.in1 (pyNext (.ref a) >>= _) _ _ s
    refine wpAny_bind (next_md (A := A.in1) hh hl hd hg hgs hgo (fun v s₁ gs' ys x H hb e1 rv I ig cs qy hgl hw => ?_) fun s₁ ys H e1 I cs qe h' hk => ?_)
    · obtain ⟨b, rfl, qf⟩ := qy
      cases rv
      refine wpAny_bind (wpAny_holding (wpAny_truthy_bool ?_))
      refine wpAny_bind (wpAny_letGo ?_)
      cases b with
      | false =>
        obtain ⟨m, hm, _⟩ := hw rfl _ (slo_none rfl I.bare rfl)
        cases hm
      | true =>
        simp only [if_true]
        refine wpAny_bind (wpAny_rule (wpAny_pure ?_))
        exact hT _ H (I.call' (ch := []) rfl (Un.kept fun _ _ z => z) I.hok (allBare_setGen I.bare hb) fun b z => by simp at z) (qf rfl)
    · refine wpAny_bind (wpAny_rule (wpAny_pure ?_))
      exact hF _ H (I.call' (ch := []) rfl (Un.kept hk) (I.hok.kept hk) (allBare_setGen I.bare rfl) fun b z => by simp at z) qe
  | succ m ih =>
    intro s hg hl ⟨gs, hgs, hgo⟩
    refine codeAny_builtin F.entry_any_loop ?_
    rw [Around.under_plainId F.plain_any_loop _]
    show wpAny _ A.in1 (pyNext (.ref a) >>= _) _ _ s
    refine wpAny_bind (next_md (A := A.in1) hh hl hd hg hgs hgo (fun v s₁ gs' ys x H hb e1 rv I ig cs qy hgl hw => ?_) fun s₁ ys H e1 I cs qe h' hk => ?_)
    · obtain ⟨b, rfl, qf⟩ := qy
      cases rv
      refine wpAny_bind (wpAny_holding (wpAny_truthy_bool ?_))
      refine wpAny_bind (wpAny_letGo ?_)
      cases b with
      | false =>
        simp only [Bool.false_eq_true, if_false]
        obtain ⟨m', hm, go'⟩ := hw rfl ((s₁.setGen g gs').setGen g .running) (slo_none rfl (allBare_setGen (allBare_setGen I.bare hb) rfl) rfl)
        have em : m' = m := by omega
        subst em
        refine wpAny_pure ⟨plainId_quiet F.plain_any_loop _, ih (s₁.setGen g gs') ig I.nolimit ⟨gs', setGen_at hgl, go'⟩⟩
      | true =>
        simp only [if_true]
        refine wpAny_bind (wpAny_rule (wpAny_pure ?_))
        exact hT _ H (I.call' (ch := []) rfl (Un.kept fun _ _ z => z) I.hok (allBare_setGen I.bare hb) fun b z => by simp at z) (qf rfl)
    · refine wpAny_bind (wpAny_rule (wpAny_pure ?_))
      exact hF _ H (I.call' (ch := []) rfl (Un.kept hk) (I.hok.kept hk) (allBare_setGen I.bare rfl) fun b z => by simp at z) qe
theorem call_all_md {k : Nat} {u : Value} {s : Shared} {Q : Value → Shared → Prop} {Qf Qt : Hp → Prop} (hr : Room (k + 4) A) (hfr : A.frames = some X.stack)
    (h : GMd X k pins σ N (fun _ x H => ∃ b, x = .bl b ∧ (b = false → Qf H)) (fun _ x => x = .bl true) (fun _ H => Qt H) u s)
    (hT : ∀ s' H, Inv X pins σ H s' → Qt H → Q (.bool true) s') (hF : ∀ s' H, Inv X pins σ H s' → Qf H → Q (.bool false) s') :
    wpAny (model X.prog X.w) A (call (.builtin "all") [u]) Q E s := by
  obtain ⟨a, g, c, H1, rfl, I, ha0, hal, hg, hgs, wake⟩ := h
  refine call_function_tree F.kind_all F.plain_all F.entry_all (F.args_all1 _) ?_
  unfold Builtin.«all»
  refine wpAny_bind (m := oneArg "all" _) (wpAny_pure ?_)
  refine wpAny_bind (wpAny_pyIter_gen hg ?_)
  refine wpAny_pure ⟨plainId_quiet F.plain_all_loop _, ?_⟩
  refine all_loop_md (X := X) (pins := pins) (σ := σ) (N := N) (g := g) (Qf := Qf) (Qt := Qt) hr.hd (by have := hr.dp; show A.depth < _; omega) (fun s' H I q => hT s' H I q) (fun s' H I q => hF s' H I q) N s hg I.nolimit ⟨_, hgs, rfl, ?_⟩
  refine wake _ none [] _ ⟨hr.hd, ?_, ?_⟩ hfr (by simp) (fun b hb => absurd hb (by simp)) (fun S hS => by cases hS) (fun b o e => e) rfl (allBare_setGen I.bare rfl)
  · have := hr.dp
    show A.depth + 3 * (k + 1) + 5 < _
    omega
  · have := hr.un
    show A.units + 1 + 1 + 16 * (k + 1) + 200 < _
    omega
theorem call_any_md {k : Nat} {u : Value} {s : Shared} {Q : Value → Shared → Prop} {Qf Qt : Hp → Prop} (hr : Room (k + 4) A) (hfr : A.frames = some X.stack)
    (h : GMd X k pins σ N (fun _ x H => ∃ b, x = .bl b ∧ (b = true → Qt H)) (fun _ x => x = .bl false) (fun _ H => Qf H) u s)
    (hT : ∀ s' H, Inv X pins σ H s' → Qt H → Q (.bool true) s') (hF : ∀ s' H, Inv X pins σ H s' → Qf H → Q (.bool false) s') :
    wpAny (model X.prog X.w) A (call (.builtin "any") [u]) Q E s := by
  obtain ⟨a, g, c, H1, rfl, I, ha0, hal, hg, hgs, wake⟩ := h
  refine call_function_tree F.kind_any F.plain_any F.entry_any (F.args_any1 _) ?_
  unfold Builtin.«any»
  refine wpAny_bind (m := oneArg "any" _) (wpAny_pure ?_)
  refine wpAny_bind (wpAny_pyIter_gen hg ?_)
  refine wpAny_pure ⟨plainId_quiet F.plain_any_loop _, ?_⟩
  refine any_loop_md (X := X) (pins := pins) (σ := σ) (N := N) (g := g) (Qf := Qf) (Qt := Qt) hr.hd (by have := hr.dp; show A.depth < _; omega) (fun s' H I q => hT s' H I q) (fun s' H I q => hF s' H I q) N s hg I.nolimit ⟨_, hgs, rfl, ?_⟩
  refine wake _ none [] _ ⟨hr.hd, ?_, ?_⟩ hfr (by simp) (fun b hb => absurd hb (by simp)) (fun S hS => by cases hS) (fun b o e => e) rfl (allBare_setGen I.bare rfl)
  · have := hr.dp
    show A.depth + 3 * (k + 1) + 5 < _
    omega
  · have := hr.un
    show A.units + 1 + 1 + 16 * (k + 1) + 200 < _
    omega
end
end GX

set_option maxRecDepth 100000
set_option maxHeartbeats 4000000
set_option pp.maxSteps 900
/-! GenZ2: generator expressions with two fors. -/
namespace GX
open PySem PySem.Spec PyProof.Rows L2 GenW
open PySem.W (CodeHd)
abbrev gx2 (elt t1 it1 : Expr) (ifs1 : List Expr) (t2 it2 : Expr) (ifs2 : List Expr) (scope : Scope) (pos : Pos) : Expr := .GeneratorExp elt [⟨t1, it1, ifs1, 0⟩, ⟨t2, it2, ifs2, 0⟩] scope pos
theorem compTurn_gx2_in (elt t1 it1 : Expr) (ifs1 : List Expr) (t2 it2 : Expr) (ifs2 : List Expr) (scope : Scope) (pos : Pos) (it acc : Value) (env : Env) :
    compTurn (gx2 elt t1 it1 ifs1 t2 it2 ifs2 scope pos) 1 it acc env = (do
      standAt it2.pos
      match ← pyNext it with
      | none => pure (.done .next)
      | some v =>
        letOwnedTupleGo t2 it v
        assign t2 env v
        let mut ok := true
        for c in ifs2 do
          if ok then ok ← isTrue c env (eval c env)
        if ok then
          (do let v ← eval elt env; standAt elt.pos; let _ ← yieldOut env v)
        again (.compLoop (gx2 elt t1 it1 ifs1 t2 it2 ifs2 scope pos) 1 it acc env)) := by rfl
theorem compTurn_gx2_out (elt t1 it1 : Expr) (ifs1 : List Expr) (t2 it2 : Expr) (ifs2 : List Expr) (scope : Scope) (pos : Pos) (it acc : Value) (env : Env) :
    compTurn (gx2 elt t1 it1 ifs1 t2 it2 ifs2 scope pos) 0 it acc env = (do
      standAt it1.pos
      match ← pyNext it with
      | none => pure (.done .next)
      | some v =>
        letOwnedTupleGo t1 it v
        assign t1 env v
        let mut ok := true
        for c in ifs1 do
          if ok then ok ← isTrue c env (eval c env)
        if ok then
          let x ← eval it2 env
          standAt it2.pos
          let x ← foldedSetIterable it2 env x
          let _ ← runOwn (.compStart (gx2 elt t1 it1 ifs1 t2 it2 ifs2 scope pos) 1 (← holding [x] (pyIter x)) acc env) env
        again (.compLoop (gx2 elt t1 it1 ifs1 t2 it2 ifs2 scope pos) 0 it acc env)) := by rfl
section
variable {A : Around} {elt t1 it1 t2 it2 : Expr} {ifs1 ifs2 : List Expr} {scope : Scope} {pos : Pos} {it it' acc acc' : Value} {env : Env}
theorem ov2_h : (A.over (.compLoop (gx2 elt t1 it1 ifs1 t2 it2 ifs2 scope pos) 0 it acc env) []).handled = A.handled := rfl
theorem ov2_d : (A.over (.compLoop (gx2 elt t1 it1 ifs1 t2 it2 ifs2 scope pos) 0 it acc env) []).depth = A.depth + 1 := by
  first | rfl | simp [Around.over, frameCount, Code.weight, Code.frames, Code.isFrame]
theorem ov2_f {l : List Env} (h : A.frames = some l) : (A.over (.compLoop (gx2 elt t1 it1 ifs1 t2 it2 ifs2 scope pos) 0 it acc env) []).frames = some (env :: l) := by
  simp [Around.over, pushEnvs, envsOf, Code.envs, Code.env?, Code.isFrame, h]
theorem ov2_u : (A.over (.compLoop (gx2 elt t1 it1 ifs1 t2 it2 ifs2 scope pos) 0 it acc env) []).units = A.units + 3 := by
  first | rfl | simp [Around.over, unitsOf, Code.cUnits, Code.frames, Code.isFrame]
theorem ov2_room {k : Nat} (hr : Room (k + 1) A) : Room k (A.over (.compLoop (gx2 elt t1 it1 ifs1 t2 it2 ifs2 scope pos) 0 it acc env) []) :=
  ⟨by rw [ov2_h]; exact hr.hd, by rw [ov2_d]; have := hr.dp; omega, by rw [ov2_u]; have := hr.un; omega⟩
variable {k : Result → Sem Fin} {l : List Value} {p₁ : Pos} {kp : List Value}
abbrev fr2 (elt t1 it1 : Expr) (ifs1 : List Expr) (t2 it2 : Expr) (ifs2 : List Expr) (scope : Scope) (pos : Pos) (it acc : Value) (env : Env) (k : Result → Sem Fin) (l : List Value) (p₁ : Pos) (kp : List Value) : Frame :=
  .ret k none false l (.compLoop (gx2 elt t1 it1 ifs1 t2 it2 ifs2 scope pos) 0 it acc env) p₁ kp
theorem ov3_h (hh : A.handled = none) : (A.over (.compLoop (gx2 elt t1 it1 ifs1 t2 it2 ifs2 scope pos) 1 it' acc' env) [fr2 elt t1 it1 ifs1 t2 it2 ifs2 scope pos it acc env k l p₁ kp]).handled = none := by
  simp [Around.over, marksOver, Frame.marks, hh, markOver]
theorem ov3_d : (A.over (.compLoop (gx2 elt t1 it1 ifs1 t2 it2 ifs2 scope pos) 1 it' acc' env) [fr2 elt t1 it1 ifs1 t2 it2 ifs2 scope pos it acc env k l p₁ kp]).depth = A.depth + 1 := by
  first | rfl | simp [Around.over, frameCount, Code.weight, Code.frames, Code.isFrame, Frame.where_]
theorem ov3_f {l0 : List Env} (h : A.frames = some l0) : (A.over (.compLoop (gx2 elt t1 it1 ifs1 t2 it2 ifs2 scope pos) 1 it' acc' env) [fr2 elt t1 it1 ifs1 t2 it2 ifs2 scope pos it acc env k l p₁ kp]).frames = some (env :: l0) := by
  simp [Around.over, pushEnvs, envsOf, Code.envs, Code.env?, Code.isFrame, Frame.where_, h]
theorem ov3_u : (A.over (.compLoop (gx2 elt t1 it1 ifs1 t2 it2 ifs2 scope pos) 1 it' acc' env) [fr2 elt t1 it1 ifs1 t2 it2 ifs2 scope pos it acc env k l p₁ kp]).units = A.units + 3 := by
  first | rfl | simp [Around.over, unitsOf, Code.cUnits, Code.frames, Code.isFrame, Frame.where_]
theorem ov3_room {j : Nat} (hr : Room (j + 1) A) : Room j (A.over (.compLoop (gx2 elt t1 it1 ifs1 t2 it2 ifs2 scope pos) 1 it' acc' env) [fr2 elt t1 it1 ifs1 t2 it2 ifs2 scope pos it acc env k l p₁ kp]) :=
  ⟨ov3_h hr.hd, by rw [ov3_d]; have := hr.dp; omega, by rw [ov3_u]; have := hr.un; omega⟩
end

/-- what stands of an iterator's objects, whatever the heap -/
def FpS (X : Cx) (b : Addr) : Prop := b ≠ X.env.locals ∧ b ∉ X.fs ∧ (b ∈ X.ex ∨ X.s_0.heap.objs.size ≤ b) ∧ ∀ x c, X.env.cells.lookup x = some c → c ≠ b
theorem FpS.ok {X : Cx} {b : Addr} {H : Hp} {pins : List (Addr × Obj)} (h : FpS X b) (hn : H b = none) (hp : ∀ p ∈ X.pn ++ pins, p.1 ≠ b) : FpOk X pins H b := ⟨hn, h.1, h.2.1, h.2.2.1, h.2.2.2, hp⟩
abbrev Cxw (X : Cx) (pn : List (Addr × Obj)) (A : Around) : Cx := { X with pn := pn, A := A }
theorem inv_cxw {X : Cx} {pins : List (Addr × Obj)} {pn : List (Addr × Obj)} {σ : L2.St} {H : Hp} {s : Shared} {A : Around} {pins' : List (Addr × Obj)} (I : Inv X pins σ H s) (hh : X.calm = true → A.handled = none) (hf : A.frames = some X.stack)
    (h : ∀ p ∈ pn ++ pins', s.heap.get? p.1 = some p.2 ∧ H p.1 = none ∧ p.1 ≠ X.env.locals ∧ p.1 ∉ X.fs ∧ ∀ v, p.2.data ≠ .cell v) : Inv (Cxw X pn A) pins' σ H s :=
  ⟨⟨I.ok.mod, I.ok.kind, I.ok.glob, I.ok.blt, I.ok.above, I.ok.inj, I.ok.has, I.ok.cab, hh, hf, I.ok.stk, I.ok.exf, I.ok.bs, I.ok.bsz, I.ok.noex, I.ok.exfs, I.ok.funs, I.ok.frf⟩, I.os, I.bare, I.base, I.loc, I.cell, I.free, I.freeC, h, I.hok, I.len⟩
theorem inv_uncxw {X : Cx} {pins : List (Addr × Obj)} {pn : List (Addr × Obj)} {σ : L2.St} {H : Hp} {s : Shared} {A : Around} {pins' : List (Addr × Obj)} (I : Inv (Cxw X pn A) pins' σ H s) (ok : X.Ok)
    (h : ∀ p ∈ X.pn ++ pins, p ∈ pn ++ pins') : Inv X pins σ H s :=
  ⟨ok, I.os, I.bare, I.base, I.loc, I.cell, I.free, I.freeC, fun p hp => I.pin p (h p hp), I.hok, I.len⟩

section
variable {X : Cx} {elt t1 it1 t2 it2 : Expr} {ifs1 ifs2 : List Expr} {scope : Scope} {pos : Pos} {it ito : Addr} {fp : List Addr} {tn : Nat → Heap → Prop} {J : It} {g : TG} {tt : TT} {te : TE} {vs : List Nat} {σg : L2.St} {N : Nat}
  {Qy : List V → V → Hp → Prop} {Rs : List V → V → Prop} {Qe : List V → Hp → Prop} {W : Nat → Nat → List V → Hp → Prop} {So : Option Addr} {Cs : List Addr} {A A' : Around} {pn : List (Addr × Obj)} {R : GenEnd} {k : Result → Sem Fin} {l kp : List Value} {p₁ : Pos}
theorem seg_in2 (hA : A.over (.compLoop (gx2 elt t1 it1 ifs1 t2 it2 ifs2 scope pos) 1 (.ref it) .none X.env) [fr2 elt t1 it1 ifs1 t2 it2 ifs2 scope pos (.ref ito) .none X.env k l p₁ kp] = A') (hc : X.calm = true) (hfx : ∀ b ∈ fp, FpS X b) (hxe : X.xe = fun _ _ => False) (hco : X.env.scope.isCoroutine = false)
    (T : Turn X.prog X.w X.K t2 J fp it tn) (hnd : Cs.Nodup) (hAp : ApartC (Cxw X pn A') Cs) (hSo : ∀ S, So = some S → S ∈ Cs) (hfpC : ∀ b ∈ fp, b ∉ Cs ∧ ∀ p ∈ pn, p.1 ≠ b)
    (pg : PG (Cxw X pn A') t2 g) (pt : PTs (Cxw X pn A') ifs2 tt) (pe : PE (Cxw X pn A') elt te) (turn : GTurn J g tt te vs σg N Qy Rs Qe W) (hlen : σg.length = X.N.length)
    (hcv : ∀ {ys σ H s}, GIo (Cxw X pn A') So Cs ys σ H s → GIo X So Cs ys σ H s)
    (hend : ∀ n ys s₀ s H, n + ys.length = N → GIo (Cxw X pn A') So Cs ys σg H s → Qe ys H → Seg (model X.prog X.w) A R (YO X So Cs N Qy Rs) n s₀ (.compLoop (gx2 elt t1 it1 ifs1 t2 it2 ifs2 scope pos) 0 (.ref ito) .none X.env) (k (.ok .next)) [] s) :
    ∀ (m i n : Nat) (ys : List V) (s₀ s : Shared) (H : Hp), W i m ys H → n + ys.length = N → GIo (Cxw X pn A') So Cs ys σg H s → tn i s.heap → (∀ b ∈ fp, H b = none) →
      Seg (model X.prog X.w) A R (YO X So Cs N Qy Rs) n s₀ (.compLoop (gx2 elt t1 it1 ifs1 t2 it2 ifs2 scope pos) 1 (.ref it) .none X.env)
        ((model X.prog X.w).den (.compLoop (gx2 elt t1 it1 ifs1 t2 it2 ifs2 scope pos) 1 (.ref it) .none X.env)) [fr2 elt t1 it1 ifs1 t2 it2 ifs2 scope pos (.ref ito) .none X.env k l p₁ kp] s := by
  intro m
  induction m using Nat.strongRecOn with
  | ind m ih =>
    intro i n ys s₀ s H w hn hI st nfp
    obtain ⟨pins, hpin, I⟩ := hI
    have hpo : ∀ {pins'}, PinOk So Cs ys pins' → ∀ b ∈ fp, ∀ p ∈ pn ++ pins', p.1 ≠ b := fun {pins'} hp b hb p hp' e => by
      rcases List.mem_append.mp hp' with z | z
      · exact (hfpC b hb).2 p z e
      · refine (hfpC b hb).1 ?_
        rw [← hp.1, ← e]
        exact List.mem_map.mpr ⟨p, z, rfl⟩
    have hfo : ∀ {pins' : List (Addr × Obj)} {H : Hp}, PinOk So Cs ys pins' → (∀ b ∈ fp, H b = none) → ∀ b ∈ fp, FpOk (Cxw X pn A') pins' H b := fun {pins' H} hp hn b hb => FpS.ok (X := Cxw X pn A') (hfx b hb) (hn b hb) (hpo hp b hb)
    show Seg _ A _ _ _ s₀ _ ((compTurn (gx2 elt t1 it1 ifs1 t2 it2 ifs2 scope pos) 1 (.ref it) .none X.env).onRaise _) _ s
    rw [compTurn_gx2_in, Sem.onRaise_eq_wrap]
    refine seg_bind_wrap (wpAny_standAt ?_)
    rcases turn i m ys H w with ⟨stop, qq⟩ | ⟨go, step⟩
    · refine seg_bind_wrap ?_
      rw [hA]
      refine wpAny_mono (T.done (Cxw X pn A') rfl rfl rfl hc i pins s σg H (fun _ _ => False) I (hfo hpin nfp) st stop) (fun r s1 hr => ?_) fun _ _ z => z.elim
      obtain ⟨hr, I1⟩ := hr
      subst hr
      exact seg_leaf (.ok .next) (hend n ys s₀ s1 H hn ⟨pins, hpin, I1⟩ qq)
    · refine seg_bind_wrap ?_
      rw [hA]
      refine wpAny_mono (T.item (Cxw X pn A') rfl rfl rfl hc i pins s σg H (fun _ _ => False) I (hfo hpin nfp) st go) (fun r s1 hr => ?_) fun _ _ z => z.elim
      obtain ⟨u, hr, hgo⟩ := hr
      subst hr
      refine seg_bind_wrap ?_
      rw [hA]
      refine wpAny_mono hgo (fun _ s2 h2 => ?_) fun _ _ z => z.elim
      obtain ⟨x, H', I2, rx, hy, st2, nfp2⟩ := h2
      refine seg_bind_wrap ?_
      rw [hA]
      have fo2 := hfo hpin nfp2
      have I2' := I2.pinned fo2 (T.obj _ _ st2)
      refine wpAny_mono (pg.run _ s2 σg H' x u _ I2' rx (step x H' hy)) (fun _ s3 h3 => ?_) fun e s' z => by rw [show (Cxw X pn A').xe = X.xe from rfl, hxe] at z; exact z.elim
      obtain ⟨σ3, H3, I3, hw3, q3⟩ := h3
      have fin : ∀ {s' : Shared} {H' : Hp}, Inv (Cxw X pn A') (pins ++ pinsAt fp s2.heap) σ3 H' s' → Inv (Cxw X pn A') pins σg H' s' ∧ tn (i + 1) s'.heap ∧ ∀ b ∈ fp, H' b = none := fun {s' H'} I' => by
        have pin' : ∀ b ∈ fp, ∀ o, s2.heap.get? b = some o → s'.heap.get? b = some o ∧ H' b = none := fun b hb o e =>
          let z := I'.pin (b, o) (List.mem_append_right _ (List.mem_append_right _ (mem_pinsAt hb e)))
          ⟨z.1, z.2.1⟩
        have hl : σg.length = σ3.length := by rw [← hw3, wipe_length]
        refine ⟨(I'.unpinned (pins := pins)).weak hl (fun j v e => ?_), T.keep _ _ _ st2 fun b hb o e => (pin' b hb o e).1, fun b hb => ?_⟩
        · rw [← hw3] at e
          exact (wipe_some e).1
        · obtain ⟨o, e, _⟩ := T.obj _ _ st2 b hb
          exact (pin' b hb o e).2
      refine seg_bind_wrap ?_
      rw [hA]
      refine wpAny_mono (pt.run _ s3 σ3 H3 _ I3 q3) (fun b s4 h4 => ?_) fun e s' z => by rw [show (Cxw X pn A').xe = X.xe from rfl, hxe] at z; exact z.elim
      obtain ⟨H4, I4, q4⟩ := h4
      cases b with
      | false =>
        simp only [Bool.false_eq_true, if_false] at q4 ⊢
        obtain ⟨m', hm, w'⟩ := q4
        obtain ⟨I5, st5, n5⟩ := fin I4
        exact seg_again rfl (ih m' hm (i + 1) n ys s₀ s4 H4 w' hn ⟨pins, hpin, I5⟩ st5 n5)
      | true =>
        simp only [if_true] at q4 ⊢
        have hy' : ∀ v, yieldOut X.env v = yieldValue v := fun v => by simp only [yieldOut, hco, Bool.false_eq_true, if_false]
        simp only [hy']
        rw [Sem.bind_eq_wrap', Sem.bind_eq_wrap', Sem.wrap_wrap, Sem.wrap_wrap]
        refine seg_wrap ?_
        rw [hA]
        refine wpAny_mono (pe.run _ s4 σ3 H4 _ I4 q4) (fun z s5 h5 => ?_) fun e s' z => by rw [show (Cxw X pn A').xe = X.xe from rfl, hxe] at z; exact z.elim
        obtain ⟨y, H5, I5, ry, hlt, hQy, hnext⟩ := h5
        obtain ⟨I6, st6, n6⟩ := fin I5
        obtain ⟨n, rfl⟩ : ∃ k, n = k + 1 := ⟨n - 1, by omega⟩
        have G6 : GIo (Cxw X pn A') So Cs ys σg H5 s5 := ⟨pins, hpin, I6⟩
        refine seg_at (seg_yield rfl rfl rfl ⟨ys, y, σg, H5, hn, ry, hcv G6, hQy, fun hrs s'' hsl => ?_⟩)
        obtain ⟨m', hm, w'⟩ := hnext hrs
        refine seg_again rfl (ih m' hm (i + 1) n (ys ++ [y]) s'' s'' H5 w' (by rw [List.length_append, List.length_singleton]; omega) (G6.woken hnd hAp hSo ry hsl) ?_ n6)
        exact T.keep _ _ _ st6 fun b hb o e => hsl.keep b o (hfpC b hb).1 e
end

def GTurn2 (J : It) (g : TG) (tt : TT) (wi : TI) (g2 : TG) (tt2 : TT) (te : TE) (vs vs2 : List Nat) (σg : L2.St) (N : Nat) (Qy : List V → V → Hp → Prop) (Rs : List V → V → Prop) (Qe : List V → Hp → Prop) (W : Nat → Nat → List V → Hp → Prop) : Prop :=
  ∀ i m ys H, W i m ys H → (J.stop i H ∧ Qe ys H) ∨ (J.go i H ∧ ∀ x H', J.yld i H x H' → g x σg H' fun σ2 H2 => wipe σ2 vs = σg ∧ tt σ2 H2 fun b H3 =>
    if b = true then wi σ2 H3 fun J2 H4 => ∃ W2, (∃ m2, W2 0 m2 ys H4) ∧ GTurn J2 g2 tt2 te vs2 (wipe σ2 vs2) N Qy Rs (fun ys' H5 => ∃ m', m' < m ∧ W (i + 1) m' ys' H5) W2
    else ∃ m', m' < m ∧ W (i + 1) m' ys H3)
theorem wipe_get {σ : L2.St} {j : Nat} {v : V} : ∀ {vs : List Nat}, σ[j]? = some (some v) → j ∉ vs → (wipe σ vs)[j]? = some (some v)
  | [], h, _ => h
  | w :: vs, h, hn => by
    unfold wipe
    have h1 : w ≠ j := fun e => hn (by rw [e]; exact List.mem_cons_self)
    rw [List.getElem?_set_ne h1]
    exact wipe_get h fun hm => hn (List.mem_cons_of_mem _ hm)
section
variable {X : Cx} {elt t1 it1 t2 it2 : Expr} {ifs1 ifs2 : List Expr} {scope : Scope} {pos : Pos} {ito : Addr} {fp : List Addr} {tn : Nat → Heap → Prop} {J : It} {g g2 : TG} {tt tt2 : TT} {te : TE} {wi : TI} {vs vs2 : List Nat} {σg : L2.St} {N : Nat}
  {Qy : List V → V → Hp → Prop} {Rs : List V → V → Prop} {Qe : List V → Hp → Prop} {W : Nat → Nat → List V → Hp → Prop} {So : Option Addr} {Cs : List Addr} {A : Around}
theorem seg_loop2 {kr : Nat} (hrA : Room (kr + 1) A) (hfrA : ∃ l, A.frames = some l ∧ X.stack = X.env :: l) (hA : A.over (.compLoop (gx2 elt t1 it1 ifs1 t2 it2 ifs2 scope pos) 0 (.ref ito) .none X.env) [] = X.A) (hc : X.calm = true) (hex : X.ex = fp) (hxe : X.xe = fun _ _ => False) (hco : X.env.scope.isCoroutine = false)
    (T : Turn X.prog X.w X.K t1 J fp ito tn) (hnd : Cs.Nodup) (hAp : ApartC X Cs) (hSo : ∀ S, So = some S → S ∈ Cs) (hfpC : ∀ b ∈ fp, b ∉ Cs ∧ ∀ p ∈ X.pn, p.1 ≠ b)
    (pg : PG X t1 g) (pt : PTs X ifs1 tt) (pi : PI X t2 it2 wi) (hs : ∀ x, foldedSetIterable it2 X.env x = pure x)
    (hin : ∀ (pn : List (Addr × Obj)) (A' : Around), Room kr A' → PG (Cxw X pn A') t2 g2 ∧ PTs (Cxw X pn A') ifs2 tt2 ∧ PE (Cxw X pn A') elt te)
    (turn : GTurn2 J g tt wi g2 tt2 te vs vs2 σg N Qy Rs Qe W) (hvs : ∀ j ∈ vs2, j ∈ vs) (hlen : σg.length = X.N.length) :
    ∀ (m i n : Nat) (ys : List V) (s₀ s : Shared) (H : Hp), W i m ys H → n + ys.length = N → GIo X So Cs ys σg H s → tn i s.heap → (∀ b ∈ fp, H b = none) →
      Seg (model X.prog X.w) A (RO X So Cs N Qe) (YO X So Cs N Qy Rs) n s₀ (.compLoop (gx2 elt t1 it1 ifs1 t2 it2 ifs2 scope pos) 0 (.ref ito) .none X.env)
        ((model X.prog X.w).den (.compLoop (gx2 elt t1 it1 ifs1 t2 it2 ifs2 scope pos) 0 (.ref ito) .none X.env)) [] s := by
  intro m
  induction m using Nat.strongRecOn with
  | ind m ih =>
    intro i n ys s₀ s H w hn hI st nfp
    obtain ⟨pins, hpin, I⟩ := hI
    have hpo : ∀ {pins'}, PinOk So Cs ys pins' → ∀ b ∈ fp, ∀ p ∈ X.pn ++ pins', p.1 ≠ b := fun {pins'} hp b hb p hp' e => by
      rcases List.mem_append.mp hp' with z | z
      · exact (hfpC b hb).2 p z e
      · refine (hfpC b hb).1 ?_
        rw [← hp.1, ← e]
        exact List.mem_map.mpr ⟨p, z, rfl⟩
    show Seg _ A _ _ _ s₀ _ ((compTurn (gx2 elt t1 it1 ifs1 t2 it2 ifs2 scope pos) 0 (.ref ito) .none X.env).onRaise (leaving X.env)) [] s
    rw [compTurn_gx2_out, Sem.onRaise_eq_wrap]
    refine seg_bind_wrap (wpAny_standAt ?_)
    rcases turn i m ys H w with ⟨stop, qq⟩ | ⟨go, step⟩
    · refine seg_bind_wrap ?_
      rw [hA]
      refine wpAny_mono (T.done X rfl rfl rfl hc i pins s σg H (fun _ _ => False) I (fp_ok I nfp hex (hpo hpin)) st stop) (fun r s1 hr => ?_) fun _ _ z => z.elim
      obtain ⟨hr, I1⟩ := hr
      subst hr
      exact seg_end (.ok .next) ⟨rfl, ys, σg, H, hn, ⟨pins, hpin, I1⟩, qq⟩
    · refine seg_bind_wrap ?_
      rw [hA]
      refine wpAny_mono (T.item X rfl rfl rfl hc i pins s σg H (fun _ _ => False) I (fp_ok I nfp hex (hpo hpin)) st go) (fun r s1 hr => ?_) fun _ _ z => z.elim
      obtain ⟨u, hr, hgo⟩ := hr
      subst hr
      refine seg_bind_wrap ?_
      rw [hA]
      refine wpAny_mono hgo (fun _ s2 h2 => ?_) fun _ _ z => z.elim
      obtain ⟨x, H', I2, rx, hy, st2, nfp2⟩ := h2
      refine seg_bind_wrap ?_
      rw [hA]
      have fo2 := fp_ok I2 nfp2 hex (hpo hpin)
      have I2' := I2.pinned fo2 (T.obj _ _ st2)
      refine wpAny_mono (pg.run _ s2 σg H' x u _ I2' rx (step x H' hy)) (fun _ s3 h3 => ?_) fun e s' z => by rw [hxe] at z; exact z.elim
      obtain ⟨σ3, H3, I3, hw3, q3⟩ := h3
      have fin : ∀ {s' : Shared} {H' : Hp}, Inv X (pins ++ pinsAt fp s2.heap) σ3 H' s' → Inv X pins σg H' s' ∧ tn (i + 1) s'.heap ∧ ∀ b ∈ fp, H' b = none := fun {s' H'} I' => by
        have pin' : ∀ b ∈ fp, ∀ o, s2.heap.get? b = some o → s'.heap.get? b = some o ∧ H' b = none := fun b hb o e =>
          let z := I'.pin (b, o) (List.mem_append_right _ (List.mem_append_right _ (mem_pinsAt hb e)))
          ⟨z.1, z.2.1⟩
        have hl : σg.length = σ3.length := by rw [← hw3, wipe_length]
        refine ⟨(I'.unpinned (pins := pins)).weak hl (fun j v e => ?_), T.keep _ _ _ st2 fun b hb o e => (pin' b hb o e).1, fun b hb => ?_⟩
        · rw [← hw3] at e
          exact (wipe_some e).1
        · obtain ⟨o, e, _⟩ := T.obj _ _ st2 b hb
          exact (pin' b hb o e).2
      refine seg_bind_wrap ?_
      rw [hA]
      refine wpAny_mono (pt.run _ s3 σ3 H3 _ I3 q3) (fun b s4 h4 => ?_) fun e s' z => by rw [hxe] at z; exact z.elim
      obtain ⟨H4, I4, q4⟩ := h4
      cases b with
      | false =>
        simp only [Bool.false_eq_true, if_false] at q4 ⊢
        obtain ⟨m', hm, w'⟩ := q4
        obtain ⟨I5, st5, n5⟩ := fin I4
        exact seg_again rfl (ih m' hm (i + 1) n ys s₀ s4 H4 w' hn ⟨pins, hpin, I5⟩ st5 n5)
      | true =>
        simp only [if_true] at q4 ⊢
        refine seg_bind_wrap ?_
        rw [hA]
        refine wpAny_mono (pi.run _ s4 σ3 H4 _ I4 q4) (fun xv s5 h5 => ?_) fun e s' z => by rw [hxe] at z; exact z.elim
        refine seg_bind_wrap (wpAny_standAt ?_)
        refine seg_bind_wrap (wpAny_of_eq (hs xv) ?_)
        refine seg_bind_wrap ?_
        rw [hA]
        refine wpAny_holding (wpAny_mono h5 (fun itv s6 h6 => ?_) fun e s' z => by rw [hxe] at z; exact z.elim)
        obtain ⟨it, fp2, tn2, J2, H6, rfl, I6, T2, st6, f6, W2, ⟨m2, w2⟩, turn2⟩ := h6
        unfold runOwn run
        simp only [Sem.onRaise_eq_wrap]
        rw [Sem.bind_eq_wrap']
        simp only [Sem.wrap_wrap, Sem.wrap]
        refine seg_call fun p => ?_
        generalize hk : (fun r : Result => _) = k
        generalize hA' : A.over (.compLoop (gx2 elt t1 it1 ifs1 t2 it2 ifs2 scope pos) 1 (.ref it) .none X.env) [fr2 elt t1 it1 ifs1 t2 it2 ifs2 scope pos (.ref ito) .none X.env k [] p []] = A'
        have hrA' : Room kr A' := by rw [← hA']; exact ov3_room hrA
        obtain ⟨l0, hl0, hl1⟩ := hfrA
        have hfA' : A'.frames = some X.stack := by rw [← hA', hl1]; exact ov3_f hl0
        obtain ⟨pg2, pt2, pe2⟩ := hin (X.pn ++ pinsAt fp s2.heap) A' hrA'
        have I6' : Inv (Cxw X (X.pn ++ pinsAt fp s2.heap) A') pins σ3 H6 s6 := inv_cxw I6 (fun _ => hrA'.hd) hfA' fun q hq => I6.pin q (by
          rcases List.mem_append.mp hq with z | z
          · rcases List.mem_append.mp z with z | z
            · exact List.mem_append_left _ z
            · exact List.mem_append_right _ (List.mem_append_right _ z)
          · exact List.mem_append_right _ (List.mem_append_left _ z))
        have hpc : ∀ b ∈ Cs, ∃ o, (b, o) ∈ pins := fun b hb => by
          rw [← hpin.1] at hb
          obtain ⟨q, hq, e⟩ := List.mem_map.mp hb
          exact ⟨q.2, by rw [← e]; exact hq⟩
        have loop := seg_in2 (X := X) (A := A) (A' := A') (k := k) (l := []) (kp := []) (p₁ := p) (pn := X.pn ++ pinsAt fp s2.heap) (R := RO X So Cs N Qe) (σg := wipe σ3 vs2) (vs := vs2) (W := W2) (Qe := fun ys' H5 => ∃ m', m' < m ∧ W (i + 1) m' ys' H5) (Qy := Qy) (Rs := Rs) (N := N) (ito := ito) (it1 := it1) (t1 := t1) (ifs1 := ifs1)
          hA' hc (fun b hb => let f := f6 b hb; ⟨f.2.1, f.2.2.1, f.2.2.2.1, f.2.2.2.2.1⟩) hxe hco T2 hnd
          (fun b hb => let ⟨a1, a2, a3, a4⟩ := hAp b hb; ⟨a1, a2, a3, fun q hq e => by
            rcases List.mem_append.mp hq with z | z
            · exact a4 q z e
            · obtain ⟨hb2, _⟩ := of_pinsAt z
              exact (hfpC q.1 hb2).1 (by rw [e]; exact hb)⟩) hSo
          (fun b hb => ⟨fun hm => by
            obtain ⟨o, ho⟩ := hpc b hm
            exact (f6 b hb).2.2.2.2.2 (b, o) (List.mem_append_right _ (List.mem_append_left _ ho)) rfl, fun q hq => (f6 b hb).2.2.2.2.2 q (by
            rcases List.mem_append.mp hq with z | z
            · exact List.mem_append_left _ z
            · exact List.mem_append_right _ (List.mem_append_right _ z))⟩)
          pg2 pt2 pe2 turn2 (by rw [wipe_length, ← hlen, ← hw3, wipe_length])
          (fun {ys σ H s} hG => let ⟨pins', hp', I'⟩ := hG; ⟨pins', hp', inv_uncxw I' I.ok fun q hq => by
            rcases List.mem_append.mp hq with z | z
            · exact List.mem_append_left _ (List.mem_append_left _ z)
            · exact List.mem_append_right _ z⟩)
          (fun n' ys' s₀' s' H' hn' hG hQ => by
            obtain ⟨pins', hp', I'⟩ := hG
            obtain ⟨m', hm, w'⟩ := hQ
            have pin' : ∀ b ∈ fp, ∀ o, s2.heap.get? b = some o → s'.heap.get? b = some o ∧ H' b = none := fun b hb o e =>
              let z := I'.pin (b, o) (List.mem_append_left _ (List.mem_append_right _ (mem_pinsAt hb e)))
              ⟨z.1, z.2.1⟩
            have Io : Inv X pins' σg H' s' := (inv_uncxw (pins := pins') I' I.ok fun q hq => by
              rcases List.mem_append.mp hq with z | z
              · exact List.mem_append_left _ (List.mem_append_left _ z)
              · exact List.mem_append_right _ z).weak (by rw [wipe_length, ← hw3, wipe_length]) fun j v e => by
                rw [← hw3] at e
                obtain ⟨e1, e2⟩ := wipe_some e
                exact wipe_get e1 fun hm => e2 (hvs j hm)
            rw [← hk]
            exact seg_again rfl (ih m' hm (i + 1) n' ys' s₀' s' H' w' hn' ⟨pins', hp', Io⟩ (T.keep _ _ _ st2 fun b hb o e => (pin' b hb o e).1) fun b hb => let ⟨o, e, _⟩ := T.obj _ _ st2 b hb; (pin' b hb o e).2))
          m2 0 n ys s₀ s6 H6 w2 hn ⟨pins, hpin, I6'.weak (wipe_length _ _) fun j v e => (wipe_some e).1⟩ st6 (fun b hb => (f6 b hb).1)
        show Seg _ A _ _ _ s₀ _ ((compStart (gx2 elt t1 it1 ifs1 t2 it2 ifs2 scope pos) 1 (.ref it) .none X.env).onRaise _) _ s6
        unfold compStart
        rw [Sem.onRaise_eq_wrap]
        show Seg _ A _ _ _ s₀ _ ((ask >>= _).wrap _ _ _ _) _ s6
        refine seg_bind_wrap (wpAny_askSetting ?_)
        split
        · exact seg_again rfl loop
        · first
            | exact seg_bind_wrap (wpAny_rule (seg_bind_wrap (wpAny_standAt (seg_bind_wrap (T2.self _ 0 s6 _ _ st6 (seg_again rfl loop))))))
            | (refine seg_bind_wrap (wpAny_rule ?_); show Seg _ A _ _ _ s₀ _ ((standAt it2.pos >>= _).wrap _ _ _ _) _ s6; exact seg_bind_wrap (wpAny_standAt (seg_bind_wrap (T2.self _ 0 s6 _ _ st6 (seg_again rfl loop)))))
end
end GX

set_option maxRecDepth 100000
set_option maxHeartbeats 4000000
set_option pp.maxSteps 900
namespace GX
open PySem PySem.Spec PyProof.Rows L2 GenW
open PySem.W (CodeHd)
theorem eval_gx2 (elt t1 it1 : Expr) (ifs1 : List Expr) (t2 it2 : Expr) (ifs2 : List Expr) (scope : Scope) (pos : Pos) (env : Env) (hco : scope.isCoroutine = false) :
    eval (gx2 elt t1 it1 ifs1 t2 it2 ifs2 scope pos) env = (do
      let x ← eval it1 env
      standAt it1.pos
      let x ← genFold it1 env x
      let it ← holding [x] (pyIter x)
      enterFrame
      let cl ← closureFor scope env
      let code ← genexprCode env pos (env.qual ++ "<genexpr>") scope
      let bi ← builtinsFor env.globals env.builtins
      let cenv ← newFunctionEnv scope env.globals cl [(".0", it)] (env.qual ++ "<genexpr>.") none code none bi
      newGenerator (.compStart (gx2 elt t1 it1 ifs1 t2 it2 ifs2 scope pos) 0 it .none cenv) "<genexpr>" (env.qual ++ "<genexpr>")) := by
  rw [arm_eval_GeneratorExp]
  simp only [hco, Bool.false_eq_true, if_false]
  rfl
section
variable {X : Cx} {elt t1 it1 t2 it2 : Expr} {ifs1 ifs2 : List Expr} {scope : Scope} {pos : Pos} {ito : Addr} {fp : List Addr} {tn : Nat → Heap → Prop} {J : It} {g g2 : TG} {tt tt2 : TT} {te : TE} {wi : TI} {vs vs2 : List Nat} {σg : L2.St} {N : Nat}
  {Qy : List V → V → Hp → Prop} {Rs : List V → V → Prop} {Qe : List V → Hp → Prop} {W : Nat → Nat → List V → Hp → Prop} {So : Option Addr} {Cs : List Addr} {A : Around}
theorem seg_start2 {kr : Nat} (hrA : Room (kr + 1) A) (hfrA : ∃ l, A.frames = some l ∧ X.stack = X.env :: l) (hA : A.over (.compLoop (gx2 elt t1 it1 ifs1 t2 it2 ifs2 scope pos) 0 (.ref ito) .none X.env) [] = X.A) (hc : X.calm = true) (hex : X.ex = fp) (hxe : X.xe = fun _ _ => False) (hco : X.env.scope.isCoroutine = false)
    (T : Turn X.prog X.w X.K t1 J fp ito tn) (hnd : Cs.Nodup) (hAp : ApartC X Cs) (hSo : ∀ S, So = some S → S ∈ Cs) (hfpC : ∀ b ∈ fp, b ∉ Cs ∧ ∀ p ∈ X.pn, p.1 ≠ b)
    (pg : PG X t1 g) (pt : PTs X ifs1 tt) (pi : PI X t2 it2 wi) (hs : ∀ x, foldedSetIterable it2 X.env x = pure x)
    (hin : ∀ (pn : List (Addr × Obj)) (A' : Around), Room kr A' → PG (Cxw X pn A') t2 g2 ∧ PTs (Cxw X pn A') ifs2 tt2 ∧ PE (Cxw X pn A') elt te)
    (turn : GTurn2 J g tt wi g2 tt2 te vs vs2 σg N Qy Rs Qe W) (hvs : ∀ j ∈ vs2, j ∈ vs) (hlen : σg.length = X.N.length)
    {m n : Nat} {ys : List V} {s₀ s : Shared} {H : Hp} (w : W 0 m ys H) (hn : n + ys.length = N) (hI : GIo X So Cs ys σg H s) (st : tn 0 s.heap) (nfp : ∀ b ∈ fp, H b = none) :
      Seg (model X.prog X.w) A (RO X So Cs N Qe) (YO X So Cs N Qy Rs) n s₀ (.compStart (gx2 elt t1 it1 ifs1 t2 it2 ifs2 scope pos) 0 (.ref ito) .none X.env)
        ((model X.prog X.w).den (.compStart (gx2 elt t1 it1 ifs1 t2 it2 ifs2 scope pos) 0 (.ref ito) .none X.env)) [] s := by
  have loop := seg_loop2 (So := So) (Cs := Cs) (Qy := Qy) (Rs := Rs) (Qe := Qe) hrA hfrA hA hc hex hxe hco T hnd hAp hSo hfpC pg pt pi hs hin turn hvs hlen m 0 n ys s₀ s H w hn hI st nfp
  show Seg _ A _ _ _ s₀ _ ((compStart (gx2 elt t1 it1 ifs1 t2 it2 ifs2 scope pos) 0 (.ref ito) .none X.env).onRaise (leaving X.env)) [] s
  unfold compStart
  rw [Sem.onRaise_eq_wrap]
  show Seg _ A _ _ _ s₀ _ ((ask >>= _).wrap _ _ _ _) [] s
  refine seg_bind_wrap (wpAny_askSetting ?_)
  split
  · exact seg_again rfl loop
  · first
      | exact seg_bind_wrap (wpAny_rule (seg_bind_wrap (wpAny_standAt (seg_bind_wrap (T.self _ 0 s _ _ st (seg_again rfl loop))))))
      | (refine seg_bind_wrap (wpAny_rule ?_); show Seg _ A _ _ _ s₀ _ ((standAt it1.pos >>= _).wrap _ _ _ _) [] s; exact seg_bind_wrap (wpAny_standAt (seg_bind_wrap (T.self _ 0 s _ _ st (seg_again rfl loop)))))
end
section
variable {X : Cx} {pins : List (Addr × Obj)} {σ : L2.St} {H : Hp} {s : Shared}
theorem gx_made2 {k N : Nat} {elt tg iter t2 it2 : Expr} {ifs ifs2 : List Expr} {vs2 : List Nat} {scope : Scope} {own : List (Str × Nat)} {pos : Pos} {wi : TI} {Qy : List V → V → Hp → Prop} {Rs : List V → V → Prop} {Qe : List V → Hp → Prop}
    (hr : Room 1 X.A) (hcalm : X.calm = true) (hN : X.N.Nodup) (hi : PI X tg iter wi) (ok : BlkOk X.N X.env.scope scope own) (hco : scope.isCoroutine = false) (h0 : scope.names.lookup (".0" : Str) = some .local)
    (bm : ∃ P, X.base.BuiltinsAt X.mg P) (hs : ∀ v, genFold iter X.env v = pure v) (hs2 : ∀ env v, foldedSetIterable it2 env v = pure v) (hvs : ∀ j ∈ vs2, j ∈ own.map (·.2)) (I : Inv X pins σ H s)
    (h : wi σ H fun J H1 => ∃ T c P, X.env.code = .ref c ∧ TabI X.base T H1 ∧ T c P ∧ ∀ (H' : Hp) (T' : Tb) (c' P' : Addr), TabI X.base T' H' → (∀ a b, T a b → T' a b) → T' c' P' → Grown H1 H' →
      ∀ (s' : Shared) (L : Addr) (cl : List (Str × Addr)) (q : Str) (fp : List Addr) (pn : List (Addr × Obj)) (A : Around), Room k A → ∃ g tt wi2 g2 tt2 te W, PG (gx X s' H' scope L cl q (.ref c') fp pn A) tg g ∧ PTs (gx X s' H' scope L cl q (.ref c') fp pn A) ifs tt ∧ PI (gx X s' H' scope L cl q (.ref c') fp pn A) t2 it2 wi2 ∧
        (∀ pn' A', Room k A' → PG (Cxw (gx X s' H' scope L cl q (.ref c') fp pn A) pn' A') t2 g2 ∧ PTs (Cxw (gx X s' H' scope L cl q (.ref c') fp pn A) pn' A') ifs2 tt2 ∧ PE (Cxw (gx X s' H' scope L cl q (.ref c') fp pn A) pn' A') elt te) ∧ (∃ m, W 0 m [] H') ∧ GTurn2 J g tt wi2 g2 tt2 te (own.map (·.2)) vs2 (wipe σ (own.map (·.2))) N Qy Rs Qe W) :
    wpAny (model X.prog X.w) X.A (eval (gx2 elt tg iter ifs t2 it2 ifs2 scope pos) X.env) (GMd X k pins σ N Qy Rs Qe) X.xe s := by
  have hfree : ∀ y ∈ scope.names, y.2 = .free → ∃ c, X.env.cells.lookup y.1 = some c := fun y hy e => by
    rcases ok.free y hy e with k | k
    · exact I.ok.has _ (.inl k)
    · exact I.ok.has _ (.inr k)
  rw [eval_gx2 _ _ _ _ _ _ _ _ _ _ hco, closure_ok hfree]
  refine wpAny_bind (thn (hi.run pins s σ H _ I h) fun xv s1 hx => ?_)
  refine wpAny_bind (wpAny_standAt ?_)
  refine wpAny_bind (wpAny_of_eq (hs xv) ?_)
  refine wpAny_bind (wpAny_holding (thn hx fun itv s2 h2 => ?_))
  obtain ⟨it, fp, tn, J, H2, e, I2, T, st2, f2, T0, c, P, hcode, hTabI, hTcP, hq⟩ := h2
  subst e
  refine wpAny_bind (wpAny_enterFrame I2.nolimit hr.depth ?_)
  refine wpAny_bind (wpAny_pure ?_)
  refine wpAny_bind (genexpr_code I2 hTabI hcode hTcP fun H3 T' c' P' s3 I3 hTabI' hTT hT' hk1 hk2 hk3 hsz3 => ?_)
  have q3 := hq H3 T' c' P' hTabI' hTT hT' ⟨hk1, hk2⟩
  obtain ⟨Pb, bmm, ob, e1, e2, e3, e4, e5, e6, e7, e8⟩ := bm
  refine wpAny_bind (wpAny_builtinsFor (m := X.mg) (by rw [I.ok.glob]; exact I3.mod.glob.keeps I3.bk) e1 e2 (I3.bk _ _ e5) e6 e7 e8 ?_)
  have f3 : ∀ b ∈ fp, FpOk X pins H3 b ∧ b < s3.heap.objs.size := fun b hb => by
    obtain ⟨o, ho, _⟩ := T.obj _ _ st2 b hb
    obtain ⟨g1, g2⟩ := hk3 b o ho (f2 b hb).1
    exact ⟨⟨g2, (f2 b hb).2⟩, Heap.lt_size g1⟩
  have st3 : tn 0 s3.heap := T.keep _ _ _ st2 fun b hb o ho => (hk3 b o ho (f2 b hb).1).1
  have cm : ∀ p ∈ cloFrom X.env.cells scope.names [], p.2 < s3.heap.objs.size := fun p hp => by
    rcases cloFrom_mem (n := p.1) (c := p.2) hp with hm | ⟨h1, e⟩
    · cases hm
    · obtain ⟨c, hc⟩ := hfree _ h1 rfl
      rw [e, hc]
      obtain ⟨w, z⟩ := I3.cell _ _ hc
      exact z.lt
  refine wpAny_bind (newEnv_gx (globals := X.env.globals) ok.kind h0 cm fun h4 tk4 hns4 hk4 hc4 hcl4 hsz4 => ?_)
  simp only [newGenerator, newFields]
  refine wpAny_bind (wpAny_newGen (wpAny_bind (wpAny_mkText (wpAny_bind (wpAny_mkText (wpAny_newObj_type ?_ (by size_fits)))))))
  show GMd X k pins σ N Qy Rs Qe (.ref h4.objs.size) { s3 with gens := s3.gens.push (.fresh (.compStart (gx2 elt tg iter ifs t2 it2 ifs2 scope pos) 0 (.ref it) .none (gxEnv X scope s3.heap.objs.size (cellsFrom (s3.heap.objs.size + 1) scope.names (cloFrom X.env.cells scope.names [])) (X.env.qual ++ "<genexpr>.") (.ref c')))), toks := tk4 + 1 + 1, heap := h4.push { cls := .type "generator", data := .fields #[rawInt s3.gens.size, .str "<genexpr>" tk4, .str (X.env.qual ++ "<genexpr>") (tk4 + 1)] } }
  generalize hgo : ({ cls := .type "generator", data := .fields #[rawInt s3.gens.size, .str "<genexpr>" tk4, .str (X.env.qual ++ "<genexpr>") (tk4 + 1)] } : Obj) = go
  have hgc : NoCell go := fun v q => by rw [← hgo] at q; cases q
  have hpush : (h4.push go).get? h4.objs.size = some go := by rw [← hgo]; exact Heap.get?_push_size _ rfl
  have hgen : ∀ hh : Heap, hh.get? h4.objs.size = some go → hh.IsGen h4.objs.size s3.gens.size := fun hh e => ⟨go, _, _, e, by rw [← hgo], by rw [← hgo]; rfl, by rw [← hgo]⟩
  have kp6 : ∀ b o, s3.heap.get? b = some o → (h4.push go).get? b = some o := fun b o e => Heap.get?_push_of_some _ (hk4 b o e)
  have age : s3.heap.objs.size ≤ h4.objs.size := Nat.le_of_lt hsz4
  have ha0 : H3 h4.objs.size = none := I3.hok.fresh age
  refine ⟨h4.objs.size, s3.gens.size, _, H3, rfl, ?_, ha0, ?_, hgen _ hpush, Array.getElem?_push_size .., ?_⟩
  · exact I3.call' (ch := []) rfl (Un.kept kp6) (I3.hok.kept kp6) (I3.bare.push rfl) fun b z => by simp at z
  · show _ < (h4.push go).objs.size
    rw [Heap.size_push]; exact Nat.lt_succ_self _
  intro A So Cs s6 hrA hfrA hnd hCs hSo hk6 hos6 hba6
  obtain ⟨gg, tt, wi2, gg2, tt2, te, W, pg, pt, pi2, hin, ⟨m0, w0⟩, turn⟩ := q3 s3 s3.heap.objs.size (cellsFrom (s3.heap.objs.size + 1) scope.names (cloFrom X.env.cells scope.names [])) (X.env.qual ++ "<genexpr>.") fp [(h4.objs.size, go)]
    (A.over (.compLoop (gx2 elt tg iter ifs t2 it2 ifs2 scope pos) 0 (.ref it) .none (gxEnv X scope s3.heap.objs.size (cellsFrom (s3.heap.objs.size + 1) scope.names (cloFrom X.env.cells scope.names [])) (X.env.qual ++ "<genexpr>.") (.ref c'))) []) (ov2_room hrA)
  have kp7 : ∀ b o, s3.heap.get? b = some o → s6.heap.get? b = some o := fun b o e => hk6 b o (kp6 b o e)
  have hg6 : s6.heap.get? h4.objs.size = some go := hk6 _ _ hpush
  have hs6 : ∀ b ∈ Cs, h4.objs.size < b := fun b hb => by
    have q : (h4.push go).objs.size ≤ b := (hCs b hb).1
    rw [Heap.size_push] at q
    exact q
  have astk : ∀ b, s3.heap.objs.size ≤ b → b ∉ frs X.stack := fun b hb hm => by
    rcases List.mem_cons.mp (I3.stkSub b hm) with z | z
    · have := I3.lt
      rw [← z] at this
      exact absurd (Nat.lt_of_lt_of_le this hb) (Nat.lt_irrefl _)
    · exact I3.nofs hb z
  have IY := gx_start (A := A.over (.compLoop (gx2 elt tg iter ifs t2 it2 ifs2 scope pos) 0 (.ref it) .none (gxEnv X scope s3.heap.objs.size (cellsFrom (s3.heap.objs.size + 1) scope.names (cloFrom X.env.cells scope.names [])) (X.env.qual ++ "<genexpr>.") (.ref c'))) [])
    (code := .ref c') (q := X.env.qual ++ "<genexpr>.") (pn := [(h4.objs.size, go)]) (s5 := s6) I3 ok hN f3 hrA.hd (ov2_f hfrA) hos6 hba6 kp7
    (let ⟨m, hm⟩ := hns4; ⟨m, (hm.push go).keeps hk6⟩) (fun y c hm hge => let ⟨v, z⟩ := hc4 y c hm hge; ⟨v, (z.keeps fun b o e => Heap.get?_push_of_some _ e).keeps hk6⟩)
    (fun p hp => by
      rw [List.mem_singleton.mp hp]
      exact ⟨hg6, ha0, Nat.ne_of_gt hsz4, astk _ age, hgc⟩)
  -- the consumer's pins
  have hpins : ∃ pl : List (Addr × Obj), pl.map (·.1) = Cs ∧ ∀ p ∈ pl, s6.heap.get? p.1 = some p.2 ∧ NoCell p.2 := by
    clear hnd hSo hs6
    induction Cs with
    | nil => exact ⟨[], rfl, fun p hp => absurd hp (by simp)⟩
    | cons b r ih =>
      obtain ⟨pl, h1, h2⟩ := ih fun d hd => hCs d (List.mem_cons_of_mem _ hd)
      obtain ⟨_, o, h3, h4⟩ := hCs b List.mem_cons_self
      refine ⟨(b, o) :: pl, by simp [h1], fun p hp => ?_⟩
      rcases List.mem_cons.mp hp with rfl | hp
      · exact ⟨h3, h4⟩
      · exact h2 p hp
  obtain ⟨pl, hpl1, hpl2⟩ := hpins
  have big : ∀ b ∈ Cs, s3.heap.objs.size ≤ b := fun b hb => Nat.le_trans age (Nat.le_of_lt (hs6 b hb))
  have G0 : GIo (gx X s3 H3 scope s3.heap.objs.size (cellsFrom (s3.heap.objs.size + 1) scope.names (cloFrom X.env.cells scope.names [])) (X.env.qual ++ "<genexpr>.") (.ref c') fp [(h4.objs.size, go)]
      (A.over (.compLoop (gx2 elt tg iter ifs t2 it2 ifs2 scope pos) 0 (.ref it) .none (gxEnv X scope s3.heap.objs.size (cellsFrom (s3.heap.objs.size + 1) scope.names (cloFrom X.env.cells scope.names [])) (X.env.qual ++ "<genexpr>.") (.ref c'))) []))
      So Cs [] (wipe σ (own.map (·.2))) H3 s6 := by
    refine ⟨pl, ⟨hpl1, fun S hS => ?_⟩, IY.pins_of fun p hp => ?_⟩
    · obtain ⟨h1, c, h2⟩ := hSo S hS
      rw [← hpl1] at h1
      obtain ⟨p, hp, e⟩ := List.mem_map.mp h1
      have h3 := (hpl2 p hp).1
      rw [e, h2] at h3
      refine ⟨#[], c, ?_, .nil⟩
      have : p = (S, lstObj #[] c) := by
        obtain ⟨p1, p2⟩ := p
        simp only at e h3
        rw [e, Option.some.inj h3]
      rw [← this]; exact hp
    · have hb : p.1 ∈ Cs := by rw [← hpl1]; exact List.mem_map.mpr ⟨p, hp, rfl⟩
      exact ⟨(hpl2 p hp).1, I3.hok.fresh (big _ hb), fun z => absurd (show (p.1 : Nat) = s3.heap.objs.size from z) (Nat.ne_of_gt (Nat.lt_trans hsz4 (hs6 _ hb))), astk _ (big _ hb), (hpl2 p hp).2⟩
  have conv : ∀ {ys : List V} {σ' : L2.St} {H' : Hp} {s' : Shared}, GIo (gx X s3 H3 scope s3.heap.objs.size (cellsFrom (s3.heap.objs.size + 1) scope.names (cloFrom X.env.cells scope.names [])) (X.env.qual ++ "<genexpr>.") (.ref c') fp [(h4.objs.size, go)]
      (A.over (.compLoop (gx2 elt tg iter ifs t2 it2 ifs2 scope pos) 0 (.ref it) .none (gxEnv X scope s3.heap.objs.size (cellsFrom (s3.heap.objs.size + 1) scope.names (cloFrom X.env.cells scope.names [])) (X.env.qual ++ "<genexpr>.") (.ref c'))) []))
      So Cs ys σ' H' s' → Inv X pins σ H' s' ∧ s'.heap.IsGen h4.objs.size s3.gens.size ∧ CsOk So Cs ys H' s' := fun {ys σ' H' s'} hG => by
    obtain ⟨pins', ⟨hp1, hp2⟩, IYs⟩ := hG
    refine ⟨I3.call' (ch := fp) IYs.os IYs.base IYs.hok IYs.bare fun b hb => ⟨(f3 b hb).1.2.2.2.1, (f3 b hb).1.2.1, (f3 b hb).1.2.2.2.2.1, (f3 b hb).1.2.2.2.2.2⟩, hgen _ (IYs.pin (h4.objs.size, go) (List.mem_append_left _ (List.mem_singleton.mpr rfl))).1, fun b hb => ?_, fun S hS => ?_⟩
    · rw [← hp1] at hb
      obtain ⟨p, hp, e⟩ := List.mem_map.mp hb
      obtain ⟨g1, g2, _, _, g3⟩ := IYs.pin p (List.mem_append_right _ hp)
      rw [← e]
      exact ⟨g2, p.2, g1, g3⟩
    · obtain ⟨acc, c, m1, m2⟩ := hp2 S hS
      exact ⟨acc, c, (IYs.pin _ (List.mem_append_right _ m1)).1, m2⟩
  refine seg_imp (fun n s₀ r s' hR => ?_) (fun n s₀ v s' kap kap' hkk hY => ?_) N
    (seg_start2 (kr := k) hrA ⟨_, hfrA, rfl⟩ (X := gx X s3 H3 scope s3.heap.objs.size (cellsFrom (s3.heap.objs.size + 1) scope.names (cloFrom X.env.cells scope.names [])) (X.env.qual ++ "<genexpr>.") (.ref c') fp [(h4.objs.size, go)]
      (A.over (.compLoop (gx2 elt tg iter ifs t2 it2 ifs2 scope pos) 0 (.ref it) .none (gxEnv X scope s3.heap.objs.size (cellsFrom (s3.heap.objs.size + 1) scope.names (cloFrom X.env.cells scope.names [])) (X.env.qual ++ "<genexpr>.") (.ref c'))) []))
      (So := So) (Cs := Cs) rfl hcalm rfl rfl hco T hnd (fun b hb => ⟨big b hb, Nat.ne_of_gt (Nat.lt_trans hsz4 (hs6 b hb)), fun x c e z => ?_, fun p hp => ?_⟩) (fun S hS => (hSo S hS).1) (fun b hb => ⟨fun hm => ?_, fun p hp => ?_⟩) pg pt pi2 (hs2 _) hin turn hvs (by rw [wipe_length]; exact I.len)
      w0 (Nat.add_zero _) G0 (T.keep _ _ _ st3 fun b _ o e => kp7 b o e) (fun b hb => (f3 b hb).1.1))
  · obtain ⟨hr1, ys, σ', H', hn, hG, hQ⟩ := hR
    obtain ⟨c1, _, c3⟩ := conv hG
    exact ⟨hr1, ys, H', hn, c1, c3, hQ⟩
  · obtain ⟨ys, x, σ', H', hn, rv, hG, hQ, hw⟩ := hY
    obtain ⟨c1, c2, c3⟩ := conv hG
    exact ⟨ys, x, H', hn, rv, c1, c2, c3, hQ, fun hrs s'' hsl => hkk _ _ (hw hrs s'' hsl)⟩
  · have h1 := hcl4 x c (PySem.mem_of_lookup e)
    rw [z] at h1
    exact absurd (Nat.lt_trans h1 (hs6 b hb)) (Nat.lt_irrefl _)
  · rw [List.mem_singleton.mp hp]
    exact Nat.ne_of_lt (hs6 b hb)
  · exact absurd (Nat.lt_of_lt_of_le (f3 b hb).2 (big b hm)) (Nat.lt_irrefl _)
  · rw [List.mem_singleton.mp hp]
    exact Nat.ne_of_gt (Nat.lt_of_lt_of_le (f3 b hb).2 age)
end
end GX

set_option maxRecDepth 100000
set_option maxHeartbeats 4000000
set_option pp.maxSteps 900
/-! DL: what code computes, as plain functions of values. -/
namespace DL
open PySem PySem.Spec PyProof.Rows L2 GX

/-- values: tuples and lists that nobody changes are trees; an object that may change is a number in a store -/
inductive D where
  | non | bl (b : Bool) | int (i : Int) | str (x : Str) | tup (xs : List D) | lst (xs : List D) | scr (xs : List D) | obj (k : Nat)
instance : Inhabited D := ⟨.non⟩
inductive Cell where
  | lst (xs : List D)
  | dct (kvs : List (D × D))
  | dead
abbrev Sto := List Cell
abbrev En := List (Option D)
inductive Out where
  | nx (ρ : En) (S : Sto) | rt (d : D) (S : Sto) | bk (ρ : En) (S : Sto) | ct (ρ : En) (S : Sto)
/-- where the store's objects lie; what is frozen; the code objects known -/
structure Wd where
  al : Nat → Addr
  fr : Hp
  tb : Tb
mutual
inductive Den (w : Wd) (n : Nat) : V → D → Prop where
  | non : Den w n .non .non
  | bl (b : Bool) : Den w n (.bl b) (.bl b)
  | int (i : Int) : Den w n (.int i) (.int i)
  | str (x : Str) : Den w n (.str x) (.str x)
  | tup {a : Addr} {vs : List V} {ds : List D} : w.fr a = some (.tup vs) → DenL w n vs ds → Den w n (.ref a) (.tup ds)
  | lst {a : Addr} {vs : List V} {ds : List D} : w.fr a = some (.lst vs) → DenL w n vs ds → Den w n (.ref a) (.lst ds)
  | scr {a : Addr} {vs : List V} {ds : List D} : Rd w.fr a (.lst vs) → DenL w n vs ds → Den w n (.ref a) (.scr ds)
  | obj {k : Nat} : k < n → Den w n (.ref (w.al k)) (.obj k)
inductive DenL (w : Wd) (n : Nat) : List V → List D → Prop where
  | nil : DenL w n [] []
  | cons {v : V} {d : D} {vs : List V} {ds : List D} : Den w n v d → DenL w n vs ds → DenL w n (v :: vs) (d :: ds)
end
/-- no table, no code -/
def NoTab (o : HO) : Prop := (∀ ps, o ≠ .tbl ps) ∧ ∀ c P, o ≠ .ext fun h => PySem.W.CodeHd h c P
/-! dicts: keys are trees -/
mutual
def kOf : D → Option NestedKey
  | .non => some .none
  | .bl b => some (.num (if b = true then 1 else 0))
  | .int i => some (.num i)
  | .str x => some (.text x)
  | .tup xs => match kOfs xs with | some ks => some (.tup ks) | none => none
  | _ => none
def kOfs : List D → Option (List NestedKey)
  | [] => some []
  | x :: r => match kOf x with
    | some k => (match kOfs r with | some ks => some (k :: ks) | none => none)
    | none => none
end
/-- the dict's own object, its entries -/
def dctF (wo : World) (a : Addr) (xs : List (NestedKey × Addr × Value)) (h : Heap) : Prop :=
  ∃ o es ep, h.get? a = some o ∧ o.ExactDict ∧ o.data = .dict es ep ∧ es.toList = xs.map fun x => (⟨x.1.hash wo, .ref x.2.1, x.2.2⟩ : DictEntry)
def dctO (wo : World) (a : Addr) (xs : List (NestedKey × Addr × Value)) : HO := .ext (dctF wo a xs)
inductive DenK (w : Wd) (n : Nat) : List (D × D) → List (NestedKey × Addr × Value) → Prop where
  | nil : DenK w n [] []
  | cons {kd vd : D} {k : NestedKey} {b : Addr} {u : Value} {v : V} {kvs : List (D × D)} {xs : List (NestedKey × Addr × Value)} : kOf kd = some k → k.depth ≤ 8 → Den w n (.ref b) kd → RelV v u → Den w n v vd → DenK w n kvs xs → DenK w n ((kd, vd) :: kvs) ((k, b, u) :: xs)
def CellOk (wo : World) (w : Wd) (n : Nat) (H : Hp) (a : Addr) : Cell → Prop
  | .lst ds => ∃ vs, H a = some (.lst vs) ∧ DenL w n vs ds
  | .dct kvs => ∃ xs, H a = some (dctO wo a xs) ∧ (a == sysModules) = false ∧ (xs.map (·.1)).Nodup ∧ DenK w n kvs xs
  | .dead => True
structure Gc where
  base : Heap
  K : PySem.W.Frag
  t0 : Tb
  cv : Option Value
  wo : World
structure Core (G : Gc) (w : Wd) (S : Sto) (H : Hp) : Prop where
  sub : ∀ a o, w.fr a = some o → H a = some o
  fro : ∀ a o, w.fr a = some o → (∃ xs, o = .tup xs) ∨ (∃ xs, o = .lst xs) ∨ ∃ ob u, o = .frz ob u
  cel : ∀ k c, S[k]? = some c → w.fr (w.al k) = none ∧ (∃ o, H (w.al k) = some o ∧ NoTab o) ∧ CellOk G.wo w S.length H (w.al k) c
  inj : ∀ j k, j < S.length → k < S.length → w.al j = w.al k → j = k
  tab : TabI G.base w.tb H
  t0 : ∀ c P, G.t0 c P → w.tb c P
structure Sat (G : Gc) (w : Wd) (ρ : En) (S : Sto) (σ : L2.St) (H : Hp) : Prop where
  core : Core G w S H
  env : ∀ (i : Nat) (d : D), ρ[i]? = some (some d) → ∃ v, σ[i]? = some (some v) ∧ Den w S.length v d
  len : ρ.length = σ.length
  code : ∀ v, G.cv = some v → ∃ c P, v = .ref c ∧ w.tb c P
structure Ext (w : Wd) (S : Sto) (H : Hp) (w' : Wd) (S' : Sto) (H' : Hp) : Prop where
  al : ∀ k, k < S.length → w'.al k = w.al k
  fr : ∀ a o, w.fr a = some o → w'.fr a = some o
  tb : ∀ c P, w.tb c P → w'.tb c P
  sz : S.length ≤ S'.length
  new : ∀ k, S.length ≤ k → k < S'.length → H (w'.al k) = none
  keep : ∀ a o, H a = some o → (∀ k, k < S.length → a ≠ w.al k) → (∀ ps, o ≠ .tbl ps) → H' a = some o
  non : ∀ a, H' a = none → H a = none
  frn : ∀ a o, w'.fr a = some o → w.fr a = some o ∨ H a = none ∨ ∃ k, k < S.length ∧ a = w.al k
theorem Ext.refl (w : Wd) (S : Sto) (H : Hp) : Ext w S H w S H :=
  ⟨fun _ _ => rfl, fun _ _ e => e, fun _ _ e => e, Nat.le_refl _, fun k h1 h2 => absurd h2 (Nat.not_lt.mpr h1), fun _ _ e _ _ => e, fun _ e => e, fun _ _ e => .inl e⟩
theorem Ext.trans {w w1 w2 : Wd} {S S1 S2 : Sto} {H H1 H2 : Hp} (a : Ext w S H w1 S1 H1) (b : Ext w1 S1 H1 w2 S2 H2) : Ext w S H w2 S2 H2 where
  al := fun k h => (b.al k (Nat.lt_of_lt_of_le h a.sz)).trans (a.al k h)
  fr := fun x o e => b.fr x o (a.fr x o e)
  tb := fun c P e => b.tb c P (a.tb c P e)
  sz := Nat.le_trans a.sz b.sz
  new := fun k h1 h2 => by
    by_cases h : k < S1.length
    · rw [b.al k h]; exact a.new k h1 h
    · exact a.non _ (b.new k (Nat.not_lt.mp h) h2)
  keep := fun x o e h1 h2 => b.keep x o (a.keep x o e h1 h2) (fun k hk z => by
    by_cases h : k < S.length
    · exact h1 k h (by rw [z, a.al k h])
    · have := a.new k (Nat.not_lt.mp h) hk
      rw [← z, e] at this; cases this) h2
  non := fun x e => a.non x (b.non x e)
  frn := fun x o e => by
    rcases b.frn x o e with h | h | ⟨k, hk, h⟩
    · exact a.frn x o h
    · exact .inr (.inl (a.non x h))
    · by_cases hk2 : k < S.length
      · exact .inr (.inr ⟨k, hk2, by rw [h, a.al k hk2]⟩)
      · exact .inr (.inl (by rw [h]; exact a.new k (Nat.not_lt.mp hk2) hk))

theorem rd_sub {F F' : Hp} (h : ∀ a o, F a = some o → F' a = some o) {a : Addr} {u : HO} (r : Rd F a u) : Rd F' a u := by
  rcases r with r | ⟨o, r⟩
  · exact .inl (h a _ r)
  · exact .inr ⟨o, h a _ r⟩
mutual
theorem Den.mono {w w' : Wd} {n n' : Nat} (hf : ∀ a o, w.fr a = some o → w'.fr a = some o) (ha : ∀ k, k < n → w'.al k = w.al k) (hn : n ≤ n') : ∀ {v : V} {d : D}, Den w n v d → Den w' n' v d
  | _, _, .non => .non
  | _, _, .bl b => .bl b
  | _, _, .int i => .int i
  | _, _, .str x => .str x
  | _, _, .tup r h => .tup (hf _ _ r) (DenL.mono hf ha hn h)
  | _, _, .lst r h => .lst (hf _ _ r) (DenL.mono hf ha hn h)
  | _, _, .scr r h => .scr (rd_sub hf r) (DenL.mono hf ha hn h)
  | _, _, .obj (k := k) h => by rw [← ha k h]; exact .obj (Nat.lt_of_lt_of_le h hn)
theorem DenL.mono {w w' : Wd} {n n' : Nat} (hf : ∀ a o, w.fr a = some o → w'.fr a = some o) (ha : ∀ k, k < n → w'.al k = w.al k) (hn : n ≤ n') : ∀ {vs : List V} {ds : List D}, DenL w n vs ds → DenL w' n' vs ds
  | _, _, .nil => .nil
  | _, _, .cons h t => .cons (Den.mono hf ha hn h) (DenL.mono hf ha hn t)
end
theorem Den.ext {w w' : Wd} {S S' : Sto} {H H' : Hp} (e : Ext w S H w' S' H') {v : V} {d : D} (h : Den w S.length v d) : Den w' S'.length v d := h.mono e.fr e.al e.sz
theorem DenL.ext {w w' : Wd} {S S' : Sto} {H H' : Hp} (e : Ext w S H w' S' H') {v : List V} {d : List D} (h : DenL w S.length v d) : DenL w' S'.length v d := h.mono e.fr e.al e.sz
theorem DenL.len {w : Wd} {n : Nat} : ∀ {vs : List V} {ds : List D}, DenL w n vs ds → vs.length = ds.length
  | _, _, .nil => rfl
  | _, _, .cons _ t => by rw [List.length_cons, List.length_cons, t.len]
theorem DenL.get {w : Wd} {n : Nat} : ∀ {vs : List V} {ds : List D} {i : Nat} {d : D}, DenL w n vs ds → ds[i]? = some d → ∃ v, vs[i]? = some v ∧ Den w n v d
  | _, _, 0, _, .cons h _, e => by simp at e; subst e; exact ⟨_, rfl, h⟩
  | _, _, i + 1, d, .cons _ t, e => by
    obtain ⟨v, h1, h2⟩ := DenL.get (i := i) (d := d) t (by simpa using e)
    exact ⟨v, by simpa using h1, h2⟩
theorem DenL.get' {w : Wd} {n : Nat} : ∀ {vs : List V} {ds : List D} {i : Nat} {v : V}, DenL w n vs ds → vs[i]? = some v → ∃ d, ds[i]? = some d ∧ Den w n v d
  | _, _, 0, _, .cons h _, e => by simp at e; subst e; exact ⟨_, rfl, h⟩
  | _, _, i + 1, v, .cons _ t, e => by
    obtain ⟨d, h1, h2⟩ := DenL.get' (i := i) (v := v) t (by simpa using e)
    exact ⟨d, by simpa using h1, h2⟩
theorem DenL.app {w : Wd} {n : Nat} : ∀ {vs us : List V} {ds es : List D}, DenL w n vs ds → DenL w n us es → DenL w n (vs ++ us) (ds ++ es)
  | _, _, _, _, .nil, h => h
  | _, _, _, _, .cons h t, h' => .cons h (DenL.app t h')
theorem DenL.take {w : Wd} {n : Nat} : ∀ {vs : List V} {ds : List D} (k : Nat), DenL w n vs ds → DenL w n (vs.take k) (ds.take k)
  | _, _, 0, _ => .nil
  | _, _, _ + 1, .nil => .nil
  | _, _, k + 1, .cons h t => .cons h (DenL.take k t)
theorem DenL.drop {w : Wd} {n : Nat} : ∀ {vs : List V} {ds : List D} (k : Nat), DenL w n vs ds → DenL w n (vs.drop k) (ds.drop k)
  | _, _, 0, h => h
  | _, _, _ + 1, .nil => .nil
  | _, _, k + 1, .cons _ t => DenL.drop k t
theorem DenL.set {w : Wd} {n : Nat} {v : V} {d : D} (hd : Den w n v d) : ∀ {vs : List V} {ds : List D} (k : Nat), DenL w n vs ds → DenL w n (vs.set k v) (ds.set k d)
  | _, _, _, .nil => .nil
  | _, _, 0, .cons _ t => .cons hd t
  | _, _, k + 1, .cons h t => .cons h (DenL.set hd k t)
theorem DenL.rep {w : Wd} {n : Nat} {vs : List V} {ds : List D} (h : DenL w n vs ds) : ∀ k : Nat, DenL w n (List.replicate k vs).flatten (List.replicate k ds).flatten
  | 0 => .nil
  | k + 1 => by rw [List.replicate_succ, List.replicate_succ, List.flatten_cons, List.flatten_cons]; exact h.app (DenL.rep h k)
theorem DenL.ints {w : Wd} {n : Nat} : ∀ ns : List Int, DenL w n (ns.map V.int) (ns.map D.int)
  | [] => .nil
  | i :: r => .cons (.int i) (DenL.ints r)

theorem DenK.mono {w w' : Wd} {n n' : Nat} (hf : ∀ a o, w.fr a = some o → w'.fr a = some o) (ha : ∀ k, k < n → w'.al k = w.al k) (hn : n ≤ n') {kvs : List (D × D)} {xs : List (NestedKey × Addr × Value)} (h : DenK w n kvs xs) : DenK w' n' kvs xs := by
  induction h with
  | nil => exact .nil
  | cons h1 h2 h3 h4 h5 _ ih => exact .cons h1 h2 (h3.mono hf ha hn) h4 (h5.mono hf ha hn) ih
theorem code_ne_dct (wo : World) (a : Addr) (xs : List (NestedKey × Addr × Value)) : NoTab (dctO wo a xs) := by
  refine ⟨fun ps e => (by cases e), fun c P e => ?_⟩
  have e2 : dctF wo a xs = fun h => PySem.W.CodeHd h c P := HO.ext.inj e
  generalize hes : (xs.map fun x => (⟨x.1.hash wo, .ref x.2.1, x.2.2⟩ : DictEntry)).toArray = es
  generalize hO : ({ cls := .type "dict", data := .dict es } : Obj) = O
  have hget : ∀ b, (Heap.mk (Array.replicate (a + 1) O) {}).get? b = if b < a + 1 then some O else none := fun b => by
    subst hO
    unfold Heap.get?
    by_cases hb : b < a + 1
    · rw [if_pos hb, Array.getElem?_eq_getElem (by simpa using hb)]
      simp
    · rw [if_neg hb, Array.getElem?_eq_none (by simpa using hb)]
  have h1 : dctF wo a xs (Heap.mk (Array.replicate (a + 1) O) {}) := by
    refine ⟨O, es, 0, by rw [hget, if_pos (Nat.lt_succ_self a)], ?_, ?_, ?_⟩
    · subst hO; exact ⟨rfl, rfl, rfl⟩
    · subst hO; rfl
    · rw [← hes]
  rw [e2] at h1
  obtain ⟨o, vs, file, tf, flags, tg, inF, text, tt, g1, g2, _⟩ := h1
  rw [hget] at g1
  split at g1
  · cases g1
    subst hO
    have g2 : Value.type "dict" = Value.type "code" := g2
    exact absurd (Value.type.inj g2) (by decide)
  · cases g1
/-- what the world's step must keep -/
theorem CellOk.mono {wo : World} {w w' : Wd} {n n' : Nat} {H H' : Hp} {a : Addr} {c : Cell} (hf : ∀ a o, w.fr a = some o → w'.fr a = some o) (ha : ∀ k, k < n → w'.al k = w.al k) (hn : n ≤ n') (hH : ∀ o, H a = some o → H' a = some o) (h : CellOk wo w n H a c) : CellOk wo w' n' H' a c := by
  cases c with
  | lst ds =>
    obtain ⟨vs, e, l⟩ := h
    exact ⟨vs, hH _ e, l.mono hf ha hn⟩
  | dct _ =>
    obtain ⟨xs, e, r1, r2, l⟩ := h
    exact ⟨xs, hH _ e, r1, r2, l.mono hf ha hn⟩
  | dead => trivial
theorem Sat.ofCore {G : Gc} {w w' : Wd} {ρ : En} {S S' : Sto} {σ : L2.St} {H H' : Hp} (s : Sat G w ρ S σ H) (c : Core G w' S' H') (e : Ext w S H w' S' H') : Sat G w' ρ S' σ H' :=
  ⟨c, fun i d h => let ⟨v, h1, h2⟩ := s.env i d h; ⟨v, h1, h2.ext e⟩, s.len, fun v h => let ⟨c, P, h1, h2⟩ := s.code v h; ⟨c, P, h1, e.tb _ _ h2⟩⟩

/-! ### a new frozen object -/
section
variable {G : Gc} {w : Wd} {ρ : En} {S : Sto} {σ : L2.St} {H : Hp} {p : Addr} {o : HO}
theorem Core.newF (c : Core G w S H) (hp : H p = none) (ho : (∃ xs, o = .tup xs) ∨ (∃ xs, o = .lst xs)) :
    Core G { w with fr := upd w.fr p o } S (upd H p o) ∧ Ext w S H { w with fr := upd w.fr p o } S (upd H p o) := by
  have hw : w.fr p = none := by
    cases q : w.fr p with
    | none => rfl
    | some u => rw [c.sub p u q] at hp; cases hp
  have nt : ∀ ps, o ≠ .tbl ps := fun ps e => by rcases ho with ⟨xs, z⟩ | ⟨xs, z⟩ <;> rw [z] at e <;> cases e
  have old : ∀ a u, H a = some u → a ≠ p := fun a u e => ne_of_none e hp
  have fm : ∀ a u, w.fr a = some u → upd w.fr p o a = some u := fun a u e => by rw [upd_ne (ne_of_none e hw)]; exact e
  have hm : ∀ a u, H a = some u → upd H p o a = some u := fun a u e => by rw [upd_ne (old a u e)]; exact e
  refine ⟨⟨fun a u e => ?_, fun a u e => ?_, fun k ce h => ?_, c.inj, c.tab.stay fun a u e _ _ => hm a u e, c.t0⟩, ⟨fun _ _ => rfl, fm, fun _ _ e => e, Nat.le_refl _, fun k h1 h2 => absurd h2 (Nat.not_lt.mpr h1), fun a u e _ _ => hm a u e, fun a e => ?_, fun a u e => ?_⟩⟩
  · by_cases h : a = p
    · subst h
      have e : upd w.fr a o a = some u := e
      rw [upd_same] at e ⊢; exact e
    · have e : upd w.fr p o a = some u := e
      rw [upd_ne h] at e ⊢; exact c.sub a u e
  · by_cases h : a = p
    · subst h
      have e : upd w.fr a o a = some u := e
      rw [upd_same] at e
      cases e
      rcases ho with z | z
      · exact .inl z
      · exact .inr (.inl z)
    · have e : upd w.fr p o a = some u := e
      rw [upd_ne h] at e; exact c.fro a u e
  · obtain ⟨h1, ⟨u, h2, h3⟩, h4⟩ := c.cel k ce h
    have hk : w.al k ≠ p := old _ u h2
    refine ⟨by show upd w.fr p o (w.al k) = none; rw [upd_ne hk]; exact h1, ⟨u, hm _ u h2, h3⟩, CellOk.mono (w := w) fm (fun _ _ => rfl) (Nat.le_refl _) (fun u e => hm _ u e) h4⟩
  · by_cases h : a = p
    · subst h; rw [upd_same] at e; cases e
    · rw [upd_ne h] at e; exact e
  · by_cases h : a = p
    · exact .inr (.inl (by rw [h]; exact hp))
    · have e : upd w.fr p o a = some u := e
      rw [upd_ne h] at e; exact .inl e
theorem Sat.newF (s : Sat G w ρ S σ H) (hp : H p = none) (ho : (∃ xs, o = .tup xs) ∨ (∃ xs, o = .lst xs)) :
    Sat G { w with fr := upd w.fr p o } ρ S σ (upd H p o) ∧ Ext w S H { w with fr := upd w.fr p o } S (upd H p o) :=
  let ⟨c, e⟩ := s.core.newF hp ho; ⟨s.ofCore c e, e⟩
theorem den_newT {vs : List V} {ds : List D} {n : Nat} (h : DenL w n vs ds) (hw : w.fr p = none) : Den { w with fr := upd w.fr p (.tup vs) } n (.ref p) (.tup ds) :=
  .tup upd_same (DenL.mono (w := w) (w' := { w with fr := upd w.fr p (.tup vs) }) (n' := n) (fun a u e => by show upd w.fr p _ a = some u; rw [upd_ne (ne_of_none e hw)]; exact e) (fun _ _ => rfl) (Nat.le_refl _) h)
theorem den_newL {vs : List V} {ds : List D} {n : Nat} (h : DenL w n vs ds) (hw : w.fr p = none) : Den { w with fr := upd w.fr p (.lst vs) } n (.ref p) (.lst ds) :=
  .lst upd_same (DenL.mono (w := w) (w' := { w with fr := upd w.fr p (.lst vs) }) (n' := n) (fun a u e => by show upd w.fr p _ a = some u; rw [upd_ne (ne_of_none e hw)]; exact e) (fun _ _ => rfl) (Nat.le_refl _) h)
theorem Core.fresh (c : Core G w S H) (hp : H p = none) : w.fr p = none := by
  cases q : w.fr p with
  | none => rfl
  | some u => rw [c.sub p u q] at hp; cases hp
/-- a new object of the store -/
theorem Core.newO {vs : List V} {ds : List D} (c : Core G w S H) (hp : H p = none) (h : DenL w S.length vs ds) :
    Core G { w with al := fun k => if k = S.length then p else w.al k } (S ++ [.lst ds]) (upd H p (.lst vs)) ∧ Ext w S H { w with al := fun k => if k = S.length then p else w.al k } (S ++ [.lst ds]) (upd H p (.lst vs)) := by
  have hw := c.fresh hp
  have old : ∀ a u, H a = some u → a ≠ p := fun a u e => ne_of_none e hp
  have hm : ∀ a u, H a = some u → upd H p (.lst vs) a = some u := fun a u e => by rw [upd_ne (old a u e)]; exact e
  have al : ∀ k, k < S.length → (if k = S.length then p else w.al k) = w.al k := fun k hk => if_neg (Nat.ne_of_lt hk)
  have ln : (S ++ [Cell.lst ds]).length = S.length + 1 := by simp
  have onew : ∀ k, k < S.length → w.al k ≠ p := fun k hk => by
    obtain ⟨_, ⟨u, h2, _⟩, _⟩ := c.cel k _ (List.getElem?_eq_getElem hk)
    exact old _ u h2
  refine ⟨⟨fun a u e => hm a u (c.sub a u e), c.fro, fun k ce hk => ?_, fun j k hj hk e => ?_, c.tab.stay fun a u e _ _ => hm a u e, c.t0⟩, ⟨al, fun _ _ e => e, fun _ _ e => e, by rw [ln]; exact Nat.le_succ _, fun k h1 h2 => ?_, fun a u e _ _ => hm a u e, fun a e => ?_, fun _ _ e => .inl e⟩⟩
  · by_cases hk2 : k < S.length
    · rw [List.getElem?_append_left hk2] at hk
      obtain ⟨h1, ⟨u, h2, h3⟩, h4⟩ := c.cel k ce hk
      show w.fr (if k = S.length then p else w.al k) = none ∧ (∃ o, upd H p (.lst vs) (if k = S.length then p else w.al k) = some o ∧ _) ∧ CellOk _ _ _ _ (if k = S.length then p else w.al k) ce
      rw [al k hk2]
      exact ⟨h1, ⟨u, hm _ u h2, h3⟩, CellOk.mono (w := w) (fun _ _ e => e) al (by rw [ln]; exact Nat.le_succ _) (fun u e => hm _ u e) h4⟩
    · have ek : k = S.length := by
        have := (List.getElem?_eq_some_iff.mp hk).1
        rw [ln] at this; omega
      subst ek
      rw [List.getElem?_append_right (Nat.le_refl _), Nat.sub_self] at hk
      cases hk
      show w.fr (if S.length = S.length then p else w.al S.length) = none ∧ (∃ o, upd H p (.lst vs) (if S.length = S.length then p else w.al S.length) = some o ∧ _) ∧ CellOk _ _ _ _ (if S.length = S.length then p else w.al S.length) _
      rw [if_pos rfl]
      exact ⟨hw, ⟨_, upd_same, fun ps e => (by cases e), fun _ _ e => (by cases e)⟩, vs, upd_same, DenL.mono (w := w) (w' := { w with al := fun k => if k = S.length then p else w.al k }) (n' := (S ++ [Cell.lst ds]).length) (fun _ _ e => e) al (by rw [ln]; exact Nat.le_succ _) h⟩
  · rw [ln] at hj hk
    have e : (if j = S.length then p else w.al j) = (if k = S.length then p else w.al k) := e
    by_cases h1 : j < S.length <;> by_cases h2 : k < S.length
    · rw [al j h1, al k h2] at e; exact c.inj j k h1 h2 e
    · have ek : k = S.length := by omega
      rw [al j h1, if_pos ek] at e; exact absurd e (onew j h1)
    · have ej : j = S.length := by omega
      rw [al k h2, if_pos ej] at e; exact absurd e.symm (onew k h2)
    · omega
  · rw [ln] at h2
    have ek : k = S.length := by omega
    show H (if k = S.length then p else w.al k) = none
    rw [if_pos ek]; exact hp
  · by_cases h : a = p
    · subst h; rw [upd_same] at e; cases e
    · rw [upd_ne h] at e; exact e
/-- a list of the store changes -/
theorem Core.setL {vs : List V} {ds : List D} {k : Nat} {c0 : Cell} (c : Core G w S H) (hk : S[k]? = some c0) (h : DenL w S.length vs ds) :
    Core G w (S.set k (.lst ds)) (upd H (w.al k) (.lst vs)) ∧ Ext w S H w (S.set k (.lst ds)) (upd H (w.al k) (.lst vs)) := by
  have hkl : k < S.length := (List.getElem?_eq_some_iff.mp hk).1
  obtain ⟨g1, ⟨u0, g2, g3⟩, _⟩ := c.cel k c0 hk
  have ln : (S.set k (Cell.lst ds)).length = S.length := List.length_set
  refine ⟨⟨fun a u e => ?_, c.fro, fun j ce hj => ?_, fun i j hi hj e => c.inj i j (by rw [ln] at hi; exact hi) (by rw [ln] at hj; exact hj) e, c.tab.stay fun a u e h1 h2 => ?_, c.t0⟩, ⟨fun _ _ => rfl, fun _ _ e => e, fun _ _ e => e, by rw [ln]; exact Nat.le_refl _, fun j h1 h2 => ?_, fun a u e h1 _ => ?_, fun a e => ?_, fun _ _ e => .inl e⟩⟩
  · have : a ≠ w.al k := fun z => by rw [z, g1] at e; cases e
    rw [upd_ne this]; exact c.sub a u e
  · by_cases hjk : j = k
    · subst hjk
      rw [List.getElem?_set_self hkl] at hj
      cases hj
      exact ⟨g1, ⟨_, upd_same, fun ps e => (by cases e), fun _ _ e => (by cases e)⟩, vs, upd_same, by rw [ln]; exact h⟩
    · rw [List.getElem?_set_ne (Ne.symm hjk)] at hj
      obtain ⟨h1, ⟨u, h2, h3⟩, h4⟩ := c.cel j ce hj
      have hjl : j < S.length := (List.getElem?_eq_some_iff.mp hj).1
      have ne : w.al j ≠ w.al k := fun e => hjk (c.inj j k hjl hkl e)
      exact ⟨h1, ⟨u, by rw [upd_ne ne]; exact h2, h3⟩, h4.mono (fun _ _ e => e) (fun _ _ => rfl) (by rw [ln]; exact Nat.le_refl _) (fun u e => by rw [upd_ne ne]; exact e)⟩
  · by_cases z : a = w.al k
    · rw [z, g2] at e
      cases e
      rcases h2 with ⟨ps, h2⟩ | ⟨c', P', h2⟩
      · exact absurd h2 (g3.1 ps)
      · exact absurd h2 (g3.2 c' P')
    · rw [upd_ne z]; exact e
  · rw [ln] at h2; exact absurd h2 (Nat.not_lt.mpr h1)
  · rw [upd_ne (h1 k hkl)]; exact e
  · by_cases z : a = w.al k
    · rw [z, upd_same] at e; cases e
    · rw [upd_ne z] at e; exact e
/-- an object that the world does not know changes -/
theorem Core.updX {dd : Addr} {o o' : HO} (c : Core G w S H) (hD : H dd = some o) (ho : NoTab o) (hf : w.fr dd = none) (hk : ∀ k, k < S.length → w.al k ≠ dd) : Core G w S (upd H dd o') := by
  refine ⟨fun a u e => ?_, c.fro, fun j ce hj => ?_, c.inj, c.tab.stay fun a u e _ h2 => ?_, c.t0⟩
  · have : a ≠ dd := fun z => by rw [z, hf] at e; cases e
    rw [upd_ne this]; exact c.sub a u e
  · obtain ⟨h1, ⟨u, h2, h3⟩, h4⟩ := c.cel j ce hj
    have ne := hk j (List.getElem?_eq_some_iff.mp hj).1
    exact ⟨h1, ⟨u, by rw [upd_ne ne]; exact h2, h3⟩, h4.mono (fun _ _ e => e) (fun _ _ => rfl) (Nat.le_refl _) (fun u e => by rw [upd_ne ne]; exact e)⟩
  · by_cases z : a = dd
    · rw [z, hD] at e
      cases e
      rcases h2 with ⟨ps, h2⟩ | ⟨c', P', h2⟩
      · exact absurd h2 (ho.1 ps)
      · exact absurd h2 (ho.2 c' P')
    · rw [upd_ne z]; exact e
/-- a list of the heap that the world does not know is frozen -/
theorem Core.freeze {dd : Addr} {o : HO} (c : Core G w S H) (hD : H dd = some o) (ho : (∃ xs, o = .tup xs) ∨ (∃ xs, o = .lst xs)) (hf : w.fr dd = none) (hk : ∀ k, k < S.length → w.al k ≠ dd) : Core G { w with fr := upd w.fr dd o } S H := by
  have fm : ∀ a u, w.fr a = some u → upd w.fr dd o a = some u := fun a u e => by rw [upd_ne (ne_of_none e hf)]; exact e
  refine ⟨fun a u e => ?_, fun a u e => ?_, fun j ce hj => ?_, c.inj, c.tab, c.t0⟩
  · by_cases h : a = dd
    · subst h
      have e : upd w.fr a o a = some u := e
      rw [upd_same] at e; rw [hD]; exact e
    · have e : upd w.fr dd o a = some u := e
      rw [upd_ne h] at e; exact c.sub a u e
  · by_cases h : a = dd
    · subst h
      have e : upd w.fr a o a = some u := e
      rw [upd_same] at e
      cases e
      rcases ho with z | z
      · exact .inl z
      · exact .inr (.inl z)
    · have e : upd w.fr dd o a = some u := e
      rw [upd_ne h] at e; exact c.fro a u e
  · obtain ⟨h1, h2, h4⟩ := c.cel j ce hj
    have ne := hk j (List.getElem?_eq_some_iff.mp hj).1
    exact ⟨by show upd w.fr dd o (w.al j) = none; rw [upd_ne ne]; exact h1, h2, CellOk.mono (w := w) (w' := { w with fr := upd w.fr dd o }) (n' := S.length) fm (fun _ _ => rfl) (Nat.le_refl _) (fun u e => e) h4⟩
/-- .. becomes an object of the store -/
theorem Core.adopt {dd : Addr} {vs : List V} {ds : List D} (c : Core G w S H) (hD : H dd = some (.lst vs)) (h : DenL w S.length vs ds) (hf : w.fr dd = none) (hk : ∀ k, k < S.length → w.al k ≠ dd) :
    Core G { w with al := fun k => if k = S.length then dd else w.al k } (S ++ [.lst ds]) H := by
  have al : ∀ k, k < S.length → (if k = S.length then dd else w.al k) = w.al k := fun k hk => if_neg (Nat.ne_of_lt hk)
  have ln : (S ++ [Cell.lst ds]).length = S.length + 1 := by simp
  refine ⟨c.sub, c.fro, fun k ce hkk => ?_, fun j k hj hk' e => ?_, c.tab, c.t0⟩
  · by_cases hk2 : k < S.length
    · rw [List.getElem?_append_left hk2] at hkk
      obtain ⟨h1, h2, h4⟩ := c.cel k ce hkk
      show w.fr (if k = S.length then dd else w.al k) = none ∧ (∃ o, H (if k = S.length then dd else w.al k) = some o ∧ _) ∧ CellOk _ _ _ _ (if k = S.length then dd else w.al k) ce
      rw [al k hk2]
      exact ⟨h1, h2, CellOk.mono (w := w) (w' := { w with al := fun k => if k = S.length then dd else w.al k }) (n' := (S ++ [Cell.lst ds]).length) (fun _ _ e => e) al (by rw [ln]; exact Nat.le_succ _) (fun u e => e) h4⟩
    · have ek : k = S.length := by
        have := (List.getElem?_eq_some_iff.mp hkk).1
        rw [ln] at this; omega
      subst ek
      rw [List.getElem?_append_right (Nat.le_refl _), Nat.sub_self] at hkk
      cases hkk
      show w.fr (if S.length = S.length then dd else w.al S.length) = none ∧ (∃ o, H (if S.length = S.length then dd else w.al S.length) = some o ∧ _) ∧ CellOk _ _ _ _ (if S.length = S.length then dd else w.al S.length) _
      rw [if_pos rfl]
      exact ⟨hf, ⟨_, hD, fun ps e => (by cases e), fun _ _ e => (by cases e)⟩, vs, hD, DenL.mono (w := w) (w' := { w with al := fun k => if k = S.length then dd else w.al k }) (n' := (S ++ [Cell.lst ds]).length) (fun _ _ e => e) al (by rw [ln]; exact Nat.le_succ _) h⟩
  · rw [ln] at hj hk'
    have e : (if j = S.length then dd else w.al j) = (if k = S.length then dd else w.al k) := e
    by_cases h1 : j < S.length <;> by_cases h2 : k < S.length
    · rw [al j h1, al k h2] at e; exact c.inj j k h1 h2 e
    · have ek : k = S.length := by omega
      rw [al j h1, if_pos ek] at e; exact absurd e (hk j h1)
    · have ej : j = S.length := by omega
      rw [al k h2, if_pos ej] at e; exact absurd e.symm (hk k h2)
    · omega
/-- what an evaluation leaves of an object that the world does not know -/
theorem Ext.away {w w' : Wd} {S S' : Sto} {H H' : Hp} {dd : Addr} {o : HO} (x : Ext w S H w' S' H') (hD : H dd = some o) (ho : NoTab o) (hf : w.fr dd = none) (hk : ∀ k, k < S.length → w.al k ≠ dd) :
    H' dd = some o ∧ w'.fr dd = none ∧ ∀ k, k < S'.length → w'.al k ≠ dd := by
  refine ⟨x.keep dd o hD (fun k h z => hk k h z.symm) ho.1, ?_, fun k h z => ?_⟩
  · cases q : w'.fr dd with
    | none => rfl
    | some u =>
      rcases x.frn dd u q with h | h | ⟨k, h1, h2⟩
      · rw [hf] at h; cases h
      · rw [hD] at h; cases h
      · exact absurd h2.symm (hk k h1)
  · by_cases h2 : k < S.length
    · rw [x.al k h2] at z; exact hk k h2 z
    · have := x.new k (Nat.not_lt.mp h2) h
      rw [z, hD] at this; cases this
end
end DL

set_option maxRecDepth 100000
set_option maxHeartbeats 4000000
set_option pp.maxSteps 900
namespace DL
open PySem PySem.Spec PyProof.Rows L2 GX

abbrev RE := En → Sto → Option (D × Sto)
abbrev RT := En → Sto → Option (Bool × Sto)
abbrev RA := En → Sto → Option (List D × Sto)
abbrev RS := En → Sto → Option Out
def Ev (G : Gc) (te : TE) (t : RE) : Prop := ∀ (ρ : En) (S : Sto) (d : D) (S' : Sto), t ρ S = some (d, S') → ∀ (w : Wd) (σ : L2.St) (H : Hp), Sat G w ρ S σ H → ∀ Q : VK,
  (∀ w' v H', Sat G w' ρ S' σ H' → Ext w S H w' S' H' → Den w' S'.length v d → Q v H') → te σ H Q
def EvT (G : Gc) (tt : TT) (t : RT) : Prop := ∀ (ρ : En) (S : Sto) (b : Bool) (S' : Sto), t ρ S = some (b, S') → ∀ (w : Wd) (σ : L2.St) (H : Hp), Sat G w ρ S σ H → ∀ Q : Bool → Hp → Prop,
  (∀ w' H', Sat G w' ρ S' σ H' → Ext w S H w' S' H' → Q b H') → tt σ H Q
def EvA (G : Gc) (ta : TA) (t : RA) : Prop := ∀ (ρ : En) (S : Sto) (ds : List D) (S' : Sto), t ρ S = some (ds, S') → ∀ (w : Wd) (σ : L2.St) (H : Hp), Sat G w ρ S σ H → ∀ Q : List V → Hp → Prop,
  (∀ w' vs H', Sat G w' ρ S' σ H' → Ext w S H w' S' H' → DenL w' S'.length vs ds → Q vs H') → ta σ H Q
/-- an expression computes t -/
def DE (X : Cx) (G : Gc) (e : Expr) (t : RE) : Prop := ∃ te, PE X e te ∧ Ev G te t
def DT (X : Cx) (G : Gc) (e : Expr) (t : RT) : Prop := ∃ tt, PT X e tt ∧ EvT G tt t
def DW (X : Cx) (G : Gc) (e : Expr) (t : RT) : Prop := ∃ tt, PW X e tt ∧ EvT G tt t
def DA (X : Cx) (G : Gc) (es : List Expr) (t : RA) : Prop := ∃ ta, PA X es ta ∧ EvA G ta t

/-! ### what is computed -/
@[simp] def eC (d : D) : RE := fun _ S => some (d, S)
@[simp] def eV (i : Nat) : RE := fun ρ S => match ρ[i]? with | some (some d) => some (d, S) | _ => none
@[simp] def e1 (f : D → Sto → Option D) (a : RE) : RE := fun ρ S => match a ρ S with | some (x, S1) => (match f x S1 with | some z => some (z, S1) | none => none) | none => none
@[simp] def e2 (f : D → D → Sto → Option D) (a b : RE) : RE := fun ρ S => match a ρ S with
  | some (x, S1) => (match b ρ S1 with | some (y, S2) => (match f x y S2 with | some z => some (z, S2) | none => none) | none => none)
  | none => none
@[simp] def aNil : RA := fun _ S => some ([], S)
@[simp] def aCons (a : RE) (r : RA) : RA := fun ρ S => match a ρ S with
  | some (x, S1) => (match r ρ S1 with | some (xs, S2) => some (x :: xs, S2) | none => none)
  | none => none
/-- of the arguments' values; the store may change -/
@[simp] def eA (f : List D → Sto → Option (D × Sto)) (a : RA) : RE := fun ρ S => match a ρ S with | some (xs, S1) => f xs S1 | none => none

section
variable {G : Gc} {X : Cx} {pos : Pos}
theorem ev_c {v : V} {d : D} (h : ∀ w n, Den w n v d) : Ev G (tC v) (eC d) := fun ρ S d' S' e w σ H s Q q => by
  cases e
  exact q w v H s (Ext.refl ..) (h _ _)
theorem de_int {i : Int} {j : Nat} : DE X G (.Constant (.int i) j pos) (eC (.int i)) := ⟨_, pe_int, ev_c fun _ _ => .int i⟩
theorem de_bl {b : Bool} {j : Nat} : DE X G (.Constant (.bool b) j pos) (eC (.bl b)) := ⟨_, pe_bl, ev_c fun _ _ => .bl b⟩
theorem de_non {j : Nat} : DE X G (.Constant .none j pos) (eC .non) := ⟨_, pe_non, ev_c fun _ _ => .non⟩
theorem de_str {x : Str} {j : Nat} : DE X G (.Constant (.str x) j pos) (eC (.str x)) := ⟨_, pe_str, ev_c fun _ _ => .str x⟩
theorem ev_var {i : Nat} : Ev G (tVar i) (eV i) := fun ρ S d S' e w σ H s Q q => by
  unfold eV at e
  split at e
  · rename_i d0 h
    cases e
    obtain ⟨v, h1, h2⟩ := s.env i d h
    exact ⟨v, h1, q w v H s (Ext.refl ..) h2⟩
  · cases e
theorem dv (i : Nat) {x : Str} (hN : X.N[i]? = some x := by rfl) (hv : Vis X.env.scope x := by first | exact Or.inl rfl | exact Or.inr (Or.inl rfl) | exact Or.inr (Or.inr rfl)) (hd : (x == ("__debug__" : Str)) = false := by decide) (hcd : (x == ("__classdict__" : Str)) = false := by decide) :
    DE X G (.Name x pos) (eV i) := ⟨_, pe_var hN hv hd hcd, ev_var⟩
/-- two operands, an operation that leaves the heap -/
def R2Ok (G : Gc) (r : R2) (f : D → D → Sto → Option D) : Prop := ∀ (w : Wd) (S : Sto) (H : Hp) (x y : V) (dx dy d : D) (Q : VK), Core G w S H → Den w S.length x dx → Den w S.length y dy → f dx dy S = some d → (∀ v, Den w S.length v d → Q v H) → r x y H Q
theorem ev_2 {r : R2} {f : D → D → Sto → Option D} {ta tb : TE} {a b : RE} (hr : R2Ok G r f) (ha : Ev G ta a) (hb : Ev G tb b) : Ev G (tOp r ta tb) (e2 f a b) := fun ρ S d S' e w σ H s Q q => by
  unfold e2 at e
  split at e
  · rename_i x S1 h1
    split at e
    · rename_i y S2 h2
      split at e
      · rename_i z h3
        cases e
        refine ha ρ S x S1 h1 w σ H s _ fun w1 v H1 s1 x1 d1 => hb ρ S1 y _ h2 w1 σ H1 s1 _ fun w2 u H2 s2 x2 d2 => ?_
        exact hr w2 _ H2 v u x y d Q s2.core (d1.ext x2) d2 h3 fun z hz => q w2 z H2 s2 (x1.trans x2) hz
      · cases e
    · cases e
  · cases e
def R1Ok (G : Gc) (r : V → Hp → VK → Prop) (f : D → Sto → Option D) : Prop := ∀ (w : Wd) (S : Sto) (H : Hp) (x : V) (dx d : D) (Q : VK), Core G w S H → Den w S.length x dx → f dx S = some d → (∀ v, Den w S.length v d → Q v H) → r x H Q
theorem ev_1 {r : V → Hp → VK → Prop} {f : D → Sto → Option D} {ta : TE} {a : RE} (hr : R1Ok G r f) (ha : Ev G ta a) : Ev G (tUn r ta) (e1 f a) := fun ρ S d S' e w σ H s Q q => by
  unfold e1 at e
  split at e
  · rename_i x S1 h1
    split at e
    · rename_i z h3
      cases e
      refine ha ρ S x _ h1 w σ H s _ fun w1 v H1 s1 x1 d1 => ?_
      exact hr w1 _ H1 v x d Q s1.core d1 h3 fun z hz => q w1 z H1 s1 x1 hz
    · cases e
  · cases e

/-! ### ints -/
def Nar (i : Int) : Prop := i.natAbs < 2 ^ 400000
def fAdd : D → D → Sto → Option D := fun x y _ => match x, y with | .int i, .int j => some (.int (i + j)) | _, _ => none
@[simp] def fSub : D → D → Sto → Option D := fun x y _ => match x, y with | .int i, .int j => some (.int (i - j)) | _, _ => none
def MulC (i j : Int) : Prop := CMulW i j ∨ CMul i j
theorem op_mulC {X : Cx} : OpR X (binaryOp .Mult) (rI MulC fun i j => .int (i * j)) := fun pins s σ H x y v u Q I r1 r2 h => by
  obtain ⟨i, j, e1, e2, hc, q⟩ := h
  rcases hc with hc | hc
  · exact op_mulW pins s σ H x y v u Q I r1 r2 ⟨i, j, e1, e2, hc, q⟩
  · exact op_mul pins s σ H x y v u Q I r1 r2 ⟨i, j, e1, e2, hc, q⟩
open Classical in
noncomputable def fMul : D → D → Sto → Option D := fun x y _ => match x, y with | .int i, .int j => if MulC i j then some (.int (i * j)) else none | _, _ => none
open Classical in
@[simp] noncomputable def fDiv : D → D → Sto → Option D := fun x y _ => match x, y with | .int i, .int j => if CDivW i j ∨ CDivN i j then some (.int (i.fdiv j)) else none | _, _ => none
@[simp] def fMod : D → D → Sto → Option D := fun x y _ => match x, y with | .int i, .int j => if j ≠ 0 then some (.int (i.fmod j)) else none | _, _ => none
@[simp] def fNeg : D → Sto → Option D := fun x _ => match x with | .int i => some (.int (-i)) | _ => none
@[simp] def fCmp (p : Int → Int → Bool) : D → D → Sto → Option D := fun x y _ => match x, y with | .int i, .int j => some (.bl (p i j)) | _, _ => none
theorem den_int {w : Wd} {n : Nat} {v : V} {i : Int} (h : Den w n v (.int i)) : v = .int i := by cases h; rfl
theorem den_bl {w : Wd} {n : Nat} {v : V} {i : Bool} (h : Den w n v (.bl i)) : v = .bl i := by cases h; rfl
theorem den_str {w : Wd} {n : Nat} {v : V} {i : Str} (h : Den w n v (.str i)) : v = .str i := by cases h; rfl
theorem den_non {w : Wd} {n : Nat} {v : V} (h : Den w n v .non) : v = .non := by cases h; rfl
theorem r_I0 {g : Int → Int → V} {f : D → D → Sto → Option D} (h : ∀ x y S d, f x y S = some d → ∃ i j, x = .int i ∧ y = .int j ∧ ∀ w n, Den w n (g i j) d) : R2Ok G (rI0 g) f := fun w S H x y dx dy d Q c hx hy e q => by
  obtain ⟨i, j, rfl, rfl, hd⟩ := h _ _ _ _ e
  exact ⟨i, j, den_int hx, den_int hy, q _ (hd _ _)⟩
theorem r_I {C : Int → Int → Prop} {g : Int → Int → V} {f : D → D → Sto → Option D} (h : ∀ x y S d, f x y S = some d → ∃ i j, x = .int i ∧ y = .int j ∧ C i j ∧ ∀ w n, Den w n (g i j) d) : R2Ok G (rI C g) f := fun w S H x y dx dy d Q c hx hy e q => by
  obtain ⟨i, j, rfl, rfl, hc, hd⟩ := h _ _ _ _ e
  exact ⟨i, j, den_int hx, den_int hy, hc, q _ (hd _ _)⟩
theorem op_div : OpR X (binaryOp .FloorDiv) (rI (fun i j => CDivW i j ∨ CDivN i j) fun i j => .int (i.fdiv j)) := fun pins s σ H x y v u Q I r1 r2 h => by
  obtain ⟨i, j, e1, e2, hc, q⟩ := h
  rcases hc with hc | hc
  · exact op_fdivW pins s σ H x y v u Q I r1 r2 ⟨i, j, e1, e2, hc, by show Q (V.int (i / j)) H; rw [← Int.fdiv_eq_ediv_of_nonneg _ (Int.le_of_lt hc.1)]; exact q⟩
  · exact op_fdivN pins s σ H x y v u Q I r1 r2 ⟨i, j, e1, e2, hc, q⟩
variable {a b c : Expr} {ta tb tc : RE}
theorem de_add (ha : DE X G a ta) (hb : DE X G b tb) : DE X G (.BinOp a .Add b pos) (e2 fAdd ta tb) :=
  let ⟨_, pa, ea⟩ := ha; let ⟨_, pb, eb⟩ := hb
  ⟨_, pe_op op_add pa pb, ev_2 (r_I0 fun x y S d e => by unfold fAdd at e; split at e <;> cases e; exact ⟨_, _, rfl, rfl, fun _ _ => .int _⟩) ea eb⟩
theorem de_sub (ha : DE X G a ta) (hb : DE X G b tb) : DE X G (.BinOp a .Sub b pos) (e2 fSub ta tb) :=
  let ⟨_, pa, ea⟩ := ha; let ⟨_, pb, eb⟩ := hb
  ⟨_, pe_op op_sub pa pb, ev_2 (r_I0 fun x y S d e => by unfold fSub at e; split at e <;> cases e; exact ⟨_, _, rfl, rfl, fun _ _ => .int _⟩) ea eb⟩
theorem de_mul (ha : DE X G a ta) (hb : DE X G b tb) : DE X G (.BinOp a .Mult b pos) (e2 fMul ta tb) :=
  let ⟨_, pa, ea⟩ := ha; let ⟨_, pb, eb⟩ := hb
  ⟨_, pe_op op_mulC pa pb, ev_2 (r_I fun x y S d e => by
    unfold fMul at e
    split at e
    · split at e
      · rename_i hc; cases e; exact ⟨_, _, rfl, rfl, hc, fun _ _ => .int _⟩
      · cases e
    · cases e) ea eb⟩
theorem de_div (ha : DE X G a ta) (hb : DE X G b tb) : DE X G (.BinOp a .FloorDiv b pos) (e2 fDiv ta tb) :=
  let ⟨_, pa, ea⟩ := ha; let ⟨_, pb, eb⟩ := hb
  ⟨_, pe_op op_div pa pb, ev_2 (r_I fun x y S d e => by
    unfold fDiv at e
    split at e
    · split at e
      · rename_i hc; cases e; exact ⟨_, _, rfl, rfl, hc, fun _ _ => .int _⟩
      · cases e
    · cases e) ea eb⟩
theorem de_mod (ha : DE X G a ta) (hb : DE X G b tb) : DE X G (.BinOp a .Mod b pos) (e2 fMod ta tb) :=
  let ⟨_, pa, ea⟩ := ha; let ⟨_, pb, eb⟩ := hb
  ⟨_, pe_op op_modN pa pb, ev_2 (r_I fun x y S d e => by
    unfold fMod at e
    split at e
    · split at e
      · rename_i hc; cases e; exact ⟨_, _, rfl, rfl, hc, fun _ _ => .int _⟩
      · cases e
    · cases e) ea eb⟩
theorem de_neg (ha : DE X G a ta) : DE X G (.UnaryOp .USub a pos) (e1 fNeg ta) :=
  let ⟨_, pa, ea⟩ := ha
  ⟨_, pe_un un_neg pa, ev_1 (fun w S H x dx d Q c hx e q => by
    unfold fNeg at e
    split at e <;> cases e
    exact ⟨_, den_int hx, q _ (.int _)⟩) ea⟩
theorem r_cmp {p : Int → Int → Bool} : R2Ok G (rI0 fun i j => .bl (p i j)) (fCmp p) := r_I0 fun x y S d e => by
  unfold fCmp at e; split at e <;> cases e; exact ⟨_, _, rfl, rfl, fun _ _ => .bl _⟩
theorem de_lt (ha : DE X G a ta) (hb : DE X G b tb) : DE X G (.Compare a [.Lt] [b] pos) (e2 (fCmp fun i j => decide (i < j)) ta tb) :=
  let ⟨_, pa, ea⟩ := ha; let ⟨_, pb, eb⟩ := hb
  ⟨_, pe_cmpR op_lt pa pb (nobehind _ (by decide) (by decide)), ev_2 r_cmp ea eb⟩
theorem de_le (ha : DE X G a ta) (hb : DE X G b tb) : DE X G (.Compare a [.LtE] [b] pos) (e2 (fCmp fun i j => decide (i ≤ j)) ta tb) :=
  let ⟨_, pa, ea⟩ := ha; let ⟨_, pb, eb⟩ := hb
  ⟨_, pe_cmpR op_le pa pb (nobehind _ (by decide) (by decide)), ev_2 r_cmp ea eb⟩
theorem de_gt (ha : DE X G a ta) (hb : DE X G b tb) : DE X G (.Compare a [.Gt] [b] pos) (e2 (fCmp fun i j => decide (j < i)) ta tb) :=
  let ⟨_, pa, ea⟩ := ha; let ⟨_, pb, eb⟩ := hb
  ⟨_, pe_cmpR op_gt pa pb (nobehind _ (by decide) (by decide)), ev_2 r_cmp ea eb⟩
theorem de_ge (ha : DE X G a ta) (hb : DE X G b tb) : DE X G (.Compare a [.GtE] [b] pos) (e2 (fCmp fun i j => decide (j ≤ i)) ta tb) :=
  let ⟨_, pa, ea⟩ := ha; let ⟨_, pb, eb⟩ := hb
  ⟨_, pe_cmpR op_ge pa pb (nobehind _ (by decide) (by decide)), ev_2 r_cmp ea eb⟩

/-! ### == of trees -/
mutual
@[simp] def toP : D → Option PyData
  | .non => some .none
  | .bl b => some (.bool b)
  | .int i => some (.int i)
  | .str x => some (.str x)
  | .tup xs => match toPs xs with | some ps => some (.tuple ps) | none => none
  | .lst xs => match toPs xs with | some ps => some (.list ps) | none => none
  | .scr xs => match toPs xs with | some ps => some (.list ps) | none => none
  | .obj _ => none
@[simp] def toPs : List D → Option (List PyData)
  | [] => some []
  | x :: r => match toP x with
    | some p => (match toPs r with | some ps => some (p :: ps) | none => none)
    | none => none
end
end
end DL

set_option maxRecDepth 100000
set_option maxHeartbeats 4000000
set_option pp.maxSteps 900
namespace DL
open PySem PySem.Spec PyProof.Rows L2 GX

/-! ### == -/
open PySem.SeqAt (shaped) in
def fEq : D → D → Sto → Option D := fun x y _ => match toP x, toP y with
  | some p, some q => if shaped p = true ∧ shaped q = true then some (.bl (PyData.eqv p q)) else none
  | _, _ => none
open PySem.SeqAt (shaped) in
def fNe : D → D → Sto → Option D := fun x y _ => match toP x, toP y with
  | some p, some q => if shaped p = true ∧ shaped q = true then some (.bl (!PyData.eqv p q)) else none
  | _, _ => none
mutual
theorem dp_of {K : PySem.W.Frag} {w : Wd} {n : Nat} {H : Hp} (hs : ∀ a o, w.fr a = some o → H a = some o) : ∀ {v : V} {d : D} {p : PyData}, Den w n v d → toP d = some p → Dp K H v p
  | _, _, _, .non, e => by simp only [toP] at e; cases e; exact .non
  | _, _, _, .bl b, e => by simp only [toP] at e; cases e; exact .bl b
  | _, _, _, .int b, e => by simp only [toP] at e; cases e; exact .int b
  | _, _, _, .str b, e => by simp only [toP] at e; cases e; exact .str b
  | _, _, _, .tup r h, e => by
    simp only [toP] at e
    split at e
    · rename_i ps hp; cases e; exact .tup (.inl (.inl (hs _ _ r))) (dps_of hs h hp)
    · cases e
  | _, _, _, .lst r h, e => by
    simp only [toP] at e
    split at e
    · rename_i ps hp; cases e; exact .lst (.inl (.inl (hs _ _ r))) (dps_of hs h hp)
    · cases e
  | _, _, _, .scr r h, e => by
    simp only [toP] at e
    split at e
    · rename_i ps hp; cases e; exact .lst (.inl (rd_sub hs r)) (dps_of hs h hp)
    · cases e
  | _, _, _, .obj h, e => by simp only [toP] at e; cases e
theorem dps_of {K : PySem.W.Frag} {w : Wd} {n : Nat} {H : Hp} (hs : ∀ a o, w.fr a = some o → H a = some o) : ∀ {vs : List V} {ds : List D} {ps : List PyData}, DenL w n vs ds → toPs ds = some ps → DpAll K H vs ps
  | _, _, _, .nil, e => by simp only [toPs] at e; cases e; exact .nil
  | _, _, _, .cons h t, e => by
    simp only [toPs] at e
    split at e
    · rename_i p hp
      split at e
      · rename_i qs hq; cases e; exact .cons (dp_of hs h hp) (dps_of hs t hq)
      · cases e
    · cases e
end
/-- a comparison: its rule, what it computes -/
def CmpOk (X : Cx) (G : Gc) (op : CmpOp) (f : D → D → Sto → Option D) : Prop := ∃ r, OpR X (compareOp op) r ∧ R2Ok G r f
section
variable {G : Gc} {X : Cx} {pos : Pos} {a b c e : Expr} {es rest : List Expr} {ta tb tc t : RE} {ra : RA} {k : Nat}
theorem c_lt : CmpOk X G .Lt (fCmp fun i j => decide (i < j)) := ⟨_, op_lt, r_cmp⟩
theorem c_le : CmpOk X G .LtE (fCmp fun i j => decide (i ≤ j)) := ⟨_, op_le, r_cmp⟩
theorem c_gt : CmpOk X G .Gt (fCmp fun i j => decide (j < i)) := ⟨_, op_gt, r_cmp⟩
theorem c_ge : CmpOk X G .GtE (fCmp fun i j => decide (j ≤ i)) := ⟨_, op_ge, r_cmp⟩
theorem c_eq (hr : Room k X.A) : CmpOk X G .Eq fEq := ⟨_, op_eqD hr.units, fun w S H x y dx dy d Q c hx hy e q => by
  unfold fEq at e
  split at e
  · rename_i p p' h1 h2
    split at e
    · rename_i h3
      cases e
      exact ⟨p, p', dp_of c.sub hx h1, dp_of c.sub hy h2, h3.1, h3.2, q _ (.bl _)⟩
    · cases e
  · cases e⟩
theorem c_ne (hr : Room k X.A) : CmpOk X G .NotEq fNe := ⟨_, op_neD hr.units, fun w S H x y dx dy d Q c hx hy e q => by
  unfold fNe at e
  split at e
  · rename_i p p' h1 h2
    split at e
    · rename_i h3
      cases e
      exact ⟨p, p', dp_of c.sub hx h1, dp_of c.sub hy h2, h3.1, h3.2, q _ (.bl _)⟩
    · cases e
  · cases e⟩
@[simp] def isNon : D → Bool | .non => true | _ => false
@[simp] def fIsN : D → D → Sto → Option D := fun x y _ => match y with | .non => some (.bl (isNon x)) | _ => none
@[simp] def fNotN : D → D → Sto → Option D := fun x y _ => match y with | .non => some (.bl (!isNon x)) | _ => none
theorem isNon_of {w : Wd} {n : Nat} {v : V} {d : D} (h : Den w n v d) : decide (v = .non) = isNon d := by
  cases h <;> simp [isNon]
theorem c_isN : CmpOk X G .Is fIsN := ⟨_, op_isN, fun w S H x y dx dy d Q c hx hy e q => by
  unfold fIsN at e
  split at e
  · cases e; exact ⟨den_non hy, q _ (by rw [isNon_of hx]; exact .bl _)⟩
  · cases e⟩
theorem c_notN : CmpOk X G .IsNot fNotN := ⟨_, op_notN, fun w S H x y dx dy d Q c hx hy e q => by
  unfold fNotN at e
  split at e
  · cases e; exact ⟨den_non hy, q _ (by rw [isNon_of hx]; exact .bl _)⟩
  · cases e⟩
theorem de_cmp {op : CmpOp} {f : D → D → Sto → Option D} (ho : CmpOk X G op f) (ha : DE X G a ta) (hb : DE X G b tb) (hm : behindInMarks op b = false := by first | exact nobehind _ (by decide) (by decide) | rfl) : DE X G (.Compare a [op] [b] pos) (e2 f ta tb) :=
  let ⟨_, h1, h2⟩ := ho; let ⟨_, pa, ea⟩ := ha; let ⟨_, pb, eb⟩ := hb
  ⟨_, pe_cmpR h1 pa pb hm, ev_2 h2 ea eb⟩

/-! ### tests -/
@[simp] def tBl (t : RE) : RT := fun ρ S => match t ρ S with | some (.bl b, S1) => some (b, S1) | _ => none
theorem evt_test {te : TE} (h : Ev G te t) : EvT G (tTest te) (tBl t) := fun ρ S b S' e w σ H s Q q => by
  unfold tBl at e
  split at e
  · rename_i c S1 h1
    cases e
    exact h ρ S _ _ h1 w σ H s _ fun w1 v H1 s1 x1 d1 => ⟨_, den_bl d1, q w1 H1 s1 x1⟩
  · cases e
theorem dt_cmp {op : CmpOp} {f : D → D → Sto → Option D} (ho : CmpOk X G op f) (ha : DE X G a ta) (hb : DE X G b tb) (hm : behindInMarks op b = false := by first | exact nobehind _ (by decide) (by decide) | rfl) : DT X G (.Compare a [op] [b] pos) (tBl (e2 f ta tb)) :=
  let ⟨_, h1, h2⟩ := ho; let ⟨_, pa, ea⟩ := ha; let ⟨_, pb, eb⟩ := hb
  ⟨_, pt_cmpR h1 pa pb hm, evt_test (ev_2 h2 ea eb)⟩
/-- a < b < c -/
@[simp] def eChain (f g : D → D → Sto → Option D) (a b c : RE) : RE := fun ρ S => match a ρ S with
  | some (x, S1) => (match b ρ S1 with
    | some (y, S2) => (match f x y S2 with
      | some (.bl true) => (match c ρ S2 with | some (z, S3) => (match g y z S3 with | some r => some (r, S3) | none => none) | none => none)
      | some (.bl false) => some (.bl false, S2)
      | _ => none)
    | none => none)
  | none => none
theorem ev_chain {r r' : R2} {f g : D → D → Sto → Option D} {xa xb xc : TE} (hr : R2Ok G r f) (hr' : R2Ok G r' g) (ha : Ev G xa ta) (hb : Ev G xb tb) (hc : Ev G xc tc) : Ev G (tChain r r' xa xb xc) (eChain f g ta tb tc) := fun ρ S d S' e w σ H s Q q => by
  unfold eChain at e
  split at e
  · rename_i x S1 h1
    split at e
    · rename_i y S2 h2
      refine ha ρ S x S1 h1 w σ H s _ fun w1 v H1 s1 x1 d1 => hb ρ S1 y _ h2 w1 σ H1 s1 _ fun w2 u H2 s2 x2 d2 => ?_
      split at e
      · rename_i h3
        split at e
        · rename_i z S3 h4
          split at e
          · rename_i rr h5
            cases e
            refine hr w2 _ H2 v u x y _ _ s2.core (d1.ext x2) d2 h3 fun z hz => ⟨true, den_bl hz, iteT ?_⟩
            refine hc ρ S2 _ _ h4 w2 σ H2 s2 _ fun w3 zz H3 s3 x3 d3 => ?_
            exact hr' w3 _ H3 u zz y _ _ _ s3.core (d2.ext x3) d3 h5 fun o ho => q w3 o H3 s3 ((x1.trans x2).trans x3) ho
          · cases e
        · cases e
      · rename_i h3
        cases e
        exact hr w2 _ H2 v u x y _ _ s2.core (d1.ext x2) d2 h3 fun z hz => ⟨false, den_bl hz, iteF (q w2 _ H2 s2 (x1.trans x2) (.bl _))⟩
      · cases e
    · cases e
  · cases e
theorem de_chain {op op' : CmpOp} {f g : D → D → Sto → Option D} (ho : CmpOk X G op f) (ho' : CmpOk X G op' g) (ha : DE X G a ta) (hb : DE X G b tb) (hc : DE X G c tc) (hm : lastMarks [op, op'] [b, c] = false := by with_unfolding_all rfl) :
    DE X G (.Compare a [op, op'] [b, c] pos) (eChain f g ta tb tc) :=
  let ⟨_, h1, h2⟩ := ho; let ⟨_, h1', h2'⟩ := ho'; let ⟨_, pa, ea⟩ := ha; let ⟨_, pb, eb⟩ := hb; let ⟨_, pc, ec⟩ := hc
  ⟨_, pe_chain h1 h1' pa pb pc hm, ev_chain h2 h2' ea eb ec⟩
theorem dt_chain {op op' : CmpOp} {f g : D → D → Sto → Option D} (ho : CmpOk X G op f) (ho' : CmpOk X G op' g) (ha : DE X G a ta) (hb : DE X G b tb) (hc : DE X G c tc) (hm : lastMarks [op, op'] [b, c] = false := by with_unfolding_all rfl) :
    DT X G (.Compare a [op, op'] [b, c] pos) (tBl (eChain f g ta tb tc)) :=
  let ⟨_, h1, h2⟩ := ho; let ⟨_, h1', h2'⟩ := ho'; let ⟨_, pa, ea⟩ := ha; let ⟨_, pb, eb⟩ := hb; let ⟨_, pc, ec⟩ := hc
  ⟨_, pt_chain h1 h1' pa pb pc hm, evt_test (ev_chain h2 h2' ea eb ec)⟩
/-- truth -/
@[simp] def tru : D → Sto → Option Bool := fun d S => match d with
  | .non => some false
  | .bl b => some b
  | .int i => some (i != 0)
  | .str x => if x.length ≤ sizeLine then some ((x.length : Int) != 0) else none
  | .tup xs => some (!xs.isEmpty)
  | .lst xs => some (!xs.isEmpty)
  | .scr xs => some (!xs.isEmpty)
  | .obj k => match S[k]? with | some (.lst xs) => some (!xs.isEmpty) | _ => none
theorem DenL.emp {w : Wd} {n : Nat} {vs : List V} {ds : List D} (h : DenL w n vs ds) : vs.isEmpty = ds.isEmpty := by cases h <;> rfl
theorem tru_ok {K : PySem.W.Frag} {w : Wd} {S : Sto} {H : Hp} (c : Core G w S H) {v : V} {d : D} {b : Bool} (h : Den w S.length v d) (e : tru d S = some b) : TruV K v H b := by
  cases h with
  | non => simp only [tru] at e; cases e; rfl
  | bl b => simp only [tru] at e; cases e; rfl
  | int b => simp only [tru] at e; cases e; rfl
  | str x =>
    simp only [tru] at e
    split at e
    · rename_i hx; cases e; exact ⟨hx, rfl⟩
    · cases e
  | tup r l => simp only [tru] at e; cases e; exact .inr (.inl ⟨_, .inl (.inl (c.sub _ _ r)), by rw [l.emp]⟩)
  | lst r l => simp only [tru] at e; cases e; exact .inl ⟨_, .inl (.inl (c.sub _ _ r)), by rw [l.emp]⟩
  | scr r l => simp only [tru] at e; cases e; exact .inl ⟨_, .inl (rd_sub c.sub r), by rw [l.emp]⟩
  | obj hk =>
    simp only [tru] at e
    split at e
    · rename_i xs hx
      cases e
      obtain ⟨_, _, vs, hv, l⟩ := c.cel _ _ hx
      exact .inl ⟨_, .inl (.inl hv), by rw [l.emp]⟩
    · cases e
@[simp] def tTru (t : RE) : RT := fun ρ S => match t ρ S with | some (d, S1) => (match tru d S1 with | some b => some (b, S1) | none => none) | none => none
theorem dt_tru (ha : DE X G a ta) (he : ∀ whole, isTrue a X.env whole = (do let v ← whole; standAt a.pos; holding [v] (truthy v)) := by intro _; rfl) : DT X G a (tTru ta) :=
  let ⟨_, pa, ea⟩ := ha
  ⟨_, pt_truth pa he, fun ρ S b S' e w σ H s Q q => by
    unfold tTru at e
    split at e
    · rename_i d S1 h1
      split at e
      · rename_i bb h2
        cases e
        exact ea ρ S _ _ h1 w σ H s _ fun w1 v H1 s1 x1 d1 => ⟨_, tru_ok s1.core d1 h2, q w1 H1 s1 x1⟩
      · cases e
    · cases e⟩
@[simp] def tNotD (t : RT) : RT := fun ρ S => match t ρ S with | some (b, S1) => some (!b, S1) | none => none
@[simp] def tAndD (t u : RT) : RT := fun ρ S => match t ρ S with | some (true, S1) => u ρ S1 | some (false, S1) => some (false, S1) | none => none
@[simp] def tOrD (t u : RT) : RT := fun ρ S => match t ρ S with | some (true, S1) => some (true, S1) | some (false, S1) => u ρ S1 | none => none
variable {t1 t2 : RT}
theorem dt_not (h : DT X G a t1) : DT X G (.UnaryOp .Not a pos) (tNotD t1) :=
  let ⟨_, pa, ea⟩ := h
  ⟨_, pt_not pa, fun ρ S b S' e w σ H s Q q => by
    unfold tNotD at e
    split at e
    · rename_i d S1 h1
      cases e
      exact ea ρ S _ _ h1 w σ H s _ fun w1 H1 s1 x1 => q w1 H1 s1 x1
    · cases e⟩
theorem evt_and {xa xb : TT} (h1 : EvT G xa t1) (h2 : EvT G xb t2) : EvT G (tAnd xa xb) (tAndD t1 t2) := fun ρ S b S' e w σ H s Q q => by
  unfold tAndD at e
  split at e
  · rename_i S1 g1
    exact h1 ρ S _ _ g1 w σ H s _ fun w1 H1 s1 x1 => iteT (h2 ρ S1 _ _ e w1 σ H1 s1 _ fun w2 H2 s2 x2 => q w2 H2 s2 (x1.trans x2))
  · rename_i S1 g1
    cases e
    exact h1 ρ S _ _ g1 w σ H s _ fun w1 H1 s1 x1 => iteF (q w1 H1 s1 x1)
  · cases e
theorem evt_or {xa xb : TT} (h1 : EvT G xa t1) (h2 : EvT G xb t2) : EvT G (tOr xa xb) (tOrD t1 t2) := fun ρ S b S' e w σ H s Q q => by
  unfold tOrD at e
  split at e
  · rename_i S1 g1
    cases e
    exact h1 ρ S _ _ g1 w σ H s _ fun w1 H1 s1 x1 => iteT (q w1 H1 s1 x1)
  · rename_i S1 g1
    exact h1 ρ S _ _ g1 w σ H s _ fun w1 H1 s1 x1 => iteF (h2 ρ S1 _ _ e w1 σ H1 s1 _ fun w2 H2 s2 x2 => q w2 H2 s2 (x1.trans x2))
  · cases e
theorem dw_and1 (h : DT X G a t1) : DW X G (.BoolOp .And [a] pos) t1 := let ⟨_, pa, ea⟩ := h; ⟨_, pw_and1 pa, ea⟩
theorem dw_or1 (h : DT X G a t1) : DW X G (.BoolOp .Or [a] pos) t1 := let ⟨_, pa, ea⟩ := h; ⟨_, pw_or1 pa, ea⟩
theorem dw_and (h : DT X G a t1) (h2 : DW X G (.BoolOp .And (b :: rest) pos) t2) : DW X G (.BoolOp .And (a :: b :: rest) pos) (tAndD t1 t2) :=
  let ⟨_, pa, ea⟩ := h; let ⟨_, pb, eb⟩ := h2; ⟨_, pw_and pa pb, evt_and ea eb⟩
theorem dw_or (h : DT X G a t1) (h2 : DW X G (.BoolOp .Or (b :: rest) pos) t2) : DW X G (.BoolOp .Or (a :: b :: rest) pos) (tOrD t1 t2) :=
  let ⟨_, pa, ea⟩ := h; let ⟨_, pb, eb⟩ := h2; ⟨_, pw_or pa pb, evt_or ea eb⟩
theorem dt_w (h : DW X G a t1) : DT X G a t1 := let ⟨_, pa, ea⟩ := h; ⟨_, pa.pt, ea⟩
/-- and, or, not as values: of truth values -/
@[simp] def eAnd (a b : RE) : RE := fun ρ S => match a ρ S with | some (.bl true, S1) => b ρ S1 | some (.bl false, S1) => some (.bl false, S1) | _ => none
@[simp] def eOr (a b : RE) : RE := fun ρ S => match a ρ S with | some (.bl true, S1) => some (.bl true, S1) | some (.bl false, S1) => b ρ S1 | _ => none
@[simp] def fNot : D → Sto → Option D := fun d _ => match d with | .bl b => some (.bl (!b)) | _ => none
theorem de_one {op : BoolOp} (h : DE X G a ta) : DE X G (.BoolOp op [a] pos) ta := let ⟨_, pa, ea⟩ := h; ⟨_, pe_one pa, ea⟩
theorem de_and (h : DE X G a ta) (h2 : DE X G (.BoolOp .And (b :: rest) pos) tb) : DE X G (.BoolOp .And (a :: b :: rest) pos) (eAnd ta tb) :=
  let ⟨_, pa, ea⟩ := h; let ⟨_, pb, eb⟩ := h2
  ⟨_, pe_and pa pb, fun ρ S d S' e w σ H s Q q => by
    unfold eAnd at e
    split at e
    · rename_i S1 g1
      exact ea ρ S _ _ g1 w σ H s _ fun w1 v H1 s1 x1 d1 => ⟨true, den_bl d1, iteT (eb ρ S1 _ _ e w1 σ H1 s1 _ fun w2 v2 H2 s2 x2 d2 => q w2 v2 H2 s2 (x1.trans x2) d2)⟩
    · rename_i S1 g1
      cases e
      exact ea ρ S _ _ g1 w σ H s _ fun w1 v H1 s1 x1 d1 => ⟨false, den_bl d1, iteF (q w1 _ H1 s1 x1 (.bl _))⟩
    · cases e⟩
theorem de_or (h : DE X G a ta) (h2 : DE X G (.BoolOp .Or (b :: rest) pos) tb) : DE X G (.BoolOp .Or (a :: b :: rest) pos) (eOr ta tb) :=
  let ⟨_, pa, ea⟩ := h; let ⟨_, pb, eb⟩ := h2
  ⟨_, pe_or pa pb, fun ρ S d S' e w σ H s Q q => by
    unfold eOr at e
    split at e
    · rename_i S1 g1
      cases e
      exact ea ρ S _ _ g1 w σ H s _ fun w1 v H1 s1 x1 d1 => ⟨true, den_bl d1, iteT (q w1 _ H1 s1 x1 (.bl _))⟩
    · rename_i S1 g1
      exact ea ρ S _ _ g1 w σ H s _ fun w1 v H1 s1 x1 d1 => ⟨false, den_bl d1, iteF (eb ρ S1 _ _ e w1 σ H1 s1 _ fun w2 v2 H2 s2 x2 d2 => q w2 v2 H2 s2 (x1.trans x2) d2)⟩
    · cases e⟩
theorem de_not (h : DE X G a ta) : DE X G (.UnaryOp .Not a pos) (e1 fNot ta) :=
  let ⟨_, pa, ea⟩ := h
  ⟨_, pe_not pa, by
    refine ev_1 (r := fun x H1 Q => ∃ c, x = .bl c ∧ Q (.bl (!c)) H1) (fun w S H x dx d Q c hx e q => ?_) ea
    unfold fNot at e
    split at e <;> cases e
    exact ⟨_, den_bl hx, q _ (.bl _)⟩⟩
@[simp] def eIf (t : RT) (a b : RE) : RE := fun ρ S => match t ρ S with | some (true, S1) => a ρ S1 | some (false, S1) => b ρ S1 | none => none
theorem de_if (h : DT X G c t1) (ha : DE X G a ta) (hb : DE X G b tb) : DE X G (.IfExp c a b pos) (eIf t1 ta tb) :=
  let ⟨_, pc, ec⟩ := h; let ⟨_, pa, ea⟩ := ha; let ⟨_, pb, eb⟩ := hb
  ⟨_, pe_ifExp pc pa pb, fun ρ S d S' e w σ H s Q q => by
    unfold eIf at e
    split at e
    · rename_i S1 g1
      exact ec ρ S _ _ g1 w σ H s _ fun w1 H1 s1 x1 => iteT (ea ρ S1 _ _ e w1 σ H1 s1 _ fun w2 v2 H2 s2 x2 d2 => q w2 v2 H2 s2 (x1.trans x2) d2)
    · rename_i S1 g1
      exact ec ρ S _ _ g1 w σ H s _ fun w1 H1 s1 x1 => iteF (eb ρ S1 _ _ e w1 σ H1 s1 _ fun w2 v2 H2 s2 x2 d2 => q w2 v2 H2 s2 (x1.trans x2) d2)
    · cases e⟩
end
end DL

set_option maxRecDepth 100000
set_option maxHeartbeats 4000000
set_option pp.maxSteps 900
namespace DL
open PySem PySem.Spec PyProof.Rows L2 GX

theorem le_line {n : Nat} (h : n ≤ 1000000) : n ≤ sizeLine := Nat.le_trans h (by decide)
theorem lt_line {n : Nat} (h : n < 1000000) : n < sizeLine := Nat.lt_of_lt_of_le h (by decide)
/-- of two values; the store may change -/
@[simp] def e2s (f : D → D → Sto → Option (D × Sto)) (a b : RE) : RE := fun ρ S => match a ρ S with
  | some (x, S1) => (match b ρ S1 with | some (y, S2) => f x y S2 | none => none)
  | none => none
@[simp] def e1s (f : D → Sto → Option (D × Sto)) (a : RE) : RE := fun ρ S => match a ρ S with | some (x, S1) => f x S1 | none => none
section
variable {G : Gc} {X : Cx} {pos : Pos} {a b c e : Expr} {es rest : List Expr} {ta tb tc t : RE} {ra : RA} {k : Nat}
def R2New (G : Gc) (r : R2) (f : D → D → Sto → Option (D × Sto)) : Prop := ∀ (w : Wd) (ρ : En) (S : Sto) (σ : L2.St) (H : Hp) (x y : V) (dx dy d : D) (S' : Sto) (Q : VK), Sat G w ρ S σ H → Den w S.length x dx → Den w S.length y dy → f dx dy S = some (d, S') →
  (∀ w' v H', Sat G w' ρ S' σ H' → Ext w S H w' S' H' → Den w' S'.length v d → Q v H') → r x y H Q
theorem ev_2s {r : R2} {f : D → D → Sto → Option (D × Sto)} {xa xb : TE} (hr : R2New G r f) (ha : Ev G xa ta) (hb : Ev G xb tb) : Ev G (tOp r xa xb) (e2s f ta tb) := fun ρ S d S' e w σ H s Q q => by
  unfold e2s at e
  split at e
  · rename_i x S1 h1
    split at e
    · rename_i y S2 h2
      refine ha ρ S x S1 h1 w σ H s _ fun w1 v H1 s1 x1 d1 => hb ρ S1 y _ h2 w1 σ H1 s1 _ fun w2 u H2 s2 x2 d2 => ?_
      exact hr w2 ρ S2 σ H2 v u x y d S' Q s2 (d1.ext x2) d2 e fun w3 z H3 s3 x3 d3 => q w3 z H3 s3 ((x1.trans x2).trans x3) d3
    · cases e
  · cases e
/-- a call by values -/
def RCNew (G : Gc) (r : List V → Hp → VK → Prop) (f : List D → Sto → Option (D × Sto)) : Prop := ∀ (w : Wd) (ρ : En) (S : Sto) (σ : L2.St) (H : Hp) (xs : List V) (ds : List D) (d : D) (S' : Sto) (Q : VK), Sat G w ρ S σ H → DenL w S.length xs ds → f ds S = some (d, S') →
  (∀ w' v H', Sat G w' ρ S' σ H' → Ext w S H w' S' H' → Den w' S'.length v d → Q v H') → r xs H Q
theorem ev_cb {r : List V → Hp → VK → Prop} {f : List D → Sto → Option (D × Sto)} {xa : TA} (hr : RCNew G r f) (ha : EvA G xa ra) : Ev G (tCB r xa) (eA f ra) := fun ρ S d S' e w σ H s Q q => by
  unfold eA at e
  split at e
  · rename_i xs S1 h1
    exact ha ρ S xs S1 h1 w σ H s _ fun w1 vs H1 s1 x1 d1 => hr w1 ρ S1 σ H1 vs xs d S' Q s1 d1 e fun w2 z H2 s2 x2 d2 => q w2 z H2 s2 (x1.trans x2) d2
  · cases e
theorem da_nil : DA X G [] aNil := ⟨_, pa_nil, fun ρ S ds S' e w σ H s Q q => by cases e; exact q w [] H s (Ext.refl ..) .nil⟩
theorem da_cons (h : DE X G e ta) (h2 : DA X G es ra) (hs : starEach (e :: es) X.env = (false, eval e X.env) :: starEach es X.env := by rfl) : DA X G (e :: es) (aCons ta ra) :=
  let ⟨_, pa, ea⟩ := h; let ⟨_, pb, eb⟩ := h2
  ⟨_, pa_cons pa pb hs, fun ρ S ds S' e w σ H s Q q => by
    unfold aCons at e
    split at e
    · rename_i x S1 h1
      split at e
      · rename_i xs S2 h2
        cases e
        exact ea ρ S x S1 h1 w σ H s _ fun w1 v H1 s1 x1 d1 => eb ρ S1 xs _ h2 w1 σ H1 s1 _ fun w2 vs H2 s2 x2 d2 => q w2 _ H2 s2 (x1.trans x2) (.cons (d1.ext x2) d2)
      · cases e
    · cases e⟩
/-! ### displays -/
@[simp] def fTup : List D → Sto → Option (D × Sto) := fun ds S => if ds.length ≤ 1000000 then some (.tup ds, S) else none
@[simp] def fLst : List D → Sto → Option (D × Sto) := fun ds S => if ds.length ≤ 1000000 then some (.lst ds, S) else none
/-- a list that may change -/
@[simp] def fObj : List D → Sto → Option (D × Sto) := fun ds S => if ds.length ≤ 1000000 then some (.obj S.length, S ++ [.lst ds]) else none
theorem new_tup {w : Wd} {ρ : En} {S S' : Sto} {σ : L2.St} {H : Hp} {xs : List V} {ds : List D} {d : D} {Q : VK} (s : Sat G w ρ S σ H) (hd : DenL w S.length xs ds) (e : fTup ds S = some (d, S'))
    (q : ∀ w' v H', Sat G w' ρ S' σ H' → Ext w S H w' S' H' → Den w' S'.length v d → Q v H') : xs.length ≤ sizeLine ∧ ∀ p, H p = none → Q (.ref p) (upd H p (.tup xs)) := by
  unfold fTup at e
  split at e
  · rename_i hl
    cases e
    refine ⟨by rw [hd.len]; exact le_line hl, fun p hp => ?_⟩
    obtain ⟨s1, x1⟩ := s.newF (o := .tup xs) hp (.inl ⟨xs, rfl⟩)
    exact q _ _ _ s1 x1 (den_newT hd (s.core.fresh hp))
  · cases e
theorem new_lst {w : Wd} {ρ : En} {S S' : Sto} {σ : L2.St} {H : Hp} {xs : List V} {ds : List D} {d : D} {Q : VK} (s : Sat G w ρ S σ H) (hd : DenL w S.length xs ds) (e : fLst ds S = some (d, S'))
    (q : ∀ w' v H', Sat G w' ρ S' σ H' → Ext w S H w' S' H' → Den w' S'.length v d → Q v H') : xs.length ≤ sizeLine ∧ ∀ p, H p = none → Q (.ref p) (upd H p (.lst xs)) := by
  unfold fLst at e
  split at e
  · rename_i hl
    cases e
    refine ⟨by rw [hd.len]; exact le_line hl, fun p hp => ?_⟩
    obtain ⟨s1, x1⟩ := s.newF (o := .lst xs) hp (.inr ⟨xs, rfl⟩)
    exact q _ _ _ s1 x1 (den_newL hd (s.core.fresh hp))
  · cases e
theorem den_newO {w : Wd} {S : Sto} {p : Addr} {ds : List D} : Den { w with al := fun k => if k = S.length then p else w.al k } (S ++ [Cell.lst ds]).length (.ref p) (.obj S.length) := by
  have h : Den { w with al := fun k => if k = S.length then p else w.al k } (S ++ [Cell.lst ds]).length (.ref (({ w with al := fun k => if k = S.length then p else w.al k } : Wd).al S.length)) (.obj S.length) := .obj (by simp)
  have e : ({ w with al := fun k => if k = S.length then p else w.al k } : Wd).al S.length = p := if_pos rfl
  rw [e] at h
  exact h
theorem new_obj {w : Wd} {ρ : En} {S S' : Sto} {σ : L2.St} {H : Hp} {xs : List V} {ds : List D} {d : D} {Q : VK} (s : Sat G w ρ S σ H) (hd : DenL w S.length xs ds) (e : fObj ds S = some (d, S'))
    (q : ∀ w' v H', Sat G w' ρ S' σ H' → Ext w S H w' S' H' → Den w' S'.length v d → Q v H') : xs.length ≤ sizeLine ∧ ∀ p, H p = none → Q (.ref p) (upd H p (.lst xs)) := by
  unfold fObj at e
  split at e
  · rename_i hl
    cases e
    refine ⟨by rw [hd.len]; exact le_line hl, fun p hp => ?_⟩
    obtain ⟨c1, x1⟩ := s.core.newO hp hd
    exact q _ _ _ (s.ofCore c1 x1) x1 den_newO
  · cases e
theorem ev_disp {mk : List V → HO} {f : List D → Sto → Option (D × Sto)} {xa : TA} (hn : ∀ {w : Wd} {ρ : En} {S S' : Sto} {σ : L2.St} {H : Hp} {xs : List V} {ds : List D} {d : D} {Q : VK}, Sat G w ρ S σ H → DenL w S.length xs ds → f ds S = some (d, S') →
      (∀ w' v H', Sat G w' ρ S' σ H' → Ext w S H w' S' H' → Den w' S'.length v d → Q v H') → xs.length ≤ sizeLine ∧ ∀ p, H p = none → Q (.ref p) (upd H p (mk xs))) (ha : EvA G xa ra) :
    Ev G (fun σ H Q => xa σ H fun xs H1 => xs.length ≤ sizeLine ∧ ∀ p, H1 p = none → Q (.ref p) (upd H1 p (mk xs))) (eA f ra) := fun ρ S d S' e w σ H s Q q => by
  unfold eA at e
  split at e
  · rename_i xs S1 h1
    exact ha ρ S xs S1 h1 w σ H s _ fun w1 vs H1 s1 x1 d1 => hn s1 d1 e fun w2 z H2 s2 x2 d2 => q w2 z H2 s2 (x1.trans x2) d2
  · cases e
theorem de_tup {k0 : Nat} (h : DA X G es ra) : DE X G (.Tuple es k0 pos) (eA fTup ra) := let ⟨_, pa, ea⟩ := h; ⟨_, pe_tup pa, ev_disp (fun s hd e q => new_tup s hd e q) ea⟩
theorem de_lst (h : DA X G es ra) : DE X G (.List es pos) (eA fLst ra) := let ⟨_, pa, ea⟩ := h; ⟨_, pe_lst pa, ev_disp (fun s hd e q => new_lst s hd e q) ea⟩
theorem de_lstO (h : DA X G es ra) : DE X G (.List es pos) (eA fObj ra) := let ⟨_, pa, ea⟩ := h; ⟨_, pe_lst pa, ev_disp (fun s hd e q => new_obj s hd e q) ea⟩

/-! ### items, lengths, kinds -/
/-- the items of a sequence -/
@[simp] def seqD (d : D) (S : Sto) : Option (List D) := match d with
  | .tup xs => some xs
  | .lst xs => some xs
  | .scr xs => some xs
  | .obj k => match S[k]? with | some (.lst xs) => some xs | _ => none
  | _ => none
theorem seq_ok {K : PySem.W.Frag} {w : Wd} {S : Sto} {H : Hp} (c : Core G w S H) {v : V} {d : D} {xs : List D} (h : Den w S.length v d) (e : seqD d S = some xs) : ∃ p vs, v = .ref p ∧ (SqL K H p vs ∨ SqT K H p vs) ∧ DenL w S.length vs xs := by
  cases h with
  | non => simp [seqD] at e
  | bl b => simp [seqD] at e
  | int b => simp [seqD] at e
  | str x => simp [seqD] at e
  | tup r l => simp only [seqD] at e; cases e; exact ⟨_, _, rfl, .inr (.inl (.inl (c.sub _ _ r))), l⟩
  | lst r l => simp only [seqD] at e; cases e; exact ⟨_, _, rfl, .inl (.inl (.inl (c.sub _ _ r))), l⟩
  | scr r l => simp only [seqD] at e; cases e; exact ⟨_, _, rfl, .inl (.inl (rd_sub c.sub r)), l⟩
  | obj hk =>
    simp only [seqD] at e
    split at e
    · rename_i ys hx
      cases e
      obtain ⟨_, _, vs, hv, l⟩ := c.cel _ _ hx
      exact ⟨_, _, rfl, .inl (.inl (.inl hv)), l⟩
    · cases e
theorem DenL.at {w : Wd} {n : Nat} {vs : List V} {ds : List D} {i : Int} {d : D} (h : DenL w n vs ds) (e : atI ds i = some d) : ∃ v, atI vs i = some v ∧ Den w n v d := by
  unfold atI at e ⊢
  rw [h.len]
  cases q : ixN ds.length i with
  | none => rw [q] at e; cases e
  | some j =>
    rw [q] at e
    exact h.get e
@[simp] def fIx : D → D → Sto → Option D := fun x y S => match y with
  | .int i => (match seqD x S with | some xs => atI xs i | none => none)
  | _ => none
theorem de_ix (ha : DE X G a ta) (hb : DE X G b tb) (hs : PlainIx b := by intro _ _; rfl) : DE X G (.Subscript a b pos) (e2 fIx ta tb) :=
  let ⟨_, pa, ea⟩ := ha; let ⟨_, pb, eb⟩ := hb
  ⟨_, pe_ix ix_seq pa pb hs, ev_2 (fun w S H x y dx dy d Q c hx hy e q => by
    unfold fIx at e
    split at e
    · rename_i i
      split at e
      · rename_i xs h1
        obtain ⟨p, vs, rfl, hq, l⟩ := seq_ok (K := X.K) c hx h1
        obtain ⟨v, hv, dv⟩ := l.at e
        rcases hq with hq | hq
        · exact .inl ⟨p, vs, i, v, rfl, den_int hy, hq, hv, q v dv⟩
        · exact .inr (.inl ⟨p, vs, i, v, rfl, den_int hy, hq, hv, q v dv⟩)
      · cases e
    · cases e) ea eb⟩
@[simp] def fLen : List D → Sto → Option (D × Sto) := fun ds S => match ds with
  | [d] => (match d with
    | .str x => if x.length ≤ sizeLine then some (.int x.length, S) else none
    | d => (match seqD d S with | some xs => some (.int xs.length, S) | none => none))
  | _ => none
theorem r_len : RCNew G (fun xs H Q => ∃ x n, xs = [x] ∧ LenV X.K x H n ∧ Q (.int n) H) fLen := fun w ρ S σ H xs ds d S' Q s hd e q => by
  unfold fLen at e
  split at e
  · rename_i dd
    obtain ⟨v, rfl, hv⟩ : ∃ v, xs = [v] ∧ Den w S.length v dd := by
      cases hd with
      | cons h t => cases t; exact ⟨_, rfl, h⟩
    split at e
    · rename_i x
      split at e
      · rename_i hx
        cases e
        cases den_str hv
        exact ⟨_, _, rfl, ⟨hx, rfl⟩, q w _ H s (Ext.refl ..) (.int _)⟩
      · cases e
    · split at e
      · rename_i ys h1
        cases e
        obtain ⟨p, vs, rfl, hq, l⟩ := seq_ok (K := X.K) s.core hv h1
        refine ⟨_, ys.length, rfl, ?_, q w _ H s (Ext.refl ..) (.int _)⟩
        rcases hq with hq | hq
        · exact .inl ⟨_, hq, l.len.symm⟩
        · exact .inr ⟨_, hq, l.len.symm⟩
      · cases e
  · cases e
theorem de_len {p : Pos} (hm : X.mg "len" = none) (ha : DE X G a ta) (hg : Gl X "len" := by rfl) (hs : starEach [a] X.env = (false, eval a X.env) :: starEach [] X.env := by rfl) (hpl : (backTo pos (starEach [] X.env)).any (·.1) = false := by rfl) :
    DE X G (.Call (.Name "len" p) [a] [] pos) (eA fLen (aCons ta aNil)) :=
  let ⟨_, pa, ea⟩ := da_cons ha da_nil hs
  ⟨_, pe_callB call_len hg hm PySem.boot_len pa (by decide) (by decide) hs hpl, ev_cb r_len ea⟩
/-- the kind of a value -/
@[simp] def kindD (d : D) (S : Sto) : Option String := match d with
  | .non => some "NoneType" | .bl _ => some "bool" | .int _ => some "int" | .str _ => some "str" | .tup _ => some "tuple" | .lst _ => some "list" | .scr _ => some "list"
  | .obj k => match S[k]? with | some (.lst _) => some "list" | _ => none
@[simp] def fIsi (T : String) : D → Sto → Option D := fun d S => match kindD d S with
  | some k => (match kitB k T with | some b => some (.bl b) | none => none)
  | none => none
theorem kind_ok {K : PySem.W.Frag} {w : Wd} {S : Sto} {H : Hp} (c : Core G w S H) {v : V} {d : D} {k : String} (h : Den w S.length v d) (e : kindD d S = some k) : TyX K H v (.type k) := by
  cases h with
  | non => simp only [kindD] at e; cases e; exact .base .non
  | bl b => simp only [kindD] at e; cases e; exact .base (.bl b)
  | int b => simp only [kindD] at e; cases e; exact .base (.int b)
  | str x => simp only [kindD] at e; cases e; exact .base (.str x)
  | tup r l => simp only [kindD] at e; cases e; exact .base (.tup (c.sub _ _ r))
  | lst r l => simp only [kindD] at e; cases e; exact .base (.lst (c.sub _ _ r))
  | scr r l =>
    simp only [kindD] at e; cases e
    rcases r with r | ⟨o, r⟩
    · exact .base (.lst (c.sub _ _ r))
    · exact .base (.frz (c.sub _ _ r))
  | obj hk =>
    simp only [kindD] at e
    split at e
    · rename_i ys hx
      cases e
      obtain ⟨_, _, vs, hv, l⟩ := c.cel _ _ hx
      exact .base (.lst hv)
    · cases e
theorem boot_isinstance : bootBuiltins "isinstance" = some (.builtin "isinstance") := by decide +kernel
theorem de_isi {T : String} {x : Str} {p p2 : Pos} (hm : X.mg "isinstance" = none) (ha : DE X G a ta) (hx : X.mg x = none) (hv : bootBuiltins x = some (.type T)) (hgx : Gl X x := by rfl) (hg : Gl X "isinstance" := by rfl) (hn : x ≠ "__name__" := by decide) (hdb : (x == ("__debug__" : Str)) = false := by decide)
    (hs : starEach [a, .Name x p2] X.env = (false, eval a X.env) :: starEach [.Name x p2] X.env := by rfl) (hs2 : starEach [.Name x p2] X.env = (false, eval (.Name x p2) X.env) :: starEach [] X.env := by rfl) (hpl : (backTo pos (starEach [.Name x p2] X.env)).any (·.1) = false := by rfl) :
    DE X G (.Call (.Name "isinstance" p) [a, .Name x p2] [] pos) (e1 (fIsi T) ta) :=
  let ⟨_, pa, ea⟩ := ha
  ⟨_, pe_callB call_isi hg hm boot_isinstance (pa_cons pa (pa_cons (pe_bltn (v := .ty T) hgx hx hv rfl hn hdb) pa_nil hs2) hs) (by decide) (by decide) hs hpl, fun ρ S d S' e w σ H s Q q => by
    unfold e1 at e
    split at e
    · rename_i y S1 h1
      split at e
      · rename_i z h2
        cases e
        refine ea ρ S y _ h1 w σ H s _ fun w1 v H1 s1 x1 d1 => ?_
        unfold fIsi at h2
        split at h2
        · rename_i k hk
          split at h2
          · rename_i b hb
            cases h2
            exact ⟨v, .ty T, .type k, .type T, b, rfl, .ty T, kind_ok s1.core d1 hk, kit_ty hb, q w1 _ H1 s1 x1 (.bl b)⟩
          · cases h2
        · cases h2
      · cases e
    · cases e⟩
theorem kb_ii : kitB "int" "int" = some true := by decide +kernel
/-! ### abs, max, min, int -/
@[simp] def fAbs : List D → Sto → Option (D × Sto) := fun ds S => match ds with | [.int i] => some (.int (if i < 0 then -i else i), S) | _ => none
@[simp] def fMax2 : List D → Sto → Option (D × Sto) := fun ds S => match ds with | [.int i, .int j] => some (.int (if j > i then j else i), S) | _ => none
@[simp] def fMin2 : List D → Sto → Option (D × Sto) := fun ds S => match ds with | [.int i, .int j] => some (.int (if j < i then j else i), S) | _ => none
@[simp] def fInt1 : List D → Sto → Option (D × Sto) := fun ds S => match ds with | [.int i] => some (.int i, S) | [.bl b] => some (.int (if b then 1 else 0), S) | _ => none
theorem denL1 {w : Wd} {n : Nat} {xs : List V} {d : D} (h : DenL w n xs [d]) : ∃ v, xs = [v] ∧ Den w n v d := by
  cases h with
  | cons h t => cases t; exact ⟨_, rfl, h⟩
theorem denL2 {w : Wd} {n : Nat} {xs : List V} {d d2 : D} (h : DenL w n xs [d, d2]) : ∃ v u, xs = [v, u] ∧ Den w n v d ∧ Den w n u d2 := by
  cases h with
  | cons h t =>
    obtain ⟨u, rfl, h2⟩ := denL1 t
    exact ⟨_, _, rfl, h, h2⟩
theorem de_abs {p : Pos} (hm : X.mg "abs" = none) (ha : DE X G a ta) (hg : Gl X "abs" := by rfl) (hs : starEach [a] X.env = (false, eval a X.env) :: starEach [] X.env := by rfl) (hpl : (backTo pos (starEach [] X.env)).any (·.1) = false := by rfl) :
    DE X G (.Call (.Name "abs" p) [a] [] pos) (eA fAbs (aCons ta aNil)) :=
  let ⟨_, pa, ea⟩ := da_cons ha da_nil hs
  ⟨_, pe_callB call_abs hg hm (by decide +kernel) pa (by decide) (by decide) hs hpl, ev_cb (fun w ρ S σ H xs ds d S' Q s hd e q => by
    unfold fAbs at e
    split at e <;> cases e
    obtain ⟨v, rfl, hv⟩ := denL1 hd
    cases den_int hv
    exact ⟨_, rfl, q w _ H s (Ext.refl ..) (.int _)⟩) ea⟩
theorem de_max2 {p : Pos} (hc : X.calm = true) (hm : X.mg "max" = none) (ha : DE X G a ta) (hb : DE X G b tb) (hg : Gl X "max" := by rfl) (hs : starEach [a, b] X.env = (false, eval a X.env) :: starEach [b] X.env := by rfl) (hs2 : starEach [b] X.env = (false, eval b X.env) :: starEach [] X.env := by rfl) (hpl : (backTo pos (starEach [b] X.env)).any (·.1) = false := by rfl) :
    DE X G (.Call (.Name "max" p) [a, b] [] pos) (eA fMax2 (aCons ta (aCons tb aNil))) :=
  let ⟨_, pa, ea⟩ := da_cons ha (da_cons hb da_nil hs2) hs
  ⟨_, pe_callB (call_max2 hc) hg hm (by decide +kernel) pa (by decide) (by decide) hs hpl, ev_cb (fun w ρ S σ H xs ds d S' Q s hd e q => by
    unfold fMax2 at e
    split at e <;> cases e
    obtain ⟨v, u, rfl, hv, hu⟩ := denL2 hd
    cases den_int hv; cases den_int hu
    exact ⟨_, _, rfl, q w _ H s (Ext.refl ..) (.int _)⟩) ea⟩
theorem de_min2 {p : Pos} (hc : X.calm = true) (hm : X.mg "min" = none) (ha : DE X G a ta) (hb : DE X G b tb) (hg : Gl X "min" := by rfl) (hs : starEach [a, b] X.env = (false, eval a X.env) :: starEach [b] X.env := by rfl) (hs2 : starEach [b] X.env = (false, eval b X.env) :: starEach [] X.env := by rfl) (hpl : (backTo pos (starEach [b] X.env)).any (·.1) = false := by rfl) :
    DE X G (.Call (.Name "min" p) [a, b] [] pos) (eA fMin2 (aCons ta (aCons tb aNil))) :=
  let ⟨_, pa, ea⟩ := da_cons ha (da_cons hb da_nil hs2) hs
  ⟨_, pe_callB (call_min2 hc) hg hm (by decide +kernel) pa (by decide) (by decide) hs hpl, ev_cb (fun w ρ S σ H xs ds d S' Q s hd e q => by
    unfold fMin2 at e
    split at e <;> cases e
    obtain ⟨v, u, rfl, hv, hu⟩ := denL2 hd
    cases den_int hv; cases den_int hu
    exact ⟨_, _, rfl, q w _ H s (Ext.refl ..) (.int _)⟩) ea⟩
theorem de_int1 {p : Pos} (hm : X.mg "int" = none) (ha : DE X G a ta) (hg : Gl X "int" := by rfl) (hs : starEach [a] X.env = (false, eval a X.env) :: starEach [] X.env := by rfl) (hpl : (backTo pos (starEach [] X.env)).any (·.1) = false := by rfl) :
    DE X G (.Call (.Name "int" p) [a] [] pos) (eA fInt1 (aCons ta aNil)) :=
  let ⟨_, pa, ea⟩ := da_cons ha da_nil hs
  ⟨_, pe_callTy call_int1 hg hm (by decide +kernel) pa (by decide) (by decide) hs hpl, ev_cb (fun w ρ S σ H xs ds d S' Q s hd e q => by
    unfold fInt1 at e
    split at e
    · cases e
      obtain ⟨v, rfl, hv⟩ := denL1 hd
      cases den_int hv
      exact .inl ⟨_, rfl, q w _ H s (Ext.refl ..) (.int _)⟩
    · cases e
      obtain ⟨v, rfl, hv⟩ := denL1 hd
      cases den_bl hv
      exact .inr ⟨_, rfl, q w _ H s (Ext.refl ..) (.int _)⟩
    · cases e) ea⟩
/-! ### list(..), tuple(..) of a sequence; + and * of sequences -/
@[simp] def fListF : List D → Sto → Option (D × Sto) := fun ds S => match ds with | [d] => (match seqD d S with | some xs => some (.lst xs, S) | none => none) | _ => none
@[simp] def fListO : List D → Sto → Option (D × Sto) := fun ds S => match ds with | [d] => (match seqD d S with | some xs => some (.obj S.length, S ++ [.lst xs]) | none => none) | _ => none
@[simp] def fTupOf : List D → Sto → Option (D × Sto) := fun ds S => match ds with | [d] => (match seqD d S with | some xs => some (.tup xs, S) | none => none) | _ => none
theorem r_listF : RCNew G (fun xs H Q => ∃ p ys, xs = [.ref p] ∧ (SqL X.K H p ys ∨ SqT X.K H p ys) ∧ ∀ l, H l = none → Q (.ref l) (upd H l (.lst ys))) fListF := fun w ρ S σ H xs ds d S' Q s hd e q => by
  unfold fListF at e
  split at e
  · split at e
    · rename_i ys h1
      cases e
      obtain ⟨v, rfl, hv⟩ := denL1 hd
      obtain ⟨p, vs, rfl, hq, l⟩ := seq_ok (K := X.K) s.core hv h1
      refine ⟨p, vs, rfl, hq, fun a ha => ?_⟩
      obtain ⟨s1, x1⟩ := s.newF (o := .lst vs) ha (.inr ⟨vs, rfl⟩)
      exact q _ _ _ s1 x1 (den_newL l (s.core.fresh ha))
    · cases e
  · cases e
theorem r_listO : RCNew G (fun xs H Q => ∃ p ys, xs = [.ref p] ∧ (SqL X.K H p ys ∨ SqT X.K H p ys) ∧ ∀ l, H l = none → Q (.ref l) (upd H l (.lst ys))) fListO := fun w ρ S σ H xs ds d S' Q s hd e q => by
  unfold fListO at e
  split at e
  · split at e
    · rename_i ys h1
      cases e
      obtain ⟨v, rfl, hv⟩ := denL1 hd
      obtain ⟨p, vs, rfl, hq, l⟩ := seq_ok (K := X.K) s.core hv h1
      refine ⟨p, vs, rfl, hq, fun a ha => ?_⟩
      obtain ⟨c1, x1⟩ := s.core.newO ha l
      exact q _ _ _ (s.ofCore c1 x1) x1 den_newO
    · cases e
  · cases e
theorem seq_ok' {K : PySem.W.Frag} {w : Wd} {S : Sto} {H : Hp} (c : Core G w S H) {v : V} {d : D} {xs : List D} (h : Den w S.length v d) (e : seqD d S = some xs) : ∃ p vs, v = .ref p ∧ DenL w S.length vs xs ∧ (SqL K H p vs ∨ (SqT K H p vs ∧ w.fr p = some (.tup vs))) := by
  cases h with
  | non => simp [seqD] at e
  | bl b => simp [seqD] at e
  | int b => simp [seqD] at e
  | str x => simp [seqD] at e
  | tup r l => simp only [seqD] at e; cases e; exact ⟨_, _, rfl, l, .inr ⟨.inl (.inl (c.sub _ _ r)), r⟩⟩
  | lst r l => simp only [seqD] at e; cases e; exact ⟨_, _, rfl, l, .inl (.inl (.inl (c.sub _ _ r)))⟩
  | scr r l => simp only [seqD] at e; cases e; exact ⟨_, _, rfl, l, .inl (.inl (rd_sub c.sub r))⟩
  | obj hk =>
    simp only [seqD] at e
    split at e
    · rename_i ys hx
      cases e
      obtain ⟨_, _, vs, hv, l⟩ := c.cel _ _ hx
      exact ⟨_, _, rfl, l, .inl (.inl (.inl hv))⟩
    · cases e
theorem r_tupOf : RCNew G (fun xs H Q => ∃ p ys, xs = [.ref p] ∧ ((SqL X.K H p ys ∧ ∀ l, H l = none → Q (.ref l) (upd H l (.tup ys))) ∨ (SqT X.K H p ys ∧ Q (.ref p) H))) fTupOf := fun w ρ S σ H xs ds d S' Q s hd e q => by
  unfold fTupOf at e
  split at e
  · split at e
    · rename_i ys h1
      cases e
      obtain ⟨v, rfl, hv⟩ := denL1 hd
      obtain ⟨p, vs, rfl, l, hq⟩ := seq_ok' (K := X.K) s.core hv h1
      rcases hq with hq | ⟨hq, hf⟩
      · refine ⟨p, vs, rfl, .inl ⟨hq, fun a ha => ?_⟩⟩
        obtain ⟨s1, x1⟩ := s.newF (o := .tup vs) ha (.inl ⟨vs, rfl⟩)
        exact q _ _ _ s1 x1 (den_newT l (s.core.fresh ha))
      · exact ⟨p, vs, rfl, .inr ⟨hq, q w _ H s (Ext.refl ..) (.tup hf l)⟩⟩
    · cases e
  · cases e
theorem de_listF {p : Pos} (hm : X.mg "list" = none) (ha : DE X G a ta) (hg : Gl X "list" := by rfl) (hs : starEach [a] X.env = (false, eval a X.env) :: starEach [] X.env := by rfl) (hpl : (backTo pos (starEach [] X.env)).any (·.1) = false := by rfl) :
    DE X G (.Call (.Name "list" p) [a] [] pos) (eA fListF (aCons ta aNil)) :=
  let ⟨_, pa, ea⟩ := da_cons ha da_nil hs
  ⟨_, pe_callTy call_list_of hg hm (by decide +kernel) pa (by decide) (by decide) hs hpl, ev_cb r_listF ea⟩
theorem de_listO {p : Pos} (hm : X.mg "list" = none) (ha : DE X G a ta) (hg : Gl X "list" := by rfl) (hs : starEach [a] X.env = (false, eval a X.env) :: starEach [] X.env := by rfl) (hpl : (backTo pos (starEach [] X.env)).any (·.1) = false := by rfl) :
    DE X G (.Call (.Name "list" p) [a] [] pos) (eA fListO (aCons ta aNil)) :=
  let ⟨_, pa, ea⟩ := da_cons ha da_nil hs
  ⟨_, pe_callTy call_list_of hg hm (by decide +kernel) pa (by decide) (by decide) hs hpl, ev_cb r_listO ea⟩
theorem de_tupOf {p : Pos} (hm : X.mg "tuple" = none) (ha : DE X G a ta) (hg : Gl X "tuple" := by rfl) (hs : starEach [a] X.env = (false, eval a X.env) :: starEach [] X.env := by rfl) (hpl : (backTo pos (starEach [] X.env)).any (·.1) = false := by rfl) :
    DE X G (.Call (.Name "tuple" p) [a] [] pos) (eA fTupOf (aCons ta aNil)) :=
  let ⟨_, pa, ea⟩ := da_cons ha da_nil hs
  ⟨_, pe_callTy call_tuple_of hg hm (by decide +kernel) pa (by decide) (by decide) hs hpl, ev_cb r_tupOf ea⟩
@[simp] def fCatT : D → D → Sto → Option (D × Sto) := fun x y S => match x, y with | .tup xs, .tup ys => if xs.length + ys.length ≤ 1000000 then some (.tup (xs ++ ys), S) else none | _, _ => none
theorem den_tup {w : Wd} {n : Nat} {v : V} {ds : List D} (h : Den w n v (.tup ds)) : ∃ p vs, v = .ref p ∧ w.fr p = some (.tup vs) ∧ DenL w n vs ds := by
  cases h with
  | tup r l => exact ⟨_, _, rfl, r, l⟩
theorem den_lst {w : Wd} {n : Nat} {v : V} {ds : List D} (h : Den w n v (.lst ds)) : ∃ p vs, v = .ref p ∧ w.fr p = some (.lst vs) ∧ DenL w n vs ds := by
  cases h with
  | lst r l => exact ⟨_, _, rfl, r, l⟩
theorem DenL.nil_iff {w : Wd} {n : Nat} {vs : List V} {ds : List D} (h : DenL w n vs ds) : vs = [] ↔ ds = [] := by
  cases h <;> simp
theorem de_catT (ha : DE X G a ta) (hb : DE X G b tb) : DE X G (.BinOp a .Add b pos) (e2s fCatT ta tb) :=
  let ⟨_, pa, ea⟩ := ha; let ⟨_, pb, eb⟩ := hb
  ⟨_, pe_op op_catA pa pb, ev_2s (fun w ρ S σ H x y dx dy d S' Q s hx hy e q => by
    unfold fCatT at e
    split at e
    · rename_i xs ys
      split at e
      · rename_i hl
        cases e
        obtain ⟨p, vs, rfl, hp, l⟩ := den_tup hx
        obtain ⟨p', us, rfl, hp', l'⟩ := den_tup hy
        refine ⟨p, p', vs, us, rfl, rfl, .inl (.inl (s.core.sub _ _ hp)), .inl (.inl (s.core.sub _ _ hp')), by rw [l.len, l'.len]; exact le_line hl, fun h => ?_, fun h h' => ?_, fun h h' r hr => ?_⟩
        · have : xs = [] := l.nil_iff.mp h
          exact q w _ H s (Ext.refl ..) (by rw [this, List.nil_append]; exact .tup hp' l')
        · have : ys = [] := l'.nil_iff.mp h'
          exact q w _ H s (Ext.refl ..) (by rw [this, List.append_nil]; exact .tup hp l)
        · obtain ⟨s1, x1⟩ := s.newF (o := .tup (vs ++ us)) hr (.inl ⟨_, rfl⟩)
          exact q _ _ _ s1 x1 (den_newT (l.app l') (s.core.fresh hr))
      · cases e
    · cases e) ea eb⟩
/-- a list that stands in the heap by itself -/
@[simp] def lstD (d : D) (S : Sto) : Option (List D) := match d with
  | .lst xs => some xs
  | .obj k => match S[k]? with | some (.lst xs) => some xs | _ => none
  | _ => none
theorem lst_ok {w : Wd} {S : Sto} {H : Hp} (c : Core G w S H) {v : V} {d : D} {xs : List D} (h : Den w S.length v d) (e : lstD d S = some xs) : ∃ p vs, v = .ref p ∧ H p = some (.lst vs) ∧ DenL w S.length vs xs := by
  cases h with
  | non => simp [lstD] at e
  | bl b => simp [lstD] at e
  | int b => simp [lstD] at e
  | str x => simp [lstD] at e
  | tup r l => simp [lstD] at e
  | lst r l => simp only [lstD] at e; cases e; exact ⟨_, _, rfl, c.sub _ _ r, l⟩
  | scr r l => simp [lstD] at e
  | obj hk =>
    simp only [lstD] at e
    split at e
    · rename_i ys hx
      cases e
      obtain ⟨_, _, vs, hv, l⟩ := c.cel _ _ hx
      exact ⟨_, _, rfl, hv, l⟩
    · cases e
@[simp] def fCatL (mk : List D → Sto → Option (D × Sto)) : D → D → Sto → Option (D × Sto) := fun x y S => match lstD x S, lstD y S with | some xs, some ys => mk (xs ++ ys) S | _, _ => none
theorem r_catL {mk : List D → Sto → Option (D × Sto)} (hn : ∀ {w : Wd} {ρ : En} {S S' : Sto} {σ : L2.St} {H : Hp} {xs : List V} {ds : List D} {d : D} {Q : VK}, Sat G w ρ S σ H → DenL w S.length xs ds → mk ds S = some (d, S') →
      (∀ w' v H', Sat G w' ρ S' σ H' → Ext w S H w' S' H' → Den w' S'.length v d → Q v H') → xs.length ≤ sizeLine ∧ ∀ p, H p = none → Q (.ref p) (upd H p (.lst xs))) : R2New G rCat (fCatL mk) := fun w ρ S σ H x y dx dy d S' Q s hx hy e q => by
  unfold fCatL at e
  split at e
  · rename_i xs ys h1 h2
    obtain ⟨p, vs, rfl, hp, l⟩ := lst_ok s.core hx h1
    obtain ⟨p', us, rfl, hp', l'⟩ := lst_ok s.core hy h2
    obtain ⟨g1, g2⟩ := hn s (l.app l') e q
    exact ⟨p, p', vs, us, rfl, rfl, hp, hp', by rw [← List.length_append]; exact g1, g2⟩
  · cases e
theorem de_catL (ha : DE X G a ta) (hb : DE X G b tb) : DE X G (.BinOp a .Add b pos) (e2s (fCatL fLst) ta tb) :=
  let ⟨_, pa, ea⟩ := ha; let ⟨_, pb, eb⟩ := hb
  ⟨_, pe_op op_cat pa pb, ev_2s (r_catL fun s hd e q => new_lst s hd e q) ea eb⟩
theorem de_catO (ha : DE X G a ta) (hb : DE X G b tb) : DE X G (.BinOp a .Add b pos) (e2s (fCatL fObj) ta tb) :=
  let ⟨_, pa, ea⟩ := ha; let ⟨_, pb, eb⟩ := hb
  ⟨_, pe_op op_cat pa pb, ev_2s (r_catL fun s hd e q => new_obj s hd e q) ea eb⟩
@[simp] def fRepL (mk : List D → Sto → Option (D × Sto)) : D → D → Sto → Option (D × Sto) := fun x y S => match y with
  | .int k => (match lstD x S with | some xs => if -(2 ^ 63) ≤ k ∧ k < 2 ^ 63 ∧ xs.length * k.toNat ≤ 1000000 then mk (List.replicate k.toNat xs).flatten S else none | none => none)
  | _ => none
theorem r_repL {mk : List D → Sto → Option (D × Sto)} (hn : ∀ {w : Wd} {ρ : En} {S S' : Sto} {σ : L2.St} {H : Hp} {xs : List V} {ds : List D} {d : D} {Q : VK}, Sat G w ρ S σ H → DenL w S.length xs ds → mk ds S = some (d, S') →
      (∀ w' v H', Sat G w' ρ S' σ H' → Ext w S H w' S' H' → Den w' S'.length v d → Q v H') → xs.length ≤ sizeLine ∧ ∀ p, H p = none → Q (.ref p) (upd H p (.lst xs))) : R2New G rRep (fRepL mk) := fun w ρ S σ H x y dx dy d S' Q s hx hy e q => by
  unfold fRepL at e
  split at e
  · rename_i k
    split at e
    · rename_i xs h1
      split at e
      · rename_i hc
        obtain ⟨p, vs, rfl, hp, l⟩ := lst_ok s.core hx h1
        obtain ⟨g1, g2⟩ := hn s (l.rep k.toNat) e q
        exact ⟨p, k, vs, rfl, den_int hy, hp, hc.1, hc.2.1, by rw [l.len]; exact le_line hc.2.2, g2⟩
      · cases e
    · cases e
  · cases e
theorem de_repL (ha : DE X G a ta) (hb : DE X G b tb) : DE X G (.BinOp a .Mult b pos) (e2s (fRepL fLst) ta tb) :=
  let ⟨_, pa, ea⟩ := ha; let ⟨_, pb, eb⟩ := hb
  ⟨_, pe_op op_rep pa pb, ev_2s (r_repL fun s hd e q => new_lst s hd e q) ea eb⟩
theorem de_repO (ha : DE X G a ta) (hb : DE X G b tb) : DE X G (.BinOp a .Mult b pos) (e2s (fRepL fObj) ta tb) :=
  let ⟨_, pa, ea⟩ := ha; let ⟨_, pb, eb⟩ := hb
  ⟨_, pe_op op_rep pa pb, ev_2s (r_repL fun s hd e q => new_obj s hd e q) ea eb⟩
end
end DL

set_option maxRecDepth 100000
set_option maxHeartbeats 4000000
set_option pp.maxSteps 900
namespace DL
open PySem PySem.Spec PyProof.Rows L2 GX
open AutoSeq1 (wpAny_loadPart')
theorem tuple_mul1 (l : Addr) (items : Array Value) (n : Nat) (dd : Option Addr) (sl : Array (Option Value)) (u : Tok) :
    Meets (Builtin.«tuple.__mul__» ⟨[.ref l, .int 1 u], []⟩) (fun _ R s => s.heap.get? l = some { cls := .type "tuple", dict := dd, data := .seq items n, slots := sl } ∧ R (.ok (.ret (Value.ref l))) s) :=
  .of_wp fun prog w A R s h => by
    obtain ⟨hp, g, d, tk, os⟩ := s
    obtain ⟨hl, h⟩ := h
    have f1 := AutoSeq1.idx_int
    wp_walk using wpAny_loadPart' hl
    exact ⟨_, rfl, h⟩
def rRep1 (K : PySem.W.Frag) : R2 := fun x y H Q => ∃ l xs, x = .ref l ∧ y = .int 1 ∧ SqT K H l xs ∧ Q (.ref l) H
section
variable {G : Gc} {X : Cx} {pos : Pos} {a b : Expr} {ta tb : RE}
theorem op_repT1 : OpR X (binaryOp .Mult) (rRep1 X.K) := by
  intro pins s σ H x y v u Q I rx ry h
  obtain ⟨l, xs, rfl, rfl, hT, q⟩ := h
  cases rx
  obtain ⟨t, rfl⟩ := ry
  obtain ⟨its, r, ⟨⟨cls, dd, data, sl⟩, ho, hc, n, hd⟩, hs⟩ := I.tuple hT
  simp only at hc hd
  subst hc hd
  refine wpAny_binaryOp_repeat_ref (T := "tuple") (U := "int") (by decide) ⟨_, ho, rfl⟩ (fun s' => typeIs_int s' 1 t) noFill_tuple_mul F.fills_int_mul F.slot_int_rmul repeat_tuple F.slot_int_index.lookup
    (call_meets F.slot_int_rmul (typeIs_int s 1 t) F.entry_int_rmul (F.args_int_rmul_2 _ _) (int_rmul_tuple 1 t l its.toArray n dd sl)
      ⟨ho, rfl, ⟨_, ho, rfl⟩, call_meets F.slot_tuple_mul ⟨_, ho, rfl⟩ F.entry_tuple_mul (F.args_tuple_mul_2 _ _) (tuple_mul1 l its.toArray n dd sl t) ⟨ho, ?_⟩⟩)
  exact ⟨.ref l, H, I, rfl, q⟩
@[simp] def fRepT : D → D → Sto → Option (D × Sto) := fun x y S => match x, y with
  | .tup xs, .int k => if xs ≠ [] ∧ 1 ≤ k ∧ k ≤ 1000 ∧ xs.length ≤ 1000 then some (.tup (List.replicate k.toNat xs).flatten, S) else none
  | _, _ => none
theorem de_repT (ha : DE X G a ta) (hb : DE X G b tb) : DE X G (.BinOp a .Mult b pos) (e2s fRepT ta tb) :=
  let ⟨_, pa, ea⟩ := ha; let ⟨_, pb, eb⟩ := hb
  ⟨_, pe_op (r := fun x y H Q => rRep1 X.K x y H Q ∨ rRepT X.K x y H Q) (fun pins s σ H x y v u Q I r1 r2 h => h.elim (op_repT1 pins s σ H x y v u Q I r1 r2) (op_repT pins s σ H x y v u Q I r1 r2)) pa pb, ev_2s (fun w ρ S σ H x y dx dy d S' Q s hx hy e q => by
    unfold fRepT at e
    split at e
    · rename_i xs k
      split at e
      · rename_i hc
        obtain ⟨h1, h2, h3, h4⟩ := hc
        cases e
        obtain ⟨p, vs, rfl, hp, l⟩ := den_tup hx
        cases den_int hy
        by_cases hk : k = 1
        · subst hk
          refine .inl ⟨p, vs, rfl, rfl, .inl (.inl (s.core.sub _ _ hp)), q w _ H s (Ext.refl ..) ?_⟩
          have : (List.replicate (1 : Int).toNat xs).flatten = xs := by simp
          rw [this]
          exact .tup hp l
        · refine .inr ⟨p, k, vs, rfl, rfl, .inl (.inl (s.core.sub _ _ hp)), fun z => h1 (l.nil_iff.mp z), by omega, h3, by rw [l.len]; exact h4, fun r hr => ?_⟩
          obtain ⟨s1, x1⟩ := s.newF (o := .tup (List.replicate k.toNat vs).flatten) hr (.inl ⟨_, rfl⟩)
          exact q _ _ _ s1 x1 (den_newT (l.rep k.toNat) (s.core.fresh hr))
      · cases e
    · cases e) ea eb⟩
end
end DL

set_option maxRecDepth 100000
set_option maxHeartbeats 4000000
set_option pp.maxSteps 900
namespace DL
open PySem PySem.Spec PyProof.Rows L2 GX

def Post (G : Gc) (w : Wd) (S : Sto) (H : Hp) (D : Ends) : Out → Prop
  | .nx ρ' S' => ∀ w' σ' H', Sat G w' ρ' S' σ' H' → Ext w S H w' S' H' → D.nx σ' H'
  | .bk ρ' S' => ∀ w' σ' H', Sat G w' ρ' S' σ' H' → Ext w S H w' S' H' → D.bk σ' H'
  | .ct ρ' S' => ∀ w' σ' H', Sat G w' ρ' S' σ' H' → Ext w S H w' S' H' → D.ct σ' H'
  | .rt d S' => ∀ w' v H', Core G w' S' H' → Ext w S H w' S' H' → Den w' S'.length v d → D.rt v H'
def EvS (G : Gc) (ts : TS) (t : RS) : Prop := ∀ (ρ : En) (S : Sto) (o : Out), t ρ S = some o → ∀ (w : Wd) (σ : L2.St) (H : Hp), Sat G w ρ S σ H → ∀ D : Ends, Post G w S H D o → ts D σ H
def DS (X : Cx) (G : Gc) (st : Stmt) (t : RS) : Prop := ∃ ts, PS X st ts ∧ EvS G ts t
def DSs (X : Cx) (G : Gc) (sts : List Stmt) (t : RS) : Prop := ∃ ts, PSs X sts ts ∧ EvS G ts t
abbrev RG := D → En → Sto → Option (En × Sto)
def EvG (G : Gc) (g : TG) (t : RG) : Prop := ∀ (d : D) (ρ : En) (S : Sto) (ρ' : En) (S' : Sto), t d ρ S = some (ρ', S') → ∀ (w : Wd) (σ : L2.St) (H : Hp) (v : V), Sat G w ρ S σ H → Den w S.length v d → ∀ Q : L2.St → Hp → Prop,
  (∀ w' σ' H', Sat G w' ρ' S' σ' H' → Ext w S H w' S' H' → Q σ' H') → g v σ H Q
def DG (X : Cx) (G : Gc) (tg : Expr) (t : RG) : Prop := ∃ g, PG X tg g ∧ EvG G g t
abbrev RGs := List D → En → Sto → Option (En × Sto)
def EvGs (G : Gc) (g : TGs) (t : RGs) : Prop := ∀ (ds : List D) (ρ : En) (S : Sto) (ρ' : En) (S' : Sto), t ds ρ S = some (ρ', S') → ∀ (w : Wd) (σ : L2.St) (H : Hp) (vs : List V), Sat G w ρ S σ H → DenL w S.length vs ds → ∀ Q : L2.St → Hp → Prop,
  (∀ w' σ' H', Sat G w' ρ' S' σ' H' → Ext w S H w' S' H' → Q σ' H') → g vs σ H Q
def DGs (X : Cx) (G : Gc) (tgs : List Expr) (t : RGs) : Prop := ∃ g, PGs X tgs g ∧ EvGs G g t
theorem Post.ext {G : Gc} {w w1 : Wd} {S S1 : Sto} {H H1 : Hp} {D : Ends} {o : Out} (x : Ext w S H w1 S1 H1) (p : Post G w S H D o) : Post G w1 S1 H1 D o := by
  cases o with
  | nx ρ' S' => exact fun w' σ' H' s x' => p w' σ' H' s (x.trans x')
  | bk ρ' S' => exact fun w' σ' H' s x' => p w' σ' H' s (x.trans x')
  | ct ρ' S' => exact fun w' σ' H' s x' => p w' σ' H' s (x.trans x')
  | rt d S' => exact fun w' v H' s x' => p w' v H' s (x.trans x')
theorem Sat.set {G : Gc} {w : Wd} {ρ : En} {S : Sto} {σ : L2.St} {H : Hp} {v : V} {d : D} (s : Sat G w ρ S σ H) (hd : Den w S.length v d) (i : Nat) : Sat G w (ρ.set i (some d)) S (σ.set i (some v)) H := by
  refine ⟨s.core, fun j e h => ?_, by rw [List.length_set, List.length_set]; exact s.len, s.code⟩
  by_cases hj : i = j
  · subst hj
    have hl : i < ρ.length := by
      have := (List.getElem?_eq_some_iff.mp h).1
      rwa [List.length_set] at this
    rw [List.getElem?_set_self hl] at h
    cases h
    exact ⟨v, List.getElem?_set_self (by rw [← s.len]; exact hl), hd⟩
  · rw [List.getElem?_set_ne hj] at h
    obtain ⟨u, h1, h2⟩ := s.env j e h
    exact ⟨u, by rw [List.getElem?_set_ne hj]; exact h1, h2⟩

/-! ### what is computed -/
@[simp] def sPass : RS := fun ρ S => some (.nx ρ S)
@[simp] def sBreak : RS := fun ρ S => some (.bk ρ S)
@[simp] def sCont : RS := fun ρ S => some (.ct ρ S)
@[simp] def sSeq (a b : RS) : RS := fun ρ S => match a ρ S with | some (.nx ρ1 S1) => b ρ1 S1 | o => o
@[simp] def sSet (i : Nat) (e : RE) : RS := fun ρ S => match e ρ S with | some (d, S1) => some (.nx (ρ.set i (some d)) S1) | none => none
@[simp] def sExpr (e : RE) : RS := fun ρ S => match e ρ S with | some (_, S1) => some (.nx ρ S1) | none => none
@[simp] def sRet (e : RE) : RS := fun ρ S => match e ρ S with | some (d, S1) => some (.rt d S1) | none => none
@[simp] def sRetN : RS := fun _ S => some (.rt .non S)
@[simp] def sIf (c : RT) (a b : RS) : RS := fun ρ S => match c ρ S with | some (true, S1) => a ρ S1 | some (false, S1) => b ρ S1 | none => none
@[simp] def sAsg (e : RE) (g : RG) : RS := fun ρ S => match e ρ S with
  | some (d, S1) => (match g d ρ S1 with | some (ρ2, S2) => some (.nx ρ2 S2) | none => none)
  | none => none
@[simp] def sPar (i j : Nat) (a : RA) : RS := fun ρ S => match a ρ S with | some ([d, e], S1) => some (.nx ((ρ.set i (some d)).set j (some e)) S1) | _ => none
def sNever : RS := fun _ _ => none
@[simp] def gNm (i : Nat) : RG := fun d ρ S => some (ρ.set i (some d), S)
@[simp] def gsNil : RGs := fun ds ρ S => match ds with | [] => some (ρ, S) | _ => none
@[simp] def gsCons (g : RG) (r : RGs) : RGs := fun ds ρ S => match ds with
  | d :: rest => (match g d ρ S with | some (ρ1, S1) => r rest ρ1 S1 | none => none)
  | [] => none
@[simp] def gTp (n : Nat) (g : RGs) : RG := fun d ρ S => match d with | .tup ds => if ds.length = n then g ds ρ S else none | .lst ds => if ds.length = n then g ds ρ S else none | _ => none
/-- x[i] = v, a list of the store -/
@[simp] def gIx (o i : RE) : RG := fun d ρ S => match o ρ S with
  | some (.obj k, S1) => (match i ρ S1 with
    | some (.int z, S2) => (match S2[k]? with
      | some (.lst xs) => (match ixN xs.length z with | some j => some (ρ, S2.set k (.lst (xs.set j d))) | none => none)
      | _ => none)
    | _ => none)
  | _ => none
/-- loops -/
def whileL (c : RT) (b : RS) : Nat → En → Sto → Option Out
  | 0, _, _ => none
  | n + 1, ρ, S => match c ρ S with
    | some (true, S1) => (match b ρ S1 with
      | some (.nx ρ2 S2) => whileL c b n ρ2 S2
      | some (.ct ρ2 S2) => whileL c b n ρ2 S2
      | some (.bk ρ2 S2) => some (.nx ρ2 S2)
      | o => o)
    | some (false, S1) => some (.nx ρ S1)
    | none => none
@[simp] def sWhile (n : En → Sto → Nat) (c : RT) (b : RS) : RS := fun ρ S => whileL c b (n ρ S) ρ S
section
variable {G : Gc} {X : Cx} {pos : Pos} {e a b c : Expr} {es : List Expr} {te ta tb : RE} {ra : RA} {st : Stmt} {sts sts2 : List Stmt} {t u : RS} {tt : RT}
theorem ds_pass : DS X G (.Pass pos) sPass := ⟨_, ps_pass, fun ρ S o e w σ H s D p => by cases e; exact p w σ H s (Ext.refl ..)⟩
theorem ds_break : DS X G (.Break pos) sBreak := ⟨_, ps_break, fun ρ S o e w σ H s D p => by cases e; exact p w σ H s (Ext.refl ..)⟩
theorem ds_cont : DS X G (.Continue pos) sCont := ⟨_, ps_continue, fun ρ S o e w σ H s D p => by cases e; exact p w σ H s (Ext.refl ..)⟩
theorem ds_never : DS X G st sNever := ⟨_, ps_never, fun ρ S o e w σ H s D p => by cases e⟩
theorem dss_never : DSs X G sts sNever := ⟨_, pss_never, fun ρ S o e w σ H s D p => by cases e⟩
theorem dss_nil : DSs X G [] sPass := ⟨_, pss_nil, fun ρ S o e w σ H s D p => by cases e; exact p w σ H s (Ext.refl ..)⟩
theorem dss_one (h : DS X G st t) : DSs X G [st] t := let ⟨_, p, q⟩ := h; ⟨_, pss_one p, q⟩
theorem dss_cons (h : DS X G st t) (h2 : DSs X G sts u) : DSs X G (st :: sts) (sSeq t u) :=
  let ⟨_, pa, ea⟩ := h; let ⟨_, pb, eb⟩ := h2
  ⟨_, pss_cons pa pb, fun ρ S o e w σ H s D p => by
    unfold sSeq at e
    split at e
    · rename_i ρ1 S1 h1
      exact ea ρ S _ h1 w σ H s _ fun w1 σ1 H1 s1 x1 => eb ρ1 S1 o e w1 σ1 H1 s1 D (p.ext x1)
    · rename_i hno
      refine ea ρ S o e w σ H s _ ?_
      cases o with
      | nx ρ' S' => exact absurd e (hno ρ' S')
      | bk _ _ => exact p
      | ct _ _ => exact p
      | rt _ _ => exact p⟩
theorem ds_expr (h : DE X G e te) (hs : swapsWith e none pos.line X.env = pure false := by rfl) : DS X G (.Expr e pos) (sExpr te) :=
  let ⟨_, pa, ea⟩ := h
  ⟨_, ps_expr pa hs, fun ρ S o e w σ H s D p => by
    unfold sExpr at e
    split at e
    · rename_i d S1 h1
      cases e
      exact ea ρ S d S1 h1 w σ H s _ fun w1 v H1 s1 x1 _ => p w1 σ H1 s1 x1
    · cases e⟩
theorem ds_doc {x : Str} {j : Nat} {pos' : Pos} : DS X G (.Expr (.Constant (.str x) j pos) pos') sPass := ⟨_, ps_doc, fun ρ S o e w σ H s D p => by cases e; exact p w σ H s (Ext.refl ..)⟩
theorem ds_ret (h : DE X G e te) : DS X G (.Return (some e) pos) (sRet te) :=
  let ⟨_, pa, ea⟩ := h
  ⟨_, ps_ret pa, fun ρ S o e w σ H s D p => by
    unfold sRet at e
    split at e
    · rename_i d S1 h1
      cases e
      exact ea ρ S d S1 h1 w σ H s _ fun w1 v H1 s1 x1 d1 => p w1 v H1 s1.core x1 d1
    · cases e⟩
theorem ds_retN : DS X G (.Return none pos) sRetN := ⟨_, ps_retN, fun ρ S o e w σ H s D p => by cases e; exact p w _ H s.core (Ext.refl ..) .non⟩
theorem ds_if (hc : DT X G c tt) (ha : DSs X G sts t) (hb : DSs X G sts2 u) : DS X G (.If c sts sts2 pos) (sIf tt t u) :=
  let ⟨_, pc, ec⟩ := hc; let ⟨_, pa, ea⟩ := ha; let ⟨_, pb, eb⟩ := hb
  ⟨_, ps_if pc pa pb, fun ρ S o e w σ H s D p => by
    unfold sIf at e
    split at e
    · rename_i S1 h1
      exact ec ρ S _ _ h1 w σ H s _ fun w1 H1 s1 x1 => iteT (ea ρ S1 o e w1 σ H1 s1 D (p.ext x1))
    · rename_i S1 h1
      exact ec ρ S _ _ h1 w σ H s _ fun w1 H1 s1 x1 => iteF (eb ρ S1 o e w1 σ H1 s1 D (p.ext x1))
    · cases e⟩
theorem dg_name {i : Nat} {x : Str} (hN : X.N.Nodup) (hi : X.N[i]? = some x) (hx : Loc X.env.scope x) (hf : X.fn x = true ∨ X.env.scope.names.lookup x = some .local) : DG X G (.Name x pos) (gNm i) :=
  ⟨_, pg_name hN hi hx hf, fun d ρ S ρ' S' e w σ H v s hd Q q => by
    unfold gNm at e
    cases e
    exact q w _ H (s.set hd i) (Ext.refl ..)⟩
theorem dgs_nil : DGs X G [] gsNil := ⟨_, pgs_nil, fun ds ρ S ρ' S' e w σ H vs s hd Q q => by
  unfold gsNil at e
  split at e
  · cases e; cases hd; exact ⟨rfl, q w σ H s (Ext.refl ..)⟩
  · cases e⟩
theorem dgs_cons {t1 : RG} {t2 : RGs} (h : DG X G e t1) (h2 : DGs X G es t2) (hs : (assignEach (e :: es) X.env).map (·.2) = assign e X.env :: (assignEach es X.env).map (·.2) := by rfl) : DGs X G (e :: es) (gsCons t1 t2) :=
  let ⟨_, pa, ea⟩ := h; let ⟨_, pb, eb⟩ := h2
  ⟨_, pgs_cons pa pb hs, fun ds ρ S ρ' S' e w σ H vs s hd Q q => by
    unfold gsCons at e
    split at e
    · rename_i d rest
      cases hd with
      | cons hv hr =>
        split at e
        · rename_i ρ1 S1 h1
          exact ⟨_, _, rfl, ea d ρ S ρ1 S1 h1 w σ H _ s hv _ fun w1 σ1 H1 s1 x1 => eb rest ρ1 S1 ρ' S' e w1 σ1 H1 _ s1 (hr.ext x1) Q fun w2 σ2 H2 s2 x2 => q w2 σ2 H2 s2 (x1.trans x2)⟩
        · cases e
    · cases e⟩
/-- a, b, .. = a tuple or a list of that length -/
def gTup2 (K : PySem.W.Frag) (n : Nat) (t : TGs) : TG := fun v σ H Q => gTup K n t v σ H Q ∨ gLst K n t v σ H Q
theorem pg_tup2 {X : Cx} {pos : Pos} {es : List Expr} {k : Nat} {t : TGs} {n : Nat} (hc : X.calm = true) (h : PGs X es t)
    (hn : (assignEach es X.env).length = n := by rfl) (hst : (assignEach es X.env).findIdx? (·.1) = none := by rfl) : PG X (.Tuple es k pos) (gTup2 X.K n t) :=
  ⟨fun pins s σ H v u Q I r hw => hw.elim (fun h1 => (pg_tup hc h hn hst).run pins s σ H v u Q I r h1) fun h1 => (pg_lst hc h hn hst).run pins s σ H v u Q I r h1⟩
theorem dg_tup {k n : Nat} {t1 : RGs} (hc : X.calm = true) (h : DGs X G es t1) (hn : (assignEach es X.env).length = n := by rfl) (hst : (assignEach es X.env).findIdx? (·.1) = none := by rfl) : DG X G (.Tuple es k pos) (gTp n t1) :=
  let ⟨_, pa, ea⟩ := h
  ⟨_, pg_tup2 hc pa hn hst, fun d ρ S ρ' S' e w σ H v s hd Q q => by
    unfold gTp at e
    split at e
    · rename_i ds
      split at e
      · rename_i hl
        obtain ⟨p, vs, rfl, hp, l⟩ := den_tup hd
        exact .inl ⟨p, vs, rfl, .inl (.inl (s.core.sub _ _ hp)), by rw [l.len]; exact hl, ea ds ρ S ρ' S' e w σ H vs s l Q q⟩
      · cases e
    · rename_i ds
      split at e
      · rename_i hl
        obtain ⟨p, vs, rfl, hp, l⟩ := den_lst hd
        exact .inr ⟨p, vs, rfl, .inl (.inl (s.core.sub _ _ hp)), by rw [l.len]; exact hl, ea ds ρ S ρ' S' e w σ H vs s l Q q⟩
      · cases e
    · cases e⟩
theorem dg_ix (ho : DE X G a ta) (hi : DE X G b tb)
    (hs : ∀ v, assign (.Subscript a b pos) X.env v = (do
      let ov ← holding [v] (eval a X.env)
      let iv ← holding [v, ov] (eval b X.env)
      standAt pos
      holding [v, ov, iv] (setItem ov iv v)
      release [v, ov, iv] []) := by intro _; rfl) : DG X G (.Subscript a b pos) (gIx ta tb) :=
  let ⟨_, pa, ea⟩ := ho; let ⟨_, pb, eb⟩ := hi
  ⟨_, pg_sub pa pb set_list hs, fun d ρ S ρ' S' e w σ H v s hd Q q => by
    unfold gIx at e
    split at e
    · rename_i k S1 h1
      split at e
      · rename_i z S2 h2
        split at e
        · rename_i xs h3
          split at e
          · rename_i j h4
            cases e
            refine ea ρ S _ _ h1 w σ H s _ fun w1 o H1 s1 x1 d1 => eb ρ S1 _ _ h2 w1 σ H1 s1 _ fun w2 iv H2 s2 x2 d2 => ?_
            have d1' := d1.ext x2
            obtain ⟨_, _, vs, hv, l⟩ := s2.core.cel _ _ h3
            have hdv := hd.ext (x1.trans x2)
            cases d1' with
            | obj hk =>
              refine ⟨_, vs, z, j, rfl, den_int d2, hv, by rw [l.len]; exact h4, ?_⟩
              obtain ⟨c3, x3⟩ := s2.core.setL h3 (l.set hdv j)
              exact q w2 σ _ (s2.ofCore c3 x3) ((x1.trans x2).trans x3)
          · cases e
        · cases e
      · cases e
    · cases e⟩
theorem ds_asg {tg : Expr} {g : RG} (he : DE X G e te) (hg : DG X G tg g) (hs : swapsWithSole [tg] e pos.line X.env = pure false := by rfl) (hw : swappedStores [tg] e X.env = pure none := by rfl)
    (h1 : (assignEach [tg] X.env).map (·.2) = [assign tg X.env] := by rfl) : DS X G (.Assign [tg] e pos) (sAsg te g) :=
  let ⟨_, pa, ea⟩ := he; let ⟨_, pb, eb⟩ := hg
  ⟨_, ps_asg pa pb hs hw h1, fun ρ S o e w σ H s D p => by
    unfold sAsg at e
    split at e
    · rename_i d S1 h1
      split at e
      · rename_i ρ2 S2 h2
        cases e
        exact ea ρ S d S1 h1 w σ H s _ fun w1 v H1 s1 x1 d1 => eb d ρ S1 ρ2 S2 h2 w1 σ H1 v s1 d1 _ fun w2 σ2 H2 s2 x2 => p w2 σ2 H2 s2 (x1.trans x2)
      · cases e
    · cases e⟩
theorem ds_set {i : Nat} {x : Str} {pos' : Pos} (hN : X.N.Nodup) (hi : X.N[i]? = some x) (hx : Loc X.env.scope x) (he : DE X G e te) (hs : swapsWith e (some (.Name x pos')) pos.line X.env = pure false) (hf : X.fn x = true ∨ X.env.scope.names.lookup x = some .local) :
    DS X G (.Assign [.Name x pos'] e pos) (sSet i te) :=
  let ⟨_, pa, ea⟩ := he
  ⟨_, ps_set hN hi hx pa hs hf, fun ρ S o e w σ H s D p => by
    unfold sSet at e
    split at e
    · rename_i d S1 h1
      cases e
      exact ea ρ S d S1 h1 w σ H s _ fun w1 v H1 s1 x1 d1 => p w1 _ H1 (s1.set d1 i) x1
    · cases e⟩
theorem ds_par {i j : Nat} {x y : Str} {px py pt : Pos} {kt k2 : Nat} {pt2 : Pos} (hc : X.calm = true) (hN : X.N.Nodup) (hi : X.N[i]? = some x) (hj : X.N[j]? = some y) (hij : i ≠ j)
    (hx : X.env.scope.names.lookup x = some .local) (hy : X.env.scope.names.lookup y = some .local) (ha : DA X G [a, b] ra)
    (hw : swappedStores [.Tuple [.Name x px, .Name y py] kt pt] (.Tuple [a, b] k2 pt2) X.env = pure (some [x, y]))
    (hs : swapsWithSole [.Tuple [.Name x px, .Name y py] kt pt] (.Tuple [a, b] k2 pt2) pos.line X.env = pure false := by rfl) :
    DS X G (.Assign [.Tuple [.Name x px, .Name y py] kt pt] (.Tuple [a, b] k2 pt2) pos) (sPar i j ra) :=
  let ⟨_, pa, ea⟩ := ha
  ⟨_, ps_par hc hN hi hj hij hx hy pa hw hs, fun ρ S o e w σ H s D p => by
    unfold sPar at e
    split at e
    · rename_i d d2 S1 h1
      cases e
      refine ea ρ S _ _ h1 w σ H s _ fun w1 vs H1 s1 x1 d1 => ?_
      obtain ⟨v, u, rfl, hv, hu⟩ := denL2 d1
      exact ⟨v, u, rfl, p w1 _ H1 ((s1.set hv i).set hu j) x1⟩
    · cases e⟩
theorem ds_while {n : En → Sto → Nat} (hp : PassesOwn (model X.prog X.w) X.A X.env X.xe) (hc : DT X G c tt) (hb : DSs X G sts t) : DS X G (.While c sts [] pos) (sWhile n tt t) :=
  let ⟨_, pc, ec⟩ := hc; let ⟨_, pb, eb⟩ := hb
  ⟨_, ps_while hp pc pb, fun ρ0 S0 o e w0 σ0 H0 s0 D p => by
    unfold sWhile at e
    refine ⟨fun m σ H => ∃ w ρ S, Sat G w ρ S σ H ∧ Ext w0 S0 H0 w S H ∧ whileL tt t m ρ S = some o, ⟨n ρ0 S0, w0, ρ0, S0, s0, Ext.refl .., e⟩, fun m σ H ⟨w, ρ, S, s, x, e⟩ => ?_⟩
    cases m with
    | zero => unfold whileL at e; cases e
    | succ m =>
      unfold whileL at e
      split at e
      · rename_i S1 h1
        refine ec ρ S _ _ h1 w σ H s _ fun w1 H1 s1 x1 => iteT ⟨fun σ' H' => ∃ w ρ S, Sat G w ρ S σ' H' ∧ Ext w0 S0 H0 w S H' ∧ whileL tt t m ρ S = some o, fun σ' H' ⟨w', ρ', S', q1, q2, q3⟩ => ⟨m, Nat.lt_succ_self m, w', ρ', S', q1, q2, q3⟩, ?_⟩
        split at e
        · rename_i ρ2 S2 h2
          exact eb ρ S1 _ h2 w1 σ H1 s1 _ fun w2 σ2 H2 s2 x2 => ⟨w2, ρ2, S2, s2, (x.trans x1).trans x2, e⟩
        · rename_i ρ2 S2 h2
          exact eb ρ S1 _ h2 w1 σ H1 s1 _ fun w2 σ2 H2 s2 x2 => ⟨w2, ρ2, S2, s2, (x.trans x1).trans x2, e⟩
        · rename_i ρ2 S2 h2
          cases e
          exact eb ρ S1 _ h2 w1 σ H1 s1 _ fun w2 σ2 H2 s2 x2 => p w2 σ2 H2 s2 ((x.trans x1).trans x2)
        · rename_i h2 h3 h4
          refine eb ρ S1 o e w1 σ H1 s1 _ ?_
          cases o with
          | nx ρ' S' => exact absurd e (h2 ρ' S')
          | bk ρ' S' => exact absurd e (h4 ρ' S')
          | ct ρ' S' => exact absurd e (h3 ρ' S')
          | rt d S' => exact p.ext (x.trans x1)
      · rename_i S1 h1
        cases e
        exact ec ρ S _ _ h1 w σ H s _ fun w1 H1 s1 x1 => iteF (p w1 σ H1 s1 (x.trans x1))
      · cases e⟩
end
end DL

set_option maxRecDepth 100000
set_option maxHeartbeats 4000000
set_option pp.maxSteps 900
namespace DL
open PySem PySem.Spec PyProof.Rows L2 GX
open Classical

abbrev RI := En → Sto → Option (List D × (Sto → Prop) × Sto)
/-- what is walked hands out ds -/
def JD (G : Gc) (J : It) (ds : List D) (w : Wd) (n : Nat) (chk : Sto → Prop) : Prop := ∀ (i : Nat) (w1 : Wd) (S1 : Sto) (H1 : Hp), Core G w1 S1 H1 → (∀ a o, w.fr a = some o → w1.fr a = some o) → (∀ k, k < n → w1.al k = w.al k) → n ≤ S1.length → chk S1 →
  (i = ds.length → J.stop i H1) ∧ ∀ d, ds[i]? = some d → J.go i H1 ∧ ∀ x H2, J.yld i H1 x H2 → ∃ w2, Core G w2 S1 H2 ∧ Ext w1 S1 H1 w2 S1 H2 ∧ Den w2 S1.length x d
def EvI (G : Gc) (wi : TI) (t : RI) : Prop := ∀ (ρ : En) (S : Sto) (ds : List D) (chk : Sto → Prop) (S' : Sto), t ρ S = some (ds, chk, S') → ∀ (w : Wd) (σ : L2.St) (H : Hp), Sat G w ρ S σ H → ∀ R : It → Hp → Prop,
  (∀ J w' H', Sat G w' ρ S' σ H' → Ext w S H w' S' H' → JD G J ds w' S'.length chk → chk S' → R J H') → wi σ H R
def DI (X : Cx) (G : Gc) (tg iter : Expr) (t : RI) : Prop := ∃ wi, PI X tg iter wi ∧ EvI G wi t

noncomputable def forL (g : RG) (b : RS) (chk : Sto → Prop) : List D → En → Sto → Option Out
  | [], ρ, S => some (.nx ρ S)
  | d :: ds, ρ, S => match g d ρ S with
    | some (ρ1, S1) => (match b ρ1 S1 with
      | some (.nx ρ2 S2) => if chk S2 then forL g b chk ds ρ2 S2 else none
      | some (.ct ρ2 S2) => if chk S2 then forL g b chk ds ρ2 S2 else none
      | some (.bk ρ2 S2) => some (.nx ρ2 S2)
      | o => o)
    | none => none
@[simp] noncomputable def sFor (it : RI) (g : RG) (b : RS) : RS := fun ρ S => match it ρ S with | some (ds, chk, S1) => forL g b chk ds ρ S1 | none => none
theorem JD.next {G : Gc} {J : It} {ds : List D} {w0 w1 : Wd} {S0 S1 : Sto} {H0 H1 : Hp} {chk : Sto → Prop} (j : JD G J ds w0 S0.length chk) (x : Ext w0 S0 H0 w1 S1 H1) (c : Core G w1 S1 H1) (hc : chk S1) (i : Nat) :
    (i = ds.length → J.stop i H1) ∧ ∀ d, ds[i]? = some d → J.go i H1 ∧ ∀ x H2, J.yld i H1 x H2 → ∃ w2, Core G w2 S1 H2 ∧ Ext w1 S1 H1 w2 S1 H2 ∧ Den w2 S1.length x d := j i w1 S1 H1 c x.fr x.al x.sz hc
section
variable {G : Gc} {X : Cx} {pos : Pos} {e a b c tg iter : Expr} {es : List Expr} {te ta tb : RE} {ra : RA} {st : Stmt} {sts sts2 : List Stmt} {t u : RS} {tt : RT} {g : RG} {ri : RI}
theorem ds_for (hp : PassesOwn (model X.prog X.w) X.A X.env X.xe) (hc : X.calm = true) (hs : ∀ x, foldedSetIterable iter X.env x = pure x) (hi : DI X G tg iter ri) (hg : DG X G tg g) (hb : DSs X G sts t) : DS X G (.For tg iter sts [] pos) (sFor ri g t) :=
  let ⟨_, pi, ei⟩ := hi; let ⟨_, pg, eg⟩ := hg; let ⟨_, pb, eb⟩ := hb
  ⟨_, ps_for hp hc pi pg pb (hs := hs), fun ρ0 S0 o e w0 σ0 H0 s0 D p => by
    unfold sFor at e
    split at e
    · rename_i ds chk S1 h1
      refine ei ρ0 S0 ds chk S1 h1 w0 σ0 H0 s0 _ fun J w1 H1 s1 x1 jd hck => ?_
      refine ⟨fun i m σ H => ∃ w ρ S, Sat G w ρ S σ H ∧ Ext w1 S1 H1 w S H ∧ chk S ∧ i + m = ds.length ∧ forL g t chk (ds.drop i) ρ S = some o, ⟨ds.length, w1, ρ0, S1, s1, Ext.refl .., hck, Nat.zero_add _, e⟩, fun i m σ H ⟨w, ρ, S, s, x, hc, hm, e⟩ => ?_⟩
      obtain ⟨hstop, hgo⟩ := jd.next x s.core hc i
      cases m with
      | zero =>
        have hi : i = ds.length := by omega
        rw [hi, List.drop_length] at e
        unfold forL at e
        cases e
        exact .inl ⟨hstop hi, p w σ H s (x1.trans x)⟩
      | succ m =>
        have hil : i < ds.length := by omega
        rw [List.drop_eq_getElem_cons hil] at e
        obtain ⟨go, hy⟩ := hgo ds[i] (List.getElem?_eq_getElem hil)
        unfold forL at e
        refine .inr ⟨go, fun σ' H' => ∃ w ρ S, Sat G w ρ S σ' H' ∧ Ext w1 S1 H1 w S H' ∧ chk S ∧ forL g t chk (ds.drop (i + 1)) ρ S = some o, fun σ' H' ⟨w', ρ', S', q1, q2, q3, q4⟩ => ⟨m, Nat.lt_succ_self m, w', ρ', S', q1, q2, q3, by omega, q4⟩, fun v H2 hyld => ?_⟩
        obtain ⟨w2, c2, x2, d2⟩ := hy v H2 hyld
        split at e
        · rename_i ρ1 S2 h2
          refine eg ds[i] ρ S ρ1 S2 h2 w2 σ H2 v (s.ofCore c2 x2) d2 _ fun w3 σ3 H3 s3 x3 => ?_
          split at e
          · rename_i ρ2 S3 h3
            split at e
            · rename_i hck3
              exact eb ρ1 S2 _ h3 w3 σ3 H3 s3 _ fun w4 σ4 H4 s4 x4 => ⟨w4, ρ2, S3, s4, ((x.trans x2).trans x3).trans x4, hck3, e⟩
            · cases e
          · rename_i ρ2 S3 h3
            split at e
            · rename_i hck3
              exact eb ρ1 S2 _ h3 w3 σ3 H3 s3 _ fun w4 σ4 H4 s4 x4 => ⟨w4, ρ2, S3, s4, ((x.trans x2).trans x3).trans x4, hck3, e⟩
            · cases e
          · rename_i ρ2 S3 h3
            cases e
            exact eb ρ1 S2 _ h3 w3 σ3 H3 s3 _ fun w4 σ4 H4 s4 x4 => p w4 σ4 H4 s4 (((x1.trans (x.trans x2)).trans x3).trans x4)
          · rename_i h3 h4 h5
            refine eb ρ1 S2 o e w3 σ3 H3 s3 _ ?_
            cases o with
            | nx ρ' S' => exact absurd e (h3 ρ' S')
            | bk ρ' S' => exact absurd e (h5 ρ' S')
            | ct ρ' S' => exact absurd e (h4 ρ' S')
            | rt d S' => exact p.ext ((x1.trans (x.trans x2)).trans x3)
        · cases e
    · cases e⟩

/-! ### what is walked: a sequence, a range -/
def iSeqT (K : PySem.W.Frag) (tl : TE) : TI := fun σ H R => tl σ H fun x H1 => ∃ a, x = .ref a ∧ (((∃ xs, SqL K H1 a xs) ∧ R (Itl K a) H1) ∨ ((∃ xs, SqT K H1 a xs) ∧ R (Itt K a) H1))
theorem pi_seqA {l : Expr} {tl : TE} (hl : PE X l tl) : PI X tg l (iSeqT X.K tl) := by
  refine ⟨fun pins s σ H R I h => ?_⟩
  refine thn (hl.run pins s σ H _ I h) fun v s1 ⟨x, H1, I1, r1, q1⟩ => ?_
  obtain ⟨a, e, q1⟩ := q1
  subst e
  cases r1
  rcases q1 with ⟨⟨xs, hq⟩, q⟩ | ⟨⟨xs, hq⟩, q⟩
  · obtain ⟨its, rv, p, hz⟩ := I1.list hq
    refine wpAny_pyIter_list p.isList ?_
    refine ⟨s1.heap.objs.size, [s1.heap.objs.size], _, _, H1, rfl, I1.kept (t' := s1.toks) fun b o e => Heap.get?_push_of_some _ e, turn_list a _, ⟨_, Heap.get?_push_size _ rfl, rfl, rfl⟩, fun b hb => ?_, q⟩
    have e : b = s1.heap.objs.size := by simpa using hb
    subst e
    exact I1.fpOk (Nat.le_refl _) (I1.hok.fresh (Nat.le_refl _))
  · obtain ⟨its, rv, p, hz⟩ := I1.tuple hq
    refine wpAny_pyIter_tuple (show s1.heap.IsTuple a its.toArray from p) ?_
    refine ⟨s1.heap.objs.size, [s1.heap.objs.size], _, _, H1, rfl, I1.kept (t' := s1.toks) fun b o e => Heap.get?_push_of_some _ e, turn_tuple a _, ⟨_, Heap.get?_push_size _ rfl, rfl, rfl⟩, fun b hb => ?_, q⟩
    have e : b = s1.heap.objs.size := by simpa using hb
    subst e
    exact I1.fpOk (Nat.le_refl _) (I1.hok.fresh (Nat.le_refl _))
/-- the list of the store is as it was -/
def chkD (d : D) (xs : List D) : Sto → Prop := fun S => seqD d S = some xs
@[simp] def iSeq (a : RE) : RI := fun ρ S => match a ρ S with
  | some (d, S1) => (match d with
    | .tup xs => some (xs, fun _ => True, S1)
    | .lst xs => some (xs, fun _ => True, S1)
    | .scr xs => some (xs, fun _ => True, S1)
    | .obj k => (match S1[k]? with | some (.lst xs) => some (xs, fun S => S[k]? = some (.lst xs), S1) | _ => none)
    | _ => none)
  | none => none
theorem jd_l {K : PySem.W.Frag} {w : Wd} {n : Nat} {a : Addr} {ds : List D} {chk : Sto → Prop}
    (h : ∀ (w1 : Wd) (S1 : Sto) (H1 : Hp), Core G w1 S1 H1 → (∀ a o, w.fr a = some o → w1.fr a = some o) → (∀ k, k < n → w1.al k = w.al k) → n ≤ S1.length → chk S1 → ∃ vs, SqL K H1 a vs ∧ DenL w1 S1.length vs ds) : JD G (Itl K a) ds w n chk := by
  intro i w1 S1 H1 c hf ha hn hk
  obtain ⟨vs, hq, l⟩ := h w1 S1 H1 c hf ha hn hk
  refine ⟨fun hi => ⟨vs, hq, by rw [l.len]; omega⟩, fun d hd => ?_⟩
  obtain ⟨v, hv, dv⟩ := l.get hd
  refine ⟨⟨vs, v, hq, hv⟩, fun x H2 ⟨e, hx⟩ => ?_⟩
  subst e
  have := hx vs hq
  rw [hv] at this
  cases this
  exact ⟨w1, c, Ext.refl .., dv⟩
theorem jd_t {K : PySem.W.Frag} {w : Wd} {n : Nat} {a : Addr} {ds : List D} {chk : Sto → Prop}
    (h : ∀ (w1 : Wd) (S1 : Sto) (H1 : Hp), Core G w1 S1 H1 → (∀ a o, w.fr a = some o → w1.fr a = some o) → (∀ k, k < n → w1.al k = w.al k) → n ≤ S1.length → chk S1 → ∃ vs, SqT K H1 a vs ∧ DenL w1 S1.length vs ds) : JD G (Itt K a) ds w n chk := by
  intro i w1 S1 H1 c hf ha hn hk
  obtain ⟨vs, hq, l⟩ := h w1 S1 H1 c hf ha hn hk
  refine ⟨fun hi => ⟨vs, hq, by rw [l.len]; omega⟩, fun d hd => ?_⟩
  obtain ⟨v, hv, dv⟩ := l.get hd
  refine ⟨⟨vs, v, hq, hv⟩, fun x H2 ⟨e, hx⟩ => ?_⟩
  subst e
  have := hx vs hq
  rw [hv] at this
  cases this
  exact ⟨w1, c, Ext.refl .., dv⟩
theorem di_seq (ha : DE X G a ta) : DI X G tg a (iSeq ta) :=
  let ⟨_, pa, ea⟩ := ha
  ⟨_, pi_seqA pa, fun ρ S ds chk S' e w σ H s R q => by
    unfold iSeq at e
    split at e
    · rename_i d S1 h1
      refine ea ρ S d S1 h1 w σ H s _ fun w1 v H1 s1 x1 d1 => ?_
      split at e
      · rename_i xs
        cases e
        obtain ⟨p, vs, rfl, hp, l⟩ := den_tup d1
        exact ⟨p, rfl, .inr ⟨⟨vs, .inl (.inl (s1.core.sub _ _ hp))⟩, q _ w1 H1 s1 x1 (jd_t fun w2 S2 H2 c2 hf ha hn _ => ⟨vs, .inl (.inl (c2.sub _ _ (hf _ _ hp))), l.mono hf ha hn⟩) trivial⟩⟩
      · rename_i xs
        cases e
        obtain ⟨p, vs, rfl, hp, l⟩ := den_lst d1
        exact ⟨p, rfl, .inl ⟨⟨vs, .inl (.inl (s1.core.sub _ _ hp))⟩, q _ w1 H1 s1 x1 (jd_l fun w2 S2 H2 c2 hf ha hn _ => ⟨vs, .inl (.inl (c2.sub _ _ (hf _ _ hp))), l.mono hf ha hn⟩) trivial⟩⟩
      · rename_i xs
        cases e
        cases d1 with
        | scr hp l =>
          exact ⟨_, rfl, .inl ⟨⟨_, .inl (rd_sub s1.core.sub hp)⟩, q _ w1 H1 s1 x1 (jd_l fun w2 S2 H2 c2 hf ha hn _ => ⟨_, .inl (rd_sub c2.sub (rd_sub hf hp)), l.mono hf ha hn⟩) trivial⟩⟩
      · rename_i k
        split at e
        · rename_i xs hk
          cases e
          obtain ⟨_, _, vs, hv, l⟩ := s1.core.cel _ _ hk
          cases d1 with
          | obj hkl =>
            refine ⟨_, rfl, .inl ⟨⟨vs, .inl (.inl hv)⟩, q _ w1 H1 s1 x1 (jd_l fun w2 S2 H2 c2 hf ha hn hck => ?_) hk⟩⟩
            obtain ⟨_, _, vs2, hv2, l2⟩ := c2.cel _ _ hck
            rw [ha k hkl] at hv2
            exact ⟨vs2, .inl (.inl hv2), l2⟩
        · cases e
      · cases e
    · cases e⟩
def rangeD (lo : Int) (n : Nat) : List D := (List.range n).map fun i => .int (lo + (i : Nat))
theorem jd_r {w : Wd} {n m : Nat} {lo : Int} : JD G (Itr lo m) (rangeD lo m) w n (fun _ => True) := by
  intro i w1 S1 H1 c hf ha hn hk
  have ln : (rangeD lo m).length = m := by simp [rangeD]
  refine ⟨fun hi => by show m ≤ i; omega, fun d hd => ?_⟩
  have hi : i < m := by rw [← ln]; exact (List.getElem?_eq_some_iff.mp hd).1
  refine ⟨hi, fun x H2 ⟨e, hx⟩ => ?_⟩
  subst e hx
  have : (rangeD lo m)[i]? = some (.int (lo + (i : Nat))) := by simp [rangeD, hi]
  rw [this] at hd
  cases hd
  exact ⟨w1, c, Ext.refl .., .int _⟩
@[simp] def iRange1 (a : RE) : RI := fun ρ S => match a ρ S with
  | some (.int j, S1) => if -(2 ^ 62) ≤ j ∧ j < 2 ^ 62 then some (rangeD 0 j.toNat, fun _ => True, S1) else none
  | _ => none
@[simp] def iRange2 (a b : RE) : RI := fun ρ S => match a ρ S with
  | some (.int i, S1) => (match b ρ S1 with
    | some (.int j, S2) => if -(2 ^ 62) ≤ i ∧ i < 2 ^ 62 ∧ -(2 ^ 62) ≤ j ∧ j < 2 ^ 62 then some (rangeD i (j - i).toNat, fun _ => True, S2) else none
    | _ => none)
  | _ => none
theorem di_range1 {p : Pos} (hm : X.mg "range" = none) (ha : DE X G a ta) (hg : Gl X "range" := by rfl) (hs : starEach [a] X.env = [(false, eval a X.env)] := by rfl) : DI X G tg (.Call (.Name "range" p) [a] [] pos) (iRange1 ta) :=
  let ⟨_, pa, ea⟩ := da_cons ha da_nil hs
  ⟨_, pi_range1 hg hm pa hs, fun ρ S ds chk S' e w σ H s R q => by
    unfold iRange1 at e
    split at e
    · rename_i j S1 h1
      split at e
      · rename_i hj
        cases e
        refine ea ρ S [.int j] S' (by simp only [aCons, h1, aNil]) w σ H s _ fun w1 vs H1 s1 x1 d1 => ?_
        obtain ⟨v, rfl, hv⟩ := denL1 d1
        cases den_int hv
        exact ⟨j, rfl, hj.1, hj.2, q _ w1 H1 s1 x1 jd_r trivial⟩
      · cases e
    · cases e⟩
theorem di_range2 {p : Pos} (hm : X.mg "range" = none) (ha : DE X G a ta) (hb : DE X G b tb) (hg : Gl X "range" := by rfl) (hs : starEach [a, b] X.env = [(false, eval a X.env), (false, eval b X.env)] := by rfl) (hs2 : starEach [b] X.env = [(false, eval b X.env)] := by rfl) :
    DI X G tg (.Call (.Name "range" p) [a, b] [] pos) (iRange2 ta tb) :=
  let ⟨_, pa, ea⟩ := da_cons ha (da_cons hb da_nil hs2) (by rw [hs, hs2])
  ⟨_, pi_range2 hg hm pa hs hs2, fun ρ S ds chk S' e w σ H s R q => by
    unfold iRange2 at e
    split at e
    · rename_i i S1 h1
      split at e
      · rename_i j S2 h2
        split at e
        · rename_i hj
          cases e
          refine ea ρ S [.int i, .int j] S' (by simp only [aCons, h1, h2, aNil]) w σ H s _ fun w1 vs H1 s1 x1 d1 => ?_
          obtain ⟨v, u, rfl, hv, hu⟩ := denL2 d1
          cases den_int hv; cases den_int hu
          exact ⟨i, j, rfl, hj, q _ w1 H1 s1 x1 jd_r trivial⟩
        · cases e
      · cases e
    · cases e⟩

/-! ### comprehensions -/
@[simp] def wipeD (ρ : En) : List Nat → En
  | [] => ρ
  | v :: vs => (wipeD ρ vs).set v none
theorem Sat.wipe {w : Wd} {ρ : En} {S : Sto} {σ : L2.St} {H : Hp} (s : Sat G w ρ S σ H) : ∀ vs : List Nat, Sat G w (wipeD ρ vs) S (L2.wipe σ vs) H
  | [] => s
  | v :: vs => by
    have ih := s.wipe vs
    refine ⟨ih.core, fun j e h => ?_, by show ((wipeD ρ vs).set v none).length = ((L2.wipe σ vs).set v none).length; rw [List.length_set, List.length_set]; exact ih.len, ih.code⟩
    have h : ((wipeD ρ vs).set v none)[j]? = some (some e) := h
    by_cases hj : v = j
    · subst hj
      by_cases hl : v < (wipeD ρ vs).length
      · rw [List.getElem?_set_self hl] at h; cases h
      · rw [List.getElem?_eq_none (by rw [List.length_set]; omega)] at h; cases h
    · rw [List.getElem?_set_ne hj] at h
      obtain ⟨u, h1, h2⟩ := ih.env j e h
      exact ⟨u, by show ((L2.wipe σ vs).set v none)[j]? = _; rw [List.getElem?_set_ne hj]; exact h1, h2⟩
/-- the items, from the wiped environment -/
noncomputable def compL (g : RG) (c : RT) (e : RE) (chk : Sto → Prop) (ρ : En) : List D → Sto → Option (List D × Sto)
  | [], S => some ([], S)
  | d :: ds, S => match g d ρ S with
    | some (ρ1, S1) => (match c ρ1 S1 with
      | some (true, S2) => (match e ρ1 S2 with
        | some (y, S3) => if chk S3 then (match compL g c e chk ρ ds S3 with | some (ys, S4) => some (y :: ys, S4) | none => none) else none
        | none => none)
      | some (false, S2) => if chk S2 then compL g c e chk ρ ds S2 else none
      | none => none)
    | none => none
/-- a target stores within the given places -/
def GIn (g : RG) (vs : List Nat) : Prop := ∀ d ρ S ρ' S', g d ρ S = some (ρ', S') → wipeD ρ' vs = wipeD ρ vs ∧ ρ'.length = ρ.length
@[simp] def tYesD : RT := fun _ S => some (true, S)
def DTs (X : Cx) (G : Gc) (ifs : List Expr) (t : RT) : Prop := ∃ tt, PTs X ifs tt ∧ EvT G tt t
theorem dts_nil : DTs X G [] tYesD := ⟨_, pts_nil, fun ρ S b S' e w σ H s Q q => by cases e; exact q w H s (Ext.refl ..)⟩
theorem dts_one (h : DT X G c tt) : DTs X G [c] tt := let ⟨_, p, q⟩ := h; ⟨_, pts_one p, q⟩
end
end DL

set_option maxRecDepth 100000
set_option maxHeartbeats 4000000
set_option pp.maxSteps 900
namespace DL
open PySem PySem.Spec PyProof.Rows L2 GX
open Classical

def teOf (G : Gc) (t : RE) : TE := fun σ H Q => ∃ ρ S d S' w, t ρ S = some (d, S') ∧ Sat G w ρ S σ H ∧ ∀ w' v H', Sat G w' ρ S' σ H' → Ext w S H w' S' H' → Den w' S'.length v d → Q v H'
def ttOf (G : Gc) (t : RT) : TT := fun σ H Q => ∃ ρ S b S' w, t ρ S = some (b, S') ∧ Sat G w ρ S σ H ∧ ∀ w' H', Sat G w' ρ S' σ H' → Ext w S H w' S' H' → Q b H'
def tiOf (G : Gc) (t : RI) : TI := fun σ H R => ∃ ρ S ds chk S' w, t ρ S = some (ds, chk, S') ∧ Sat G w ρ S σ H ∧ ∀ J w' H', Sat G w' ρ S' σ H' → Ext w S H w' S' H' → JD G J ds w' S'.length chk → chk S' → R J H'
def EvGw (G : Gc) (vs : List Nat) (g : TG) (t : RG) : Prop := ∀ (d : D) (ρ : En) (S : Sto) (ρ' : En) (S' : Sto), t d ρ S = some (ρ', S') → ∀ (w : Wd) (σ : L2.St) (H : Hp) (v : V), Sat G w ρ S σ H → Den w S.length v d → ∀ Q : L2.St → Hp → Prop,
  (∀ w' σ' H', L2.wipe σ' vs = L2.wipe σ vs → Sat G w' ρ' S' σ' H' → Ext w S H w' S' H' → Q σ' H') → g v σ H Q
def DGw (X : Cx) (G : Gc) (vs : List Nat) (tg : Expr) (t : RG) : Prop := ∃ g, PG X tg g ∧ EvGw G vs g t
def EvGsw (G : Gc) (vs : List Nat) (g : TGs) (t : RGs) : Prop := ∀ (ds : List D) (ρ : En) (S : Sto) (ρ' : En) (S' : Sto), t ds ρ S = some (ρ', S') → ∀ (w : Wd) (σ : L2.St) (H : Hp) (us : List V), Sat G w ρ S σ H → DenL w S.length us ds → ∀ Q : L2.St → Hp → Prop,
  (∀ w' σ' H', L2.wipe σ' vs = L2.wipe σ vs → Sat G w' ρ' S' σ' H' → Ext w S H w' S' H' → Q σ' H') → g us σ H Q
def DGsw (X : Cx) (G : Gc) (vs : List Nat) (tgs : List Expr) (t : RGs) : Prop := ∃ g, PGs X tgs g ∧ EvGsw G vs g t
def tgOf (G : Gc) (vs : List Nat) (t : RG) : TG := fun v σ H Q => ∃ d ρ S ρ' S' w, t d ρ S = some (ρ', S') ∧ Sat G w ρ S σ H ∧ Den w S.length v d ∧ ∀ w' σ' H', L2.wipe σ' vs = L2.wipe σ vs → Sat G w' ρ' S' σ' H' → Ext w S H w' S' H' → Q σ' H'
section
variable {G : Gc} {X : Cx} {pos : Pos} {e a b c tg iter : Expr} {es : List Expr} {te ta tb : RE} {ri : RI} {tt : RT} {g : RG} {vs : List Nat}
theorem ev_of : Ev G (teOf G te) te := fun ρ S d S' e w σ H s Q q => ⟨ρ, S, d, S', w, e, s, q⟩
theorem evt_of : EvT G (ttOf G tt) tt := fun ρ S d S' e w σ H s Q q => ⟨ρ, S, d, S', w, e, s, q⟩
theorem evi_of : EvI G (tiOf G ri) ri := fun ρ S ds chk S' e w σ H s R q => ⟨ρ, S, ds, chk, S', w, e, s, q⟩
theorem evg_of : EvGw G vs (tgOf G vs g) g := fun d ρ S ρ' S' e w σ H v s hd Q q => ⟨d, ρ, S, ρ', S', w, e, s, hd, q⟩
theorem DE.pe (h : DE X G e te) : PE X e (teOf G te) := let ⟨_, p, ev⟩ := h; ⟨fun pins s σ H Q I ⟨ρ, S, d, S', w, e, st, q⟩ => p.run pins s σ H Q I (ev ρ S d S' e w σ H st Q q)⟩
theorem DTs.pts {ifs : List Expr} (h : DTs X G ifs tt) : PTs X ifs (ttOf G tt) := let ⟨_, p, ev⟩ := h; ⟨fun pins s σ H Q I ⟨ρ, S, d, S', w, e, st, q⟩ => p.run pins s σ H Q I (ev ρ S d S' e w σ H st Q q)⟩
theorem DI.pi (h : DI X G tg iter ri) : PI X tg iter (tiOf G ri) := let ⟨_, p, ev⟩ := h; ⟨fun pins s σ H R I ⟨ρ, S, ds, chk, S', w, e, st, q⟩ => p.run pins s σ H R I (ev ρ S ds chk S' e w σ H st R q)⟩
theorem DGw.pg (h : DGw X G vs tg g) : PG X tg (tgOf G vs g) := let ⟨_, p, ev⟩ := h; ⟨fun pins s σ H v u Q I r ⟨d, ρ, S, ρ', S', w, e, st, hd, q⟩ => p.run pins s σ H v u Q I r (ev d ρ S ρ' S' e w σ H v st hd Q q)⟩

theorem wipe_in {σ : L2.St} {j : Nat} : ∀ {vs : List Nat}, j ∈ vs → (L2.wipe σ vs)[j]? = if j < σ.length then some none else none
  | v :: vs, h => by
    show ((L2.wipe σ vs).set v none)[j]? = _
    by_cases hj : v = j
    · subst hj
      by_cases hl : v < σ.length
      · rw [List.getElem?_set_self (by rw [L2.wipe_length]; exact hl), if_pos hl]
      · rw [List.getElem?_eq_none (by rw [List.length_set, L2.wipe_length]; omega), if_neg hl]
    · rw [List.getElem?_set_ne hj]
      have h : j ∈ vs := by
        rcases List.mem_cons.mp h with z | z
        · exact absurd z.symm hj
        · exact z
      exact wipe_in h
theorem wipe_congr {σ σ' : L2.St} (hl : σ'.length = σ.length) (h : ∀ j, j ∉ vs → σ'[j]? = σ[j]?) : L2.wipe σ' vs = L2.wipe σ vs := by
  apply List.ext_getElem?
  intro j
  by_cases hj : j ∈ vs
  · rw [wipe_in hj, wipe_in hj, hl]
  · rw [L2.wipe_out hj, L2.wipe_out hj]; exact h j hj
theorem wipe_set {σ : L2.St} {i : Nat} {x : Option V} (hi : i ∈ vs) : L2.wipe (σ.set i x) vs = L2.wipe σ vs :=
  wipe_congr List.length_set fun j hj => List.getElem?_set_ne fun z => hj (by rw [← z]; exact hi)
theorem wipe_wipe {σ : L2.St} : L2.wipe (L2.wipe σ vs) vs = L2.wipe σ vs :=
  wipe_congr (L2.wipe_length σ vs) fun j hj => L2.wipe_out hj
theorem dgw_name {i : Nat} {x : Str} (hN : X.N.Nodup) (hi : X.N[i]? = some x) (hx : Loc X.env.scope x) (hf : X.fn x = true ∨ X.env.scope.names.lookup x = some .local) (hm : i ∈ vs) : DGw X G vs (.Name x pos) (gNm i) :=
  ⟨_, pg_name hN hi hx hf, fun d ρ S ρ' S' e w σ H v s hd Q q => by
    unfold gNm at e
    cases e
    exact q w _ H (wipe_set hm) (s.set hd i) (Ext.refl ..)⟩
theorem dgsw_nil : DGsw X G vs [] gsNil := ⟨_, pgs_nil, fun ds ρ S ρ' S' e w σ H us s hd Q q => by
  unfold gsNil at e
  split at e
  · cases e; cases hd; exact ⟨rfl, q w σ H rfl s (Ext.refl ..)⟩
  · cases e⟩
theorem dgsw_cons {t1 : RG} {t2 : RGs} (h : DGw X G vs e t1) (h2 : DGsw X G vs es t2) (hs : (assignEach (e :: es) X.env).map (·.2) = assign e X.env :: (assignEach es X.env).map (·.2) := by rfl) : DGsw X G vs (e :: es) (gsCons t1 t2) :=
  let ⟨_, pa, ea⟩ := h; let ⟨_, pb, eb⟩ := h2
  ⟨_, pgs_cons pa pb hs, fun ds ρ S ρ' S' e w σ H us s hd Q q => by
    unfold gsCons at e
    split at e
    · rename_i d rest
      cases hd with
      | cons hv hr =>
        split at e
        · rename_i ρ1 S1 h1
          exact ⟨_, _, rfl, ea d ρ S ρ1 S1 h1 w σ H _ s hv _ fun w1 σ1 H1 z1 s1 x1 => eb rest ρ1 S1 ρ' S' e w1 σ1 H1 _ s1 (hr.ext x1) Q fun w2 σ2 H2 z2 s2 x2 => q w2 σ2 H2 (z2.trans z1) s2 (x1.trans x2)⟩
        · cases e
    · cases e⟩
theorem dgw_tup {k n : Nat} {t1 : RGs} (hc : X.calm = true) (h : DGsw X G vs es t1) (hn : (assignEach es X.env).length = n := by rfl) (hst : (assignEach es X.env).findIdx? (·.1) = none := by rfl) : DGw X G vs (.Tuple es k pos) (gTp n t1) :=
  let ⟨_, pa, ea⟩ := h
  ⟨_, pg_tup2 hc pa hn hst, fun d ρ S ρ' S' e w σ H v s hd Q q => by
    unfold gTp at e
    split at e
    · rename_i ds
      split at e
      · rename_i hl
        obtain ⟨p, us, rfl, hp, l⟩ := den_tup hd
        exact .inl ⟨p, us, rfl, .inl (.inl (s.core.sub _ _ hp)), by rw [l.len]; exact hl, ea ds ρ S ρ' S' e w σ H us s l Q q⟩
      · cases e
    · rename_i ds
      split at e
      · rename_i hl
        obtain ⟨p, us, rfl, hp, l⟩ := den_lst hd
        exact .inr ⟨p, us, rfl, .inl (.inl (s.core.sub _ _ hp)), by rw [l.len]; exact hl, ea ds ρ S ρ' S' e w σ H us s l Q q⟩
      · cases e
    · cases e⟩

/-! ### an object that the world does not know yet -/
theorem ntL {us : List V} : NoTab (.lst us) := ⟨fun ps e => (by cases e), fun _ _ e => (by cases e)⟩
theorem Core.newX {w : Wd} {S : Sto} {H : Hp} {p : Addr} {o : HO} (c : Core G w S H) (hp : H p = none) : Core G w S (upd H p o) ∧ Ext w S H w S (upd H p o) := by
  have old : ∀ a u, H a = some u → a ≠ p := fun a u e => ne_of_none e hp
  have hm : ∀ a u, H a = some u → upd H p o a = some u := fun a u e => by rw [upd_ne (old a u e)]; exact e
  refine ⟨⟨fun a u e => hm a u (c.sub a u e), c.fro, fun k ce h => ?_, c.inj, c.tab.stay fun a u e _ _ => hm a u e, c.t0⟩, ⟨fun _ _ => rfl, fun _ _ e => e, fun _ _ e => e, Nat.le_refl _, fun k h1 h2 => absurd h2 (Nat.not_lt.mpr h1), fun a u e _ _ => hm a u e, fun a e => ?_, fun a u e => .inl e⟩⟩
  · obtain ⟨h1, ⟨u, h2, h3⟩, h4⟩ := c.cel k ce h
    exact ⟨h1, ⟨u, hm _ u h2, h3⟩, h4.mono (fun _ _ e => e) (fun _ _ => rfl) (Nat.le_refl _) (fun u e => hm _ u e)⟩
  · by_cases h : a = p
    · rw [h, upd_same] at e; cases e
    · rw [upd_ne h] at e; exact e
theorem Ext.updX {w w' : Wd} {S S' : Sto} {H H' : Hp} {p : Addr} {o : HO} (x : Ext w S H w' S' H') (hp : H p = none) : Ext w S H w' S' (upd H' p o) :=
  ⟨x.al, x.fr, x.tb, x.sz, x.new, fun a u e h1 h2 => by rw [upd_ne (ne_of_none e hp)]; exact x.keep a u e h1 h2, fun a e => by
    by_cases h : a = p
    · subst h; exact hp
    · rw [upd_ne h] at e; exact x.non a e, x.frn⟩
/-- the list that grows -/
structure Aw (w : Wd) (S : Sto) (H : Hp) (D : Addr) (acc : List V) : Prop where
  at_ : H D = some (.lst acc)
  fr : w.fr D = none
  al : ∀ k, k < S.length → w.al k ≠ D
theorem Aw.ext {w w' : Wd} {S S' : Sto} {H H' : Hp} {D : Addr} {acc : List V} (a : Aw w S H D acc) (x : Ext w S H w' S' H') : Aw w' S' H' D acc :=
  let ⟨h1, h2, h3⟩ := x.away a.at_ ntL a.fr a.al; ⟨h1, h2, h3⟩
theorem Aw.new {w : Wd} {S : Sto} {H : Hp} {D : Addr} (c : Core G w S H) (hp : H D = none) : Aw w S (upd H D (.lst [])) D [] :=
  ⟨upd_same, c.fresh hp, fun k hk z => by
    obtain ⟨_, ⟨u, h2, _⟩, _⟩ := c.cel k _ (List.getElem?_eq_getElem hk)
    rw [z, hp] at h2; cases h2⟩
/-- how a new list is made known: frozen, or an object of the store -/
def MkL (mk : List D → Sto → Option (D × Sto)) : Prop := (∀ ys S d S', mk ys S = some (d, S') → ys.length ≤ 1000000) ∧ ∀ (G : Gc) (w0 w : Wd) (S0 S S' : Sto) (H0 H : Hp) (P : Addr) (acc : List V) (ys : List D) (d : D), Core G w S H → Ext w0 S0 H0 w S H → H0 P = none → w0.fr P = none → Aw w S H P acc → DenL w S.length acc ys → mk ys S = some (d, S') →
  ∃ w', Core G w' S' H ∧ Ext w0 S0 H0 w' S' H ∧ Den w' S'.length (.ref P) d
theorem mkF : MkL fLst := ⟨(fun ys S d S' e => by
  unfold fLst at e
  split at e
  · assumption
  · cases e), fun G w0 w S0 S S' H0 H P acc ys d c x hp hw a l e => by
  unfold fLst at e
  split at e
  · rename_i hl
    cases e
    refine ⟨_, c.freeze a.at_ (.inr ⟨acc, rfl⟩) a.fr a.al, ⟨x.al, fun b u e => ?_, x.tb, x.sz, x.new, x.keep, x.non, fun b u e => ?_⟩, den_newL l a.fr⟩
    · have e := x.fr b u e
      show upd w.fr P _ b = some u
      rw [upd_ne (ne_of_none e a.fr)]; exact e
    · by_cases h : b = P
      · exact .inr (.inl (by rw [h]; exact hp))
      · have e : upd w.fr P (.lst acc) b = some u := e
        rw [upd_ne h] at e; exact x.frn b u e
  · cases e⟩
theorem mkO : MkL fObj := ⟨(fun ys S d S' e => by
  unfold fObj at e
  split at e
  · assumption
  · cases e), fun G w0 w S0 S S' H0 H P acc ys d c x hp hw a l e => by
  unfold fObj at e
  split at e
  · rename_i hl
    cases e
    refine ⟨_, c.adopt a.at_ l a.fr a.al, ⟨fun k hk => ?_, x.fr, x.tb, ?_, fun k h1 h2 => ?_, x.keep, x.non, x.frn⟩, den_newO⟩
    · have h2 : k ≠ S.length := Nat.ne_of_lt (Nat.lt_of_lt_of_le hk x.sz)
      show (if k = S.length then P else w.al k) = w0.al k
      rw [if_neg h2]; exact x.al k hk
    · rw [List.length_append]; exact Nat.le_trans x.sz (Nat.le_add_right _ _)
    · show H0 (if k = S.length then P else w.al k) = none
      by_cases hk : k = S.length
      · rw [if_pos hk]; exact hp
      · rw [if_neg hk]
        refine x.new k h1 ?_
        rw [List.length_append] at h2
        have h2 : k < S.length + 1 := h2
        omega
  · cases e⟩

/-- the part of Ext that sees no heap -/
structure WR (w : Wd) (n : Nat) (w' : Wd) (n' : Nat) : Prop where
  al : ∀ k, k < n → w'.al k = w.al k
  fr : ∀ a o, w.fr a = some o → w'.fr a = some o
  tb : ∀ c P, w.tb c P → w'.tb c P
  sz : n ≤ n'
theorem Ext.wr {w w' : Wd} {S S' : Sto} {H H' : Hp} (x : Ext w S H w' S' H') : WR w S.length w' S'.length := ⟨x.al, x.fr, x.tb, x.sz⟩
theorem WR.trans {w w1 w2 : Wd} {n n1 n2 : Nat} (a : WR w n w1 n1) (b : WR w1 n1 w2 n2) : WR w n w2 n2 :=
  ⟨fun k h => (b.al k (Nat.lt_of_lt_of_le h a.sz)).trans (a.al k h), fun x o e => b.fr x o (a.fr x o e), fun c P e => b.tb c P (a.tb c P e), Nat.le_trans a.sz b.sz⟩
theorem Sat.ofWR {w w' : Wd} {ρ : En} {S S' : Sto} {σ : L2.St} {H H' : Hp} (s : Sat G w ρ S σ H) (c : Core G w' S' H') (e : WR w S.length w' S'.length) : Sat G w' ρ S' σ H' :=
  ⟨c, fun i d h => let ⟨v, h1, h2⟩ := s.env i d h; ⟨v, h1, h2.mono e.fr e.al e.sz⟩, s.len, fun v h => let ⟨c, P, h1, h2⟩ := s.code v h; ⟨c, P, h1, e.tb _ _ h2⟩⟩

/-! ### the loop of a clause -/
theorem loop_ok {J : It} {ds : List D} {chk : Sto → Prop} {gg : TG} {xt : TT} {xe : TE} {w0 w1 w2 : Wd} {S0 S1 S2 S3 : Sto} {H0 H2 : Hp} {ρ0 : En} {σ : L2.St} {P : Addr} {acc : List V} {accD ys : List D} {Qd : Hp → Prop}
    (eg : EvGw G vs gg g) (et : EvT G xt tt) (ee : Ev G xe te) (jd : JD G J ds w1 S1.length chk) (r12 : WR w1 S1.length w2 S2.length) (x02 : Ext w0 S0 H0 w2 S2 H2) (s2 : Sat G w2 ρ0 S2 σ H2) (hk : chk S2) (aw : Aw w2 S2 H2 P acc) (ln : DenL w2 S2.length acc accD) (hP : H0 P = none)
    (e : compL g tt te chk (wipeD ρ0 vs) ds S2 = some (ys, S3)) (hz : (accD ++ ys).length ≤ 1000000)
    (q : ∀ w3 H3 acc3, Core G w3 S3 H3 → Ext w0 S0 H0 w3 S3 H3 → WR w2 S2.length w3 S3.length → Aw w3 S3 H3 P acc3 → DenL w3 S3.length acc3 (accD ++ ys) → chk S3 → Qd H3) :
    ∃ W : Nat → Nat → Hp → Prop, (∃ m, W 0 m H2) ∧ ∀ i m H, W i m H → (J.stop i H ∧ Qd H) ∨ (J.go i H ∧ ∃ Nx : Hp → Prop, (∀ H', Nx H' → ∃ m', m' < m ∧ W (i + 1) m' H') ∧ ∀ x H', J.yld i H x H' → gg x (L2.wipe σ vs) H' fun σ2 H2 => L2.wipe σ2 vs = L2.wipe σ vs ∧ xt σ2 H2 fun b H3 =>
      if b = true then xe σ2 H3 fun y H4 => ∃ acc, H4 P = some (.lst acc) ∧ acc.length < sizeLine ∧ Nx (upd H4 P (.lst (acc ++ [y]))) else Nx H3) := by
  refine ⟨fun i m H => ∃ w S acc aD ys', Sat G w ρ0 S σ H ∧ Ext w0 S0 H0 w S H ∧ WR w2 S2.length w S.length ∧ chk S ∧ i + m = ds.length ∧ Aw w S H P acc ∧ DenL w S.length acc aD ∧ compL g tt te chk (wipeD ρ0 vs) (ds.drop i) S = some (ys', S3) ∧ aD ++ ys' = accD ++ ys,
    ⟨ds.length, w2, S2, acc, accD, ys, s2, x02, ⟨fun _ _ => rfl, fun _ _ e => e, fun _ _ e => e, Nat.le_refl _⟩, hk, Nat.zero_add _, aw, ln, e, rfl⟩, fun i m H ⟨w, S, acc, aD, ys', s, x, r, hc, hm, aw, ln, e, hy⟩ => ?_⟩
  have rr := r12.trans r
  obtain ⟨hstop, hgo⟩ := jd i w S H s.core rr.fr rr.al rr.sz hc
  cases m with
  | zero =>
    have hi : i = ds.length := by omega
    rw [hi, List.drop_length] at e
    unfold compL at e
    cases e
    rw [List.append_nil] at hy
    rw [← hy] at q
    exact .inl ⟨hstop hi, q w H acc s.core x r aw ln hc⟩
  | succ m =>
    have hil : i < ds.length := by omega
    rw [List.drop_eq_getElem_cons hil] at e
    obtain ⟨go, hyl⟩ := hgo ds[i] (List.getElem?_eq_getElem hil)
    unfold compL at e
    refine .inr ⟨go, fun H' => ∃ w S acc aD ys', Sat G w ρ0 S σ H' ∧ Ext w0 S0 H0 w S H' ∧ WR w2 S2.length w S.length ∧ chk S ∧ Aw w S H' P acc ∧ DenL w S.length acc aD ∧ compL g tt te chk (wipeD ρ0 vs) (ds.drop (i + 1)) S = some (ys', S3) ∧ aD ++ ys' = accD ++ ys,
      fun H' ⟨w', S', acc', aD', ys'', q1, q2, q3, q4, q5, q6, q7, q8⟩ => ⟨m, Nat.lt_succ_self m, w', S', acc', aD', ys'', q1, q2, q3, q4, by omega, q5, q6, q7, q8⟩, fun v H2 hyld => ?_⟩
    obtain ⟨w4, c4, x4, d4⟩ := hyl v H2 hyld
    have s4 := s.ofCore c4 x4
    split at e
    · rename_i ρ1 Sa h1
      refine eg ds[i] (wipeD ρ0 vs) S ρ1 Sa h1 w4 _ H2 v (s4.wipe vs) d4 _ fun w5 σ5 H5 z5 s5 x5 => ⟨z5.trans wipe_wipe, ?_⟩
      split at e
      · rename_i Sb h2
        refine et ρ1 Sa true Sb h2 w5 σ5 H5 s5 _ fun w6 H6 s6 x6 => ?_
        rw [if_pos rfl]
        split at e
        · rename_i y Sc h3
          refine ee ρ1 Sb y Sc h3 w6 σ5 H6 s6 _ fun w7 vy H7 s7 x7 d7 => ?_
          split at e
          · rename_i hck
            split at e
            · rename_i ys2 Sd h4
              cases e
              have xx := ((x4.trans x5).trans x6).trans x7
              have aw7 := aw.ext xx
              have ln7 := ln.ext xx
              have c8 := s7.core.updX (o' := .lst (acc ++ [vy])) aw7.at_ ntL aw7.fr aw7.al
              have ex8 : Ext w0 S0 H0 w7 Sc (upd H7 P (.lst (acc ++ [vy]))) := (x.trans xx).updX hP
              refine ⟨acc, aw7.at_, ?_, w7, Sc, acc ++ [vy], aD ++ [y], ys2, s.ofWR c8 xx.wr, ex8, r.trans xx.wr, hck, ⟨upd_same, aw7.fr, aw7.al⟩, ln7.app (.cons d7 .nil), h4, by rw [List.append_assoc]; exact hy⟩
              refine lt_line ?_
              have hlen := congrArg List.length hy
              rw [List.length_append, List.length_cons, ← ln.len] at hlen
              omega
            · cases e
          · cases e
        · cases e
      · rename_i Sb h2
        refine et ρ1 Sa false Sb h2 w5 σ5 H5 s5 _ fun w6 H6 s6 x6 => ?_
        rw [if_neg (by decide)]
        split at e
        · rename_i hck
          have xx := (x4.trans x5).trans x6
          exact ⟨w6, Sb, acc, aD, ys', s.ofCore s6.core xx, x.trans xx, r.trans xx.wr, hck, aw.ext xx, ln.ext xx, e, hy⟩
        · cases e
      · cases e
    · cases e
@[simp] noncomputable def eLc (mk : List D → Sto → Option (D × Sto)) (it : RI) (g : RG) (c : RT) (e : RE) (vs : List Nat) : RE := fun ρ S => match it ρ S with
  | some (ds, chk, S1) => (match compL g c e chk (wipeD ρ vs) ds S1 with
    | some (ys, S2) => mk ys S2
    | none => none)
  | none => none
theorem ev_lc {mk : List D → Sto → Option (D × Sto)} {wi : TI} {gg : TG} {xt : TT} {xe : TE} (hmk : MkL mk) (ei : EvI G wi ri) (eg : EvGw G vs gg g) (et : EvT G xt tt) (ee : Ev G xe te) : Ev G (tLc wi gg xt xe vs) (eLc mk ri g tt te vs) := fun ρ S d S' e w σ H s Q q => by
  unfold eLc at e
  split at e
  · rename_i ds chk S1 h1
    split at e
    · rename_i ys S2 h2
      refine ei ρ S ds chk S1 h1 w σ H s _ fun J w1 H1 s1 x1 jd hk P hP => ?_
      obtain ⟨c2, x2⟩ := s1.core.newX (o := .lst []) hP
      have hyz : ys.length ≤ 1000000 := hmk.1 _ _ _ _ e
      exact loop_ok eg et ee jd x2.wr x2 (s1.ofCore c2 x2) hk (Aw.new s1.core hP) .nil hP h2 (by rw [List.nil_append]; exact hyz) fun w3 H3 acc3 c3 x3 r3 aw3 ln3 hk3 => by
        obtain ⟨w4, c4, x4, d4⟩ := hmk.2 G w1 w3 S1 S2 S' H1 H3 P acc3 ys d c3 x3 hP (s1.core.fresh hP) aw3 ln3 e
        exact q w4 _ H3 (s1.ofCore c4 x4) (x1.trans x4) d4
    · cases e
  · cases e
/-! ### two clauses -/
noncomputable def compL2 (g : RG) (c : RT) (it1 : RI) (g1 : RG) (c1 : RT) (e : RE) (vs1 : List Nat) (chk : Sto → Prop) (ρ : En) : List D → Sto → Option (List D × Sto)
  | [], S => some ([], S)
  | d :: ds, S => match g d ρ S with
    | some (ρ1, S1) => (match c ρ1 S1 with
      | some (true, S2) => (match it1 ρ1 S2 with
        | some (ds1, chk1, S3) => (match compL g1 c1 e chk1 (wipeD ρ1 vs1) ds1 S3 with
          | some (ys, S4) => if chk S4 then (match compL2 g c it1 g1 c1 e vs1 chk ρ ds S4 with | some (zs, S5) => some (ys ++ zs, S5) | none => none) else none
          | none => none)
        | none => none)
      | some (false, S2) => if chk S2 then compL2 g c it1 g1 c1 e vs1 chk ρ ds S2 else none
      | none => none)
    | none => none
@[simp] noncomputable def eLc2 (mk : List D → Sto → Option (D × Sto)) (it : RI) (g : RG) (c : RT) (it1 : RI) (g1 : RG) (c1 : RT) (e : RE) (vs vs1 : List Nat) : RE := fun ρ S => match it ρ S with
  | some (ds, chk, S1) => (match compL2 g c it1 g1 c1 e vs1 chk (wipeD ρ vs) ds S1 with
    | some (ys, S2) => mk ys S2
    | none => none)
  | none => none
theorem ev_lc2 {mk : List D → Sto → Option (D × Sto)} {wi wi1 : TI} {gg gg1 : TG} {xt xt1 : TT} {xe : TE} {ri1 : RI} {g1 : RG} {tt1 : RT} {vs1 : List Nat} (hmk : MkL mk) (ei : EvI G wi ri) (eg : EvGw G vs gg g) (et : EvT G xt tt) (ei1 : EvI G wi1 ri1) (eg1 : EvGw G vs1 gg1 g1) (et1 : EvT G xt1 tt1) (ee : Ev G xe te) :
    Ev G (tLc2 wi gg xt wi1 gg1 xt1 xe vs vs1) (eLc2 mk ri g tt ri1 g1 tt1 te vs vs1) := fun ρ S d S' e w σ H s Q q => by
  unfold eLc2 at e
  split at e
  · rename_i ds chk S1 h1
    split at e
    · rename_i yall S2 h2
      refine ei ρ S ds chk S1 h1 w σ H s _ fun J w1 H1 s1 x1 jd hk P hP => ?_
      obtain ⟨c2, x2⟩ := s1.core.newX (o := .lst []) hP
      have hyz : yall.length ≤ 1000000 := hmk.1 _ _ _ _ e
      refine ⟨fun i m H => ∃ w S acc aD ys', Sat G w ρ S σ H ∧ Ext w1 S1 H1 w S H ∧ chk S ∧ i + m = ds.length ∧ Aw w S H P acc ∧ DenL w S.length acc aD ∧ compL2 g tt ri1 g1 tt1 te vs1 chk (wipeD ρ vs) (ds.drop i) S = some (ys', S2) ∧ aD ++ ys' = yall,
        ⟨ds.length, w1, S1, [], [], yall, s1.ofCore c2 x2, x2, hk, Nat.zero_add _, Aw.new s1.core hP, .nil, h2, rfl⟩, fun i m H ⟨w, S, acc, aD, ys', s, x, hc, hm, aw, ln, e2, hy⟩ => ?_⟩
      obtain ⟨hstop, hgo⟩ := jd.next x s.core hc i
      cases m with
      | zero =>
        have hi : i = ds.length := by omega
        rw [hi, List.drop_length] at e2
        unfold compL2 at e2
        cases e2
        rw [List.append_nil] at hy
        refine .inl ⟨hstop hi, ?_⟩
        rw [← hy] at e
        obtain ⟨w4, c4, x4, d4⟩ := hmk.2 G w1 w S1 S2 S' H1 H P acc aD d s.core x hP (s1.core.fresh hP) aw ln e
        exact q w4 _ H (s1.ofCore c4 x4) (x1.trans x4) d4
      | succ m =>
        have hil : i < ds.length := by omega
        rw [List.drop_eq_getElem_cons hil] at e2
        obtain ⟨go, hyl⟩ := hgo ds[i] (List.getElem?_eq_getElem hil)
        unfold compL2 at e2
        refine .inr ⟨go, fun H' => ∃ w S acc aD ys', Sat G w ρ S σ H' ∧ Ext w1 S1 H1 w S H' ∧ chk S ∧ Aw w S H' P acc ∧ DenL w S.length acc aD ∧ compL2 g tt ri1 g1 tt1 te vs1 chk (wipeD ρ vs) (ds.drop (i + 1)) S = some (ys', S2) ∧ aD ++ ys' = yall,
          fun H' ⟨w', S', acc', aD', ys'', q1, q2, q3, q4, q5, q6, q7⟩ => ⟨m, Nat.lt_succ_self m, w', S', acc', aD', ys'', q1, q2, q3, by omega, q4, q5, q6, q7⟩, fun v H2 hyld => ?_⟩
        obtain ⟨w4, c4, x4, d4⟩ := hyl v H2 hyld
        have s4 := s.ofCore c4 x4
        split at e2
        · rename_i ρ1 Sa h1
          refine eg ds[i] (wipeD ρ vs) S ρ1 Sa h1 w4 _ H2 v (s4.wipe vs) d4 _ fun w5 σ5 H5 z5 s5 x5 => ⟨z5.trans wipe_wipe, ?_⟩
          split at e2
          · rename_i Sb h2
            refine et ρ1 Sa true Sb h2 w5 σ5 H5 s5 _ fun w6 H6 s6 x6 => ?_
            rw [if_pos rfl]
            split at e2
            · rename_i ds1 chk1 Sc h3
              split at e2
              · rename_i ys Sd h4
                split at e2
                · rename_i hck
                  split at e2
                  · rename_i zs Se h5
                    cases e2
                    refine ei1 ρ1 Sb ds1 chk1 Sc h3 w6 σ5 H6 s6 _ fun J1 w7 H7 s7 x7 jd1 hk1 => ?_
                    have xx := ((x4.trans x5).trans x6).trans x7
                    refine loop_ok eg1 et1 ee jd1 ⟨fun _ _ => rfl, fun _ _ e => e, fun _ _ e => e, Nat.le_refl _⟩ (x.trans xx) s7 hk1 (aw.ext xx) (ln.ext xx) hP h4 ?_ fun w8 H8 acc8 c8 x8 r8 aw8 ln8 _ => ?_
                    · have hlen := congrArg List.length hy
                      simp only [List.length_append] at hlen ⊢
                      omega
                    · exact ⟨w8, Sd, acc8, aD ++ ys, zs, s.ofWR c8 (xx.wr.trans r8), x8, hck, aw8, ln8, h5, by rw [List.append_assoc]; exact hy⟩
                  · cases e2
                · cases e2
              · cases e2
            · cases e2
          · rename_i Sb h2
            refine et ρ1 Sa false Sb h2 w5 σ5 H5 s5 _ fun w6 H6 s6 x6 => ?_
            rw [if_neg (by decide)]
            split at e2
            · rename_i hck
              have xx := (x4.trans x5).trans x6
              exact ⟨w6, Sb, acc, aD, ys', s.ofCore s6.core xx, x.trans xx, hck, aw.ext xx, ln.ext xx, e2, hy⟩
            · cases e2
          · cases e2
        · cases e2
    · cases e
  · cases e

/-! ### the rules -/
variable {scope : Scope} {own : List (Str × Nat)} {ifs ifs1 : List Expr} {elt tg1 iter1 : Expr} {mk : List D → Sto → Option (D × Sto)} {ri1 : RI} {g1 : RG} {tt1 : RT} {vs1 : List Nat}
theorem de_lc (hmk : MkL mk) (hc : X.calm = true) (hN : X.N.Nodup) (hi : DI X G tg iter ri) (ok : BlkOk X.N X.env.scope scope own)
    (hg : ∀ (s : Shared) (H : Hp) (C : Addr) (cl : List (Str × Addr)) (fp : List Addr), DGw (X.blk s H scope (compEnvC scope cl C X.env) fp) G (own.map (·.2)) tg g) (ht : ∀ (s : Shared) (H : Hp) (C : Addr) (cl : List (Str × Addr)) (fp : List Addr), DTs (X.blk s H scope (compEnvC scope cl C X.env) fp) G ifs tt)
    (he : ∀ (s : Shared) (H : Hp) (C : Addr) (cl : List (Str × Addr)) (fp : List Addr), DE (X.blk s H scope (compEnvC scope cl C X.env) fp) G elt te) (hs : ∀ x, foldedSetIterable iter X.env x = pure x := by intro _; rfl) :
    DE X G (.ListComp elt [⟨tg, iter, ifs, 0⟩] scope pos) (eLc mk ri g tt te (own.map (·.2))) :=
  ⟨_, pe_lc hc hN hi.pi ok (fun s H C cl fp => (hg s H C cl fp).pg) (fun s H C cl fp => (ht s H C cl fp).pts) (fun s H C cl fp => (he s H C cl fp).pe) hs, ev_lc hmk evi_of evg_of evt_of ev_of⟩
theorem evs_setE {i : Nat} {xe : TE} (h : Ev G xe te) : EvS G (tAsg xe (gName i)) (sSet i te) := fun ρ S o e w σ H s D p => by
  unfold sSet at e
  split at e
  · rename_i d S1 h1
    cases e
    exact h ρ S d S1 h1 w σ H s _ fun w1 v H1 s1 x1 d1 => p w1 _ H1 (s1.set d1 i) x1
  · cases e
theorem ds_setLc {i : Nat} {y : Str} {py spos : Pos} (hmk : MkL mk) (hc : X.calm = true) (hN : X.N.Nodup) (hy : X.N[i]? = some y) (hyl : X.env.scope.names.lookup y = some .local)
    (hsw : swapsWith (.ListComp elt [⟨tg, iter, ifs, 0⟩] scope pos) (some (.Name y py)) spos.line X.env = pure true) (hi : DI X G tg iter ri) (ok : BlkOk X.N X.env.scope scope own)
    (hg : ∀ (s : Shared) (H : Hp) (C : Addr) (cl : List (Str × Addr)) (fp : List Addr), DGw (X.blk s H scope (compEnvC scope cl C X.env) fp) G (own.map (·.2)) tg g) (ht : ∀ (s : Shared) (H : Hp) (C : Addr) (cl : List (Str × Addr)) (fp : List Addr), DTs (X.blk s H scope (compEnvC scope cl C X.env) fp) G ifs tt)
    (he : ∀ (s : Shared) (H : Hp) (C : Addr) (cl : List (Str × Addr)) (fp : List Addr), DE (X.blk s H scope (compEnvC scope cl C X.env) fp) G elt te) (hs : ∀ x, foldedSetIterable iter X.env x = pure x := by intro _; rfl) :
    DS X G (.Assign [.Name y py] (.ListComp elt [⟨tg, iter, ifs, 0⟩] scope pos) spos) (sSet i (eLc mk ri g tt te (own.map (·.2)))) :=
  ⟨_, ps_setLc hc hN hy hyl hsw hi.pi ok (fun s H C cl fp => (hg s H C cl fp).pg) (fun s H C cl fp => (ht s H C cl fp).pts) (fun s H C cl fp => (he s H C cl fp).pe) hs, evs_setE (ev_lc hmk evi_of evg_of evt_of ev_of)⟩
theorem de_lc2 (hmk : MkL mk) (hc : X.calm = true) (hN : X.N.Nodup) (hi : DI X G tg iter ri) (ok : BlkOk X.N X.env.scope scope own) (hv : ∀ i ∈ vs1, i ∈ own.map (·.2))
    (hg : ∀ (s : Shared) (H : Hp) (C : Addr) (cl : List (Str × Addr)) (fp : List Addr), DGw (X.blk s H scope (compEnvC scope cl C X.env) fp) G (own.map (·.2)) tg g) (ht : ∀ (s : Shared) (H : Hp) (C : Addr) (cl : List (Str × Addr)) (fp : List Addr), DTs (X.blk s H scope (compEnvC scope cl C X.env) fp) G ifs tt)
    (hi1 : ∀ (s : Shared) (H : Hp) (C : Addr) (cl : List (Str × Addr)) (fp : List Addr), DI (X.blk s H scope (compEnvC scope cl C X.env) fp) G tg1 iter1 ri1)
    (hg1 : ∀ (s : Shared) (H : Hp) (C : Addr) (cl : List (Str × Addr)) (fp : List Addr), DGw (X.blk s H scope (compEnvC scope cl C X.env) fp) G vs1 tg1 g1) (ht1 : ∀ (s : Shared) (H : Hp) (C : Addr) (cl : List (Str × Addr)) (fp : List Addr), DTs (X.blk s H scope (compEnvC scope cl C X.env) fp) G ifs1 tt1)
    (he : ∀ (s : Shared) (H : Hp) (C : Addr) (cl : List (Str × Addr)) (fp : List Addr), DE (X.blk s H scope (compEnvC scope cl C X.env) fp) G elt te) (hs : ∀ x, foldedSetIterable iter X.env x = pure x := by intro _; rfl) (hs1 : ∀ env x, foldedSetIterable iter1 env x = pure x := by intro _ _; rfl) :
    DE X G (.ListComp elt [⟨tg, iter, ifs, 0⟩, ⟨tg1, iter1, ifs1, 0⟩] scope pos) (eLc2 mk ri g tt ri1 g1 tt1 te (own.map (·.2)) vs1) :=
  ⟨_, pe_lc2 hc hN hi.pi ok hv (fun s H C cl fp => (hg s H C cl fp).pg) (fun s H C cl fp => (ht s H C cl fp).pts) (fun s H C cl fp => (hi1 s H C cl fp).pi) (fun s H C cl fp => (hg1 s H C cl fp).pg) (fun s H C cl fp => (ht1 s H C cl fp).pts) (fun s H C cl fp => (he s H C cl fp).pe) hs hs1,
    ev_lc2 hmk evi_of evg_of evt_of evi_of evg_of evt_of ev_of⟩
theorem ds_setLc2 {i : Nat} {y : Str} {py spos : Pos} (hmk : MkL mk) (hc : X.calm = true) (hN : X.N.Nodup) (hy : X.N[i]? = some y) (hyl : X.env.scope.names.lookup y = some .local)
    (hsw : swapsWith (.ListComp elt [⟨tg, iter, ifs, 0⟩, ⟨tg1, iter1, ifs1, 0⟩] scope pos) (some (.Name y py)) spos.line X.env = pure true) (hi : DI X G tg iter ri) (ok : BlkOk X.N X.env.scope scope own) (hv : ∀ i ∈ vs1, i ∈ own.map (·.2))
    (hg : ∀ (s : Shared) (H : Hp) (C : Addr) (cl : List (Str × Addr)) (fp : List Addr), DGw (X.blk s H scope (compEnvC scope cl C X.env) fp) G (own.map (·.2)) tg g) (ht : ∀ (s : Shared) (H : Hp) (C : Addr) (cl : List (Str × Addr)) (fp : List Addr), DTs (X.blk s H scope (compEnvC scope cl C X.env) fp) G ifs tt)
    (hi1 : ∀ (s : Shared) (H : Hp) (C : Addr) (cl : List (Str × Addr)) (fp : List Addr), DI (X.blk s H scope (compEnvC scope cl C X.env) fp) G tg1 iter1 ri1)
    (hg1 : ∀ (s : Shared) (H : Hp) (C : Addr) (cl : List (Str × Addr)) (fp : List Addr), DGw (X.blk s H scope (compEnvC scope cl C X.env) fp) G vs1 tg1 g1) (ht1 : ∀ (s : Shared) (H : Hp) (C : Addr) (cl : List (Str × Addr)) (fp : List Addr), DTs (X.blk s H scope (compEnvC scope cl C X.env) fp) G ifs1 tt1)
    (he : ∀ (s : Shared) (H : Hp) (C : Addr) (cl : List (Str × Addr)) (fp : List Addr), DE (X.blk s H scope (compEnvC scope cl C X.env) fp) G elt te) (hs : ∀ x, foldedSetIterable iter X.env x = pure x := by intro _; rfl) (hs1 : ∀ env x, foldedSetIterable iter1 env x = pure x := by intro _ _; rfl) :
    DS X G (.Assign [.Name y py] (.ListComp elt [⟨tg, iter, ifs, 0⟩, ⟨tg1, iter1, ifs1, 0⟩] scope pos) spos) (sSet i (eLc2 mk ri g tt ri1 g1 tt1 te (own.map (·.2)) vs1)) :=
  ⟨_, ps_setLc2 hc hN hy hyl hsw hi.pi ok hv (fun s H C cl fp => (hg s H C cl fp).pg) (fun s H C cl fp => (ht s H C cl fp).pts) (fun s H C cl fp => (hi1 s H C cl fp).pi) (fun s H C cl fp => (hg1 s H C cl fp).pg) (fun s H C cl fp => (ht1 s H C cl fp).pts) (fun s H C cl fp => (he s H C cl fp).pe) hs hs1,
    evs_setE (ev_lc2 hmk evi_of evg_of evt_of evi_of evg_of evt_of ev_of)⟩
end
end DL

set_option maxRecDepth 100000
set_option maxHeartbeats 4000000
set_option pp.maxSteps 900
namespace DL
open PySem PySem.Spec PyProof.Rows L2 GX
open Classical

abbrev Gc.at (G : Gc) (v : Value) : Gc := { G with cv := some v }
section
variable {G : Gc} {X : Cx} {pos gpos p : Pos} {elt tg iter : Expr} {ifs : List Expr} {te : RE} {ri : RI} {tt : RT} {g : RG} {vs : List Nat} {scope : Scope} {own : List (Str × Nat)}
theorem Core.at {w : Wd} {S : Sto} {H : Hp} {v : Value} (c : Core G w S H) : Core (G.at v) w S H := ⟨c.sub, c.fro, c.cel, c.inj, c.tab, c.t0⟩
theorem Core.off {w : Wd} {S : Sto} {H : Hp} {v : Value} (c : Core (G.at v) w S H) : Core G w S H := ⟨c.sub, c.fro, c.cel, c.inj, c.tab, c.t0⟩
/-- the heap behind the making of a code object -/
theorem Core.grown {w : Wd} {S : Sto} {H H' : Hp} {T' : Tb} (c : Core G w S H) (t : TabI G.base T' H') (hT : ∀ a b, w.tb a b → T' a b) (gr : Grown H H') : Core G { w with tb := T' } S H' ∧ Ext w S H { w with tb := T' } S H' := by
  have nt : ∀ a o, w.fr a = some o → ∀ ps, o ≠ .tbl ps := fun a o e ps z => by
    rcases c.fro a o e with ⟨xs, h⟩ | ⟨xs, h⟩ | ⟨ob, u, h⟩ <;> rw [h] at z <;> cases z
  refine ⟨⟨fun a o e => gr.keep a o (c.sub a o e) (nt a o e), c.fro, fun k ce h => ?_, c.inj, t, fun a b e => hT a b (c.t0 a b e)⟩, ⟨fun _ _ => rfl, fun _ _ e => e, hT, Nat.le_refl _, fun k h1 h2 => absurd h2 (Nat.not_lt.mpr h1), fun a o e _ h => gr.keep a o e h, gr.none, fun a u e => .inl e⟩⟩
  obtain ⟨h1, ⟨u, h2, h3⟩, h4⟩ := c.cel k ce h
  refine ⟨h1, ⟨u, gr.keep _ u h2 h3.1, h3⟩, ?_⟩
  cases ce with
  | lst ds =>
    obtain ⟨us, e, l⟩ := h4
    exact ⟨us, gr.keep _ _ e (fun ps z => by cases z), DenL.mono (w := w) (w' := { w with tb := T' }) (n := S.length) (fun _ _ e => e) (fun _ _ => rfl) (Nat.le_refl _) l⟩
  | dct _ =>
    obtain ⟨xs, e, r1, r2, l⟩ := h4
    exact ⟨xs, gr.keep _ _ e (fun ps z => by cases z), r1, r2, DenK.mono (w := w) (w' := { w with tb := T' }) (n := S.length) (fun _ _ e => e) (fun _ _ => rfl) (Nat.le_refl _) l⟩
  | dead => trivial
theorem gturn_tup {J : It} {ds : List D} {chk : Sto → Prop} {gg : TG} {xt : TT} {xe : TE} {w1 w1' : Wd} {S1 S2 : Sto} {H1 H1' : Hp} {ρ : En} {σ : L2.St} {yall : List D} {cv : Value}
    (eg : EvGw (G.at cv) vs gg g) (et : EvT (G.at cv) xt tt) (ee : Ev (G.at cv) xe te) (jd : JD G J ds w1 S1.length chk) (s1 : Sat (G.at cv) w1' (wipeD ρ vs) S1 (L2.wipe σ vs) H1') (x1 : Ext w1 S1 H1 w1' S1 H1') (hk : chk S1)
    (e : compL g tt te chk (wipeD ρ vs) ds S1 = some (yall, S2)) :
    ∃ W, (∃ m, W 0 m [] H1') ∧ GTurn J gg xt xe vs (L2.wipe σ vs) yall.length (fun _ _ _ => True) (fun _ _ => True) (fun ys H => ∃ w, Core G w S2 H ∧ Ext w1' S1 H1' w S2 H ∧ DenL w S2.length ys yall) W := by
  refine ⟨fun i m acc H => ∃ w S aD ys', Core G w S H ∧ Ext w1' S1 H1' w S H ∧ chk S ∧ i + m = ds.length ∧ DenL w S.length acc aD ∧ compL g tt te chk (wipeD ρ vs) (ds.drop i) S = some (ys', S2) ∧ aD ++ ys' = yall,
    ⟨ds.length, w1', S1, [], yall, s1.core.off, Ext.refl .., hk, Nat.zero_add _, .nil, e, rfl⟩, fun i m acc H ⟨w, S, aD, ys', c, x, hc, hm, ln, e, hy⟩ => ?_⟩
  have rr := x1.trans x
  obtain ⟨hstop, hgo⟩ := jd i w S H c rr.fr rr.al rr.sz hc
  cases m with
  | zero =>
    have hi : i = ds.length := by omega
    rw [hi, List.drop_length] at e
    unfold compL at e
    cases e
    rw [List.append_nil] at hy
    subst hy
    exact .inl ⟨hstop hi, w, c, x, ln⟩
  | succ m =>
    have hil : i < ds.length := by omega
    rw [List.drop_eq_getElem_cons hil] at e
    obtain ⟨go, hyl⟩ := hgo ds[i] (List.getElem?_eq_getElem hil)
    unfold compL at e
    refine .inr ⟨go, fun v H2 hyld => ?_⟩
    obtain ⟨w4, c4, x4, d4⟩ := hyl v H2 hyld
    have s4 := s1.ofCore c4.at (x.trans x4)
    split at e
    · rename_i ρ1 Sa h1
      refine eg ds[i] (wipeD ρ vs) S ρ1 Sa h1 w4 _ H2 v s4 d4 _ fun w5 σ5 H5 z5 s5 x5 => ⟨z5.trans wipe_wipe, ?_⟩
      split at e
      · rename_i Sb h2
        refine et ρ1 Sa true Sb h2 w5 σ5 H5 s5 _ fun w6 H6 s6 x6 => ?_
        rw [if_pos rfl]
        split at e
        · rename_i y Sc h3
          refine ee ρ1 Sb y Sc h3 w6 σ5 H6 s6 _ fun w7 vy H7 s7 x7 d7 => ?_
          split at e
          · rename_i hck
            split at e
            · rename_i ys2 Sd h4
              cases e
              have xx := ((x4.trans x5).trans x6).trans x7
              refine ⟨?_, trivial, fun _ => ⟨m, Nat.lt_succ_self m, w7, Sc, aD ++ [y], ys2, s7.core.off, x.trans xx, hck, by omega, (ln.ext xx).app (.cons d7 .nil), h4, by rw [List.append_assoc]; exact hy⟩⟩
              have hlen := congrArg List.length hy
              rw [List.length_append, List.length_cons, ← ln.len] at hlen
              omega
            · cases e
          · cases e
        · cases e
      · rename_i Sb h2
        refine et ρ1 Sa false Sb h2 w5 σ5 H5 s5 _ fun w6 H6 s6 x6 => ?_
        rw [if_neg (by decide)]
        split at e
        · rename_i hck
          have xx := (x4.trans x5).trans x6
          exact ⟨m, Nat.lt_succ_self m, w6, Sb, aD, ys', s6.core.off, x.trans xx, hck, by omega, ln.ext xx, e, hy⟩
        · cases e
      · cases e
    · cases e
/-- what the body of a generator expression computes -/
def GBody (X : Cx) (G : Gc) (k : Nat) (scope : Scope) (vs : List Nat) (tg : Expr) (ifs : List Expr) (elt : Expr) (g : RG) (tt : RT) (te : RE) : Prop :=
  ∀ (s : Shared) (H : Hp) (L : Addr) (cl : List (Str × Addr)) (q : Str) (c' : Addr) (fp : List Addr) (pn : List (Addr × Obj)) (A : Around), Room k A →
    DGw (gx X s H scope L cl q (.ref c') fp pn A) (G.at (.ref c')) vs tg g ∧ DTs (gx X s H scope L cl q (.ref c') fp pn A) (G.at (.ref c')) ifs tt ∧ DE (gx X s H scope L cl q (.ref c') fp pn A) (G.at (.ref c')) elt te
theorem boot_tuple : bootBuiltins "tuple" = some (.type "tuple") := by decide +kernel
theorem boot_all : bootBuiltins "all" = some (.builtin "all") := by decide +kernel
theorem boot_any : bootBuiltins "any" = some (.builtin "any") := by decide +kernel
theorem de_tupGen {k : Nat} (hr : Room (k + 5) X.A) (hm : X.mg "tuple" = none) (hb : G.base = X.base) (hcv : G.cv = some X.env.code) (hc : X.calm = true) (hN : X.N.Nodup) (bm : ∃ P, X.base.BuiltinsAt X.mg P) (hi : DI X G tg iter ri) (ok : BlkOk X.N X.env.scope scope own)
    (hbd : GBody X G k scope (own.map (·.2)) tg ifs elt g tt te) (hg : Gl X "tuple" := by rfl) (hco : scope.isCoroutine = false := by rfl) (h0 : scope.names.lookup (".0" : Str) = some .local := by rfl) (hs : ∀ v, genFold iter X.env v = pure v := by intro _; rfl)
    (he : starEach [.GeneratorExp elt [⟨tg, iter, ifs, 0⟩] scope gpos] X.env = (false, eval (.GeneratorExp elt [⟨tg, iter, ifs, 0⟩] scope gpos) X.env) :: starEach [] X.env := by rfl) :
    DE X G (.Call (.Name "tuple" p) [.GeneratorExp elt [⟨tg, iter, ifs, 0⟩] scope gpos] [] pos) (eLc fTup ri g tt te (own.map (·.2))) := by
  refine ⟨teOf G _, ⟨fun pins s σ H Q I ⟨ρ, S, d, S', w, e, st, q⟩ => ?_⟩, ev_of⟩
  unfold eLc at e
  split at e
  · rename_i ds chk S1 h1
    split at e
    · rename_i yall S2 h2
      have hz : yall.length ≤ 1000000 := by
        unfold fTup at e
        split at e
        · assumption
        · cases e
      refine wpAny_Call_Name_kw (ld_blt I hg hm boot_tuple ?_)
      refine PyProof.Rows.callWith_type1 ?_ he (by rfl)
      rw [he]
      show wpAny _ _ (spliced ((false, eval (.GeneratorExp elt [⟨tg, iter, ifs, 0⟩] scope gpos) X.env) :: backTo pos (starEach [] X.env))) _ _ s
      refine Calls.spliced_cons (thn (gx_made (k := k) (N := yall.length) (Qy := fun _ _ _ => True) (Rs := fun _ _ => True) (Qe := fun ys H2 => ∃ w2, Core G w2 S2 H2 ∧ Ext w S H w2 S2 H2 ∧ DenL w2 S2.length ys yall) (hr.mono (by omega)) hc hN hi.pi ok hco h0 bm hs I ?_) fun u s1 hmd => ?_)
      · refine evi_of ρ S ds chk S1 h1 w σ H st _ fun J w1 H1 s1 x1 jd hk => ?_
        obtain ⟨c, P, hcc, hT⟩ := s1.code _ hcv
        refine ⟨w1.tb, c, P, hcc, hb ▸ s1.core.tab, hT, fun H' T' c' P' t' hTT hT' gr s' L cl qn fp pn A hrA => ?_⟩
        obtain ⟨b1, b2, b3⟩ := hbd s' H' L cl qn c' fp pn A hrA
        obtain ⟨c2, x2⟩ := s1.core.grown (hb ▸ t') hTT gr
        have s2 : Sat (G.at (.ref c')) { w1 with tb := T' } (wipeD ρ (own.map (·.2))) S1 (L2.wipe σ (own.map (·.2))) H' := by
          have z := (s1.ofCore c2 x2).wipe (own.map (·.2))
          exact ⟨z.core.at, z.env, z.len, fun v hv => by cases hv; exact ⟨c', P', rfl, hT'⟩⟩
        obtain ⟨W, hW, ht⟩ := gturn_tup (G := G) evg_of evt_of ev_of jd s2 x2 hk h2
        refine ⟨_, _, _, W, b1.pg, b2.pts, b3.pe, hW, fun i m ys Hh hw => ?_⟩
        rcases ht i m ys Hh hw with ⟨a1, w2, b1, b2, b3⟩ | z
        · exact .inl ⟨a1, w2, b1, (x1.trans x2).trans b2, b3⟩
        · exact .inr z
      · refine Calls.spliced_nil ?_
        refine call_tuple_md hr I.ok.frames (le_line hz) (fun _ _ => trivial) hmd fun s2 acc H2 ys hv hl I2 ⟨w2, c2, x2, l2⟩ => ?_
        have hf : H2 s2.heap.objs.size = none := I2.hok.fresh (Nat.le_refl _)
        refine ⟨.ref s2.heap.objs.size, upd H2 s2.heap.objs.size (.tup ys), I2.laid (t' := s2.toks) (fun b u e => Heap.get?_push_of_some _ e) (Nat.le_refl _) ?_, rfl, ?_⟩
        · exact ⟨Nat.le_trans hl (le_line hz), acc, hv, ⟨_, Heap.get?_push_size _ rfl, rfl, _, rfl⟩⟩
        · exact (new_tup (st.ofCore c2 x2) l2 e fun w3 v3 H3 s3 x3 d3 => q w3 v3 H3 s3 (x2.trans x3) d3).2 _ hf
    · cases e
  · cases e

/-! ### all, any -/
noncomputable def quantL (stop : Bool) (g : RG) (c : RT) (e : RE) (chk : Sto → Prop) (ρ : En) : List D → Sto → Option (Bool × Sto)
  | [], S => some (!stop, S)
  | d :: ds, S => match g d ρ S with
    | some (ρ1, S1) => (match c ρ1 S1 with
      | some (true, S2) => (match e ρ1 S2 with
        | some (.bl b, S3) => if b = stop then some (stop, S3) else if chk S3 then quantL stop g c e chk ρ ds S3 else none
        | _ => none)
      | some (false, S2) => if chk S2 then quantL stop g c e chk ρ ds S2 else none
      | none => none)
    | none => none
@[simp] noncomputable def tGenQ (stop : Bool) (it : RI) (g : RG) (c : RT) (e : RE) (vs : List Nat) : RT := fun ρ S => match it ρ S with
  | some (ds, chk, S1) => quantL stop g c e chk (wipeD ρ vs) ds S1
  | none => none
@[simp] def eBl (t : RT) : RE := fun ρ S => match t ρ S with | some (b, S1) => some (.bl b, S1) | none => none
theorem gturn_q {J : It} {ds : List D} {chk : Sto → Prop} {gg : TG} {xt : TT} {xe : TE} {w1 w1' : Wd} {S1 S2 : Sto} {H1 H1' : Hp} {ρ : En} {σ : L2.St} {stop r : Bool} {cv : Value}
    (eg : EvGw (G.at cv) vs gg g) (et : EvT (G.at cv) xt tt) (ee : Ev (G.at cv) xe te) (jd : JD G J ds w1 S1.length chk) (s1 : Sat (G.at cv) w1' (wipeD ρ vs) S1 (L2.wipe σ vs) H1') (x1 : Ext w1 S1 H1 w1' S1 H1') (hk : chk S1)
    (e : quantL stop g tt te chk (wipeD ρ vs) ds S1 = some (r, S2)) :
    ∃ W, (∃ m, W 0 m [] H1') ∧ GTurn J gg xt xe vs (L2.wipe σ vs) ds.length (fun _ x H => ∃ b, x = .bl b ∧ (b = stop → r = stop ∧ ∃ w, Core G w S2 H ∧ Ext w1' S1 H1' w S2 H)) (fun _ x => x = .bl (!stop)) (fun _ H => r = !stop ∧ ∃ w, Core G w S2 H ∧ Ext w1' S1 H1' w S2 H) W := by
  refine ⟨fun i m acc H => ∃ w S, Core G w S H ∧ Ext w1' S1 H1' w S H ∧ chk S ∧ i + m = ds.length ∧ acc.length ≤ i ∧ quantL stop g tt te chk (wipeD ρ vs) (ds.drop i) S = some (r, S2),
    ⟨ds.length, w1', S1, s1.core.off, Ext.refl .., hk, Nat.zero_add _, Nat.le_refl _, e⟩, fun i m acc H ⟨w, S, c, x, hc, hm, hl, e⟩ => ?_⟩
  have rr := x1.trans x
  obtain ⟨hstop, hgo⟩ := jd i w S H c rr.fr rr.al rr.sz hc
  cases m with
  | zero =>
    have hi : i = ds.length := by omega
    rw [hi, List.drop_length] at e
    unfold quantL at e
    cases e
    exact .inl ⟨hstop hi, rfl, w, c, x⟩
  | succ m =>
    have hil : i < ds.length := by omega
    rw [List.drop_eq_getElem_cons hil] at e
    obtain ⟨go, hyl⟩ := hgo ds[i] (List.getElem?_eq_getElem hil)
    unfold quantL at e
    refine .inr ⟨go, fun v H2 hyld => ?_⟩
    obtain ⟨w4, c4, x4, d4⟩ := hyl v H2 hyld
    have s4 := s1.ofCore c4.at (x.trans x4)
    split at e
    · rename_i ρ1 Sa h1
      refine eg ds[i] (wipeD ρ vs) S ρ1 Sa h1 w4 _ H2 v s4 d4 _ fun w5 σ5 H5 z5 s5 x5 => ⟨z5.trans wipe_wipe, ?_⟩
      split at e
      · rename_i Sb h2
        refine et ρ1 Sa true Sb h2 w5 σ5 H5 s5 _ fun w6 H6 s6 x6 => ?_
        rw [if_pos rfl]
        split at e
        · rename_i b Sc h3
          refine ee ρ1 Sb _ Sc h3 w6 σ5 H6 s6 _ fun w7 vy H7 s7 x7 d7 => ?_
          have xx := ((x4.trans x5).trans x6).trans x7
          cases den_bl d7
          refine ⟨by omega, ⟨b, rfl, fun hb => ?_⟩, fun hb => ?_⟩
          · rw [if_pos hb] at e
            cases e
            exact ⟨rfl, w7, s7.core.off, x.trans xx⟩
          · have hb : b = !stop := by cases hb; rfl
            rw [if_neg (by rw [hb]; cases stop <;> decide)] at e
            split at e
            · rename_i hck
              exact ⟨m, Nat.lt_succ_self m, w7, Sc, s7.core.off, x.trans xx, hck, by omega, by rw [List.length_append]; show acc.length + 1 ≤ i + 1; omega, e⟩
            · cases e
        · cases e
      · rename_i Sb h2
        refine et ρ1 Sa false Sb h2 w5 σ5 H5 s5 _ fun w6 H6 s6 x6 => ?_
        rw [if_neg (by decide)]
        split at e
        · rename_i hck
          have xx := (x4.trans x5).trans x6
          exact ⟨m, Nat.lt_succ_self m, w6, Sb, s6.core.off, x.trans xx, hck, by omega, by omega, e⟩
        · cases e
      · cases e
    · cases e
theorem gen_q {k : Nat} {stop : Bool} {pins : List (Addr × Obj)} {s : Shared} {σ : L2.St} {H : Hp} {ρ : En} {S S1 S2 : Sto} {w : Wd} {ds : List D} {chk : Sto → Prop} {r : Bool} (hr : Room 1 X.A) (hb : G.base = X.base) (hcv : G.cv = some X.env.code) (hc : X.calm = true) (hN : X.N.Nodup) (bm : ∃ P, X.base.BuiltinsAt X.mg P) (hi : DI X G tg iter ri) (ok : BlkOk X.N X.env.scope scope own)
    (hbd : GBody X G k scope (own.map (·.2)) tg ifs elt g tt te) (hco : scope.isCoroutine = false) (h0 : scope.names.lookup (".0" : Str) = some .local) (hs : ∀ v, genFold iter X.env v = pure v) (I : Inv X pins σ H s) (st : Sat G w ρ S σ H)
    (h1 : ri ρ S = some (ds, chk, S1)) (h2 : quantL stop g tt te chk (wipeD ρ (own.map (·.2))) ds S1 = some (r, S2)) :
    wpAny (model X.prog X.w) X.A (eval (.GeneratorExp elt [⟨tg, iter, ifs, 0⟩] scope gpos) X.env) (GMd X k pins σ ds.length (fun _ x H' => ∃ b, x = .bl b ∧ (b = stop → r = stop ∧ ∃ w', Core G w' S2 H' ∧ Ext w S H w' S2 H')) (fun _ x => x = .bl (!stop)) (fun _ H' => r = !stop ∧ ∃ w', Core G w' S2 H' ∧ Ext w S H w' S2 H')) X.xe s := by
  refine gx_made (k := k) hr hc hN hi.pi ok hco h0 bm hs I ?_
  refine evi_of ρ S ds chk S1 h1 w σ H st _ fun J w1 H1 s1 x1 jd hk => ?_
  obtain ⟨c, P, hcc, hT⟩ := s1.code _ hcv
  refine ⟨w1.tb, c, P, hcc, hb ▸ s1.core.tab, hT, fun H' T' c' P' t' hTT hT' gr s' L cl qn fp pn A hrA => ?_⟩
  obtain ⟨b1, b2, b3⟩ := hbd s' H' L cl qn c' fp pn A hrA
  obtain ⟨c2, x2⟩ := s1.core.grown (hb ▸ t') hTT gr
  have s2 : Sat (G.at (.ref c')) { w1 with tb := T' } (wipeD ρ (own.map (·.2))) S1 (L2.wipe σ (own.map (·.2))) H' := by
    have z := (s1.ofCore c2 x2).wipe (own.map (·.2))
    exact ⟨z.core.at, z.env, z.len, fun v hv => by cases hv; exact ⟨c', P', rfl, hT'⟩⟩
  obtain ⟨W, hW, ht⟩ := gturn_q (G := G) evg_of evt_of ev_of jd s2 x2 hk h2
  have xx := x1.trans x2
  refine ⟨_, _, _, W, b1.pg, b2.pts, b3.pe, hW, fun i m ys Hh hw => ?_⟩
  rcases ht i m ys Hh hw with ⟨a1, b1, w2, b2, b3⟩ | ⟨a1, z⟩
  · exact .inl ⟨a1, b1, w2, b2, xx.trans b3⟩
  · refine .inr ⟨a1, fun x H' hy => ?_⟩
    have z := z x H' hy
    obtain ⟨d, ρ2, Sx, ρ', S', w', z1, z2, z3, z4⟩ := z
    refine ⟨d, ρ2, Sx, ρ', S', w', z1, z2, z3, fun w'' σ' H'' y1 y2 y3 => ?_⟩
    obtain ⟨z5, ρa, Sa, b, Sa', wa, z6, z7, z8⟩ := z4 w'' σ' H'' y1 y2 y3
    refine ⟨z5, ρa, Sa, b, Sa', wa, z6, z7, fun wb Hb y4 y5 => ?_⟩
    have z9 := z8 wb Hb y4 y5
    cases b with
    | false => exact z9
    | true =>
      show teOf (G.at (Value.ref c')) te σ' Hb _
      obtain ⟨ρc, Sc, dc, Sc', wc, y6, y7, y8⟩ := z9
      refine ⟨ρc, Sc, dc, Sc', wc, y6, y7, fun wd vd Hd y9 y10 y11 => ?_⟩
      obtain ⟨u1, ⟨b, u2, u3⟩, u4⟩ := y8 wd vd Hd y9 y10 y11
      exact ⟨u1, ⟨b, u2, fun hb => let ⟨q1, w9, q2, q3⟩ := u3 hb; ⟨q1, w9, q2, xx.trans q3⟩⟩, u4⟩
theorem de_allGen {k : Nat} (hr : Room (k + 5) X.A) (hm : X.mg "all" = none) (hb : G.base = X.base) (hcv : G.cv = some X.env.code) (hc : X.calm = true) (hN : X.N.Nodup) (bm : ∃ P, X.base.BuiltinsAt X.mg P) (hi : DI X G tg iter ri) (ok : BlkOk X.N X.env.scope scope own)
    (hbd : GBody X G k scope (own.map (·.2)) tg ifs elt g tt te) (hg : Gl X "all" := by rfl) (hco : scope.isCoroutine = false := by rfl) (h0 : scope.names.lookup (".0" : Str) = some .local := by rfl) (hs : ∀ v, genFold iter X.env v = pure v := by intro _; rfl)
    (he : starEach [.GeneratorExp elt [⟨tg, iter, ifs, 0⟩] scope gpos] X.env = (false, eval (.GeneratorExp elt [⟨tg, iter, ifs, 0⟩] scope gpos) X.env) :: starEach [] X.env := by rfl) :
    DE X G (.Call (.Name "all" p) [.GeneratorExp elt [⟨tg, iter, ifs, 0⟩] scope gpos] [] pos) (eBl (tGenQ false ri g tt te (own.map (·.2)))) := by
  refine ⟨teOf G _, ⟨fun pins s σ H Q I ⟨ρ, S, d, S', w, e, st, q⟩ => ?_⟩, ev_of⟩
  unfold eBl tGenQ at e
  split at e
  · rename_i r S2 e0
    cases e
    split at e0
    · rename_i ds chk S1 h1
      refine wpAny_Call_Name_kw (ld_blt I hg hm boot_all ?_)
      refine PyProof.Rows.callWith_builtin1 ?_ he (by rfl)
      rw [he]
      show wpAny _ _ (spliced ((false, eval (.GeneratorExp elt [⟨tg, iter, ifs, 0⟩] scope gpos) X.env) :: backTo pos (starEach [] X.env))) _ _ s
      refine Calls.spliced_cons (thn (gen_q (stop := false) (hr.mono (by omega)) hb hcv hc hN bm hi ok hbd hco h0 hs I st h1 e0) fun u s1 hmd => ?_)
      refine Calls.spliced_nil ?_
      refine call_all_md (hr.mono (by omega)) I.ok.frames hmd (fun s2 H2 I2 ⟨hb2, w2, c2, x2⟩ => ?_) (fun s2 H2 I2 ⟨hb2, w2, c2, x2⟩ => ?_)
      · exact ⟨.bl true, H2, I2, rfl, q w2 _ H2 (st.ofCore c2 x2) x2 (by rw [hb2]; exact .bl true)⟩
      · exact ⟨.bl false, H2, I2, rfl, q w2 _ H2 (st.ofCore c2 x2) x2 (by rw [hb2]; exact .bl false)⟩
    · cases e0
  · cases e
theorem de_anyGen {k : Nat} (hr : Room (k + 5) X.A) (hm : X.mg "any" = none) (hb : G.base = X.base) (hcv : G.cv = some X.env.code) (hc : X.calm = true) (hN : X.N.Nodup) (bm : ∃ P, X.base.BuiltinsAt X.mg P) (hi : DI X G tg iter ri) (ok : BlkOk X.N X.env.scope scope own)
    (hbd : GBody X G k scope (own.map (·.2)) tg ifs elt g tt te) (hg : Gl X "any" := by rfl) (hco : scope.isCoroutine = false := by rfl) (h0 : scope.names.lookup (".0" : Str) = some .local := by rfl) (hs : ∀ v, genFold iter X.env v = pure v := by intro _; rfl)
    (he : starEach [.GeneratorExp elt [⟨tg, iter, ifs, 0⟩] scope gpos] X.env = (false, eval (.GeneratorExp elt [⟨tg, iter, ifs, 0⟩] scope gpos) X.env) :: starEach [] X.env := by rfl) :
    DE X G (.Call (.Name "any" p) [.GeneratorExp elt [⟨tg, iter, ifs, 0⟩] scope gpos] [] pos) (eBl (tGenQ true ri g tt te (own.map (·.2)))) := by
  refine ⟨teOf G _, ⟨fun pins s σ H Q I ⟨ρ, S, d, S', w, e, st, q⟩ => ?_⟩, ev_of⟩
  unfold eBl tGenQ at e
  split at e
  · rename_i r S2 e0
    cases e
    split at e0
    · rename_i ds chk S1 h1
      refine wpAny_Call_Name_kw (ld_blt I hg hm boot_any ?_)
      refine PyProof.Rows.callWith_builtin1 ?_ he (by rfl)
      rw [he]
      show wpAny _ _ (spliced ((false, eval (.GeneratorExp elt [⟨tg, iter, ifs, 0⟩] scope gpos) X.env) :: backTo pos (starEach [] X.env))) _ _ s
      refine Calls.spliced_cons (thn (gen_q (stop := true) (hr.mono (by omega)) hb hcv hc hN bm hi ok hbd hco h0 hs I st h1 e0) fun u s1 hmd => ?_)
      refine Calls.spliced_nil ?_
      refine call_any_md (hr.mono (by omega)) I.ok.frames hmd (fun s2 H2 I2 ⟨hb2, w2, c2, x2⟩ => ?_) (fun s2 H2 I2 ⟨hb2, w2, c2, x2⟩ => ?_)
      · exact ⟨.bl true, H2, I2, rfl, q w2 _ H2 (st.ofCore c2 x2) x2 (by rw [hb2]; exact .bl true)⟩
      · exact ⟨.bl false, H2, I2, rfl, q w2 _ H2 (st.ofCore c2 x2) x2 (by rw [hb2]; exact .bl false)⟩
    · cases e0
  · cases e
end
end DL

set_option maxRecDepth 100000
set_option maxHeartbeats 4000000
set_option pp.maxSteps 900
namespace DL
open PySem PySem.Spec PyProof.Rows L2 GX
open Classical

abbrev FD := List D → Sto → Option (D × Sto)
def SpD (G : Gc) (F : FD) : Sp := fun vs H Q _ => ∃ w S ds d S', Core G w S H ∧ DenL w S.length vs ds ∧ F ds S = some (d, S') ∧ ∀ w' v H', Core G w' S' H' → Ext w S H w' S' H' → Den w' S'.length v d → Q v H'
/-- a def of the text that computes F -/
structure DFn (P : Program) (wd : World) (G : Gc) (mg : Str → Option Value) (k : Nat) (x : Str) (f : Addr) (fd : FuncData) (ps : List Str) (F : FD) : Prop where
  ok : FnOk P wd G.K mg G.base CX0 k f fd ps (SpD G F)
  kp : PySem.W.keepIn G.K (.ref f) = true
  bd : Binds G.K fd ps []
  mg : mg x = some (.ref f)
section
variable {G : Gc} {X : Cx} {pos p : Pos} {e : Expr} {es : List Expr} {ra : RA} {x : Str} {f : Addr} {fd : FuncData} {ps : List Str} {F : FD} {k : Nat}
theorem sp_cv {G : Gc} {cv : Option Value} {F : FD} {vs : List V} {H : Hp} {Q : VK} {E : XK} {w : Wd} {S S' : Sto} {ds : List D} {d : D} (c : Core { G with cv := cv } w S H) (l : DenL w S.length vs ds) (e : F ds S = some (d, S'))
    (q : ∀ w' v H', Core { G with cv := cv } w' S' H' → Ext w S H w' S' H' → Den w' S'.length v d → Q v H') : SpD G F vs H Q E :=
  ⟨w, S, ds, d, S', ⟨c.sub, c.fro, c.cel, c.inj, c.tab, c.t0⟩, l, e, fun w' v H' c' x d => q w' v H' ⟨c'.sub, c'.fro, c'.cel, c'.inj, c'.tab, c'.t0⟩ x d⟩
theorem ev_call {cv : Option Value} {E : XK} {ta : TA} (ha : EvA { G with cv := cv } ta ra) : Ev { G with cv := cv } (tCall (SpD G F) [] E ta) (eA F ra) := fun ρ S d S' e w σ H s Q q => by
  unfold eA at e
  split at e
  · rename_i xs S1 h1
    refine ha ρ S xs S1 h1 w σ H s _ fun w1 vs H1 s1 x1 d1 => ?_
    rw [List.append_nil]
    exact sp_cv s1.core d1 e fun w2 v H2 c2 x2 d2 => q w2 v H2 (s1.ofCore c2 x2) (x1.trans x2) d2
  · cases e
theorem de_call {cv : Option Value} (hf : DFn X.prog X.w G X.mg k x f fd ps F) (hr : Room k X.A) (hK : X.K = G.K) (hB : X.base = G.base) (ha : DA X { G with cv := cv } (e :: es) ra) (hg : Gl X x := by rfl) (hdb : (x == ("__debug__" : Str)) = false := by decide)
    (he : starEach (e :: es) X.env = (false, eval e X.env) :: starEach es X.env := by rfl) (hpl : (backTo pos (starEach es X.env)).any (·.1) = false := by rfl) : DE X { G with cv := cv } (.Call (.Name x p) (e :: es) [] pos) (eA F ra) :=
  let ⟨_, pa, ea⟩ := ha
  ⟨_, pe_call (E := E0) (by rw [hK, hB]; exact hf.ok) hr hg hf.mg (by rw [hK]; exact hf.kp) (by rw [hK]; exact hf.bd) .nil pass0 pa hdb he hpl, ev_call ea⟩

/-! ### the end of a def -/
mutual
@[simp] def clos (n : Nat) : D → Bool
  | .obj k => decide (k < n)
  | .tup xs => closL n xs
  | .lst xs => closL n xs
  | .scr xs => closL n xs
  | _ => true
@[simp] def closL (n : Nat) : List D → Bool
  | [] => true
  | x :: r => clos n x && closL n r
end
mutual
theorem Den.clos {w : Wd} {n m : Nat} : ∀ {v : V} {d : D}, Den w n v d → clos m d = true → Den w m v d
  | _, _, .non, _ => .non
  | _, _, .bl b, _ => .bl b
  | _, _, .int i, _ => .int i
  | _, _, .str x, _ => .str x
  | _, _, .tup r h, e => .tup r (DenL.clos h (by simpa [DL.clos] using e))
  | _, _, .lst r h, e => .lst r (DenL.clos h (by simpa [DL.clos] using e))
  | _, _, .scr r h, e => .scr r (DenL.clos h (by simpa [DL.clos] using e))
  | _, _, .obj h, e => .obj (by simpa [DL.clos] using e)
theorem DenL.clos {w : Wd} {n m : Nat} : ∀ {v : List V} {d : List D}, DenL w n v d → closL m d = true → DenL w m v d
  | _, _, .nil, _ => .nil
  | _, _, .cons h t, e => by
    have e : (DL.clos m _ && closL m _) = true := e
    rw [Bool.and_eq_true] at e
    exact .cons (Den.clos h e.1) (DenL.clos t e.2)
end
mutual
theorem Den.is_clos {w : Wd} {n : Nat} : ∀ {v : V} {d : D}, Den w n v d → clos n d = true
  | _, _, .non => rfl
  | _, _, .bl b => rfl
  | _, _, .int i => rfl
  | _, _, .str x => rfl
  | _, _, .tup r h => DenL.is_clos h
  | _, _, .lst r h => DenL.is_clos h
  | _, _, .scr r h => DenL.is_clos h
  | _, _, .obj h => decide_eq_true h
theorem DenL.is_clos {w : Wd} {n : Nat} : ∀ {v : List V} {d : List D}, DenL w n v d → closL n d = true
  | _, _, .nil => rfl
  | _, _, .cons h t => by
    show (DL.clos n _ && closL n _) = true
    rw [h.is_clos, t.is_clos]; rfl
end
theorem DenK.clos {w : Wd} {n m : Nat} {kvs : List (D × D)} {xs : List (NestedKey × Addr × Value)} (h : DenK w n kvs xs) (e : kvs.all (fun p => DL.clos m p.1 && DL.clos m p.2) = true) : DenK w m kvs xs := by
  induction h with
  | nil => exact .nil
  | cons h1 h2 h3 h4 h5 _ ih =>
    rw [List.all_cons, Bool.and_eq_true, Bool.and_eq_true] at e
    exact .cons h1 h2 (h3.clos e.1.1) h4 (h5.clos e.1.2) (ih e.2)
theorem DenK.is_clos {w : Wd} {n : Nat} {kvs : List (D × D)} {xs : List (NestedKey × Addr × Value)} (h : DenK w n kvs xs) : kvs.all (fun p => DL.clos n p.1 && DL.clos n p.2) = true := by
  induction h with
  | nil => rfl
  | cons h1 h2 h3 h4 h5 _ ih => rw [List.all_cons, ih, h3.is_clos, h5.is_clos]; rfl
@[simp] def cellClos (n : Nat) : Cell → Bool
  | .lst xs => closL n xs
  | .dct kvs => kvs.all fun p => clos n p.1 && clos n p.2
  | _ => true
theorem Core.cell_clos {w : Wd} {S : Sto} {H : Hp} (c : Core G w S H) : ∀ ce ∈ S, cellClos S.length ce = true := fun ce h => by
  obtain ⟨k, hk⟩ := List.getElem?_of_mem h
  obtain ⟨_, _, h4⟩ := c.cel k ce hk
  cases ce with
  | lst ds => obtain ⟨vs, _, l⟩ := h4; exact l.is_clos
  | dct _ => obtain ⟨xs, _, _, _, l⟩ := h4; exact l.is_clos
  | dead => rfl
/-- what lies behind the first n is forgotten -/
theorem Core.take {w0 w : Wd} {S0 S : Sto} {H0 H : Hp} (c : Core G w S H) (x : Ext w0 S0 H0 w S H) (hc : ∀ ce ∈ S.take S0.length, cellClos S0.length ce = true) :
    Core G w (S.take S0.length) H ∧ Ext w0 S0 H0 w (S.take S0.length) H := by
  have ln : (S.take S0.length).length = S0.length := by rw [List.length_take]; have := x.sz; omega
  refine ⟨⟨c.sub, c.fro, fun k ce h => ?_, fun j k hj hk e => ?_, c.tab, c.t0⟩, ⟨x.al, x.fr, x.tb, by rw [ln]; exact Nat.le_refl _, fun k h1 h2 => by rw [ln] at h2; omega, x.keep, x.non, x.frn⟩⟩
  · have hk : k < S0.length := by have := (List.getElem?_eq_some_iff.mp h).1; rw [ln] at this; exact this
    have hm : ce ∈ S.take S0.length := List.mem_of_getElem? h
    rw [List.getElem?_take_of_lt hk] at h
    obtain ⟨h1, h2, h4⟩ := c.cel k ce h
    refine ⟨h1, h2, ?_⟩
    have hcc := hc ce hm
    cases ce with
    | lst ds => obtain ⟨vs, e, l⟩ := h4; exact ⟨vs, e, by rw [ln]; exact l.clos hcc⟩
    | dct _ => obtain ⟨xs, e, r1, r2, l⟩ := h4; exact ⟨xs, e, r1, r2, by rw [ln]; exact l.clos hcc⟩
    | dead => trivial
  · rw [ln] at hj hk
    have := x.sz
    exact c.inj j k (by omega) (by omega) e
/-- how a def ends: the result and the store for the caller -/
def FinOk (fin : D → Sto → Sto → Option (D × Sto)) : Prop := ∀ (G : Gc) (w0 w : Wd) (S0 S S' : Sto) (H0 H : Hp) (v : V) (d d' : D), Core G w0 S0 H0 → Core G w S H → Ext w0 S0 H0 w S H → Den w S.length v d → fin d S0 S = some (d', S') →
  ∃ w', Core G w' S' H ∧ Ext w0 S0 H0 w' S' H ∧ Den w' S'.length v d'
/-- all stays -/
@[simp] def finK : D → Sto → Sto → Option (D × Sto) := fun d _ S => some (d, S)
theorem finK_ok : FinOk finK := fun G w0 w S0 S S' H0 H v d d' c0 c x hd e => by cases e; exact ⟨w, c, x, hd⟩
/-- own lists are forgotten, a returned one is frozen -/
@[simp] def frzD (n : Nat) (d : D) (S : Sto) : Option D := match d with
  | .obj k => if k < n then some (.obj k) else (match S[k]? with | some (.lst xs) => if closL n xs = true then some (.lst xs) else none | _ => none)
  | d => if clos n d = true then some d else none
theorem frz_ok {w0 w : Wd} {S0 S : Sto} {H0 H : Hp} {v : V} {d d' : D} (c : Core G w S H) (x : Ext w0 S0 H0 w S H) (hd : Den w S.length v d) (e : frzD S0.length d S = some d') (hc : ∀ ce ∈ S.take S0.length, cellClos S0.length ce = true) :
    ∃ w', Core G w' (S.take S0.length) H ∧ Ext w0 S0 H0 w' (S.take S0.length) H ∧ Den w' (S.take S0.length).length v d' := by
  have ln : (S.take S0.length).length = S0.length := by rw [List.length_take]; have := x.sz; omega
  obtain ⟨c1, x1⟩ := c.take x hc
  unfold frzD at e
  split at e
  · rename_i k
    split at e
    · rename_i hk
      cases e
      exact ⟨w, c1, x1, hd.clos (by rw [ln]; exact decide_eq_true hk)⟩
    · rename_i hk
      split at e
      · rename_i xs hx
        split at e
        · rename_i hcl
          cases e
          have hkl : k < S.length := (List.getElem?_eq_some_iff.mp hx).1
          obtain ⟨g1, _, vs, g3, l⟩ := c.cel k _ hx
          cases hd with
          | obj _ =>
            have al : ∀ j, j < (S.take S0.length).length → w.al j ≠ w.al k := fun j hj z => by
              rw [ln] at hj
              have := c.inj j k (by have := x.sz; omega) hkl z
              omega
            refine ⟨_, c1.freeze g3 (.inr ⟨vs, rfl⟩) g1 al, ⟨x1.al, fun b u e => ?_, x1.tb, x1.sz, x1.new, x1.keep, x1.non, fun b u e => ?_⟩, den_newL (l.clos (by rw [ln]; exact hcl)) g1⟩
            · have e := x1.fr b u e
              show upd w.fr (w.al k) _ b = some u
              rw [upd_ne (ne_of_none e g1)]; exact e
            · by_cases h : b = w.al k
              · exact .inr (.inl (by rw [h]; exact x.new k (Nat.not_lt.mp hk) hkl))
              · have e : upd w.fr (w.al k) (.lst vs) b = some u := e
                rw [upd_ne h] at e; exact x1.frn b u e
        · cases e
      · cases e
  · split at e
    · rename_i hcl
      cases e
      exact ⟨w, c1, x1, hd.clos (by rw [ln]; exact hcl)⟩
    · cases e
/-- .. the store is as it was -/
@[simp] noncomputable def finP : D → Sto → Sto → Option (D × Sto) := fun d S0 S => match frzD S0.length d S with
  | some d' => if S.take S0.length = S0 then some (d', S0) else none
  | none => none
theorem finP_ok : FinOk finP := fun G w0 w S0 S S' H0 H v d d' c0 c x hd e => by
  unfold finP at e
  split at e
  · rename_i d2 h2
    split at e
    · rename_i ht
      cases e
      obtain ⟨w', c', x', d'⟩ := frz_ok c x hd h2 (by rw [ht]; exact c0.cell_clos)
      rw [ht] at c' x' d'
      exact ⟨w', c', x', d'⟩
    · cases e
  · cases e
/-- .. the store may have changed -/
@[simp] def finM : D → Sto → Sto → Option (D × Sto) := fun d S0 S => match frzD S0.length d S with
  | some d' => if ((S.take S0.length).all (cellClos S0.length)) = true then some (d', S.take S0.length) else none
  | none => none
theorem finM_ok : FinOk finM := fun G w0 w S0 S S' H0 H v d d' c0 c x hd e => by
  unfold finM at e
  split at e
  · rename_i d2 h2
    split at e
    · rename_i ht
      cases e
      exact frz_ok c x hd h2 (by rw [List.all_eq_true] at ht; exact ht)
    · cases e
  · cases e
/-- a def: n parameters, m names -/
@[simp] def startD (m : Nat) (ds : List D) : En := ds.map some ++ List.replicate (m - ds.length) none
@[simp] def fnD (n m : Nat) (fin : D → Sto → Sto → Option (D × Sto)) (t : RS) : FD := fun ds S => if ds.length = n then (match t (startD m ds) S with
  | some (.rt d S1) => fin d S S1
  | some (.nx _ S1) => fin .non S S1
  | _ => none) else none
theorem sat_start {cv : Option Value} {w : Wd} {S : Sto} {H : Hp} {vs : List V} {ds : List D} {N : List Str} (c : Core G w S H) (l : DenL w S.length vs ds) (hcv : ∀ v, cv = some v → ∃ c P, v = .ref c ∧ G.t0 c P) : Sat { G with cv := cv } w (startD N.length ds) S (start N vs) H := by
  refine ⟨⟨c.sub, c.fro, c.cel, c.inj, c.tab, c.t0⟩, fun i d h => ?_, ?_, fun v hv => let ⟨a, b, h1, h2⟩ := hcv v hv; ⟨a, b, h1, c.t0 _ _ h2⟩⟩
  · unfold startD at h
    by_cases hi : i < ds.length
    · rw [List.getElem?_append_left (by simpa using hi), List.getElem?_map] at h
      cases q : ds[i]? with
      | none => rw [q] at h; cases h
      | some d0 =>
        rw [q] at h
        cases h
        obtain ⟨v, hv, dv⟩ := l.get q
        refine ⟨v, ?_, dv⟩
        unfold L2.start
        rw [List.getElem?_append_left (by rw [List.length_map, l.len]; exact hi), List.getElem?_map, hv]
        rfl
    · rw [List.getElem?_append_right (by simpa using hi), List.getElem?_replicate] at h
      split at h <;> cases h
  · unfold startD L2.start
    simp only [List.length_append, List.length_map, List.length_replicate, l.len]
theorem fn_d {P : Program} {wd : World} {mg : Str → Option Value} {name qual : Str} {params : Arguments} {body : List Stmt} {scope : Scope} {dV kV doc pm cdv ct oc : Value} {an od : Option Addr} {osl : Array (Option Value)} {N : List Str} {fin : D → Sto → Sto → Option (D × Sto)} {t : RS} {cv : Option Value}
    (lk : G.K.lookup f = some ⟨oc, od, .func (PySem.W.fnOf name qual params body scope dV kV doc pm an cdv ct), osl⟩) (hcd : PySem.W.codeIn G.K cdv qual = true) (Sc : FnScope N ps scope) (hfin : FinOk fin)
    (hcv : ∀ v, cv = some v → ∃ c P, v = .ref c ∧ G.t0 c P)
    (hbody : ∀ (A : Around) (outer : List Env) (s : Shared) (H : Hp) (E : XK), Room k (A.deeper (envOfC qual scope s.heap.objs.size f cdv)) → DSs (cxOf CX0 P wd G.K mg G.base N qual scope f cdv A outer s H E).nox { G with cv := cv } body t) :
    FnOk P wd G.K mg G.base CX0 (k + 1) f (PySem.W.fnOf name qual params body scope dV kV doc pm an cdv ct) ps (SpD G (fnD ps.length N.length fin t)) := by
  refine fn_of lk hcd Sc (fun vs H Q E h => ?_) fun A outer s H vs Q E hr h => ?_
  · obtain ⟨w, S, ds, d, S', c, l, e, q⟩ := h
    unfold fnD at e
    split at e
    · rename_i hl; rw [l.len]; exact hl
    · cases e
  · obtain ⟨w, S, ds, d, S', c, l, e, q⟩ := h
    unfold fnD at e
    split at e
    · rename_i hl
      obtain ⟨ts, p, ev⟩ := hbody A outer s H E hr
      have st := sat_start (N := N) (cv := cv) c l hcv
      split at e
      · rename_i d1 S1 h1
        refine ⟨ts, p.nox, ev _ _ _ h1 w _ H st _ fun w1 v H1 c1 x1 d1 => ?_⟩
        have c1 : Core G w1 S1 H1 := ⟨c1.sub, c1.fro, c1.cel, c1.inj, c1.tab, c1.t0⟩
        obtain ⟨w2, c2, x2, d2⟩ := hfin G w w1 S S1 S' H H1 v _ d c c1 x1 d1 e
        exact q w2 v H1 c2 x2 d2
      · rename_i ρ1 S1 h1
        refine ⟨ts, p.nox, ev _ _ _ h1 w _ H st _ fun w1 σ1 H1 s1 x1 => ?_⟩
        have c1 : Core G w1 S1 H1 := ⟨s1.core.sub, s1.core.fro, s1.core.cel, s1.core.inj, s1.core.tab, s1.core.t0⟩
        obtain ⟨w2, c2, x2, d2⟩ := hfin G w w1 S S1 S' H H1 .non _ d c c1 x1 .non e
        exact q w2 .non H1 c2 x2 d2
      · cases e
    · cases e
end
end DL

set_option maxRecDepth 100000
set_option maxHeartbeats 4000000
set_option pp.maxSteps 900
namespace DL
open PySem PySem.Spec PyProof.Rows L2 GX
open Classical

/-! ### a list or a tuple -/
inductive SK where | l | t
def SqX (k : SK) (K : PySem.W.Frag) (H : Hp) (a : Addr) (xs : List V) : Prop := match k with | .l => SqL K H a xs | .t => SqT K H a xs
def IsX (k : SK) (h : Heap) (a : Addr) (its : Array Value) : Prop := match k with | .l => h.IsList a its | .t => h.IsTuple a its
def ItX (k : SK) (h : Heap) (it a : Addr) (i : Nat) : Prop := match k with | .l => h.IsListIter it a i | .t => h.IsTupleIter it a i
def obX (k : SK) (a : Addr) : Obj := match k with | .l => { cls := .type "list_iterator", data := .fields #[.ref a, .int 0 0] } | .t => { cls := .type "tuple_iterator", data := .fields #[.ref a, .int 0 0] }
section
variable {X : Cx} {G : Gc} {pins : List (Addr × Obj)} {σ : L2.St} {H : Hp} {s : Shared} {a : Addr} {xs ys : List V} {k k2 : SK}
theorem inv_sx (I : Inv X pins σ H s) (h : SqX k X.K H a xs) : ∃ its : List Value, Vals xs its ∧ IsX k s.heap a its.toArray ∧ a < s.heap.objs.size := by
  cases k with
  | l => obtain ⟨its, r, p, _⟩ := I.list h; exact ⟨its, r, p.isList, p.lt⟩
  | t => obtain ⟨its, r, p, _⟩ := I.tuple h; exact ⟨its, r, p, let ⟨o, e, _⟩ := p; Heap.lt_size e⟩
theorem sx_inj (I : Inv X pins σ H s) (h : SqX k X.K H a xs) (h' : SqX k X.K H a ys) : xs = ys := by
  cases k with
  | l => exact I.list_inj h h'
  | t => exact I.tuple_inj h h'
theorem dr_x {prog : Program} {w : World} {A : Around} (hh : A.handled = none) (it : Addr) (hne : a ≠ it) (items : Array Value) : Draws prog w A it [it, a] items.size (fun i v => items[i]? = some v) (fun i h => ItX k h it a i ∧ IsX k h a items) := by
  cases k with
  | l => exact Draws.list hh it a hne items
  | t => exact Draws.tuple hh it a hne items
theorem bg_x (items : Array Value) : Begins (.ref a) (obX k a) fun h => IsX k h a items := by
  cases k with
  | l => exact begins_list a items
  | t => exact begins_tuple a items
theorem it_new {h : Heap} {it : Addr} (e : h.get? it = some (obX k a)) : ItX k h it a 0 := by
  cases k with
  | l => exact ⟨_, e, rfl, rfl⟩
  | t => exact ⟨_, e, rfl, rfl⟩
theorem it_at {h h' : Heap} {it : Addr} {i : Nat} (x : ItX k h it a i) (e : ∀ o, h.get? it = some o → h'.get? it = some o) : ItX k h' it a i := by
  cases k with
  | l => exact Heap.IsListIter.at x e
  | t => exact Heap.IsTupleIter.at x e
theorem it_obj {h : Heap} {it : Addr} {i : Nat} (x : ItX k h it a i) : ∃ o, h.get? it = some o ∧ ∀ v, o.data ≠ .cell v := by
  cases k with
  | l => obtain ⟨o, e, _, d⟩ := x; exact ⟨o, e, fun v q => by rw [d] at q; cases q⟩
  | t => obtain ⟨o, e, _, d⟩ := x; exact ⟨o, e, fun v q => by rw [d] at q; cases q⟩
theorem is_at {h h' : Heap} {its : Array Value} (x : IsX k h a its) (e : ∀ o, h.get? a = some o → h'.get? a = some o) : IsX k h' a its := by
  cases k with
  | l => exact Heap.IsList.at x e
  | t => exact Heap.IsTuple.at x e

/-! ### enumerate -/
def ItE (k : SK) (K : PySem.W.Frag) (a : Addr) : It :=
  ⟨fun i H => ∃ (xs : List V) (x : V), SqX k K H a xs ∧ xs[i]? = some x, fun i H v H' => ∃ T x, v = .ref T ∧ H T = none ∧ H' = upd H T (.tup [.int (i : Nat), x]) ∧ ∀ xs, SqX k K H a xs → xs[i]? = some x, fun i H => ∃ xs : List V, SqX k K H a xs ∧ xs.length = i⟩
theorem turn_e {P : Program} {w : World} {K : PySem.W.Frag} {elts : List Expr} {kk : Nat} {tpos : Pos} (e it : Addr) (hei : e ≠ it) (hea : e ≠ a) (hia : a ≠ it) :
    L2.Turn P w K (.Tuple elts kk tpos) (ItE k K a) [e, it] e (fun i h => (∃ old, IsEnum h e it ((i : Nat) : Int) old) ∧ ItX k h it a i) where
  mem := by simp
  obj := fun i h st b hb => by
    obtain ⟨⟨old, he⟩, hit⟩ := st
    have z : b = e ∨ b = it := by simpa using hb
    rcases z with z | z
    · rw [z]; exact ⟨_, he, fun v q => nomatch q⟩
    · rw [z]; exact it_obj hit
  keep := fun i h h' st q => let ⟨⟨old, he⟩, hi⟩ := st; ⟨⟨old, q e (by simp) _ he⟩, it_at hi fun o z => q it (by simp) o z⟩
  item := by
    intro X hP hw hK hc i pins s σ H E I hf st hg
    subst hP hw hK
    obtain ⟨⟨old, he⟩, hit⟩ := st
    obtain ⟨xs, x, hq, hx⟩ := hg
    obtain ⟨its, rv, p, hal⟩ := inv_sx I hq
    obtain ⟨u, hu, ru⟩ := rv.get hx
    have hel : e < s.heap.objs.size := Heap.lt_size he
    have hil : it < s.heap.objs.size := by obtain ⟨_, q, _⟩ := it_obj hit; exact Heap.lt_size q
    have hlt : i < its.toArray.size := by
      rw [List.size_toArray, ← rv.length]
      exact (List.getElem?_eq_some_iff.mp hx).1
    refine wpAny_pyNext_enum_itemD (dr_x (A := X.A.in1) (k := k) (I.ok.hd hc) it hia its.toArray) he ⟨hit, p⟩ hlt hei (by simp [hei, hea]) fun u' h' tk hu' ho st' hT hsz hk => ?_
    have eu : u' = u := by
      have z : its.toArray[i]? = some u := by simpa using hu
      rw [z] at hu'; cases hu'; rfl
    subst eu
    refine ⟨_, rfl, wpAny_letOwnedTupleGo_enum (s := { s with heap := h', toks := tk + 1 }) ho fun h'' he' sb => ?_⟩
    have hT2 : h''.get? s.heap.objs.size = some { cls := .type "tuple", data := .seq #[.int i tk, u'] } := (sb.2 _ (Nat.ne_of_gt hel)).trans hT
    have new : ObjOk X.prog X.w (upd H s.heap.objs.size (.tup [.int (i : Nat), x])) h'' s.heap.objs.size (.tup [.int (i : Nat), x]) :=
      ⟨by show 2 ≤ sizeLine; decide, [.int i tk, u'], .cons ⟨_, rfl⟩ (.cons ru .nil), ⟨_, hT2, rfl, _, rfl⟩⟩
    have I1 : Inv X pins σ (upd H s.heap.objs.size (.tup [.int (i : Nat), x])) { s with heap := h'', toks := tk + 1 } :=
      I.turnedNew (ch := [e, it]) (fun b ob hb q => (sb.2 b (fun z => hb (by simp [z]))).trans (hk b ob (fun z => hb (by simp [z])) (fun z => hb (by simp [z])) q)) hf (Nat.le_refl _) new
    refine ⟨.ref s.heap.objs.size, _, I1, rfl, ⟨_, x, rfl, I.hok.fresh (Nat.le_refl _), rfl, fun l hl => by rw [sx_inj I hl hq]; exact hx⟩, ⟨⟨u', ?_⟩, it_at st'.1 fun o q => (sb.2 it (Ne.symm hei)).trans q⟩, fun b hb => ?_⟩
    · have e1 : ((i + 1 : Nat) : Int) = (i : Int) + 1 := by omega
      rw [e1]; exact he'
    · have hb2 : b < s.heap.objs.size := by
        have z : b = e ∨ b = it := by simpa using hb
        rcases z with z | z
        · rw [z]; exact hel
        · rw [z]; exact hil
      rw [upd_ne (Nat.ne_of_lt hb2)]
      exact (hf b hb).1
  done := by
    intro X hP hw hK hc i pins s σ H E I hf st hg
    subst hP hw hK
    obtain ⟨⟨old, he⟩, hit⟩ := st
    obtain ⟨xs, hq, hx⟩ := hg
    obtain ⟨its, rv, p, hal⟩ := inv_sx I hq
    obtain ⟨f0, f1, f2, f3, f4, f5⟩ := hf it (by simp)
    have hi : i = its.toArray.size := by rw [List.size_toArray, ← rv.length]; exact hx.symm
    refine wpAny_pyNext_enum_endD (dr_x (A := X.A.in1) (k := k) (I.ok.hd hc) it hia its.toArray) he ⟨by rw [← hi]; exact hit, p⟩ fun h' eb => ⟨rfl, I.turned (t' := s.toks) (fun b o hb q => eb b o hb q) f0 f1 f3 f4 f5⟩
  self := fun A i s Q E st h => let ⟨⟨_, he⟩, _⟩ := st; wpAny_pyIter_enum he h
theorem meets_enum1 {v : Value} {o : Obj} {Hh : Heap → Prop} (B : Begins v o Hh) :
    Meets (Builtin.«enumerate.__new__» ⟨[.type "enumerate", v], []⟩) (fun _ R s => Hh s.heap ∧
      R (.ok (.ret (.ref (s.heap.push o).objs.size))) { s with heap := (s.heap.push o).push { cls := .type "enumerate", data := .fields #[.none, .bool false, .ref s.heap.objs.size, rawInt 0, .none, .none] } }) :=
  .of_wp fun prog w A R s h => by
    obtain ⟨hp, g, d, tk, os⟩ := s
    obtain ⟨h1, h⟩ := h
    have hsub := sub_enumerate
    have q1 : ∀ {A' : Around} {E : Value → Shared → Prop} {Q : Value → Shared → Prop}, Q (.ref hp.objs.size) ⟨hp.push o, g, d, tk, os⟩ → wpAny (model prog w) A' (pyIter v) Q E ⟨hp, g, d, tk, os⟩ :=
      fun q => B.iter prog w _ _ ⟨hp, g, d, tk, os⟩ _ h1 q
    wp_walk using q1
    refine wpAny_stack_any fun st => wpAny_pure ?_
    split
    · rename_i c _ _ _ _ _
      cases (c == Value.type "enumerate")
      · wp_walk using q1
        exact ⟨_, rfl, h⟩
      · wp_walk using q1
        exact ⟨_, rfl, h⟩
    · wp_walk using q1
      exact ⟨_, rfl, h⟩
theorem enum1_begins {prog : Program} {w : World} {A : Around} {E : Value → Shared → Prop} {s : Shared} {v : Value} {o : Obj} {Hh : Heap → Prop} {Q : Value → Shared → Prop} (B : Begins v o Hh) (h1 : Hh s.heap)
    (h : ∀ h', IsEnum h' (s.heap.objs.size + 1) s.heap.objs.size 0 .none → h'.get? s.heap.objs.size = some o → (∀ b o, s.heap.get? b = some o → h'.get? b = some o) → Q (.ref (s.heap.objs.size + 1)) { s with heap := h' }) :
    wpAny (model prog w) A (call (.type "enumerate") [v]) Q E s := by
  refine callType_new F.called_enumerate (by decide) (F.typeCall_enumerate_1 _) (F.newCall_enumerate_1 _) (fun obj => F.args_object_init_2 obj _) F.entry_enumerate_new (meets_enum1 B) ⟨h1, ?_⟩
  have hz : (s.heap.push o).objs.size = s.heap.objs.size + 1 := Heap.size_push ..
  show _ ∧ _
  rw [hz]
  have he : IsEnum ((s.heap.push o).push { cls := .type "enumerate", data := .fields #[.none, .bool false, .ref s.heap.objs.size, rawInt 0, .none, .none] }) (s.heap.objs.size + 1) s.heap.objs.size 0 .none := by
    have q := Heap.get?_push_size (s.heap.push o) (o := { cls := .type "enumerate", data := .fields #[.none, .bool false, .ref s.heap.objs.size, rawInt 0, .none, .none] }) rfl
    rw [hz] at q; exact q
  exact ⟨⟨_, he, rfl⟩, h _ he (Heap.get?_push_of_some _ (Heap.get?_push_size _ B.free)) fun b o x => Heap.get?_push_of_some _ (Heap.get?_push_of_some _ x)⟩
def iEnX (K : PySem.W.Frag) (ta : TA) : TI := fun σ H R => ta σ H fun vs H1 => ∃ k a xs, vs = [.ref a] ∧ SqX k K H1 a xs ∧ R (ItE k K a) H1
theorem pi_enX {X : Cx} {e : Expr} {ta : TA} {p pos tpos : Pos} {elts : List Expr} {kk : Nat} (hg : Gl X "enumerate") (hm : X.mg "enumerate" = none) (ha : PA X [e] ta) (hs : starEach [e] X.env = [(false, eval e X.env)] := by rfl) :
    PI X (.Tuple elts kk tpos) (.Call (.Name "enumerate" p) [e] [] pos) (iEnX X.K ta) := by
  refine ⟨fun pins s σ H R I h => ?_⟩
  refine Call_ (ld_blt I hg hm boot_enumerate (PyProof.Rows.callWith_type1 (thn (ha.run pos pins s σ H _ I h) fun us s1 ⟨vs, H1, I1, r1, q1⟩ => ?_) hs rfl))
  obtain ⟨k, a, xs, ex, hq, q⟩ := q1
  subst ex
  cases r1 with
  | cons r rr =>
    cases rr
    cases r
    obtain ⟨its, rv, p', hal⟩ := inv_sx I1 hq
    refine enum1_begins (bg_x (k := k) its.toArray) p' fun h' he hit hk => wpAny_pyIter_enum he ?_
    have I2 : Inv X pins σ H1 { s1 with heap := h' } := I1.kept (t' := s1.toks) hk
    refine ⟨s1.heap.objs.size + 1, [s1.heap.objs.size + 1, s1.heap.objs.size], _, _, H1, rfl, I2, turn_e (k := k) (a := a) (s1.heap.objs.size + 1) s1.heap.objs.size (Nat.succ_ne_self _) (Nat.ne_of_gt (Nat.lt_succ_of_lt hal)) (Nat.ne_of_lt hal), ⟨⟨.none, he⟩, it_new hit⟩, fun b hb => ?_, q⟩
    have z : b = s1.heap.objs.size + 1 ∨ b = s1.heap.objs.size := by simpa using hb
    have hle : s1.heap.objs.size ≤ b := by
      rcases z with z | z
      · rw [z]; exact Nat.le_add_right _ _
      · rw [z]; exact Nat.le_refl _
    exact I1.fpOk hle (I1.hok.fresh hle)

/-! ### zip of two -/
def ItZ (k k2 : SK) (K : PySem.W.Frag) (a b : Addr) : It :=
  ⟨fun i H => ∃ (xs ys : List V) (x y : V), SqX k K H a xs ∧ SqX k2 K H b ys ∧ xs[i]? = some x ∧ ys[i]? = some y,
    fun i H v H' => ∃ T x y, v = .ref T ∧ H T = none ∧ H' = upd H T (.tup [x, y]) ∧ (∀ xs, SqX k K H a xs → xs[i]? = some x) ∧ ∀ ys, SqX k2 K H b ys → ys[i]? = some y,
    fun i H => ∃ xs ys : List V, SqX k K H a xs ∧ SqX k2 K H b ys ∧ i ≤ xs.length ∧ i ≤ ys.length ∧ (i = xs.length ∨ i = ys.length)⟩
theorem turn_z {P : Program} {w : World} {K : PySem.W.Frag} {elts : List Expr} {kk : Nat} {tpos : Pos} {b z TI TO i1 i2 : Addr} (Sp : ZipSep2 z TI TO i1 i2 [i1, a] [i2, b]) (ha : a ≠ i1) (hb : b ≠ i2) :
    L2.Turn P w K (.Tuple elts kk tpos) (ItZ k k2 K a b) [z, TI, TO, i1, i2] z (fun i h => IsZip h z TI TO .none ∧ IsTupOf2 h TI (.ref i1) (.ref i2) ∧ (∃ x y, IsTupOf2 h TO x y) ∧ ItX k h i1 a i ∧ ItX k2 h i2 b i) where
  mem := by simp
  obj := fun i h st c hc => by
    obtain ⟨hz, hTI, ⟨x, y, hTO⟩, h1, h2⟩ := st
    have q : c = z ∨ c = TI ∨ c = TO ∨ c = i1 ∨ c = i2 := by simpa using hc
    rcases q with q | q | q | q | q
    · rw [q]; exact ⟨_, hz, fun v q => nomatch q⟩
    · rw [q]; exact ⟨_, hTI, fun v q => nomatch q⟩
    · rw [q]; exact ⟨_, hTO, fun v q => nomatch q⟩
    · rw [q]; exact it_obj h1
    · rw [q]; exact it_obj h2
  keep := fun i h h' st k => by
    obtain ⟨hz, hTI, ⟨x, y, hTO⟩, h1, h2⟩ := st
    exact ⟨k z (by simp) _ hz, k TI (by simp) _ hTI, ⟨x, y, k TO (by simp) _ hTO⟩, it_at h1 fun o q => k i1 (by simp) o q, it_at h2 fun o q => k i2 (by simp) o q⟩
  item := by
    intro X hP hw hK hc i pins s σ H E I hf st hg
    subst hP hw hK
    obtain ⟨hz, hTI, ⟨x0, y0, hTO⟩, h1, h2⟩ := st
    obtain ⟨xs, ys, x, y, hqx, hqy, hx, hy⟩ := hg
    obtain ⟨its, rv, p, _⟩ := inv_sx I hqx
    obtain ⟨its2, rv2, p2, _⟩ := inv_sx I hqy
    obtain ⟨u, hu, ru⟩ := rv.get hx
    obtain ⟨u2, hu2, ru2⟩ := rv2.get hy
    have hzl : z < s.heap.objs.size := Heap.lt_size hz
    have lt1 : i < its.toArray.size := by rw [List.size_toArray, ← rv.length]; exact (List.getElem?_eq_some_iff.mp hx).1
    have lt2 : i < its2.toArray.size := by rw [List.size_toArray, ← rv2.length]; exact (List.getElem?_eq_some_iff.mp hy).1
    refine wpAny_pyNext_zipD2_item Sp (dr_x (A := X.A.in1) (k := k) (I.ok.hd hc) i1 ha its.toArray) (dr_x (A := X.A.in1) (k := k2) (I.ok.hd hc) i2 hb its2.toArray) hz hTI hTO ⟨h1, p⟩ ⟨h2, p2⟩ lt1 lt2 fun u' u2' h' tk hu' hu2' z' TO' st1 st2 hT hsz hk => ?_
    have eu : u' = u := by
      have q : its.toArray[i]? = some u := by simpa using hu
      rw [q] at hu'; cases hu'; rfl
    have eu2 : u2' = u2 := by
      have q : its2.toArray[i]? = some u2 := by simpa using hu2
      rw [q] at hu2'; cases hu2'; rfl
    subst eu eu2
    refine ⟨_, rfl, wpAny_letOwnedTupleGo_zip (s := { s with heap := h', toks := tk }) z' fun h'' z'' sb => ?_⟩
    have hT2 : h''.get? s.heap.objs.size = some { cls := .type "tuple", data := .seq #[u', u2'] } := (sb.2 _ (Nat.ne_of_gt hzl)).trans hT
    have new : ObjOk X.prog X.w (upd H s.heap.objs.size (.tup [x, y])) h'' s.heap.objs.size (.tup [x, y]) :=
      ⟨by show 2 ≤ sizeLine; decide, [u', u2'], .cons ru (.cons ru2 .nil), ⟨_, hT2, rfl, _, rfl⟩⟩
    have I1 : Inv X pins σ (upd H s.heap.objs.size (.tup [x, y])) { s with heap := h'', toks := tk } :=
      I.turnedNew (t' := tk) (ch := [z, TI, TO, i1, i2]) (fun c o hb q => (sb.2 c (fun q' => hb (by simp [q']))).trans (hk c o (fun q' => hb (by simp [q'])) (fun q' => hb (by simp [q'])) (fun q' => hb (by simp [q'])) (fun q' => hb (by simp [q'])) q)) hf (Nat.le_refl _) new
    refine ⟨.ref s.heap.objs.size, _, I1, rfl, ⟨_, x, y, rfl, I.hok.fresh (Nat.le_refl _), rfl, fun l hl => by rw [sx_inj I hl hqx]; exact hx, fun l hl => by rw [sx_inj I hl hqy]; exact hy⟩, ⟨z'', ?_, ⟨u', u2', ?_⟩, ?_, ?_⟩, fun c hcm => ?_⟩
    · exact (sb.2 _ Sp.TIz).trans (hk _ _ Sp.TIz Sp.TITO Sp.TIi1 Sp.TIi2 hTI)
    · exact (sb.2 _ Sp.TOz).trans TO'
    · exact it_at st1.1 fun o q => (sb.2 _ Sp.zi1.symm).trans q
    · exact it_at st2.1 fun o q => (sb.2 _ Sp.zi2.symm).trans q
    · have hlt : c < s.heap.objs.size := by
        have q : c = z ∨ c = TI ∨ c = TO ∨ c = i1 ∨ c = i2 := by simpa using hcm
        rcases q with q | q | q | q | q
        · rw [q]; exact hzl
        · rw [q]; exact Heap.lt_size hTI
        · rw [q]; exact Heap.lt_size hTO
        · rw [q]; obtain ⟨_, e1, _⟩ := it_obj h1; exact Heap.lt_size e1
        · rw [q]; obtain ⟨_, e2, _⟩ := it_obj h2; exact Heap.lt_size e2
      rw [upd_ne (Nat.ne_of_lt hlt)]
      exact (hf c hcm).1
  done := by
    intro X hP hw hK hc i pins s σ H E I hf st hg
    subst hP hw hK
    obtain ⟨hz, hTI, ⟨x0, y0, hTO⟩, h1, h2⟩ := st
    obtain ⟨xs, ys, hqx, hqy, hl1, hl2, hend⟩ := hg
    obtain ⟨its, rv, p, _⟩ := inv_sx I hqx
    obtain ⟨its2, rv2, p2, _⟩ := inv_sx I hqy
    rw [rv.length] at hl1 hend
    rw [rv2.length] at hl2 hend
    exact wpAny_pyNext_zipD2_end Sp (dr_x (A := X.A.in1) (k := k) (I.ok.hd hc) i1 ha its.toArray) (dr_x (A := X.A.in1) (k := k2) (I.ok.hd hc) i2 hb its2.toArray) hz hTI hTO ⟨h1, p⟩ ⟨h2, p2⟩ (by simpa using hl1) (by simpa using hl2) (by simpa using hend) fun h' tk hk => ⟨rfl, I.turnedL (t' := tk) (ch := [z, TI, TO, i1, i2]) (fun c o hb q =>
      hk c o (fun q' => hb (by simp [q'])) (fun q' => hb (by simp [q'])) (fun q' => hb (by simp [q'])) (fun q' => hb (by simp [q'])) q) hf⟩
  self := fun A i s Q E st h => wpAny_pyIter_zip st.1 h
def iZpX (K : PySem.W.Frag) (ta : TA) : TI := fun σ H R => ta σ H fun vs H1 => ∃ k k2 a b xs ys, vs = [.ref a, .ref b] ∧ SqX k K H1 a xs ∧ SqX k2 K H1 b ys ∧ R (ItZ k k2 K a b) H1
theorem pi_zpX {X : Cx} {e e2 : Expr} {ta : TA} {p pos tpos : Pos} {elts : List Expr} {kk : Nat} (hg : Gl X "zip") (hm : X.mg "zip" = none) (ha : PA X [e, e2] ta)
    (hs : starEach [e, e2] X.env = (false, eval e X.env) :: starEach [e2] X.env := by rfl) (hpl : (backTo pos (starEach [e2] X.env)).any (·.1) = false := by rfl) :
    PI X (.Tuple elts kk tpos) (.Call (.Name "zip" p) [e, e2] [] pos) (iZpX X.K ta) := by
  refine ⟨fun pins s σ H R I h => ?_⟩
  refine Call_ (ld_blt I hg hm PyProof.Rows.boot_zip (PyProof.Rows.callWith_type1 (thn (ha.run pos pins s σ H _ I h) fun us s1 ⟨vs, H1, I1, r1, q1⟩ => ?_) hs hpl))
  obtain ⟨k, k2, a, b, xs, ys, ex, hqx, hqy, q⟩ := q1
  subst ex
  cases r1 with
  | cons r rr =>
    cases rr with
    | cons r' rr =>
      cases rr
      cases r
      cases r'
      obtain ⟨its, rv, p1, la⟩ := inv_sx I1 hqx
      obtain ⟨its2, rv2, p2, lb⟩ := inv_sx I1 hqy
      refine zip_begins2 (bg_x (k := k) its.toArray) (bg_x (k := k2) its2.toArray) p1 p2 fun h' hz hTI hTO g1 g2 hsz hk => wpAny_pyIter_zip hz ?_
      have I2 : Inv X pins σ H1 { s1 with heap := h' } := I1.kept (t' := s1.toks) hk
      have sep := zip_sep2 (N := s1.heap.objs.size) (fp1 := [a]) (fp2 := [b]) (fun c hc => by rw [List.mem_singleton.mp hc]; exact la) (fun c hc => by rw [List.mem_singleton.mp hc]; exact lb)
      refine ⟨s1.heap.objs.size + 4, [s1.heap.objs.size + 4, s1.heap.objs.size + 2, s1.heap.objs.size + 3, s1.heap.objs.size, s1.heap.objs.size + 1], _, _, H1, rfl, I2, turn_z (k := k) (k2 := k2) sep (Nat.ne_of_lt la) (Nat.ne_of_lt (Nat.lt_succ_of_lt lb)), ⟨hz, hTI, ⟨_, _, hTO⟩, it_new g1, it_new g2⟩, fun c hcm => ?_, q⟩
      have e' : c = s1.heap.objs.size + 4 ∨ c = s1.heap.objs.size + 2 ∨ c = s1.heap.objs.size + 3 ∨ c = s1.heap.objs.size ∨ c = s1.heap.objs.size + 1 := by simpa using hcm
      have hle : s1.heap.objs.size ≤ c := by
        rcases e' with z | z | z | z | z <;> (rw [z]; first | exact Nat.le_add_right _ _ | exact Nat.le_refl _)
      exact I1.fpOk hle (I1.hok.fresh hle)

/-! ### the rules -/
/-- the items of a sequence, and that they stay -/
@[simp] def seqC (d : D) (S : Sto) : Option (List D × (Sto → Prop)) := match d with
  | .tup xs => some (xs, fun _ => True)
  | .lst xs => some (xs, fun _ => True)
  | .scr xs => some (xs, fun _ => True)
  | .obj k => match S[k]? with | some (.lst xs) => some (xs, fun S' => S'[k]? = some (.lst xs)) | _ => none
  | _ => none
theorem seqC_ok {K : PySem.W.Frag} {w : Wd} {S : Sto} {H : Hp} (c : Core G w S H) {v : V} {d : D} {ds : List D} {chk : Sto → Prop} (h : Den w S.length v d) (e : seqC d S = some (ds, chk)) :
    ∃ a k, v = .ref a ∧ chk S ∧ ∀ (w1 : Wd) (S1 : Sto) (H1 : Hp), Core G w1 S1 H1 → (∀ a o, w.fr a = some o → w1.fr a = some o) → (∀ k, k < S.length → w1.al k = w.al k) → S.length ≤ S1.length → chk S1 → ∃ vs, SqX k K H1 a vs ∧ DenL w1 S1.length vs ds := by
  cases h with
  | non => simp [seqC] at e
  | bl b => simp [seqC] at e
  | int b => simp [seqC] at e
  | str x => simp [seqC] at e
  | tup r l => simp only [seqC] at e; cases e; exact ⟨_, .t, rfl, trivial, fun w1 S1 H1 c1 hf ha hn _ => ⟨_, .inl (.inl (c1.sub _ _ (hf _ _ r))), l.mono hf ha hn⟩⟩
  | lst r l => simp only [seqC] at e; cases e; exact ⟨_, .l, rfl, trivial, fun w1 S1 H1 c1 hf ha hn _ => ⟨_, .inl (.inl (c1.sub _ _ (hf _ _ r))), l.mono hf ha hn⟩⟩
  | scr r l => simp only [seqC] at e; cases e; exact ⟨_, .l, rfl, trivial, fun w1 S1 H1 c1 hf ha hn _ => ⟨_, .inl (rd_sub c1.sub (rd_sub hf r)), l.mono hf ha hn⟩⟩
  | obj hk =>
    simp only [seqC] at e
    split at e
    · rename_i xs hx
      cases e
      refine ⟨_, .l, rfl, hx, fun w1 S1 H1 c1 hf ha hn hck => ?_⟩
      obtain ⟨_, _, vs, hv, l⟩ := c1.cel _ _ hck
      rw [ha _ hk] at hv
      exact ⟨vs, .inl (.inl hv), l⟩
    · cases e
def pairsE (ds : List D) : List D := ds.mapIdx fun i d => .tup [.int (i : Nat), d]
def pairsZ (ds es : List D) : List D := (ds.zip es).map fun p => .tup [p.1, p.2]
@[simp] def iEnum (a : RA) : RI := fun ρ S => match a ρ S with
  | some ([d], S1) => (match seqC d S1 with | some (ds, chk) => some (pairsE ds, chk, S1) | none => none)
  | _ => none
@[simp] def iZip (a : RA) : RI := fun ρ S => match a ρ S with
  | some ([d, e], S1) => (match seqC d S1, seqC e S1 with | some (ds, chk), some (es, chk2) => some (pairsZ ds es, fun S => chk S ∧ chk2 S, S1) | _, _ => none)
  | _ => none
theorem di_enum {p pos tpos : Pos} {elts : List Expr} {kk : Nat} {e : Expr} {ta : RE} (hm : X.mg "enumerate" = none) (ha : DE X G e ta) (hg : Gl X "enumerate" := by rfl) (hs : starEach [e] X.env = [(false, eval e X.env)] := by rfl) :
    DI X G (.Tuple elts kk tpos) (.Call (.Name "enumerate" p) [e] [] pos) (iEnum (aCons ta aNil)) :=
  let ⟨_, pa, ea⟩ := da_cons ha da_nil hs
  ⟨_, pi_enX hg hm pa hs, fun ρ S ds chk S' e w σ H s R q => by
    unfold iEnum at e
    split at e
    · rename_i d S1 h1
      split at e
      · rename_i ds0 chk0 h2
        cases e
        refine ea ρ S _ _ h1 w σ H s _ fun w1 vs H1 s1 x1 d1 => ?_
        obtain ⟨v, rfl, hv⟩ := denL1 d1
        obtain ⟨a, k, rfl, hck, hsq⟩ := seqC_ok (K := X.K) s1.core hv h2
        obtain ⟨vs0, hq0, l0⟩ := hsq w1 _ H1 s1.core (fun _ _ e => e) (fun _ _ => rfl) (Nat.le_refl _) hck
        refine ⟨k, a, vs0, rfl, hq0, q _ w1 H1 s1 x1 (fun i w2 S2 H2 c2 hf ha hn hk2 => ?_) hck⟩
        obtain ⟨vs2, hq2, l2⟩ := hsq w2 S2 H2 c2 hf ha hn hk2
        refine ⟨fun hi => ⟨vs2, hq2, by rw [l2.len, hi]; simp [pairsE]⟩, fun d hd => ?_⟩
        unfold pairsE at hd
        rw [List.getElem?_mapIdx] at hd
        cases hdi : ds0[i]? with
        | none => rw [hdi] at hd; cases hd
        | some di =>
          rw [hdi] at hd
          cases hd
          obtain ⟨u, hu, du⟩ := l2.get hdi
          refine ⟨⟨vs2, u, hq2, hu⟩, fun x H3 ⟨T, x', ex, hT, eH, hx'⟩ => ?_⟩
          subst ex eH
          have hxu := hx' vs2 hq2
          rw [hu] at hxu
          cases hxu
          obtain ⟨c3, x3⟩ := c2.newF (o := .tup [.int (i : Nat), u]) hT (.inl ⟨_, rfl⟩)
          exact ⟨_, c3, x3, den_newT (.cons (.int _) (.cons du .nil)) (c2.fresh hT)⟩
      · cases e
    · cases e⟩
theorem di_zip {p pos tpos : Pos} {elts : List Expr} {kk : Nat} {e e2 : Expr} {ta tb : RE} (hm : X.mg "zip" = none) (ha : DE X G e ta) (hb : DE X G e2 tb) (hg : Gl X "zip" := by rfl) (hs : starEach [e, e2] X.env = (false, eval e X.env) :: starEach [e2] X.env := by rfl) (hs2 : starEach [e2] X.env = (false, eval e2 X.env) :: starEach [] X.env := by rfl) (hpl : (backTo pos (starEach [e2] X.env)).any (·.1) = false := by rfl) :
    DI X G (.Tuple elts kk tpos) (.Call (.Name "zip" p) [e, e2] [] pos) (iZip (aCons ta (aCons tb aNil))) :=
  let ⟨_, pa, ea⟩ := da_cons ha (da_cons hb da_nil hs2) hs
  ⟨_, pi_zpX hg hm pa hs hpl, fun ρ S ds chk S' e w σ H s R q => by
    unfold iZip at e
    split at e
    · rename_i d d' S1 h1
      split at e
      · rename_i ds0 chk0 es0 chk1 h2 h3
        cases e
        refine ea ρ S _ _ h1 w σ H s _ fun w1 vs H1 s1 x1 d1 => ?_
        obtain ⟨v, v2, rfl, hv, hv2⟩ := denL2 d1
        obtain ⟨a, k, rfl, hck, hsq⟩ := seqC_ok (K := X.K) s1.core hv h2
        obtain ⟨b, k2, rfl, hck2, hsq2⟩ := seqC_ok (K := X.K) s1.core hv2 h3
        obtain ⟨vs0, hq0, l0⟩ := hsq w1 _ H1 s1.core (fun _ _ e => e) (fun _ _ => rfl) (Nat.le_refl _) hck
        obtain ⟨us0, hu0, m0⟩ := hsq2 w1 _ H1 s1.core (fun _ _ e => e) (fun _ _ => rfl) (Nat.le_refl _) hck2
        refine ⟨k, k2, a, b, vs0, us0, rfl, hq0, hu0, q _ w1 H1 s1 x1 (fun i w2 S2 H2 c2 hf ha hn hk2 => ?_) ⟨hck, hck2⟩⟩
        obtain ⟨vs2, hq2, l2⟩ := hsq w2 S2 H2 c2 hf ha hn hk2.1
        obtain ⟨us2, hu2, m2⟩ := hsq2 w2 S2 H2 c2 hf ha hn hk2.2
        refine ⟨fun hi => ⟨vs2, us2, hq2, hu2, ?_⟩, fun d hd => ?_⟩
        · rw [l2.len, m2.len, hi]
          unfold pairsZ
          rw [List.length_map, List.length_zip]
          omega
        · unfold pairsZ at hd
          rw [List.getElem?_map] at hd
          cases hz : (ds0.zip es0)[i]? with
          | none => rw [hz] at hd; cases hd
          | some pr =>
            rw [hz] at hd
            cases hd
            obtain ⟨g1, g2⟩ := List.getElem?_zip_eq_some.mp hz
            obtain ⟨u, hu, du⟩ := l2.get g1
            obtain ⟨u', hu', du'⟩ := m2.get g2
            refine ⟨⟨vs2, us2, u, u', hq2, hu2, hu, hu'⟩, fun x H3 ⟨T, x', y', ex, hT, eH, hx', hy'⟩ => ?_⟩
            subst ex eH
            have e1 := hx' vs2 hq2
            rw [hu] at e1
            cases e1
            have e2 := hy' us2 hu2
            rw [hu'] at e2
            cases e2
            obtain ⟨c3, x3⟩ := c2.newF (o := .tup [u, u']) hT (.inl ⟨_, rfl⟩)
            exact ⟨_, c3, x3, den_newT (.cons du (.cons du' .nil)) (c2.fresh hT)⟩
      · cases e
    · cases e⟩
end
end DL

set_option maxRecDepth 100000
set_option maxHeartbeats 4000000
set_option pp.maxSteps 900
namespace DL
open PySem PySem.Spec PyProof.Rows L2 GX
open Classical
section
variable {G : Gc} {X : Cx} {pos p : Pos} {a b c e o : Expr} {es : List Expr} {ta tb tc te : RE} {ra : RA}

/-! ### name op= e, o[i] op= e -/
def AugOk (X : Cx) (G : Gc) (op : Operator) (f : D → D → Sto → Option D) : Prop := ∃ r, PIp X op r ∧ R2Ok G r f
theorem iop_mulW : OpR X (inplaceOp .Mult) (rI MulC fun i j => .int (i * j)) := opI fun _ _ _ _ _ _ _ hc q => by
  rcases hc with hc | hc
  · exact imul_int q hc.ok
  · exact imul_int q hc.ok
theorem g_add : AugOk X G .Add fAdd := ⟨_, iop_add, r_I0 fun x y S d e => by unfold fAdd at e; split at e <;> cases e; exact ⟨_, _, rfl, rfl, fun _ _ => .int _⟩⟩
theorem g_sub : AugOk X G .Sub fSub := ⟨_, iop_sub, r_I0 fun x y S d e => by unfold fSub at e; split at e <;> cases e; exact ⟨_, _, rfl, rfl, fun _ _ => .int _⟩⟩
theorem g_mul : AugOk X G .Mult fMul := ⟨_, iop_mulW, r_I fun x y S d e => by
  unfold fMul at e
  split at e
  · split at e
    · rename_i hc; cases e; exact ⟨_, _, rfl, rfl, hc, fun _ _ => .int _⟩
    · cases e
  · cases e⟩
@[simp] def sAug (i : Nat) (f : D → D → Sto → Option D) (e : RE) : RS := fun ρ S => match ρ[i]? with
  | some (some x) => (match e ρ S with
    | some (y, S1) => (match f x y S1 with | some z => some (.nx (ρ.set i (some z)) S1) | none => none)
    | none => none)
  | _ => none
theorem ds_aug {i : Nat} {x : Str} {op : Operator} {f : D → D → Sto → Option D} {pos' : Pos} (ho : AugOk X G op f) (hN : X.N.Nodup) (hi : X.N[i]? = some x) (hx : Loc X.env.scope x) (he : DE X G e te) (hf : X.fn x = true ∨ X.env.scope.names.lookup x = some .local) :
    DS X G (.AugAssign (.Name x pos') op e pos) (sAug i f te) :=
  let ⟨_, po, eo⟩ := ho; let ⟨_, pa, ea⟩ := he
  ⟨_, ps_aug hN hi hx pa po hf, fun ρ S o e w σ H s D p => by
    unfold sAug at e
    split at e
    · rename_i x0 h0
      split at e
      · rename_i y S1 h1
        split at e
        · rename_i z h2
          cases e
          obtain ⟨v, hv, dv⟩ := s.env i x0 h0
          refine ⟨v, hv, ea ρ S y S1 h1 w σ H s _ fun w1 u H1 s1 x1 d1 => ?_⟩
          exact eo w1 S1 H1 v u x0 y z _ s1.core (dv.ext x1) d1 h2 fun zv dz => p w1 _ H1 (s1.set dz i) x1
        · cases e
      · cases e
    · cases e⟩
/-- o[i] op= e, a list of the store -/
@[simp] def sAugIx (f : D → D → Sto → Option D) (o i e : RE) : RS := fun ρ S => match o ρ S with
  | some (.obj k, S1) => (match i ρ S1 with
    | some (.int z, S2) => (match S2[k]? with
      | some (.lst xs) => (match ixN xs.length z with
        | some j => (match xs[j]? with
          | some x => (match e ρ S2 with
            | some (y, S3) => (match f x y S3 with
              | some r => (match S3[k]? with
                | some (.lst xs2) => if xs2.length = xs.length then some (.nx ρ (S3.set k (.lst (xs2.set j r)))) else none
                | _ => none)
              | none => none)
            | none => none)
          | none => none)
        | none => none)
      | _ => none)
    | _ => none)
  | _ => none
theorem get_seq : PGet X (fun x y H Q => ∃ l xs i v, x = .ref l ∧ y = .int i ∧ SqL X.K H l xs ∧ atI xs i = some v ∧ Q v H) := by
  intro pins s σ H o i ov iv Q I rx ry h
  obtain ⟨p, xs, i, z, rfl, rfl, hq, he, q⟩ := h
  cases rx
  obtain ⟨t, rfl⟩ := ry
  obtain ⟨its, r, pl, hz⟩ := I.list hq
  obtain ⟨j, h1, h2, h3, h4, h5⟩ := atI_get he
  obtain ⟨w, ew, rw'⟩ := r.get h2
  have hl := r.length
  have hn := line63
  have fin : EP X pins σ Q w s := ⟨z, H, I, rw', q⟩
  by_cases h0 : 0 ≤ i
  · have hj : i.toNat = j := by rw [seqIndex_of h0 h5] at h1; exact Option.some.inj h1
    exact wpAny_getItem_list pl.isList h0 (by omega) (by rw [hj]; simpa using ew) fin
  · have hj : (i + (its.toArray.size : Int)).toNat = j := by
      rw [seqIndex_neg (by omega) h4] at h1
      rw [List.size_toArray, ← hl]; exact Option.some.inj h1
    exact wpAny_getItem_list_neg pl.isList (by omega) (by rw [List.size_toArray]; omega) (by omega) (by rw [hj]; simpa using ew) fin
theorem ds_augIx {op : Operator} {f : D → D → Sto → Option D} {tpos : Pos} (hop : AugOk X G op f) (ho : DE X G a ta) (hi : DE X G b tb) (he : DE X G e te)
    (hs : ∀ ov iv new, augStore b ov iv new = (do holding [new, ov, iv] (setItem ov iv new); release [new, ov, iv] []; pure .next) := by intros; rfl) : DS X G (.AugAssign (.Subscript a b tpos) op e pos) (sAugIx f ta tb te) :=
  let ⟨_, pop, eop⟩ := hop; let ⟨_, pa, ea⟩ := ho; let ⟨_, pb, eb⟩ := hi; let ⟨_, pe, ee⟩ := he
  ⟨_, ps_augS pa pb get_seq pe pop set_list hs, fun ρ S out e w σ H s D p => by
    unfold sAugIx at e
    split at e
    · rename_i k S1 h1
      split at e
      · rename_i z S2 h2
        split at e
        · rename_i xs h3
          split at e
          · rename_i j h4
            split at e
            · rename_i x h5
              split at e
              · rename_i y S3 h6
                split at e
                · rename_i r h7
                  split at e
                  · rename_i xs2 h8
                    split at e
                    · rename_i hl
                      cases e
                      refine ea ρ S _ _ h1 w σ H s _ fun w1 ov H1 s1 x1 d1 => eb ρ S1 _ _ h2 w1 σ H1 s1 _ fun w2 iv H2 s2 x2 d2 => ?_
                      have d1' := d1.ext x2
                      obtain ⟨_, _, vs, hv, l⟩ := s2.core.cel _ _ h3
                      cases d1' with
                      | obj hk =>
                        obtain ⟨xv, hxv, dx⟩ := l.get h5
                        refine ⟨_, vs, z, xv, rfl, den_int d2, .inl (.inl hv), by unfold atI; rw [l.len, h4]; exact hxv, ee ρ S2 y S3 h6 w2 σ H2 s2 _ fun w3 yv H3 s3 x3 d3 => ?_⟩
                        refine eop w3 S3 H3 xv yv x y r _ s3.core (dx.ext x3) d3 h7 fun rv dr => ?_
                        obtain ⟨_, _, us, hu, l2⟩ := s3.core.cel _ _ h8
                        rw [x3.al k hk] at hu
                        refine ⟨_, us, z, j, rfl, den_int d2, hu, by rw [l2.len, hl]; exact h4, ?_⟩
                        obtain ⟨c4, x4⟩ := s3.core.setL h8 (l2.set dr j)
                        have e4 : w3.al k = w2.al k := x3.al k hk
                        rw [e4] at c4 x4
                        exact p w3 σ _ (s3.ofCore c4 x4) (((x1.trans x2).trans x3).trans x4)
                    · cases e
                  · cases e
                · cases e
              · cases e
            · cases e
          · cases e
        · cases e
      · cases e
    · cases e⟩

/-! ### constants to a power, three at once -/
@[simp] noncomputable def fPow : D → D → Sto → Option D := fun x y _ => match x, y with | .int i, .int j => if 0 ≤ j ∧ j ≤ 1000000 ∧ i.natAbs < 2 ^ 64 then some (.int (i ^ j.toNat)) else none | _, _ => none
theorem de_pow (ha : DE X G a ta) (hb : DE X G b tb) : DE X G (.BinOp a .Pow b pos) (e2 fPow ta tb) :=
  let ⟨_, pa, ea⟩ := ha; let ⟨_, pb, eb⟩ := hb
  ⟨_, pe_op op_pow pa pb, ev_2 (r_I fun x y S d e => by
    unfold fPow at e
    split at e
    · split at e
      · rename_i hc; cases e; exact ⟨_, _, rfl, rfl, hc, fun _ _ => .int _⟩
      · cases e
    · cases e) ea eb⟩
@[simp] def sPar3 (i j l : Nat) (a : RA) : RS := fun ρ S => match a ρ S with | some ([d, e, f], S1) => some (.nx (((ρ.set i (some d)).set j (some e)).set l (some f)) S1) | _ => none
theorem denL3 {w : Wd} {n : Nat} {xs : List V} {d d2 d3 : D} (h : DenL w n xs [d, d2, d3]) : ∃ v u t, xs = [v, u, t] ∧ Den w n v d ∧ Den w n u d2 ∧ Den w n t d3 := by
  cases h with
  | cons h t =>
    obtain ⟨u, t', rfl, h2, h3⟩ := denL2 t
    exact ⟨_, u, t', rfl, h, h2, h3⟩
theorem ds_par3 {i j l : Nat} {x y z : Str} {px py pz pt : Pos} {kt k2 : Nat} {pt2 : Pos} (hc : X.calm = true) (hN : X.N.Nodup) (hi : X.N[i]? = some x) (hj : X.N[j]? = some y) (hl : X.N[l]? = some z) (hij : i ≠ j) (hil : i ≠ l) (hjl : j ≠ l)
    (hx : X.env.scope.names.lookup x = some .local) (hy : X.env.scope.names.lookup y = some .local) (hz : X.env.scope.names.lookup z = some .local) (ha : DA X G [a, b, c] ra)
    (hw : swappedStores [.Tuple [.Name x px, .Name y py, .Name z pz] kt pt] (.Tuple [a, b, c] k2 pt2) X.env = pure (some [x, y, z]))
    (hs : swapsWithSole [.Tuple [.Name x px, .Name y py, .Name z pz] kt pt] (.Tuple [a, b, c] k2 pt2) pos.line X.env = pure false := by rfl) :
    DS X G (.Assign [.Tuple [.Name x px, .Name y py, .Name z pz] kt pt] (.Tuple [a, b, c] k2 pt2) pos) (sPar3 i j l ra) :=
  let ⟨_, pa, ea⟩ := ha
  ⟨_, ps_par3 hc hN hi hj hl hij hil hjl hx hy hz pa hw hs, fun ρ S o e w σ H s D p => by
    unfold sPar3 at e
    split at e
    · rename_i d d2 d3 S1 h1
      cases e
      refine ea ρ S _ _ h1 w σ H s _ fun w1 vs H1 s1 x1 d1 => ?_
      obtain ⟨v, u, t, rfl, hv, hu, ht⟩ := denL3 d1
      exact ⟨v, u, t, rfl, p w1 _ H1 (((s1.set hv i).set hu j).set ht l) x1⟩
    · cases e⟩

/-! ### sum, max, min -/
@[simp] def intsD : List D → Option (List Int)
  | [] => some []
  | .int i :: r => match intsD r with | some ns => some (i :: ns) | none => none
  | _ :: _ => none
theorem ints_of {w : Wd} {n : Nat} : ∀ {vs : List V} {ds : List D} {ns : List Int}, DenL w n vs ds → intsD ds = some ns → vs = ns.map V.int
  | _, _, _, .nil, e => by unfold intsD at e; cases e; rfl
  | _, _, _, .cons (d := d) h t, e => by
    cases d with
    | int i =>
      unfold intsD at e
      split at e
      · rename_i ns' h2
        cases e
        rw [den_int h, ints_of t h2]; rfl
      · cases e
    | _ => simp [intsD] at e
@[simp] def fSum : List D → Sto → Option (D × Sto) := fun ds S => match ds with
  | [d] => (match seqD d S with | some xs => (match intsD xs with | some ns => some (.int ns.sum, S) | none => none) | none => none)
  | _ => none
def rSumX (K : PySem.W.Frag) : List V → Hp → VK → Prop := fun vs H Q => ∃ (a : Addr) (ns : List Int), vs = [.ref a] ∧ (SqL K H a (ns.map V.int) ∨ SqT K H a (ns.map V.int)) ∧ Q (.int ns.sum) H
theorem cr_sumX (hc : X.calm = true) : CallR X (.builtin "sum") (rSumX X.K) := by
  intro pins s σ H vs us Q I r h
  obtain ⟨a, ns, rfl, hs, q⟩ := h
  rcases hs with hs | hs
  · exact cr_sum hc pins s σ H _ us Q I r ⟨a, ns, rfl, hs, q⟩
  · obtain ⟨its, rv, hl, _⟩ := I.tuple hs
    rw [Vals.ref1 r]
    have hi := rv.ints
    obtain ⟨xs, e⟩ := hi.allInts.items
    have hn : numsOf (intItems xs).toList = ns := by rw [← e]; exact hi.numsOf
    rw [nums_intItems] at hn
    have hl : s.heap.IsTuple a its.toArray := hl
    rw [e] at hl
    refine PySem.W.ktm_sumG (I.ok.hd hc) hl fun h' tk t' hk => ?_
    rw [preSum_eq, List.take_of_length_le (by simp), hn]
    exact ⟨.int _, H, I.kept hk, ⟨_, rfl⟩, q⟩
theorem boot_sum : bootBuiltins "sum" = some (.builtin "sum") := by decide +kernel
theorem de_sum {p : Pos} (hc : X.calm = true) (hm : X.mg "sum" = none) (ha : DE X G a ta) (hg : Gl X "sum" := by rfl) (hs : starEach [a] X.env = (false, eval a X.env) :: starEach [] X.env := by rfl) (hpl : (backTo pos (starEach [] X.env)).any (·.1) = false := by rfl) :
    DE X G (.Call (.Name "sum" p) [a] [] pos) (eA fSum (aCons ta aNil)) :=
  let ⟨_, pa, ea⟩ := da_cons ha da_nil hs
  ⟨_, pe_callB (cr_sumX hc) hg hm boot_sum pa (by decide) (by decide) hs hpl, ev_cb (fun w ρ S σ H xs ds d S' Q s hd e q => by
    unfold fSum at e
    split at e
    · rename_i dd
      obtain ⟨v, rfl, hv⟩ := denL1 hd
      split at e
      · rename_i ys h1
        split at e
        · rename_i ns h2
          cases e
          obtain ⟨a, vs, rfl, hq, l⟩ := seq_ok (K := X.K) s.core hv h1
          rw [ints_of l h2] at hq
          exact ⟨a, ns, rfl, hq, q w _ H s (Ext.refl ..) (.int _)⟩
        · cases e
      · cases e
    · cases e) ea⟩

/-! ### methods of a list of the store -/
@[simp] def fAppend : D → List D → Sto → Option (D × Sto) := fun o xs S => match o, xs with
  | .obj k, [y] => (match S[k]? with | some (.lst ys) => if ys.length < 1000000 then some (.non, S.set k (.lst (ys ++ [y]))) else none | _ => none)
  | _, _ => none
@[simp] def fPop : D → List D → Sto → Option (D × Sto) := fun o xs S => match o, xs with
  | .obj k, [] => (match S[k]? with | some (.lst ys) => (match ys[ys.length - 1]? with | some y => some (y, S.set k (.lst ys.dropLast)) | none => none) | _ => none)
  | _, _ => none
@[simp] def fPopAt : D → List D → Sto → Option (D × Sto) := fun o xs S => match o, xs with
  | .obj k, [.int i] => (match S[k]? with
    | some (.lst ys) => if -(2 ^ 62) ≤ i ∧ i < 2 ^ 62 then (match seqIndex? i ys.length with | some j => (match ys[j]? with | some y => some (y, S.set k (.lst (ys.eraseIdx j))) | none => none) | none => none) else none
    | _ => none)
  | _, _ => none
@[simp] def fReverse : D → List D → Sto → Option (D × Sto) := fun o xs S => match o, xs with
  | .obj k, [] => (match S[k]? with | some (.lst ys) => some (.non, S.set k (.lst ys.reverse)) | _ => none)
  | _, _ => none
/-- o.m(..), o a list of the store -/
@[simp] def eM (f : D → List D → Sto → Option (D × Sto)) (o : RE) (a : RA) : RE := fun ρ S => match o ρ S with
  | some (.obj k, S1) => (match S1[k]? with
    | some (.lst _) => (match a ρ S1 with | some (ys, S2) => f (.obj k) ys S2 | none => none)
    | _ => none)
  | _ => none
theorem DenL.dropLast {w : Wd} {n : Nat} {vs : List V} {ds : List D} (h : DenL w n vs ds) : DenL w n vs.dropLast ds.dropLast := by
  rw [List.dropLast_eq_take, List.dropLast_eq_take, h.len]
  exact h.take _
theorem DenL.erase {w : Wd} {n : Nat} : ∀ {vs : List V} {ds : List D} (k : Nat), DenL w n vs ds → DenL w n (vs.eraseIdx k) (ds.eraseIdx k)
  | _, _, _, .nil => .nil
  | _, _, 0, .cons _ t => t
  | _, _, k + 1, .cons h t => .cons h (DenL.erase k t)
theorem DenL.rev {w : Wd} {n : Nat} : ∀ {vs : List V} {ds : List D}, DenL w n vs ds → DenL w n vs.reverse ds.reverse
  | _, _, .nil => .nil
  | _, _, .cons h t => by rw [List.reverse_cons, List.reverse_cons]; exact (DenL.rev t).app (.cons h .nil)
/-- the list behind o -/
theorem obj_at {w : Wd} {S : Sto} {H : Hp} (c : Core G w S H) {v : V} {k : Nat} {ys : List D} (h : Den w S.length v (.obj k)) (e : S[k]? = some (.lst ys)) : v = .ref (w.al k) ∧ ∃ vs, H (w.al k) = some (.lst vs) ∧ DenL w S.length vs ys := by
  cases h
  obtain ⟨_, _, vs, hv, l⟩ := c.cel _ _ e
  exact ⟨rfl, vs, hv, l⟩
/-- a list's method by values -/
def MOk (G : Gc) (r : V → List V → Hp → VK → Prop) (f : D → List D → Sto → Option (D × Sto)) : Prop :=
  ∀ (w : Wd) (ρ : En) (S : Sto) (σ : L2.St) (H : Hp) (v : V) (xs : List V) (k : Nat) (ds : List D) (d : D) (S' : Sto) (Q : VK), Sat G w ρ S σ H → Den w S.length v (.obj k) → DenL w S.length xs ds → f (.obj k) ds S = some (d, S') →
      (∀ w' v H', Sat G w' ρ S' σ H' → Ext w S H w' S' H' → Den w' S'.length v d → Q v H') → r v xs H Q
theorem ev_m {K : PySem.W.Frag} {r : V → List V → Hp → VK → Prop} {f : D → List D → Sto → Option (D × Sto)} {xo : TE} {xa : TA} (hr : MOk G r f) (ho : Ev G xo ta) (ha : EvA G xa ra) :
    Ev G (tBM K "list" r xo xa) (eM f ta ra) := fun ρ S d S' e w σ H s Q q => by
  unfold eM at e
  split at e
  · rename_i k S1 h1
    split at e
    · rename_i zs hz
      split at e
      · rename_i ys S2 h2
        refine ho ρ S _ S1 h1 w σ H s _ fun w1 v H1 s1 x1 d1 => ?_
        obtain ⟨ev, vs, hv, l⟩ := obj_at s1.core d1 hz
        refine ⟨?_, ha ρ S1 ys S2 h2 w1 σ H1 s1 _ fun w2 us H2 s2 x2 d2 => hr w2 ρ S2 σ H2 v us k ys d S' Q s2 (d1.ext x2) d2 e fun w3 u H3 s3 x3 d3 => q w3 u H3 s3 ((x1.trans x2).trans x3) d3⟩
        rw [ev]
        exact .inl ⟨rfl, vs, .inl (.inl hv)⟩
      · cases e
    · cases e
  · cases e
theorem m_append : MOk G rAppend fAppend := fun w ρ S σ H v xs k ds d S' Q s hv hd e q => by
  unfold fAppend at e
  split at e
  · rename_i k' y hk'
    split at e
    · rename_i ys hy
      split at e
      · rename_i hl
        cases e
        cases hk'
        obtain ⟨rfl, vs, hvs, l⟩ := obj_at s.core hv hy
        obtain ⟨u, rfl, hu⟩ := denL1 hd
        obtain ⟨c1, x1⟩ := s.core.setL hy (l.app (.cons hu .nil))
        exact ⟨_, vs, u, rfl, rfl, hvs, by rw [l.len]; exact lt_line hl, q w _ _ (s.ofCore c1 x1) x1 .non⟩
      · cases e
    · cases e
  · cases e
theorem m_pop : MOk G rPop fPop := fun w ρ S σ H v xs k ds d S' Q s hv hd e q => by
  unfold fPop at e
  split at e
  · rename_i k' hk'
    split at e
    · rename_i ys hy
      split at e
      · rename_i y hl
        cases e
        cases hk'
        obtain ⟨rfl, vs, hvs, l⟩ := obj_at s.core hv hy
        cases hd
        obtain ⟨u, hu, du⟩ := l.get hl
        obtain ⟨c1, x1⟩ := s.core.setL hy l.dropLast
        exact ⟨_, vs, u, rfl, rfl, hvs, by rw [l.len]; exact hu, q w _ _ (s.ofCore c1 x1) x1 (du.ext x1)⟩
      · cases e
    · cases e
  · cases e
theorem m_popAt : MOk G rPopAt fPopAt := fun w ρ S σ H v xs k ds d S' Q s hv hd e q => by
  unfold fPopAt at e
  split at e
  · rename_i k' i hk'
    split at e
    · rename_i ys hy
      split at e
      · rename_i hi
        split at e
        · rename_i j hj
          split at e
          · rename_i y hl
            cases e
            cases hk'
            obtain ⟨rfl, vs, hvs, l⟩ := obj_at s.core hv hy
            obtain ⟨iv, rfl, hiv⟩ := denL1 hd
            cases den_int hiv
            obtain ⟨u, hu, du⟩ := l.get hl
            obtain ⟨c1, x1⟩ := s.core.setL hy (l.erase j)
            have h1 := hi.1
            have h2 := hi.2
            exact ⟨_, vs, i, j, u, rfl, rfl, hvs, by omega, by omega, by rw [l.len]; exact hj, hu, q w _ _ (s.ofCore c1 x1) x1 (du.ext x1)⟩
          · cases e
        · cases e
      · cases e
    · cases e
  · cases e
theorem m_reverse : MOk G rReverse fReverse := fun w ρ S σ H v xs k ds d S' Q s hv hd e q => by
  unfold fReverse at e
  split at e
  · rename_i k' hk'
    split at e
    · rename_i ys hy
      cases e
      cases hk'
      obtain ⟨rfl, vs, hvs, l⟩ := obj_at s.core hv hy
      cases hd
      obtain ⟨c1, x1⟩ := s.core.setL hy l.rev
      exact ⟨_, vs, rfl, rfl, hvs, q w _ _ (s.ofCore c1 x1) x1 .non⟩
    · cases e
  · cases e
section
variable {apos cpos : Pos}
theorem de_append (ho : DE X G o ta) (ha : DA X G (e :: es) ra) (hbase : attributeBase o "append" X.env (eval o X.env) = eval o X.env := by rfl)
    (hfew : ((backTo cpos (starEach (e :: es) X.env)).all (fun x => !x.1) && (backToKw cpos (keywordEach [] X.env)).all (fun x => x.1.isSome) && decide ((e :: es).length + ([] : List Keyword).length + (if ([] : List Keyword).isEmpty then 0 else 1) < 30)) = true := by rfl)
    (hline : (apos.endLine == cpos.line) = true := by rfl) (hs : starEach (e :: es) X.env = (false, eval e X.env) :: starEach es X.env := by rfl) (hplain : (backTo cpos (starEach es X.env)).any (·.1) = false := by rfl) :
    DE X G (.Call (.Attribute o "append" apos) (e :: es) [] cpos) (eM fAppend ta ra) :=
  let ⟨_, po, eo⟩ := ho; let ⟨_, pa, ea⟩ := ha
  ⟨_, pe_bm PySem.F.plainAttrs_list PySem.F.slot_list_append PySem.F.type_list_append mt_append po pa hbase hfew hline hs hplain, ev_m m_append eo ea⟩
theorem de_popAt (ho : DE X G o ta) (ha : DA X G (e :: es) ra) (hbase : attributeBase o "pop" X.env (eval o X.env) = eval o X.env := by rfl)
    (hfew : ((backTo cpos (starEach (e :: es) X.env)).all (fun x => !x.1) && (backToKw cpos (keywordEach [] X.env)).all (fun x => x.1.isSome) && decide ((e :: es).length + ([] : List Keyword).length + (if ([] : List Keyword).isEmpty then 0 else 1) < 30)) = true := by rfl)
    (hline : (apos.endLine == cpos.line) = true := by rfl) (hs : starEach (e :: es) X.env = (false, eval e X.env) :: starEach es X.env := by rfl) (hplain : (backTo cpos (starEach es X.env)).any (·.1) = false := by rfl) :
    DE X G (.Call (.Attribute o "pop" apos) (e :: es) [] cpos) (eM fPopAt ta ra) :=
  let ⟨_, po, eo⟩ := ho; let ⟨_, pa, ea⟩ := ha
  ⟨_, pe_bm PySem.F.plainAttrs_list PySem.F.slot_list_pop PySem.F.type_list_pop mt_popAt po pa hbase hfew hline hs hplain, ev_m m_popAt eo ea⟩
theorem ev_m0 {K : PySem.W.Frag} {r : V → List V → Hp → VK → Prop} {f : D → List D → Sto → Option (D × Sto)} {xo : TE} (hr : MOk G r f) (ho : Ev G xo ta) : Ev G (tBM0 K "list" r xo) (eM f ta aNil) := fun ρ S d S' e w σ H s Q q => by
  unfold eM at e
  split at e
  · rename_i k S1 h1
    split at e
    · rename_i zs hz
      have e : f (.obj k) [] S1 = some (d, S') := e
      refine ho ρ S _ S1 h1 w σ H s _ fun w1 v H1 s1 x1 d1 => ?_
      obtain ⟨ev, vs, hv, l⟩ := obj_at s1.core d1 hz
      refine ⟨?_, hr w1 ρ S1 σ H1 v [] k [] d S' Q s1 d1 .nil e fun w3 u H3 s3 x3 d3 => q w3 u H3 s3 (x1.trans x3) d3⟩
      rw [ev]
      exact .inl ⟨rfl, vs, .inl (.inl hv)⟩
    · cases e
  · cases e
theorem de_pop (ho : DE X G o ta) (hbase : attributeBase o "pop" X.env (eval o X.env) = eval o X.env := by rfl) (hline : (apos.endLine == cpos.line) = true := by rfl) : DE X G (.Call (.Attribute o "pop" apos) [] [] cpos) (eM fPop ta aNil) :=
  let ⟨_, po, eo⟩ := ho
  ⟨_, pe_bm0 PySem.F.plainAttrs_list PySem.F.slot_list_pop PySem.F.type_list_pop mt_pop po hbase hline, ev_m0 m_pop eo⟩
theorem de_reverse (ho : DE X G o ta) (hbase : attributeBase o "reverse" X.env (eval o X.env) = eval o X.env := by rfl) (hline : (apos.endLine == cpos.line) = true := by rfl) : DE X G (.Call (.Attribute o "reverse" apos) [] [] cpos) (eM fReverse ta aNil) :=
  let ⟨_, po, eo⟩ := ho
  ⟨_, pe_bm0 PySem.F.plainAttrs_list PySem.F.slot_list_reverse PySem.F.type_list_reverse mt_reverse po hbase hline, ev_m0 m_reverse eo⟩
end
end
end DL

set_option maxRecDepth 100000
set_option maxHeartbeats 4000000
set_option pp.maxSteps 900
namespace DL
open PySem PySem.Spec PyProof.Rows L2 GX LamX
open Classical

/-- a def of the text as it stands behind the top, its code object at c -/
structure FAt (K : PySem.W.Frag) (mg : Str → Option Value) (x : Str) (st : Stmt) (f c : Addr) : Prop where
  lk : ∃ (oc : Value) (od : Option Addr) (kV doc pm : Value) (an : Option Addr) (ct : Value) (osl : Array (Option Value)), K.lookup f = some ⟨oc, od, .func (PySem.W.fnOf x x (defArgs st) (defBody st) (defScope st) .none kV doc pm an (.ref c) ct), osl⟩
  cd : PySem.W.codeIn K (.ref c) x = true
  kp : PySem.W.keepIn K (.ref f) = true
  mg : mg x = some (.ref f)
/-- .. that computes F -/
structure DFs (P : Program) (wd : World) (G : Gc) (mg : Str → Option Value) (k : Nat) (x : Str) (st : Stmt) (f : Addr) (ps : List Str) (F : FD) : Prop where
  ok : ∃ (kV doc pm : Value) (an : Option Addr) (cdv ct : Value), (∃ (oc : Value) (od : Option Addr) (osl : Array (Option Value)), G.K.lookup f = some ⟨oc, od, .func (PySem.W.fnOf x x (defArgs st) (defBody st) (defScope st) .none kV doc pm an cdv ct), osl⟩) ∧ FnOk P wd G.K mg G.base CX0 k f (PySem.W.fnOf x x (defArgs st) (defBody st) (defScope st) .none kV doc pm an cdv ct) ps (SpD G F)
  kp : PySem.W.keepIn G.K (.ref f) = true
  mg : mg x = some (.ref f)
def BindsP (st : Stmt) (ps : List Str) : Prop := ∀ (x : Str) (kV doc pm : Value) (an : Option Addr) (cdv ct : Value) (us : List Value), us.length = ps.length → bindArgs (PySem.W.fnOf x x (defArgs st) (defBody st) (defScope st) .none kV doc pm an cdv ct) ⟨us, []⟩ = pure (ps.zip us)
@[simp] def pick {α : Type} (idx : List Nat) (xs : List α) : List α := idx.filterMap fun i => xs[i]?
def BindsK (st : Stmt) (ps ks : List Str) (idx : List Nat) : Prop := ∀ (x : Str) (kV doc pm : Value) (an : Option Addr) (cdv ct : Value) (ws : List Value), ws.length = ks.length → bindArgs (PySem.W.fnOf x x (defArgs st) (defBody st) (defScope st) .none kV doc pm an cdv ct) ⟨[], ks.zip ws⟩ = pure (ps.zip (pick idx ws))
section
variable {G : Gc} {X : Cx} {pos p : Pos} {e : Expr} {es : List Expr} {ra : RA} {te : RE} {x : Str} {st : Stmt} {f c : Addr} {ps ks : List Str} {F : FD} {k : Nat} {P : Program} {wd : World} {mg : Str → Option Value}
theorem DFs.mono {j : Nat} (h : DFs P wd G mg k x st f ps F) (hj : k ≤ j) : DFs P wd G mg j x st f ps F :=
  let ⟨a, b, c, d, e, g, lk, h1⟩ := h.ok; ⟨⟨a, b, c, d, e, g, lk, h1.mono hj⟩, h.kp, h.mg⟩
theorem DFs.cv {cv : Option Value} (h : DFs P wd G mg k x st f ps F) : DFs P wd { G with cv := cv } mg k x st f ps F :=
  let ⟨a, b, c, d, e, g, lk, h1⟩ := h.ok; ⟨⟨a, b, c, d, e, g, lk, h1.imp fun vs H Q E ⟨w, S, ds, d, S', c', l, e', q⟩ => ⟨w, S, ds, d, S', ⟨c'.sub, c'.fro, c'.cel, c'.inj, c'.tab, c'.t0⟩, l, e', fun w' v H' c2 x2 d2 => q w' v H' ⟨c2.sub, c2.fro, c2.cel, c2.inj, c2.tab, c2.t0⟩ x2 d2⟩⟩, h.kp, h.mg⟩
/-- f(..) -/
theorem dcall {cv : Option Value} (hf : DFs X.prog X.w G X.mg k x st f ps F) (hb : BindsP st ps) (hr : Room k X.A) (ha : DA X { G with cv := cv } (e :: es) ra) (hK : X.K = G.K := by rfl) (hB : X.base = G.base := by rfl) (hg : Gl X x := by rfl) (hdb : (x == ("__debug__" : Str)) = false := by decide)
    (he : starEach (e :: es) X.env = (false, eval e X.env) :: starEach es X.env := by rfl) (hpl : (backTo pos (starEach es X.env)).any (·.1) = false := by rfl) : DE X { G with cv := cv } (.Call (.Name x p) (e :: es) [] pos) (eA F ra) := by
  obtain ⟨kV, doc, pm, an, cdv, ct, _, hok⟩ := hf.ok
  exact de_call ⟨hok, hf.kp, .all (hb x kV doc pm an cdv ct), hf.mg⟩ hr hK hB ha hg hdb he hpl
def DK (X : Cx) (G : Gc) (kws : List Keyword) (t : RA) : Prop := ∃ ta, PK X kws ta ∧ EvA G ta t
theorem dk_nil : DK X G [] aNil := ⟨_, pk_nil, fun ρ S ds S' e w σ H s Q q => by cases e; exact q w [] H s (Ext.refl ..) .nil⟩
theorem dk_cons {nm : Option Str} {kpos : Pos} {kws : List Keyword} (h : DE X G e te) (h2 : DK X G kws ra) : DK X G (⟨nm, e, kpos⟩ :: kws) (aCons te ra) :=
  let ⟨_, pa, ea⟩ := h; let ⟨_, pb, eb⟩ := h2
  ⟨_, pk_cons pa pb, fun ρ S ds S' e w σ H s Q q => by
    unfold aCons at e
    split at e
    · rename_i x S1 h1
      split at e
      · rename_i xs S2 h2
        cases e
        exact ea ρ S x S1 h1 w σ H s _ fun w1 v H1 s1 x1 d1 => eb ρ S1 xs _ h2 w1 σ H1 s1 _ fun w2 vs H2 s2 x2 d2 => q w2 _ H2 s2 (x1.trans x2) (.cons (d1.ext x2) d2)
      · cases e
    · cases e⟩
theorem pick_vals {vs : List V} {us : List Value} (r : Vals vs us) : ∀ idx : List Nat, Vals (pick idx vs) (pick idx us)
  | [] => .nil
  | i :: rest => by
    have ih := pick_vals r rest
    unfold pick at ih ⊢
    by_cases hi : i < vs.length
    · obtain ⟨v, hv⟩ : ∃ v, vs[i]? = some v := ⟨_, List.getElem?_eq_getElem hi⟩
      obtain ⟨u, hu, ru⟩ := r.get hv
      rw [List.filterMap_cons, List.filterMap_cons, hv, hu]
      exact .cons ru ih
    · have h1 : vs[i]? = none := List.getElem?_eq_none (Nat.not_lt.mp hi)
      have h2 : us[i]? = none := List.getElem?_eq_none (by rw [← r.length]; exact Nat.not_lt.mp hi)
      rw [List.filterMap_cons, List.filterMap_cons, h1, h2]
      exact ih
theorem pick_den {w : Wd} {n : Nat} {vs : List V} {ds : List D} (r : DenL w n vs ds) : ∀ idx : List Nat, DenL w n (pick idx vs) (pick idx ds)
  | [] => .nil
  | i :: rest => by
    have ih := pick_den r rest
    unfold pick at ih ⊢
    by_cases hi : i < ds.length
    · obtain ⟨v, hv⟩ : ∃ v, ds[i]? = some v := ⟨_, List.getElem?_eq_getElem hi⟩
      obtain ⟨u, hu, ru⟩ := r.get hv
      rw [List.filterMap_cons, List.filterMap_cons, hv, hu]
      exact .cons ru ih
    · have h1 : ds[i]? = none := List.getElem?_eq_none (Nat.not_lt.mp hi)
      have h2 : vs[i]? = none := List.getElem?_eq_none (by rw [r.len]; exact Nat.not_lt.mp hi)
      rw [List.filterMap_cons, List.filterMap_cons, h1, h2]
      exact ih
/-- f(k = v, ..) -/
theorem dcallK {cv : Option Value} {kws : List Keyword} {idx : List Nat} (hf : DFs X.prog X.w G X.mg k x st f ps F) (hb : BindsK st ps ks idx) (hr : Room k X.A) (ha : DK X { G with cv := cv } kws ra) (hK : X.K = G.K := by rfl) (hB : X.base = G.base := by rfl) (hg : Gl X x := by rfl) (hdb : (x == ("__debug__" : Str)) = false := by decide)
    (hall : (backToKw pos (keywordEach kws X.env)).all (·.1.isSome) = true := by rfl) (hks : (backToKw pos (keywordEach kws X.env)).filterMap (·.1) = ks := by rfl) (hlen : kws.length = ks.length := by rfl)
    (hpl : ((backTo pos (starEach [] X.env)).any (·.1) || (backToKw pos (keywordEach kws X.env)).any (·.1.isNone)) = false := by rfl) (hn : ∀ (ρ : En) (S : Sto) (xs : List D) (S' : Sto), ra ρ S = some (xs, S') → xs.length = ks.length) :
    DE X { G with cv := cv } (.Call (.Name x p) [] kws pos) (eA (fun xs S => F (pick idx xs) S) ra) := by
  obtain ⟨kV, doc, pm, an, cdv, ct, _, hok⟩ := hf.ok
  obtain ⟨ta, pa, ea⟩ := ha
  refine ⟨teOf _ _, ⟨fun pins s σ H Q I ⟨ρ, S, d, S', w, e, sat, q⟩ => ?_⟩, ev_of⟩
  unfold eA at e
  split at e
  · rename_i xs S1 h1
    have hxl := hn _ _ _ _ h1
    refine wpAny_Call_Name_kw (ld_glob I hg hf.mg ?_ hdb)
    refine PySem.W.callWith_KW0 (h₀ := X.base) I.ok.mod.kin (by rw [hK]; exact hf.kp) hall ?_ hpl
    refine thn (pa.run pos pins s σ H (fun zs H1 => zs.length = xs.length ∧ SpD G F (pick idx zs) H1 Q E0) I (ea ρ S xs S1 h1 w σ H sat _ fun w1 vs H1 s1 x1 d1 => ⟨d1.len, sp_cv s1.core (pick_den d1 idx) e fun w2 v H2 c2 x2 d2 => q w2 v H2 (s1.ofCore c2 x2) (x1.trans x2) d2⟩)) fun ws s2 ⟨zs, H2, I2, rz, hzl, sp⟩ => ⟨I2.kIn, ?_⟩
    rw [hks]
    have hl := hok.len _ _ _ _ sp
    have r2 := pick_vals rz idx
    have hok : FnOk X.prog X.w X.K X.mg X.base CX0 k f (PySem.W.fnOf x x (defArgs st) (defBody st) (defScope st) .none kV doc pm an cdv ct) ps (SpD G F) := by rw [hK, hB]; exact hok
    refine wpAny_call (codeAny_mono (hok.run X.A X.stack s2 H2 ⟨[], ks.zip ws⟩ (pick idx ws) (pick idx zs) Q E0 hr I2.env0 (.of_eq (hb x kV doc pm an cdv ct ws (by rw [← rz.length, hzl, hxl]))) r2 sp) fun r s' hq => ?_)
    cases r with
    | error e => exact hq.elim
    | ok fl =>
      cases fl with
      | ret u => exact I2.after hq
      | next => exact False.elim hq
      | brk => exact False.elim hq
      | cont => exact False.elim hq
  · cases e
/-- THE RULE for a def -/
theorem fn_at {N : List Str} {fin : D → Sto → Sto → Option (D × Sto)} {t : RS} {cv : Option Value} (A : FAt G.K mg x st f c) (Sc : FnScope N ps (defScope st)) (hfin : FinOk fin) (hcv : ∀ v, cv = some v → v = .ref c ∧ ∃ P, G.t0 c P)
    (hbody : ∀ (A : Around) (outer : List Env) (s : Shared) (H : Hp) (E : XK), Room k (A.deeper (envOfC x (defScope st) s.heap.objs.size f (.ref c))) → DSs (cxOf CX0 P wd G.K mg G.base N x (defScope st) f (.ref c) A outer s H E).nox { G with cv := cv } (defBody st) t) :
    DFs P wd G mg (k + 1) x st f ps (fnD ps.length N.length fin t) := by
  obtain ⟨oc, od, kV, doc, pm, an, ct, osl, lk⟩ := A.lk
  exact ⟨⟨kV, doc, pm, an, .ref c, ct, ⟨oc, od, osl, lk⟩, fn_d lk A.cd Sc hfin (fun v hv => let ⟨e, P, h⟩ := hcv v hv; ⟨c, P, e, h⟩) hbody⟩, A.kp, A.mg⟩
end

/-! ### the law -/
def noLists (K : PySem.W.Frag) : Bool := K.all fun p => match p.2.cls with | .type "list" => false | _ => true
theorem lk_mem {a : Addr} {o : Obj} : ∀ {K : List (Addr × Obj)}, K.lookup a = some o → (a, o) ∈ K
  | [], e => by cases e
  | (b, u) :: r, e => by
    rw [List.lookup_cons] at e
    split at e
    · rename_i hb
      have hb := beq_iff_eq.mp hb
      cases e
      rw [hb]; exact List.mem_cons_self
    · exact List.mem_cons_of_mem _ (lk_mem e)
theorem noLists_of {K : PySem.W.Frag} (h : noLists K = true) {a : Addr} {o : Obj} (e : K.lookup a = some o) : o.cls ≠ .type "list" := fun hc => by
  have hm := lk_mem e
  unfold noLists at h
  rw [List.all_eq_true] at h
  have q := h _ hm
  simp only [hc] at q
  cases q
theorem triples_nil : TriplesOk ([] : List Value) := by first | exact trivial | decide | simp [TriplesOk]
theorem law_at {l : PySem.W.OpenLaw} {w : World} {K : PySem.W.Frag} {k n : Nat} {mg : Str → Option Value} {fa : Addr} {h : Heap} {st : Stmt} {x : Str} {ln : Str} {F : FD} (cs : List (Addr × Addr))
    (hT : ∀ p ∈ cs, h.get? p.2 = some { cls := .none, data := .fields #[] }) (hN : ∀ p ∈ cs, K.lookup p.2 = none) (hC : ∀ p ∈ cs, PySem.W.CodeHd h p.1 p.2) (hK : noLists K = true) (hb : BindsP st [x])
    (hlaw : ∀ ns : List Int, ns.length ≤ n → (∀ z ∈ ns, Builtin.Int.intBits z ≤ 1048576) → F [.scr (ns.map D.int)] [] = some (.bl true, []))
    {c : Addr} (A : FAt K mg ln st fa c) (hF : ∀ base : Heap, K.In base → base.Ns mainGlobals mg → (∀ p ∈ cs, TabB base mg p.1 p.2) → DFs l.prog w ⟨base, K, fun c P => (c, P) ∈ cs, none, w⟩ mg k ln st fa [x] F) : LawAtS l w K CX0 k n x mg fa h := by
  obtain ⟨oc, od, kV, doc, pm, an, ct, osl, lk⟩ := A.lk
  have hF : ∀ base : Heap, K.In base → base.Ns mainGlobals mg → (∀ p ∈ cs, TabB base mg p.1 p.2) → FnOk l.prog w K mg base CX0 k fa (PySem.W.fnOf ln ln (defArgs st) (defBody st) (defScope st) .none kV doc pm an (.ref c) ct) [x] (SpD ⟨base, K, fun c P => (c, P) ∈ cs, none, w⟩ F) := fun base hk hns ht => by
    obtain ⟨kV', doc', pm', an', cdv', ct', ⟨oc', od', osl', lk'⟩, hok⟩ := (hF base hk hns ht).ok
    have e := congrArg Obj.data (Option.some.inj (lk'.symm.trans lk))
    have e2 := Data.func.inj e
    rw [← e2]; exact hok
  refine ⟨_, cs, fun vs H Q _ => ∃ a ns, vs = [.ref a] ∧ SqL K H a (ns.map V.int) ∧ ns.length ≤ n ∧ (∀ z ∈ ns, Builtin.Int.intBits z ≤ 1048576) ∧ (∀ p ∈ cs, H p.2 = some (.tbl #[])) ∧ ∀ H', Q (.bl true) H', hT, hN, hC,
    fun s u => .of_eq (hb ln kV doc pm an (.ref c) ct [u] rfl), fun H a ns h1 h2 h3 h4 => ⟨a, ns, rfl, h4, h1, h2, h3, fun _ => rfl⟩, fun base hk hns ht => (hF base hk hns ht).imp fun vs H Q E ⟨a, ns, e, hs, h1, h2, h3, q⟩ => ?_⟩
  subst e
  have hr : Rd H a (.lst (ns.map V.int)) := by
    rcases hs with hs | ⟨o, its, m, hk2, hc, _⟩
    · exact hs
    · exact absurd hc (noLists_of hK hk2)
  obtain ⟨o, ho, hrd⟩ : ∃ o, H a = some o ∧ (o = .lst (ns.map V.int) ∨ ∃ ob, o = .frz ob (.lst (ns.map V.int))) := by
    rcases hr with hr | ⟨ob, hr⟩
    · exact ⟨_, hr, .inl rfl⟩
    · exact ⟨_, hr, .inr ⟨ob, rfl⟩⟩
  refine ⟨⟨fun _ => 0, fun b => if b = a then some o else none, fun c P => (c, P) ∈ cs⟩, [], [.scr (ns.map D.int)], .bl true, [], ?_, .cons (.scr ?_ (DenL.ints ns)) .nil, hlaw ns h1 h2, fun w' v H' _ _ d => by rw [den_bl d]; exact q H'⟩
  · refine ⟨fun b u hb => ?_, fun b u hb => ?_, fun k c hk => by simp at hk, fun j k hj _ _ => absurd hj (Nat.not_lt_zero _), ⟨fun c P hcp => ⟨.inr (ht _ hcp).code, #[], h3 _ hcp, triples_nil, fun pos cv hcv => ?_⟩⟩, fun _ _ h => h⟩
    · have hb : (if b = a then some o else none) = some u := hb
      split at hb
      · rename_i hba; cases hb; rw [hba]; exact ho
      · cases hb
    · have hb : (if b = a then some o else none) = some u := hb
      split at hb
      · cases hb
        rcases hrd with z | ⟨ob, z⟩
        · exact .inr (.inl ⟨_, z⟩)
        · exact .inr (.inr ⟨ob, _, z⟩)
      · cases hb
    · simp [codeAmong] at hcv
  · show Rd (fun b => if b = a then some o else none) a _
    rcases hrd with z | ⟨ob, z⟩
    · exact .inl ((if_pos rfl).trans (congrArg some z))
    · exact .inr ⟨ob, (if_pos rfl).trans (congrArg some z)⟩
/-- what the head's promise gives of each def's table -/
theorem walk_ofD {l : PySem.W.OpenLaw} {n k : Nat} {q : Program} {loose : List Str} {XP : (Str → Option Value) → Heap → Prop} {YP : World → Heap → Prop} {d : DefRec} {K : Params → PySem.W.Frag} {x : Str}
    (hn : l.most = some n) (hn2 : n ≤ sizeLine) (hdf : d.params.defaults = []) (hr : Room k callerA) (hY : ∀ (w : World) (h : Heap), YP w h → (K w.params).In h)
    (F : ∀ (w : World) (mg : Str → Option Value) (fa : Addr) (h : Heap), YP w h → (K w.params).In h → h.Ns mainGlobals mg → mg d.name = some (.ref fa) → (∀ y : Str, ((recsOf q).any fun e => e.name == y) = true → ∀ f, mg y = some (.ref f) → OwnTab (K w.params) f h) → LawAtS l w (K w.params) CX0 k n x mg fa h) :
    PySem.W.WalkO q loose XP YP l.row.toRowW d [] (fun f vs => PySem.call f vs) := by
  refine Att.attach_callB hn hdf fun w s₀ s₁ mg mb fa o pm cd doc a vs ns G Y ho hd hcd hmg hobj hints hlen hbits hg => ?_
  have KX := hY w _ Y
  have own : ∀ y : Str, ((recsOf q).any fun e => e.name == y) = true → ∀ f, mg y = some (.ref f) → OwnTab (K w.params) f s₁.heap := fun y hy f hmy c P o1 fd1 e dd vs1 sl k1 k2 k3 k4 k5 => by
    obtain ⟨dL, hm, hn1⟩ := List.any_eq_true.mp hy
    have hn2 : dL.name = y := beq_iff_eq.mp hn1
    obtain ⟨a', o', fd', c', P', h1, h2, h3, h4, h5, h6⟩ := G.T.tab dL hm
    rw [hn2, hmy] at h1
    cases h1
    rw [KX _ _ k1] at h2
    cases h2
    rw [k2] at h3
    cases h3
    rw [k3] at h4
    cases h4
    obtain ⟨⟨oc, vc, e1, _, e3, e4⟩, hP⟩ := h6
    rw [KX _ _ k4] at e1
    cases e1
    cases e3
    rw [k5] at e4
    cases e4
    exact hP
  obtain ⟨fd, cs, sp, hT, nT, C, hb, hsp, hF⟩ := F w mg fa _ Y KX G.T.g hmg own
  exact law_callTs KX G.T.g G.T.b G.T.builtins G.T.nolimit hg hT nT C G.T.bmain hobj hints (Nat.le_trans hlen hn2) hr hF hb (fun H hH hS => hsp H a ns hlen hbits hH hS) fun H e s' h => h.elim
end DL

set_option maxRecDepth 100000
set_option maxHeartbeats 4000000
set_option pp.maxSteps 900
namespace DL
open PySem PySem.Spec PyProof.Rows L2 GX
open Classical
section
variable {G : Gc} {X : Cx} {pos p : Pos} {a b c e o : Expr} {es : List Expr} {ta tb tc te : RE} {ra : RA} {mk : List D → Sto → Option (D × Sto)}
/-- + by what stands there -/
@[simp] def fPlus (mk : List D → Sto → Option (D × Sto)) : D → D → Sto → Option (D × Sto) := fun x y S => match x with
  | .int i => (match y with | .int j => some (.int (i + j), S) | _ => none)
  | .tup _ => fCatT x y S
  | .str u => (match y with | .str v => if u.length + v.length ≤ 1000000 then some (.str (u ++ v), S) else none | _ => none)
  | _ => fCatL mk x y S
@[simp] noncomputable def fTimes (mk : List D → Sto → Option (D × Sto)) : D → D → Sto → Option (D × Sto) := fun x y S => match x with
  | .int i => (match y with | .int j => if MulC i j then some (.int (i * j), S) else none | _ => none)
  | .tup _ => fRepT x y S
  | _ => fRepL mk x y S
/-- a made list is known: frozen, or an object of the store -/
def NewL (mk : List D → Sto → Option (D × Sto)) : Prop := ∀ {G : Gc} {w : Wd} {ρ : En} {S S' : Sto} {σ : L2.St} {H : Hp} {xs : List V} {ds : List D} {d : D} {Q : VK}, Sat G w ρ S σ H → DenL w S.length xs ds → mk ds S = some (d, S') →
      (∀ w' v H', Sat G w' ρ S' σ H' → Ext w S H w' S' H' → Den w' S'.length v d → Q v H') → xs.length ≤ sizeLine ∧ ∀ p, H p = none → Q (.ref p) (upd H p (.lst xs))
theorem newF : NewL fLst := fun s hd e q => new_lst s hd e q
theorem newO : NewL fObj := fun s hd e q => new_obj s hd e q
theorem r_catT : R2New G (rCatA X.K) fCatT := fun w ρ S σ H x y dx dy d S' Q s hx hy e q => by
  unfold fCatT at e
  split at e
  · rename_i xs ys
    split at e
    · rename_i hl
      cases e
      obtain ⟨p, vs, rfl, hp, l⟩ := den_tup hx
      obtain ⟨p', us, rfl, hp', l'⟩ := den_tup hy
      refine ⟨p, p', vs, us, rfl, rfl, .inl (.inl (s.core.sub _ _ hp)), .inl (.inl (s.core.sub _ _ hp')), by rw [l.len, l'.len]; exact le_line hl, fun h => ?_, fun h h' => ?_, fun h h' r hr => ?_⟩
      · have : xs = [] := l.nil_iff.mp h
        exact q w _ H s (Ext.refl ..) (by rw [this, List.nil_append]; exact .tup hp' l')
      · have : ys = [] := l'.nil_iff.mp h'
        exact q w _ H s (Ext.refl ..) (by rw [this, List.append_nil]; exact .tup hp l)
      · obtain ⟨s1, x1⟩ := s.newF (o := .tup (vs ++ us)) hr (.inl ⟨_, rfl⟩)
        exact q _ _ _ s1 x1 (den_newT (l.app l') (s.core.fresh hr))
    · cases e
  · cases e
theorem de_plus (hmk : NewL mk) (ha : DE X G a ta) (hb : DE X G b tb) : DE X G (.BinOp a .Add b pos) (e2s (fPlus mk) ta tb) :=
  let ⟨_, pa, ea⟩ := ha; let ⟨_, pb, eb⟩ := hb
  ⟨_, pe_op (op_add.or (op_catA.or (op_add_str.or op_cat))) pa pb, ev_2s (fun w ρ S σ H x y dx dy d S' Q s hx hy e q => by
    unfold fPlus at e
    split at e
    · split at e
      · cases e
        exact .inl ⟨_, _, den_int hx, den_int hy, q w _ H s (Ext.refl ..) (.int _)⟩
      · cases e
    · exact .inr (.inl (r_catT (X := X) w ρ S σ H x y _ dy d S' Q s hx hy e q))
    · split at e
      · split at e
        · rename_i hl
          cases e
          exact .inr (.inr (.inl ⟨_, _, den_str hx, den_str hy, le_line hl, q w _ H s (Ext.refl ..) (.str _)⟩))
        · cases e
      · cases e
    · exact .inr (.inr (.inr (r_catL (fun s hd e q => hmk s hd e q) w ρ S σ H x y _ dy d S' Q s hx hy e q)))) ea eb⟩
theorem r_repT : R2New G (fun x y H Q => rRep1 X.K x y H Q ∨ rRepT X.K x y H Q) fRepT := fun w ρ S σ H x y dx dy d S' Q s hx hy e q => by
  unfold fRepT at e
  split at e
  · rename_i xs k
    split at e
    · rename_i hc
      obtain ⟨h1, h2, h3, h4⟩ := hc
      cases e
      obtain ⟨p, vs, rfl, hp, l⟩ := den_tup hx
      cases den_int hy
      by_cases hk : k = 1
      · subst hk
        refine .inl ⟨p, vs, rfl, rfl, .inl (.inl (s.core.sub _ _ hp)), q w _ H s (Ext.refl ..) ?_⟩
        have : (List.replicate (1 : Int).toNat xs).flatten = xs := by simp
        rw [this]
        exact .tup hp l
      · refine .inr ⟨p, k, vs, rfl, rfl, .inl (.inl (s.core.sub _ _ hp)), fun z => h1 (l.nil_iff.mp z), by omega, h3, by rw [l.len]; exact h4, fun r hr => ?_⟩
        obtain ⟨s1, x1⟩ := s.newF (o := .tup (List.replicate k.toNat vs).flatten) hr (.inl ⟨_, rfl⟩)
        exact q _ _ _ s1 x1 (den_newT (l.rep k.toNat) (s.core.fresh hr))
    · cases e
  · cases e
theorem de_times (hmk : NewL mk) (ha : DE X G a ta) (hb : DE X G b tb) : DE X G (.BinOp a .Mult b pos) (e2s (fTimes mk) ta tb) :=
  let ⟨_, pa, ea⟩ := ha; let ⟨_, pb, eb⟩ := hb
  ⟨_, pe_op (op_mulC.or (OpR.or (OpR.or op_repT1 op_repT) op_rep)) pa pb, ev_2s (fun w ρ S σ H x y dx dy d S' Q s hx hy e q => by
    unfold fTimes at e
    split at e
    · split at e
      · split at e
        · rename_i hc
          cases e
          exact .inl ⟨_, _, den_int hx, den_int hy, hc, q w _ H s (Ext.refl ..) (.int _)⟩
        · cases e
      · cases e
    · exact .inr (.inl (r_repT (X := X) w ρ S σ H x y _ dy d S' Q s hx hy e q))
    · exact .inr (.inr (r_repL (fun s hd e q => hmk s hd e q) w ρ S σ H x y _ dy d S' Q s hx hy e q))) ea eb⟩
/-- steps of a while: by the ints that stand in the names -/
def fuelI : En → Sto → Nat := fun ρ _ => (ρ.map fun d => match d with | some (.int i) => i.natAbs | _ => 0).sum + 2
theorem dfs_zero {P : Program} {wd : World} {mg : Str → Option Value} {x : Str} {st : Stmt} {f c : Addr} {ps : List Str} {k : Nat} (A : FAt G.K mg x st f c) : DFs P wd G mg k x st f ps (fun _ _ => none) := by
  obtain ⟨oc, od, kV, doc, pm, an, ct, osl, lk⟩ := A.lk
  have z : ∀ vs H Q E, SpD G (fun _ _ => none) vs H Q E → False := fun vs H Q E h => by
    obtain ⟨_, _, _, _, _, _, _, e, _⟩ := h
    cases e
  exact ⟨⟨kV, doc, pm, an, .ref c, ct, ⟨oc, od, osl, lk⟩, ⟨fun vs H Q E h => (z vs H Q E h).elim, fun A outer s H args us vs Q E _ _ _ _ h => (z vs H Q E h).elim⟩⟩, A.kp, A.mg⟩
end
end DL

set_option maxRecDepth 100000
set_option maxHeartbeats 4000000
set_option pp.maxSteps 900
namespace DL
open PySem PySem.Spec PyProof.Rows L2 GX
open Classical
section
variable {G : Gc} {X : Cx} {pos p : Pos} {a b c e o : Expr} {es : List Expr} {ta tb tc te : RE} {ra : RA} {t1 : RT}
theorem bt_int : bootBuiltins "int" = some (.type "int") := by decide +kernel
theorem bt_bool : bootBuiltins "bool" = some (.type "bool") := by decide +kernel
theorem bt_str : bootBuiltins "str" = some (.type "str") := by decide +kernel
theorem bt_tuple : bootBuiltins "tuple" = some (.type "tuple") := by decide +kernel
theorem bt_list : bootBuiltins "list" = some (.type "list") := by decide +kernel
/-- how many values an argument list has -/
def AL (n : Nat) (r : RA) : Prop := ∀ (ρ : En) (S : Sto) (xs : List D) (S' : Sto), r ρ S = some (xs, S') → xs.length = n
theorem al_nil : AL 0 aNil := fun ρ S xs S' e => by cases e; rfl
theorem al_cons {n : Nat} {t : RE} {r : RA} (h : AL n r) : AL (n + 1) (aCons t r) := fun ρ S xs S' e => by
  unfold aCons at e
  split at e
  · split at e
    · rename_i h2
      cases e
      rw [List.length_cons, h _ _ _ _ h2]
    · cases e
  · cases e
/-- a look at the names of a def's scope -/
def scOk (N P : List Str) (sc : Scope) : Bool :=
  decide (sc.kind = .function) && !sc.isCoroutine && !sc.isGenerator && decide N.Nodup && decide (N.take P.length = P) && P.all (fun x => decide (sc.names.lookup x = some .local) || decide (sc.names.lookup x = some .cell)) && sc.names.all (fun y => !decide (y.2 = .free))
theorem sc_by {N P : List Str} {sc : Scope} (h : scOk N P sc = true) : FnScope N P sc := by
  unfold scOk at h
  simp only [Bool.and_eq_true, Bool.not_eq_true', decide_eq_true_eq, List.all_eq_true, Bool.or_eq_true, decide_eq_false_iff_not] at h
  obtain ⟨⟨⟨⟨⟨⟨h1, h2⟩, h3⟩, h4⟩, h5⟩, h6⟩, h7⟩ := h
  exact ⟨h1, h2, h3, h4, h5, h6, h7⟩
end
end DL


set_option maxRecDepth 100000
set_option maxHeartbeats 4000000
set_option pp.maxSteps 900
namespace DL
open PySem PySem.Spec PyProof.Rows L2 GX
open Classical
/-! ### max, min of one sequence of ints -/
@[simp] def listMax : List Int → Option Int | [] => none | x :: xs => some (xs.foldl max x)
@[simp] def listMin : List Int → Option Int | [] => none | x :: xs => some (xs.foldl min x)
theorem foldl_max : ∀ (xs : List Int) (a : Int), a ≤ xs.foldl max a ∧ (∀ y ∈ xs, y ≤ xs.foldl max a) ∧ (xs.foldl max a = a ∨ xs.foldl max a ∈ xs)
  | [], a => ⟨Int.le_refl a, (fun y h => by cases h), .inl rfl⟩
  | x :: xs, a => by
    obtain ⟨h1, h2, h3⟩ := foldl_max xs (max a x)
    refine ⟨by simp only [List.foldl_cons]; omega, fun y hy => ?_, ?_⟩
    · rcases List.mem_cons.mp hy with e | e
      · subst e; simp only [List.foldl_cons]; omega
      · exact h2 y e
    · simp only [List.foldl_cons]
      rcases h3 with h3 | h3
      · rw [h3]
        by_cases q : a ≤ x
        · right; rw [Int.max_eq_right q]; exact List.mem_cons_self
        · left; exact Int.max_eq_left (by omega)
      · exact .inr (List.mem_cons_of_mem _ h3)
theorem foldl_min : ∀ (xs : List Int) (a : Int), xs.foldl min a ≤ a ∧ (∀ y ∈ xs, xs.foldl min a ≤ y) ∧ (xs.foldl min a = a ∨ xs.foldl min a ∈ xs)
  | [], a => ⟨Int.le_refl a, (fun y h => by cases h), .inl rfl⟩
  | x :: xs, a => by
    obtain ⟨h1, h2, h3⟩ := foldl_min xs (min a x)
    refine ⟨by simp only [List.foldl_cons]; omega, fun y hy => ?_, ?_⟩
    · rcases List.mem_cons.mp hy with e | e
      · subst e; simp only [List.foldl_cons]; omega
      · exact h2 y e
    · simp only [List.foldl_cons]
      rcases h3 with h3 | h3
      · rw [h3]
        by_cases q : a ≤ x
        · left; exact Int.min_eq_left q
        · right; rw [Int.min_eq_right (by omega)]; exact List.mem_cons_self
      · exact .inr (List.mem_cons_of_mem _ h3)
theorem listMax_ok {ns : List Int} {m : Int} (h : listMax ns = some m) : 0 < ns.length ∧ ∀ k, k ∈ ns → (∀ y, y ∈ ns → y ≤ k) → k = m := by
  cases ns with
  | nil => cases h
  | cons x xs =>
    cases h
    obtain ⟨h1, h2, h3⟩ := foldl_max xs x
    refine ⟨by simp, fun k hk hb => ?_⟩
    have a : xs.foldl max x ≤ k := hb _ (by rcases h3 with e | e; · rw [e]; exact List.mem_cons_self
                                            · exact List.mem_cons_of_mem _ e)
    have b : k ≤ xs.foldl max x := by
      rcases List.mem_cons.mp hk with e | e
      · rw [e]; exact h1
      · exact h2 k e
    omega
theorem listMin_ok {ns : List Int} {m : Int} (h : listMin ns = some m) : 0 < ns.length ∧ ∀ k, k ∈ ns → (∀ y, y ∈ ns → k ≤ y) → k = m := by
  cases ns with
  | nil => cases h
  | cons x xs =>
    cases h
    obtain ⟨h1, h2, h3⟩ := foldl_min xs x
    refine ⟨by simp, fun k hk hb => ?_⟩
    have a : k ≤ xs.foldl min x := hb _ (by rcases h3 with e | e; · rw [e]; exact List.mem_cons_self
                                            · exact List.mem_cons_of_mem _ e)
    have b : xs.foldl min x ≤ k := by
      rcases List.mem_cons.mp hk with e | e
      · rw [e]; exact h1
      · exact h2 k e
    omega
@[simp] def fMax1 : List D → Sto → Option (D × Sto) := fun ds S => match ds with
  | [d] => (match seqD d S with | some xs => (match intsD xs with | some ns => (match listMax ns with | some m => some (.int m, S) | none => none) | none => none) | none => none)
  | _ => none
@[simp] def fMin1 : List D → Sto → Option (D × Sto) := fun ds S => match ds with
  | [d] => (match seqD d S with | some xs => (match intsD xs with | some ns => (match listMin ns with | some m => some (.int m, S) | none => none) | none => none) | none => none)
  | _ => none
section
variable {G : Gc} {X : Cx} {pos p p2 : Pos} {a b c e o : Expr} {lo hi : Option Expr} {es : List Expr} {ta tb tc te : RE} {ra : RA} {t1 : RT} {mk : List D → Sto → Option (D × Sto)}
/-! ### slices -/
abbrev RO := En → Sto → Option (Option Int × Sto)
@[simp] def oNo : RO := fun _ S => some (none, S)
@[simp] def oSome (t : RE) : RO := fun ρ S => match t ρ S with | some (.int i, S1) => some (some i, S1) | _ => none
def EvO (G : Gc) (to : TO) (t : RO) : Prop := ∀ (ρ : En) (S : Sto) (o : Option Int) (S' : Sto), t ρ S = some (o, S') → ∀ (w : Wd) (σ : L2.St) (H : Hp), Sat G w ρ S σ H → ∀ Q : Option Int → Hp → Prop,
  (∀ w' H', Sat G w' ρ S' σ H' → Ext w S H w' S' H' → Q o H') → to σ H Q
def DO (X : Cx) (G : Gc) (e : Option Expr) (t : RO) : Prop := ∃ to, PO X e to ∧ EvO G to t
theorem do_no : DO X G none oNo := ⟨_, po_none, fun ρ S o S' e w σ H s Q q => by cases e; exact q w H s (Ext.refl ..)⟩
theorem do_some (h : DE X G e te) : DO X G (some e) (oSome te) :=
  let ⟨_, p, ev⟩ := h
  ⟨_, po_some p, fun ρ S o S' e w σ H s Q q => by
    unfold oSome at e
    split at e
    · rename_i i S1 h1
      cases e
      exact ev ρ S _ _ h1 w σ H s _ fun w1 v H1 s1 x1 d1 => ⟨_, den_int d1, q w1 H1 s1 x1⟩
    · cases e⟩
def cutD (xs : List D) (lo hi : Option Int) : List D := (xs.drop (HT.sIx xs.length 0 lo)).take (HT.sIx xs.length xs.length hi - HT.sIx xs.length 0 lo)
@[simp] def fSl (mk : List D → Sto → Option (D × Sto)) : D → Option Int → Option Int → Sto → Option (D × Sto) := fun d l h S => match d with
  | .tup xs => some (.tup (cutD xs l h), S)
  | d => (match seqD d S with | some xs => mk (cutD xs l h) S | none => none)
@[simp] def eSl (mk : List D → Sto → Option (D × Sto)) (a : RE) (lo hi : RO) : RE := fun ρ S => match a ρ S with
  | some (d, S1) => (match lo ρ S1 with
    | some (l, S2) => (match hi ρ S2 with
      | some (h, S3) => fSl mk d l h S3
      | none => none)
    | none => none)
  | none => none
theorem DenL.cut {w : Wd} {n : Nat} {vs : List V} {ds : List D} (h : DenL w n vs ds) (l u : Option Int) : DenL w n (cutV vs l u) (cutD ds l u) := by
  unfold cutV cutD
  rw [h.len]
  exact (h.drop _).take _
theorem cutD_all {xs : List D} {l h : Option Int} (h1 : HT.sIx xs.length 0 l = 0 ∧ HT.sIx xs.length xs.length h = xs.length) : cutD xs l h = xs := by
  unfold cutD
  rw [h1.1, h1.2]
  simp
theorem seq_L {K : PySem.W.Frag} {w : Wd} {S : Sto} {H : Hp} (c : Core G w S H) {v : V} {d : D} {xs : List D} (h : Den w S.length v d) (e : seqD d S = some xs) (hn : ∀ ys, d = .tup ys → False) : ∃ p vs, v = .ref p ∧ SqL K H p vs ∧ DenL w S.length vs xs := by
  obtain ⟨p, vs, h1, h2, h3⟩ := seq_ok' (K := K) c h e
  rcases h3 with h3 | ⟨_, h4⟩
  · exact ⟨p, vs, h1, h3, h2⟩
  · subst h1
    cases h with
    | tup r l => exact (hn _ rfl).elim
    | lst r l => rw [h4] at r; cases r
    | scr r l =>
      rcases r with r | ⟨o, r⟩ <;> rw [h4] at r <;> cases r
    | obj hk =>
      simp only [seqD] at e
      split at e
      · rename_i ys hx
        obtain ⟨g, _⟩ := c.cel _ _ hx
        rw [g] at h4; cases h4
      · cases e
theorem de_sl {tl tu : RO} (hmk : NewL mk) (ha : DE X G a ta) (hl : DO X G lo tl) (hu : DO X G hi tu) : DE X G (.Subscript a (.Slice lo hi none p2) pos) (eSl mk ta tl tu) :=
  let ⟨_, pa, ea⟩ := ha; let ⟨_, pl, el⟩ := hl; let ⟨_, pu, eu⟩ := hu
  ⟨_, pe_slice (SlR.or sl_tupA sl_list) pa pl pu, fun ρ S d S' e w σ H s Q q => by
    unfold eSl at e
    split at e
    · rename_i d0 S1 h1
      split at e
      · rename_i l S2 h2
        split at e
        · rename_i u S3 h3
          refine ea ρ S d0 S1 h1 w σ H s _ fun w1 v H1 s1 x1 d1 => el ρ S1 l S2 h2 w1 σ H1 s1 _ fun w2 H2 s2 x2 => eu ρ S2 u S3 h3 w2 σ H2 s2 _ fun w3 H3 s3 x3 => ?_
          have d3 := (d1.ext x2).ext x3
          have xx := (x1.trans x2).trans x3
          unfold fSl at e
          split at e
          · rename_i xs
            cases e
            obtain ⟨pp, vs, rfl, hp, l0⟩ := den_tup d3
            refine .inl ⟨pp, vs, rfl, .inl (.inl (s3.core.sub _ _ hp)), fun hw => ?_, fun _ r hr => ?_⟩
            · rw [l0.len] at hw
              exact q w3 _ H3 s3 xx (by rw [cutD_all hw]; exact d3)
            · obtain ⟨s4, x4⟩ := s3.newF (o := .tup (cutV vs l u)) hr (.inl ⟨_, rfl⟩)
              exact q _ _ _ s4 (xx.trans x4) (den_newT (l0.cut l u) (s3.core.fresh hr))
          · rename_i hnt
            split at e
            · rename_i xs hs
              obtain ⟨pp, vs, rfl, hL, l0⟩ := seq_L (K := X.K) s3.core d3 hs hnt
              exact .inr ⟨pp, vs, rfl, hL, fun r hr => (hmk s3 (l0.cut l u) e fun w4 v4 H4 s4 x4 d4 => q w4 v4 H4 s4 (xx.trans x4) d4).2 r hr⟩
            · cases e
        · cases e
      · cases e
    · cases e⟩
/-! ### max, min of a list of ints -/
theorem boot_max : bootBuiltins "max" = some (.builtin "max") := by decide +kernel
theorem boot_min : bootBuiltins "min" = some (.builtin "min") := by decide +kernel
/-- a list, no tuple -/
@[simp] def fMax1L : List D → Sto → Option (D × Sto) := fun ds S => match ds with
  | [.tup _] => none
  | _ => fMax1 ds S
@[simp] def fMin1L : List D → Sto → Option (D × Sto) := fun ds S => match ds with
  | [.tup _] => none
  | _ => fMin1 ds S
theorem de_max1 (hc : X.calm = true) (hm : X.mg "max" = none) (ha : DE X G a ta) (hg : Gl X "max" := by rfl) (hs : starEach [a] X.env = (false, eval a X.env) :: starEach [] X.env := by rfl) (hpl : (backTo pos (starEach [] X.env)).any (·.1) = false := by rfl) :
    DE X G (.Call (.Name "max" p) [a] [] pos) (eA fMax1L (aCons ta aNil)) :=
  let ⟨_, pa, ea⟩ := da_cons ha da_nil hs
  ⟨_, pe_callB (cr_max hc) hg hm boot_max pa (by decide) (by decide) hs hpl, ev_cb (fun w ρ S σ H xs ds d S' Q s hd e q => by
    unfold fMax1L at e
    split at e
    · cases e
    · rename_i hnt
      unfold fMax1 at e
      split at e
      · rename_i dd
        obtain ⟨v, rfl, hv⟩ := denL1 hd
        split at e
        · rename_i ys h1
          split at e
          · rename_i ns h2
            split at e
            · rename_i m h3
              cases e
              obtain ⟨a, vs, rfl, hq, l⟩ := seq_L (K := X.K) s.core hv h1 (fun ys z => hnt ys (by rw [z]))
              rw [ints_of l h2] at hq
              obtain ⟨g1, g2⟩ := listMax_ok h3
              exact ⟨a, ns, rfl, hq, g1, fun m' m1 m2 => by rw [g2 m' m1 m2]; exact q w _ H s (Ext.refl ..) (.int _)⟩
            · cases e
          · cases e
        · cases e
      · cases e) ea⟩
theorem de_min1 (hc : X.calm = true) (hm : X.mg "min" = none) (ha : DE X G a ta) (hg : Gl X "min" := by rfl) (hs : starEach [a] X.env = (false, eval a X.env) :: starEach [] X.env := by rfl) (hpl : (backTo pos (starEach [] X.env)).any (·.1) = false := by rfl) :
    DE X G (.Call (.Name "min" p) [a] [] pos) (eA fMin1L (aCons ta aNil)) :=
  let ⟨_, pa, ea⟩ := da_cons ha da_nil hs
  ⟨_, pe_callB (cr_min hc) hg hm boot_min pa (by decide) (by decide) hs hpl, ev_cb (fun w ρ S σ H xs ds d S' Q s hd e q => by
    unfold fMin1L at e
    split at e
    · cases e
    · rename_i hnt
      unfold fMin1 at e
      split at e
      · rename_i dd
        obtain ⟨v, rfl, hv⟩ := denL1 hd
        split at e
        · rename_i ys h1
          split at e
          · rename_i ns h2
            split at e
            · rename_i m h3
              cases e
              obtain ⟨a, vs, rfl, hq, l⟩ := seq_L (K := X.K) s.core hv h1 (fun ys z => hnt ys (by rw [z]))
              rw [ints_of l h2] at hq
              obtain ⟨g1, g2⟩ := listMin_ok h3
              exact ⟨a, ns, rfl, hq, g1, fun m' m1 m2 => by rw [g2 m' m1 m2]; exact q w _ H s (Ext.refl ..) (.int _)⟩
            · cases e
          · cases e
        · cases e
      · cases e) ea⟩
/-! ### is True -/
@[simp] def fIsB : D → D → Sto → Option D := fun x y _ => match x, y with | .bl a, .bl b => some (.bl (decide (a = b))) | _, _ => none
@[simp] def fNotB : D → D → Sto → Option D := fun x y _ => match x, y with | .bl a, .bl b => some (.bl (!decide (a = b))) | _, _ => none
theorem c_isB : CmpOk X G .Is fIsB := ⟨_, op_isBl, fun w S H x y dx dy d Q c hx hy e q => by
  unfold fIsB at e
  split at e
  · cases e; exact ⟨_, _, den_bl hx, den_bl hy, q _ (.bl _)⟩
  · cases e⟩
theorem c_notB : CmpOk X G .IsNot fNotB := ⟨_, op_notBl, fun w S H x y dx dy d Q c hx hy e q => by
  unfold fNotB at e
  split at e
  · cases e; exact ⟨_, _, den_bl hx, den_bl hy, q _ (.bl _)⟩
  · cases e⟩
/-! ### a constant of the module -/
theorem de_gint {x : Str} {i : Int} {u : Tok} (hm : X.mg x = some (.int i u)) (hg : Gl X x := by rfl) (hd : (x == ("__debug__" : Str)) = false := by decide) : DE X G (.Name x p) (eC (.int i)) := ⟨_, pe_glob (v := .int i) hg hm ⟨_, rfl⟩ hd, ev_c fun _ _ => .int i⟩
end
end DL

set_option maxRecDepth 100000
set_option maxHeartbeats 4000000
set_option pp.maxSteps 900
namespace DL
open PySem PySem.Spec PyProof.Rows L2 GX
/-! ### x in c, x not in c: lists and tuples of trees -/
/-- the items of a tree that is a list or a tuple -/
@[simp] def itemsP : PyData → Option (List PyData) | .list xs => some xs | .tuple xs => some xs | _ => none
def fInB (neg : Bool) : D → D → Sto → Option D := fun x y _ => match toP x, toP y with
  | some p, some c => (match itemsP c with
    | some ps => if PyData.plainAll ps = true ∧ p.plain = true ∧ p.depth ≤ 60 then some (.bl (neg ^^ ps.any fun z => PyData.eqv z p)) else none
    | none => none)
  | _, _ => none
abbrev fIn := fInB false
abbrev fNotIn := fInB true
def rInD (K : PySem.W.Frag) (neg : Bool) : R2 := fun x y H Q => ∃ d c ps, Dp K H x d ∧ Dp K H y c ∧ itemsP c = some ps ∧ PyData.plainAll ps = true ∧ d.plain = true ∧ d.depth ≤ 60 ∧ Q (.bl (neg ^^ ps.any fun z => PyData.eqv z d)) H
section
variable {G : Gc} {X : Cx} {k : Nat}
theorem op_inD (hu : X.A.units + 64 < cLine) : OpR X (compareOp .In) (rInD X.K false) := by
  intro pins s σ H x y v u Q I rx ry h
  obtain ⟨d, c, ps, hd, hc, hi, h1, h2, h3, q⟩ := h
  obtain ⟨as, r1⟩ := Dp.reads I d x v hd rx
  obtain ⟨bs, r2⟩ := Dp.reads I c y u hc ry
  have hm : X.A.units + 1 + min (PyData.depthAll ps) d.depth < cLine := by
    have := Nat.min_le_right (PyData.depthAll ps) d.depth
    omega
  rw [Bool.false_xor] at q
  cases c <;> simp only [itemsP] at hi <;> cases hi
  · exact SeqAt.in_list_data r2 r1 h1 h2 hm ⟨.bl _, H, I, rfl, q⟩
  · exact SeqAt.in_tuple_data r2 r1 h1 h2 hm ⟨.bl _, H, I, rfl, q⟩
theorem op_notInD (hu : X.A.units + 64 < cLine) : OpR X (compareOp .NotIn) (rInD X.K true) := by
  intro pins s σ H x y v u Q I rx ry h
  obtain ⟨d, c, ps, hd, hc, hi, h1, h2, h3, q⟩ := h
  obtain ⟨as, r1⟩ := Dp.reads I d x v hd rx
  obtain ⟨bs, r2⟩ := Dp.reads I c y u hc ry
  have hm : X.A.units + 1 + min (PyData.depthAll ps) d.depth < cLine := by
    have := Nat.min_le_right (PyData.depthAll ps) d.depth
    omega
  rw [Bool.true_xor] at q
  cases c <;> simp only [itemsP] at hi <;> cases hi
  · exact SeqAt.notIn_list_data r2 r1 h1 h2 hm ⟨.bl _, H, I, rfl, q⟩
  · exact SeqAt.notIn_tuple_data r2 r1 h1 h2 hm ⟨.bl _, H, I, rfl, q⟩
theorem r_inD {K : PySem.W.Frag} {neg : Bool} : R2Ok G (rInD K neg) (fInB neg) := fun w S H x y dx dy d Q c hx hy e q => by
  unfold fInB at e
  split at e
  · rename_i p c' h1 h2
    split at e
    · rename_i ps h4
      split at e
      · rename_i h3
        cases e
        exact ⟨p, c', ps, dp_of c.sub hx h1, dp_of c.sub hy h2, h4, h3.1, h3.2.1, h3.2.2, q _ (.bl _)⟩
      · cases e
    · cases e
  · cases e
theorem c_in (hr : Room k X.A) : CmpOk X G .In fIn := ⟨_, op_inD hr.units, r_inD⟩
theorem c_notin (hr : Room k X.A) : CmpOk X G .NotIn fNotIn := ⟨_, op_notInD hr.units, r_inD⟩
/-! ### a test that is a choice -/
@[simp] def tIfD (c t u : RT) : RT := fun ρ S => match c ρ S with | some (true, S1) => t ρ S1 | some (false, S1) => u ρ S1 | none => none
theorem pt_ifExp {a b c : Expr} {pos : Pos} {tc ta tb : TT} (hc : PT X c tc) (ha : PT X a ta) (hb : PT X b tb) : PT X (.IfExp c a b pos) (fun σ H Q => tc σ H fun d H1 => if d = true then ta σ H1 Q else tb σ H1 Q) := by
  refine ⟨fun pins s σ H Q I h => ?_⟩
  refine isTrue_IfExp (thn (hc.run pins s σ H _ I h) fun d s1 ⟨H1, I1, q1⟩ => ?_)
  cases d with
  | true => exact ha.run pins s1 σ H1 Q I1 q1
  | false => exact hb.run pins s1 σ H1 Q I1 q1
theorem dt_if {a b c : Expr} {pos : Pos} {t1 t2 t3 : RT} (h : DT X G c t1) (ha : DT X G a t2) (hb : DT X G b t3) : DT X G (.IfExp c a b pos) (tIfD t1 t2 t3) :=
  let ⟨_, pc, ec⟩ := h; let ⟨_, pa, ea⟩ := ha; let ⟨_, pb, eb⟩ := hb
  ⟨_, pt_ifExp pc pa pb, fun ρ S d S' e w σ H s Q q => by
    unfold tIfD at e
    split at e
    · rename_i S1 g1
      exact ec ρ S _ _ g1 w σ H s _ fun w1 H1 s1 x1 => iteT (ea ρ S1 _ _ e w1 σ H1 s1 _ fun w2 H2 s2 x2 => q w2 H2 s2 (x1.trans x2))
    · rename_i S1 g1
      exact ec ρ S _ _ g1 w σ H s _ fun w1 H1 s1 x1 => iteF (eb ρ S1 _ _ e w1 σ H1 s1 _ fun w2 H2 s2 x2 => q w2 H2 s2 (x1.trans x2))
    · cases e⟩
end
end DL

set_option maxRecDepth 100000
set_option maxHeartbeats 4000000
set_option pp.maxSteps 900
/-! generator expressions with two fors: tuple(..), all(..), any(..) -/
namespace DL
open PySem PySem.Spec PyProof.Rows L2 GX
open Classical
section
variable {G : Gc} {X : Cx} {pos gpos p : Pos} {elt tg iter tg1 iter1 : Expr} {ifs ifs1 : List Expr} {te : RE} {ri ri1 : RI} {tt tt1 : RT} {g g1 : RG} {vs vs1 : List Nat} {scope : Scope} {own : List (Str × Nat)}
theorem gturn_tupA {J : It} {ds : List D} {chk : Sto → Prop} {gg : TG} {xt : TT} {xe : TE} {w1 : Wd} {S1 S2 : Sto} {H1 : Hp} {ρ : En} {σ : L2.St} {yall aD0 : List D} {ys0 : List V} {cv : Value} {N : Nat} {Qe : List V → Hp → Prop}
    (eg : EvGw (G.at cv) vs gg g) (et : EvT (G.at cv) xt tt) (ee : Ev (G.at cv) xe te) (jd : JD (G.at cv) J ds w1 S1.length chk) (s1 : Sat (G.at cv) w1 (wipeD ρ vs) S1 (L2.wipe σ vs) H1) (hk : chk S1)
    (e : compL g tt te chk (wipeD ρ vs) ds S1 = some (yall, S2)) (l0 : DenL w1 S1.length ys0 aD0) (hN : aD0.length + yall.length ≤ N)
    (hq : ∀ w ys H, Core G w S2 H → Ext w1 S1 H1 w S2 H → DenL w S2.length ys (aD0 ++ yall) → Qe ys H) :
    ∃ W, (∃ m, W 0 m ys0 H1) ∧ GTurn J gg xt xe vs (L2.wipe σ vs) N (fun _ _ _ => True) (fun _ _ => True) Qe W := by
  refine ⟨fun i m acc H => ∃ w S aD ys', Core (G.at cv) w S H ∧ Ext w1 S1 H1 w S H ∧ chk S ∧ i + m = ds.length ∧ DenL w S.length acc aD ∧ compL g tt te chk (wipeD ρ vs) (ds.drop i) S = some (ys', S2) ∧ aD ++ ys' = aD0 ++ yall,
    ⟨ds.length, w1, S1, aD0, yall, s1.core, Ext.refl .., hk, Nat.zero_add _, l0, e, rfl⟩, fun i m acc H ⟨w, S, aD, ys', c, x, hc, hm, ln, e, hy⟩ => ?_⟩
  obtain ⟨hstop, hgo⟩ := jd i w S H c x.fr x.al x.sz hc
  cases m with
  | zero =>
    have hi : i = ds.length := by omega
    rw [hi, List.drop_length] at e
    unfold compL at e
    cases e
    rw [List.append_nil] at hy
    subst hy
    exact .inl ⟨hstop hi, hq w acc H c.off x ln⟩
  | succ m =>
    have hil : i < ds.length := by omega
    rw [List.drop_eq_getElem_cons hil] at e
    obtain ⟨go, hyl⟩ := hgo ds[i] (List.getElem?_eq_getElem hil)
    unfold compL at e
    refine .inr ⟨go, fun v H2 hyld => ?_⟩
    obtain ⟨w4, c4, x4, d4⟩ := hyl v H2 hyld
    have s4 := s1.ofCore c4 (x.trans x4)
    split at e
    · rename_i ρ1 Sa h1
      refine eg ds[i] (wipeD ρ vs) S ρ1 Sa h1 w4 _ H2 v s4 d4 _ fun w5 σ5 H5 z5 s5 x5 => ⟨z5.trans wipe_wipe, ?_⟩
      split at e
      · rename_i Sb h2
        refine et ρ1 Sa true Sb h2 w5 σ5 H5 s5 _ fun w6 H6 s6 x6 => ?_
        rw [if_pos rfl]
        split at e
        · rename_i y Sc h3
          refine ee ρ1 Sb y Sc h3 w6 σ5 H6 s6 _ fun w7 vy H7 s7 x7 d7 => ?_
          split at e
          · rename_i hck
            split at e
            · rename_i ys2 Sd h4
              cases e
              have xx := ((x4.trans x5).trans x6).trans x7
              refine ⟨?_, trivial, fun _ => ⟨m, Nat.lt_succ_self m, w7, Sc, aD ++ [y], ys2, s7.core, x.trans xx, hck, by omega, (ln.ext xx).app (.cons d7 .nil), h4, by rw [List.append_assoc]; exact hy⟩⟩
              have hlen := congrArg List.length hy
              rw [List.length_append, List.length_append, List.length_cons, ← ln.len] at hlen
              omega
            · cases e
          · cases e
        · cases e
      · rename_i Sb h2
        refine et ρ1 Sa false Sb h2 w5 σ5 H5 s5 _ fun w6 H6 s6 x6 => ?_
        rw [if_neg (by decide)]
        split at e
        · rename_i hck
          have xx := (x4.trans x5).trans x6
          exact ⟨m, Nat.lt_succ_self m, w6, Sb, aD, ys', s6.core, x.trans xx, hck, by omega, ln.ext xx, e, hy⟩
        · cases e
      · cases e
    · cases e
theorem gturn_tup2 {J : It} {ds : List D} {chk : Sto → Prop} {gg gg1 : TG} {xt xt1 : TT} {wi1 : TI} {xe : TE} {w1 w1' : Wd} {S1 S2 : Sto} {H1 H1' : Hp} {ρ : En} {σ : L2.St} {yall : List D} {cv : Value}
    (eg : EvGw (G.at cv) vs gg g) (et : EvT (G.at cv) xt tt) (ei1 : EvI (G.at cv) wi1 ri1) (eg1 : EvGw (G.at cv) vs1 gg1 g1) (et1 : EvT (G.at cv) xt1 tt1) (ee : Ev (G.at cv) xe te) (jd : JD G J ds w1 S1.length chk) (s1 : Sat (G.at cv) w1' (wipeD ρ vs) S1 (L2.wipe σ vs) H1') (x1 : Ext w1 S1 H1 w1' S1 H1') (hk : chk S1)
    (e : compL2 g tt ri1 g1 tt1 te vs1 chk (wipeD ρ vs) ds S1 = some (yall, S2)) :
    ∃ W, (∃ m, W 0 m [] H1') ∧ GTurn2 J gg xt wi1 gg1 xt1 xe vs vs1 (L2.wipe σ vs) yall.length (fun _ _ _ => True) (fun _ _ => True) (fun ys H => ∃ w, Core G w S2 H ∧ Ext w1' S1 H1' w S2 H ∧ DenL w S2.length ys yall) W := by
  refine ⟨fun i m acc H => ∃ w S aD ys', Core G w S H ∧ Ext w1' S1 H1' w S H ∧ chk S ∧ i + m = ds.length ∧ DenL w S.length acc aD ∧ compL2 g tt ri1 g1 tt1 te vs1 chk (wipeD ρ vs) (ds.drop i) S = some (ys', S2) ∧ aD ++ ys' = yall,
    ⟨ds.length, w1', S1, [], yall, s1.core.off, Ext.refl .., hk, Nat.zero_add _, .nil, e, rfl⟩, fun i m acc H ⟨w, S, aD, ys', c, x, hc, hm, ln, e, hy⟩ => ?_⟩
  have rr := x1.trans x
  obtain ⟨hstop, hgo⟩ := jd i w S H c rr.fr rr.al rr.sz hc
  cases m with
  | zero =>
    have hi : i = ds.length := by omega
    rw [hi, List.drop_length] at e
    unfold compL2 at e
    cases e
    rw [List.append_nil] at hy
    subst hy
    exact .inl ⟨hstop hi, w, c, x, ln⟩
  | succ m =>
    have hil : i < ds.length := by omega
    rw [List.drop_eq_getElem_cons hil] at e
    obtain ⟨go, hyl⟩ := hgo ds[i] (List.getElem?_eq_getElem hil)
    unfold compL2 at e
    refine .inr ⟨go, fun v H2 hyld => ?_⟩
    obtain ⟨w4, c4, x4, d4⟩ := hyl v H2 hyld
    have s4 := s1.ofCore c4.at (x.trans x4)
    split at e
    · rename_i ρ1 Sa h1
      refine eg ds[i] (wipeD ρ vs) S ρ1 Sa h1 w4 _ H2 v s4 d4 _ fun w5 σ5 H5 z5 s5 x5 => ⟨z5.trans wipe_wipe, ?_⟩
      split at e
      · rename_i Sb h2
        refine et ρ1 Sa true Sb h2 w5 σ5 H5 s5 _ fun w6 H6 s6 x6 => ?_
        rw [if_pos rfl]
        split at e
        · rename_i ds1 chk1 Sc h3
          split at e
          · rename_i ys1 Sd h4
            split at e
            · rename_i hck
              split at e
              · rename_i zs Se h5
                cases e
                refine ei1 ρ1 Sb ds1 chk1 Sc h3 w6 σ5 H6 s6 _ fun J1 w7 H7 s7 x7 jd1 hk1 => ?_
                have xx := ((x4.trans x5).trans x6).trans x7
                refine gturn_tupA (G := G) eg1 et1 ee jd1 (s7.wipe vs1) hk1 h4 (ln.ext xx) ?_ fun w8 ys8 H8 c8 x8 l8 => ?_
                · have hlen := congrArg List.length hy
                  simp only [List.length_append] at hlen
                  omega
                · exact ⟨m, Nat.lt_succ_self m, w8, Sd, aD ++ ys1, zs, c8, x.trans (xx.trans x8), hck, by omega, l8, h5, by rw [List.append_assoc]; exact hy⟩
              · cases e
            · cases e
          · cases e
        · cases e
      · rename_i Sb h2
        refine et ρ1 Sa false Sb h2 w5 σ5 H5 s5 _ fun w6 H6 s6 x6 => ?_
        rw [if_neg (by decide)]
        split at e
        · rename_i hck
          have xx := (x4.trans x5).trans x6
          exact ⟨m, Nat.lt_succ_self m, w6, Sb, aD, ys', s6.core.off, x.trans xx, hck, by omega, ln.ext xx, e, hy⟩
        · cases e
      · cases e
    · cases e
/-- what the body of a generator expression with two fors computes -/
def GBody2 (X : Cx) (G : Gc) (k : Nat) (scope : Scope) (vs vs1 : List Nat) (tg : Expr) (ifs : List Expr) (tg1 iter1 : Expr) (ifs1 : List Expr) (elt : Expr) (g : RG) (tt : RT) (ri1 : RI) (g1 : RG) (tt1 : RT) (te : RE) : Prop :=
  ∀ (s : Shared) (H : Hp) (L : Addr) (cl : List (Str × Addr)) (q : Str) (c' : Addr) (fp : List Addr) (pn : List (Addr × Obj)) (A : Around), Room k A →
    DGw (gx X s H scope L cl q (.ref c') fp pn A) (G.at (.ref c')) vs tg g ∧ DTs (gx X s H scope L cl q (.ref c') fp pn A) (G.at (.ref c')) ifs tt ∧ DI (gx X s H scope L cl q (.ref c') fp pn A) (G.at (.ref c')) tg1 iter1 ri1 ∧
    DGw (gx X s H scope L cl q (.ref c') fp pn A) (G.at (.ref c')) vs1 tg1 g1 ∧ DTs (gx X s H scope L cl q (.ref c') fp pn A) (G.at (.ref c')) ifs1 tt1 ∧ DE (gx X s H scope L cl q (.ref c') fp pn A) (G.at (.ref c')) elt te
theorem de_tupGen2 {k : Nat} (hr : Room (k + 5) X.A) (hm : X.mg "tuple" = none) (hb : G.base = X.base) (hcv : G.cv = some X.env.code) (hc : X.calm = true) (hN : X.N.Nodup) (bm : ∃ P, X.base.BuiltinsAt X.mg P) (hi : DI X G tg iter ri) (ok : BlkOk X.N X.env.scope scope own) (hv : ∀ i ∈ vs1, i ∈ own.map (·.2))
    (hbd : GBody2 X G k scope (own.map (·.2)) vs1 tg ifs tg1 iter1 ifs1 elt g tt ri1 g1 tt1 te) (hg : Gl X "tuple" := by rfl) (hco : scope.isCoroutine = false := by rfl) (h0 : scope.names.lookup (".0" : Str) = some .local := by rfl) (hs : ∀ v, genFold iter X.env v = pure v := by intro _; rfl) (hs1 : ∀ env v, foldedSetIterable iter1 env v = pure v := by intro _ _; rfl)
    (he : starEach [gx2 elt tg iter ifs tg1 iter1 ifs1 scope gpos] X.env = (false, eval (gx2 elt tg iter ifs tg1 iter1 ifs1 scope gpos) X.env) :: starEach [] X.env := by rfl) :
    DE X G (.Call (.Name "tuple" p) [gx2 elt tg iter ifs tg1 iter1 ifs1 scope gpos] [] pos) (eLc2 fTup ri g tt ri1 g1 tt1 te (own.map (·.2)) vs1) := by
  refine ⟨teOf G _, ⟨fun pins s σ H Q I ⟨ρ, S, d, S', w, e, st, q⟩ => ?_⟩, ev_of⟩
  unfold eLc2 at e
  split at e
  · rename_i ds chk S1 h1
    split at e
    · rename_i yall S2 h2
      have hz : yall.length ≤ 1000000 := by
        unfold fTup at e
        split at e
        · assumption
        · cases e
      refine wpAny_Call_Name_kw (ld_blt I hg hm boot_tuple ?_)
      refine PyProof.Rows.callWith_type1 ?_ he (by rfl)
      rw [he]
      show wpAny _ _ (spliced ((false, eval (gx2 elt tg iter ifs tg1 iter1 ifs1 scope gpos) X.env) :: backTo pos (starEach [] X.env))) _ _ s
      refine Calls.spliced_cons (thn (gx_made2 (k := k) (vs2 := vs1) (N := yall.length) (Qy := fun _ _ _ => True) (Rs := fun _ _ => True) (Qe := fun ys H2 => ∃ w2, Core G w2 S2 H2 ∧ Ext w S H w2 S2 H2 ∧ DenL w2 S2.length ys yall) (hr.mono (by omega)) hc hN hi.pi ok hco h0 bm hs hs1 hv I ?_) fun u s1 hmd => ?_)
      · refine evi_of ρ S ds chk S1 h1 w σ H st _ fun J w1 H1 s1 x1 jd hk => ?_
        obtain ⟨c, P, hcc, hT⟩ := s1.code _ hcv
        refine ⟨w1.tb, c, P, hcc, hb ▸ s1.core.tab, hT, fun H' T' c' P' t' hTT hT' gr s' L cl qn fp pn A hrA => ?_⟩
        obtain ⟨b1, b2, b3, _, _, _⟩ := hbd s' H' L cl qn c' fp pn A hrA
        obtain ⟨c2, x2⟩ := s1.core.grown (hb ▸ t') hTT gr
        have s2 : Sat (G.at (.ref c')) { w1 with tb := T' } (wipeD ρ (own.map (·.2))) S1 (L2.wipe σ (own.map (·.2))) H' := by
          have z := (s1.ofCore c2 x2).wipe (own.map (·.2))
          exact ⟨z.core.at, z.env, z.len, fun v hv => by cases hv; exact ⟨c', P', rfl, hT'⟩⟩
        obtain ⟨W, hW, ht⟩ := gturn_tup2 (G := G) evg_of evt_of evi_of evg_of evt_of ev_of jd s2 x2 hk h2
        refine ⟨_, _, _, tgOf (G.at (.ref c')) vs1 g1, ttOf (G.at (.ref c')) tt1, teOf (G.at (.ref c')) te, W, b1.pg, b2.pts, b3.pi, fun pn' A' hrA' => ?_, hW, fun i m ys Hh hw => ?_⟩
        · obtain ⟨_, _, _, b4, b5, b6⟩ := hbd s' H' L cl qn c' fp pn' A' hrA'
          exact ⟨b4.pg, b5.pts, b6.pe⟩
        · rcases ht i m ys Hh hw with ⟨a1, w2, b1, b2, b3⟩ | z
          · exact .inl ⟨a1, w2, b1, (x1.trans x2).trans b2, b3⟩
          · exact .inr z
      · refine Calls.spliced_nil ?_
        refine call_tuple_md hr I.ok.frames (le_line hz) (fun _ _ => trivial) hmd fun s2 acc H2 ys hv hl I2 ⟨w2, c2, x2, l2⟩ => ?_
        have hf : H2 s2.heap.objs.size = none := I2.hok.fresh (Nat.le_refl _)
        refine ⟨.ref s2.heap.objs.size, upd H2 s2.heap.objs.size (.tup ys), I2.laid (t' := s2.toks) (fun b u e => Heap.get?_push_of_some _ e) (Nat.le_refl _) ?_, rfl, ?_⟩
        · exact ⟨Nat.le_trans hl (le_line hz), acc, hv, ⟨_, Heap.get?_push_size _ rfl, rfl, _, rfl⟩⟩
        · exact (new_tup (st.ofCore c2 x2) l2 e fun w3 v3 H3 s3 x3 d3 => q w3 v3 H3 s3 (x2.trans x3) d3).2 _ hf
    · cases e
  · cases e

/-! ### all, any -/
noncomputable def quantL2 (stop : Bool) (g : RG) (c : RT) (it1 : RI) (g1 : RG) (c1 : RT) (e : RE) (vs1 : List Nat) (chk : Sto → Prop) (ρ : En) : List D → Sto → Option (Bool × Sto)
  | [], S => some (!stop, S)
  | d :: ds, S => match g d ρ S with
    | some (ρ1, S1) => (match c ρ1 S1 with
      | some (true, S2) => (match it1 ρ1 S2 with
        | some (ds1, chk1, S3) => (match quantL stop g1 c1 e chk1 (wipeD ρ1 vs1) ds1 S3 with
          | some (b, S4) => if b = stop then some (stop, S4) else if chk S4 then quantL2 stop g c it1 g1 c1 e vs1 chk ρ ds S4 else none
          | none => none)
        | none => none)
      | some (false, S2) => if chk S2 then quantL2 stop g c it1 g1 c1 e vs1 chk ρ ds S2 else none
      | none => none)
    | none => none
/-- how many items at most -/
noncomputable def cntL2 (stop : Bool) (g : RG) (c : RT) (it1 : RI) (g1 : RG) (c1 : RT) (e : RE) (vs1 : List Nat) (ρ : En) : List D → Sto → Nat
  | [], S => 0
  | d :: ds, S => match g d ρ S with
    | some (ρ1, S1) => (match c ρ1 S1 with
      | some (true, S2) => (match it1 ρ1 S2 with
        | some (ds1, chk1, S3) => (match quantL stop g1 c1 e chk1 (wipeD ρ1 vs1) ds1 S3 with
          | some (b, S4) => ds1.length + cntL2 stop g c it1 g1 c1 e vs1 ρ ds S4
          | none => 0)
        | none => 0)
      | some (false, S2) => cntL2 stop g c it1 g1 c1 e vs1 ρ ds S2
      | none => 0)
    | none => 0
@[simp] noncomputable def tGenQ2 (stop : Bool) (it : RI) (g : RG) (c : RT) (it1 : RI) (g1 : RG) (c1 : RT) (e : RE) (vs vs1 : List Nat) : RT := fun ρ S => match it ρ S with
  | some (ds, chk, S1) => quantL2 stop g c it1 g1 c1 e vs1 chk (wipeD ρ vs) ds S1
  | none => none
theorem gturn_qA {J : It} {ds : List D} {chk : Sto → Prop} {gg : TG} {xt : TT} {xe : TE} {w1 : Wd} {S1 S2 : Sto} {H1 : Hp} {ρ : En} {σ : L2.St} {stop r : Bool} {cv : Value} {N a0 : Nat} {Qy : List V → V → Hp → Prop} {Qe : List V → Hp → Prop} {ys0 : List V}
    (eg : EvGw (G.at cv) vs gg g) (et : EvT (G.at cv) xt tt) (ee : Ev (G.at cv) xe te) (jd : JD (G.at cv) J ds w1 S1.length chk) (s1 : Sat (G.at cv) w1 (wipeD ρ vs) S1 (L2.wipe σ vs) H1) (hk : chk S1)
    (e : quantL stop g tt te chk (wipeD ρ vs) ds S1 = some (r, S2)) (h0 : ys0.length ≤ a0) (hN : a0 + ds.length ≤ N)
    (hy : ∀ ys b H, (b = stop → r = stop ∧ ∃ w, Core G w S2 H ∧ Ext w1 S1 H1 w S2 H) → Qy ys (.bl b) H) (hq : ∀ ys H, ys.length ≤ a0 + ds.length → r = !stop → (∃ w, Core G w S2 H ∧ Ext w1 S1 H1 w S2 H) → Qe ys H) :
    ∃ W, (∃ m, W 0 m ys0 H1) ∧ GTurn J gg xt xe vs (L2.wipe σ vs) N Qy (fun _ x => x = .bl (!stop)) Qe W := by
  refine ⟨fun i m acc H => ∃ w S, Core (G.at cv) w S H ∧ Ext w1 S1 H1 w S H ∧ chk S ∧ i + m = ds.length ∧ acc.length ≤ a0 + i ∧ quantL stop g tt te chk (wipeD ρ vs) (ds.drop i) S = some (r, S2),
    ⟨ds.length, w1, S1, s1.core, Ext.refl .., hk, Nat.zero_add _, h0, e⟩, fun i m acc H ⟨w, S, c, x, hc, hm, hl, e⟩ => ?_⟩
  obtain ⟨hstop, hgo⟩ := jd i w S H c x.fr x.al x.sz hc
  cases m with
  | zero =>
    have hi : i = ds.length := by omega
    rw [hi, List.drop_length] at e
    unfold quantL at e
    cases e
    exact .inl ⟨hstop hi, hq acc H (by omega) rfl ⟨w, c.off, x⟩⟩
  | succ m =>
    have hil : i < ds.length := by omega
    rw [List.drop_eq_getElem_cons hil] at e
    obtain ⟨go, hyl⟩ := hgo ds[i] (List.getElem?_eq_getElem hil)
    unfold quantL at e
    refine .inr ⟨go, fun v H2 hyld => ?_⟩
    obtain ⟨w4, c4, x4, d4⟩ := hyl v H2 hyld
    have s4 := s1.ofCore c4 (x.trans x4)
    split at e
    · rename_i ρ1 Sa h1
      refine eg ds[i] (wipeD ρ vs) S ρ1 Sa h1 w4 _ H2 v s4 d4 _ fun w5 σ5 H5 z5 s5 x5 => ⟨z5.trans wipe_wipe, ?_⟩
      split at e
      · rename_i Sb h2
        refine et ρ1 Sa true Sb h2 w5 σ5 H5 s5 _ fun w6 H6 s6 x6 => ?_
        rw [if_pos rfl]
        split at e
        · rename_i b Sc h3
          refine ee ρ1 Sb _ Sc h3 w6 σ5 H6 s6 _ fun w7 vy H7 s7 x7 d7 => ?_
          have xx := ((x4.trans x5).trans x6).trans x7
          cases den_bl d7
          refine ⟨by omega, hy _ _ _ fun hb => ?_, fun hb => ?_⟩
          · rw [if_pos hb] at e
            cases e
            exact ⟨rfl, w7, s7.core.off, x.trans xx⟩
          · have hb : b = !stop := by cases hb; rfl
            rw [if_neg (by rw [hb]; cases stop <;> decide)] at e
            split at e
            · rename_i hck
              exact ⟨m, Nat.lt_succ_self m, w7, Sc, s7.core, x.trans xx, hck, by omega, by rw [List.length_append]; show acc.length + 1 ≤ a0 + (i + 1); omega, e⟩
            · cases e
        · cases e
      · rename_i Sb h2
        refine et ρ1 Sa false Sb h2 w5 σ5 H5 s5 _ fun w6 H6 s6 x6 => ?_
        rw [if_neg (by decide)]
        split at e
        · rename_i hck
          have xx := (x4.trans x5).trans x6
          exact ⟨m, Nat.lt_succ_self m, w6, Sb, s6.core, x.trans xx, hck, by omega, by omega, e⟩
        · cases e
      · cases e
    · cases e
theorem gturn_q2 {J : It} {ds : List D} {chk : Sto → Prop} {gg gg1 : TG} {xt xt1 : TT} {wi1 : TI} {xe : TE} {w1 w1' : Wd} {S1 S2 : Sto} {H1 H1' : Hp} {ρ : En} {σ : L2.St} {stop r : Bool} {cv : Value} {Qy : List V → V → Hp → Prop} {Qe : List V → Hp → Prop}
    (eg : EvGw (G.at cv) vs gg g) (et : EvT (G.at cv) xt tt) (ei1 : EvI (G.at cv) wi1 ri1) (eg1 : EvGw (G.at cv) vs1 gg1 g1) (et1 : EvT (G.at cv) xt1 tt1) (ee : Ev (G.at cv) xe te) (jd : JD G J ds w1 S1.length chk) (s1 : Sat (G.at cv) w1' (wipeD ρ vs) S1 (L2.wipe σ vs) H1') (x1 : Ext w1 S1 H1 w1' S1 H1') (hk : chk S1)
    (e : quantL2 stop g tt ri1 g1 tt1 te vs1 chk (wipeD ρ vs) ds S1 = some (r, S2))
    (hy : ∀ ys b H, (b = stop → r = stop ∧ ∃ w, Core G w S2 H ∧ Ext w1' S1 H1' w S2 H) → Qy ys (.bl b) H) (hq : ∀ ys H, r = !stop → (∃ w, Core G w S2 H ∧ Ext w1' S1 H1' w S2 H) → Qe ys H) :
    ∃ W, (∃ m, W 0 m [] H1') ∧ GTurn2 J gg xt wi1 gg1 xt1 xe vs vs1 (L2.wipe σ vs) (cntL2 stop g tt ri1 g1 tt1 te vs1 (wipeD ρ vs) ds S1) Qy (fun _ x => x = .bl (!stop)) Qe W := by
  generalize hNN : cntL2 stop g tt ri1 g1 tt1 te vs1 (wipeD ρ vs) ds S1 = N
  refine ⟨fun i m acc H => ∃ w S, Core G w S H ∧ Ext w1' S1 H1' w S H ∧ chk S ∧ i + m = ds.length ∧ acc.length + cntL2 stop g tt ri1 g1 tt1 te vs1 (wipeD ρ vs) (ds.drop i) S ≤ N ∧ quantL2 stop g tt ri1 g1 tt1 te vs1 chk (wipeD ρ vs) (ds.drop i) S = some (r, S2),
    ⟨ds.length, w1', S1, s1.core.off, Ext.refl .., hk, Nat.zero_add _, by rw [List.drop_zero, hNN]; simp, e⟩, fun i m acc H ⟨w, S, c, x, hc, hm, hl, e⟩ => ?_⟩
  have rr := x1.trans x
  obtain ⟨hstop, hgo⟩ := jd i w S H c rr.fr rr.al rr.sz hc
  cases m with
  | zero =>
    have hi : i = ds.length := by omega
    rw [hi, List.drop_length] at e
    unfold quantL2 at e
    cases e
    exact .inl ⟨hstop hi, hq acc H rfl ⟨w, c, x⟩⟩
  | succ m =>
    have hil : i < ds.length := by omega
    rw [List.drop_eq_getElem_cons hil] at e hl
    obtain ⟨go, hyl⟩ := hgo ds[i] (List.getElem?_eq_getElem hil)
    unfold quantL2 at e
    unfold cntL2 at hl
    refine .inr ⟨go, fun v H2 hyld => ?_⟩
    obtain ⟨w4, c4, x4, d4⟩ := hyl v H2 hyld
    have s4 := s1.ofCore c4.at (x.trans x4)
    split at e
    · rename_i ρ1 Sa h1
      simp only [h1] at hl
      refine eg ds[i] (wipeD ρ vs) S ρ1 Sa h1 w4 _ H2 v s4 d4 _ fun w5 σ5 H5 z5 s5 x5 => ⟨z5.trans wipe_wipe, ?_⟩
      split at e
      · rename_i Sb h2
        simp only [h2] at hl
        refine et ρ1 Sa true Sb h2 w5 σ5 H5 s5 _ fun w6 H6 s6 x6 => ?_
        rw [if_pos rfl]
        split at e
        · rename_i ds1 chk1 Sc h3
          simp only [h3] at hl
          split at e
          · rename_i b Sd h4
            simp only [h4] at hl
            refine ei1 ρ1 Sb ds1 chk1 Sc h3 w6 σ5 H6 s6 _ fun J1 w7 H7 s7 x7 jd1 hk1 => ?_
            have xx := ((x4.trans x5).trans x6).trans x7
            refine gturn_qA (G := G) (a0 := acc.length) (N := N) eg1 et1 ee jd1 (s7.wipe vs1) hk1 h4 (Nat.le_refl _) (by omega) (fun ys b' H' hb' => hy ys b' H' fun hb => ?_) fun ys' H' hlen hr8 ⟨w8, c8, x8⟩ => ?_
            · obtain ⟨h6, w8, c8, x8⟩ := hb' hb
              rw [if_pos h6] at e
              cases e
              exact ⟨rfl, w8, c8, x.trans (xx.trans x8)⟩
            · rw [if_neg (by rw [hr8]; cases stop <;> decide)] at e
              split at e
              · rename_i hck
                exact ⟨m, Nat.lt_succ_self m, w8, Sd, c8, x.trans (xx.trans x8), hck, by omega, by omega, e⟩
              · cases e
          · cases e
        · cases e
      · rename_i Sb h2
        simp only [h2] at hl
        refine et ρ1 Sa false Sb h2 w5 σ5 H5 s5 _ fun w6 H6 s6 x6 => ?_
        rw [if_neg (by decide)]
        split at e
        · rename_i hck
          have xx := (x4.trans x5).trans x6
          exact ⟨m, Nat.lt_succ_self m, w6, Sb, s6.core.off, x.trans xx, hck, by omega, hl, e⟩
        · cases e
      · cases e
    · cases e
theorem gen_q2 {k : Nat} {stop : Bool} {pins : List (Addr × Obj)} {s : Shared} {σ : L2.St} {H : Hp} {ρ : En} {S S1 S2 : Sto} {w : Wd} {ds : List D} {chk : Sto → Prop} {r : Bool} (hr : Room 1 X.A) (hb : G.base = X.base) (hcv : G.cv = some X.env.code) (hc : X.calm = true) (hN : X.N.Nodup) (bm : ∃ P, X.base.BuiltinsAt X.mg P) (hi : DI X G tg iter ri) (ok : BlkOk X.N X.env.scope scope own) (hv : ∀ i ∈ vs1, i ∈ own.map (·.2))
    (hbd : GBody2 X G k scope (own.map (·.2)) vs1 tg ifs tg1 iter1 ifs1 elt g tt ri1 g1 tt1 te) (hco : scope.isCoroutine = false) (h0 : scope.names.lookup (".0" : Str) = some .local) (hs : ∀ v, genFold iter X.env v = pure v) (hs1 : ∀ env v, foldedSetIterable iter1 env v = pure v) (I : Inv X pins σ H s) (st : Sat G w ρ S σ H)
    (h1 : ri ρ S = some (ds, chk, S1)) (h2 : quantL2 stop g tt ri1 g1 tt1 te vs1 chk (wipeD ρ (own.map (·.2))) ds S1 = some (r, S2)) :
    wpAny (model X.prog X.w) X.A (eval (gx2 elt tg iter ifs tg1 iter1 ifs1 scope gpos) X.env) (GMd X k pins σ (cntL2 stop g tt ri1 g1 tt1 te vs1 (wipeD ρ (own.map (·.2))) ds S1) (fun _ x H' => ∃ b, x = .bl b ∧ (b = stop → r = stop ∧ ∃ w', Core G w' S2 H' ∧ Ext w S H w' S2 H')) (fun _ x => x = .bl (!stop)) (fun _ H' => r = !stop ∧ ∃ w', Core G w' S2 H' ∧ Ext w S H w' S2 H')) X.xe s := by
  refine gx_made2 (k := k) (vs2 := vs1) hr hc hN hi.pi ok hco h0 bm hs hs1 hv I ?_
  refine evi_of ρ S ds chk S1 h1 w σ H st _ fun J w1 H1 s1 x1 jd hk => ?_
  obtain ⟨c, P, hcc, hT⟩ := s1.code _ hcv
  refine ⟨w1.tb, c, P, hcc, hb ▸ s1.core.tab, hT, fun H' T' c' P' t' hTT hT' gr s' L cl qn fp pn A hrA => ?_⟩
  obtain ⟨b1, b2, b3, _, _, _⟩ := hbd s' H' L cl qn c' fp pn A hrA
  obtain ⟨c2, x2⟩ := s1.core.grown (hb ▸ t') hTT gr
  have s2 : Sat (G.at (.ref c')) { w1 with tb := T' } (wipeD ρ (own.map (·.2))) S1 (L2.wipe σ (own.map (·.2))) H' := by
    have z := (s1.ofCore c2 x2).wipe (own.map (·.2))
    exact ⟨z.core.at, z.env, z.len, fun v hv => by cases hv; exact ⟨c', P', rfl, hT'⟩⟩
  have xx := x1.trans x2
  obtain ⟨W, hW, ht⟩ := gturn_q2 (G := G) (Qy := fun _ x H' => ∃ b, x = .bl b ∧ (b = stop → r = stop ∧ ∃ w', Core G w' S2 H' ∧ Ext w S H w' S2 H')) (Qe := fun _ H' => r = !stop ∧ ∃ w', Core G w' S2 H' ∧ Ext w S H w' S2 H') evg_of evt_of evi_of evg_of evt_of ev_of jd s2 x2 hk h2
    (fun ys b H' h => ⟨b, rfl, fun hb => let ⟨q1, w9, q2, q3⟩ := h hb; ⟨q1, w9, q2, xx.trans q3⟩⟩) (fun ys H' h ⟨w9, q2, q3⟩ => ⟨h, w9, q2, xx.trans q3⟩)
  refine ⟨_, _, _, tgOf (G.at (.ref c')) vs1 g1, ttOf (G.at (.ref c')) tt1, teOf (G.at (.ref c')) te, W, b1.pg, b2.pts, b3.pi, fun pn' A' hrA' => ?_, hW, ht⟩
  obtain ⟨_, _, _, b4, b5, b6⟩ := hbd s' H' L cl qn c' fp pn' A' hrA'
  exact ⟨b4.pg, b5.pts, b6.pe⟩
theorem de_allGen2 {k : Nat} (hr : Room (k + 5) X.A) (hm : X.mg "all" = none) (hb : G.base = X.base) (hcv : G.cv = some X.env.code) (hc : X.calm = true) (hN : X.N.Nodup) (bm : ∃ P, X.base.BuiltinsAt X.mg P) (hi : DI X G tg iter ri) (ok : BlkOk X.N X.env.scope scope own) (hv : ∀ i ∈ vs1, i ∈ own.map (·.2))
    (hbd : GBody2 X G k scope (own.map (·.2)) vs1 tg ifs tg1 iter1 ifs1 elt g tt ri1 g1 tt1 te) (hg : Gl X "all" := by rfl) (hco : scope.isCoroutine = false := by rfl) (h0 : scope.names.lookup (".0" : Str) = some .local := by rfl) (hs : ∀ v, genFold iter X.env v = pure v := by intro _; rfl) (hs1 : ∀ env v, foldedSetIterable iter1 env v = pure v := by intro _ _; rfl)
    (he : starEach [gx2 elt tg iter ifs tg1 iter1 ifs1 scope gpos] X.env = (false, eval (gx2 elt tg iter ifs tg1 iter1 ifs1 scope gpos) X.env) :: starEach [] X.env := by rfl) :
    DE X G (.Call (.Name "all" p) [gx2 elt tg iter ifs tg1 iter1 ifs1 scope gpos] [] pos) (eBl (tGenQ2 false ri g tt ri1 g1 tt1 te (own.map (·.2)) vs1)) := by
  refine ⟨teOf G _, ⟨fun pins s σ H Q I ⟨ρ, S, d, S', w, e, st, q⟩ => ?_⟩, ev_of⟩
  unfold eBl tGenQ2 at e
  split at e
  · rename_i r S2 e0
    cases e
    split at e0
    · rename_i ds chk S1 h1
      refine wpAny_Call_Name_kw (ld_blt I hg hm boot_all ?_)
      refine PyProof.Rows.callWith_builtin1 ?_ he (by rfl)
      rw [he]
      show wpAny _ _ (spliced ((false, eval (gx2 elt tg iter ifs tg1 iter1 ifs1 scope gpos) X.env) :: backTo pos (starEach [] X.env))) _ _ s
      refine Calls.spliced_cons (thn (gen_q2 (stop := false) (hr.mono (by omega)) hb hcv hc hN bm hi ok hv hbd hco h0 hs hs1 I st h1 e0) fun u s1 hmd => ?_)
      refine Calls.spliced_nil ?_
      refine call_all_md (hr.mono (by omega)) I.ok.frames hmd (fun s2 H2 I2 ⟨hb2, w2, c2, x2⟩ => ?_) (fun s2 H2 I2 ⟨hb2, w2, c2, x2⟩ => ?_)
      · exact ⟨.bl true, H2, I2, rfl, q w2 _ H2 (st.ofCore c2 x2) x2 (by rw [hb2]; exact .bl true)⟩
      · exact ⟨.bl false, H2, I2, rfl, q w2 _ H2 (st.ofCore c2 x2) x2 (by rw [hb2]; exact .bl false)⟩
    · cases e0
  · cases e
theorem de_anyGen2 {k : Nat} (hr : Room (k + 5) X.A) (hm : X.mg "any" = none) (hb : G.base = X.base) (hcv : G.cv = some X.env.code) (hc : X.calm = true) (hN : X.N.Nodup) (bm : ∃ P, X.base.BuiltinsAt X.mg P) (hi : DI X G tg iter ri) (ok : BlkOk X.N X.env.scope scope own) (hv : ∀ i ∈ vs1, i ∈ own.map (·.2))
    (hbd : GBody2 X G k scope (own.map (·.2)) vs1 tg ifs tg1 iter1 ifs1 elt g tt ri1 g1 tt1 te) (hg : Gl X "any" := by rfl) (hco : scope.isCoroutine = false := by rfl) (h0 : scope.names.lookup (".0" : Str) = some .local := by rfl) (hs : ∀ v, genFold iter X.env v = pure v := by intro _; rfl) (hs1 : ∀ env v, foldedSetIterable iter1 env v = pure v := by intro _ _; rfl)
    (he : starEach [gx2 elt tg iter ifs tg1 iter1 ifs1 scope gpos] X.env = (false, eval (gx2 elt tg iter ifs tg1 iter1 ifs1 scope gpos) X.env) :: starEach [] X.env := by rfl) :
    DE X G (.Call (.Name "any" p) [gx2 elt tg iter ifs tg1 iter1 ifs1 scope gpos] [] pos) (eBl (tGenQ2 true ri g tt ri1 g1 tt1 te (own.map (·.2)) vs1)) := by
  refine ⟨teOf G _, ⟨fun pins s σ H Q I ⟨ρ, S, d, S', w, e, st, q⟩ => ?_⟩, ev_of⟩
  unfold eBl tGenQ2 at e
  split at e
  · rename_i r S2 e0
    cases e
    split at e0
    · rename_i ds chk S1 h1
      refine wpAny_Call_Name_kw (ld_blt I hg hm boot_any ?_)
      refine PyProof.Rows.callWith_builtin1 ?_ he (by rfl)
      rw [he]
      show wpAny _ _ (spliced ((false, eval (gx2 elt tg iter ifs tg1 iter1 ifs1 scope gpos) X.env) :: backTo pos (starEach [] X.env))) _ _ s
      refine Calls.spliced_cons (thn (gen_q2 (stop := true) (hr.mono (by omega)) hb hcv hc hN bm hi ok hv hbd hco h0 hs hs1 I st h1 e0) fun u s1 hmd => ?_)
      refine Calls.spliced_nil ?_
      refine call_any_md (hr.mono (by omega)) I.ok.frames hmd (fun s2 H2 I2 ⟨hb2, w2, c2, x2⟩ => ?_) (fun s2 H2 I2 ⟨hb2, w2, c2, x2⟩ => ?_)
      · exact ⟨.bl true, H2, I2, rfl, q w2 _ H2 (st.ofCore c2 x2) x2 (by rw [hb2]; exact .bl true)⟩
      · exact ⟨.bl false, H2, I2, rfl, q w2 _ H2 (st.ofCore c2 x2) x2 (by rw [hb2]; exact .bl false)⟩
    · cases e0
  · cases e
end
end DL

set_option maxRecDepth 100000
set_option maxHeartbeats 4000000
set_option pp.maxSteps 900
/-! slices of a tuple with a step; all, any of a list -/
namespace DL
open PySem PySem.Spec PyProof.Rows L2 GX HT
open Classical
/-- the places of a slice with a step -/
def stepIx (n : Nat) (lo hi st : Option Int) : List Nat :=
  (List.range (Builtin.Slice.slicePlaces (Builtin.Slice.sliceAdjust lo hi (st.getD 1) (n : Int)).1 (Builtin.Slice.sliceAdjust lo hi (st.getD 1) (n : Int)).2 (st.getD 1))).map fun (m : Nat) => ((Builtin.Slice.sliceAdjust lo hi (st.getD 1) (n : Int)).1 + (m : Int) * st.getD 1).toNat
def pickL {α : Type} (xs : List α) (is : List Nat) : List α := is.filterMap fun i => xs[i]?
theorem stp_den {w : Wd} {n : Nat} {vs : List V} {ds : List D} (h : DenL w n vs ds) : ∀ is : List Nat, DenL w n (pickL vs is) (pickL ds is)
  | [] => .nil
  | i :: is => by
    unfold pickL
    rw [List.filterMap_cons, List.filterMap_cons]
    have hl := h.len
    rcases Nat.lt_or_ge i ds.length with c | c
    · obtain ⟨v, e1, e2⟩ := h.get (List.getElem?_eq_getElem c)
      rw [List.getElem?_eq_getElem c, e1]
      exact .cons e2 (stp_den h is)
    · rw [List.getElem?_eq_none c, List.getElem?_eq_none (by omega)]
      exact stp_den h is
theorem stp_vals {vs : List V} {us : List Value} (h : Vals vs us) : ∀ is : List Nat, Vals (pickL vs is) (pickL us is)
  | [] => .nil
  | i :: is => by
    unfold pickL
    rw [List.filterMap_cons, List.filterMap_cons]
    have hl := h.length
    rcases Nat.lt_or_ge i vs.length with c | c
    · obtain ⟨v, e1, e2⟩ := h.get (List.getElem?_eq_getElem c)
      rw [List.getElem?_eq_getElem c, e1]
      exact .cons e2 (stp_vals h is)
    · rw [List.getElem?_eq_none c, List.getElem?_eq_none (by omega)]
      exact stp_vals h is
theorem pick_all {α : Type} : ∀ xs : List α, pickL xs (List.range xs.length) = xs := fun xs => by
  unfold pickL
  apply List.ext_getElem?
  intro i
  have : ∀ (k : Nat), k ≤ xs.length → (List.range k).filterMap (fun i => xs[i]?) = xs.take k := by
    intro k hk
    induction k with
    | zero => simp
    | succ k ih =>
      rw [List.range_succ, List.filterMap_append, ih (by omega)]
      have hk' : k < xs.length := by omega
      rw [List.filterMap_cons, List.getElem?_eq_getElem hk', List.take_succ, List.getElem?_eq_getElem hk']
      rfl
  rw [this _ (Nat.le_refl _), List.take_length]
/-- the slice is the whole tuple (and so the tuple itself) -/
def stepAll (n : Nat) (lo hi st : Option Int) : Prop := ((Builtin.Slice.sliceAdjust lo hi (st.getD 1) (n : Int)).1 == 0 && st.getD 1 == 1 && Builtin.Slice.slicePlaces (Builtin.Slice.sliceAdjust lo hi (st.getD 1) (n : Int)).1 (Builtin.Slice.sliceAdjust lo hi (st.getD 1) (n : Int)).2 (st.getD 1) == n) = true
theorem stepAll_ix {n : Nat} {lo hi st : Option Int} (h : stepAll n lo hi st) : stepIx n lo hi st = List.range n := by
  unfold stepAll at h
  rw [Bool.and_eq_true, Bool.and_eq_true] at h
  have h1 := eq_of_beq h.1.1
  have h2 := eq_of_beq h.1.2
  have h3 := eq_of_beq h.2
  unfold stepIx
  rw [h3]
  refine List.ext_getElem (by rw [List.length_map]) fun i a b => ?_
  rw [List.getElem_map, List.getElem_range, h1, h2]
  omega
section
variable {prog : Program} {w : World} {A : Around} {E : Value → Shared → Prop} {s : Shared}
theorem sliceApplied_st {sl : Addr} {vl vu vs : Value} {lo hi st : Option Int} {n : Nat} {Q : Int × Int × Nat → Shared → Prop} (hs : s.heap.IsSliceOf sl vl vu vs) (pl : IsPart vl lo) (pu : IsPart vu hi) (ps : IsPart vs st) (h0 : st ≠ some 0)
    (h : Q ((Builtin.Slice.sliceAdjust lo hi (st.getD 1) (n : Int)).1, st.getD 1, Builtin.Slice.slicePlaces (Builtin.Slice.sliceAdjust lo hi (st.getD 1) (n : Int)).1 (Builtin.Slice.sliceAdjust lo hi (st.getD 1) (n : Int)).2 (st.getD 1)) s) : wpAny (model prog w) A (Builtin.Slice.sliceApplied (.ref sl) (pure (n : Int))) Q E s := by
  obtain ⟨os, hos, hcs, hds⟩ := id hs
  unfold Builtin.Slice.sliceApplied Builtin.Slice.sliceFields
  refine wpAny_bind (wpAny_bind (wpAny_field hos hds (x := vl) rfl (wpAny_bind (wpAny_field hos hds (x := vu) rfl (wpAny_bind (wpAny_field hos hds (x := vs) rfl (wpAny_pure ?_)))))))
  refine wpAny_bind (slicePart_ ps ?_)
  have hst : ¬ ((st.getD 1 == 0) = true) := by
    cases st with
    | none => decide
    | some c =>
      intro hh
      have : c = 0 := by simpa using hh
      exact h0 (by rw [this])
  show wpAny _ _ (if (st.getD 1 == 0) = true then _ else _) _ _ s
  rw [if_neg hst]
  refine wpAny_bind (slicePart_ pl (wpAny_bind (slicePart_ pu (wpAny_bind (wpAny_pure ?_)))))
  exact wpAny_pure h
theorem getItem_tuple_st {t sl : Addr} {items : Array Value} {vl vu vs : Value} {lo hi st : Option Int} {Q : Value → Shared → Prop} (ht : IsTup s.heap t items) (hs : s.heap.IsSliceOf sl vl vu vs) (pl : IsPart vl lo) (pu : IsPart vu hi) (ps : IsPart vs st) (h0 : st ≠ some 0)
    (hz : (pickL items.toList (stepIx items.size lo hi st)).length ≤ sizeLine) (hw : stepAll items.size lo hi st → Q (.ref t) s)
    (h : ¬ stepAll items.size lo hi st → Q (.ref s.heap.objs.size) { s with heap := s.heap.push { cls := .type "tuple", data := .seq (pickL items.toList (stepIx items.size lo hi st)).toArray } }) : wpAny (model prog w) A (getItem (.ref t) (.ref sl)) Q E s := by
  obtain ⟨os, hos, hcs, hds⟩ := id hs
  have hTs : s.TypeIs (.ref sl) "slice" := ⟨os, hos, hcs⟩
  have hok : sizeOk (.seq (pickL items.toList (stepIx items.size lo hi st)).toArray) := by
    show (pickL items.toList (stepIx items.size lo hi st)).toArray.size ≤ sizeLine
    rw [List.size_toArray]
    exact hz
  unfold getItem
  try with_reducible refine wpAny_holding ?_
  first | refine wpAny_bind (wpAny_pure ?_) | skip
  refine wpAny_bind (wpAny_sequenceKey ht.typeIs (by decide) ?_)
  refine wpAny_bind (wpAny_callSpecial?_slot (name := Str.ofString "__getitem__") ht.typeIs PyProof.Rows.slot_tuple_getitem
    (wpAny_call_entry PyProof.Rows.slot_tuple_getitem ht.typeIs entry_tuple_getitem ?_ (args_tuple_getitem _ _)))
  show wpAny _ _ (Builtin.Tuple.tupleItemsOf (.ref t) >>= _) _ _ s
  refine wpAny_bind (tupleItemsOf_ ht ?_)
  refine wpAny_bind (wpAny_typeOf hTs ?_)
  rw [if_pos (by decide)]
  refine wpAny_bind (sliceApplied_st hs pl pu ps h0 ?_)
  show wpAny _ _ (if ((Builtin.Slice.sliceAdjust lo hi (st.getD 1) (items.size : Int)).1 == 0 && st.getD 1 == 1 && Builtin.Slice.slicePlaces (Builtin.Slice.sliceAdjust lo hi (st.getD 1) (items.size : Int)).1 (Builtin.Slice.sliceAdjust lo hi (st.getD 1) (items.size : Int)).2 (st.getD 1) == items.size) = true then _ else _) _ _ s
  by_cases hall : stepAll items.size lo hi st
  · have h := hw hall
    have hall' := hall
    unfold stepAll at hall'
    rw [if_pos hall']
    refine wpAny_bind ?_
    show wpAny _ _ (typeOf (.ref t) >>= fun T => pure (T == .type "tuple")) _ _ s
    refine wpAny_bind (wpAny_typeOf ht.typeIs (wpAny_pure ?_))
    first
      | rw [if_pos (by decide)]
      | simp only [beq_self_eq_true, if_true]
    first
      | exact wpAny_bind (wpAny_rule (wpAny_pure ⟨_, rfl, wpAny_pure h⟩))
      | exact wpAny_bind (wpAny_rule (wpAny_bind (wpAny_pure (wpAny_pure ⟨_, rfl, wpAny_pure h⟩))))
  · have h := h hall
    have hall' := hall
    unfold stepAll at hall'
    rw [if_neg hall']
    have e : ((List.range (Builtin.Slice.slicePlaces (Builtin.Slice.sliceAdjust lo hi (st.getD 1) (items.size : Int)).1 (Builtin.Slice.sliceAdjust lo hi (st.getD 1) (items.size : Int)).2 (st.getD 1))).filterMap fun (m : Nat) => items[((Builtin.Slice.sliceAdjust lo hi (st.getD 1) (items.size : Int)).1 + (m : Int) * st.getD 1).toNat]?).toArray = (pickL items.toList (stepIx items.size lo hi st)).toArray := by
      unfold pickL stepIx
      rw [List.filterMap_map, show (fun i => items.toList[i]?) = fun i => items[i]? from funext fun i => Array.getElem?_toList]
      rfl
    rw [e]
    first
      | exact wpAny_bind (m := Builtin.Tuple.tupleExact _) (wpAny_newObj_type (wpAny_pure ⟨_, rfl, wpAny_pure h⟩) hok)
      | exact wpAny_bind (m := Builtin.Tuple.tupleExact _) (wpAny_newObj_type (wpAny_bind (wpAny_pure (wpAny_pure ⟨_, rfl, wpAny_pure h⟩))) hok)
      | exact wpAny_bind (wpAny_bind (m := Builtin.Tuple.tupleExact _) (wpAny_newObj_type (wpAny_pure (wpAny_pure ⟨_, rfl, wpAny_pure h⟩)) hok))
      | exact wpAny_bind (wpAny_bind (m := Builtin.Tuple.tupleExact _) (wpAny_newObj_type (wpAny_pure ⟨_, rfl, wpAny_pure h⟩) hok))
end
def tSlS (K : PySem.W.Frag) (te : TE) (tl th ts : TO) : TE := fun σ H Q => te σ H fun x H1 => tl σ H1 fun l H2 => th σ H2 fun u H3 => ts σ H3 fun st H4 => ∃ a xs, x = .ref a ∧ SqT K H4 a xs ∧ st ≠ some 0 ∧ (pickL xs (stepIx xs.length l u st)).length ≤ sizeLine ∧
  (stepAll xs.length l u st → Q (.ref a) H4) ∧ (¬ stepAll xs.length l u st → ∀ p, H4 p = none → Q (.ref p) (upd H4 p (.tup (pickL xs (stepIx xs.length l u st)))))
section
variable {X : Cx} {G : Gc} {e st : Expr} {te ta tb : TE} {lo hi : Option Expr} {tl th ts : TO} {pos p2 p : Pos}
theorem pe_sliceS (he : PE X e te) (hl : PO X lo tl) (hu : PO X hi th) (hst : PO X (some st) ts) : PE X (.Subscript e (.Slice lo hi (some st) p2) pos) (tSlS X.K te tl th ts) := by
  refine ⟨fun pins s σ H Q I h => ?_⟩
  refine Subscript_ (thn (he.run pins s σ H _ I h) fun v s1 ⟨x, H1, I1, r1, q1⟩ => ?_)
  refine wpAny_Slice (thn (hl.run pins s1 σ H1 _ I1 q1) fun vl s2 ⟨l, H2, I2, pl, q2⟩ => thn (hu.run pins s2 σ H2 _ I2 q2) fun vu s3 ⟨u, H3, I3, pu, q3⟩ => thn (hst.run pins s3 σ H3 _ I3 q3) fun vs s4 ⟨o, H4, I4, ps, q4⟩ => ?_)
  obtain ⟨a, xs, rfl, hx, h0, hz, hw, hn⟩ := q4
  cases r1
  have I5 : Inv X pins σ H4 { s4 with heap := s4.heap.push { cls := .type "slice", data := .fields #[vl, vu, vs] } } := I4.kept (t' := s4.toks) fun b ob q => Heap.get?_push_of_some _ q
  obtain ⟨its, r, ht, hsz⟩ := I5.tuple hx
  have hlen : its.toArray.size = xs.length := by rw [List.size_toArray]; exact r.length.symm
  have hpl : (pickL its (stepIx xs.length l u o)).length = (pickL xs (stepIx xs.length l u o)).length := (stp_vals r _).length.symm
  show wpAny (model X.prog X.w) X.A (subscriptTail e (.Slice lo hi (some st) p2) (.ref a) (.ref s4.heap.objs.size)) (EP X pins σ Q) X.xe { s4 with heap := s4.heap.push { cls := .type "slice", data := .fields #[vl, vu, vs] } }
  refine tail_any (ops := [.ref a, .ref s4.heap.objs.size]) ht.typeIs (PyProof.Rows.slot_tuple_getitem.lookup) ?_ (by with_unfolding_all rfl)
  refine getItem_tuple_st ht (Heap.IsSliceOf.new _ vl vu vs) pl pu ps h0 ?_ (fun hall => ?_) fun hall => ?_
  · rw [hlen]
    show (pickL its (stepIx xs.length l u o)).length ≤ sizeLine
    rw [hpl]
    exact hz
  · rw [hlen] at hall
    exact ⟨.ref a, H4, I5, rfl, hw hall⟩
  · rw [hlen] at hall ⊢
    refine ⟨.ref _, _, I5.laid (t' := s4.toks) (o := .tup (pickL xs (stepIx xs.length l u o))) (fun b ob q => Heap.get?_push_of_some _ q) (Nat.le_refl _) ?_, rfl, hn hall _ (I5.hok.fresh (Nat.le_refl _))⟩
    exact ⟨hz, _, stp_vals r _, ⟨_, Heap.get?_push_size _ rfl, rfl, _, rfl⟩⟩
@[simp] def fSlS : D → Option Int → Option Int → Option Int → Sto → Option (D × Sto) := fun d l h st S => match d with
  | .tup xs => if st ≠ some 0 ∧ (pickL xs (stepIx xs.length l h st)).length ≤ 1000000 then some (.tup (pickL xs (stepIx xs.length l h st)), S) else none
  | _ => none
@[simp] def eSlS (a : RE) (lo hi st : RO) : RE := fun ρ S => match a ρ S with
  | some (d, S1) => (match lo ρ S1 with
    | some (l, S2) => (match hi ρ S2 with
      | some (h, S3) => (match st ρ S3 with
        | some (k, S4) => fSlS d l h k S4
        | none => none)
      | none => none)
    | none => none)
  | none => none
theorem de_slS {ea : Expr} {ra : RE} {rl rh rk : RO} (ha : DE X G ea ra) (hl : DO X G lo rl) (hu : DO X G hi rh) (hk : DO X G (some st) rk) : DE X G (.Subscript ea (.Slice lo hi (some st) p2) pos) (eSlS ra rl rh rk) :=
  let ⟨_, pa, ea⟩ := ha; let ⟨_, pl, el⟩ := hl; let ⟨_, pu, eu⟩ := hu; let ⟨_, pk, ek⟩ := hk
  ⟨_, pe_sliceS pa pl pu pk, fun ρ S d S' e w σ H s Q q => by
    unfold eSlS at e
    split at e
    · rename_i d0 S1 h1
      split at e
      · rename_i l S2 h2
        split at e
        · rename_i u S3 h3
          split at e
          · rename_i o S4 h4
            refine ea ρ S d0 S1 h1 w σ H s _ fun w1 v H1 s1 x1 d1 => el ρ S1 l S2 h2 w1 σ H1 s1 _ fun w2 H2 s2 x2 => eu ρ S2 u S3 h3 w2 σ H2 s2 _ fun w3 H3 s3 x3 => ek ρ S3 o S4 h4 w3 σ H3 s3 _ fun w4 H4 s4 x4 => ?_
            have d4 := ((d1.ext x2).ext x3).ext x4
            have xx := ((x1.trans x2).trans x3).trans x4
            unfold fSlS at e
            split at e
            · rename_i xs
              split at e
              · rename_i hc
                cases e
                obtain ⟨pp, vs, rfl, hp, l0⟩ := den_tup d4
                have hpl := (stp_den l0 (stepIx xs.length l u o)).len
                refine ⟨pp, vs, rfl, .inl (.inl (s4.core.sub _ _ hp)), hc.1, ?_, fun hw => ?_, fun _ r hr => ?_⟩
                · rw [l0.len, hpl]
                  exact le_line hc.2
                · rw [l0.len] at hw
                  refine q w4 _ H4 s4 xx ?_
                  rw [stepAll_ix hw, pick_all]
                  exact d4
                · obtain ⟨s5, x5⟩ := s4.newF (o := .tup (pickL vs (stepIx vs.length l u o))) hr (.inl ⟨_, rfl⟩)
                  refine q _ _ _ s5 (xx.trans x5) (den_newT ?_ (s4.core.fresh hr))
                  rw [l0.len]
                  exact stp_den l0 _
              · cases e
            · cases e
          · cases e
        · cases e
      · cases e
    · cases e⟩
/-! ### all, any of a list of truth values -/
def blsD : List D → Option (List Bool)
  | [] => some []
  | .bl b :: r => match blsD r with | some bs => some (b :: bs) | none => none
  | _ :: _ => none
theorem bls_of {w : Wd} {n : Nat} : ∀ {vs : List V} {ds : List D} {bs : List Bool}, DenL w n vs ds → blsD ds = some bs → vs = bs.map V.bl
  | _, _, _, .nil, e => by cases e; rfl
  | _, _, bs, .cons (d := d) h t, e => by
    cases d <;> simp only [blsD] at e <;> try cases e
    split at e
    · rename_i bs' h2
      cases e
      cases h
      rw [List.map_cons, bls_of t h2]
    · cases e
@[simp] def fAllL : List D → Sto → Option (D × Sto) := fun ds S => match ds with
  | [.tup _] => none
  | [d] => (match seqD d S with | some xs => (match blsD xs with | some bs => some (.bl (bs.all id), S) | none => none) | none => none)
  | _ => none
@[simp] def fAnyL : List D → Sto → Option (D × Sto) := fun ds S => match ds with
  | [.tup _] => none
  | [d] => (match seqD d S with | some xs => (match blsD xs with | some bs => some (.bl (bs.any id), S) | none => none) | none => none)
  | _ => none
theorem de_allL {a : Expr} (hc : X.calm = true) (hm : X.mg "all" = none) {ta : RE} (ha : DE X G a ta) (hg : Gl X "all" := by rfl) (hs : starEach [a] X.env = (false, eval a X.env) :: starEach [] X.env := by rfl) (hpl : (backTo pos (starEach [] X.env)).any (·.1) = false := by rfl) :
    DE X G (.Call (.Name "all" p) [a] [] pos) (eA fAllL (aCons ta aNil)) :=
  let ⟨_, pa, ea⟩ := da_cons ha da_nil hs
  ⟨_, pe_callB (cr_all hc) hg hm boot_all pa (by decide) (by decide) hs hpl, ev_cb (fun w ρ S σ H xs ds d S' Q s hd e q => by
    unfold fAllL at e
    split at e
    · cases e
    · rename_i dd hnt
      obtain ⟨v, rfl, hv⟩ := denL1 hd
      split at e
      · rename_i ys h1
        split at e
        · rename_i bs h2
          cases e
          obtain ⟨a, vs, rfl, hq, l⟩ := seq_L (K := X.K) s.core hv h1 (fun ys z => hnt ys (by rw [z]))
          rw [bls_of l h2] at hq
          exact ⟨a, bs, rfl, hq, q w _ H s (Ext.refl ..) (.bl _)⟩
        · cases e
      · cases e
    · cases e) ea⟩
theorem de_anyL {a : Expr} (hc : X.calm = true) (hm : X.mg "any" = none) {ta : RE} (ha : DE X G a ta) (hg : Gl X "any" := by rfl) (hs : starEach [a] X.env = (false, eval a X.env) :: starEach [] X.env := by rfl) (hpl : (backTo pos (starEach [] X.env)).any (·.1) = false := by rfl) :
    DE X G (.Call (.Name "any" p) [a] [] pos) (eA fAnyL (aCons ta aNil)) :=
  let ⟨_, pa, ea⟩ := da_cons ha da_nil hs
  ⟨_, pe_callB (cr_any hc) hg hm boot_any pa (by decide) (by decide) hs hpl, ev_cb (fun w ρ S σ H xs ds d S' Q s hd e q => by
    unfold fAnyL at e
    split at e
    · cases e
    · rename_i dd hnt
      obtain ⟨v, rfl, hv⟩ := denL1 hd
      split at e
      · rename_i ys h1
        split at e
        · rename_i bs h2
          cases e
          obtain ⟨a, vs, rfl, hq, l⟩ := seq_L (K := X.K) s.core hv h1 (fun ys z => hnt ys (by rw [z]))
          rw [bls_of l h2] at hq
          exact ⟨a, bs, rfl, hq, q w _ H s (Ext.refl ..) (.bl _)⟩
        · cases e
      · cases e
    · cases e) ea⟩
end
end DL

set_option maxRecDepth 100000
set_option maxHeartbeats 4000000
set_option pp.maxSteps 900
/-! sorted of a list of trees, max and min of a tuple of ints -/
namespace DL
open PySem PySem.Spec PyProof.Rows L2 GX
open PySem.W (AllAlike Sortable dataLe EachIs sorted_data)
open Classical
/-- the trees in order, by what they read as -/
noncomputable def sortBy {α : Type} (xs : List α) (ps : List PyData) : List α := ((xs.zip ps).mergeSort (dataLe false Prod.snd)).map Prod.fst
theorem sortBy_length {α : Type} {xs : List α} {ps : List PyData} (h : xs.length = ps.length) : (sortBy xs ps).length = xs.length := by
  unfold sortBy
  rw [List.length_map, List.length_mergeSort, List.length_zip, h, Nat.min_self]
theorem zip_snd {α : Type} : ∀ {xs : List α} {ps : List PyData}, xs.length = ps.length → (xs.zip ps).map Prod.snd = ps
  | [], [], _ => rfl
  | [], _ :: _, h => by simp at h
  | _ :: _, [], h => by simp at h
  | x :: xs, p :: ps, h => by
    rw [List.zip_cons_cons, List.map_cons, zip_snd (by simpa using h)]
theorem dp_len {K : PySem.W.Frag} {H : Hp} : ∀ {vs : List V} {ps : List PyData}, DpAll K H vs ps → vs.length = ps.length
  | _, _, .nil => rfl
  | _, _, .cons _ t => by rw [List.length_cons, List.length_cons, dp_len t]
/-- trees and values in the same order -/
theorem sort_den {w : Wd} {n : Nat} {vs : List V} {ds : List D} {ps : List PyData} (h : DenL w n vs ds) (hp : ds.length = ps.length) : DenL w n (sortBy vs ps) (sortBy ds ps) := by
  have hl := h.len
  have key : ∀ l : List ((V × D) × PyData), (∀ t ∈ l, Den w n t.1.1 t.1.2) → DenL w n (l.map fun t => t.1.1) (l.map fun t => t.1.2) := fun l => by
    induction l with
    | nil => intro _; exact .nil
    | cons t l ih => intro hm; exact .cons (hm t List.mem_cons_self) (ih fun x hx => hm x (List.mem_cons_of_mem _ hx))
  have hz : ∀ (vs : List V) (ds : List D), DenL w n vs ds → ∀ ps : List PyData, ∀ t ∈ (vs.zip ds).zip ps, Den w n t.1.1 t.1.2 := fun vs ds h => by
    induction vs generalizing ds with
    | nil => intro ps t ht; simp at ht
    | cons v vs ih =>
      intro ps t ht
      cases h with
      | cons h1 h2 =>
        cases ps with
        | nil => simp at ht
        | cons p ps =>
          rw [List.zip_cons_cons, List.zip_cons_cons] at ht
          rcases List.mem_cons.mp ht with e | e
          · subst e; exact h1
          · exact ih _ h2 ps t e
  have e1 : vs.zip ps = ((vs.zip ds).zip ps).map fun t => (t.1.1, t.2) := by
    clear hz key h
    induction vs generalizing ds ps with
    | nil => simp
    | cons v vs ih =>
      cases ds with
      | nil => simp at hl
      | cons d ds =>
        cases ps with
        | nil => simp
        | cons p ps =>
          simp only [List.zip_cons_cons, List.map_cons]
          rw [ih (by simpa using hp) (by simpa using hl)]
  have e2 : ds.zip ps = ((vs.zip ds).zip ps).map fun t => (t.1.2, t.2) := by
    clear hz key h e1
    induction vs generalizing ds ps with
    | nil =>
      cases ds with
      | nil => simp
      | cons d ds => simp at hl
    | cons v vs ih =>
      cases ds with
      | nil => simp at hl
      | cons d ds =>
        cases ps with
        | nil => simp
        | cons p ps =>
          simp only [List.zip_cons_cons, List.map_cons]
          rw [ih (by simpa using hp) (by simpa using hl)]
  unfold sortBy
  rw [e1, e2]
  have m1 := List.map_mergeSort (r := dataLe false fun t : (V × D) × PyData => t.2) (s := dataLe false (Prod.snd : V × PyData → PyData)) (f := fun t : (V × D) × PyData => (t.1.1, t.2)) (l := (vs.zip ds).zip ps) fun a _ b _ => rfl
  have m2 := List.map_mergeSort (r := dataLe false fun t : (V × D) × PyData => t.2) (s := dataLe false (Prod.snd : D × PyData → PyData)) (f := fun t : (V × D) × PyData => (t.1.2, t.2)) (l := (vs.zip ds).zip ps) fun a _ b _ => rfl
  rw [← m1, ← m2, List.map_map, List.map_map]
  exact key _ fun t ht => hz vs ds h ps t ((List.mergeSort_perm _ _).mem_iff.mp ht)
section
variable {X : Cx} {G : Gc} {a : Expr} {ta : RE} {pos p : Pos}
def rSortD (K : PySem.W.Frag) : List V → Hp → VK → Prop := fun vs H Q => ∃ (a : Addr) (xs : List V) (ps : List PyData), vs = [V.ref a] ∧ SqL K H a xs ∧ DpAll K H xs ps ∧ AllAlike ps ∧ Sortable ps ∧ (∀ q, q ∈ ps → q.depth ≤ 60) ∧ ps.length ≤ sizeLine ∧
  ∀ p : Addr, H p = none → Q (.ref p) (upd H p (.lst (sortBy xs ps)))
theorem each_zip {h : Heap} : ∀ {xs : List V} {us : List Value} {ps : List PyData} {as : List Addr}, Vals xs us → ReadsAll h us ps as → EachIs (fun v (b : V × PyData) => RelV b.1 v) us (xs.zip ps) ∧ EachIs (fun v (b : V × PyData) => ∃ as, Reads h v b.2 as) us (xs.zip ps)
  | _, _, _, _, .nil, r => by cases r; exact ⟨.nil, .nil⟩
  | _, _, _, _, .cons r1 r2, r => by
    cases r with
    | cons h1 h2 =>
      obtain ⟨a1, a2⟩ := each_zip r2 h2
      rw [List.zip_cons_cons]
      exact ⟨.cons r1 a1, .cons ⟨_, h1⟩ a2⟩
theorem vals_each : ∀ {us : List Value} {bs : List (V × PyData)}, EachIs (fun v (b : V × PyData) => RelV b.1 v) us bs → Vals (bs.map Prod.fst) us
  | _, _, .nil => .nil
  | _, _, .cons h t => .cons h (vals_each t)
theorem cr_sortedD (hu : X.A.units + 64 < cLine) : CallR X (.builtin "sorted") (rSortD X.K) := by
  intro pins s σ H vs us Q I r h
  obtain ⟨a, xs, ps, rfl, hs, hd, hal, hso, hdep, hlen, q⟩ := h
  obtain ⟨its, rv, hl, hz⟩ := I.list hs
  rw [Vals.ref1 r]
  obtain ⟨as, hr⟩ := Dp.readsAll I ps _ its hd rv
  obtain ⟨e1, e2⟩ := each_zip rv hr
  have hxl : xs.length = ps.length := dp_len hd
  have hsnd : (xs.zip ps).map Prod.snd = ps := zip_snd hxl
  have hzl : (xs.zip ps).length = ps.length := by rw [List.length_zip, hxl, Nat.min_self]
  refine sorted_data (enc := Prod.snd) hl.isList e1 e2 (by rw [hsnd]; exact hal) (by rw [hsnd]; exact hso) (by rw [hzl]; exact hlen) (fun b hb => ?_) fun out ho eo => ?_
  · have : b.2 ∈ ps := by rw [← hsnd]; exact List.mem_map.mpr ⟨b, hb, rfl⟩
    have := hdep _ this
    omega
  · obtain ⟨ep, he'⟩ := PyProof.Rows.sortedAll_at s.heap its out.toArray
    have hv := vals_each eo
    have hlen2 : (sortBy xs ps).length ≤ sizeLine := by rw [sortBy_length hxl, hxl]; exact hlen
    exact ⟨.ref _, upd H (s.heap.objs.size + 1) (.lst (sortBy xs ps)), I.laid (t' := s.toks) (fun _ _ => PyProof.Rows.sortedAll_old) (Nat.le_succ _) ⟨hlen2, out, ep, hv, by simpa using he'⟩, rfl, q _ (I.hok.fresh (Nat.le_succ _))⟩
@[simp] noncomputable def fSortedF : List D → Sto → Option (D × Sto) := fun ds S => match ds with
  | [.tup _] => none
  | [d] => (match seqD d S with | some xs => (match toPs xs with | some ps => if AllAlike ps ∧ Sortable ps ∧ (∀ q, q ∈ ps → q.depth ≤ 60) ∧ ps.length ≤ 1000000 then some (.lst (sortBy xs ps), S) else none | none => none) | none => none)
  | _ => none
@[simp] noncomputable def fSortedO : List D → Sto → Option (D × Sto) := fun ds S => match fSortedF ds S with | some (.lst xs, _) => some (.obj S.length, S ++ [.lst xs]) | _ => none
theorem boot_sorted : bootBuiltins "sorted" = some (.builtin "sorted") := by decide +kernel
theorem r_sortedF : RCNew G (rSortD X.K) fSortedF := fun w ρ S σ H xs ds d S' Q s hd e q => by
  unfold fSortedF at e
  split at e
  · cases e
  · rename_i dd hnt
    obtain ⟨v, rfl, hv⟩ := denL1 hd
    split at e
    · rename_i ys h1
      split at e
      · rename_i ps h2
        split at e
        · rename_i hc
          cases e
          obtain ⟨p, vs, rfl, hq, l⟩ := seq_L (K := X.K) s.core hv h1 (fun ys z => hnt ys (by rw [z]))
          have hdp : DpAll X.K H vs ps := dps_of s.core.sub l h2
          refine ⟨p, vs, ps, rfl, hq, hdp, hc.1, hc.2.1, hc.2.2.1, le_line hc.2.2.2, fun a ha => ?_⟩
          obtain ⟨s1, x1⟩ := s.newF (o := .lst (sortBy vs ps)) ha (.inr ⟨_, rfl⟩)
          exact q _ _ _ s1 x1 (den_newL (sort_den l (by rw [← l.len, dp_len hdp])) (s.core.fresh ha))
        · cases e
      · cases e
    · cases e
  · cases e
theorem de_sortedF {k : Nat} (hr : Room k X.A) (hm : X.mg "sorted" = none) (ha : DE X G a ta) (hg : Gl X "sorted" := by rfl) (hs : starEach [a] X.env = (false, eval a X.env) :: starEach [] X.env := by rfl) (hpl : (backTo pos (starEach [] X.env)).any (·.1) = false := by rfl) :
    DE X G (.Call (.Name "sorted" p) [a] [] pos) (eA fSortedF (aCons ta aNil)) :=
  let ⟨_, pa, ea⟩ := da_cons ha da_nil hs
  ⟨_, pe_callB (cr_sortedD hr.units) hg hm boot_sorted pa (by decide) (by decide) hs hpl, ev_cb r_sortedF ea⟩
/-! ### max of a tuple of ints -/
theorem dp_ints {K : PySem.W.Frag} {H : Hp} : ∀ ns : List Int, DpAll K H (ns.map V.int) (ns.map PyData.int)
  | [] => .nil
  | n :: ns => .cons (.int n) (dp_ints ns)
def rMaxT (K : PySem.W.Frag) : List V → Hp → VK → Prop := fun vs H Q => ∃ (a : Addr) (n : Int) (ns : List Int), vs = [V.ref a] ∧ SqT K H a ((n :: ns).map V.int) ∧ Q (.int (ns.foldl max n)) H
theorem cr_maxT (hc : X.calm = true) (hu : X.A.units + 64 < cLine) : CallR X (.builtin "max") (rMaxT X.K) := by
  intro pins s σ H vs us Q I r h
  obtain ⟨a, n, ns, rfl, hs, q⟩ := h
  obtain ⟨its, rv, ht, _⟩ := I.tuple hs
  rw [Vals.ref1 r]
  obtain ⟨as, hr⟩ := Dp.readsAll I ((n :: ns).map PyData.int) _ its (dp_ints _) rv
  have hd : PyData.depthAll ((n :: ns).map PyData.int) = 0 := PySem.W.depth_ints _
  refine PySem.W.max_tuple_data (I.ok.hd hc) (show s.heap.IsTuple a its.toArray from ht) hr ⟨fun x hx y hy => ?_, fun x hx => ?_⟩ (by rw [show PyData.int n :: ns.map PyData.int = (n :: ns).map PyData.int from rfl, hd]; omega) fun i v h' tk bs hv hrd hk => ?_
  · obtain ⟨k, _, rfl⟩ := List.mem_map.mp (show x ∈ (n :: ns).map PyData.int from hx)
    obtain ⟨k', _, rfl⟩ := List.mem_map.mp (show y ∈ (n :: ns).map PyData.int from hy)
    rfl
  · obtain ⟨k, _, rfl⟩ := List.mem_map.mp (show x ∈ (n :: ns).map PyData.int from hx)
    exact fun e => by cases e
  · have e : PySem.W.maxD (PyData.int n) (ns.map PyData.int) = .int (ns.foldl max n) := PySem.W.maxD_ints n ns
    rw [e] at hrd
    cases hrd
    exact ⟨.int _, H, I.kept hk, ⟨_, rfl⟩, q⟩
theorem cr_or {id : String} {r r' : List V → Hp → VK → Prop} (h : CallR X (.builtin id) r) (h' : CallR X (.builtin id) r') : CallR X (.builtin id) (fun vs H Q => r vs H Q ∨ r' vs H Q) := fun pins s σ H vs us Q I rr q => q.elim (h pins s σ H vs us Q I rr) (h' pins s σ H vs us Q I rr)
theorem ints_cons : ∀ {xs : List D} {ns : List Int}, intsD xs = some ns → xs = ns.map D.int
  | [], ns, e => by cases e; rfl
  | x :: xs, ns, e => by
    cases x <;> simp only [intsD] at e <;> try cases e
    split at e
    · rename_i ms h2
      cases e
      rw [ints_cons h2]
      rfl
    · cases e
/-- max of a list or a tuple of ints -/
theorem de_maxA {k : Nat} (hc : X.calm = true) (hr : Room k X.A) (hm : X.mg "max" = none) (ha : DE X G a ta) (hg : Gl X "max" := by rfl) (hs : starEach [a] X.env = (false, eval a X.env) :: starEach [] X.env := by rfl) (hpl : (backTo pos (starEach [] X.env)).any (·.1) = false := by rfl) :
    DE X G (.Call (.Name "max" p) [a] [] pos) (eA fMax1 (aCons ta aNil)) :=
  let ⟨_, pa, ea⟩ := da_cons ha da_nil hs
  ⟨_, pe_callB (cr_or (cr_max hc) (cr_maxT hc hr.units)) hg hm boot_max pa (by decide) (by decide) hs hpl, ev_cb (fun w ρ S σ H xs ds d S' Q s hd e q => by
    unfold fMax1 at e
    split at e
    · rename_i dd
      obtain ⟨v, rfl, hv⟩ := denL1 hd
      split at e
      · rename_i ys h1
        split at e
        · rename_i ns h2
          split at e
          · rename_i m h3
            cases e
            obtain ⟨p, vs, rfl, hq, l⟩ := seq_ok (K := X.K) s.core hv h1
            rw [ints_of l h2] at hq
            rcases hq with hq | hq
            · obtain ⟨g1, g2⟩ := listMax_ok h3
              exact .inl ⟨p, ns, rfl, hq, g1, fun m' m1 m2 => by rw [g2 m' m1 m2]; exact q w _ H s (Ext.refl ..) (.int _)⟩
            · cases ns with
              | nil => cases h3
              | cons n ns =>
                cases h3
                exact .inr ⟨p, n, ns, rfl, hq, q w _ H s (Ext.refl ..) (.int _)⟩
          · cases e
        · cases e
      · cases e
    · cases e) ea⟩
end
end DL

set_option maxRecDepth 100000
set_option maxHeartbeats 4000000
set_option pp.maxSteps 900
/-! what raises: an exception class of the text without own __init__, made without arguments -/
namespace DL
open PySem PySem.Spec PyProof.Rows L2 GX
open Classical
/-- an exception class of the text -/
structure XAt (K : PySem.W.Frag) (mg : Str → Option Value) (x : Str) (C : Addr) : Prop where
  g : mg x = some (.ref C)
  x : PySem.W.excIn K C [.type "ValueError", .type "Exception", .type "BaseException", .type "object"] "ValueError.__new__" = true
  k : PySem.W.keepIn K (.ref C) = true
  b : PySem.W.subIn K (.ref C) (.type "BaseException") = some true
  t : PySem.W.typeIn K (.ref C) = some (.type "type")
  m : PySem.W.exmOne K (.ref C) (.ref C) = some true
/-- where an exception leaves: the places and the store then -/
abbrev RX := En → Sto → Option (En × Sto)
abbrev FX := List D → Sto → Option Sto
def EvX (G : Gc) (C : Addr) (W : WX) (ts : TS) (x : RX) : Prop := ∀ (ρ : En) (S : Sto) (ρ' : En) (S' : Sto), x ρ S = some (ρ', S') → ∀ (w : Wd) (σ : L2.St) (H : Hp), Sat G w ρ S σ H →
  (∀ w' σ' H', Sat G w' ρ' S' σ' H' → Ext w S H w' S' H' → W (.ref C) none σ' H') → ∀ D : Ends, ts D σ H
def DX (X : Cx) (G : Gc) (C : Addr) (st : Stmt) (x : RX) : Prop := ∀ W, Takes X W → ∃ ts, PS X st ts ∧ EvX G C W ts x
def DXs (X : Cx) (G : Gc) (C : Addr) (sts : List Stmt) (x : RX) : Prop := ∀ W, Takes X W → ∃ ts, PSs X sts ts ∧ EvX G C W ts x
def EvXE (G : Gc) (C : Addr) (W : WX) (te : TE) (x : RX) : Prop := ∀ (ρ : En) (S : Sto) (ρ' : En) (S' : Sto), x ρ S = some (ρ', S') → ∀ (w : Wd) (σ : L2.St) (H : Hp), Sat G w ρ S σ H →
  (∀ w' σ' H', Sat G w' ρ' S' σ' H' → Ext w S H w' S' H' → W (.ref C) none σ' H') → ∀ Q : VK, te σ H Q
def DXE (X : Cx) (G : Gc) (C : Addr) (e : Expr) (x : RX) : Prop := ∀ W, Takes X W → ∃ te, PE X e te ∧ EvXE G C W te x
/-! ### what is computed -/
@[simp] def xNo : RX := fun _ _ => none
@[simp] def xRaise : RX := fun ρ S => some (ρ, S)
@[simp] def xIf (c : RT) (a b : RX) : RX := fun ρ S => match c ρ S with | some (true, S1) => a ρ S1 | some (false, S1) => b ρ S1 | none => none
@[simp] def xSeq (t : RS) (b : RX) : RX := fun ρ S => match t ρ S with | some (.nx ρ1 S1) => b ρ1 S1 | _ => none
@[simp] def xCall (F : FX) (a : RA) : RX := fun ρ S => match a ρ S with | some (ds, S1) => (match F ds S1 with | some S2 => some (ρ, S2) | none => none) | none => none
@[simp] def sTry (x : RX) (u : RS) : RS := fun ρ S => match x ρ S with | some (ρ1, S1) => u ρ1 S1 | none => none
@[simp] def xD (n m : Nat) (x : RX) : FX := fun ds S => if ds.length = n then (match x (startD m ds) S with | some (_, S1) => some S1 | none => none) else none
/-- a def that raises C there -/
def SpX (G : Gc) (C : Addr) (F : FX) : Sp := fun vs H _ E => ∃ w S ds S', Core G w S H ∧ DenL w S.length vs ds ∧ F ds S = some S' ∧ ∀ w' H', Core G w' S' H' → Ext w S H w' S' H' → E (.ref C) none H'
structure DFx (P : Program) (wd : World) (G : Gc) (mg : Str → Option Value) (k : Nat) (x : Str) (st : Stmt) (f : Addr) (ps : List Str) (C : Addr) (F : FX) : Prop where
  ok : ∃ (kV doc pm : Value) (an : Option Addr) (cdv ct : Value), FnOk P wd G.K mg G.base (L2.CX P wd) k f (PySem.W.fnOf x x (defArgs st) (defBody st) (defScope st) .none kV doc pm an cdv ct) ps (SpX G C F)
  kp : PySem.W.keepIn G.K (.ref f) = true
  mg : mg x = some (.ref f)
theorem pmk_own0 {X : Cx} {C : Addr} {bmB : List Value} {B newId initId : String} {x : Str} {p pos : Pos} (F : ExcBaseFacts B newId initId bmB) (q : PySem.W.excIn X.K C bmB newId = true) (gC : X.mg x = some (.ref C)) (kC : PySem.W.keepIn X.K (.ref C) = true) (r : Raises X (.ref C)) (hg : Gl X x)
    (hdb : (x == ("__debug__" : Str)) = false := by decide) : PMk X (.Call (.Name x p) [] [] pos) (fun _ H Q => Q (.ref C) none H) := by
  intro pins s σ H Q I h
  refine wpAny_Call_Name_kw (ld_glob I hg gC ?_ hdb)
  refine PySem.W.callWith_K0 I.kIn kC ?_
  show wpAny _ _ (call (.ref C) []) _ _ _
  obtain ⟨bm, N, nm, qn, bs, hdct, sn, sub, ab, col, dd, k0, k1, k2, k3, k5, mN, hC, hN, hni, T⟩ := exc_obj I.kIn q
  refine wpAny_call_exc_subT F T hC hN hni (fun h' e hm => ?_) (by show 0 ≤ sizeLine; omega)
  exact mk_of I hm r h (I.hok.gone hm.new)
section
variable {G : Gc} {X : Cx} {pos pos' np p p2 : Pos} {e c : Expr} {es : List Expr} {x : Str} {f C : Addr} {st : Stmt} {sts sts2 : List Stmt} {ps : List Str} {k : Nat} {ra : RA} {tt : RT} {t u : RS} {a b : RX} {F : FX} {b₀ : Stmt}
theorem x_no : DXs X G C sts xNo := fun W tk => ⟨_, pss_never, fun ρ S ρ' S' e => by cases e⟩
theorem x_raise {K : PySem.W.Frag} {mg : Str → Option Value} (hx : XAt K mg x C) (hc : X.calm = true) (hK : X.K = K := by rfl) (hm : X.mg = mg := by rfl) (hg : Gl X x := by rfl) (hdb : (x == ("__debug__" : Str)) = false := by decide) : DX X G C (.Raise (some (.Call (.Name x p) [] [] p2)) none pos) xRaise := fun W tk => by
  subst hK hm
  exact ⟨_, ps_raise hc tk (pmk_own0 PySem.F.excBase_ValueError hx.x hx.g hx.k (raises_own hx.b hx.t) hg hdb), fun ρ S ρ' S' e w σ H s q D => by cases e; exact q w σ H s (Ext.refl ..)⟩
theorem x_one (h : DX X G C st a) : DXs X G C [st] a := fun W tk => let ⟨_, p, q⟩ := h W tk; ⟨_, pss_one p, q⟩
theorem x_seqL (h : DX X G C st a) : DXs X G C (st :: sts) a := fun W tk => let ⟨_, p, q⟩ := h W tk; ⟨_, pss_cons p pss_never, fun ρ S ρ' S' e w σ H s r D => q ρ S ρ' S' e w σ H s r _⟩
theorem x_seqR (h : DS X G st t) (h2 : DXs X G C sts b) : DXs X G C (st :: sts) (xSeq t b) := fun W tk =>
  let ⟨_, pa, ea⟩ := h; let ⟨_, pb, eb⟩ := h2 W tk
  ⟨_, pss_cons pa pb, fun ρ S ρ' S' e w σ H s r D => by
    unfold xSeq at e
    split at e
    · rename_i ρ1 S1 h1
      exact ea ρ S _ h1 w σ H s _ fun w1 σ1 H1 s1 x1 => eb ρ1 S1 ρ' S' e w1 σ1 H1 s1 (fun w2 σ2 H2 s2 x2 => r w2 σ2 H2 s2 (x1.trans x2)) D
    · cases e⟩
theorem x_if (hc : DT X G c tt) (ha : DXs X G C sts a) (hb : DXs X G C sts2 b) : DX X G C (.If c sts sts2 pos) (xIf tt a b) := fun W tk =>
  let ⟨_, pc, ec⟩ := hc; let ⟨_, pa, ea⟩ := ha W tk; let ⟨_, pb, eb⟩ := hb W tk
  ⟨_, ps_if pc pa pb, fun ρ S ρ' S' e w σ H s r D => by
    unfold xIf at e
    split at e
    · rename_i S1 h1
      exact ec ρ S _ _ h1 w σ H s _ fun w1 H1 s1 x1 => iteT (ea ρ S1 ρ' S' e w1 σ H1 s1 (fun w2 σ2 H2 s2 x2 => r w2 σ2 H2 s2 (x1.trans x2)) D)
    · rename_i S1 h1
      exact ec ρ S _ _ h1 w σ H s _ fun w1 H1 s1 x1 => iteF (eb ρ S1 ρ' S' e w1 σ H1 s1 (fun w2 σ2 H2 s2 x2 => r w2 σ2 H2 s2 (x1.trans x2)) D)
    · cases e⟩
theorem x_expr (h : DXE X G C e a) (hs : swapsWith e none pos.line X.env = pure false := by rfl) : DX X G C (.Expr e pos) a := fun W tk =>
  let ⟨_, pa, ea⟩ := h W tk
  ⟨_, ps_expr pa hs, fun ρ S ρ' S' e w σ H s r D => ea ρ S ρ' S' e w σ H s r _⟩
theorem x_ret (h : DXE X G C e a) : DX X G C (.Return (some e) pos) a := fun W tk =>
  let ⟨_, pa, ea⟩ := h W tk
  ⟨_, ps_ret pa, fun ρ S ρ' S' e w σ H s r D => ea ρ S ρ' S' e w σ H s r _⟩
theorem x_set {i : Nat} {y : Str} {pos' : Pos} (hN : X.N.Nodup) (hi : X.N[i]? = some y) (hx : Loc X.env.scope y) (h : DXE X G C e a) (hs : swapsWith e (some (.Name y pos')) pos.line X.env = pure false) (hf : X.fn y = true ∨ X.env.scope.names.lookup y = some .local) :
    DX X G C (.Assign [.Name y pos'] e pos) a := fun W tk =>
  let ⟨_, pa, ea⟩ := h W tk
  ⟨_, ps_set hN hi hx pa hs hf, fun ρ S ρ' S' e w σ H s r D => ea ρ S ρ' S' e w σ H s r _⟩
theorem x_call {cv : Option Value} (hf : DFx X.prog X.w G X.mg k x st f ps C F) (hb : BindsP st ps) (hr : Room k X.A) (ha : DA X { G with cv := cv } (e :: es) ra) (hK : X.K = G.K := by rfl) (hB : X.base = G.base := by rfl) (hg : Gl X x := by rfl) (hdb : (x == ("__debug__" : Str)) = false := by decide)
    (he : starEach (e :: es) X.env = (false, eval e X.env) :: starEach es X.env := by rfl) (hpl : (backTo pos (starEach es X.env)).any (·.1) = false := by rfl) : DXE X { G with cv := cv } C (.Call (.Name x p) (e :: es) [] pos) (xCall F ra) := fun W tk => by
  obtain ⟨kV, doc, pm, an, cdv, ct, hok⟩ := hf.ok
  obtain ⟨ta, pa, ea⟩ := ha
  refine ⟨_, pe_callS (CX := L2.CX X.prog X.w) (E := WE W) (by rw [hK, hB]; exact hok) hr hg hf.mg (by rw [hK]; exact hf.kp) (.all (hb x kV doc pm an cdv ct)) (fun σ => passAt tk σ) pa hdb he hpl, fun ρ S ρ' S' e w σ H s r Q => ?_⟩
  unfold xCall at e
  split at e
  · rename_i ds S1 h1
    split at e
    · rename_i S2 h2
      cases e
      refine ea ρ S ds S1 h1 w σ H s _ fun w1 vs H1 s1 x1 d1 => ?_
      exact ⟨w1, S1, ds, S', ⟨s1.core.sub, s1.core.fro, s1.core.cel, s1.core.inj, s1.core.tab, s1.core.t0⟩, d1, h2, fun w2 H2 c2 x2 => r w2 σ H2 (s1.ofCore ⟨c2.sub, c2.fro, c2.cel, c2.inj, c2.tab, c2.t0⟩ x2) (x1.trans x2)⟩
    · cases e
  · cases e
/-- try: .. except C: .., where the body raises C -/
theorem ds_try {K : PySem.W.Frag} {mg : Str → Option Value} (hx : XAt K mg x C) (hs : X.stack = X.env :: X.outer) (hf : X.env.frame = some X.env.locals) (hb : ∀ (pn : List (Addr × Obj)) (xe : Value → Shared → Prop), DXs (X.tr pn xe) G C sts a)
    (hu : ∀ (a : Addr) (pn : List (Addr × Obj)), DSs (X.suite a pn) G (b₀ :: sts2) u) (hK : X.K = K := by rfl) (hm : X.mg = mg := by rfl) (hg : Gl X x := by rfl) (hdb : (x == ("__debug__" : Str)) = false := by decide) :
    DS X G (.Try sts [.ExceptHandler (some (.Name x np)) none (b₀ :: sts2) pos'] [] [] pos) (sTry a u) := by
  subst hK hm
  let tb : WX → TS := fun W D σ H => ∃ ρ S ρ' S' w, a ρ S = some (ρ', S') ∧ Sat G w ρ S σ H ∧ ∀ w' σ' H', Sat G w' ρ' S' σ' H' → Ext w S H w' S' H' → W (.ref C) none σ' H'
  have htb : ∀ (W : WX) (pn : List (Addr × Obj)) (xe : Value → Shared → Prop), Takes (X.tr pn xe) W → PSs (X.tr pn xe) sts (tb W) := fun W pn xe tk => by
    obtain ⟨ts, p, ev⟩ := hb pn xe W tk
    exact ⟨fun pins s σ H D I ⟨ρ, S, ρ', S', w, e, st, q⟩ => p.run pins s σ H D I (ev ρ S ρ' S' e w σ H st q D)⟩
  refine ⟨_, ps_try_only (tb := tb) (ts := fun _ _ _ D σ H => ∃ ρ S o w, u ρ S = some o ∧ Sat G w ρ S σ H ∧ Post G w S H D o) (Wout := fun _ _ _ _ => False) hs hf ⟨hg, hdb, .inl hx.g⟩ takes0 (fun W pn xe tk _ => htb W pn xe tk) (fun a oe cls d pn _ _ => ?_), ?_⟩
  · obtain ⟨ts, p, ev⟩ := hu a ((a, oe) :: pn)
    exact ⟨fun pins s σ H D I ⟨ρ, S, o, w, e, st, q⟩ => p.run pins s σ H D I (ev ρ S o e w σ H st D q)⟩
  · intro ρ S o e w σ H s D q
    unfold sTry at e
    split at e
    · rename_i ρ1 S1 h1
      exact ⟨ρ, S, ρ1, S1, w, h1, s, fun w1 σ1 H1 s1 x1 => ⟨true, hx.m, fun _ _ _ => ⟨ρ1, S1, o, w1, e, s1, q.ext x1⟩, fun z => by cases z⟩⟩
    · cases e
/-- THE RULE for a def that raises -/
theorem fx_at {P : Program} {wd : World} {mg : Str → Option Value} {c : Addr} {N : List Str} {cv : Option Value} (A : FAt G.K mg x st f c) (Sc : FnScope N ps (defScope st)) (hcv : ∀ v, cv = some v → v = .ref c ∧ ∃ P, G.t0 c P)
    (hbody : ∀ (A : Around) (outer : List Env) (s : Shared) (H : Hp) (E : XK), Room k (A.deeper (envOfC x (defScope st) s.heap.objs.size f (.ref c))) → DXs (cxOf (L2.CX P wd) P wd G.K mg G.base N x (defScope st) f (.ref c) A outer s H E) { G with cv := cv } C (defBody st) a) :
    DFx P wd G mg (k + 1) x st f ps C (xD ps.length N.length a) := by
  obtain ⟨oc, od, kV, doc, pm, an, ct, osl, lk⟩ := A.lk
  refine ⟨⟨kV, doc, pm, an, .ref c, ct, fn_of lk A.cd Sc (fun vs H Q E h => ?_) fun A' outer s H vs Q E hr h => ?_⟩, A.kp, A.mg⟩
  · obtain ⟨w, S, ds, S', c, l, e, q⟩ := h
    unfold xD at e
    split at e
    · rename_i hl; rw [l.len]; exact hl
    · cases e
  · obtain ⟨w, S, ds, S', c', l, e, q⟩ := h
    unfold xD at e
    split at e
    · rename_i hl
      split at e
      · rename_i ρ1 S1 h1
        cases e
        obtain ⟨ts, p, ev⟩ := hbody A' outer s H E hr (fun cls d _ H => E cls d H) (takes_of rfl rfl rfl rfl)
        have st := sat_start (N := N) (cv := cv) c' l (fun v hv => let ⟨e, P, h⟩ := hcv v hv; ⟨_, P, e, h⟩)
        refine ⟨ts, p, ev _ _ _ _ h1 w _ H st (fun w1 σ1 H1 s1 x1 => ?_) _⟩
        exact q w1 H1 ⟨s1.core.sub, s1.core.fro, s1.core.cel, s1.core.inj, s1.core.tab, s1.core.t0⟩ x1
      · cases e
    · cases e
end
end DL

set_option maxRecDepth 100000
set_option maxHeartbeats 4000000
set_option pp.maxSteps 900
/-! list(range(n)), tuple(range(n)) -/
namespace DL
open PySem PySem.Spec PyProof.Rows L2 GX
open Classical
@[simp] def eRng (mk : List D → Sto → Option (D × Sto)) (t : RE) : RE := fun ρ S => match t ρ S with
  | some (.int i, S1) => if 0 ≤ i ∧ i ≤ 1000000 then mk ((List.range i.toNat).map fun k : Nat => D.int (k : Int)) S1 else none
  | _ => none
theorem rgV_den {w : Wd} {n : Nat} {i : Int} : DenL w n (rgV 0 i) ((List.range i.toNat).map fun k : Nat => D.int (k : Int)) := by
  have e : rgV 0 i = ((List.range i.toNat).map fun k : Nat => (k : Int)).map V.int := by
    unfold rgV
    rw [List.map_map, Int.sub_zero]
    exact List.map_congr_left fun k _ => by show V.int (0 + (k : Int)) = V.int (k : Int); rw [Int.zero_add]
  have e2 : ((List.range i.toNat).map fun k : Nat => D.int (k : Int)) = ((List.range i.toNat).map fun k : Nat => (k : Int)).map D.int := by rw [List.map_map]; rfl
  rw [e, e2]
  exact DenL.ints _
section
variable {G : Gc} {X : Cx} {a : Expr} {ta : RE} {mk : List D → Sto → Option (D × Sto)} {pos p p2 p3 : Pos}
theorem de_listRg (nw : NewL mk) (hm : X.mg "list" = none) (hm2 : X.mg "range" = none) (ha : DE X G a ta) (hc : X.calm = true := by rfl) (hg : Gl X "list" := by rfl) (hg2 : Gl X "range" := by rfl)
    (na : starEach [a] X.env = (false, eval a X.env) :: starEach [] X.env := by rfl) (nb : starEach [.Call (.Name "range" p2) [a] [] p3] X.env = (false, eval (.Call (.Name "range" p2) [a] [] p3) X.env) :: starEach [] X.env := by rfl) :
    DE X G (.Call (.Name "list" p) [.Call (.Name "range" p2) [a] [] p3] [] pos) (eRng mk ta) :=
  let ⟨_, pa, ea⟩ := ha
  ⟨_, pe_listRg hc hg hm (prg_1 hg2 hm2 pa na) nb, fun ρ S d S' e w σ H s Q q => by
    unfold eRng at e
    split at e
    · rename_i i S1 h1
      split at e
      · rename_i hi
        refine ea ρ S _ _ h1 w σ H s _ fun w1 v H1 s1 x1 d1 => ?_
        exact ⟨i, den_int d1, RgOk.of_le (by omega) (by omega) (by omega) (by omega), (nw s1 rgV_den e fun w2 v H2 s2 x2 d2 => q w2 v H2 s2 (x1.trans x2) d2).2⟩
      · cases e
    · cases e⟩
theorem de_listRng (hm : X.mg "list" = none) (hm2 : X.mg "range" = none) (ha : DE X G a ta) (hc : X.calm = true := by rfl) (hg : Gl X "list" := by rfl) (hg2 : Gl X "range" := by rfl)
    (na : starEach [a] X.env = (false, eval a X.env) :: starEach [] X.env := by rfl) (nb : starEach [.Call (.Name "range" p2) [a] [] p3] X.env = (false, eval (.Call (.Name "range" p2) [a] [] p3) X.env) :: starEach [] X.env := by rfl) :
    DE X G (.Call (.Name "list" p) [.Call (.Name "range" p2) [a] [] p3] [] pos) (eRng fLst ta) := de_listRg newF hm hm2 ha hc hg hg2 na nb
theorem de_listRngO (hm : X.mg "list" = none) (hm2 : X.mg "range" = none) (ha : DE X G a ta) (hc : X.calm = true := by rfl) (hg : Gl X "list" := by rfl) (hg2 : Gl X "range" := by rfl)
    (na : starEach [a] X.env = (false, eval a X.env) :: starEach [] X.env := by rfl) (nb : starEach [.Call (.Name "range" p2) [a] [] p3] X.env = (false, eval (.Call (.Name "range" p2) [a] [] p3) X.env) :: starEach [] X.env := by rfl) :
    DE X G (.Call (.Name "list" p) [.Call (.Name "range" p2) [a] [] p3] [] pos) (eRng fObj ta) := de_listRg newO hm hm2 ha hc hg hg2 na nb
theorem de_tupleRng (hm : X.mg "tuple" = none) (hm2 : X.mg "range" = none) (ha : DE X G a ta) (hc : X.calm = true := by rfl) (hg : Gl X "tuple" := by rfl) (hg2 : Gl X "range" := by rfl)
    (na : starEach [a] X.env = (false, eval a X.env) :: starEach [] X.env := by rfl) (nb : starEach [.Call (.Name "range" p2) [a] [] p3] X.env = (false, eval (.Call (.Name "range" p2) [a] [] p3) X.env) :: starEach [] X.env := by rfl) :
    DE X G (.Call (.Name "tuple" p) [.Call (.Name "range" p2) [a] [] p3] [] pos) (eRng fTup ta) :=
  let ⟨_, pa, ea⟩ := ha
  ⟨_, pe_tupRg hc hg hm (prg_1 hg2 hm2 pa na) nb, fun ρ S d S' e w σ H s Q q => by
    unfold eRng at e
    split at e
    · rename_i i S1 h1
      split at e
      · rename_i hi
        refine ea ρ S _ _ h1 w σ H s _ fun w1 v H1 s1 x1 d1 => ?_
        exact ⟨i, den_int d1, RgOk.of_le (by omega) (by omega) (by omega) (by omega), (new_tup s1 rgV_den e fun w2 v H2 s2 x2 d2 => q w2 v H2 s2 (x1.trans x2) d2).2⟩
      · cases e
    · cases e⟩
/-! str of an int -/
@[simp] def fStr1 : List D → Sto → Option (D × Sto) := fun ds S => match ds with | [.int i] => if i.natAbs.log2 < 1920 then some (.str (Str.ofString (toString i)), S) else none | _ => none
theorem de_str1 {p : Pos} (hm : X.mg "str" = none) (ha : DE X G a ta) (hg : Gl X "str" := by rfl) (hs : starEach [a] X.env = (false, eval a X.env) :: starEach [] X.env := by rfl) (hpl : (backTo pos (starEach [] X.env)).any (·.1) = false := by rfl) :
    DE X G (.Call (.Name "str" p) [a] [] pos) (eA fStr1 (aCons ta aNil)) :=
  let ⟨_, pa, ea⟩ := da_cons ha da_nil hs
  ⟨_, pe_callTy call_str_int hg hm (by decide +kernel) pa (by decide) (by decide) hs hpl, ev_cb (fun w ρ S σ H xs ds d S' Q s hd e q => by
    unfold fStr1 at e
    split at e
    · split at e
      · rename_i hi
        cases e
        obtain ⟨v, rfl, hv⟩ := denL1 hd
        cases den_int hv
        exact ⟨_, rfl, hi, q w _ H s (Ext.refl ..) (.str _)⟩
      · cases e
    · cases e) ea⟩
end
end DL

set_option maxRecDepth 100000
set_option maxHeartbeats 4000000
/-! plain lemmas of loops, comprehensions, sizes, fractions -/
namespace DL
open PySem
open Classical
theorem forL_ind {g : RG} {b : RS} {chk : Sto → Prop} (I : Nat → En → Sto → Prop) : ∀ (ds : List D) (k0 : Nat) (ρ : En) (S : Sto), I k0 ρ S →
    (∀ k d ρ S, ds[k]? = some d → I (k0 + k) ρ S → ∃ ρ1 S1 ρ2 S2, g d ρ S = some (ρ1, S1) ∧ (b ρ1 S1 = some (.nx ρ2 S2) ∨ b ρ1 S1 = some (.ct ρ2 S2)) ∧ chk S2 ∧ I (k0 + k + 1) ρ2 S2) →
    ∃ ρ' S', forL g b chk ds ρ S = some (.nx ρ' S') ∧ I (k0 + ds.length) ρ' S'
  | [], k0, ρ, S, h, _ => ⟨ρ, S, rfl, h⟩
  | d :: ds, k0, ρ, S, h, hs => by
    obtain ⟨ρ1, S1, ρ2, S2, h1, h2, h3, h4⟩ := hs 0 d ρ S rfl h
    obtain ⟨ρ', S', h5, h6⟩ := forL_ind (g := g) (b := b) (chk := chk) I ds (k0 + 1) ρ2 S2 h4 fun k d ρ S hk hi => by
      have q := hs (k + 1) d ρ S hk (by rw [show k0 + (k + 1) = k0 + 1 + k by omega]; exact hi)
      rw [show k0 + (k + 1) + 1 = k0 + 1 + k + 1 by omega] at q
      exact q
    refine ⟨ρ', S', ?_, by rw [List.length_cons, show k0 + (ds.length + 1) = k0 + 1 + ds.length by omega]; exact h6⟩
    unfold forL
    rw [h1]
    rcases h2 with h2 | h2 <;> simp only [h2, if_pos h3, h5]
/-- a comprehension whose items leave the store -/
theorem compL_map {α : Type} {i : Nat} {e : RE} {chk : Sto → Prop} {ρ : En} {S : Sto} (hc : chk S) (h f : α → D) : ∀ xs : List α, (∀ x ∈ xs, e (ρ.set i (some (h x))) S = some (f x, S)) → compL (gNm i) tYesD e chk ρ (xs.map h) S = some (xs.map f, S)
  | [], _ => rfl
  | x :: xs, hx => by
    have ih := compL_map (i := i) (e := e) (ρ := ρ) hc h f xs fun y hy => hx y (List.mem_cons_of_mem _ hy)
    rw [List.map_cons, List.map_cons]
    unfold compL
    simp only [gNm, tYesD, hx x List.mem_cons_self, if_pos hc, ih]
/-- .. of pairs -/
theorem compL_map2 {α : Type} {i j : Nat} {e : RE} {chk : Sto → Prop} {ρ : En} {S : Sto} (hc : chk S) (h1 h2 f : α → D) : ∀ xs : List α, (∀ x ∈ xs, e ((ρ.set i (some (h1 x))).set j (some (h2 x))) S = some (f x, S)) →
    compL (gTp 2 (gsCons (gNm i) (gsCons (gNm j) gsNil))) tYesD e chk ρ (xs.map fun x => .tup [h1 x, h2 x]) S = some (xs.map f, S)
  | [], _ => rfl
  | x :: xs, hx => by
    have ih := compL_map2 (i := i) (j := j) (e := e) (ρ := ρ) hc h1 h2 f xs fun y hy => hx y (List.mem_cons_of_mem _ hy)
    rw [List.map_cons, List.map_cons]
    unfold compL
    simp only [gTp, gsCons, gsNil, gNm, tYesD, List.length_cons, List.length_nil, if_true, hx x List.mem_cons_self, if_pos hc, ih]
/-- .. whose store may change: an invariant of the store and what each item is -/
theorem compL_inv {i : Nat} {e : RE} {chk : Sto → Prop} {ρ : En} (I : Sto → Prop) (P : Nat → D → Prop) : ∀ (ds : List D) (k0 : Nat) (S : Sto), I S → (∀ k d S, ds[k]? = some d → I S → ∃ y S', e (ρ.set i (some d)) S = some (y, S') ∧ chk S' ∧ I S' ∧ P (k0 + k) y) →
    ∃ ys S', compL (gNm i) tYesD e chk ρ ds S = some (ys, S') ∧ I S' ∧ ys.length = ds.length ∧ ∀ (k : Nat) (y : D), ys[k]? = some y → P (k0 + k) y
  | [], k0, S, h, _ => ⟨[], S, rfl, h, rfl, fun k y hk => by simp at hk⟩
  | d :: ds, k0, S, h, hs => by
    obtain ⟨y, S1, h1, h2, h3, h4⟩ := hs 0 d S rfl h
    obtain ⟨ys, S', h5, h6, h7, h8⟩ := compL_inv (i := i) (e := e) (chk := chk) (ρ := ρ) I P ds (k0 + 1) S1 h3 fun k d S hk hi => by
      have q := hs (k + 1) d S hk hi
      rw [show k0 + (k + 1) = k0 + 1 + k by omega] at q
      exact q
    refine ⟨y :: ys, S', ?_, h6, by rw [List.length_cons, List.length_cons, h7], fun k z hk => ?_⟩
    · unfold compL
      simp only [gNm, tYesD, h1, if_pos h2, h5]
    · cases k with
      | zero => simp at hk; rw [← hk]; exact h4
      | succ k =>
        have q := h8 k z (by simpa using hk)
        rw [show k0 + (k + 1) = k0 + 1 + k by omega]
        exact q

theorem compL_id {j : Nat} {chk : Sto → Prop} {ρ : En} {S : Sto} (hc : chk S) (hj : j < ρ.length) (xs : List D) : compL (gNm j) tYesD (eV j) chk ρ xs S = some (xs, S) := by
  have h := compL_map (i := j) (e := eV j) (chk := chk) (ρ := ρ) (S := S) hc (fun d => d) (fun d => d) xs fun x _ => by
    simp [eV, List.getElem?_set_self hj]
  rwa [List.map_id'] at h
/-- [y for x in rows for y in x] -/
theorem compL2_flat {i j : Nat} {ρ : En} {S : Sto} (hi : i < ρ.length) (hj : j < ρ.length) (hij : i ≠ j) : ∀ rows : List (List D), compL2 (gNm i) tYesD (iSeq (eV i)) (gNm j) tYesD (eV j) [j] (fun _ => True) ρ (rows.map D.tup) S = some (rows.flatten, S)
  | [] => rfl
  | r :: rows => by
    have ih := compL2_flat hi hj hij rows (S := S)
    rw [List.map_cons, List.flatten_cons]
    unfold compL2
    have h1 : iSeq (eV i) (ρ.set i (some (.tup r))) S = some (r, fun _ => True, S) := by simp [iSeq, eV, List.getElem?_set_self hi]
    have h2 := compL_id (j := j) (chk := fun _ => True) (ρ := wipeD (ρ.set i (some (.tup r))) [j]) (S := S) trivial (by simpa [wipeD] using hj) r
    simp only [gNm, tYesD, h1, h2, if_true, ih]

/-! ### steps -/
theorem fnD_rt {n m : Nat} {fin : D → Sto → Sto → Option (D × Sto)} {t : RS} {ds : List D} {S S1 : Sto} {d : D} (hl : ds.length = n) (h : t (startD m ds) S = some (.rt d S1)) : fnD n m fin t ds S = fin d S S1 := by
  unfold fnD
  rw [if_pos hl, h]
theorem fnD_nx {n m : Nat} {fin : D → Sto → Sto → Option (D × Sto)} {t : RS} {ds : List D} {ρ : En} {S S1 : Sto} (hl : ds.length = n) (h : t (startD m ds) S = some (.nx ρ S1)) : fnD n m fin t ds S = fin .non S S1 := by
  unfold fnD
  rw [if_pos hl, h]
theorem sSeq_nx {a b : RS} {ρ ρ1 : En} {S S1 : Sto} (h : a ρ S = some (.nx ρ1 S1)) : sSeq a b ρ S = b ρ1 S1 := by
  unfold sSeq
  rw [h]
theorem sSeq_rt {a b : RS} {ρ : En} {S S1 : Sto} {d : D} (h : a ρ S = some (.rt d S1)) : sSeq a b ρ S = some (.rt d S1) := by
  unfold sSeq
  rw [h]
theorem sSet_ok {i : Nat} {e : RE} {ρ : En} {S S1 : Sto} {d : D} (h : e ρ S = some (d, S1)) : sSet i e ρ S = some (.nx (ρ.set i (some d)) S1) := by
  unfold sSet
  rw [h]
theorem sRet_ok {e : RE} {ρ : En} {S S1 : Sto} {d : D} (h : e ρ S = some (d, S1)) : sRet e ρ S = some (.rt d S1) := by
  unfold sRet
  rw [h]
theorem sExpr_ok {e : RE} {ρ : En} {S S1 : Sto} {d : D} (h : e ρ S = some (d, S1)) : sExpr e ρ S = some (.nx ρ S1) := by
  unfold sExpr
  rw [h]
theorem sIf_t {c : RT} {a b : RS} {ρ : En} {S S1 : Sto} (h : c ρ S = some (true, S1)) : sIf c a b ρ S = a ρ S1 := by
  unfold sIf
  rw [h]
theorem sIf_f {c : RT} {a b : RS} {ρ : En} {S S1 : Sto} (h : c ρ S = some (false, S1)) : sIf c a b ρ S = b ρ S1 := by
  unfold sIf
  rw [h]
theorem sFor_ok {it : RI} {g : RG} {b : RS} {ρ : En} {S S1 : Sto} {ds : List D} {chk : Sto → Prop} (h : it ρ S = some (ds, chk, S1)) : sFor it g b ρ S = forL g b chk ds ρ S1 := by
  unfold sFor
  rw [h]
theorem eLc_ok {mk : List D → Sto → Option (D × Sto)} {it : RI} {g : RG} {c : RT} {e : RE} {vs : List Nat} {ρ : En} {S S1 S2 : Sto} {ds ys : List D} {chk : Sto → Prop} (h : it ρ S = some (ds, chk, S1)) (h2 : compL g c e chk (wipeD ρ vs) ds S1 = some (ys, S2)) : eLc mk it g c e vs ρ S = mk ys S2 := by
  unfold eLc
  simp only [h, h2]
theorem eLc2_ok {mk : List D → Sto → Option (D × Sto)} {it it1 : RI} {g g1 : RG} {c c1 : RT} {e : RE} {vs vs1 : List Nat} {ρ : En} {S S1 S2 : Sto} {ds ys : List D} {chk : Sto → Prop} (h : it ρ S = some (ds, chk, S1)) (h2 : compL2 g c it1 g1 c1 e vs1 chk (wipeD ρ vs) ds S1 = some (ys, S2)) : eLc2 mk it g c it1 g1 c1 e vs vs1 ρ S = mk ys S2 := by
  unfold eLc2
  simp only [h, h2]
theorem eA_ok {f : List D → Sto → Option (D × Sto)} {a : RA} {ρ : En} {S S1 : Sto} {xs : List D} (h : a ρ S = some (xs, S1)) : eA f a ρ S = f xs S1 := by
  unfold eA
  rw [h]
theorem aCons_ok {a : RE} {r : RA} {ρ : En} {S S1 S2 : Sto} {x : D} {xs : List D} (h : a ρ S = some (x, S1)) (h2 : r ρ S1 = some (xs, S2)) : aCons a r ρ S = some (x :: xs, S2) := by
  unfold aCons
  rw [h]
  simp only [h2]
theorem fTup_ok {xs : List D} {S : Sto} (h : xs.length ≤ 1000000) : fTup xs S = some (.tup xs, S) := if_pos h
theorem fLst_ok {xs : List D} {S : Sto} (h : xs.length ≤ 1000000) : fLst xs S = some (.lst xs, S) := if_pos h
theorem fObj_ok {xs : List D} {S : Sto} (h : xs.length ≤ 1000000) : fObj xs S = some (.obj S.length, S ++ [.lst xs]) := if_pos h
theorem closL_map {α : Type} {n : Nat} {f : α → D} (h : ∀ x, clos n (f x) = true) : ∀ xs : List α, closL n (xs.map f) = true
  | [] => rfl
  | x :: xs => by
    show (clos n (f x) && closL n (xs.map f)) = true
    rw [h x, closL_map h xs]; rfl
theorem clos_tup {n : Nat} {xs : List D} (h : closL n xs = true) : clos n (.tup xs) = true := h
theorem clos_lst {n : Nat} {xs : List D} (h : closL n xs = true) : clos n (.lst xs) = true := h
theorem closL_nil {n : Nat} : closL n [] = true := rfl
theorem closL_cons {n : Nat} {x : D} {xs : List D} (h : clos n x = true) (h2 : closL n xs = true) : closL n (x :: xs) = true := by
  show (clos n x && closL n xs) = true
  rw [h, h2]; rfl
theorem clos_int {n : Nat} {i : Int} : clos n (.int i) = true := rfl
/-- a value without lists of the store -/
def isObj : D → Bool | .obj _ => true | _ => false
theorem frz_self {n : Nat} {d : D} {S : Sto} (h : clos n d = true) (ho : isObj d = false) : frzD n d S = some d := by
  cases d <;> simp_all [frzD, isObj]
theorem finP_self {d : D} {S : Sto} (h : clos S.length d = true) (ho : isObj d = false) : finP d S S = some (d, S) := by
  unfold finP
  rw [frz_self h ho]
  simp only [List.take_length, if_true]
theorem finP_drop {d : D} {S T : Sto} (h : clos S.length d = true) (ho : isObj d = false) : finP d S (S ++ T) = some (d, S) := by
  unfold finP
  rw [frz_self h ho]
  simp only [List.take_left', if_true]

/-! ### == -/
open PySem.SeqAt (shaped) in
theorem shaped_of {p : PyData} (h : p.canLay0 = true) (hd : p.depth ≤ 64) : shaped p = true := by
  unfold shaped
  rw [h, decide_eq_true hd]; rfl
/-- d is the data p, of depth n at most -/
structure Da (n : Nat) (d : D) (p : PyData) : Prop where
  eq : toP d = some p
  lay : p.canLay0 = true
  dep : p.depth ≤ n
structure DaL (n : Nat) (ds : List D) (ps : List PyData) : Prop where
  eq : toPs ds = some ps
  lay : PyData.canLayAll0 ps = true
  dep : PyData.depthAll ps ≤ n
theorem Da.int {n : Nat} {i : Int} : Da n (.int i) (.int i) := ⟨rfl, rfl, Nat.zero_le _⟩
theorem Da.bl {n : Nat} {b : Bool} : Da n (.bl b) (.bool b) := ⟨rfl, rfl, Nat.zero_le _⟩
theorem Da.non {n : Nat} : Da n .non .none := ⟨rfl, rfl, Nat.zero_le _⟩
theorem DaL.nil {n : Nat} : DaL n [] [] := ⟨rfl, rfl, Nat.zero_le _⟩
theorem DaL.cons {n : Nat} {d : D} {p : PyData} {ds : List D} {ps : List PyData} (h : Da n d p) (t : DaL n ds ps) : DaL n (d :: ds) (p :: ps) :=
  ⟨by simp only [toPs, h.eq, t.eq], by show (p.canLay0 && PyData.canLayAll0 ps) = true; rw [h.lay, t.lay]; rfl, Nat.max_le.mpr ⟨h.dep, t.dep⟩⟩
theorem DaL.tup {n : Nat} {ds : List D} {ps : List PyData} (h : DaL n ds ps) : Da (n + 1) (.tup ds) (.tuple ps) := ⟨by simp only [toP, h.eq], h.lay, Nat.succ_le_succ h.dep⟩
theorem DaL.lst {n : Nat} {ds : List D} {ps : List PyData} (h : DaL n ds ps) : Da (n + 1) (.lst ds) (.list ps) := ⟨by simp only [toP, h.eq], h.lay, Nat.succ_le_succ h.dep⟩
theorem DaL.map {α : Type} {n : Nat} {f : α → D} {g : α → PyData} (h : ∀ x, Da n (f x) (g x)) : ∀ xs : List α, DaL n (xs.map f) (xs.map g)
  | [] => .nil
  | x :: xs => .cons (h x) (DaL.map h xs)
theorem DaL.all {n : Nat} : ∀ {ds : List D}, (∀ d ∈ ds, ∃ p, Da n d p) → ∃ ps, DaL n ds ps
  | [], _ => ⟨[], .nil⟩
  | d :: ds, h => by
    obtain ⟨p, hp⟩ := h d List.mem_cons_self
    obtain ⟨ps, hps⟩ := DaL.all fun x hx => h x (List.mem_cons_of_mem _ hx)
    exact ⟨p :: ps, .cons hp hps⟩
theorem Da.mono {n m : Nat} {d : D} {p : PyData} (h : Da n d p) (hm : n ≤ m) : Da m d p := ⟨h.eq, h.lay, Nat.le_trans h.dep hm⟩
theorem fEq_da {n m : Nat} {x y : D} {p q : PyData} {S : Sto} (h : Da n x p) (h' : Da m y q) (hn : n ≤ 64 := by decide) (hm : m ≤ 64 := by decide) : fEq x y S = some (.bl (PyData.eqv p q)) := by
  unfold fEq
  simp only [h.eq, h'.eq, shaped_of h.lay (Nat.le_trans h.dep hn), shaped_of h'.lay (Nat.le_trans h'.dep hm), and_self, if_true]
theorem fNe_da {n m : Nat} {x y : D} {p q : PyData} {S : Sto} (h : Da n x p) (h' : Da m y q) (hn : n ≤ 64 := by decide) (hm : m ≤ 64 := by decide) : fNe x y S = some (.bl (!PyData.eqv p q)) := by
  unfold fNe
  simp only [h.eq, h'.eq, shaped_of h.lay (Nat.le_trans h.dep hn), shaped_of h'.lay (Nat.le_trans h'.dep hm), and_self, if_true]
mutual
theorem eqv_self : ∀ p : PyData, p.canLay0 = true → PyData.eqv p p = true
  | .none, _ => rfl
  | .bool b, _ => by simp [PyData.eqv]
  | .int b, _ => by simp [PyData.eqv]
  | .str b, _ => by simp [PyData.eqv]
  | .list xs, h => by
    show PyData.eqvAll xs xs = true
    exact eqvAll_self xs h
  | .tuple xs, h => by
    show PyData.eqvAll xs xs = true
    exact eqvAll_self xs h
  | .dict _, h => by cases h
theorem eqvAll_self : ∀ ps : List PyData, PyData.canLayAll0 ps = true → PyData.eqvAll ps ps = true
  | [], _ => rfl
  | p :: ps, h => by
    have h : (p.canLay0 && PyData.canLayAll0 ps) = true := h
    rw [Bool.and_eq_true] at h
    show (PyData.eqv p p && PyData.eqvAll ps ps) = true
    rw [eqv_self p h.1, eqvAll_self ps h.2]; rfl
end
@[simp] theorem fEq_int (a b : Int) (S : Sto) : fEq (.int a) (.int b) S = some (.bl (decide (a = b))) := by
  rw [fEq_da (n := 0) (m := 0) .int .int]
  simp only [PyData.eqv]
  congr 2
@[simp] theorem fNe_int (a b : Int) (S : Sto) : fNe (.int a) (.int b) S = some (.bl (!decide (a = b))) := by
  rw [fNe_da (n := 0) (m := 0) .int .int]
  simp only [PyData.eqv]
  congr 2
@[simp] theorem fEq_bl (a b : Bool) (S : Sto) : fEq (.bl a) (.bl b) S = some (.bl (a == b)) := by
  rw [fEq_da (n := 0) (m := 0) .bl .bl]
  simp only [PyData.eqv]
theorem fEq_self {n : Nat} {d : D} {p : PyData} {S : Sto} (h : Da n d p) (hn : n ≤ 64 := by decide) : fEq d d S = some (.bl true) := by
  rw [fEq_da h h hn hn, eqv_self p h.lay]
theorem fNe_self {n : Nat} {d : D} {p : PyData} {S : Sto} (h : Da n d p) (hn : n ≤ 64 := by decide) : fNe d d S = some (.bl false) := by
  rw [fNe_da h h hn hn, eqv_self p h.lay]; rfl
theorem eqvAll_nil : ∀ ps : List PyData, PyData.eqvAll ps [] = ps.isEmpty
  | [] => rfl
  | _ :: _ => rfl
theorem toPs_len : ∀ {ds : List D} {ps : List PyData}, toPs ds = some ps → ps.isEmpty = ds.isEmpty
  | [], ps, h => by cases h; rfl
  | d :: ds, ps, h => by
    simp only [toPs] at h
    split at h
    · split at h
      · cases h; rfl
      · cases h
    · cases h
theorem fEq_tnil {n : Nat} {ds : List D} {ps : List PyData} {S : Sto} (h : DaL n ds ps) (hn : n < 64 := by decide) : fEq (.tup ds) (.tup []) S = some (.bl ds.isEmpty) := by
  rw [fEq_da h.tup (DaL.tup (n := 0) .nil) (by omega) (by decide)]
  show some (D.bl (PyData.eqvAll ps [])) = _
  rw [eqvAll_nil, toPs_len h.eq]
theorem fNe_tnil {n : Nat} {ds : List D} {ps : List PyData} {S : Sto} (h : DaL n ds ps) (hn : n < 64 := by decide) : fNe (.tup ds) (.tup []) S = some (.bl (!ds.isEmpty)) := by
  rw [fNe_da h.tup (DaL.tup (n := 0) .nil) (by omega) (by decide)]
  show some (D.bl (!PyData.eqvAll ps [])) = _
  rw [eqvAll_nil, toPs_len h.eq]

/-! ### sizes -/
/-- less than n bits -/
def Bt (n : Nat) (i : Int) : Prop := i.natAbs < 2 ^ n
theorem Bt.mono {n m : Nat} {i : Int} (h : Bt n i) (hm : n ≤ m) : Bt m i := Nat.lt_of_lt_of_le h (Nat.pow_le_pow_right (by omega) hm)
theorem Bt.mul {n m : Nat} {i j : Int} (h : Bt n i) (h' : Bt m j) : Bt (n + m) (i * j) := by
  unfold Bt at *
  rw [Int.natAbs_mul, Nat.pow_add]
  exact Nat.mul_lt_mul'' h h'
theorem Bt.add {n m : Nat} {i j : Int} (h : Bt n i) (h' : Bt m j) : Bt (max n m + 1) (i + j) := by
  have a := h.mono (Nat.le_max_left n m)
  have b := h'.mono (Nat.le_max_right n m)
  unfold Bt at *
  rw [Nat.pow_succ]
  omega
theorem Bt.le {n : Nat} {i j : Int} (h : Bt n j) (h0 : 0 ≤ i) (hle : i ≤ j) : Bt n i := by
  unfold Bt at *
  omega
theorem Bt.of_nat {n k : Nat} (h : k < 2 ^ n) : Bt n (k : Int) := by unfold Bt; omega
theorem mul_ok {n m : Nat} {i j : Int} (h : Bt n i) (h' : Bt m j) (hs : n + m + 2 ≤ 1000000) : MulC i j :=
  .inl <| L2.wide_mul (a := n + 1) (b := m + 1) (h.mono (by omega)) (h'.mono (by omega)) (by omega) (by omega) (by omega)
theorem mul_sm {i j : Int} (h : j.natAbs < 18446744073709551616) : MulC i j := .inr (.inr (by omega))
theorem mul_sm' {i j : Int} (h : i.natAbs < 18446744073709551616) : MulC i j := .inr (.inl (by omega))
theorem div_ok {n : Nat} {i j : Int} (h0 : 0 < j) (h : Bt n j) (hs : n ≤ 8999) : L2.CDivW i j ∨ L2.CDivN i j :=
  .inl (L2.wide_div (b := n + 1) h0 (h.mono (by omega)) (by omega) (by omega))
theorem div_sm {i j : Int} (h0 : j ≠ 0) (h : j.natAbs < 1073741824) : L2.CDivW i j ∨ L2.CDivN i j := .inr ⟨h0, h⟩

/-! ### numbers -/
theorem fmod_nat (x y : Nat) : Int.fmod (x : Int) (y : Int) = ((x % y : Nat) : Int) := by
  rw [Int.fmod_eq_emod_of_nonneg _ (Int.natCast_nonneg _)]; rfl
theorem abs_nat (a : Int) : (if a < 0 then -a else a) = (a.natAbs : Int) := by split <;> omega
theorem gcd_ne {a b : Int} (h : b ≠ 0) : (Int.gcd a b : Int) ≠ 0 := by
  have := Int.gcd_pos_of_ne_zero_right a h
  omega
/-- a fraction in lowest terms -/
def dQ (q : Rat) : D := .tup [.int q.num, .int (q.den : Int)]
@[simp] theorem clos_dQ (n : Nat) (q : Rat) : clos n (dQ q) = true := rfl
theorem Da.dQ {n : Nat} {q : Rat} : Da (n + 1) (dQ q) (.tuple [.int q.num, .int (q.den : Int)]) := DaL.tup (.cons .int (.cons .int .nil))
theorem low_num (a b : Int) (h : 0 < b) : ((a : Rat) / (b : Rat)).num = a.fdiv (Int.gcd a b : Int) := by
  rw [← Rat.divInt_eq_div, Rat.num_divInt, Int.gcd_comm b a]
  have hd : (Int.gcd a b : Int) ∣ a := Int.gcd_dvd_left ..
  rw [Int.fdiv_eq_ediv_of_dvd hd, Int.sign_eq_one_of_pos h, Int.one_mul]
theorem low_den (a b : Int) (h : 0 < b) : (((a : Rat) / (b : Rat)).den : Int) = b.fdiv (Int.gcd a b : Int) := by
  rw [← Rat.divInt_eq_div, Rat.den_divInt, if_neg (by omega), Int.gcd_comm b a, Int.natCast_ediv]
  have hd : (Int.gcd a b : Int) ∣ b := Int.gcd_dvd_right ..
  rw [Int.fdiv_eq_ediv_of_dvd hd]
  congr 1
  omega
theorem gcd_bt {n : Nat} {a b : Int} (h : 0 < b) (hb : Bt n b) : Bt n (Int.gcd a b : Int) := by
  have hd : Int.gcd a b ∣ b.natAbs := Int.gcd_dvd_natAbs_right a b
  have := Nat.le_of_dvd (by omega) hd
  unfold Bt at *
  omega
end DL

set_option maxRecDepth 100000
set_option maxHeartbeats 4000000
/-! what is computed, read forward: one rule a construct -/
namespace DL
open PySem
open Classical
structure Kt where
  rt : D → Sto → Prop
  bk : En → Sto → Prop
  ct : En → Sto → Prop
def wE (t : RE) (ρ : En) (S : Sto) (Q : D → Sto → Prop) : Prop := ∃ d S', t ρ S = some (d, S') ∧ Q d S'
def wT (t : RT) (ρ : En) (S : Sto) (Q : Bool → Sto → Prop) : Prop := ∃ d S', t ρ S = some (d, S') ∧ Q d S'
def wA (t : RA) (ρ : En) (S : Sto) (Q : List D → Sto → Prop) : Prop := ∃ d S', t ρ S = some (d, S') ∧ Q d S'
def wI (t : RI) (ρ : En) (S : Sto) (Q : List D → (Sto → Prop) → Sto → Prop) : Prop := ∃ ds chk S', t ρ S = some (ds, chk, S') ∧ Q ds chk S'
def wG (g : RG) (d : D) (ρ : En) (S : Sto) (Q : En → Sto → Prop) : Prop := ∃ ρ' S', g d ρ S = some (ρ', S') ∧ Q ρ' S'
def wGs (g : RGs) (ds : List D) (ρ : En) (S : Sto) (Q : En → Sto → Prop) : Prop := ∃ ρ' S', g ds ρ S = some (ρ', S') ∧ Q ρ' S'
def wF (f : List D → Sto → Option (D × Sto)) (ds : List D) (S : Sto) (Q : D → Sto → Prop) : Prop := ∃ d S', f ds S = some (d, S') ∧ Q d S'
def w1 (f : D → Sto → Option D) (x : D) (S : Sto) (Q : D → Prop) : Prop := ∃ z, f x S = some z ∧ Q z
def w2 (f : D → D → Sto → Option D) (x y : D) (S : Sto) (Q : D → Prop) : Prop := ∃ z, f x y S = some z ∧ Q z
def w2s (f : D → D → Sto → Option (D × Sto)) (x y : D) (S : Sto) (Q : D → Sto → Prop) : Prop := ∃ d S', f x y S = some (d, S') ∧ Q d S'
def wM (f : D → List D → Sto → Option (D × Sto)) (x : D) (ds : List D) (S : Sto) (Q : D → Sto → Prop) : Prop := ∃ d S', f x ds S = some (d, S') ∧ Q d S'
def wFin (fin : D → Sto → Sto → Option (D × Sto)) (d : D) (S S1 : Sto) (Q : D → Sto → Prop) : Prop := ∃ d' S', fin d S S1 = some (d', S') ∧ Q d' S'
def wTru (d : D) (S : Sto) (Q : Bool → Prop) : Prop := ∃ b, tru d S = some b ∧ Q b
def outK (N : En → Sto → Prop) (K : Kt) : Out → Prop
  | .nx ρ S => N ρ S
  | .rt d S => K.rt d S
  | .bk ρ S => K.bk ρ S
  | .ct ρ S => K.ct ρ S
def wS (t : RS) (ρ : En) (S : Sto) (N : En → Sto → Prop) (K : Kt) : Prop := ∃ o, t ρ S = some o ∧ outK N K o
section
variable {a b c e o : RE} {ra : RA} {ρ : En} {S : Sto} {Q : D → Sto → Prop} {N : En → Sto → Prop} {K : Kt} {d x y : D} {i j k : Nat}
theorem wE_mono {t : RE} {Q Q' : D → Sto → Prop} (h : wE t ρ S Q) (m : ∀ d S, Q d S → Q' d S) : wE t ρ S Q' := let ⟨d, S', e, q⟩ := h; ⟨d, S', e, m _ _ q⟩
theorem wF_mono {f : List D → Sto → Option (D × Sto)} {ds : List D} {Q Q' : D → Sto → Prop} (h : wF f ds S Q) (m : ∀ d S, Q d S → Q' d S) : wF f ds S Q' := let ⟨d, S', e, q⟩ := h; ⟨d, S', e, m _ _ q⟩
theorem wS_mono {t : RS} {N N' : En → Sto → Prop} (h : wS t ρ S N K) (m : ∀ ρ S, N ρ S → N' ρ S) : wS t ρ S N' K := by
  obtain ⟨o, e, q⟩ := h
  refine ⟨o, e, ?_⟩
  cases o <;> first | exact m _ _ q | exact q
theorem wF_eq {f : List D → Sto → Option (D × Sto)} {ds : List D} {S1 : Sto} (h : f ds S = some (d, S1)) (q : Q d S1) : wF f ds S Q := ⟨d, S1, h, q⟩
theorem wF_of {f : List D → Sto → Option (D × Sto)} {ds : List D} {S1 : Sto} (h : wF f ds S fun d' S' => d' = d ∧ S' = S1) : f ds S = some (d, S1) := by
  obtain ⟨_, _, e, rfl, rfl⟩ := h
  exact e
theorem wE_eq {t : RE} {S1 : Sto} (h : t ρ S = some (d, S1)) (q : Q d S1) : wE t ρ S Q := ⟨d, S1, h, q⟩
theorem wE_of {t : RE} {S1 : Sto} (h : wE t ρ S fun d' S' => d' = d ∧ S' = S1) : t ρ S = some (d, S1) := by
  obtain ⟨_, _, e, rfl, rfl⟩ := h
  exact e
theorem wS_eq {t : RS} {ρ1 : En} {S1 : Sto} (h : t ρ S = some (.nx ρ1 S1)) (q : N ρ1 S1) : wS t ρ S N K := ⟨_, h, q⟩
theorem wS_rt {t : RS} {S1 : Sto} (h : t ρ S = some (.rt d S1)) (q : K.rt d S1) : wS t ρ S N K := ⟨_, h, q⟩
theorem wS_bk {t : RS} {ρ1 : En} {S1 : Sto} (h : t ρ S = some (.bk ρ1 S1)) (q : K.bk ρ1 S1) : wS t ρ S N K := ⟨_, h, q⟩
theorem wS_ct {t : RS} {ρ1 : En} {S1 : Sto} (h : t ρ S = some (.ct ρ1 S1)) (q : K.ct ρ1 S1) : wS t ρ S N K := ⟨_, h, q⟩
/-! expressions -/
theorem wE_c (h : Q d S) : wE (eC d) ρ S Q := ⟨_, _, rfl, h⟩
theorem wE_v (e : ρ[i]? = some (some d)) (h : Q d S) : wE (eV i) ρ S Q := ⟨d, S, by simp [eV, e], h⟩
theorem wE_1 {f : D → Sto → Option D} (h : wE a ρ S fun x S1 => w1 f x S1 fun z => Q z S1) : wE (e1 f a) ρ S Q := by
  obtain ⟨x, S1, e1, z, e2, q⟩ := h
  exact ⟨z, S1, by simp only [DL.e1, e1, e2], q⟩
theorem wE_2 {f : D → D → Sto → Option D} (h : wE a ρ S fun x S1 => wE b ρ S1 fun y S2 => w2 f x y S2 fun z => Q z S2) : wE (e2 f a b) ρ S Q := by
  obtain ⟨x, S1, e1, y, S2, e2', z, e3, q⟩ := h
  exact ⟨z, S2, by simp only [e2, e1, e2', e3], q⟩
theorem wE_2s {f : D → D → Sto → Option (D × Sto)} (h : wE a ρ S fun x S1 => wE b ρ S1 fun y S2 => w2s f x y S2 Q) : wE (e2s f a b) ρ S Q := by
  obtain ⟨x, S1, e1, y, S2, e2', z, S3, e3, q⟩ := h
  exact ⟨z, S3, by simp only [e2s, e1, e2', e3], q⟩
theorem wE_A {f : List D → Sto → Option (D × Sto)} (h : wA ra ρ S fun xs S1 => wF f xs S1 Q) : wE (eA f ra) ρ S Q := by
  obtain ⟨x, S1, e1, z, S2, e2', q⟩ := h
  exact ⟨z, S2, by simp only [eA, e1, e2'], q⟩
theorem wA_nil {Q : List D → Sto → Prop} (h : Q [] S) : wA aNil ρ S Q := ⟨_, _, rfl, h⟩
theorem wA_cons {Q : List D → Sto → Prop} (h : wE a ρ S fun x S1 => wA ra ρ S1 fun xs S2 => Q (x :: xs) S2) : wA (aCons a ra) ρ S Q := by
  obtain ⟨x, S1, e1, z, S2, e2', q⟩ := h
  exact ⟨_, S2, by simp only [aCons, e1, e2'], q⟩
theorem wE_M {f : D → List D → Sto → Option (D × Sto)} (h : wE o ρ S fun x S1 => ∃ k xs, x = .obj k ∧ S1[k]? = some (.lst xs) ∧ wA ra ρ S1 fun ys S2 => wM f (.obj k) ys S2 Q) : wE (eM f o ra) ρ S Q := by
  obtain ⟨x, S1, e1, k, xs, rfl, e2, ys, S2, e3, z, S3, e4, q⟩ := h
  exact ⟨z, S3, by simp only [eM, e1, e2, e3, e4], q⟩
theorem wE_and (h : wE a ρ S fun x S1 => ∃ c, x = .bl c ∧ (c = true → wE b ρ S1 Q) ∧ (c = false → Q (.bl false) S1)) : wE (eAnd a b) ρ S Q := by
  obtain ⟨x, S1, e1, c, rfl, h1, h2⟩ := h
  cases c with
  | true => obtain ⟨z, S2, e2, q⟩ := h1 rfl; exact ⟨z, S2, by simp only [eAnd, e1, e2], q⟩
  | false => exact ⟨_, S1, by simp only [eAnd, e1], h2 rfl⟩
theorem wE_or (h : wE a ρ S fun x S1 => ∃ c, x = .bl c ∧ (c = true → Q (.bl true) S1) ∧ (c = false → wE b ρ S1 Q)) : wE (eOr a b) ρ S Q := by
  obtain ⟨x, S1, e1, c, rfl, h1, h2⟩ := h
  cases c with
  | false => obtain ⟨z, S2, e2, q⟩ := h2 rfl; exact ⟨z, S2, by simp only [eOr, e1, e2], q⟩
  | true => exact ⟨_, S1, by simp only [eOr, e1], h1 rfl⟩
theorem wE_if {t : RT} (h : wT t ρ S fun c S1 => (c = true → wE a ρ S1 Q) ∧ (c = false → wE b ρ S1 Q)) : wE (eIf t a b) ρ S Q := by
  obtain ⟨c, S1, e1, h1, h2⟩ := h
  cases c with
  | false => obtain ⟨z, S2, e2, q⟩ := h2 rfl; exact ⟨z, S2, by simp only [eIf, e1, e2], q⟩
  | true => obtain ⟨z, S2, e2, q⟩ := h1 rfl; exact ⟨z, S2, by simp only [eIf, e1, e2], q⟩
theorem wE_chain {f g : D → D → Sto → Option D} (h : wE a ρ S fun x S1 => wE b ρ S1 fun y S2 => w2 f x y S2 fun r => ∃ c', r = .bl c' ∧ (c' = true → wE c ρ S2 fun z S3 => w2 g y z S3 fun r => Q r S3) ∧ (c' = false → Q (.bl false) S2)) : wE (eChain f g a b c) ρ S Q := by
  obtain ⟨x, S1, e1, y, S2, e2, r, e3, c', rfl, h1, h2⟩ := h
  cases c' with
  | false => exact ⟨_, S2, by simp only [eChain, e1, e2, e3], h2 rfl⟩
  | true => obtain ⟨z, S3, e4, r, e5, q⟩ := h1 rfl; exact ⟨r, S3, by simp only [eChain, e1, e2, e3, e4, e5], q⟩
/-! tests -/
theorem wT_bl {Q : Bool → Sto → Prop} (h : wE a ρ S fun x S1 => ∃ c, x = .bl c ∧ Q c S1) : wT (tBl a) ρ S Q := by
  obtain ⟨x, S1, e1, c, rfl, q⟩ := h
  exact ⟨c, S1, by simp only [tBl, e1], q⟩
theorem wT_tru {Q : Bool → Sto → Prop} (h : wE a ρ S fun x S1 => wTru x S1 fun c => Q c S1) : wT (tTru a) ρ S Q := by
  obtain ⟨x, S1, e1, c, e2, q⟩ := h
  exact ⟨c, S1, by simp only [tTru, e1, e2], q⟩
theorem wT_not {t : RT} {Q : Bool → Sto → Prop} (h : wT t ρ S fun c S1 => Q (!c) S1) : wT (tNotD t) ρ S Q := by
  obtain ⟨x, S1, e1, q⟩ := h
  exact ⟨_, S1, by simp only [tNotD, e1], q⟩
theorem wT_and {t u : RT} {Q : Bool → Sto → Prop} (h : wT t ρ S fun c S1 => (c = true → wT u ρ S1 Q) ∧ (c = false → Q false S1)) : wT (tAndD t u) ρ S Q := by
  obtain ⟨c, S1, e1, h1, h2⟩ := h
  cases c with
  | false => exact ⟨_, S1, by simp only [tAndD, e1], h2 rfl⟩
  | true => obtain ⟨z, S2, e2, q⟩ := h1 rfl; exact ⟨z, S2, by simp only [tAndD, e1, e2], q⟩
theorem wT_or {t u : RT} {Q : Bool → Sto → Prop} (h : wT t ρ S fun c S1 => (c = true → Q true S1) ∧ (c = false → wT u ρ S1 Q)) : wT (tOrD t u) ρ S Q := by
  obtain ⟨c, S1, e1, h1, h2⟩ := h
  cases c with
  | true => exact ⟨_, S1, by simp only [tOrD, e1], h1 rfl⟩
  | false => obtain ⟨z, S2, e2, q⟩ := h2 rfl; exact ⟨z, S2, by simp only [tOrD, e1, e2], q⟩
theorem wT_if {c t u : RT} {Q : Bool → Sto → Prop} (h : wT c ρ S fun d S1 => (d = true → wT t ρ S1 Q) ∧ (d = false → wT u ρ S1 Q)) : wT (tIfD c t u) ρ S Q := by
  obtain ⟨d, S1, e1, h1, h2⟩ := h
  cases d with
  | true =>
    obtain ⟨x, S2, e2, q⟩ := h1 rfl
    exact ⟨x, S2, by simp only [tIfD, e1]; exact e2, q⟩
  | false =>
    obtain ⟨x, S2, e2, q⟩ := h2 rfl
    exact ⟨x, S2, by simp only [tIfD, e1]; exact e2, q⟩
theorem wT_yes {Q : Bool → Sto → Prop} (h : Q true S) : wT tYesD ρ S Q := ⟨_, _, rfl, h⟩
theorem wE_bl {t : RT} (h : wT t ρ S fun c S1 => Q (.bl c) S1) : wE (eBl t) ρ S Q := by
  obtain ⟨x, S1, e1, q⟩ := h
  exact ⟨_, S1, by simp only [eBl, e1], q⟩
/-! values -/
theorem w1_eq {f : D → Sto → Option D} {z : D} {Q : D → Prop} (e : f x S = some z) (h : Q z) : w1 f x S Q := ⟨z, e, h⟩
theorem w2_eq {f : D → D → Sto → Option D} {z : D} {Q : D → Prop} (e : f x y S = some z) (h : Q z) : w2 f x y S Q := ⟨z, e, h⟩
theorem w2s_eq {f : D → D → Sto → Option (D × Sto)} {z : D} {S1 : Sto} (e : f x y S = some (z, S1)) (h : Q z S1) : w2s f x y S Q := ⟨z, S1, e, h⟩
theorem wM_eq {f : D → List D → Sto → Option (D × Sto)} {ds : List D} {z : D} {S1 : Sto} (e : f x ds S = some (z, S1)) (h : Q z S1) : wM f x ds S Q := ⟨z, S1, e, h⟩
theorem wTru_eq {Q : Bool → Prop} {c : Bool} (e : tru d S = some c) (h : Q c) : wTru d S Q := ⟨c, e, h⟩
theorem w2_add {m n : Int} {Q : D → Prop} (h : Q (.int (m + n))) : w2 fAdd (.int m) (.int n) S Q := ⟨_, rfl, h⟩
theorem w2_sub {m n : Int} {Q : D → Prop} (h : Q (.int (m - n))) : w2 fSub (.int m) (.int n) S Q := ⟨_, rfl, h⟩
theorem w2_mul {m n : Int} {Q : D → Prop} (hc : MulC m n) (h : Q (.int (m * n))) : w2 fMul (.int m) (.int n) S Q := ⟨_, if_pos hc, h⟩
theorem w2_div {m n : Int} {Q : D → Prop} (hc : L2.CDivW m n ∨ L2.CDivN m n) (h : Q (.int (m.fdiv n))) : w2 fDiv (.int m) (.int n) S Q := ⟨_, if_pos hc, h⟩
theorem w2_mod {m n : Int} {Q : D → Prop} (hc : n ≠ 0) (h : Q (.int (m.fmod n))) : w2 fMod (.int m) (.int n) S Q := ⟨_, if_pos hc, h⟩
theorem w2_cmp {p : Int → Int → Bool} {m n : Int} {Q : D → Prop} (h : Q (.bl (p m n))) : w2 (fCmp p) (.int m) (.int n) S Q := ⟨_, rfl, h⟩
theorem w2_eqI {m n : Int} {Q : D → Prop} (h : Q (.bl (decide (m = n)))) : w2 fEq (.int m) (.int n) S Q := ⟨_, fEq_int m n S, h⟩
theorem w2_neI {m n : Int} {Q : D → Prop} (h : Q (.bl (!decide (m = n)))) : w2 fNe (.int m) (.int n) S Q := ⟨_, fNe_int m n S, h⟩
theorem w2s_plusI {mk : List D → Sto → Option (D × Sto)} {m n : Int} (h : Q (.int (m + n)) S) : w2s (fPlus mk) (.int m) (.int n) S Q := ⟨_, _, rfl, h⟩
theorem w2s_timesI {mk : List D → Sto → Option (D × Sto)} {m n : Int} (hc : MulC m n) (h : Q (.int (m * n)) S) : w2s (fTimes mk) (.int m) (.int n) S Q := ⟨_, _, by simp only [fTimes, if_pos hc], h⟩
theorem w2s_plusT {mk : List D → Sto → Option (D × Sto)} {xs ys : List D} (hc : xs.length + ys.length ≤ 1000000) (h : Q (.tup (xs ++ ys)) S) : w2s (fPlus mk) (.tup xs) (.tup ys) S Q := ⟨_, _, by simp only [fPlus, fCatT, if_pos hc], h⟩
theorem w2s_plusL {mk : List D → Sto → Option (D × Sto)} {xs ys : List D} (hx : lstD x S = some xs) (hy : lstD y S = some ys) (h : wF mk (xs ++ ys) S Q) : w2s (fPlus mk) x y S Q := by
  obtain ⟨z, S1, e, q⟩ := h
  refine ⟨z, S1, ?_, q⟩
  cases x <;> simp_all [fPlus, fCatL, lstD]
theorem w2_ix {xs : List D} {m : Int} {z : D} {Q : D → Prop} (hs : seqD x S = some xs) (h : L2.atI xs m = some z) (q : Q z) : w2 fIx x (.int m) S Q := ⟨z, by simp only [fIx, hs, h], q⟩
theorem atI_nat {α : Type} {xs : List α} {i : Nat} {z : α} (h : xs[i]? = some z) : L2.atI xs (i : Int) = some z := by
  unfold L2.atI L2.ixN
  have := (List.getElem?_eq_some_iff.mp h).1
  rw [if_pos (Int.natCast_nonneg i), if_pos (by omega)]
  simpa using h
theorem atI_int {α : Type} {xs : List α} {m : Int} {z : α} (h0 : 0 ≤ m) (h : xs[m.toNat]? = some z) : L2.atI xs m = some z := by
  have := atI_nat h
  rwa [show ((m.toNat : Nat) : Int) = m by omega] at this
theorem wF_len {xs : List D} (hs : seqD d S = some xs) (q : Q (.int xs.length) S) : wF fLen [d] S Q := by
  refine ⟨_, _, ?_, q⟩
  cases d <;> simp_all [fLen, seqD]
theorem wF_tup {ds : List D} (h : ds.length ≤ 1000000) (q : Q (.tup ds) S) : wF fTup ds S Q := ⟨_, _, if_pos h, q⟩
theorem wF_lst {ds : List D} (h : ds.length ≤ 1000000) (q : Q (.lst ds) S) : wF fLst ds S Q := ⟨_, _, if_pos h, q⟩
theorem wF_obj {ds : List D} (h : ds.length ≤ 1000000) (q : Q (.obj S.length) (S ++ [.lst ds])) : wF fObj ds S Q := ⟨_, _, if_pos h, q⟩
theorem wF_abs {m : Int} (q : Q (.int (m.natAbs : Int)) S) : wF fAbs [.int m] S Q := by
  refine ⟨_, _, ?_, q⟩
  simp only [fAbs]
  congr 3
  split <;> omega
theorem wF_int {m : Int} (q : Q (.int m) S) : wF fInt1 [.int m] S Q := ⟨_, _, rfl, q⟩
theorem wF_intB {m : Bool} (q : Q (.int (if m then 1 else 0)) S) : wF fInt1 [.bl m] S Q := ⟨_, _, rfl, q⟩
theorem wF_listF {xs : List D} (hs : seqD d S = some xs) (q : Q (.lst xs) S) : wF fListF [d] S Q := ⟨_, _, by simp only [fListF, hs], q⟩
theorem wF_listO {xs : List D} (hs : seqD d S = some xs) (q : Q (.obj S.length) (S ++ [.lst xs])) : wF fListO [d] S Q := ⟨_, _, by simp only [fListO, hs], q⟩
theorem wF_tupOf {xs : List D} (hs : seqD d S = some xs) (q : Q (.tup xs) S) : wF fTupOf [d] S Q := ⟨_, _, by simp only [fTupOf, hs], q⟩
theorem intsD_ok : ∀ ns : List Int, intsD (ns.map D.int) = some ns
  | [] => rfl
  | i :: r => by simp only [List.map_cons, intsD, intsD_ok r]
theorem wF_sum {ns : List Int} (hs : seqD d S = some (ns.map D.int)) (q : Q (.int ns.sum) S) : wF fSum [d] S Q := ⟨_, _, by simp only [fSum, hs, intsD_ok], q⟩
theorem wF_max2 {m n : Int} (q : Q (.int (max m n)) S) : wF fMax2 [.int m, .int n] S Q := by
  refine ⟨_, _, ?_, q⟩
  simp only [fMax2]
  congr 3
  split <;> omega
theorem wF_min2 {m n : Int} (q : Q (.int (min m n)) S) : wF fMin2 [.int m, .int n] S Q := by
  refine ⟨_, _, ?_, q⟩
  simp only [fMin2]
  congr 3
  split <;> omega
/-! methods of lists -/
theorem wM_append {ys : List D} (hk : S[k]? = some (.lst ys)) (hl : ys.length < 1000000) (q : Q .non (S.set k (.lst (ys ++ [y])))) : wM fAppend (.obj k) [y] S Q := ⟨_, _, by simp only [fAppend, hk, if_pos hl], q⟩
theorem wM_popAt {ys : List D} {m : Nat} (hk : S[k]? = some (.lst ys)) (hy : ys[m]? = some y) (hm : m ≤ 1000000) (q : Q y (S.set k (.lst (ys.eraseIdx m)))) : wM fPopAt (.obj k) [.int (m : Int)] S Q := by
  refine ⟨_, _, ?_, q⟩
  have hl := (List.getElem?_eq_some_iff.mp hy).1
  have : seqIndex? (m : Int) ys.length = some m := by
    unfold seqIndex?
    simp
    omega
  simp only [fPopAt, hk, this, hy]
  rw [if_pos (by omega)]
/-! statements -/
theorem wS_pass (h : N ρ S) : wS sPass ρ S N K := ⟨_, rfl, h⟩
theorem wS_break (h : K.bk ρ S) : wS sBreak ρ S N K := ⟨_, rfl, h⟩
theorem wS_cont (h : K.ct ρ S) : wS sCont ρ S N K := ⟨_, rfl, h⟩
theorem wS_seq {s t : RS} (h : wS s ρ S (fun ρ1 S1 => wS t ρ1 S1 N K) K) : wS (sSeq s t) ρ S N K := by
  obtain ⟨o, e, q⟩ := h
  cases o with
  | nx ρ1 S1 =>
    obtain ⟨o2, e2, q2⟩ := q
    exact ⟨o2, by simp only [sSeq, e, e2], q2⟩
  | rt d S1 => exact wS_rt (by simp only [sSeq, e]) q
  | bk d S1 => exact wS_bk (by simp only [sSeq, e]) q
  | ct d S1 => exact wS_ct (by simp only [sSeq, e]) q
theorem wS_set (h : wE e ρ S fun d S1 => N (ρ.set i (some d)) S1) : wS (sSet i e) ρ S N K := by
  obtain ⟨d, S1, e1, q⟩ := h
  exact wS_eq (by simp only [sSet, e1]) q
theorem wS_expr (h : wE e ρ S fun _ S1 => N ρ S1) : wS (sExpr e) ρ S N K := by
  obtain ⟨d, S1, e1, q⟩ := h
  exact wS_eq (by simp only [sExpr, e1]) q
theorem wS_ret (h : wE e ρ S K.rt) : wS (sRet e) ρ S N K := by
  obtain ⟨d, S1, e1, q⟩ := h
  exact wS_rt (by simp only [sRet, e1]) q
theorem wS_retN (h : K.rt .non S) : wS sRetN ρ S N K := ⟨_, rfl, h⟩
theorem wS_if {t : RT} {s u : RS} (h : wT t ρ S fun c S1 => (c = true → wS s ρ S1 N K) ∧ (c = false → wS u ρ S1 N K)) : wS (sIf t s u) ρ S N K := by
  obtain ⟨c, S1, e1, h1, h2⟩ := h
  cases c with
  | false => obtain ⟨z, e2, q⟩ := h2 rfl; exact ⟨z, by simp only [sIf, e1, e2], q⟩
  | true => obtain ⟨z, e2, q⟩ := h1 rfl; exact ⟨z, by simp only [sIf, e1, e2], q⟩
theorem wS_asg {g : RG} (h : wE e ρ S fun d S1 => wG g d ρ S1 N) : wS (sAsg e g) ρ S N K := by
  obtain ⟨d, S1, e1, ρ2, S2, e2, q⟩ := h
  exact wS_eq (by simp only [sAsg, e1, e2]) q
theorem wG_nm (h : N (ρ.set i (some d)) S) : wG (gNm i) d ρ S N := ⟨_, _, rfl, h⟩
theorem wG_tp {g : RGs} {n : Nat} {ds : List D} (hl : ds.length = n) (h : wGs g ds ρ S N) : wG (gTp n g) (.tup ds) ρ S N := by
  obtain ⟨ρ2, S2, e2, q⟩ := h
  exact ⟨_, _, by simp only [gTp, if_pos hl, e2], q⟩
theorem wG_tpL {g : RGs} {n : Nat} {ds : List D} (hl : ds.length = n) (h : wGs g ds ρ S N) : wG (gTp n g) (.lst ds) ρ S N := by
  obtain ⟨ρ2, S2, e2, q⟩ := h
  exact ⟨_, _, by simp only [gTp, if_pos hl, e2], q⟩
theorem wGs_nil (h : N ρ S) : wGs gsNil [] ρ S N := ⟨_, _, rfl, h⟩
theorem wGs_cons {g : RG} {gs : RGs} {ds : List D} (h : wG g d ρ S fun ρ1 S1 => wGs gs ds ρ1 S1 N) : wGs (gsCons g gs) (d :: ds) ρ S N := by
  obtain ⟨ρ1, S1, e1, ρ2, S2, e2, q⟩ := h
  exact ⟨_, _, by simp only [gsCons, e1, e2], q⟩
theorem wS_par {ra : RA} (h : wA ra ρ S fun ds S1 => ∃ x y, ds = [x, y] ∧ N ((ρ.set i (some x)).set j (some y)) S1) : wS (sPar i j ra) ρ S N K := by
  obtain ⟨d, S1, e1, x, y, rfl, q⟩ := h
  exact wS_eq (by simp only [sPar, e1]) q
theorem wS_par3 {ra : RA} (h : wA ra ρ S fun ds S1 => ∃ x y z, ds = [x, y, z] ∧ N (((ρ.set i (some x)).set j (some y)).set k (some z)) S1) : wS (sPar3 i j k ra) ρ S N K := by
  obtain ⟨d, S1, e1, x, y, z, rfl, q⟩ := h
  exact wS_eq (by simp only [sPar3, e1]) q
theorem wS_aug {f : D → D → Sto → Option D} (hx : ρ[i]? = some (some x)) (h : wE e ρ S fun y S1 => w2 f x y S1 fun z => N (ρ.set i (some z)) S1) : wS (sAug i f e) ρ S N K := by
  obtain ⟨y, S1, e1, z, e2, q⟩ := h
  exact wS_eq (by simp only [sAug, hx, e1, e2]) q
/-- o[i] = d -/
theorem wG_ix {m : Int} {j : Nat} {ys : List D} (h : wE o ρ S fun x S1 => x = .obj k ∧ wE e ρ S1 fun z S2 => z = .int m ∧ S2[k]? = some (.lst ys) ∧ L2.ixN ys.length m = some j ∧ N ρ (S2.set k (.lst (ys.set j d)))) : wG (gIx o e) d ρ S N := by
  obtain ⟨x, S1, e1, rfl, z, S2, e2, rfl, h1, h2, q⟩ := h
  exact ⟨ρ, _, by simp only [gIx, e1, e2, h1, h2], q⟩
/-! walked things -/
theorem iSeq_seqC {S1 : Sto} {xs : List D} {chk : Sto → Prop} (e1 : a ρ S = some (d, S1)) (e2 : seqC d S1 = some (xs, chk)) : iSeq a ρ S = some (xs, chk, S1) := by
  simp only [iSeq, e1]
  cases d with
  | obj k =>
    simp only [seqC] at e2 ⊢
    cases hk : S1[k]? with
    | none => rw [hk] at e2; cases e2
    | some c => rw [hk] at e2; cases c <;> first | (cases e2; rfl) | cases e2
  | tup xs => cases e2; rfl
  | lst xs => cases e2; rfl
  | scr xs => cases e2; rfl
  | non => cases e2
  | bl _ => cases e2
  | int _ => cases e2
  | str _ => cases e2
theorem wI_seq {Q : List D → (Sto → Prop) → Sto → Prop} (h : wE a ρ S fun d S1 => ∃ xs chk, seqC d S1 = some (xs, chk) ∧ Q xs chk S1) : wI (iSeq a) ρ S Q := by
  obtain ⟨d, S1, e1, xs, chk, e2, q⟩ := h
  exact ⟨xs, chk, S1, iSeq_seqC e1 e2, q⟩
theorem rangeD_nat (n : Nat) : rangeD 0 n = (List.range n).map fun i : Nat => D.int (i : Int) := by
  unfold rangeD
  congr 1
  funext i
  rw [Int.zero_add]
theorem wI_range {n : Nat} {Q : List D → (Sto → Prop) → Sto → Prop} (h : wE a ρ S fun d S1 => d = .int (n : Int) ∧ n ≤ 1000000 ∧ Q ((List.range n).map fun i : Nat => D.int (i : Int)) (fun _ => True) S1) : wI (iRange1 a) ρ S Q := by
  obtain ⟨d, S1, e1, rfl, hn, q⟩ := h
  refine ⟨_, _, S1, ?_, q⟩
  simp only [iRange1, e1]
  rw [if_pos (by omega), Int.toNat_natCast, rangeD_nat]
theorem wI_range2 {m n : Nat} {Q : List D → (Sto → Prop) → Sto → Prop} (h : wE a ρ S fun d S1 => d = .int (m : Int) ∧ wE b ρ S1 fun d S2 => d = .int (n : Int) ∧ m ≤ 1000000 ∧ n ≤ 1000000 ∧ Q ((List.range (n - m)).map fun i : Nat => D.int ((m + i : Nat) : Int)) (fun _ => True) S2) : wI (iRange2 a b) ρ S Q := by
  obtain ⟨d, S1, e1, rfl, d, S2, e2, rfl, hm, hn, q⟩ := h
  refine ⟨_, _, S2, ?_, q⟩
  simp only [iRange2, e1, e2]
  rw [if_pos (by omega)]
  have : ((n : Int) - (m : Int)).toNat = n - m := by omega
  rw [this]
  unfold rangeD
  congr 2
theorem pairsZ_map {α β : Type} (f : α → D) (g : β → D) (xs : List α) (ys : List β) : pairsZ (xs.map f) (ys.map g) = (xs.zip ys).map fun p => .tup [f p.1, g p.2] := by
  unfold pairsZ
  rw [List.zip_map, List.map_map]
  rfl
theorem wI_zip {α β : Type} {f : α → D} {g : β → D} {us : List α} {vs : List β} {c1 c2 : Sto → Prop} {Q : List D → (Sto → Prop) → Sto → Prop} (h : wE a ρ S fun d S1 => wE b ρ S1 fun d' S2 => seqC d S2 = some (us.map f, c1) ∧ seqC d' S2 = some (vs.map g, c2) ∧ Q ((us.zip vs).map fun p => .tup [f p.1, g p.2]) (fun S => c1 S ∧ c2 S) S2) : wI (iZip (aCons a (aCons b aNil))) ρ S Q := by
  obtain ⟨d, S1, e1, d', S2, e2, h1, h2, q⟩ := h
  refine ⟨_, _, S2, ?_, q⟩
  simp only [iZip, aCons, aNil, e1, e2, h1, h2, pairsZ_map]
theorem pairsE_map {α : Type} (f : α → D) (xs : List α) : pairsE (xs.map f) = xs.zipIdx.map fun p => .tup [.int (p.2 : Int), f p.1] := by
  unfold pairsE
  apply List.ext_getElem
  · simp
  · intro i h1 h2
    simp
theorem wI_enum {α : Type} {f : α → D} {us : List α} {c1 : Sto → Prop} {Q : List D → (Sto → Prop) → Sto → Prop} (h : wE a ρ S fun d S1 => seqC d S1 = some (us.map f, c1) ∧ Q (us.zipIdx.map fun p => .tup [.int (p.2 : Int), f p.1]) c1 S1) : wI (iEnum (aCons a aNil)) ρ S Q := by
  obtain ⟨d, S1, e1, h1, q⟩ := h
  refine ⟨_, _, S1, ?_, q⟩
  simp only [iEnum, aCons, aNil, e1, h1, pairsE_map]
/-! loops -/
theorem forL_w {g : RG} {b : RS} {chk : Sto → Prop} (I : Nat → En → Sto → Prop) : ∀ (ds : List D) (k0 : Nat) (ρ : En) (S : Sto), I k0 ρ S →
    (∀ k d ρ S, ds[k]? = some d → I (k0 + k) ρ S → wG g d ρ S fun ρ1 S1 => wS b ρ1 S1 (fun ρ2 S2 => chk S2 ∧ I (k0 + k + 1) ρ2 S2) ⟨K.rt, N, fun ρ2 S2 => chk S2 ∧ I (k0 + k + 1) ρ2 S2⟩) →
    (∀ ρ S, I (k0 + ds.length) ρ S → N ρ S) → ∃ o, forL g b chk ds ρ S = some o ∧ outK N K o
  | [], k0, ρ, S, h, _, hn => ⟨_, rfl, hn ρ S h⟩
  | d :: ds, k0, ρ, S, h, hs, hn => by
    obtain ⟨ρ1, S1, h1, o, h2, q⟩ := hs 0 d ρ S rfl h
    have nxt : ∀ ρ2 S2, I (k0 + 1) ρ2 S2 → ∃ o, forL g b chk ds ρ2 S2 = some o ∧ outK N K o := fun ρ2 S2 h4 => by
      refine forL_w (g := g) (b := b) (chk := chk) I ds (k0 + 1) ρ2 S2 h4 (fun k d ρ S hk hi => ?_) fun ρ S hi => hn ρ S (by rw [List.length_cons, show k0 + (ds.length + 1) = k0 + 1 + ds.length by omega]; exact hi)
      have q := hs (k + 1) d ρ S hk (by rw [show k0 + (k + 1) = k0 + 1 + k by omega]; exact hi)
      rw [show k0 + (k + 1) + 1 = k0 + 1 + k + 1 by omega] at q
      exact q
    unfold forL
    simp only [h1, h2]
    cases o with
    | nx ρ2 S2 => simp only; rw [if_pos q.1]; exact nxt ρ2 S2 q.2
    | ct ρ2 S2 => simp only; rw [if_pos q.1]; exact nxt ρ2 S2 q.2
    | bk ρ2 S2 => exact ⟨_, rfl, q⟩
    | rt d S2 => exact ⟨_, rfl, q⟩
theorem wS_for {α : Type} {it : RI} {g : RG} {b : RS} (I : Nat → En → Sto → Prop) (h : wI it ρ S fun ds chk S1 => ∃ (xs : List α) (f : α → D), ds = xs.map f ∧ I 0 ρ S1 ∧
    (∀ k x ρ S, xs[k]? = some x → I k ρ S → wG g (f x) ρ S fun ρ1 S1 => wS b ρ1 S1 (fun ρ2 S2 => chk S2 ∧ I (k + 1) ρ2 S2) ⟨K.rt, N, fun ρ2 S2 => chk S2 ∧ I (k + 1) ρ2 S2⟩) ∧
    ∀ ρ S, I xs.length ρ S → N ρ S) : wS (sFor it g b) ρ S N K := by
  obtain ⟨ds, chk, S1, e1, xs, f, rfl, h0, hs, hn⟩ := h
  obtain ⟨o, e, q⟩ := forL_w (g := g) (b := b) (chk := chk) (K := K) (N := N) I (xs.map f) 0 ρ S1 h0 (fun k d ρ S hk hi => by
    rw [List.getElem?_map] at hk
    obtain ⟨x, hx, rfl⟩ := Option.map_eq_some_iff.mp hk
    rw [Nat.zero_add] at hi ⊢
    exact hs k x ρ S hx hi) (fun ρ S hi => hn ρ S (by simpa using hi))
  exact ⟨o, by simp only [sFor, e1, e], q⟩
/-- .. by the part that is taken -/
theorem wS_forP {α : Type} {it : RI} {g : RG} {b : RS} (I : List α → En → Sto → Prop) (h : wI it ρ S fun ds chk S1 => ∃ (xs : List α) (f : α → D), ds = xs.map f ∧ I [] ρ S1 ∧
    (∀ pre x post ρ S, xs = pre ++ x :: post → I pre ρ S → wG g (f x) ρ S fun ρ1 S1 => wS b ρ1 S1 (fun ρ2 S2 => chk S2 ∧ I (pre ++ [x]) ρ2 S2) ⟨K.rt, N, fun ρ2 S2 => chk S2 ∧ I (pre ++ [x]) ρ2 S2⟩) ∧
    ∀ ρ S, I xs ρ S → N ρ S) : wS (sFor it g b) ρ S N K := by
  obtain ⟨ds, chk, S1, e1, xs, f, hd, h0, hs, hn⟩ := h
  refine wS_for (α := α) (fun k ρ S => I (xs.take k) ρ S) ⟨ds, chk, S1, e1, xs, f, hd, h0, fun k x ρ S hk hi => ?_, fun ρ S hi => hn ρ S (by simpa using hi)⟩
  have e : xs = xs.take k ++ x :: xs.drop (k + 1) := by
    have hl := (List.getElem?_eq_some_iff.mp hk).1
    have hx := (List.getElem?_eq_some_iff.mp hk).2
    rw [← hx, List.getElem_cons_drop, List.take_append_drop]
  have e2 : xs.take (k + 1) = xs.take k ++ [x] := by
    rw [List.take_add_one, hk]
    rfl
  have := hs (xs.take k) x (xs.drop (k + 1)) ρ S e hi
  rw [e2]
  exact this
/-! comprehensions -/
theorem compL_w {α : Type} {g : RG} {c : RT} {e : RE} {chk : Sto → Prop} {f : α → D} {p : α → Bool} {r : α → D} {S : Sto} (hc : chk S) : ∀ xs : List α, (∀ x ∈ xs, wG g (f x) ρ S fun ρ1 S1 => S1 = S ∧ wT c ρ1 S fun b S2 => b = p x ∧ S2 = S ∧ (p x = true → wE e ρ1 S fun y S3 => y = r x ∧ S3 = S)) →
    compL g c e chk ρ (xs.map f) S = some ((xs.filter p).map r, S)
  | [], _ => rfl
  | x :: xs, hx => by
    have ih := compL_w (g := g) (c := c) (e := e) (f := f) (p := p) (r := r) hc xs fun y hy => hx y (List.mem_cons_of_mem _ hy)
    obtain ⟨ρ1, S1, h1, rfl, b, S2, h2, rfl, rfl, h3⟩ := hx x List.mem_cons_self
    rw [List.map_cons, List.filter_cons]
    unfold compL
    simp only [h1, h2]
    cases hp : p x with
    | true =>
      obtain ⟨y, S3, h4, rfl, rfl⟩ := h3 hp
      simp only [h4, if_pos hc, ih, if_true, List.map_cons]
    | false =>
      simp only [if_pos hc, ih]
      simp
theorem wE_lcF {α : Type} {mk : List D → Sto → Option (D × Sto)} {it : RI} {g : RG} {c : RT} {vs : List Nat} (h : wI it ρ S fun ds chk S1 => ∃ (xs : List α) (f : α → D) (p : α → Bool) (r : α → D), ds = xs.map f ∧ chk S1 ∧
    (∀ x ∈ xs, wG g (f x) (wipeD ρ vs) S1 fun ρ1 S2 => S2 = S1 ∧ wT c ρ1 S1 fun b S2 => b = p x ∧ S2 = S1 ∧ (p x = true → wE e ρ1 S1 fun y S3 => y = r x ∧ S3 = S1)) ∧ wF mk ((xs.filter p).map r) S1 Q) : wE (eLc mk it g c e vs) ρ S Q := by
  obtain ⟨ds, chk, S1, e1, xs, f, p, r, rfl, hc, hx, z, S2, e2, q⟩ := h
  exact ⟨z, S2, by simp only [eLc, e1, compL_w hc xs hx, e2], q⟩
theorem wE_lc {α : Type} {mk : List D → Sto → Option (D × Sto)} {it : RI} {g : RG} {vs : List Nat} (h : wI it ρ S fun ds chk S1 => ∃ (xs : List α) (f : α → D) (r : α → D), ds = xs.map f ∧ chk S1 ∧
    (∀ x ∈ xs, wG g (f x) (wipeD ρ vs) S1 fun ρ1 S2 => S2 = S1 ∧ wE e ρ1 S1 fun y S3 => y = r x ∧ S3 = S1) ∧ wF mk (xs.map r) S1 Q) : wE (eLc mk it g tYesD e vs) ρ S Q := by
  obtain ⟨ds, chk, S1, e1, xs, f, r, rfl, hc, hx, q⟩ := h
  refine wE_lcF (α := α) ⟨_, chk, S1, e1, xs, f, fun _ => true, r, rfl, hc, fun x hm => ?_, by rw [List.filter_eq_self.mpr fun _ _ => rfl]; exact q⟩
  obtain ⟨ρ1, S2, h1, h2, h3⟩ := hx x hm
  exact ⟨ρ1, S2, h1, h2, true, S1, rfl, rfl, rfl, fun _ => h3⟩
/-- .. whose items change the store -/
theorem compL_wI {α β : Type} {g : RG} {e : RE} {chk : Sto → Prop} {f : α → D} {r : β → D} (I : Nat → Sto → Prop) (P : Nat → β → Prop) : ∀ (xs : List α) (k0 : Nat) (S : Sto), I k0 S →
    (∀ k x S, xs[k]? = some x → I (k0 + k) S → wG g (f x) ρ S fun ρ1 S1 => wE e ρ1 S1 fun y S2 => ∃ z, y = r z ∧ P (k0 + k) z ∧ chk S2 ∧ I (k0 + k + 1) S2) →
    ∃ (zs : List β) (S' : Sto), compL g tYesD e chk ρ (xs.map f) S = some (zs.map r, S') ∧ I (k0 + xs.length) S' ∧ zs.length = xs.length ∧ ∀ k z, zs[k]? = some z → P (k0 + k) z
  | [], k0, S, h, _ => ⟨[], S, rfl, h, rfl, fun k y hk => by simp at hk⟩
  | x :: xs, k0, S, h, hs => by
    obtain ⟨ρ1, S1, h1, y, S2, h2, z, rfl, hz, hc, hi⟩ := hs 0 x S rfl h
    obtain ⟨zs, S', h5, h6, h7, h8⟩ := compL_wI (g := g) (e := e) (chk := chk) (f := f) (r := r) I P xs (k0 + 1) S2 hi fun k x S hk hi => by
      have q := hs (k + 1) x S hk (by rw [show k0 + (k + 1) = k0 + 1 + k by omega]; exact hi)
      rw [show k0 + (k + 1) = k0 + 1 + k by omega] at q
      exact q
    refine ⟨z :: zs, S', ?_, by rw [List.length_cons, show k0 + (xs.length + 1) = k0 + 1 + xs.length by omega]; exact h6, by rw [List.length_cons, List.length_cons, h7], fun k w hk => ?_⟩
    · rw [List.map_cons, List.map_cons]
      unfold compL
      simp only [h1, tYesD, h2, if_pos hc, h5]
    · cases k with
      | zero => simp at hk; rw [← hk]; exact hz
      | succ k =>
        have q := h8 k w (by simpa using hk)
        rw [show k0 + (k + 1) = k0 + 1 + k by omega]
        exact q
theorem wE_lcI {α β : Type} {mk : List D → Sto → Option (D × Sto)} {it : RI} {g : RG} {vs : List Nat} (I : Nat → Sto → Prop) (r : β → D) (P : Nat → β → Prop) (h : wI it ρ S fun ds chk S1 => ∃ (xs : List α) (f : α → D), ds = xs.map f ∧ I 0 S1 ∧
    (∀ k x S, xs[k]? = some x → I k S → wG g (f x) (wipeD ρ vs) S fun ρ1 S1 => wE e ρ1 S1 fun y S2 => ∃ z, y = r z ∧ P k z ∧ chk S2 ∧ I (k + 1) S2) ∧
    ∀ (zs : List β) S', I xs.length S' → zs.length = xs.length → (∀ k z, zs[k]? = some z → P k z) → wF mk (zs.map r) S' Q) : wE (eLc mk it g tYesD e vs) ρ S Q := by
  obtain ⟨ds, chk, S1, e1, xs, f, rfl, h0, hs, hq⟩ := h
  obtain ⟨zs, S', e2, hi, hl, hp⟩ := compL_wI (ρ := wipeD ρ vs) (g := g) (e := e) (chk := chk) (f := f) (r := r) I P xs 0 S1 h0 fun k x S hk hi => by
    rw [Nat.zero_add] at hi ⊢
    exact hs k x S hk hi
  rw [Nat.zero_add] at hi
  obtain ⟨z, S2, e3, q⟩ := hq zs S' hi hl fun k z hz => by simpa using hp k z hz
  exact ⟨z, S2, by simp only [eLc, e1, e2, e3], q⟩
/-- two fors -/
theorem compL2_w {α β : Type} {g g1 : RG} {c c1 : RT} {it1 : RI} {e : RE} {vs1 : List Nat} {chk : Sto → Prop} {f : α → D} {r : α → List D} {S : Sto} (hc : chk S) : ∀ xs : List α, (∀ x ∈ xs, wG g (f x) ρ S fun ρ1 S1 => S1 = S ∧ wT c ρ1 S fun b S2 => b = true ∧ S2 = S ∧ wI it1 ρ1 S fun ds1 chk1 S3 => S3 = S ∧ compL g1 c1 e chk1 (wipeD ρ1 vs1) ds1 S = some (r x, S)) →
    compL2 g c it1 g1 c1 e vs1 chk ρ (xs.map f) S = some ((xs.map r).flatten, S)
  | [], _ => rfl
  | x :: xs, hx => by
    have ih := compL2_w (α := α) (β := β) (g := g) (c := c) (e := e) (f := f) (r := r) hc xs fun y hy => hx y (List.mem_cons_of_mem _ hy)
    obtain ⟨ρ1, S1, h1, rfl, b, S2, h2, rfl, rfl, ds1, chk1, S3, h3, rfl, h4⟩ := hx x List.mem_cons_self
    rw [List.map_cons, List.map_cons, List.flatten_cons]
    unfold compL2
    simp only [h1, h2, h3, h4, if_pos hc, ih]
theorem wE_lc2 {α : Type} {β : Type} {mk : List D → Sto → Option (D × Sto)} {it it1 : RI} {g g1 : RG} {vs vs1 : List Nat} (h : wI it ρ S fun ds chk S1 => ∃ (xs : List α) (f : α → D) (ys : α → List β) (r : α → β → D), ds = xs.map f ∧ chk S1 ∧
    (∀ x ∈ xs, wG g (f x) (wipeD ρ vs) S1 fun ρ1 S2 => S2 = S1 ∧ wI it1 ρ1 S1 fun ds1 chk1 S3 => S3 = S1 ∧ ∃ f1 : β → D, ds1 = (ys x).map f1 ∧ chk1 S1 ∧ ∀ y ∈ ys x, wG g1 (f1 y) (wipeD ρ1 vs1) S1 fun ρ2 S4 => S4 = S1 ∧ wE e ρ2 S1 fun d S5 => d = r x y ∧ S5 = S1) ∧
    wF mk ((xs.map fun x => (ys x).map (r x)).flatten) S1 Q) : wE (eLc2 mk it g tYesD it1 g1 tYesD e vs vs1) ρ S Q := by
  obtain ⟨ds, chk, S1, e1, xs, f, ys, r, rfl, hc, hx, z, S2, e2, q⟩ := h
  refine ⟨z, S2, ?_, q⟩
  have := compL2_w (β := β) (ρ := wipeD ρ vs) (g := g) (c := tYesD) (it1 := it1) (g1 := g1) (c1 := tYesD) (e := e) (vs1 := vs1) (chk := chk) (f := f) (r := fun x => (ys x).map (r x)) hc xs fun x hm => by
    obtain ⟨ρ1, S2, h1, rfl, ds1, chk1, S3, h3, rfl, f1, rfl, hc1, hy⟩ := hx x hm
    refine ⟨ρ1, S3, h1, rfl, true, S3, rfl, rfl, rfl, _, chk1, S3, h3, rfl, ?_⟩
    have := compL_w (ρ := wipeD ρ1 vs1) (g := g1) (c := tYesD) (e := e) (f := f1) (p := fun _ => true) (r := r x) hc1 (ys x) fun y hm => by
      obtain ⟨ρ2, S4, h5, h6, h7⟩ := hy y hm
      exact ⟨ρ2, S4, h5, h6, true, S3, rfl, rfl, rfl, fun _ => h7⟩
    rw [List.filter_eq_self.mpr fun _ _ => rfl] at this
    exact this
  simp only [eLc2, e1, this, e2]
/-- all(..), any(..) over what stays -/
theorem quantL_w {α : Type} {stop : Bool} {g : RG} {e : RE} {chk : Sto → Prop} {f : α → D} {p : α → Bool} {S : Sto} (hc : chk S) : ∀ xs : List α, (∀ x ∈ xs, (∀ y ∈ xs.takeWhile fun y => p y != stop, p y ≠ stop) → wG g (f x) ρ S fun ρ1 S1 => S1 = S ∧ wE e ρ1 S fun y S3 => y = .bl (p x) ∧ S3 = S) →
    quantL stop g tYesD e chk ρ (xs.map f) S = some ((if xs.any (fun x => p x == stop) then stop else !stop), S)
  | [], _ => by simp [quantL]
  | x :: xs, hx => by
    have hq : ∀ ys : List α, ∀ y ∈ ys.takeWhile fun y => p y != stop, p y ≠ stop := fun ys y hy => by
      have := List.all_takeWhile (l := ys) (p := fun y => p y != stop)
      rw [List.all_eq_true] at this
      simpa using this y hy
    have ih := quantL_w (stop := stop) (g := g) (e := e) (f := f) (p := p) hc xs fun y hy _ => hx y (List.mem_cons_of_mem _ hy) (hq _)
    obtain ⟨ρ1, S1, h1, rfl, y, S3, h4, rfl, rfl⟩ := hx x List.mem_cons_self (hq _)
    rw [List.map_cons]
    unfold quantL
    simp only [h1, tYesD, h4, if_pos hc, ih, List.any_cons]
    by_cases hp : p x = stop
    · simp [hp]
    · have : (p x == stop) = false := by simpa using hp
      simp [hp]
theorem wT_gen {α : Type} {stop : Bool} {it : RI} {g : RG} {vs : List Nat} {Q : Bool → Sto → Prop} (h : wI it ρ S fun ds chk S1 => ∃ (xs : List α) (f : α → D) (p : α → Bool), ds = xs.map f ∧ chk S1 ∧
    (∀ x ∈ xs, wG g (f x) (wipeD ρ vs) S1 fun ρ1 S2 => S2 = S1 ∧ wE e ρ1 S1 fun y S3 => y = .bl (p x) ∧ S3 = S1) ∧ Q (if xs.any (fun x => p x == stop) then stop else !stop) S1) : wT (tGenQ stop it g tYesD e vs) ρ S Q := by
  obtain ⟨ds, chk, S1, e1, xs, f, p, rfl, hc, hx, q⟩ := h
  exact ⟨_, S1, by simp only [tGenQ, e1, quantL_w hc xs fun x hm _ => hx x hm], q⟩
/-! defs -/
theorem wF_fn {n m : Nat} {fin : D → Sto → Sto → Option (D × Sto)} {t : RS} {ds : List D} (hl : ds.length = n) (h : wS t (startD m ds) S (fun _ S1 => wFin fin .non S S1 Q) ⟨fun d S1 => wFin fin d S S1 Q, fun _ _ => False, fun _ _ => False⟩) : wF (fnD n m fin t) ds S Q := by
  obtain ⟨o, e, q⟩ := h
  cases o with
  | nx ρ1 S1 => obtain ⟨d, S2, h, q⟩ := q; exact ⟨d, S2, by simp only [fnD, if_pos hl, e, h], q⟩
  | rt d S1 => obtain ⟨d, S2, h, q⟩ := q; exact ⟨d, S2, by simp only [fnD, if_pos hl, e, h], q⟩
  | bk ρ1 S1 => exact q.elim
  | ct ρ1 S1 => exact q.elim
theorem wFin_P {T : Sto} (hc : clos S.length d = true) (ho : isObj d = false) (q : Q d S) : wFin finP d S (S ++ T) Q := ⟨d, S, finP_drop hc ho, q⟩
theorem wFin_P0 (hc : clos S.length d = true) (ho : isObj d = false) (q : Q d S) : wFin finP d S S Q := ⟨d, S, finP_self hc ho, q⟩
theorem wFin_K {S1 : Sto} (q : Q d S1) : wFin finK d S S1 Q := ⟨_, _, rfl, q⟩
/-- a list of the def's own is handed back -/
theorem wFin_PO {T : Sto} {xs : List D} (hk : S.length ≤ k) (hx : (S ++ T)[k]? = some (.lst xs)) (hc : closL S.length xs = true) (q : Q (.lst xs) S) : wFin finP (.obj k) S (S ++ T) Q := by
  refine ⟨.lst xs, S, ?_, q⟩
  unfold finP frzD
  simp only
  rw [if_neg (by omega), hx]
  simp only [hc, if_true, List.take_left']
end
end DL

set_option maxRecDepth 100000
set_option maxHeartbeats 4000000
/-! rows by their places -/
namespace DL
open PySem
open Classical
def rg {α : Type} (m : Nat) (f : Nat → α) : List α := (List.range m).map f
section
variable {α β : Type} {m n i : Nat} {f g : Nat → α}
@[simp] theorem rg_len : (rg m f).length = m := by simp [rg]
theorem rg_at (h : i < m) : (rg m f)[i]? = some (f i) := by simp [rg, h]
theorem rg_out (h : m ≤ i) : (rg m f)[i]? = none := by simp [rg, h]
theorem rg_congr (h : ∀ i, i < m → f i = g i) : rg m f = rg m g := by
  unfold rg
  exact List.map_congr_left fun i hi => h i (List.mem_range.mp hi)
theorem rg_zero : rg 0 f = [] := rfl
theorem rg_succ : rg (m + 1) f = rg m f ++ [f m] := by
  unfold rg
  rw [List.range_succ, List.map_append]
  rfl
theorem rg_cons : rg (m + 1) f = f 0 :: rg m fun i => f (i + 1) := by
  unfold rg
  rw [List.range_succ_eq_map, List.map_cons, List.map_map]
  rfl
theorem rg_map (k : α → β) : (rg m f).map k = rg m fun i => k (f i) := by
  unfold rg
  rw [List.map_map]
  rfl
theorem rg_mem {x : α} : x ∈ rg m f ↔ ∃ i, i < m ∧ f i = x := by
  unfold rg
  simp
theorem rg_of [Inhabited α] (xs : List α) : xs = rg xs.length fun i => xs.getD i default := by
  apply List.ext_getElem
  · simp
  · intro i h1 h2
    simp [rg, h1]
theorem rg_app {f' : Nat → α} : rg m f ++ rg n f' = rg (m + n) fun i => if i < m then f i else f' (i - m) := by
  apply List.ext_getElem?
  intro i
  rw [List.getElem?_append, rg_len]
  split
  · rename_i h
    rw [rg_at h, rg_at (by omega), if_pos h]
  · rename_i h
    by_cases h2 : i - m < n
    · rw [rg_at h2, rg_at (by omega), if_neg h]
    · rw [rg_out (by omega), rg_out (by omega)]
theorem rg_flat {h : Nat → Nat → α} : ∀ m : Nat, (rg m fun i => rg n (h i)).flatten = rg (m * n) fun k => h (k / n) (k % n)
  | 0 => by simp [rg]
  | m + 1 => by
    rw [rg_succ, List.flatten_append, rg_flat m]
    simp only [List.flatten_cons, List.flatten_nil, List.append_nil]
    rw [rg_app, Nat.succ_mul]
    refine rg_congr fun i hi => ?_
    split
    · rfl
    · rename_i h1
      have hn : 0 < n := by
        rcases Nat.eq_zero_or_pos n with z | z
        · subst z; simp at hi h1
        · exact z
      have e : i = i - m * n + n * m := by rw [Nat.mul_comm n m]; omega
      have h2 : i - m * n < n := by omega
      generalize hk : i - m * n = k at e h2
      rw [e, Nat.add_mul_div_left _ _ hn, Nat.add_mul_mod_self_left, Nat.div_eq_of_lt h2, Nat.mod_eq_of_lt h2, Nat.zero_add]
theorem rg_zip {g : Nat → β} : (rg m f).zip (rg n g) = rg (min m n) fun i => (f i, g i) := by
  apply List.ext_getElem?
  intro i
  by_cases h : i < min m n
  · rw [rg_at h]
    exact List.getElem?_zip_eq_some.mpr ⟨rg_at (by omega), rg_at (by omega)⟩
  · rw [rg_out (by omega), List.getElem?_eq_none]
    simp
    omega
theorem rg_take (h : n ≤ m) : (rg m f).take n = rg n f := by
  apply List.ext_getElem?
  intro i
  rw [List.getElem?_take]
  split
  · rw [rg_at (by omega), rg_at (by omega)]
  · rw [rg_out (by omega)]
theorem rg_set {x : α} (h : i < m) : (rg m f).set i x = rg m fun k => if k = i then x else f k := by
  apply List.ext_getElem?
  intro k
  rw [List.getElem?_set, rg_len]
  by_cases e : i = k
  · subst e
    rw [if_pos rfl, if_pos h, rg_at h, if_pos rfl]
  · rw [if_neg e]
    by_cases hk : k < m
    · rw [rg_at hk, rg_at hk, if_neg (Ne.symm e)]
    · rw [rg_out (by omega), rg_out (by omega)]
end
@[simp] theorem seqD_tup {xs : List D} {S : Sto} : seqD (.tup xs) S = some xs := rfl
@[simp] theorem seqD_lst {xs : List D} {S : Sto} : seqD (.lst xs) S = some xs := rfl
section
variable {a b c e o : RE} {ra : RA} {ρ : En} {S : Sto} {Q : D → Sto → Prop} {N : En → Sto → Prop} {K : Kt} {d x y : D} {i j k m n : Nat} {f g : Nat → D}
theorem wI_seqR {Q : List D → (Sto → Prop) → Sto → Prop} (h : wE a ρ S fun d S1 => ∃ m f chk, seqC d S1 = some (rg m f, chk) ∧ Q (rg m f) chk S1) : wI (iSeq a) ρ S Q :=
  wI_seq (wE_mono h fun d S1 ⟨m, f, chk, e, q⟩ => ⟨_, chk, e, q⟩)
theorem wI_rangeR {Q : List D → (Sto → Prop) → Sto → Prop} (h : wE a ρ S fun d S1 => ∃ n : Nat, d = .int (n : Int) ∧ n ≤ 1000000 ∧ Q (rg n fun i : Nat => D.int (i : Int)) (fun _ => True) S1) : wI (iRange1 a) ρ S Q := by
  obtain ⟨d, S1, e1, n, rfl, hn, q⟩ := h
  exact wI_range ⟨_, S1, e1, rfl, hn, q⟩
theorem wI_range2R {Q : List D → (Sto → Prop) → Sto → Prop} (h : wE a ρ S fun d S1 => wE b ρ S1 fun d' S2 => ∃ m n : Nat, d = .int (m : Int) ∧ d' = .int (n : Int) ∧ m ≤ 1000000 ∧ n ≤ 1000000 ∧ Q (rg (n - m) fun i : Nat => D.int ((m + i : Nat) : Int)) (fun _ => True) S2) : wI (iRange2 a b) ρ S Q := by
  obtain ⟨d, S1, e1, d', S2, e2, m, n, rfl, rfl, hm, hn, q⟩ := h
  exact wI_range2 ⟨_, S1, e1, rfl, _, S2, e2, rfl, hm, hn, q⟩
theorem wI_zipR {Q : List D → (Sto → Prop) → Sto → Prop} (h : wE a ρ S fun d S1 => wE b ρ S1 fun d' S2 => ∃ m f g c1 c2, seqC d S2 = some (rg m f, c1) ∧ seqC d' S2 = some (rg m g, c2) ∧ Q (rg m fun i => .tup [f i, g i]) (fun S => c1 S ∧ c2 S) S2) : wI (iZip (aCons a (aCons b aNil))) ρ S Q := by
  obtain ⟨d, S1, e1, d', S2, e2, m, f, g, c1, c2, h1, h2, q⟩ := h
  refine wI_zip (us := rg m id) (vs := rg m id) (f := f) (g := g) ⟨d, S1, e1, d', S2, e2, by rw [rg_map]; exact h1, by rw [rg_map]; exact h2, ?_⟩
  rw [rg_zip, rg_map, Nat.min_self]
  exact q
theorem wI_enumR {Q : List D → (Sto → Prop) → Sto → Prop} (h : wE a ρ S fun d S1 => ∃ m f c1, seqC d S1 = some (rg m f, c1) ∧ Q (rg m fun i => .tup [.int (i : Nat), f i]) c1 S1) : wI (iEnum (aCons a aNil)) ρ S Q := by
  obtain ⟨d, S1, e1, m, f, c1, h1, q⟩ := h
  refine wI_enum (us := rg m id) (f := f) ⟨d, S1, e1, by rw [rg_map]; exact h1, ?_⟩
  have : (rg m id).zipIdx.map (fun p : Nat × Nat => D.tup [.int (p.2 : Int), f p.1]) = rg m fun i => .tup [.int (i : Nat), f i] := by
    apply List.ext_getElem?
    intro i
    by_cases h : i < m
    · rw [rg_at h, List.getElem?_map, List.getElem?_zipIdx, rg_at h]
      simp
    · rw [rg_out (by omega), List.getElem?_map, List.getElem?_zipIdx, rg_out (by omega)]
      rfl
  rw [this]
  exact q
theorem wE_lcR {mk : List D → Sto → Option (D × Sto)} {it : RI} {gt : RG} {vs : List Nat} (h : wI it ρ S fun ds chk S1 => ∃ (m : Nat) (f r : Nat → D), ds = rg m f ∧ chk S1 ∧
    (∀ i, i < m → wG gt (f i) (wipeD ρ vs) S1 fun ρ1 S2 => S2 = S1 ∧ wE e ρ1 S2 fun y S3 => y = r i ∧ S3 = S1) ∧ wF mk (rg m r) S1 Q) : wE (eLc mk it gt tYesD e vs) ρ S Q := by
  obtain ⟨ds, chk, S1, e1, m, f, r, rfl, hc, hx, q⟩ := h
  refine wE_lc (α := Nat) ⟨_, chk, S1, e1, List.range m, f, r, rfl, hc, fun i hi => ?_, q⟩
  obtain ⟨ρ1, S2, h1, rfl, h3⟩ := hx i (List.mem_range.mp hi)
  exact ⟨ρ1, S2, h1, rfl, h3⟩
/-- .. with a test -/
theorem wE_lcRF {mk : List D → Sto → Option (D × Sto)} {it : RI} {gt : RG} {tt : RT} {vs : List Nat} (h : wI it ρ S fun ds chk S1 => ∃ (m : Nat) (f : Nat → D) (p : Nat → Bool) (r : Nat → D), ds = rg m f ∧ chk S1 ∧
    (∀ i, i < m → wG gt (f i) (wipeD ρ vs) S1 fun ρ1 S2 => S2 = S1 ∧ wT tt ρ1 S2 fun b S3 => b = p i ∧ S3 = S1 ∧ (p i = true → wE e ρ1 S3 fun y S4 => y = r i ∧ S4 = S1)) ∧ wF mk (((List.range m).filter p).map r) S1 Q) : wE (eLc mk it gt tt e vs) ρ S Q := by
  obtain ⟨ds, chk, S1, e1, m, f, p, r, rfl, hc, hx, q⟩ := h
  refine wE_lcF (α := Nat) ⟨_, chk, S1, e1, List.range m, f, p, r, rfl, hc, fun i hi => ?_, q⟩
  obtain ⟨ρ1, S2, h1, rfl, b, S3, h3, rfl, rfl, h4⟩ := hx i (List.mem_range.mp hi)
  exact ⟨ρ1, S3, h1, rfl, _, S3, h3, rfl, rfl, h4⟩
/-- .. that changes the store: what comes is a row of values of a sort -/
theorem wE_lcRI {β : Type} [Inhabited β] {mk : List D → Sto → Option (D × Sto)} {it : RI} {gt : RG} {vs : List Nat} (I : Nat → Sto → Prop) (r : β → D) (P : Nat → β → Prop) (h : wI it ρ S fun ds chk S1 => ∃ m f, ds = rg m f ∧ I 0 S1 ∧
    (∀ i S, i < m → I i S → wG gt (f i) (wipeD ρ vs) S fun ρ1 S1 => wE e ρ1 S1 fun y S2 => ∃ z, y = r z ∧ P i z ∧ chk S2 ∧ I (i + 1) S2) ∧
    ∀ (z : Nat → β) S', I m S' → (∀ i, i < m → P i (z i)) → wF mk (rg m fun i => r (z i)) S' Q) : wE (eLc mk it gt tYesD e vs) ρ S Q := by
  obtain ⟨ds, chk, S1, e1, m, f, rfl, h0, hs, hq⟩ := h
  refine wE_lcI (α := Nat) (β := β) I r P ⟨_, chk, S1, e1, List.range m, f, rfl, h0, fun k x S hk hi => ?_, fun zs S' hi hl hp => ?_⟩
  · have hk2 := List.getElem?_eq_some_iff.mp hk
    obtain ⟨h1, h2⟩ := hk2
    rw [List.getElem_range] at h2
    rw [List.length_range] at h1
    subst h2
    exact hs k S h1 hi
  · rw [List.length_range] at hi hl
    have := hq (fun i => zs.getD i default) S' hi fun i h => by
      have h2 : i < zs.length := by omega
      rw [List.getD_eq_getElem?_getD, List.getElem?_eq_getElem h2]
      exact hp i _ (List.getElem?_eq_getElem h2)
    have e : zs.map r = rg m fun i => r (zs.getD i default) := by
      conv => lhs; rw [rg_of zs, rg_map, hl]
    rw [e]
    exact this
theorem wE_lc2R {mk : List D → Sto → Option (D × Sto)} {it it1 : RI} {gt g1 : RG} {vs vs1 : List Nat} (h : wI it ρ S fun ds chk S1 => ∃ (m : Nat) (f : Nat → D) (n : Nat → Nat) (r : Nat → Nat → D), ds = rg m f ∧ chk S1 ∧
    (∀ i, i < m → wG gt (f i) (wipeD ρ vs) S1 fun ρ1 S2 => S2 = S1 ∧ wI it1 ρ1 S2 fun ds1 chk1 S3 => S3 = S1 ∧ ∃ f1, ds1 = rg (n i) f1 ∧ chk1 S1 ∧ ∀ j, j < n i → wG g1 (f1 j) (wipeD ρ1 vs1) S1 fun ρ2 S4 => S4 = S1 ∧ wE e ρ2 S4 fun d S5 => d = r i j ∧ S5 = S1) ∧
    wF mk (rg m fun i => rg (n i) (r i)).flatten S1 Q) : wE (eLc2 mk it gt tYesD it1 g1 tYesD e vs vs1) ρ S Q := by
  obtain ⟨ds, chk, S1, e1, m, f, n, r, rfl, hc, hx, q⟩ := h
  refine wE_lc2 (α := Nat) (β := Nat) ⟨_, chk, S1, e1, List.range m, f, fun i => List.range (n i), r, rfl, hc, fun i hi => ?_, q⟩
  obtain ⟨ρ1, S2, h1, rfl, ds1, chk1, S3, h3, rfl, f1, rfl, h4, h5⟩ := hx i (List.mem_range.mp hi)
  refine ⟨ρ1, S3, h1, rfl, _, chk1, S3, h3, rfl, f1, rfl, h4, fun j hj => ?_⟩
  obtain ⟨ρ2, S4, h6, rfl, h7⟩ := h5 j (List.mem_range.mp hj)
  exact ⟨ρ2, S4, h6, rfl, h7⟩
theorem wS_forR {it : RI} {gt : RG} {bs : RS} (I : Nat → En → Sto → Prop) (h : wI it ρ S fun ds chk S1 => ∃ m f, ds = rg m f ∧ I 0 ρ S1 ∧
    (∀ i ρ S, i < m → I i ρ S → wG gt (f i) ρ S fun ρ1 S1 => wS bs ρ1 S1 (fun ρ2 S2 => chk S2 ∧ I (i + 1) ρ2 S2) ⟨K.rt, N, fun ρ2 S2 => chk S2 ∧ I (i + 1) ρ2 S2⟩) ∧
    ∀ ρ S, I m ρ S → N ρ S) : wS (sFor it gt bs) ρ S N K := by
  obtain ⟨ds, chk, S1, e1, m, f, rfl, h0, hs, hn⟩ := h
  refine wS_for (α := Nat) I ⟨_, chk, S1, e1, List.range m, f, rfl, h0, fun k x ρ S hk hi => ?_, fun ρ S hi => hn ρ S (by rwa [List.length_range] at hi)⟩
  obtain ⟨h1, h2⟩ := List.getElem?_eq_some_iff.mp hk
  rw [List.getElem_range] at h2
  rw [List.length_range] at h1
  subst h2
  exact hs k ρ S h1 hi
theorem wT_genR {stop : Bool} {it : RI} {gt : RG} {vs : List Nat} {Q : Bool → Sto → Prop} (h : wI it ρ S fun ds chk S1 => ∃ (m : Nat) (f : Nat → D) (p : Nat → Bool), ds = rg m f ∧ chk S1 ∧
    (∀ i, i < m → wG gt (f i) (wipeD ρ vs) S1 fun ρ1 S2 => S2 = S1 ∧ wE e ρ1 S2 fun y S3 => y = .bl (p i) ∧ S3 = S1) ∧ Q (if (List.range m).any (fun i => p i == stop) then stop else !stop) S1) : wT (tGenQ stop it gt tYesD e vs) ρ S Q := by
  obtain ⟨ds, chk, S1, e1, m, f, p, rfl, hc, hx, q⟩ := h
  refine wT_gen (α := Nat) ⟨_, chk, S1, e1, List.range m, f, p, rfl, hc, fun i hi => ?_, q⟩
  obtain ⟨ρ1, S2, h1, rfl, h3⟩ := hx i (List.mem_range.mp hi)
  exact ⟨ρ1, S2, h1, rfl, h3⟩
theorem quantL2_w {stop : Bool} {gt g1 : RG} {it1 : RI} {vs1 : List Nat} {chk : Sto → Prop} {fn : Nat → D} {n : Nat → Nat} {p : Nat → Nat → Bool} (hc : chk S) : ∀ xs : List Nat, (∀ i ∈ xs, wG gt (fn i) ρ S fun ρ1 S2 => S2 = S ∧ wI it1 ρ1 S2 fun ds1 chk1 S3 => S3 = S ∧ ∃ f1, ds1 = rg (n i) f1 ∧ chk1 S ∧ ∀ j, j < n i → wG g1 (f1 j) (wipeD ρ1 vs1) S fun ρ2 S4 => S4 = S ∧ wE e ρ2 S4 fun y S5 => y = .bl (p i j) ∧ S5 = S) →
    quantL2 stop gt tYesD it1 g1 tYesD e vs1 chk ρ (xs.map fn) S = some ((if xs.any (fun i => (List.range (n i)).any fun j => p i j == stop) then stop else !stop), S)
  | [], _ => by simp [quantL2]
  | x :: xs, hx => by
    have ih := quantL2_w (stop := stop) (fn := fn) (p := p) hc xs fun y hy => hx y (List.mem_cons_of_mem _ hy)
    obtain ⟨ρ1, S1, h1, rfl, ds1, chk1, S3, h2, rfl, f1, rfl, hc1, hj⟩ := hx x List.mem_cons_self
    have hq := quantL_w (stop := stop) (g := g1) (e := e) (f := f1) (p := p x) (ρ := wipeD ρ1 vs1) hc1 (List.range (n x)) fun j hj' _ => by
      obtain ⟨ρ2, S4, a1, rfl, a3⟩ := hj j (List.mem_range.mp hj')
      exact ⟨ρ2, S4, a1, rfl, a3⟩
    have hq' : quantL stop g1 tYesD e chk1 (wipeD ρ1 vs1) (rg (n x) f1) S3 = _ := hq
    have hA : ((x :: xs).any fun i => (List.range (n i)).any fun j => p i j == stop) = (((List.range (n x)).any fun j => p x j == stop) || xs.any fun i => (List.range (n i)).any fun j => p i j == stop) := List.any_cons
    rw [List.map_cons, hA]
    unfold quantL2
    simp only [h1, tYesD, h2, hq', if_pos hc, ih]
    generalize ((List.range (n x)).any fun j => p x j == stop) = A
    generalize (xs.any fun i => (List.range (n i)).any fun j => p i j == stop) = B
    cases stop <;> cases A <;> cases B <;> simp
theorem wT_gen2R {stop : Bool} {it it1 : RI} {gt g1 : RG} {vs vs1 : List Nat} {Q : Bool → Sto → Prop} (h : wI it ρ S fun ds chk S1 => ∃ (m : Nat) (f : Nat → D) (n : Nat → Nat) (p : Nat → Nat → Bool), ds = rg m f ∧ chk S1 ∧
    (∀ i, i < m → wG gt (f i) (wipeD ρ vs) S1 fun ρ1 S2 => S2 = S1 ∧ wI it1 ρ1 S2 fun ds1 chk1 S3 => S3 = S1 ∧ ∃ f1, ds1 = rg (n i) f1 ∧ chk1 S1 ∧ ∀ j, j < n i → wG g1 (f1 j) (wipeD ρ1 vs1) S1 fun ρ2 S4 => S4 = S1 ∧ wE e ρ2 S4 fun y S5 => y = .bl (p i j) ∧ S5 = S1) ∧
    Q (if (List.range m).any (fun i => (List.range (n i)).any fun j => p i j == stop) then stop else !stop) S1) : wT (tGenQ2 stop it gt tYesD it1 g1 tYesD e vs vs1) ρ S Q := by
  obtain ⟨ds, chk, S1, e1, m, f, n, p, rfl, hc, hx, q⟩ := h
  refine ⟨_, S1, ?_, q⟩
  simp only [tGenQ2, e1]
  exact quantL2_w hc (List.range m) fun i hi => hx i (List.mem_range.mp hi)
/-- the item at a place -/
theorem w2_ixR {Q : D → Prop} (hs : seqD x S = some (rg m f)) (hi : i < m) (q : Q (f i)) : w2 fIx x (.int (i : Int)) S Q := w2_ix hs (atI_nat (rg_at hi)) q
theorem w2_ix0 {Q : D → Prop} (hs : seqD x S = some (rg m f)) (hi : 0 < m) (q : Q (f 0)) : w2 fIx x (.int 0) S Q := w2_ixR (i := 0) hs hi q
theorem wF_lenR (hs : seqD d S = some (rg m f)) (q : Q (.int (m : Int)) S) : wF fLen [d] S Q := wF_len hs (by rw [rg_len]; exact q)
theorem wF_lstR {xs : List D} (h : xs.length ≤ 1000000) (q : Q (.lst xs) S) : wF fLst xs S Q := wF_lst h q
theorem wF_sumR {z : Nat → Int} (hs : seqD d S = some (rg m fun i => .int (z i))) (q : Q (.int (rg m z).sum) S) : wF fSum [d] S Q := wF_sum (ns := rg m z) (by rw [hs, rg_map]) q
theorem wS_env {t : RS} {ρ' : En} (h : ρ = ρ') (w : wS t ρ' S N K) : wS t ρ S N K := h ▸ w
theorem wE_env {t : RE} {ρ' : En} (h : ρ = ρ') (w : wE t ρ' S Q) : wE t ρ S Q := h ▸ w
theorem wG_env {gt : RG} {ρ' : En} (h : ρ = ρ') (w : wG gt d ρ' S N) : wG gt d ρ S N := h ▸ w
theorem closL_rg {n : Nat} (h : ∀ i, i < m → clos n (f i) = true) : closL n (rg m f) = true := by
  induction m with
  | zero => rfl
  | succ m ih =>
    rw [rg_succ]
    have : ∀ xs ys : List D, closL n xs = true → closL n ys = true → closL n (xs ++ ys) = true := fun xs ys h1 h2 => by
      induction xs with
      | nil => exact h2
      | cons x xs ih =>
        simp only [closL, Bool.and_eq_true, List.cons_append] at h1 ⊢
        exact ⟨h1.1, ih h1.2⟩
    exact this _ _ (ih fun i hi => h i (by omega)) (closL_cons (h m (by omega)) closL_nil)
end
/-- a tuple, a list by its places -/
def tF (m : Nat) (f : Nat → D) : D := .tup (rg m f)
def lF (m : Nat) (f : Nat → D) : D := .lst (rg m f)
theorem tF_congr {m : Nat} {f g : Nat → D} (h : ∀ i, i < m → f i = g i) : tF m f = tF m g := by unfold tF; rw [rg_congr h]
theorem lF_congr {m : Nat} {f g : Nat → D} (h : ∀ i, i < m → f i = g i) : lF m f = lF m g := by unfold lF; rw [rg_congr h]
theorem clos_tF {n m : Nat} {f : Nat → D} (h : ∀ i, i < m → clos n (f i) = true) : clos n (tF m f) = true := closL_rg h
theorem clos_lF {n m : Nat} {f : Nat → D} (h : ∀ i, i < m → clos n (f i) = true) : clos n (lF m f) = true := closL_rg h
theorem Da.tF {n m : Nat} {f : Nat → D} {g : Nat → PyData} (h : ∀ i, Da n (f i) (g i)) : Da (n + 1) (tF m f) (.tuple (rg m g)) := DaL.tup (DaL.map h _)
theorem Da.lF {n m : Nat} {f : Nat → D} {g : Nat → PyData} (h : ∀ i, Da n (f i) (g i)) : Da (n + 1) (lF m f) (.list (rg m g)) := DaL.lst (DaL.map h _)
end DL

set_option maxRecDepth 100000
set_option maxHeartbeats 4000000
/-! plain: fractions, sums, greatest common parts; no program in sight -/
namespace PL
open PySem DL
open Classical
theorem den_pos (q : Rat) : 0 < q.den := Nat.pos_of_ne_zero q.den_nz
theorem num_den (q : Rat) : (q.num : Rat) / ((q.den : Int) : Rat) = q := by
  rw [← Rat.divInt_eq_div]
  exact Rat.num_divInt_den q
theorem den_ne (q : Rat) : ((q.den : Int) : Rat) ≠ 0 := by
  have := den_pos q
  simp
  omega
theorem mul_den (q : Rat) : q * ((q.den : Int) : Rat) = (q.num : Rat) := by
  have h := num_den q
  have h2 := den_ne q
  grind
theorem den_dvd_iff {q : Rat} {B : Nat} (hB : 0 < B) : q.den ∣ B ↔ ∃ z : Int, q * (B : Rat) = (z : Rat) := by
  constructor
  · rintro ⟨k, rfl⟩
    refine ⟨q.num * k, ?_⟩
    have h := mul_den q
    push_cast
    have h2 : (((q.den : Nat) : Rat)) = (((q.den : Int)) : Rat) := rfl
    grind
  · rintro ⟨z, hz⟩
    have hb : ((B : Nat) : Rat) ≠ 0 := by
      have : B ≠ 0 := by omega
      simpa using this
    have e : q = (z : Rat) / (((B : Nat) : Int) : Rat) := by
      have : (((B : Nat) : Int) : Rat) = ((B : Nat) : Rat) := rfl
      grind
    rw [e, ← Rat.divInt_eq_div, Rat.den_divInt]
    split
    · exact Nat.one_dvd _
    · exact Nat.div_dvd_of_dvd (Int.gcd_dvd_natAbs_left _ _)
/-- a fraction from -M to M whose denominator divides B -/
structure In (B M : Nat) (q : Rat) : Prop where
  den : q.den ∣ B
  le : q ≤ (M : Rat)
  ge : -(M : Rat) ≤ q
theorem In.add {B M N : Nat} {x y : Rat} (hB : 0 < B) (h : In B M x) (h' : In B N y) : In B (M + N) (x + y) := by
  refine ⟨?_, ?_, ?_⟩
  · obtain ⟨a, ha⟩ := (den_dvd_iff hB).mp h.den
    obtain ⟨b, hb⟩ := (den_dvd_iff hB).mp h'.den
    refine (den_dvd_iff hB).mpr ⟨a + b, ?_⟩
    push_cast
    grind
  · have := h.le; have := h'.le; push_cast; grind
  · have := h.ge; have := h'.ge; push_cast; grind
theorem In.neg {B M : Nat} {x : Rat} (h : In B M x) : In B M (-x) := by
  refine ⟨?_, ?_, ?_⟩
  · rw [Rat.neg_den]; exact h.den
  · have := h.ge; grind
  · have := h.le; grind
theorem In.sub {B M N : Nat} {x y : Rat} (hB : 0 < B) (h : In B M x) (h' : In B N y) : In B (M + N) (x - y) := by
  rw [Rat.sub_eq_add_neg]
  exact h.add hB h'.neg
theorem mul_le_of {x y M N : Rat} (h1 : x ≤ M) (h2 : -M ≤ x) (h3 : y ≤ N) (h4 : -N ≤ y) : x * y ≤ M * N ∧ -(M * N) ≤ x * y := by
  have a1 : 0 ≤ M - x := by grind
  have a2 : 0 ≤ M + x := by grind
  have a3 : 0 ≤ N - y := by grind
  have a4 : 0 ≤ N + y := by grind
  have b1 := Rat.mul_nonneg a1 a3
  have b2 := Rat.mul_nonneg a1 a4
  have b3 := Rat.mul_nonneg a2 a3
  have b4 := Rat.mul_nonneg a2 a4
  constructor <;> grind
theorem In.mul {B C M N : Nat} {x y : Rat} (hB : 0 < B) (hC : 0 < C) (h : In B M x) (h' : In C N y) : In (B * C) (M * N) (x * y) := by
  have hm := mul_le_of h.le h.ge h'.le h'.ge
  refine ⟨?_, by push_cast; exact hm.1, by push_cast; exact hm.2⟩
  obtain ⟨a, ha⟩ := (den_dvd_iff hB).mp h.den
  obtain ⟨b, hb⟩ := (den_dvd_iff hC).mp h'.den
  refine (den_dvd_iff (Nat.mul_pos hB hC)).mpr ⟨a * b, ?_⟩
  push_cast
  grind
theorem In.mono {B C M N : Nat} {x : Rat} (h : In B M x) (hB : B ∣ C) (hM : M ≤ N) : In C N x := by
  have h2 : ((M : Nat) : Rat) ≤ ((N : Nat) : Rat) := by exact_mod_cast hM
  refine ⟨Nat.dvd_trans h.den hB, ?_, ?_⟩
  · have := h.le; grind
  · have := h.ge; grind
theorem In.zero {B M : Nat} : In B M 0 := by
  refine ⟨Nat.one_dvd _, ?_, ?_⟩
  · exact_mod_cast Nat.zero_le M
  · have : (0 : Rat) ≤ (M : Rat) := by exact_mod_cast Nat.zero_le M
    grind
theorem In.one {B M : Nat} (h : 1 ≤ M) : In B M 1 := by
  have : (1 : Rat) ≤ (M : Rat) := by exact_mod_cast h
  refine ⟨Nat.one_dvd _, this, ?_⟩
  grind
theorem In.ite {B M : Nat} {x y : Rat} {c : Prop} [Decidable c] (h : In B M x) (h' : In B M y) : In B M (if c then x else y) := by
  split
  · exact h
  · exact h'
theorem In.den_le {B M : Nat} {q : Rat} (hB : 0 < B) (h : In B M q) : q.den ≤ B := Nat.le_of_dvd hB h.den
theorem In.num_le {B M : Nat} {q : Rat} (hB : 0 < B) (h : In B M q) : q.num.natAbs ≤ M * B := by
  have h1 := mul_den q
  have h2 : ((q.den : Int) : Rat) ≤ ((B : Int) : Rat) := by
    have := h.den_le hB
    exact_mod_cast this
  have h3 : (0 : Rat) ≤ ((q.den : Int) : Rat) := by exact_mod_cast Nat.zero_le _
  have hm := mul_le_of h.le h.ge h2 (show -((B : Int) : Rat) ≤ ((q.den : Int) : Rat) by
    have : (0 : Rat) ≤ ((B : Int) : Rat) := by exact_mod_cast Nat.zero_le _
    grind)
  rw [h1] at hm
  have e : (M : Rat) * ((B : Int) : Rat) = (((M * B : Nat) : Int) : Rat) := by push_cast; rfl
  rw [e] at hm
  have i1 : q.num ≤ ((M * B : Nat) : Int) := by exact_mod_cast hm.1
  have i2 : -((M * B : Nat) : Int) ≤ q.num := by
    have := hm.2
    exact_mod_cast this
  omega
/-- numerator and denominator of less than n bits -/
structure Sm (n : Nat) (q : Rat) : Prop where
  num : Bt n q.num
  den : Bt n (q.den : Int)
theorem Sm.mono {n m : Nat} {q : Rat} (h : Sm n q) (hm : n ≤ m) : Sm m q := ⟨h.num.mono hm, h.den.mono hm⟩
theorem In.sm {B M n : Nat} {q : Rat} (h : In B M q) (hB : 0 < B) (hn : (M + 1) * B < 2 ^ n) : Sm n q := by
  have h1 := h.den_le hB
  have h2 := h.num_le hB
  rw [Nat.add_mul, Nat.one_mul] at hn
  constructor
  · unfold Bt; omega
  · unfold Bt; omega
theorem Sm.one {n : Nat} (h : 1 ≤ n) : Sm n 1 := ⟨Nat.one_lt_two_pow (by omega), Nat.one_lt_two_pow (by omega)⟩
theorem Sm.zero {n : Nat} (h : 1 ≤ n) : Sm n 0 := ⟨Nat.pow_pos (by omega), Nat.one_lt_two_pow (by omega)⟩
theorem wF_len2 {q : Rat} {S : Sto} {Q : D → Sto → Prop} (h : Q (.int 2) S) : wF fLen [dQ q] S Q := ⟨_, _, rfl, h⟩
/-! sums -/
def rs (f : Nat → Rat) : Nat → Rat
  | 0 => 0
  | m + 1 => rs f m + f m
def is (f : Nat → Int) : Nat → Int
  | 0 => 0
  | m + 1 => is f m + f m
theorem rg_sum {f : Nat → Int} : ∀ m, (rg m f).sum = is f m
  | 0 => rfl
  | m + 1 => by rw [rg_succ, List.sum_append, rg_sum m]; simp [is]
theorem rs_congr {f g : Nat → Rat} : ∀ {m : Nat}, (∀ i, i < m → f i = g i) → rs f m = rs g m
  | 0, _ => rfl
  | m + 1, h => by
    show rs f m + f m = rs g m + g m
    rw [rs_congr fun i hi => h i (by omega), h m (by omega)]
theorem rs_add {f g : Nat → Rat} : ∀ {m : Nat}, rs (fun i => f i + g i) m = rs f m + rs g m
  | 0 => by simp [rs, Rat.add_zero]
  | m + 1 => by
    show rs (fun i => f i + g i) m + (f m + g m) = (rs f m + f m) + (rs g m + g m)
    rw [rs_add]
    grind
theorem rs_mul {c : Rat} {f : Nat → Rat} : ∀ {m : Nat}, rs (fun i => c * f i) m = c * rs f m
  | 0 => by simp [rs]
  | m + 1 => by
    show rs (fun i => c * f i) m + c * f m = c * (rs f m + f m)
    rw [rs_mul]
    grind
theorem rs_mul' {c : Rat} {f : Nat → Rat} {m : Nat} : rs (fun i => f i * c) m = rs f m * c := by
  have : rs (fun i => f i * c) m = rs (fun i => c * f i) m := rs_congr fun i _ => by grind
  rw [this, rs_mul]
  grind
theorem rs_zero : ∀ {m : Nat}, rs (fun _ => 0) m = 0
  | 0 => rfl
  | m + 1 => by
    show rs (fun _ => 0) m + 0 = 0
    rw [rs_zero, Rat.add_zero]
theorem rs_swap {f : Nat → Nat → Rat} {m : Nat} : ∀ {n : Nat}, rs (fun i => rs (f i) n) m = rs (fun j => rs (fun i => f i j) m) n
  | 0 => by
    show rs (fun _ => 0) m = 0
    exact rs_zero
  | n + 1 => by
    show rs (fun i => rs (f i) n + f i n) m = rs (fun j => rs (fun i => f i j) m) n + rs (fun i => f i n) m
    rw [rs_add, rs_swap]
theorem rs_le {f g : Nat → Rat} : ∀ {m : Nat}, (∀ i, i < m → f i ≤ g i) → rs f m ≤ rs g m
  | 0, _ => Rat.le_refl
  | m + 1, h => by
    have a := rs_le (m := m) fun i hi => h i (by omega)
    have b := h m (by omega)
    show rs f m + f m ≤ rs g m + g m
    grind
theorem rs_nn {f : Nat → Rat} {m : Nat} (h : ∀ i, i < m → 0 ≤ f i) : 0 ≤ rs f m := by
  have := rs_le (f := fun _ => 0) (g := f) h
  rwa [rs_zero] at this
theorem In.rs {B M : Nat} (hB : 0 < B) {f : Nat → Rat} : ∀ {m : Nat}, (∀ i, i < m → In B M (f i)) → In B (m * M) (rs f m)
  | 0, _ => .zero
  | m + 1, h => by
    rw [Nat.succ_mul]
    exact (In.rs hB fun i hi => h i (by omega)).add hB (h m (by omega))
theorem is_cast {f : Nat → Int} : ∀ {m : Nat}, ((is f m : Int) : Rat) = rs (fun i => (f i : Rat)) m
  | 0 => rfl
  | m + 1 => by
    show ((is f m + f m : Int) : Rat) = rs (fun i => (f i : Rat)) m + (f m : Rat)
    rw [← is_cast]
    push_cast
    rfl
theorem Bt.is {n L : Nat} {f : Nat → Int} : ∀ {m : Nat}, (∀ i, i < m → (f i).natAbs ≤ L) → (is f m).natAbs ≤ m * L
  | 0, _ => by simp [PL.is]
  | m + 1, h => by
    have a := Bt.is (n := n) (m := m) fun i hi => h i (by omega)
    have b := h m (by omega)
    rw [Nat.succ_mul]
    show (PL.is f m + f m).natAbs ≤ _
    omega
/-! the least common multiple of denominators -/
def lc (f : Nat → Rat) : Nat → Nat
  | 0 => 1
  | m + 1 => Nat.lcm (lc f m) (f m).den
theorem lc_dvd {f : Nat → Rat} {B : Nat} : ∀ {m : Nat}, (∀ i, i < m → (f i).den ∣ B) → lc f m ∣ B
  | 0, _ => Nat.one_dvd _
  | m + 1, h => Nat.lcm_dvd (lc_dvd fun i hi => h i (by omega)) (h m (by omega))
theorem dvd_lc {f : Nat → Rat} : ∀ {m : Nat} {i : Nat}, i < m → (f i).den ∣ lc f m
  | m + 1, i, h => by
    by_cases e : i = m
    · subst e; exact Nat.dvd_lcm_right _ _
    · exact Nat.dvd_trans (dvd_lc (by omega)) (Nat.dvd_lcm_left _ _)
theorem lc_pos {f : Nat → Rat} : ∀ m : Nat, 0 < lc f m
  | 0 => Nat.one_pos
  | m + 1 => Nat.lcm_pos (lc_pos m) (den_pos _)
def lcM (m n : Nat) (t : Nat → Nat → Rat) : Nat := lc (fun k => t (k / n) (k % n)) (m * n)
theorem lcM_dvd {m n B : Nat} {t : Nat → Nat → Rat} (ht : ∀ i j, i < m → j < n → (t i j).den ∣ B) : lcM m n t ∣ B := lc_dvd fun k hk => by
  have hn : 0 < n := by
    rcases Nat.eq_zero_or_pos n with z | z
    · subst z; simp at hk
    · exact z
  exact ht _ _ (Nat.div_lt_of_lt_mul (by rw [Nat.mul_comm]; exact hk)) (Nat.mod_lt _ hn)
theorem dvd_lcM {m n : Nat} {t : Nat → Nat → Rat} {i j : Nat} (hi : i < m) (hj : j < n) : (t i j).den ∣ lcM m n t := by
  have h : i * n + j < m * n := by
    have : (i + 1) * n ≤ m * n := Nat.mul_le_mul_right n (by omega)
    rw [Nat.succ_mul] at this
    omega
  have := dvd_lc (f := fun k => t (k / n) (k % n)) h
  have hn : 0 < n := by omega
  have e1 : (i * n + j) / n = i := by
    rw [Nat.mul_comm, Nat.mul_add_div hn, Nat.div_eq_of_lt hj, Nat.add_zero]
  have e2 : (i * n + j) % n = j := by
    rw [Nat.mul_comm, Nat.mul_add_mod, Nat.mod_eq_of_lt hj]
  simp only [e1, e2] at this
  exact this
theorem lcM_pos {m n : Nat} {t : Nat → Nat → Rat} : 0 < lcM m n t := lc_pos _
theorem lcm_step (b d : Nat) (hb : 0 < b) : Int.fdiv (b : Int) (Int.gcd (b : Int) (d : Int) : Int) * (d : Int) = (Nat.lcm b d : Nat) := by
  rw [Int.fdiv_eq_ediv_of_nonneg _ (Int.natCast_nonneg _)]
  have h : Int.gcd (b : Int) (d : Int) = Nat.gcd b d := rfl
  rw [h, ← Int.natCast_ediv, ← Int.natCast_mul]
  congr 1
  unfold Nat.lcm
  exact Nat.div_mul_right_comm (Nat.gcd_dvd_left b d) d
/-- a fraction times a multiple of its denominator -/
def wh (b : Int) (q : Rat) : Int := q.num * (b / (q.den : Int))
theorem wh_cast {b : Nat} {q : Rat} (h : q.den ∣ b) : ((wh (b : Int) q : Int) : Rat) = q * (b : Rat) := by
  obtain ⟨k, rfl⟩ := h
  have hd := den_pos q
  unfold wh
  have e : (((q.den * k : Nat) : Int) / (q.den : Int)) = (k : Int) := by
    rw [Int.natCast_mul, Int.mul_ediv_cancel_left _ (by omega)]
  rw [e]
  have := mul_den q
  push_cast
  push_cast at this
  grind
theorem wh_le {b : Nat} {q : Rat} {M : Nat} (h : q.den ∣ b) (hb : 0 < b) (h1 : q ≤ (M : Rat)) (h2 : -(M : Rat) ≤ q) : (wh (b : Int) q).natAbs ≤ M * b := by
  have e := wh_cast h
  have hb0 : (0 : Rat) ≤ (b : Rat) := by exact_mod_cast Nat.zero_le _
  have hm := mul_le_of h1 h2 (Rat.le_refl (a := (b : Rat))) (by grind)
  rw [← e] at hm
  have e2 : (M : Rat) * (b : Rat) = (((M * b : Nat) : Int) : Rat) := by push_cast; rfl
  rw [e2] at hm
  have i1 : wh b q ≤ ((M * b : Nat) : Int) := by exact_mod_cast hm.1
  have i2 : -((M * b : Nat) : Int) ≤ wh b q := by
    have := hm.2
    exact_mod_cast this
  omega
/-! greatest ones -/
def mx (f : Nat → Rat) : Nat → Rat
  | 0 => f 0
  | k + 1 => if mx f k < f (k + 1) then f (k + 1) else mx f k
theorem mx_ge {f : Nat → Rat} : ∀ {k i : Nat}, i ≤ k → f i ≤ mx f k
  | 0, i, h => by
    have : i = 0 := by omega
    subst this
    exact Rat.le_refl
  | k + 1, i, h => by
    unfold mx
    by_cases e : i = k + 1
    · subst e
      split
      · exact Rat.le_refl
      · rename_i hn
        exact Rat.not_lt.mp hn
    · have := mx_ge (f := f) (k := k) (i := i) (by omega)
      split
      · rename_i hl
        grind
      · exact this
theorem mx_at {f : Nat → Rat} : ∀ k : Nat, ∃ i, i ≤ k ∧ mx f k = f i
  | 0 => ⟨0, Nat.le_refl _, rfl⟩
  | k + 1 => by
    unfold mx
    split
    · exact ⟨k + 1, Nat.le_refl _, rfl⟩
    · obtain ⟨i, h1, h2⟩ := mx_at (f := f) k
      exact ⟨i, by omega, h2⟩
theorem mx_uniq {f : Nat → Rat} {k : Nat} {v : Rat} (h1 : ∀ i, i ≤ k → f i ≤ v) (h2 : ∃ i, i ≤ k ∧ v = f i) : v = mx f k := by
  obtain ⟨i, hi, e⟩ := h2
  obtain ⟨j, hj, e2⟩ := mx_at (f := f) k
  have a := mx_ge (f := f) hi
  have b := h1 j hj
  grind
theorem mx_congr {f g : Nat → Rat} : ∀ {k : Nat}, (∀ i, i ≤ k → f i = g i) → mx f k = mx g k
  | 0, h => h 0 (Nat.le_refl _)
  | k + 1, h => by
    unfold mx
    rw [mx_congr (k := k) fun i hi => h i (by omega), h (k + 1) (Nat.le_refl _)]
theorem In.mx {B M : Nat} {f : Nat → Rat} {k : Nat} (h : ∀ i, i ≤ k → In B M (f i)) : In B M (mx f k) := by
  obtain ⟨i, hi, e⟩ := mx_at (f := f) k
  rw [e]
  exact h i hi
def mxi (z : Nat → Int) : Nat → Int
  | 0 => z 0
  | k + 1 => max (mxi z k) (z (k + 1))
theorem listMax_rg {z : Nat → Int} : ∀ k : Nat, listMax (rg (k + 1) z) = some (mxi z k)
  | 0 => rfl
  | k + 1 => by
    have ih := listMax_rg (z := z) k
    rw [rg_cons] at ih
    rw [rg_cons, rg_succ]
    simp only [listMax, Option.some.injEq] at ih ⊢
    rw [List.foldl_append, ih]
    rfl
theorem mxi_at {z : Nat → Int} : ∀ k : Nat, ∃ i, i ≤ k ∧ mxi z k = z i
  | 0 => ⟨0, Nat.le_refl _, rfl⟩
  | k + 1 => by
    obtain ⟨i, h1, h2⟩ := mxi_at (z := z) k
    unfold mxi
    by_cases h : mxi z k ≤ z (k + 1)
    · exact ⟨k + 1, Nat.le_refl _, by omega⟩
    · exact ⟨i, by omega, by omega⟩
theorem mxi_ge {z : Nat → Int} : ∀ {k i : Nat}, i ≤ k → z i ≤ mxi z k
  | 0, i, h => by
    have : i = 0 := by omega
    subst this
    exact Int.le_refl _
  | k + 1, i, h => by
    unfold mxi
    by_cases e : i = k + 1
    · subst e; omega
    · have := mxi_ge (z := z) (k := k) (i := i) (by omega)
      omega
theorem mxi_scale {z : Nat → Int} {f : Nat → Rat} {c : Rat} {k : Nat} (hc : 0 ≤ c) (h : ∀ i, i ≤ k → ((z i : Int) : Rat) = f i * c) : ((mxi z k : Int) : Rat) = mx f k * c := by
  obtain ⟨i, hi, e⟩ := mxi_at (z := z) k
  obtain ⟨j, hj, e2⟩ := mx_at (f := f) k
  have a := mxi_ge (z := z) hj
  have b := mx_ge (f := f) hi
  have a' : ((z j : Int) : Rat) ≤ ((mxi z k : Int) : Rat) := by exact_mod_cast a
  rw [h j hj] at a'
  have e' : ((mxi z k : Int) : Rat) = f i * c := by rw [e, h i hi]
  have := Rat.mul_le_mul_of_nonneg_right b hc
  rw [e2] at this ⊢
  grind
theorem In.wh {B M n b : Nat} {q : Rat} (h : In B M q) (hd : q.den ∣ b) (hb : 0 < b) (hbB : b ≤ B) (hn : (M + 1) * B < 2 ^ n) : Bt n (wh (b : Nat) q) := by
  have := wh_le hd hb h.le h.ge
  have h2 : M * b ≤ M * B := Nat.mul_le_mul_left M hbB
  rw [Nat.add_mul, Nat.one_mul] at hn
  unfold Bt
  omega
theorem In.lt {B M n : Nat} (hn : (M + 1) * B < 2 ^ n) : B < 2 ^ n := by
  rw [Nat.add_mul, Nat.one_mul] at hn
  omega
/-- fractions from 0 with sum 1 -/
structure Row (B m : Nat) (r : Nat → Rat) : Prop where
  inB : ∀ i, i < m → In B 1 (r i)
  nn : ∀ i, i < m → 0 ≤ r i
  sum : rs r m = 1
theorem Row.mono {B C m : Nat} {r : Nat → Rat} (h : Row B m r) (hd : B ∣ C) : Row C m r := ⟨fun i hi => (h.inB i hi).mono hd (Nat.le_refl _), h.nn, h.sum⟩
theorem rs_getD : ∀ ys : List Nat, rs (fun i => ((ys.getD i 0 : Nat) : Rat)) ys.length = ((ys.sum : Nat) : Rat)
  | [] => rfl
  | y :: ys => by
    have h : ∀ (f : Nat → Rat) (m : Nat), rs f (m + 1) = f 0 + rs (fun i => f (i + 1)) m := fun f m => by
      induction m with
      | zero => show rs f 0 + f 0 = f 0 + rs _ 0; simp [rs, Rat.add_zero, Rat.zero_add]
      | succ m ih => show rs f (m + 1) + f (m + 1) = _ ; rw [ih]; show _ = f 0 + (rs (fun i => f (i + 1)) m + f (m + 1)); grind
    rw [List.length_cons, h]
    have ih := rs_getD ys
    simp only [List.getD_cons_zero, List.getD_cons_succ] at ih ⊢
    rw [ih, List.sum_cons]
    push_cast
    rfl
theorem inv_nn (s : Rat) (h : 0 < s) : 0 ≤ s⁻¹ := by
  by_cases h2 : 0 ≤ s⁻¹
  · exact h2
  · have h3 : 0 ≤ -s⁻¹ := by grind
    have h4 := Rat.mul_nonneg h3 (show (0 : Rat) ≤ s by grind)
    have h5 : s * s⁻¹ = 1 := Rat.mul_inv_cancel s (by grind)
    grind
theorem div_nn (x s : Rat) (h : 0 < s) (h2 : 0 ≤ x) : 0 ≤ x / s := by
  rw [Rat.div_def]; exact Rat.mul_nonneg h2 (inv_nn s h)
theorem div_le1 (x s : Rat) (h : 0 < s) (h2 : x ≤ s) : x / s ≤ 1 := by
  rw [Rat.div_def]
  have := Rat.mul_le_mul_of_nonneg_right h2 (inv_nn s h)
  have h5 : s * s⁻¹ = 1 := Rat.mul_inv_cancel s (by grind)
  grind
theorem div_den (z : Int) (W : Nat) (h : 0 < W) : ((z : Rat) / (W : Rat)).den ∣ W := by
  refine (den_dvd_iff h).mpr ⟨z, ?_⟩
  have : (W : Rat) ≠ 0 := by
    have : W ≠ 0 := by omega
    exact_mod_cast this
  grind
theorem In.div {z : Int} {W M : Nat} (h : 0 < W) (h1 : z ≤ (M * W : Nat)) (h2 : -((M * W : Nat) : Int) ≤ z) : In W M ((z : Rat) / (W : Rat)) := by
  have hp : (0 : Rat) < (W : Rat) := by exact_mod_cast h
  have hi := inv_nn _ hp
  have hc : (W : Rat) * (W : Rat)⁻¹ = 1 := Rat.mul_inv_cancel _ (by grind)
  have a1 : (z : Rat) ≤ (M : Rat) * (W : Rat) := by exact_mod_cast h1
  have a2 : -((M : Rat) * (W : Rat)) ≤ (z : Rat) := by
    have : (((-((M * W : Nat) : Int)) : Int) : Rat) ≤ (z : Rat) := by exact_mod_cast h2
    push_cast at this
    exact this
  have b1 := Rat.mul_le_mul_of_nonneg_right a1 hi
  have b2 := Rat.mul_le_mul_of_nonneg_right a2 hi
  have e1 : (M : Rat) * (W : Rat) * (W : Rat)⁻¹ = M := by rw [Rat.mul_assoc, hc, Rat.mul_one]
  have e2 : -((M : Rat) * (W : Rat)) * (W : Rat)⁻¹ = -(M : Rat) := by rw [Rat.neg_mul, e1]
  rw [e1] at b1
  rw [e2] at b2
  refine ⟨div_den z W h, ?_, ?_⟩
  · rw [Rat.div_def]; exact b1
  · rw [Rat.div_def]; exact b2
theorem sum_getD : ∀ (ys : List Nat) (i : Nat), ys.getD i 0 ≤ ys.sum
  | [], i => by simp
  | y :: ys, 0 => by simp
  | y :: ys, i + 1 => by
    have := sum_getD ys i
    simp only [List.getD_cons_succ, List.sum_cons]
    omega
theorem row_of {ys : List Nat} {W : Nat} (hW : 0 < W) (hs : ys.sum = W) : Row W ys.length (fun i => (((ys.getD i 0 : Nat) : Int) : Rat) / (W : Rat)) := by
  have hp : (0 : Rat) < (W : Rat) := by exact_mod_cast hW
  refine ⟨fun i hi => In.div hW ?_ (by omega), fun i hi => div_nn _ _ hp (by exact_mod_cast Nat.zero_le _), ?_⟩
  · have := sum_getD ys i
    omega
  · have e : rs (fun i => (((ys.getD i 0 : Nat) : Int) : Rat) / (W : Rat)) ys.length = rs (fun i => ((ys.getD i 0 : Nat) : Rat) * (W : Rat)⁻¹) ys.length := rs_congr fun i hi => by
      rw [Rat.div_def]
      rfl
    rw [e, rs_mul', rs_getD, hs]
    exact Rat.mul_inv_cancel _ (by grind)
theorem ints_rg (ys : List Nat) : (ys.map fun z : Nat => D.int (z : Int)) = rg ys.length fun i => D.int ((ys.getD i 0 : Nat) : Int) := by
  apply List.ext_getElem
  · simp
  · intro i h1 h2
    simp at h1
    simp [rg, h1]
/-! rows -/
def dT (m : Nat) (f : Nat → Rat) : D := tF m fun i => dQ (f i)
def dL (m : Nat) (f : Nat → Rat) : D := lF m fun i => dQ (f i)
def dM (m n : Nat) (t : Nat → Nat → Rat) : D := tF m fun w => dT n (t w)
def iT (m : Nat) (f : Nat → Int) : D := tF m fun i => .int (f i)
def iL (m : Nat) (f : Nat → Int) : D := lF m fun i => .int (f i)
@[simp] theorem clos_dT {n m : Nat} {f : Nat → Rat} : clos n (dT m f) = true := clos_tF fun i _ => rfl
@[simp] theorem clos_dL {n m : Nat} {f : Nat → Rat} : clos n (dL m f) = true := clos_lF fun i _ => rfl
@[simp] theorem clos_dM {n m k : Nat} {t : Nat → Nat → Rat} : clos n (dM m k t) = true := clos_tF fun i _ => clos_dT
@[simp] theorem clos_iT {n m : Nat} {f : Nat → Int} : clos n (iT m f) = true := clos_tF fun i _ => rfl
@[simp] theorem clos_iL {n m : Nat} {f : Nat → Int} : clos n (iL m f) = true := clos_lF fun i _ => rfl
theorem dT_congr {m : Nat} {f g : Nat → Rat} (h : ∀ i, i < m → f i = g i) : dT m f = dT m g := tF_congr fun i hi => by rw [h i hi]
theorem dL_congr {m : Nat} {f g : Nat → Rat} (h : ∀ i, i < m → f i = g i) : dL m f = dL m g := lF_congr fun i hi => by rw [h i hi]
theorem dM_congr {m n : Nat} {f g : Nat → Nat → Rat} (h : ∀ i j, i < m → j < n → f i j = g i j) : dM m n f = dM m n g := tF_congr fun i hi => dT_congr fun j hj => h i j hi hj
/-- Euclid's steps -/
def Eu : Nat → Nat → Nat → Prop
  | 0, _, y => y = 0
  | k + 1, x, y => y = 0 ∨ Eu k y (x % y)
theorem eu_bound : ∀ (m x y : Nat), y < 2 ^ m → Eu (2 * m) x y
  | 0, x, y, h => by show y = 0; omega
  | m + 1, x, y, h => by
    show y = 0 ∨ (x % y = 0 ∨ Eu (2 * m) (x % y) (y % (x % y)))
    by_cases h0 : y = 0
    · exact .inl h0
    · by_cases h1 : x % y = 0
      · exact .inr (.inl h1)
      · refine .inr (.inr (eu_bound m _ _ ?_))
        have a := Nat.mod_lt x (Nat.pos_of_ne_zero h0)
        have b := Nat.mod_lt y (Nat.pos_of_ne_zero h1)
        have c : y % (x % y) ≤ y - x % y := by
          rw [Nat.mod_eq_sub_mod (by omega)]
          exact Nat.mod_le _ _
        rw [Nat.pow_succ] at h
        omega
theorem eu_more : ∀ (k x y : Nat), Eu k x y → Eu (k + 1) x y
  | 0, x, y, h => .inl h
  | k + 1, x, y, h => by
    rcases h with h | h
    · exact .inl h
    · exact .inr (eu_more k _ _ h)
theorem eu_le {k j x y : Nat} (h : Eu k x y) (hj : k ≤ j) : Eu j x y := by
  induction hj with
  | refl => exact h
  | step _ ih => exact eu_more _ _ _ ih
theorem wF_max1 {d : D} {S : Sto} {Q : D → Sto → Prop} {k : Nat} {z : Nat → Int} (hn : ∀ xs, d = .tup xs → False) (hs : seqD d S = some (rg (k + 1) fun i => .int (z i))) (q : Q (.int (mxi z k)) S) : wF fMax1 [d] S Q := by
  refine ⟨_, _, ?_, q⟩
  have e : (rg (k + 1) fun i => D.int (z i)) = (rg (k + 1) z).map D.int := by rw [rg_map]
  rw [e] at hs
  simp only [fMax1, hs, intsD_ok, listMax_rg]
theorem wF_maxA {d : D} {S : Sto} {Q : D → Sto → Prop} {k : Nat} {z : Nat → Int} (hs : seqD d S = some (rg (k + 1) fun i => .int (z i))) (q : Q (.int (mxi z k)) S) : wF fMax1 [d] S Q := by
  refine ⟨_, _, ?_, q⟩
  have e : (rg (k + 1) fun i => D.int (z i)) = (rg (k + 1) z).map D.int := by rw [rg_map]
  rw [e] at hs
  simp only [fMax1, hs, intsD_ok, listMax_rg]
end PL

set_option maxRecDepth 100000
set_option maxHeartbeats 4000000
/-! a pool of draws at the head of the store -/
namespace DL
open PySem
open Classical
structure Pool where
  n : Nat
  ok : Sto → Prop
  len : ∀ P, ok P → P.length = n
  clos : ∀ P, ok P → ∀ ce ∈ P, ∀ m, n ≤ m → cellClos m ce = true
def St (p : Pool) (T S : Sto) : Prop := ∃ P, p.ok P ∧ S = P ++ T
def Cl (p : Pool) (T : Sto) : Prop := ∀ ce ∈ T, cellClos (p.n + T.length) ce = true
mutual
theorem clos_mono {n m : Nat} (h : n ≤ m) : ∀ d : D, clos n d = true → clos m d = true
  | .non, _ => rfl
  | .bl _, _ => rfl
  | .int _, _ => rfl
  | .str _, _ => rfl
  | .tup xs, e => closL_mono h xs e
  | .lst xs, e => closL_mono h xs e
  | .scr xs, e => closL_mono h xs e
  | .obj k, e => by
    have e : decide (k < n) = true := e
    exact decide_eq_true (Nat.lt_of_lt_of_le (of_decide_eq_true e) h)
theorem closL_mono {n m : Nat} (h : n ≤ m) : ∀ ds : List D, closL n ds = true → closL m ds = true
  | [], _ => rfl
  | d :: ds, e => by
    have e : (clos n d && closL n ds) = true := e
    rw [Bool.and_eq_true] at e
    exact closL_cons (clos_mono h d e.1) (closL_mono h ds e.2)
end
theorem cellClos_mono {n m : Nat} (h : n ≤ m) {ce : Cell} (e : cellClos n ce = true) : cellClos m ce = true := by
  cases ce with
  | lst ds => exact closL_mono h ds e
  | dct kvs =>
    have e : (kvs.all fun p => clos n p.1 && clos n p.2) = true := e
    show (kvs.all fun p => clos m p.1 && clos m p.2) = true
    rw [List.all_eq_true] at e ⊢
    intro p hp
    have := e p hp
    rw [Bool.and_eq_true] at this ⊢
    exact ⟨clos_mono h _ this.1, clos_mono h _ this.2⟩
  | dead => rfl
section
variable {p : Pool} {T U S S1 : Sto} {d : D} {Q : D → Sto → Prop} {xs : List D} {c : Cell} {i k : Nat}
theorem St.len (h : St p T S) : S.length = p.n + T.length := by
  obtain ⟨P, hp, rfl⟩ := h
  rw [List.length_append, p.len P hp]
theorem St.push (h : St p T S) : St p (T ++ [c]) (S ++ [c]) := by
  obtain ⟨P, hp, rfl⟩ := h
  exact ⟨P, hp, by rw [List.append_assoc]⟩
theorem St.get (h : St p T S) (hi : T[i]? = some c) : S[p.n + i]? = some c := by
  obtain ⟨P, hp, rfl⟩ := h
  rw [List.getElem?_append_right (by rw [p.len P hp]; omega), p.len P hp, Nat.add_sub_cancel_left]
  exact hi
theorem St.set (h : St p T S) : St p (T.set i c) (S.set (p.n + i) c) := by
  obtain ⟨P, hp, rfl⟩ := h
  refine ⟨P, hp, ?_⟩
  rw [List.set_append_right _ _ (by rw [p.len P hp]; omega), p.len P hp, Nat.add_sub_cancel_left]
theorem St.last (h : St p (T ++ [c]) S) : S[p.n + T.length]? = some c := h.get (by simp)
theorem St.setLast {c' : Cell} (h : St p (T ++ [c]) S) : St p (T ++ [c']) (S.set (p.n + T.length) c') := by
  have := h.set (i := T.length) (c := c')
  simpa using this
theorem Cl.nil : Cl p [] := fun ce h => by cases h
theorem Cl.push (hT : Cl p T) (hx : closL (p.n + T.length + 1) xs = true) : Cl p (T ++ [.lst xs]) := by
  intro ce hce
  have hl : p.n + (T ++ [Cell.lst xs]).length = p.n + T.length + 1 := by simp; omega
  rw [hl]
  rcases List.mem_append.mp hce with h | h
  · exact cellClos_mono (by omega) (hT ce h)
  · rw [List.mem_singleton.mp h]
    exact hx
theorem wFin_M (h0 : St p T S) (h : St p (T ++ U) S1) (hT : Cl p T) (hd : clos (p.n + T.length) d = true) (ho : isObj d = false) (q : ∀ S', St p T S' → Q d S') : wFin finM d S S1 Q := by
  obtain ⟨P, hp, rfl⟩ := h
  refine ⟨d, P ++ T, ?_, q _ ⟨P, hp, rfl⟩⟩
  have hl := h0.len
  unfold finM
  rw [hl, frz_self hd ho]
  have e : (P ++ (T ++ U)).take (p.n + T.length) = P ++ T := by
    rw [← List.append_assoc, List.take_append_of_le_length (by rw [List.length_append, p.len P hp]; omega), List.take_of_length_le (by rw [List.length_append, p.len P hp]; omega)]
  simp only [e]
  rw [if_pos]
  rw [List.all_eq_true]
  intro ce hce
  rcases List.mem_append.mp hce with h | h
  · exact p.clos P hp ce h _ (by omega)
  · exact hT ce h
theorem wFin_MO {j k : Nat} (h0 : St p T S) (h : St p (T ++ U) S1) (hT : Cl p T) (hk : k = p.n + (T.length + j)) (hU : U[j]? = some (.lst xs)) (hc : closL (p.n + T.length) xs = true) (q : ∀ S', St p T S' → Q (.lst xs) S') : wFin finM (.obj k) S S1 Q := by
  have hg : S1[k]? = some (.lst xs) := by
    rw [hk]
    exact h.get (by rw [List.getElem?_append_right (by omega)]; simpa using hU)
  obtain ⟨P, hp, rfl⟩ := h
  refine ⟨.lst xs, P ++ T, ?_, q _ ⟨P, hp, rfl⟩⟩
  have hl := h0.len
  have e : (P ++ (T ++ U)).take (p.n + T.length) = P ++ T := by
    rw [← List.append_assoc, List.take_append_of_le_length (by rw [List.length_append, p.len P hp]; omega), List.take_of_length_le (by rw [List.length_append, p.len P hp]; omega)]
  unfold finM frzD
  simp only
  rw [if_neg (by omega), hg, hl]
  simp only [hc, if_true, e]
  rw [if_pos]
  rw [List.all_eq_true]
  intro ce hce
  rcases List.mem_append.mp hce with h | h
  · exact p.clos P hp ce h _ (by omega)
  · exact hT ce h
theorem wS_sto {t : RS} {ρ : En} {S S' : Sto} {N : En → Sto → Prop} {K : Kt} (h : S = S') (w : wS t ρ S' N K) : wS t ρ S N K := h ▸ w
theorem wE_sto {t : RE} {ρ : En} {S S' : Sto} {Q : D → Sto → Prop} (h : S = S') (w : wE t ρ S' Q) : wE t ρ S Q := h ▸ w
theorem wG_ix2 {o e : RE} {ρ : En} {S : Sto} {d : D} {N : En → Sto → Prop} (h : wE o ρ S fun x S1 => wE e ρ S1 fun z S2 => ∃ (k : Nat) (m : Int) (j : Nat) (ys : List D), x = .obj k ∧ z = .int m ∧ S2[k]? = some (.lst ys) ∧ L2.ixN ys.length m = some j ∧ N ρ (S2.set k (.lst (ys.set j d)))) : wG (gIx o e) d ρ S N := by
  obtain ⟨x, S1, e1, z, S2, e2, k, m, j, ys, rfl, rfl, h1, h2, q⟩ := h
  exact ⟨ρ, _, by simp only [gIx, e1, e2, h1, h2], q⟩
theorem w2_pow {m n : Int} {S : Sto} {Q : D → Prop} (h1 : 0 ≤ n) (h2 : n ≤ 1000000) (h3 : m.natAbs < 2 ^ 64) (h : Q (.int (m ^ n.toNat))) : w2 fPow (.int m) (.int n) S Q := ⟨_, by simp only [fPow]; rw [if_pos ⟨h1, h2, h3⟩], h⟩
theorem fmod_m (x m : Int) (h : 1 ≤ m) : ∃ r : Nat, Int.fmod x m = (r : Int) ∧ (r : Int) < m := by
  rw [Int.fmod_eq_emod_of_nonneg _ (by omega)]
  have a := Int.emod_nonneg x (b := m) (by omega)
  have b := Int.emod_lt_of_pos x (b := m) (by omega)
  exact ⟨(x % m).toNat, by omega, by omega⟩
theorem ints_at {ns : List Int} {c : Int} (h0 : 0 ≤ c) (h : c < (ns.length : Int)) : ∃ z : Int, L2.atI (ns.map D.int) c = some (.int z) := by
  obtain ⟨k, rfl⟩ : ∃ k : Nat, c = (k : Int) := ⟨c.toNat, by omega⟩
  have hk : k < ns.length := by omega
  exact ⟨ns[k], atI_nat (by simp [hk])⟩
theorem wS_cut {s t : RS} {ρ : En} {S : Sto} {N : En → Sto → Prop} {K : Kt} (Mid : En → Sto → Prop) (h : wS s ρ S Mid K) (h2 : ∀ ρ S, Mid ρ S → wS t ρ S N K) : wS (sSeq s t) ρ S N K := wS_seq (wS_mono h h2)
/-- a new list of the store -/
theorem wF_objS (h : St p T S) (hl : xs.length ≤ 1000000) (q : St p (T ++ [.lst xs]) (S ++ [.lst xs]) → Q (.obj (p.n + T.length)) (S ++ [.lst xs])) : wF fObj xs S Q := by
  refine wF_obj hl ?_
  rw [h.len]
  exact q h.push
theorem wF_listOS (h : St p T S) (hs : seqD d S = some xs) (q : St p (T ++ [.lst xs]) (S ++ [.lst xs]) → Q (.obj (p.n + T.length)) (S ++ [.lst xs])) : wF fListO [d] S Q := by
  refine wF_listO hs ?_
  rw [h.len]
  exact q h.push
/-- append to the last list -/
theorem wM_appS {y : D} (h : St p (T ++ [.lst xs]) S) (hl : xs.length < 1000000) (q : ∀ S', St p (T ++ [.lst (xs ++ [y])]) S' → Q .non S') : wM fAppend (.obj (p.n + T.length)) [y] S Q :=
  wM_append h.last hl (q _ h.setLast)
end
end DL

set_option maxRecDepth 100000
set_option maxHeartbeats 4000000
/-! more plain lemmas -/
namespace PL
open PySem DL
open Classical
theorem atI_last {m : Nat} {f : Nat → D} (h : 0 < m) : L2.atI (rg m f) (-1) = some (f (m - 1)) := by
  unfold L2.atI L2.ixN
  rw [if_neg (by omega), rg_len]
  rw [if_pos (by omega)]
  have : ((m : Int) + -1).toNat = m - 1 := by omega
  simp only [Option.bind]
  rw [show (-1 + (m : Int)).toNat = m - 1 by omega]
  exact rg_at (by omega)
theorem ix_zero {m : Nat} (h : 0 < m) : L2.ixN m 0 = some 0 := by
  unfold L2.ixN
  rw [if_pos (by omega), if_pos (by omega)]
  rfl
theorem da_dT {m n : Nat} {t : Nat → Rat} : Da (n + 2) (dT m t) (.tuple (rg m fun s => .tuple [.int (t s).num, .int ((t s).den : Int)])) := Da.tF fun s => Da.dQ
theorem da_dM {m k n : Nat} {t : Nat → Nat → Rat} : Da (n + 3) (dM m k t) (.tuple (rg m fun w => .tuple (rg k fun s => .tuple [.int (t w s).num, .int ((t w s).den : Int)]))) := Da.tF fun w => da_dT
theorem ne_dM {m k : Nat} {t : Nat → Nat → Rat} {S : Sto} : fNe (dM m k t) (dM m k t) S = some (.bl false) := fNe_self (n := 3) da_dM
theorem eq_dM {m k : Nat} {t : Nat → Nat → Rat} {S : Sto} : fEq (dM m k t) (dM m k t) S = some (.bl true) := fEq_self (n := 3) da_dM
theorem ne_dQ {q : Rat} {S : Sto} : fNe (dQ q) (dQ q) S = some (.bl false) := fNe_self (n := 1) Da.dQ
theorem filter_no {α : Type} {m : Nat} {r : Nat → α} : ((List.range m).filter fun _ => false).map r = [] := by simp
/-! slices -/
def wO (t : RO) (ρ : En) (S : Sto) (Q : Option Int → Sto → Prop) : Prop := ∃ o S', t ρ S = some (o, S') ∧ Q o S'
def wSl (mk : List D → Sto → Option (D × Sto)) (d : D) (l h : Option Int) (S : Sto) (Q : D → Sto → Prop) : Prop := ∃ z S', fSl mk d l h S = some (z, S') ∧ Q z S'
section
variable {a e : RE} {ρ : En} {S : Sto} {Q : D → Sto → Prop} {lo hi : RO} {mk : List D → Sto → Option (D × Sto)} {d : D}
theorem wE_sl (h : wE a ρ S fun d S1 => wO lo ρ S1 fun l S2 => wO hi ρ S2 fun u S3 => wSl mk d l u S3 Q) : wE (eSl mk a lo hi) ρ S Q := by
  obtain ⟨d, S1, e1, l, S2, e2, u, S3, e3, z, S4, e4, q⟩ := h
  exact ⟨z, S4, by simp only [eSl, e1, e2, e3, e4], q⟩
theorem wO_no {Q : Option Int → Sto → Prop} (h : Q none S) : wO oNo ρ S Q := ⟨_, _, rfl, h⟩
theorem wO_some {Q : Option Int → Sto → Prop} (h : wE e ρ S fun d S1 => ∃ i, d = .int i ∧ Q (some i) S1) : wO (oSome e) ρ S Q := by
  obtain ⟨d, S1, e1, i, rfl, q⟩ := h
  exact ⟨_, S1, by simp only [oSome, e1], q⟩
theorem wSl_tup {xs : List D} {l h : Option Int} (q : Q (.tup (cutD xs l h)) S) : wSl mk (.tup xs) l h S Q := ⟨_, _, rfl, q⟩
theorem wSl_lst {xs : List D} {l h : Option Int} (q : wF mk (cutD xs l h) S Q) : wSl mk (.lst xs) l h S Q := q
theorem wSl_scr {xs : List D} {l h : Option Int} (q : wF mk (cutD xs l h) S Q) : wSl mk (.scr xs) l h S Q := q
theorem cutD_to {xs : List D} {k : Nat} : cutD xs none (some (k : Int)) = xs.take k := by
  unfold cutD
  rw [HT.sIx_none, HT.sIx_nat]
  simp
theorem cutD_from {xs : List D} {k : Nat} : cutD xs (some (k : Int)) none = xs.drop k := by
  unfold cutD
  rw [HT.sIx_none, HT.sIx_nat]
  by_cases h : k ≤ xs.length
  · rw [Nat.min_eq_left h, List.take_of_length_le (by simp)]
  · rw [Nat.min_eq_right (by omega), List.drop_of_length_le (Nat.le_refl _), List.drop_of_length_le (by omega)]
    simp
theorem cutD_mid {xs : List D} {j k : Nat} (h1 : j ≤ k) (h2 : k ≤ xs.length) : cutD xs (some (j : Int)) (some (k : Int)) = (xs.drop j).take (k - j) := by
  unfold cutD
  rw [HT.sIx_nat, HT.sIx_nat, Nat.min_eq_left h2, Nat.min_eq_left (by omega)]
theorem rep_tup {x : D} {m : Nat} : (List.replicate m [x]).flatten = rg m fun _ => x := by
  induction m with
  | zero => rfl
  | succ m ih => rw [List.replicate_succ, List.flatten_cons, ih, rg_cons]; rfl
theorem w2s_rep {x : D} {m : Nat} (h1 : 1 ≤ m) (h2 : m ≤ 1000) (q : Q (tF m fun _ => x) S) : w2s (fTimes mk) (.tup [x]) (.int (m : Int)) S Q := by
  refine ⟨_, _, ?_, q⟩
  simp only [fTimes, fRepT]
  rw [if_pos ⟨by simp, by omega, by omega, by simp⟩, Int.toNat_natCast, rep_tup]
  rfl
end
end PL

set_option maxRecDepth 100000
set_option maxHeartbeats 4000000
/-! sizes of sums, products, quotients; equality of fractions; lists of fractions -/
namespace PL
open PySem DL
open Classical
theorem fdiv_bt {n : Nat} {a b : Int} (h : DL.Bt n a) (hb : 0 < b) : DL.Bt n (a.fdiv (Int.gcd a b : Int)) := by
  have hg : (Int.gcd a b : Int) ∣ a := Int.gcd_dvd_left ..
  rw [Int.fdiv_eq_ediv_of_dvd hg]
  unfold DL.Bt at *
  have := Int.natAbs_ediv_le_natAbs a (Int.gcd a b : Int)
  omega
theorem Sm.divI {n : Nat} {a b : Int} (hb : 0 < b) (ha : DL.Bt n a) (hb2 : DL.Bt n b) : Sm n ((a : Rat) / (b : Rat)) := by
  constructor
  · rw [low_num a b hb]; exact fdiv_bt ha hb
  · rw [low_den a b hb]
    have hg : (Int.gcd a b : Int) ∣ b := Int.gcd_dvd_right ..
    rw [Int.fdiv_eq_ediv_of_dvd hg]
    unfold DL.Bt at *
    have := Int.natAbs_ediv_le_natAbs b (Int.gcd a b : Int)
    omega
theorem den_posI (q : Rat) : (0 : Int) < (q.den : Int) := by have := den_pos q; omega
theorem mul_eq (x y : Rat) : x * y = ((x.num * y.num : Int) : Rat) / (((x.den : Int) * (y.den : Int) : Int) : Rat) := by
  have a := mul_den x
  have b := mul_den y
  have c := den_ne x
  have d := den_ne y
  push_cast
  push_cast at a b c d
  grind
theorem add_eq (x y : Rat) : x + y = ((x.num * (y.den : Int) + y.num * (x.den : Int) : Int) : Rat) / (((x.den : Int) * (y.den : Int) : Int) : Rat) := by
  have a := mul_den x
  have b := mul_den y
  have c := den_ne x
  have d := den_ne y
  push_cast
  push_cast at a b c d
  grind
theorem Sm.mul {n m : Nat} {x y : Rat} (hx : Sm n x) (hy : Sm m y) : Sm (n + m) (x * y) := by
  rw [mul_eq]
  exact Sm.divI (Int.mul_pos (den_posI x) (den_posI y)) (hx.num.mul hy.num) (hx.den.mul hy.den)
theorem Sm.add {n m : Nat} {x y : Rat} (hx : Sm n x) (hy : Sm m y) : Sm (n + m + 1) (x + y) := by
  rw [add_eq]
  refine Sm.divI (Int.mul_pos (den_posI x) (den_posI y)) ?_ ((hx.den.mul hy.den).mono (by omega))
  exact ((hx.num.mul hy.den).add (hy.num.mul hx.den)).mono (by omega)
theorem Sm.neg {n : Nat} {x : Rat} (hx : Sm n x) : Sm n (-x) := by
  constructor
  · have := hx.num
    unfold DL.Bt at *
    rw [Rat.neg_num]
    omega
  · exact hx.den
theorem Sm.sub {n m : Nat} {x y : Rat} (hx : Sm n x) (hy : Sm m y) : Sm (n + m + 1) (x - y) := by
  rw [Rat.sub_eq_add_neg]
  exact hx.add hy.neg
theorem num_pos {x : Rat} (h : 0 < x) : 0 < x.num := by
  have h1 : 0 ≤ x.num := Rat.num_nonneg.mpr (Rat.le_of_lt h)
  have h2 : x.num ≠ 0 := fun e => by
    have := Rat.num_eq_zero.mp e
    subst this
    exact absurd h (by decide +kernel)
  omega
theorem inv_eq {x : Rat} (h : 0 < x) : x⁻¹ = (((x.den : Nat) : Int) : Rat) / ((x.num : Int) : Rat) := by
  have a := mul_den x
  have c := den_ne x
  have e : ((x.num : Int) : Rat) ≠ 0 := by
    have := num_pos h
    have : x.num ≠ 0 := by omega
    exact_mod_cast this
  have h0 : x ≠ 0 := by grind
  grind
theorem inv_num {x : Rat} (h : 0 < x) : x⁻¹.num = (x.den : Int) := by
  rw [inv_eq h, low_num _ _ (num_pos h)]
  have : Int.gcd (x.den : Int) x.num = 1 := by
    have := x.reduced
    unfold Nat.Coprime at this
    rw [Int.gcd_comm]
    simpa [Int.gcd] using this
  rw [this]
  simp
theorem inv_den {x : Rat} (h : 0 < x) : (x⁻¹.den : Int) = x.num := by
  rw [inv_eq h, low_den _ _ (num_pos h)]
  have : Int.gcd (x.den : Int) x.num = 1 := by
    have := x.reduced
    unfold Nat.Coprime at this
    rw [Int.gcd_comm]
    simpa [Int.gcd] using this
  rw [this]
  simp
theorem dQ_inv {x : Rat} (h : 0 < x) : D.tup [.int (x.den : Int), .int x.num] = dQ x⁻¹ := by
  unfold dQ
  rw [inv_num h, inv_den h]
theorem Sm.inv {n : Nat} {x : Rat} (hx : Sm n x) (h : 0 < x) : Sm n x⁻¹ := ⟨by rw [inv_num h]; exact hx.den, by rw [inv_den h]; exact hx.num⟩
/-- a common bottom of a few small fractions -/
theorem In.of_sm {n : Nat} {f : Nat → Rat} : ∀ (m : Nat), (∀ i, i < m → Sm n (f i)) → ∃ B, 0 < B ∧ B < 2 ^ (n * m + 1) ∧ ∀ i, i < m → In B (2 ^ n) (f i)
  | 0, _ => ⟨1, by omega, by simp, fun i hi => by omega⟩
  | m + 1, h => by
    obtain ⟨B, h0, h1, h2⟩ := In.of_sm m fun i hi => h i (by omega)
    have hm := h m (by omega)
    have hd : (f m).den < 2 ^ n := by have := hm.den; unfold DL.Bt at this; omega
    have hp := den_pos (f m)
    refine ⟨B * (f m).den, Nat.mul_pos h0 hp, ?_, fun i hi => ?_⟩
    · rw [show n * (m + 1) + 1 = (n * m + 1) + n from by rw [Nat.mul_add]; omega, Nat.pow_add]
      exact Nat.mul_lt_mul'' h1 hd
    · by_cases e : i = m
      · subst e
        have hN : (f i).num.natAbs < 2 ^ n := hm.num
        have e1 := mul_den (f i)
        have hp1 : (1 : Rat) ≤ (((f i).den : Int) : Rat) := by
          have : (1 : Int) ≤ ((f i).den : Int) := by omega
          exact_mod_cast this
        generalize 2 ^ n = M at hN ⊢
        have a1 : ((f i).num : Rat) ≤ ((M : Int) : Rat) := by
          have : (f i).num ≤ (M : Int) := by omega
          exact_mod_cast this
        have a2 : ((-(M : Int) : Int) : Rat) ≤ ((f i).num : Rat) := by
          have : -(M : Int) ≤ (f i).num := by omega
          exact_mod_cast this
        have a0 : (0 : Rat) ≤ ((M : Int) : Rat) := by
          have : (0 : Int) ≤ (M : Int) := by omega
          exact_mod_cast this
        rw [Rat.intCast_neg] at a2
        refine ⟨⟨B, Nat.mul_comm _ _⟩, ?_, ?_⟩
        · show f i ≤ ((M : Int) : Rat)
          generalize ((M : Int) : Rat) = N at a0 a1 a2 ⊢
          refine Classical.byContradiction fun hc => ?_
          have hc : N < f i := by grind
          have : f i * 1 ≤ f i * (((f i).den : Int) : Rat) := Rat.mul_le_mul_of_nonneg_left hp1 (by grind)
          grind
        · show -((M : Int) : Rat) ≤ f i
          generalize ((M : Int) : Rat) = N at a0 a1 a2 ⊢
          refine Classical.byContradiction fun hc => ?_
          have hc : f i < -N := by grind
          have : (-f i) * 1 ≤ (-f i) * (((f i).den : Int) : Rat) := Rat.mul_le_mul_of_nonneg_left hp1 (by grind)
          grind
      · exact (h2 i (by omega)).mono (Nat.dvd_mul_right _ _) (Nat.le_refl _)
theorem eqv_int (a b : Int) : PyData.eqv (.int a) (.int b) = decide (a = b) := by simp only [PyData.eqv]; rfl
theorem rat_ext {x y : Rat} (h : x.num = y.num) (h2 : x.den = y.den) : x = y := Rat.ext h h2
theorem eqv_dQ (x y : Rat) : PyData.eqv (.tuple [.int x.num, .int (x.den : Int)]) (.tuple [.int y.num, .int (y.den : Int)]) = decide (x = y) := by
  simp only [PyData.eqv, PyData.eqvAll, Bool.and_true]
  by_cases h : x = y
  · subst h; simp
  · rw [decide_eq_false h]
    rw [Bool.and_eq_false_iff]
    by_cases h1 : x.num = y.num
    · right
      have : ¬ x.den = y.den := fun e => h (rat_ext h1 e)
      simp only [beq_eq_false_iff_ne, ne_eq]
      omega
    · left
      simpa using h1
theorem eq_dQ {x y : Rat} {S : Sto} : fEq (dQ x) (dQ y) S = some (.bl (decide (x = y))) := by
  rw [fEq_da (n := 1) (m := 1) Da.dQ Da.dQ, eqv_dQ]
theorem ne_dQs {x y : Rat} {S : Sto} : fNe (dQ x) (dQ y) S = some (.bl (!decide (x = y))) := by
  rw [fNe_da (n := 1) (m := 1) Da.dQ Da.dQ, eqv_dQ]
theorem tup0_da : Da 1 (.tup []) (.tuple []) := DaL.tup .nil
theorem eq_dQ0 {x : Rat} {S : Sto} : fEq (dQ x) (.tup []) S = some (.bl false) := by
  rw [fEq_da (n := 1) (m := 1) Da.dQ tup0_da]; rfl
theorem eq_00 {S : Sto} : fEq (.tup []) (.tup []) S = some (.bl true) := by
  rw [fEq_da (n := 1) (m := 1) tup0_da tup0_da]; rfl
theorem ne_00 {S : Sto} : fNe (.tup []) (.tup []) S = some (.bl false) := by
  rw [fNe_da (n := 1) (m := 1) tup0_da tup0_da]; rfl
/-! ### lists of fractions, of natural numbers -/
theorem rs_getD_q : ∀ qs : List Rat, rs (fun i => qs.getD i 0) qs.length = qs.sum := by
  intro qs
  have : ∀ (qs : List Rat) (k : Nat), k ≤ qs.length → rs (fun i => qs.getD i 0) k = (qs.take k).sum := by
    intro qs k hk
    induction k with
    | zero => simp [rs]
    | succ k ih =>
      have hk' : k < qs.length := by omega
      have e : qs.take (k + 1) = qs.take k ++ [qs[k]] := by rw [List.take_succ, List.getElem?_eq_getElem hk']; rfl
      rw [e, List.sum_append]
      show rs _ k + qs.getD k 0 = _
      rw [ih (by omega)]
      have : qs.getD k 0 = qs[k] := by simp [hk']
      rw [this]
      simp [List.sum_cons, Rat.add_zero]
  have := this qs qs.length (Nat.le_refl _)
  rwa [List.take_length] at this
theorem dqs_rg (qs : List Rat) : qs.map dQ = rg qs.length fun i => dQ (qs.getD i 0) := by
  refine List.ext_getElem (by simp) fun i h1 h2 => ?_
  have h3 : i < qs.length := by simpa using h1
  simp [rg, h3]
theorem isum_nat : ∀ l : List Nat, (l.map fun z : Nat => (z : Int)).sum = ((l.sum : Nat) : Int)
  | [] => rfl
  | z :: l => by simp [isum_nat l]
def dN (l : List Nat) : D := .tup (l.map fun z : Nat => D.int (z : Int))
theorem wF_sumN {l : List Nat} {S : Sto} {Q : D → Sto → Prop} (q : Q (.int ((l.sum : Nat) : Int)) S) : wF fSum [dN l] S Q :=
  wF_sum (ns := l.map fun z : Nat => (z : Int)) (by simp [dN]) (by rw [isum_nat]; exact q)
theorem seq_dN {l : List Nat} {S : Sto} : seqD (dN l) S = some (rg l.length fun i => D.int ((l.getD i 0 : Nat) : Int)) := by
  unfold dN
  rw [seqD_tup, ints_rg]
theorem seqC_dN {l : List Nat} {S : Sto} : seqC (dN l) S = some (rg l.length fun i => D.int ((l.getD i 0 : Nat) : Int), fun _ => True) := by
  unfold dN
  rw [← ints_rg]
  rfl
theorem getD_le_sum (l : List Nat) (i : Nat) : l.getD i 0 ≤ l.sum := sum_getD l i
/-- all powers of so many worlds with a sum up to most -/
def pwr (most : Nat) : Nat → List (List Nat)
  | 0 => [[]]
  | m + 1 => (pwr most m).flatMap fun l => (List.range (most + 1 - l.sum)).map fun k => l ++ [k]
theorem pwr_mem {most : Nat} : ∀ {m : Nat} {l : List Nat}, l ∈ pwr most m → l.length = m ∧ l.sum ≤ most
  | 0, l, h => by
    simp [pwr] at h
    subst h
    simp
  | m + 1, l, h => by
    simp only [pwr, List.mem_flatMap, List.mem_map, List.mem_range] at h
    obtain ⟨a, ha, k, hk, rfl⟩ := h
    obtain ⟨h1, h2⟩ := pwr_mem ha
    refine ⟨by simp [h1], ?_⟩
    simp
    omega
theorem len_flatMap_le {α β : Type} {f : α → List β} {c : Nat} : ∀ {l : List α}, (∀ x ∈ l, (f x).length ≤ c) → (l.flatMap f).length ≤ l.length * c
  | [], _ => by simp
  | x :: l, h => by
    rw [List.flatMap_cons, List.length_append, List.length_cons, Nat.add_mul, Nat.one_mul]
    have a := h x List.mem_cons_self
    have b := len_flatMap_le (l := l) fun y hy => h y (List.mem_cons_of_mem _ hy)
    omega
theorem pwr_len {most : Nat} : ∀ m : Nat, (pwr most m).length ≤ (most + 1) ^ m
  | 0 => by simp [pwr]
  | m + 1 => by
    unfold pwr
    rw [Nat.pow_succ]
    refine Nat.le_trans (len_flatMap_le (c := most + 1) fun l _ => ?_) (Nat.mul_le_mul_right _ (pwr_len m))
    simp
/-- those that are not all 0 -/
def pws (most m : Nat) : List (List Nat) := (pwr most m).filter fun l => decide (0 < l.sum)
theorem pws_mem {most m : Nat} {l : List Nat} (h : l ∈ pws most m) : l.length = m ∧ l.sum ≤ most := pwr_mem (List.mem_filter.mp h).1
theorem pws_len {most m : Nat} : (pws most m).length ≤ (most + 1) ^ m := Nat.le_trans (List.length_filter_le _ _) (pwr_len m)
theorem clos_dN {n : Nat} {l : List Nat} : clos n (dN l) = true := closL_map (f := fun z : Nat => D.int (z : Int)) (fun _ => rfl) l
theorem da_dN {n : Nat} {l : List Nat} : Da (n + 1) (dN l) (.tuple (l.map fun z : Nat => PyData.int (z : Int))) := DaL.tup (DaL.map (fun _ => .int) l)
theorem w2s_dNpush {mk : List D → Sto → Option (D × Sto)} {l : List Nat} {k : Nat} {S : Sto} {Q : D → Sto → Prop} (h : l.length ≤ 1000) (q : Q (dN (l ++ [k])) S) : w2s (fPlus mk) (dN l) (.tup [.int (k : Int)]) S Q := by
  unfold dN at *
  refine w2s_plusT (by simp; omega) ?_
  rw [List.map_append] at q
  exact q
/-- sizes that multiply exactly -/
structure Sw (n : Nat) (q : Rat) : Prop where
  num : q.num.natAbs ≤ 2 ^ n
  den : q.den ≤ 2 ^ n
theorem Sw.sm {n : Nat} {q : Rat} (h : Sw n q) : Sm (n + 1) q := by
  have := h.num
  have := h.den
  have : 0 < 2 ^ n := Nat.pow_pos (by omega)
  constructor <;> unfold DL.Bt <;> rw [Nat.pow_succ] <;> omega
theorem Sm.sw {n : Nat} {q : Rat} (h : Sm n q) : Sw n q := by
  have a := h.num
  have b := h.den
  unfold DL.Bt at *
  constructor <;> omega
theorem Sw.one {n : Nat} : Sw n 1 := ⟨Nat.pow_pos (by omega), Nat.pow_pos (by omega)⟩
theorem Sw.mono {n m : Nat} {q : Rat} (h : Sw n q) (hm : n ≤ m) : Sw m q := ⟨Nat.le_trans h.num (Nat.pow_le_pow_right (by omega) hm), Nat.le_trans h.den (Nat.pow_le_pow_right (by omega) hm)⟩
theorem Sw.divI {n : Nat} {a b : Int} (hb : 0 < b) (ha : a.natAbs ≤ 2 ^ n) (hb2 : b.natAbs ≤ 2 ^ n) : Sw n ((a : Rat) / (b : Rat)) := by
  constructor
  · rw [low_num a b hb]
    have hg : (Int.gcd a b : Int) ∣ a := Int.gcd_dvd_left ..
    rw [Int.fdiv_eq_ediv_of_dvd hg]
    have := Int.natAbs_ediv_le_natAbs a (Int.gcd a b : Int)
    omega
  · have e := low_den a b hb
    have hg : (Int.gcd a b : Int) ∣ b := Int.gcd_dvd_right ..
    rw [Int.fdiv_eq_ediv_of_dvd hg] at e
    have := Int.natAbs_ediv_le_natAbs b (Int.gcd a b : Int)
    omega
theorem Sw.mul {n m : Nat} {x y : Rat} (hx : Sw n x) (hy : Sw m y) : Sw (n + m) (x * y) := by
  rw [mul_eq]
  refine Sw.divI (Int.mul_pos (den_posI x) (den_posI y)) ?_ ?_
  · rw [Int.natAbs_mul, Nat.pow_add]
    exact Nat.mul_le_mul hx.num hy.num
  · rw [Int.natAbs_mul, Nat.pow_add, Int.natAbs_natCast, Int.natAbs_natCast]
    exact Nat.mul_le_mul hx.den hy.den
theorem Sw.pow {n : Nat} {x : Rat} (hx : Sw n x) : ∀ k : Nat, Sw (n * k) (x ^ k)
  | 0 => by rw [Rat.pow_zero]; exact .one
  | k + 1 => by rw [Rat.pow_succ, Nat.mul_succ]; exact (Sw.pow hx k).mul hx
theorem Sw.inv {n : Nat} {x : Rat} (hx : Sw n x) (h : 0 < x) : Sw n x⁻¹ := by
  have e1 := inv_num h
  have e2 := inv_den h
  have a := hx.num
  have b := hx.den
  have := num_pos h
  constructor <;> omega
open PySem.PyData in
theorem fIn_lst {α : Type} {n m : Nat} {neg : Bool} {f : α → D} {g : α → PyData} {x : D} {p : PyData} {xs : List α} {S : Sto} (h : ∀ y, Da n (f y) (g y)) (hx : Da m x p) (hm : m ≤ 60 := by decide) :
    fInB neg x (.lst (xs.map f)) S = some (.bl (neg ^^ xs.any fun y => PyData.eqv (g y) p)) := by
  have hl := DaL.map h xs
  unfold fInB
  simp only [hx.eq, toP, hl.eq, itemsP]
  rw [if_pos ⟨plainAll_of_canLay0 _ hl.lay, plain_of_canLay0 _ hx.lay, Nat.le_trans hx.dep hm⟩, List.any_map]
  rfl
theorem big {a n : Nat} (h : a < 2 ^ 100) (hn : 100 ≤ n) : a < 2 ^ n := Nat.lt_of_lt_of_le h (Nat.pow_le_pow_right (by omega) hn)
def garb (n : Nat) (t tab : Nat → Nat → Rat) : Nat → Nat → Rat := fun w j => rs (fun s => t w s * tab s j) n
def pull (n : Nat) (g tab : Nat → Nat → Rat) : Nat → Nat → Rat := fun w s => rs (fun j => tab s j * g w j) n
def heardv (m n : Nat) (t : Nat → Nat → Rat) (ws : Nat → Rat) (g : Nat → Nat → Rat) : Rat := rs (fun w => rs (fun s => ws w * (t w s * g w s)) n) m
theorem In.rs_le {B M : Nat} (hB : 0 < B) {f : Nat → Rat} {m i : Nat} (h : ∀ i, i < m → In B M (f i)) (hi : i ≤ m) : In B (m * M) (PL.rs f i) :=
  (In.rs hB fun j hj => h j (by omega)).mono (Nat.dvd_refl _) (Nat.mul_le_mul_right M hi)
theorem dQ_num {a b : Int} {q : Rat} (hb : 0 < b) (e : (a : Rat) / (b : Rat) = q) : D.tup [.int (a.fdiv (Int.gcd a b : Int)), .int (b.fdiv (Int.gcd a b : Int))] = dQ q := by
  rw [← e]
  unfold dQ
  rw [low_num a b hb, low_den a b hb]
def nsum (p : Nat → Nat) : Nat → Nat
  | 0 => 0
  | k + 1 => nsum p k + p k
theorem nsum_list (l : List Nat) : nsum (fun i => l.getD i 0) l.length = l.sum := by
  have : ∀ k, k ≤ l.length → nsum (fun i => l.getD i 0) k = (l.take k).sum := by
    intro k hk
    induction k with
    | zero => simp [nsum]
    | succ k ih =>
      have hk' : k < l.length := by omega
      have e : l.take (k + 1) = l.take k ++ [l[k]] := by rw [List.take_succ, List.getElem?_eq_getElem hk']; rfl
      rw [e, List.sum_append]
      show nsum _ k + l.getD k 0 = _
      rw [ih (by omega)]
      have : l.getD k 0 = l[k] := by simp [hk']
      rw [this]
      simp
  have := this l.length (Nat.le_refl _)
  rwa [List.take_length] at this
theorem nsum_le {p : Nat → Nat} : ∀ {m k : Nat}, k ≤ m → nsum p k ≤ nsum p m
  | 0, k, h => by cases Nat.le_zero.mp h; exact Nat.le_refl _
  | m + 1, k, h => by
    rcases Nat.lt_or_ge k (m + 1) with h1 | h1
    · exact Nat.le_trans (nsum_le (Nat.le_of_lt_succ h1)) (Nat.le_add_right _ _)
    · cases Nat.le_antisymm h h1; exact Nat.le_refl _
theorem dQ_of {a b : Int} {q : Rat} (h1 : q.num = a) (h2 : (q.den : Int) = b) : D.tup [.int a, .int b] = dQ q := by unfold dQ; rw [h1, h2]
theorem is_nsum {z : Nat → Nat} : ∀ {m : Nat}, is (fun i => ((z i : Nat) : Int)) m = ((nsum z m : Nat) : Int)
  | 0 => rfl
  | m + 1 => by
    show is _ m + ((z m : Nat) : Int) = ((nsum z m + z m : Nat) : Int)
    rw [is_nsum]
    omega
theorem nsum_bound {z : Nat → Nat} {c : Nat} : ∀ {m : Nat}, (∀ i, i < m → z i ≤ c) → nsum z m ≤ m * c
  | 0, _ => by simp [nsum]
  | m + 1, h => by
    have a := nsum_bound (m := m) fun i hi => h i (by omega)
    have b := h m (by omega)
    rw [Nat.add_mul, Nat.one_mul]
    show nsum z m + z m ≤ _
    omega
theorem nsum_ge {z : Nat → Nat} : ∀ {m i : Nat}, i < m → z i ≤ nsum z m
  | m + 1, i, h => by
    show z i ≤ nsum z m + z m
    rcases Nat.lt_or_ge i m with c | c
    · exact Nat.le_trans (nsum_ge c) (Nat.le_add_right _ _)
    · have : i = m := by omega
      subst this
      exact Nat.le_add_left _ _
theorem ix_nat {n r : Nat} (h : r < n) : L2.ixN n (r : Int) = some r := by
  unfold L2.ixN
  rw [if_pos (by omega), if_pos (by omega)]
  rfl
theorem Sm.lit {q : Rat} {n : Nat} (h1 : q.num.natAbs < 2 ^ n) (h2 : q.den < 2 ^ n) : Sm n q := ⟨h1, by unfold DL.Bt; omega⟩
/-! slices with a step, all, any of a list -/
def wSlS (d : D) (l h k : Option Int) (S : Sto) (Q : D → Sto → Prop) : Prop := ∃ z S', fSlS d l h k S = some (z, S') ∧ Q z S'
theorem wE_slS {a : RE} {lo hi st : RO} {ρ : En} {S : Sto} {Q : D → Sto → Prop} (h : wE a ρ S fun d S1 => wO lo ρ S1 fun l S2 => wO hi ρ S2 fun u S3 => wO st ρ S3 fun k S4 => wSlS d l u k S4 Q) : wE (eSlS a lo hi st) ρ S Q := by
  obtain ⟨d, S1, e1, l, S2, e2, u, S3, e3, k, S4, e4, z, S', e5, q⟩ := h
  exact ⟨z, S', by simp only [eSlS, e1, e2, e3, e4]; exact e5, q⟩
theorem wSlS_tup {xs : List D} {l h k : Option Int} {S : Sto} {Q : D → Sto → Prop} (h0 : k ≠ some 0) (hl : (pickL xs (stepIx xs.length l h k)).length ≤ 1000000) (q : Q (.tup (pickL xs (stepIx xs.length l h k))) S) : wSlS (.tup xs) l h k S Q :=
  ⟨_, S, by simp only [fSlS]; rw [if_pos ⟨h0, hl⟩], q⟩
theorem blsD_map {α : Type} {p : α → Bool} : ∀ xs : List α, blsD (xs.map fun x => D.bl (p x)) = some (xs.map p)
  | [] => rfl
  | x :: xs => by
    rw [List.map_cons]
    unfold blsD
    rw [blsD_map xs]
    rfl
theorem wF_allL {m : Nat} {p : Nat → Bool} {S : Sto} {Q : D → Sto → Prop} (q : Q (.bl ((List.range m).all p)) S) : wF fAllL [.lst (rg m fun i => .bl (p i))] S Q :=
  ⟨_, S, by
    unfold rg
    simp only [fAllL, seqD, blsD_map]
    rw [List.all_map]
    rfl, q⟩
theorem wF_anyL {m : Nat} {p : Nat → Bool} {S : Sto} {Q : D → Sto → Prop} (q : Q (.bl ((List.range m).any p)) S) : wF fAnyL [.lst (rg m fun i => .bl (p i))] S Q :=
  ⟨_, S, by
    unfold rg
    simp only [fAnyL, seqD, blsD_map]
    rw [List.any_map]
    rfl, q⟩
/-- every k-th item from i on -/
theorem pick_step {m k i c : Nat} {f : Nat → D} (hk : 1 ≤ k) (hi : i < k) (hm : m = c * k) : pickL (rg m f) (stepIx m (some (i : Int)) none (some (k : Int))) = rg c fun j => f (i + j * k) := by
  have e1 : Builtin.Slice.sliceAdjust (some (i : Int)) none ((some (k : Int)).getD 1) (m : Int) = (((min i m : Nat) : Int), (m : Int)) := by
    have h1 : ¬ ((k : Int) < 0) := by omega
    have h2 : ¬ ((i : Int) < 0) := by omega
    unfold Builtin.Slice.sliceAdjust
    simp only [Option.getD_some, h1, h2, if_false]
    refine Prod.ext ?_ rfl
    show min (i : Int) (m : Int) = _
    omega
  have e2 : stepIx m (some (i : Int)) none (some (k : Int)) = (List.range c).map fun j => i + j * k := by
    unfold stepIx
    rw [e1]
    have hp : Builtin.Slice.slicePlaces (((min i m : Nat) : Int)) (m : Int) ((some (k : Int)).getD 1) = c := by
      unfold Builtin.Slice.slicePlaces
      simp only [Option.getD_some]
      rw [if_pos (by omega)]
      rcases Nat.eq_zero_or_pos c with z | z
      · subst z
        rw [Nat.zero_mul] at hm
        subst hm
        rfl
      · have hle : k ≤ m := by rw [hm]; exact Nat.le_mul_of_pos_left k z
        have hmin : min i m = i := by omega
        rw [hmin, if_pos (by omega)]
        have : ((m : Int) - (i : Int) - 1) / (k : Int) = (c : Int) - 1 := by
          have e : (m : Int) - (i : Int) - 1 = ((k : Int) - 1 - (i : Int)) + ((c : Int) - 1) * (k : Int) := by
            have : (m : Int) = (c : Int) * (k : Int) := by rw [hm]; push_cast; rfl
            rw [this, Int.sub_mul]
            omega
          rw [e, Int.add_mul_ediv_right _ _ (by omega), Int.ediv_eq_zero_of_lt (by omega) (by omega)]
          omega
        rw [this]
        omega
    rw [hp]
    refine List.map_congr_left fun j hj => ?_
    have hj := List.mem_range.mp hj
    have hle : k ≤ m := by rw [hm]; exact Nat.le_mul_of_pos_left k (by omega)
    have hmin : min i m = i := by omega
    rw [hmin]
    simp only [Option.getD_some]
    have : ((i : Nat) : Int) + (j : Int) * (k : Int) = ((i + j * k : Nat) : Int) := by push_cast; rfl
    rw [this]
    rfl
  rw [e2]
  unfold pickL
  rw [List.filterMap_map]
  have : ∀ c', c' ≤ c → (List.range c').filterMap ((fun a => (rg m f)[a]?) ∘ fun j => i + j * k) = rg c' fun j => f (i + j * k) := by
    intro c' hc
    induction c' with
    | zero => rfl
    | succ c' ih =>
      have hlt : i + c' * k < m := by
        have : (c' + 1) * k ≤ c * k := Nat.mul_le_mul_right _ hc
        rw [Nat.add_mul, Nat.one_mul] at this
        omega
      rw [List.range_succ, List.filterMap_append, ih (by omega), rg_succ]
      congr 1
      rw [List.filterMap_cons]
      have e : ((fun a => (rg m f)[a]?) ∘ fun j => i + j * k) c' = some (f (i + c' * k)) := rg_at hlt
      rw [e]
      rfl
  exact this c (Nat.le_refl _)
/-! == of rows; a filtered list beside the empty one -/
theorem eqvAll_map {α : Type} {g h : α → PyData} : ∀ xs : List α, PyData.eqvAll (xs.map g) (xs.map h) = xs.all fun x => PyData.eqv (g x) (h x)
  | [] => rfl
  | x :: xs => by
    rw [List.map_cons, List.map_cons, List.all_cons, ← eqvAll_map xs]
    rfl
theorem eqv_dT {m : Nat} {f g : Nat → Rat} : PyData.eqv (.tuple (rg m fun s => .tuple [.int (f s).num, .int ((f s).den : Int)])) (.tuple (rg m fun s => .tuple [.int (g s).num, .int ((g s).den : Int)])) = decide (∀ i, i < m → f i = g i) := by
  show PyData.eqvAll _ _ = _
  unfold rg
  rw [eqvAll_map]
  simp only [eqv_dQ]
  by_cases h : ∀ i, i < m → f i = g i
  · rw [decide_eq_true h, List.all_eq_true]
    exact fun i hi => decide_eq_true (h i (List.mem_range.mp hi))
  · rw [decide_eq_false h, List.all_eq_false]
    refine Classical.byContradiction fun hc => h fun i hi => Classical.byContradiction fun hne => hc ⟨i, List.mem_range.mpr hi, ?_⟩
    rw [decide_eq_false hne]
    decide
theorem eq_dTs {m : Nat} {f g : Nat → Rat} {S : Sto} : fEq (dT m f) (dT m g) S = some (.bl (decide (∀ i, i < m → f i = g i))) := by
  rw [fEq_da (n := 2) (m := 2) (da_dT (n := 0)) (da_dT (n := 0)), eqv_dT]
theorem eq_dMs {m n : Nat} {f g : Nat → Nat → Rat} {S : Sto} : fEq (dM m n f) (dM m n g) S = some (.bl (decide (∀ i, i < m → ∀ j, j < n → f i j = g i j))) := by
  rw [fEq_da (n := 3) (m := 3) (da_dM (n := 0)) (da_dM (n := 0))]
  congr 2
  show PyData.eqvAll _ _ = _
  unfold rg
  rw [eqvAll_map]
  have e : ∀ w : Nat, PyData.eqv (.tuple ((List.range n).map fun s => .tuple [.int (f w s).num, .int ((f w s).den : Int)])) (.tuple ((List.range n).map fun s => .tuple [.int (g w s).num, .int ((g w s).den : Int)])) = decide (∀ j, j < n → f w j = g w j) := fun w => eqv_dT (f := f w) (g := g w)
  simp only [e]
  by_cases h : ∀ i, i < m → ∀ j, j < n → f i j = g i j
  · rw [decide_eq_true h, List.all_eq_true]
    exact fun i hi => decide_eq_true (h i (List.mem_range.mp hi))
  · rw [decide_eq_false h, List.all_eq_false]
    refine Classical.byContradiction fun hc => h fun i hi => Classical.byContradiction fun hne => hc ⟨i, List.mem_range.mpr hi, ?_⟩
    rw [decide_eq_false hne]
    decide
theorem fEq_lnil {n : Nat} {ds : List D} {ps : List PyData} {S : Sto} (h : DaL n ds ps) (hn : n < 64 := by decide) : fEq (.lst ds) (.lst []) S = some (.bl ds.isEmpty) := by
  rw [fEq_da h.lst (DaL.lst (n := 0) .nil) (by omega) (by decide)]
  show some (D.bl (PyData.eqvAll ps [])) = _
  rw [eqvAll_nil, toPs_len h.eq]
theorem fNe_lnil {n : Nat} {ds : List D} {ps : List PyData} {S : Sto} (h : DaL n ds ps) (hn : n < 64 := by decide) : fNe (.lst ds) (.lst []) S = some (.bl (!ds.isEmpty)) := by
  rw [fNe_da h.lst (DaL.lst (n := 0) .nil) (by omega) (by decide)]
  show some (D.bl (!PyData.eqvAll ps [])) = _
  rw [eqvAll_nil, toPs_len h.eq]
theorem filt_empty {α : Type} {m : Nat} {p : Nat → Bool} {r : Nat → α} : (((List.range m).filter p).map r).isEmpty = decide (∀ i, i < m → p i = false) := by
  by_cases h : ∀ i, i < m → p i = false
  · have e : (List.range m).filter p = [] := List.filter_eq_nil_iff.mpr fun i hi hp => by rw [h i (List.mem_range.mp hi)] at hp; cases hp
    rw [decide_eq_true h, e]
    rfl
  · rw [decide_eq_false h]
    have : ¬ (List.range m).filter p = [] := fun e => h fun i hi => by
      have := List.filter_eq_nil_iff.mp e i (List.mem_range.mpr hi)
      simpa using this
    cases hf : (List.range m).filter p with
    | nil => exact absurd hf this
    | cons a b => rfl
theorem filt_eq {n m : Nat} {p : Nat → Bool} {r : Nat → D} {g : Nat → PyData} {S : Sto} (h : ∀ i, Da n (r i) (g i)) (hn : n < 64 := by decide) : fEq (.lst (((List.range m).filter p).map r)) (.lst []) S = some (.bl (decide (∀ i, i < m → p i = false))) := by
  rw [fEq_lnil (DaL.map h _) hn, filt_empty]
theorem filt_ne {n m : Nat} {p : Nat → Bool} {r : Nat → D} {g : Nat → PyData} {S : Sto} (h : ∀ i, Da n (r i) (g i)) (hn : n < 64 := by decide) : fNe (.lst (((List.range m).filter p).map r)) (.lst []) S = some (.bl (!decide (∀ i, i < m → p i = false))) := by
  rw [fNe_lnil (DaL.map h _) hn, filt_empty]
theorem rs_update {f : Nat → Rat} {x : Rat} {i : Nat} : ∀ {m : Nat}, i < m → rs (fun c => if c = i then x else f c) m = rs f m - f i + x
  | m + 1, h => by
    show rs (fun c => if c = i then x else f c) m + (if m = i then x else f m) = rs f m + f m - f i + x
    by_cases e : m = i
    · subst e
      rw [if_pos rfl, rs_congr (f := fun c => if c = m then x else f c) (g := f) fun c hc => if_neg (by omega)]
      grind
    · rw [if_neg e, rs_update (m := m) (by omega)]
      grind
end PL

set_option maxRecDepth 100000
set_option maxHeartbeats 4000000
set_option pp.maxSteps 900
namespace LW
open PySem PySem.Spec PyProof.Rows L2 GX DL LamX
open Classical
def topS (i : Nat) : Stmt := PySem.Challenge.pw_moretold_k02_tables_and_garbling.main.body.getD i (.Pass ⟨0, 0, 0, 0⟩)
abbrev s_is_whole : Stmt := topS 1
abbrev N_is_whole : List Str := ["value"]
theorem sc_is_whole : FnScope N_is_whole ["value"] (defScope s_is_whole) := sc_by (by decide +kernel)
theorem bd_is_whole : BindsP s_is_whole ["value"] := fun _ _ _ _ _ _ _ us hl => match us, hl with | [_], _ => rfl
noncomputable def t_is_whole : RS := (sRet (eAnd (e1 (fIsi "int") (eV 0)) (e1 fNot (e1 (fIsi "bool") (eV 0)))))
noncomputable def F_is_whole : FD := fnD 1 1 finP t_is_whole
abbrev s_common_part : Stmt := topS 2
abbrev N_common_part : List Str := ["one", "other"]
theorem sc_common_part : FnScope N_common_part ["one", "other"] (defScope s_common_part) := sc_by (by decide +kernel)
theorem bd_common_part : BindsP s_common_part ["one", "other"] := fun _ _ _ _ _ _ _ us hl => match us, hl with | [_, _], _ => rfl
noncomputable def t_common_part : RS := (sSeq (sPar 0 1 (aCons (eA fAbs (aCons (eV 0) aNil)) (aCons (eA fAbs (aCons (eV 1) aNil)) aNil)))
    (sSeq (sWhile fuelI (tTru (eV 1)) (sPar 0 1 (aCons (eV 1) (aCons (e2 fMod (eV 0) (eV 1)) aNil))))
    (sRet (eV 0))))
noncomputable def F_common_part : FD := fnD 2 2 finP t_common_part
abbrev s_lowest : Stmt := topS 3
abbrev N_lowest : List Str := ["top", "bottom", "part"]
theorem sc_lowest : FnScope N_lowest ["top", "bottom"] (defScope s_lowest) := sc_by (by decide +kernel)
theorem bd_lowest : BindsP s_lowest ["top", "bottom"] := fun _ _ _ _ _ _ _ us hl => match us, hl with | [_, _], _ => rfl
noncomputable def t_lowest : RS := (sSeq (sSet 2 (eA F_common_part (aCons (eV 0) (aCons (eV 1) aNil))))
    (sSeq (sIf (tBl (e2 (fCmp fun i j => decide (i < j)) (eV 1) (eC (.int 0)))) (sSet 2 (e1 fNeg (eV 2))) sPass)
    (sRet (eA fTup (aCons (e2 fDiv (eV 0) (eV 2)) (aCons (e2 fDiv (eV 1) (eV 2)) aNil))))))
noncomputable def F_lowest : FD := fnD 2 3 finP t_lowest
abbrev s_is_broken : Stmt := topS 4
abbrev N_is_broken : List Str := ["value", "top", "bottom"]
theorem sc_is_broken : FnScope N_is_broken ["value"] (defScope s_is_broken) := sc_by (by decide +kernel)
theorem bd_is_broken : BindsP s_is_broken ["value"] := fun _ _ _ _ _ _ _ us hl => match us, hl with | [_], _ => rfl
noncomputable def t_is_broken : RS := (sSeq (sIf (tOrD (tNotD (tTru (e1 (fIsi "tuple") (eV 0)))) (tBl (e2 fNe (eA fLen (aCons (eV 0) aNil)) (eC (.int 2))))) (sRet (eC (.bl false))) sPass)
    (sSeq (sAsg (eV 0) (gTp 2 (gsCons (gNm 1) (gsCons (gNm 2) gsNil))))
    (sSeq (sIf (tOrD (tNotD (tTru (eA F_is_whole (aCons (eV 1) aNil)))) (tNotD (tTru (eA F_is_whole (aCons (eV 2) aNil))))) (sRet (eC (.bl false))) sPass)
    (sRet (eAnd (e2 (fCmp fun i j => decide (j ≤ i)) (eV 2) (eC (.int 1))) (e2 fEq (eA F_common_part (aCons (eV 1) (aCons (eV 2) aNil))) (eC (.int 1))))))))
noncomputable def F_is_broken : FD := fnD 1 3 finP t_is_broken
abbrev s_bottom_of : Stmt := topS 5
abbrev N_bottom_of : List Str := ["fractions", "bottom", "one"]
theorem sc_bottom_of : FnScope N_bottom_of ["fractions"] (defScope s_bottom_of) := sc_by (by decide +kernel)
theorem bd_bottom_of : BindsP s_bottom_of ["fractions"] := fun _ _ _ _ _ _ _ us hl => match us, hl with | [_], _ => rfl
noncomputable def t_bottom_of : RS := (sSeq (sSet 1 (eC (.int 1)))
    (sSeq (sFor (iSeq (eV 0)) (gNm 2) (sSet 1 (e2s (fTimes fLst) (e2 fDiv (eV 1) (eA F_common_part (aCons (eV 1) (aCons (e2 fIx (eV 2) (eC (.int 1))) aNil)))) (e2 fIx (eV 2) (eC (.int 1))))))
    (sRet (eV 1))))
noncomputable def F_bottom_of : FD := fnD 1 3 finP t_bottom_of
abbrev s_wholes : Stmt := topS 6
abbrev N_wholes : List Str := ["fractions", "bottom", "one"]
theorem sc_wholes : FnScope N_wholes ["fractions", "bottom"] (defScope s_wholes) := sc_by (by decide +kernel)
theorem bd_wholes : BindsP s_wholes ["fractions", "bottom"] := fun _ _ _ _ _ _ _ us hl => match us, hl with | [_, _], _ => rfl
noncomputable def t_wholes : RS := (sRet (eLc fTup (iSeq (eV 0)) (gNm 2) tYesD (e2s (fTimes fLst) (e2 fIx (eV 2) (eC (.int 0))) (e2 fDiv (eV 1) (e2 fIx (eV 2) (eC (.int 1))))) [2]))
noncomputable def F_wholes : FD := fnD 2 3 finP t_wholes
abbrev s_rows_over : Stmt := topS 7
abbrev N_rows_over : List Str := ["rows", "bottom", "row", "one"]
theorem sc_rows_over : FnScope N_rows_over ["rows"] (defScope s_rows_over) := sc_by (by decide +kernel)
theorem bd_rows_over : BindsP s_rows_over ["rows"] := fun _ _ _ _ _ _ _ us hl => match us, hl with | [_], _ => rfl
noncomputable def t_rows_over : RS := (sSeq (sSet 1 (eA F_bottom_of (aCons (eLc2 fLst (iSeq (eV 0)) (gNm 2) tYesD (iSeq (eV 2)) (gNm 3) tYesD (eV 3) [2, 3] [3]) aNil)))
    (sRet (eA fTup (aCons (eV 1) (aCons (eLc fTup (iSeq (eV 0)) (gNm 2) tYesD (eA F_wholes (aCons (eV 2) (aCons (eV 1) aNil))) [2]) aNil)))))
noncomputable def F_rows_over : FD := fnD 1 4 finP t_rows_over
abbrev s_total : Stmt := topS 8
abbrev N_total : List Str := ["fractions", "bottom"]
theorem sc_total : FnScope N_total ["fractions"] (defScope s_total) := sc_by (by decide +kernel)
theorem bd_total : BindsP s_total ["fractions"] := fun _ _ _ _ _ _ _ us hl => match us, hl with | [_], _ => rfl
noncomputable def t_total : RS := (sSeq (sSet 1 (eA F_bottom_of (aCons (eV 0) aNil)))
    (sRet (eA F_lowest (aCons (eA fSum (aCons (eA F_wholes (aCons (eV 0) (aCons (eV 1) aNil))) aNil)) (aCons (eV 1) aNil)))))
noncomputable def F_total : FD := fnD 1 2 finP t_total
abbrev s_is_chance : Stmt := topS 10
abbrev N_is_chance : List Str := ["value"]
theorem sc_is_chance : FnScope N_is_chance ["value"] (defScope s_is_chance) := sc_by (by decide +kernel)
theorem bd_is_chance : BindsP s_is_chance ["value"] := fun _ _ _ _ _ _ _ us hl => match us, hl with | [_], _ => rfl
noncomputable def t_is_chance : RS := (sRet (eAnd (eA F_is_broken (aCons (eV 0) aNil)) (e2 (fCmp fun i j => decide (j ≤ i)) (e2 fIx (eV 0) (eC (.int 0))) (eC (.int 0)))))
noncomputable def F_is_chance : FD := fnD 1 1 finP t_is_chance
abbrev s_are_chances : Stmt := topS 11
abbrev N_are_chances : List Str := ["value", "many", "one"]
theorem sc_are_chances : FnScope N_are_chances ["value", "many"] (defScope s_are_chances) := sc_by (by decide +kernel)
theorem bd_are_chances : BindsP s_are_chances ["value", "many"] := fun _ _ _ _ _ _ _ us hl => match us, hl with | [_, _], _ => rfl
noncomputable def t_are_chances : RS := (sSeq (sIf (tOrD (tNotD (tTru (e1 (fIsi "tuple") (eV 0)))) (tBl (e2 fNe (eA fLen (aCons (eV 0) aNil)) (eV 1)))) (sRet (eC (.bl false))) sPass)
    (sRet (eAnd (eBl (tGenQ false (iSeq (eV 0)) (gNm 2) tYesD (eA F_is_chance (aCons (eV 2) aNil)) [2])) (e2 fEq (eA F_total (aCons (eV 0) aNil)) (eA fTup (aCons (eC (.int 1)) (aCons (eC (.int 1)) aNil)))))))
noncomputable def F_are_chances : FD := fnD 2 3 finP t_are_chances
abbrev s_is_table : Stmt := topS 12
abbrev N_is_table : List Str := ["value", "m", "k", "row"]
theorem sc_is_table : FnScope N_is_table ["value", "m", "k"] (defScope s_is_table) := sc_by (by decide +kernel)
theorem bd_is_table : BindsP s_is_table ["value", "m", "k"] := fun _ _ _ _ _ _ _ us hl => match us, hl with | [_, _, _], _ => rfl
noncomputable def t_is_table : RS := (sRet (eAnd (e1 (fIsi "tuple") (eV 0)) (eAnd (e2 fEq (eA fLen (aCons (eV 0) aNil)) (eV 1)) (eBl (tGenQ false (iSeq (eV 0)) (gNm 3) tYesD (eA F_are_chances (aCons (eV 3) (aCons (eV 2) aNil))) [3])))))
noncomputable def F_is_table : FD := fnD 3 4 finP t_is_table
abbrev s_garbled : Stmt := topS 13
abbrev N_garbled : List Str := ["telling", "table", "under", "rows", "made", "row", "bottom", "chances", "sums", "chance", "cells", "_", "one", "old", "cell"]
theorem sc_garbled : FnScope N_garbled ["telling", "table"] (defScope s_garbled) := sc_by (by decide +kernel)
theorem bd_garbled : BindsP s_garbled ["telling", "table"] := fun _ _ _ _ _ _ _ us hl => match us, hl with | [_, _], _ => rfl
noncomputable def t_garbled : RS := (sSeq (sAsg (eA F_rows_over (aCons (eV 1) aNil)) (gTp 2 (gsCons (gNm 2) (gsCons (gNm 3) gsNil))))
    (sSeq (sSet 4 (eA fObj aNil))
    (sSeq (sFor (iSeq (eV 0)) (gNm 5) (sSeq (sSet 6 (eA F_bottom_of (aCons (eV 5) aNil)))
    (sSeq (sSet 7 (eA F_wholes (aCons (eV 5) (aCons (eV 6) aNil))))
    (sSeq (sSet 8 (eLc fLst (iSeq (e2 fIx (eV 3) (eC (.int 0)))) (gNm 11) tYesD (eC (.int 0)) [11]))
    (sSeq (sFor (iZip (aCons (eV 7) (aCons (eV 3) aNil))) (gTp 2 (gsCons (gNm 9) (gsCons (gNm 10) gsNil))) (sIf (tTru (eV 9)) (sSet 8 (eLc fLst (iZip (aCons (eV 8) (aCons (eV 10) aNil))) (gTp 2 (gsCons (gNm 13) (gsCons (gNm 14) gsNil))) tYesD (e2s (fPlus fLst) (eV 13) (e2s (fTimes fLst) (eV 9) (eV 14))) [13, 14])) sPass))
    (sExpr (eM fAppend (eV 4) (aCons (eLc fTup (iSeq (eV 8)) (gNm 12) tYesD (eA F_lowest (aCons (eV 12) (aCons (e2s (fTimes fLst) (eV 6) (eV 2)) aNil))) [12]) aNil))))))))
    (sRet (eA fTupOf (aCons (eV 4) aNil))))))
noncomputable def F_garbled : FD := fnD 2 15 finP t_garbled
abbrev s_composed : Stmt := topS 15
abbrev N_composed : List Str := ["table", "other"]
theorem sc_composed : FnScope N_composed ["table", "other"] (defScope s_composed) := sc_by (by decide +kernel)
theorem bd_composed : BindsP s_composed ["table", "other"] := fun _ _ _ _ _ _ _ us hl => match us, hl with | [_, _], _ => rfl
noncomputable def t_composed : RS := (sRet (eA F_garbled (aCons (eV 0) (aCons (eV 1) aNil))))
noncomputable def F_composed : FD := fnD 2 2 finP t_composed
abbrev s__law_mixed : Stmt := topS 17
abbrev N__law_mixed : List Str := ["number", "k", "first", "second"]
theorem sc__law_mixed : FnScope N__law_mixed ["number", "k"] (defScope s__law_mixed) := sc_by (by decide +kernel)
theorem bd__law_mixed : BindsP s__law_mixed ["number", "k"] := fun _ _ _ _ _ _ _ us hl => match us, hl with | [_, _], _ => rfl
noncomputable def t__law_mixed : RS := (sSeq (sSet 2 (e2 fMod (eA fInt1 (aCons (e2s (fPlus fLst) (e2s (fPlus fLst) (e2s (fTimes fLst) (eV 0) (eC (.int 48271))) (e2s (fTimes fLst) (eV 1) (eC (.int 69621)))) (eC (.int 97))) aNil)) (eC (.int 2147483647))))
    (sSeq (sSet 3 (e2 fMod (eA fInt1 (aCons (e2s (fPlus fLst) (e2s (fPlus fLst) (e2s (fTimes fLst) (eV 2) (e2s (fPlus fLst) (e2s (fPlus fLst) (eV 2) (e2s (fTimes fLst) (eC (.int 2)) (eV 1))) (eC (.int 1)))) (e2s (fTimes fLst) (eV 1) (eC (.int 16807)))) (eC (.int 31))) aNil)) (eC (.int 2147483629))))
    (sRet (e2 fMod (eA fInt1 (aCons (e2s (fPlus fLst) (e2s (fTimes fLst) (eV 3) (eC (.int 40692))) (eV 2)) aNil)) (eC (.int 2147483587))))))
noncomputable def F__law_mixed : FD := fnD 2 4 finP t__law_mixed
abbrev s__law_start : Stmt := topS 18
abbrev N__law_start : List Str := ["script", "seed", "cell"]
theorem sc__law_start : FnScope N__law_start ["script"] (defScope s__law_start) := sc_by (by decide +kernel)
theorem bd__law_start : BindsP s__law_start ["script"] := fun _ _ _ _ _ _ _ us hl => match us, hl with | [_], _ => rfl
noncomputable def t__law_start : RS := (sSeq (sSet 1 (eA fLen (aCons (eV 0) aNil)))
    (sSeq (sFor (iSeq (eSl fLst (eV 0) oNo (oSome (eC (.int 63))))) (gNm 2) (sSet 1 (eA F__law_mixed (aCons (e2s (fPlus fLst) (eV 1) (eV 2)) (aCons (eC (.int 5)) aNil)))))
    (sRet (eA fObj (aCons (eC (.int 0)) (aCons (eC (.int 0)) (aCons (eC (.int 0)) (aCons (eV 1) (aCons (eA fListF (aCons (eSl fLst (eV 0) oNo (oSome (eC (.int 63)))) aNil)) (aCons (eC (.int 0)) aNil))))))))))
noncomputable def F__law_start : FD := fnD 1 3 finK t__law_start
abbrev s__law_take : Stmt := topS 19
abbrev N__law_take : List Str := ["state", "limit", "cells", "cell", "value"]
theorem sc__law_take : FnScope N__law_take ["state", "limit"] (defScope s__law_take) := sc_by (by decide +kernel)
theorem bd__law_take : BindsP s__law_take ["state", "limit"] := fun _ _ _ _ _ _ _ us hl => match us, hl with | [_, _], _ => rfl
noncomputable def t__law_take : RS := (sSeq (sSet 2 (e2 fIx (eV 0) (eC (.int 4))))
    (sSeq (sAugIx fAdd (eV 0) (eC (.int 2)) (eC (.int 1)))
    (sSeq (sIf (tAndD (tBl (e2 fEq (e2 fIx (eV 0) (eC (.int 0))) (eC (.int 0)))) (tBl (e2 (fCmp fun i j => decide (i < j)) (e2 fIx (eV 0) (eC (.int 1))) (eA fLen (aCons (eV 2) aNil))))) (sSeq (sSet 3 (e2 fIx (eV 2) (e2 fIx (eV 0) (eC (.int 1)))))
    (sSeq (sAugIx fAdd (eV 0) (eC (.int 1)) (eC (.int 1)))
    (sSeq (sIf (tBl (e2 (fCmp fun i j => decide (i < j)) (eA fAbs (aCons (eV 3) aNil)) (e2 fPow (eC (.int 10)) (eC (.int 18))))) (sRet (e2 fMod (eA fInt1 (aCons (eA F__law_mixed (aCons (eV 3) (aCons (e2 fIx (eV 0) (eC (.int 2))) aNil))) aNil)) (eV 1))) sPass)
    (sSeq (sAsg (eA fAbs (aCons (eV 3) aNil)) (gIx (eV 0) (eC (.int 0))))
    (sAsg (eC (.int 60)) (gIx (eV 0) (eC (.int 5)))))))) sPass)
    (sSeq (sIf (tBl (e2 fEq (e2 fIx (eV 0) (eC (.int 0))) (eC (.int 0)))) (sRet (e2 fMod (eA fInt1 (aCons (eA F__law_mixed (aCons (e2 fIx (eV 0) (eC (.int 3))) (aCons (e2 fIx (eV 0) (eC (.int 2))) aNil))) aNil)) (eV 1))) sPass)
    (sSeq (sSet 4 (e2 fMod (eA fInt1 (aCons (e2 fIx (eV 0) (eC (.int 0))) aNil)) (eV 1)))
    (sSeq (sAugIx fSub (eV 0) (eC (.int 5)) (eC (.int 1)))
    (sSeq (sAsg (e2s (fTimes fLst) (e2 fDiv (e2 fIx (eV 0) (eC (.int 0))) (eV 1)) (eA fInt1 (aCons (e2 (fCmp fun i j => decide (j < i)) (e2 fIx (eV 0) (eC (.int 5))) (eC (.int 0))) aNil))) (gIx (eV 0) (eC (.int 0))))
    (sRet (eV 4)))))))))
noncomputable def F__law_take : FD := fnD 2 5 finM t__law_take
abbrev s__law_pick : Stmt := topS 20
abbrev N__law_pick : List Str := ["state", "some"]
theorem sc__law_pick : FnScope N__law_pick ["state", "some"] (defScope s__law_pick) := sc_by (by decide +kernel)
theorem bd__law_pick : BindsP s__law_pick ["state", "some"] := fun _ _ _ _ _ _ _ us hl => match us, hl with | [_, _], _ => rfl
noncomputable def t__law_pick : RS := (sRet (e2 fIx (eV 1) (eA F__law_take (aCons (eV 0) (aCons (eA fLen (aCons (eV 1) aNil)) aNil)))))
noncomputable def F__law_pick : FD := fnD 2 2 finM t__law_pick
abbrev s__law_same : Stmt := topS 21
abbrev N__law_same : List Str := ["told", "due", "k"]
theorem sc__law_same : FnScope N__law_same ["told", "due"] (defScope s__law_same) := sc_by (by decide +kernel)
theorem bd__law_same : BindsP s__law_same ["told", "due"] := fun _ _ _ _ _ _ _ us hl => match us, hl with | [_, _], _ => rfl
noncomputable def t__law_same (self : FD) : RS := (sSeq (sIf (tBl (e2 fIsN (eV 1) (eC .non))) (sRet (e2 fIsN (eV 0) (eC .non))) sPass)
    (sSeq (sIf (tTru (e1 (fIsi "bool") (eV 1))) (sRet (eAnd (e1 (fIsi "bool") (eV 0)) (e2 fEq (eV 0) (eV 1)))) sPass)
    (sSeq (sIf (tTru (e1 (fIsi "int") (eV 1))) (sRet (eAnd (e1 (fIsi "int") (eV 0)) (eAnd (e1 fNot (e1 (fIsi "bool") (eV 0))) (e2 fEq (eV 0) (eV 1))))) sPass)
    (sSeq (sIf (tTru (e1 (fIsi "str") (eV 1))) (sRet (eAnd (e1 (fIsi "str") (eV 0)) (e2 fEq (eV 0) (eV 1)))) sPass)
    (sSeq (sIf (tOrD (tNotD (tTru (e1 (fIsi "tuple") (eV 0)))) (tBl (e2 fNe (eA fLen (aCons (eV 0) aNil)) (eA fLen (aCons (eV 1) aNil))))) (sRet (eC (.bl false))) sPass)
    (sSeq (sFor (iRange1 (eA fLen (aCons (eV 1) aNil))) (gNm 2) (sIf (tNotD (tTru (eA self (aCons (e2 fIx (eV 0) (eV 2)) (aCons (e2 fIx (eV 1) (eV 2)) aNil))))) (sRet (eC (.bl false))) sPass))
    (sRet (eC (.bl true)))))))))
noncomputable def F__law_same : Nat → FD
  | 0 => fun _ _ => none
  | m + 1 => fnD 2 3 finP (t__law_same (F__law_same m))
abbrev s__law_is_due : Stmt := topS 22
abbrev N__law_is_due : List Str := ["told", "due"]
theorem sc__law_is_due : FnScope N__law_is_due ["told", "due"] (defScope s__law_is_due) := sc_by (by decide +kernel)
theorem bd__law_is_due : BindsP s__law_is_due ["told", "due"] := fun _ _ _ _ _ _ _ us hl => match us, hl with | [_, _], _ => rfl
noncomputable def t__law_is_due : RS := (sRet (eIf (tTru (eV 1)) (e2 fIsB (eV 0) (eC (.bl true))) (e2 fIsB (eV 0) (eC (.bl false)))))
noncomputable def F__law_is_due : FD := fnD 2 2 finP t__law_is_due
abbrev s__law_divisor : Stmt := topS 23
abbrev N__law_divisor : List Str := ["one", "other", "turn"]
theorem sc__law_divisor : FnScope N__law_divisor ["one", "other"] (defScope s__law_divisor) := sc_by (by decide +kernel)
theorem bd__law_divisor : BindsP s__law_divisor ["one", "other"] := fun _ _ _ _ _ _ _ us hl => match us, hl with | [_, _], _ => rfl
noncomputable def t__law_divisor : RS := (sSeq (sFor (iRange1 (eC (.int 10000))) (gNm 2) (sSeq (sIf (tBl (e2 fEq (eV 1) (eC (.int 0)))) sBreak sPass)
    (sPar 0 1 (aCons (eV 1) (aCons (e2 fMod (eA fInt1 (aCons (eV 0) aNil)) (eV 1)) aNil)))))
    (sRet (eV 0)))
noncomputable def F__law_divisor : FD := fnD 2 3 finP t__law_divisor
abbrev s__law_fraction : Stmt := topS 24
abbrev N__law_fraction : List Str := ["top", "below", "shared"]
theorem sc__law_fraction : FnScope N__law_fraction ["top", "below"] (defScope s__law_fraction) := sc_by (by decide +kernel)
theorem bd__law_fraction : BindsP s__law_fraction ["top", "below"] := fun _ _ _ _ _ _ _ us hl => match us, hl with | [_, _], _ => rfl
noncomputable def t__law_fraction : RS := (sSeq (sSet 2 (eA F__law_divisor (aCons (eA fAbs (aCons (eV 0) aNil)) (aCons (eV 1) aNil))))
    (sRet (eA fTup (aCons (e2 fDiv (eV 0) (eV 2)) (aCons (e2 fDiv (eV 1) (eV 2)) aNil)))))
noncomputable def F__law_fraction : FD := fnD 2 3 finP t__law_fraction
abbrev s__law_product : Stmt := topS 25
abbrev N__law_product : List Str := ["one", "other"]
theorem sc__law_product : FnScope N__law_product ["one", "other"] (defScope s__law_product) := sc_by (by decide +kernel)
theorem bd__law_product : BindsP s__law_product ["one", "other"] := fun _ _ _ _ _ _ _ us hl => match us, hl with | [_, _], _ => rfl
noncomputable def t__law_product : RS := (sRet (eA F__law_fraction (aCons (e2s (fTimes fLst) (e2 fIx (eV 0) (eC (.int 0))) (e2 fIx (eV 1) (eC (.int 0)))) (aCons (e2s (fTimes fLst) (e2 fIx (eV 0) (eC (.int 1))) (e2 fIx (eV 1) (eC (.int 1)))) aNil))))
noncomputable def F__law_product : FD := fnD 2 2 finP t__law_product
abbrev s__law_sum : Stmt := topS 26
abbrev N__law_sum : List Str := ["one", "other"]
theorem sc__law_sum : FnScope N__law_sum ["one", "other"] (defScope s__law_sum) := sc_by (by decide +kernel)
theorem bd__law_sum : BindsP s__law_sum ["one", "other"] := fun _ _ _ _ _ _ _ us hl => match us, hl with | [_, _], _ => rfl
noncomputable def t__law_sum : RS := (sRet (eA F__law_fraction (aCons (e2s (fPlus fLst) (e2s (fTimes fLst) (e2 fIx (eV 0) (eC (.int 0))) (e2 fIx (eV 1) (eC (.int 1)))) (e2s (fTimes fLst) (e2 fIx (eV 1) (eC (.int 0))) (e2 fIx (eV 0) (eC (.int 1))))) (aCons (e2s (fTimes fLst) (e2 fIx (eV 0) (eC (.int 1))) (e2 fIx (eV 1) (eC (.int 1)))) aNil))))
noncomputable def F__law_sum : FD := fnD 2 2 finP t__law_sum
abbrev s__law_total : Stmt := topS 27
abbrev N__law_total : List Str := ["parts", "found", "part"]
theorem sc__law_total : FnScope N__law_total ["parts"] (defScope s__law_total) := sc_by (by decide +kernel)
theorem bd__law_total : BindsP s__law_total ["parts"] := fun _ _ _ _ _ _ _ us hl => match us, hl with | [_], _ => rfl
noncomputable def t__law_total : RS := (sSeq (sSet 1 (eA fTup (aCons (eC (.int 0)) (aCons (eC (.int 1)) aNil))))
    (sSeq (sFor (iSeq (eV 0)) (gNm 2) (sSet 1 (eA F__law_sum (aCons (eV 1) (aCons (eV 2) aNil)))))
    (sRet (eV 1))))
noncomputable def F__law_total : FD := fnD 1 3 finP t__law_total
abbrev s__law_is_fraction : Stmt := topS 28
abbrev N__law_is_fraction : List Str := ["value", "one"]
theorem sc__law_is_fraction : FnScope N__law_is_fraction ["value"] (defScope s__law_is_fraction) := sc_by (by decide +kernel)
theorem bd__law_is_fraction : BindsP s__law_is_fraction ["value"] := fun _ _ _ _ _ _ _ us hl => match us, hl with | [_], _ => rfl
noncomputable def t__law_is_fraction : RS := (sSeq (sIf (tOrD (tNotD (tTru (e1 (fIsi "tuple") (eV 0)))) (tOrD (tBl (e2 fNe (eA fLen (aCons (eV 0) aNil)) (eC (.int 2)))) (tBl (e2 (fCmp fun i j => decide (j < i)) (eA fLen (aCons (eLc fLst (iSeq (eV 0)) (gNm 1) (tOrD (tNotD (tTru (e1 (fIsi "int") (eV 1)))) (tTru (e1 (fIsi "bool") (eV 1)))) (eV 1) [1]) aNil)) (eC (.int 0)))))) (sRet (eC (.bl false))) sPass)
    (sRet (eAnd (e2 (fCmp fun i j => decide (j < i)) (e2 fIx (eV 0) (eC (.int 1))) (eC (.int 0))) (e2 fEq (eA F__law_divisor (aCons (eA fAbs (aCons (e2 fIx (eV 0) (eC (.int 0))) aNil)) (aCons (e2 fIx (eV 0) (eC (.int 1))) aNil))) (eC (.int 1))))))
noncomputable def F__law_is_fraction : FD := fnD 1 2 finP t__law_is_fraction
abbrev s__law_row : Stmt := topS 29
abbrev N__law_row : List Str := ["state", "many", "belows", "below", "counts", "k", "count"]
theorem sc__law_row : FnScope N__law_row ["state", "many", "belows"] (defScope s__law_row) := sc_by (by decide +kernel)
theorem bd__law_row : BindsP s__law_row ["state", "many", "belows"] := fun _ _ _ _ _ _ _ us hl => match us, hl with | [_, _, _], _ => rfl
noncomputable def t__law_row : RS := (sSeq (sSet 3 (eA F__law_pick (aCons (eV 0) (aCons (eV 2) aNil))))
    (sSeq (sSet 4 (e2s (fTimes fObj) (eA fLst (aCons (eC (.int 0)) aNil)) (eV 1)))
    (sSeq (sFor (iRange1 (eV 3)) (gNm 5) (sAugIx fAdd (eV 4) (eA F__law_take (aCons (eV 0) (aCons (eV 1) aNil))) (eC (.int 1))))
    (sRet (eA fTupOf (aCons (eLc fLst (iSeq (eV 4)) (gNm 6) tYesD (eA F__law_fraction (aCons (eV 6) (aCons (eV 3) aNil))) [6]) aNil))))))
noncomputable def F__law_row : FD := fnD 3 7 finM t__law_row
abbrev s__law_telling : Stmt := topS 30
abbrev N__law_telling : List Str := ["state", "worlds", "signs", "rows", "k", "way", "at", "row"]
theorem sc__law_telling : FnScope N__law_telling ["state", "worlds", "signs"] (defScope s__law_telling) := sc_by (by decide +kernel)
theorem bd__law_telling : BindsP s__law_telling ["state", "worlds", "signs"] := fun _ _ _ _ _ _ _ us hl => match us, hl with | [_, _, _], _ => rfl
noncomputable def t__law_telling : RS := (sSeq (sSet 3 (eLc fLst (iRange1 (eV 1)) (gNm 4) tYesD (eA F__law_row (aCons (eV 0) (aCons (eV 2) (aCons (eA fLst (aCons (eC (.int 1)) (aCons (eC (.int 2)) (aCons (eC (.int 3)) (aCons (eC (.int 4)) (aCons (eC (.int 6)) (aCons (eC (.int 12)) aNil))))))) aNil)))) [4]))
    (sSeq (sAsg (eA fTup (aCons (eA F__law_take (aCons (eV 0) (aCons (eC (.int 4)) aNil))) (aCons (eA F__law_take (aCons (eV 0) (aCons (eV 2) aNil))) aNil))) (gTp 2 (gsCons (gNm 5) (gsCons (gNm 6) gsNil))))
    (sSeq (sIf (tAndD (tBl (e2 fEq (eV 5) (eC (.int 0)))) (tBl (e2 (fCmp fun i j => decide (i < j)) (eV 2) (eC (.int 12))))) (sSet 3 (eLc fLst (iSeq (eV 3)) (gNm 7) tYesD (e2s (fPlus fLst) (e2s (fPlus fLst) (eSl fLst (eV 7) oNo (oSome (eV 6))) (eA fTup (aCons (eA fTup (aCons (eC (.int 0)) (aCons (eC (.int 1)) aNil))) aNil))) (eSl fLst (eV 7) (oSome (eV 6)) oNo)) [7])) sPass)
    (sSeq (sIf (tAndD (tBl (e2 fEq (eV 5) (eC (.int 1)))) (tBl (e2 (fCmp fun i j => decide (i < j)) (eV 2) (eC (.int 12))))) (sSet 3 (eLc fLst (iSeq (eV 3)) (gNm 7) tYesD (e2s (fPlus fLst) (e2s (fPlus fLst) (eSl fLst (eV 7) oNo (oSome (eV 6))) (e2s (fTimes fLst) (eA fTup (aCons (eA F__law_product (aCons (e2 fIx (eV 7) (eV 6)) (aCons (eA fTup (aCons (eC (.int 1)) (aCons (eC (.int 2)) aNil))) aNil))) aNil)) (eC (.int 2)))) (eSl fLst (eV 7) (oSome (e2s (fPlus fLst) (eV 6) (eC (.int 1)))) oNo)) [7])) sPass)
    (sSeq (sIf (tBl (e2 fEq (eV 5) (eC (.int 2)))) (sSet 3 (eLc fLst (iRange1 (eV 1)) (gNm 4) tYesD (eIf (tBl (e2 (fCmp fun i j => decide (j < i)) (eA F__law_take (aCons (eV 0) (aCons (eC (.int 3)) aNil))) (eC (.int 0)))) (e2 fIx (eV 3) (eV 4)) (e2 fIx (eV 3) (eC (.int 0)))) [4])) sPass)
    (sRet (eA fTupOf (aCons (eV 3) aNil))))))))
noncomputable def F__law_telling : FD := fnD 3 8 finM t__law_telling
abbrev s__law_table : Stmt := topS 31
abbrev N__law_table : List Str := ["state", "many", "signs", "k"]
theorem sc__law_table : FnScope N__law_table ["state", "many", "signs"] (defScope s__law_table) := sc_by (by decide +kernel)
theorem bd__law_table : BindsP s__law_table ["state", "many", "signs"] := fun _ _ _ _ _ _ _ us hl => match us, hl with | [_, _, _], _ => rfl
noncomputable def t__law_table : RS := (sRet (eA fTupOf (aCons (eLc fLst (iRange1 (eV 1)) (gNm 3) tYesD (eA F__law_row (aCons (eV 0) (aCons (eV 2) (aCons (eA fLst (aCons (eC (.int 1)) (aCons (eC (.int 1)) (aCons (eC (.int 2)) (aCons (eC (.int 3)) (aCons (eC (.int 4)) aNil)))))) aNil)))) [3]) aNil)))
noncomputable def F__law_table : FD := fnD 3 4 finM t__law_table
abbrev s__law_garbled : Stmt := topS 32
abbrev N__law_garbled : List Str := ["telling", "table", "found", "row", "made", "j", "s"]
theorem sc__law_garbled : FnScope N__law_garbled ["telling", "table"] (defScope s__law_garbled) := sc_by (by decide +kernel)
theorem bd__law_garbled : BindsP s__law_garbled ["telling", "table"] := fun _ _ _ _ _ _ _ us hl => match us, hl with | [_, _], _ => rfl
noncomputable def t__law_garbled : RS := (sSeq (sSet 2 (eA fObj aNil))
    (sSeq (sFor (iSeq (eV 0)) (gNm 3) (sSeq (sSet 4 (eA fObj aNil))
    (sSeq (sFor (iRange1 (eA fLen (aCons (e2 fIx (eV 1) (eC (.int 0))) aNil))) (gNm 5) (sExpr (eM fAppend (eV 4) (aCons (eA F__law_total (aCons (eLc fLst (iRange1 (eA fLen (aCons (eV 3) aNil))) (gNm 6) tYesD (eA F__law_product (aCons (e2 fIx (eV 3) (eV 6)) (aCons (e2 fIx (e2 fIx (eV 1) (eV 6)) (eV 5)) aNil))) [6]) aNil)) aNil))))
    (sExpr (eM fAppend (eV 2) (aCons (eA fTupOf (aCons (eV 4) aNil)) aNil))))))
    (sRet (eA fTupOf (aCons (eV 2) aNil)))))
noncomputable def F__law_garbled : FD := fnD 2 7 finP t__law_garbled
abbrev s__law_is_table : Stmt := topS 33
abbrev N__law_is_table : List Str := ["value", "m", "k", "row", "one"]
theorem sc__law_is_table : FnScope N__law_is_table ["value", "m", "k"] (defScope s__law_is_table) := sc_by (by decide +kernel)
theorem bd__law_is_table : BindsP s__law_is_table ["value", "m", "k"] := fun _ _ _ _ _ _ _ us hl => match us, hl with | [_, _, _], _ => rfl
noncomputable def t__law_is_table : RS := (sSeq (sIf (tOrD (tNotD (tTru (e1 (fIsi "tuple") (eV 0)))) (tBl (e2 fNe (eA fLen (aCons (eV 0) aNil)) (eV 1)))) (sRet (eC (.bl false))) sPass)
    (sSeq (sFor (iSeq (eV 0)) (gNm 3) (sSeq (sIf (tOrD (tNotD (tTru (e1 (fIsi "tuple") (eV 3)))) (tOrD (tBl (e2 fNe (eA fLen (aCons (eV 3) aNil)) (eV 2))) (tBl (e2 (fCmp fun i j => decide (j < i)) (eA fLen (aCons (eLc fLst (iSeq (eV 3)) (gNm 4) (tOrD (tNotD (tTru (eA F__law_is_fraction (aCons (eV 4) aNil)))) (tBl (e2 (fCmp fun i j => decide (i < j)) (e2 fIx (eV 4) (eC (.int 0))) (eC (.int 0))))) (eV 4) [4]) aNil)) (eC (.int 0)))))) (sRet (eC (.bl false))) sPass)
    (sIf (tBl (e2 fNe (eA F__law_total (aCons (eV 3) aNil)) (eA fTup (aCons (eC (.int 1)) (aCons (eC (.int 1)) aNil))))) (sRet (eC (.bl false))) sPass)))
    (sRet (eC (.bl true)))))
noncomputable def F__law_is_table : FD := fnD 3 5 finP t__law_is_table
abbrev s__law_leaf : Stmt := topS 34
abbrev N__law_leaf : List Str := ["state", "value", "some"]
theorem sc__law_leaf : FnScope N__law_leaf ["state", "value"] (defScope s__law_leaf) := sc_by (by decide +kernel)
theorem bd__law_leaf : BindsP s__law_leaf ["state", "value"] := fun _ _ _ _ _ _ _ us hl => match us, hl with | [_, _], _ => rfl
noncomputable def t__law_leaf : RS := (sSeq (sIf (tTru (e1 (fIsi "str") (eV 1))) (sRet (eA F__law_pick (aCons (eV 0) (aCons (eA fLst (aCons (eC (.str "")) (aCons (e2s (fPlus fLst) (eV 1) (eC (.str "x"))) (aCons (eSl fLst (eV 1) oNo (oSome (e1 fNeg (eC (.int 1))))) (aCons (e2s (fPlus fLst) (eC (.str "A")) (eV 1)) (aCons (e2s (fPlus fLst) (eV 1) (eC (.str " "))) (aCons (eC (.str "free")) (aCons (eC (.str "in")) (aCons (eC (.str "way")) (aCons (eC (.str "ready")) (aCons (eC (.str "lent")) (aCons (eC (.str "lost")) (aCons (eC (.int 0)) (aCons (eC .non) (aCons (eA fTup (aCons (eV 1) aNil)) aNil))))))))))))))) aNil)))) sPass)
    (sSeq (sIf (tNotD (tTru (e1 (fIsi "int") (eV 1)))) (sRet (eA F__law_pick (aCons (eV 0) (aCons (eA fLst (aCons (eC (.int 0)) (aCons (eC (.int 1)) (aCons (eA fTup aNil) (aCons (eC (.str "free")) (aCons (eC (.bl true)) (aCons (e1 fNeg (eC (.int 1))) (aCons (eC .non) aNil)))))))) aNil)))) sPass)
    (sSeq (sSet 2 (eA fLst (aCons (e2s (fPlus fLst) (eV 1) (eC (.int 1))) (aCons (e2 fSub (eV 1) (eC (.int 1))) (aCons (e1 fNeg (eV 1)) (aCons (e1 fNeg (eC (.int 1))) (aCons (eC (.int 0)) (aCons (eC (.int 1)) (aCons (eC (.int 2)) (aCons (eC (.int 4)) (aCons (eC (.int 5)) (aCons (eC (.int 9)) (aCons (eC (.int 10)) (aCons (eC (.int 12)) (aCons (eC (.int 14)) (aCons (eC (.int 15)) (aCons (eC (.int 24)) (aCons (eC (.int 25)) (aCons (eC (.int 30)) (aCons (eC (.int 31)) (aCons (eC (.int 60)) (aCons (eC (.int 61)) (aCons (eC (.int 366)) (aCons (eC (.int 367)) aNil))))))))))))))))))))))))
    (sRet (eA F__law_pick (aCons (eV 0) (aCons (e2s (fPlus fLst) (eV 2) (eA fLst (aCons (eC (.int 999999)) (aCons (eC (.int 1000000)) (aCons (eC (.int 1000001)) (aCons (eC (.int 99999)) (aCons (eC (.int 100000)) (aCons (e2 fEq (eV 1) (eC (.int 1))) (aCons (e2 fEq (eV 1) (eC (.int 0))) (aCons (eC .non) (aCons (eA fStr1 (aCons (eV 1) aNil)) (aCons (eA fTup (aCons (eV 1) aNil)) (aCons (eA fTup aNil) aNil))))))))))))) aNil)))))))
noncomputable def F__law_leaf : FD := fnD 2 3 finM t__law_leaf
abbrev s__law_spoilt : Stmt := topS 35
abbrev N__law_spoilt : List Str := ["state", "value", "deep", "at", "way"]
theorem sc__law_spoilt : FnScope N__law_spoilt ["state", "value", "deep"] (defScope s__law_spoilt) := sc_by (by decide +kernel)
theorem bd__law_spoilt : BindsP s__law_spoilt ["state", "value", "deep"] := fun _ _ _ _ _ _ _ us hl => match us, hl with | [_, _, _], _ => rfl
noncomputable def t__law_spoilt (self : FD) : RS := (sSeq (sIf (tNotD (tTru (e1 (fIsi "tuple") (eV 1)))) (sRet (eA F__law_leaf (aCons (eV 0) (aCons (eV 1) aNil)))) sPass)
    (sSeq (sSet 3 (eA F__law_take (aCons (eV 0) (aCons (e2s (fPlus fLst) (eA fLen (aCons (eV 1) aNil)) (eC (.int 1))) aNil))))
    (sSeq (sIf (tAndD (tBl (e2 (fCmp fun i j => decide (j < i)) (eA fLen (aCons (eV 1) aNil)) (eC (.int 0)))) (tAndD (tBl (e2 (fCmp fun i j => decide (j < i)) (eV 2) (eC (.int 0)))) (tBl (e2 (fCmp fun i j => decide (j < i)) (eA F__law_take (aCons (eV 0) (aCons (eC (.int 6)) aNil))) (eC (.int 0)))))) (sSeq (sSet 3 (e2 fMod (eA fInt1 (aCons (eV 3) aNil)) (eA fLen (aCons (eV 1) aNil))))
    (sRet (e2s (fPlus fLst) (e2s (fPlus fLst) (eSl fLst (eV 1) oNo (oSome (eV 3))) (eA fTup (aCons (eA self (aCons (eV 0) (aCons (e2 fIx (eV 1) (eV 3)) (aCons (e2 fSub (eV 2) (eC (.int 1))) aNil)))) aNil))) (eSl fLst (eV 1) (oSome (e2s (fPlus fLst) (eV 3) (eC (.int 1)))) oNo)))) sPass)
    (sSeq (sSet 4 (eA F__law_take (aCons (eV 0) (aCons (eC (.int 9)) aNil))))
    (sSeq (sIf (tBl (e2 fEq (eV 4) (eC (.int 0)))) (sRet (e2s (fPlus fLst) (eSl fLst (eV 1) oNo (oSome (eV 3))) (eSl fLst (eV 1) (oSome (e2s (fPlus fLst) (eV 3) (eC (.int 1)))) oNo))) sPass)
    (sSeq (sIf (tBl (e2 fEq (eV 4) (eC (.int 1)))) (sRet (e2s (fPlus fLst) (e2s (fPlus fLst) (eSl fLst (eV 1) oNo (oSome (eV 3))) (eSl fLst (eV 1) (oSome (eV 3)) (oSome (e2s (fPlus fLst) (eV 3) (eC (.int 1)))))) (eSl fLst (eV 1) (oSome (eV 3)) oNo))) sPass)
    (sSeq (sIf (tBl (e2 fEq (eV 4) (eC (.int 2)))) (sRet (e2s (fPlus fLst) (eSl fLst (eV 1) (oSome (eV 3)) oNo) (eSl fLst (eV 1) oNo (oSome (eV 3))))) sPass)
    (sSeq (sIf (tBl (e2 fEq (eV 4) (eC (.int 3)))) (sRet (eA fTup aNil)) sPass)
    (sSeq (sIf (tBl (e2 fEq (eV 4) (eC (.int 4)))) (sRet (e2s (fPlus fLst) (e2s (fPlus fLst) (eSl fLst (eV 1) oNo (oSome (eV 3))) (eA fTup (aCons (eA fTup aNil) aNil))) (eSl fLst (eV 1) (oSome (eV 3)) oNo))) sPass)
    (sSeq (sIf (tBl (e2 fEq (eV 4) (eC (.int 5)))) (sRet (e2s (fPlus fLst) (e2s (fPlus fLst) (eSl fLst (eV 1) oNo (oSome (eV 3))) (eA fTup (aCons (eC (.int 0)) aNil))) (eSl fLst (eV 1) (oSome (eV 3)) oNo))) sPass)
    (sSeq (sIf (tBl (e2 fEq (eV 4) (eC (.int 6)))) (sRet (eSlS (eV 1) oNo oNo (oSome (e1 fNeg (eC (.int 1)))))) sPass)
    (sRet (eIf (tBl (e2 fEq (eV 4) (eC (.int 7)))) (eA F__law_pick (aCons (eV 0) (aCons (eA fLst (aCons (eC .non) (aCons (eC (.int 0)) (aCons (eC (.str "")) (aCons (eSl fLst (eV 1) oNo (oSome (eC (.int 1)))) (aCons (eC (.bl true)) aNil)))))) aNil))) (e2s (fPlus fLst) (e2s (fPlus fLst) (eSl fLst (eV 1) oNo (oSome (eV 3))) (eA fTup (aCons (eA F__law_pick (aCons (eV 0) (aCons (eA fLst (aCons (eC (.int 1)) (aCons (eC .non) (aCons (eC (.str "in")) aNil)))) aNil))) aNil))) (eSl fLst (eV 1) (oSome (eV 3)) oNo)))))))))))))))
noncomputable def F__law_spoilt : Nat → FD
  | 0 => fun _ _ => none
  | m + 1 => fnD 3 5 finM (t__law_spoilt (F__law_spoilt m))
abbrev s__law_tables_are_told : Stmt := topS 36
abbrev N__law_tables_are_told : List Str := ["state", "table", "m", "k", "at", "j", "values", "new", "row", "turn", "value", "half", "one", "other", "due"]
theorem sc__law_tables_are_told : FnScope N__law_tables_are_told ["state", "table"] (defScope s__law_tables_are_told) := sc_by (by decide +kernel)
theorem bd__law_tables_are_told : BindsP s__law_tables_are_told ["state", "table"] := fun _ _ _ _ _ _ _ us hl => match us, hl with | [_, _], _ => rfl
noncomputable def t__law_tables_are_told : RS := (sSeq (sAsg (eA fTup (aCons (eA fLen (aCons (eV 1) aNil)) (aCons (eA fLen (aCons (e2 fIx (eV 1) (eC (.int 0))) aNil)) aNil))) (gTp 2 (gsCons (gNm 2) (gsCons (gNm 3) gsNil))))
    (sSeq (sPar 4 5 (aCons (eA F__law_take (aCons (eV 0) (aCons (eV 2) aNil))) (aCons (eA F__law_take (aCons (eV 0) (aCons (eV 3) aNil))) aNil)))
    (sSeq (sSet 6 (eA fObj (aCons (eA fLst (aCons (eV 1) (aCons (eV 2) (aCons (eV 3) aNil)))) (aCons (eA fLst (aCons (eV 1) (aCons (eV 2) (aCons (eV 3) aNil)))) (aCons (eA fLst (aCons (eV 1) (aCons (e2s (fPlus fLst) (eV 2) (eC (.int 1))) (aCons (eV 3) aNil)))) (aCons (eA fLst (aCons (eV 1) (aCons (eV 2) (aCons (e2s (fPlus fLst) (eV 3) (eC (.int 1))) aNil)))) (aCons (eA fLst (aCons (eV 1) (aCons (eV 3) (aCons (eV 2) aNil)))) (aCons (eA fLst (aCons (eSl fLst (eV 1) (oSome (eC (.int 1))) oNo) (aCons (eV 2) (aCons (eV 3) aNil)))) (aCons (eA fLst (aCons (e2s (fPlus fLst) (eV 1) (eSl fLst (eV 1) oNo (oSome (eC (.int 1))))) (aCons (eV 2) (aCons (eV 3) aNil)))) (aCons (eA fLst (aCons (eSlS (eV 1) oNo oNo (oSome (e1 fNeg (eC (.int 1))))) (aCons (eV 2) (aCons (eV 3) aNil)))) aNil))))))))))
    (sSeq (sFor (iSeq (eA fTup (aCons (eA fTup (aCons (eC (.int 0)) (aCons (eC (.int 1)) aNil))) (aCons (eA fTup (aCons (eC (.int 1)) (aCons (eC (.int 1)) aNil))) (aCons (eA fTup (aCons (eC (.int 2)) (aCons (eC (.int 4)) aNil))) (aCons (eA fTup (aCons (e1 fNeg (eC (.int 1))) (aCons (eC (.int 2)) aNil))) (aCons (eA fTup (aCons (eC (.int 1)) (aCons (eC (.int 0)) aNil))) (aCons (eA fTup (aCons (eC (.bl true)) (aCons (eC (.int 1)) aNil))) (aCons (eC .non) (aCons (eA fTup (aCons (eC (.int 3)) (aCons (eC (.int 2)) aNil))) (aCons (eA fTup (aCons (eC (.int 1)) (aCons (eC (.int 9999)) aNil))) (aCons (eC (.int 0)) (aCons (eA fTup (aCons (eC (.int 1)) aNil)) aNil))))))))))))) (gNm 7) (sSeq (sSet 8 (e2s (fPlus fLst) (e2s (fPlus fLst) (eSl fLst (e2 fIx (eV 1) (eV 4)) oNo (oSome (eV 5))) (eA fTup (aCons (eV 7) aNil))) (eSl fLst (e2 fIx (eV 1) (eV 4)) (oSome (e2s (fPlus fLst) (eV 5) (eC (.int 1)))) oNo)))
    (sExpr (eM fAppend (eV 6) (aCons (eA fLst (aCons (e2s (fPlus fLst) (e2s (fPlus fLst) (eSl fLst (eV 1) oNo (oSome (eV 4))) (eA fTup (aCons (eV 8) aNil))) (eSl fLst (eV 1) (oSome (e2s (fPlus fLst) (eV 4) (eC (.int 1)))) oNo)) (aCons (eV 2) (aCons (eV 3) aNil)))) aNil)))))
    (sSeq (sFor (iSeq (eA fTup (aCons (eA fTup aNil) (aCons (eC .non) (aCons (e2s (fPlus fLst) (e2 fIx (eV 1) (eV 4)) (eA fTup (aCons (eA fTup (aCons (eC (.int 0)) (aCons (eC (.int 1)) aNil))) aNil))) (aCons (eSl fLst (e2 fIx (eV 1) (eV 4)) oNo (oSome (e1 fNeg (eC (.int 1))))) (aCons (e2s (fTimes fLst) (eA fTup (aCons (eA fTup (aCons (eC (.int 0)) (aCons (eC (.int 1)) aNil))) aNil)) (eV 3)) (aCons (eC (.str "ab")) (aCons (eC (.int 0)) aNil))))))))) (gNm 8) (sExpr (eM fAppend (eV 6) (aCons (eA fLst (aCons (e2s (fPlus fLst) (e2s (fPlus fLst) (eSl fLst (eV 1) oNo (oSome (eV 4))) (eA fTup (aCons (eV 8) aNil))) (eSl fLst (eV 1) (oSome (e2s (fPlus fLst) (eV 4) (eC (.int 1)))) oNo)) (aCons (eV 2) (aCons (eV 3) aNil)))) aNil))))
    (sSeq (sSet 6 (e2s (fPlus fObj) (e2s (fPlus fLst) (eV 6) (eLc fLst (iSeq (eA fTup (aCons (eC .non) (aCons (eC (.int 0)) (aCons (eA fTup aNil) (aCons (eC (.str "table")) (aCons (eC (.bl true)) (aCons (eA fTup (aCons (eV 1) aNil)) aNil)))))))) (gNm 10) tYesD (eA fLst (aCons (eV 10) (aCons (eV 2) (aCons (eV 3) aNil)))) [10])) (eLc fLst (iRange1 (eC (.int 6))) (gNm 9) tYesD (eA fLst (aCons (eA (F__law_spoilt 8) (aCons (eV 0) (aCons (eV 1) (aCons (e2s (fPlus fLst) (eC (.int 1)) (eA F__law_take (aCons (eV 0) (aCons (eC (.int 3)) aNil)))) aNil)))) (aCons (eV 2) (aCons (eV 3) aNil)))) [9])))
    (sSeq (sSet 11 (eA fTupOf (aCons (eLc fLst (iSeq (eV 1)) (gNm 8) tYesD (e2s (fPlus fLst) (eV 8) (eA fTup (aCons (eA fTup (aCons (eC (.int 0)) (aCons (eC (.int 1)) aNil))) aNil))) [8]) aNil)))
    (sSeq (sFor (iSeq (e2s (fPlus fLst) (eV 6) (eA fLst (aCons (eA fLst (aCons (eV 11) (aCons (eV 2) (aCons (eV 3) aNil)))) (aCons (eA fLst (aCons (eV 11) (aCons (eV 2) (aCons (e2s (fPlus fLst) (eV 3) (eC (.int 1))) aNil)))) aNil))))) (gTp 3 (gsCons (gNm 10) (gsCons (gNm 12) (gsCons (gNm 13) gsNil)))) (sSeq (sSet 14 (eA F__law_is_table (aCons (eV 10) (aCons (eV 12) (aCons (eV 13) aNil)))))
    (sIf (tOrD (tNotD (tTru (eA F__law_is_due (aCons (eA F_is_table (aCons (eV 10) (aCons (eV 12) (aCons (eV 13) aNil)))) (aCons (eV 14) aNil))))) (tNotD (tTru (eA F__law_is_due (aCons (eA (fun xs S => F_is_table (pick [0, 1, 2] xs) S) (aCons (eV 10) (aCons (eV 12) (aCons (eV 13) aNil)))) (aCons (eV 14) aNil)))))) (sRet (eC (.bl false))) sPass)))
    (sRet (eC (.bl true)))))))))))
noncomputable def F__law_tables_are_told : FD := fnD 2 15 finM t__law_tables_are_told
abbrev s_law : Stmt := topS 37
abbrev N_law : List Str := ["script", "state", "turn", "telling", "due", "both", "signs", "parts", "more", "table", "other", "k"]
theorem sc_law : FnScope N_law ["script"] (defScope s_law) := sc_by (by decide +kernel)
theorem bd_law : BindsP s_law ["script"] := fun _ _ _ _ _ _ _ us hl => match us, hl with | [_], _ => rfl
noncomputable def t_law : RS := (sSeq (sSet 1 (eA F__law_start (aCons (eV 0) aNil)))
    (sSeq (sFor (iRange1 (eC (.int 3))) (gNm 2) (sSeq (sAsg (eLc fLst (iRange1 (eC (.int 3))) (gNm 11) tYesD (eA F__law_pick (aCons (eV 1) (aCons (eA fLst (aCons (e2s (fPlus fLst) (eC (.int 1)) (eA F__law_take (aCons (eV 1) (aCons (eC (.int 4)) aNil)))) (aCons (e2s (fPlus fLst) (eC (.int 1)) (eA F__law_take (aCons (eV 1) (aCons (eC (.int 4)) aNil)))) (aCons (eC (.int 6)) aNil)))) aNil))) [11]) (gTp 3 (gsCons (gNm 6) (gsCons (gNm 7) (gsCons (gNm 8) gsNil)))))
    (sSeq (sSet 3 (eA F__law_telling (aCons (eV 1) (aCons (e2s (fPlus fLst) (eC (.int 1)) (eA F__law_take (aCons (eV 1) (aCons (eC (.int 6)) aNil)))) (aCons (eV 6) aNil)))))
    (sSeq (sPar 9 10 (aCons (eA F__law_table (aCons (eV 1) (aCons (eA fLen (aCons (e2 fIx (eV 3) (eC (.int 0))) aNil)) (aCons (eV 7) aNil)))) (aCons (eA F__law_table (aCons (eV 1) (aCons (eV 7) (aCons (eV 8) aNil)))) aNil)))
    (sSeq (sIf (tBl (e2 fEq (eA F__law_take (aCons (eV 1) (aCons (eC (.int 8)) aNil))) (eC (.int 0)))) (sPar 9 10 (aCons (eA F__law_table (aCons (eV 1) (aCons (eA fLen (aCons (e2 fIx (eV 3) (eC (.int 0))) aNil)) (aCons (eC (.int 12)) aNil)))) (aCons (eA F__law_table (aCons (eV 1) (aCons (eC (.int 12)) (aCons (eV 8) aNil)))) aNil))) sPass)
    (sSeq (sIf (tNotD (tTru (eA F__law_tables_are_told (aCons (eV 1) (aCons (eV 9) aNil))))) (sRet (eC (.bl false))) sPass)
    (sSeq (sSet 4 (eA F__law_garbled (aCons (eV 3) (aCons (eV 9) aNil))))
    (sSeq (sIf (tOrD (tNotD (tTru (eA (F__law_same 8) (aCons (eA F_garbled (aCons (eV 3) (aCons (eV 9) aNil))) (aCons (eV 4) aNil))))) (tNotD (tTru (eA (F__law_same 8) (aCons (eA (fun xs S => F_garbled (pick [0, 1] xs) S) (aCons (eV 3) (aCons (eV 9) aNil))) (aCons (eV 4) aNil)))))) (sRet (eC (.bl false))) sPass)
    (sSeq (sSet 5 (eA F__law_garbled (aCons (eV 9) (aCons (eV 10) aNil))))
    (sSeq (sIf (tOrD (tNotD (tTru (eA (F__law_same 8) (aCons (eA F_composed (aCons (eV 9) (aCons (eV 10) aNil))) (aCons (eV 5) aNil))))) (tNotD (tTru (eA (F__law_same 8) (aCons (eA (fun xs S => F_composed (pick [0, 1] xs) S) (aCons (eV 9) (aCons (eV 10) aNil))) (aCons (eV 5) aNil)))))) (sRet (eC (.bl false))) sPass)
    (sIf (tNotD (tTru (eA (F__law_same 8) (aCons (eA F_garbled (aCons (eV 3) (aCons (eA F_composed (aCons (eV 9) (aCons (eV 10) aNil))) aNil))) (aCons (eA F__law_garbled (aCons (eV 4) (aCons (eV 10) aNil))) aNil))))) (sRet (eC (.bl false))) sPass)))))))))))
    (sRet (eC (.bl true)))))
noncomputable def F_law : FD := fnD 1 12 finP t_law
theorem bk_is_table_012 : BindsK s_is_table ["value", "m", "k"] ["value", "m", "k"] [0, 1, 2] := fun _ _ _ _ _ _ _ us hl => match us, hl with | [_, _, _], _ => rfl
theorem bk_garbled_01 : BindsK s_garbled ["telling", "table"] ["telling", "table"] [0, 1] := fun _ _ _ _ _ _ _ us hl => match us, hl with | [_, _], _ => rfl
theorem bk_composed_01 : BindsK s_composed ["table", "other"] ["table", "other"] [0, 1] := fun _ _ _ _ _ _ _ us hl => match us, hl with | [_, _], _ => rfl
section
variable {P : Program} {G : Gc} {mg : Str → Option Value}
theorem ok_is_whole {f c  : Addr}  (A : FAt G.K mg "is_whole" s_is_whole f c) (z_bool : mg "bool" = none) (z_int : mg "int" = none) (z_isinstance : mg "isinstance" = none) : DFs P G.wo G mg 2 "is_whole" s_is_whole f ["value"] F_is_whole := by
  refine fn_at (k := 1) (cv := none) (N := N_is_whole) (ps := ["value"]) (fin := finP) (t := t_is_whole) A sc_is_whole finP_ok (fun v hv => by cases hv) fun A1 outer s H E hr => ?_
  exact (dss_one (ds_ret (de_and (de_isi z_isinstance (dv 0) z_int bt_int) (de_one (de_not (de_isi z_isinstance (dv 0) z_bool bt_bool))))))
theorem ok_common_part {f c  : Addr}  (A : FAt G.K mg "common_part" s_common_part f c) (z_abs : mg "abs" = none) : DFs P G.wo G mg 2 "common_part" s_common_part f ["one", "other"] F_common_part := by
  refine fn_at (k := 1) (cv := none) (N := N_common_part) (ps := ["one", "other"]) (fin := finP) (t := t_common_part) A sc_common_part finP_ok (fun v hv => by cases hv) fun A1 outer s H E hr => ?_
  exact (dss_cons (ds_par (i := 0) (j := 1) rfl sc_common_part.nd rfl rfl (by decide) rfl rfl (da_cons (de_abs z_abs (dv 0)) (da_cons (de_abs z_abs (dv 1)) da_nil)) rfl)
    (dss_cons (ds_while (n := fuelI) PassesOwn.never (dt_tru (dv 1)) (dss_one (ds_par (i := 0) (j := 1) rfl sc_common_part.nd rfl rfl (by decide) rfl rfl (da_cons (dv 1) (da_cons (de_mod (dv 0) (dv 1)) da_nil)) rfl)))
    (dss_one (ds_ret (dv 0)))))
theorem ok_lowest {f c f_common_part : Addr}  (A : FAt G.K mg "lowest" s_lowest f c) (h_common_part : DFs P G.wo G mg 2 "common_part" s_common_part f_common_part ["one", "other"] F_common_part) : DFs P G.wo G mg 3 "lowest" s_lowest f ["top", "bottom"] F_lowest := by
  refine fn_at (k := 2) (cv := none) (N := N_lowest) (ps := ["top", "bottom"]) (fin := finP) (t := t_lowest) A sc_lowest finP_ok (fun v hv => by cases hv) fun A1 outer s H E hr => ?_
  exact (dss_cons (ds_set (i := 2) sc_lowest.nd rfl (by first | exact .inl rfl | exact .inr rfl) (dcall (G := G) h_common_part bd_common_part (hr.mono (by omega)) (da_cons (dv 0) (da_cons (dv 1) da_nil))) rfl (by first | exact .inl rfl | exact .inr rfl))
    (dss_cons (ds_if (dt_cmp c_lt (dv 1) de_int) (dss_one (ds_set (i := 2) sc_lowest.nd rfl (by first | exact .inl rfl | exact .inr rfl) (de_neg (dv 2)) rfl (by first | exact .inl rfl | exact .inr rfl))) dss_nil)
    (dss_one (ds_ret (de_tup (da_cons (de_div (dv 0) (dv 2)) (da_cons (de_div (dv 1) (dv 2)) da_nil)))))))
theorem ok_is_broken {f c f_common_part f_is_whole : Addr}  (A : FAt G.K mg "is_broken" s_is_broken f c) (z_isinstance : mg "isinstance" = none) (z_len : mg "len" = none) (z_tuple : mg "tuple" = none) (h_common_part : DFs P G.wo G mg 2 "common_part" s_common_part f_common_part ["one", "other"] F_common_part) (h_is_whole : DFs P G.wo G mg 2 "is_whole" s_is_whole f_is_whole ["value"] F_is_whole) : DFs P G.wo G mg 3 "is_broken" s_is_broken f ["value"] F_is_broken := by
  refine fn_at (k := 2) (cv := none) (N := N_is_broken) (ps := ["value"]) (fin := finP) (t := t_is_broken) A sc_is_broken finP_ok (fun v hv => by cases hv) fun A1 outer s H E hr => ?_
  exact (dss_cons (ds_if (dt_w (dw_or (dt_not (dt_tru (de_isi z_isinstance (dv 0) z_tuple bt_tuple))) (dw_or1 (dt_cmp (c_ne hr) (de_len z_len (dv 0)) de_int)))) (dss_one (ds_ret de_bl)) dss_nil)
    (dss_cons (ds_asg (dv 0) (dg_tup rfl (dgs_cons (dg_name (i := 1) sc_is_broken.nd rfl (by first | exact .inl rfl | exact .inr rfl) (by first | exact .inl rfl | exact .inr rfl)) (dgs_cons (dg_name (i := 2) sc_is_broken.nd rfl (by first | exact .inl rfl | exact .inr rfl) (by first | exact .inl rfl | exact .inr rfl)) dgs_nil))))
    (dss_cons (ds_if (dt_w (dw_or (dt_not (dt_tru (dcall (G := G) h_is_whole bd_is_whole (hr.mono (by omega)) (da_cons (dv 1) da_nil)))) (dw_or1 (dt_not (dt_tru (dcall (G := G) h_is_whole bd_is_whole (hr.mono (by omega)) (da_cons (dv 2) da_nil))))))) (dss_one (ds_ret de_bl)) dss_nil)
    (dss_one (ds_ret (de_and (de_cmp c_ge (dv 2) de_int) (de_one (de_cmp (c_eq hr) (dcall (G := G) h_common_part bd_common_part (hr.mono (by omega)) (da_cons (dv 1) (da_cons (dv 2) da_nil))) de_int))))))))
theorem ok_bottom_of {f c f_common_part : Addr}  (A : FAt G.K mg "bottom_of" s_bottom_of f c) (h_common_part : DFs P G.wo G mg 2 "common_part" s_common_part f_common_part ["one", "other"] F_common_part) : DFs P G.wo G mg 3 "bottom_of" s_bottom_of f ["fractions"] F_bottom_of := by
  refine fn_at (k := 2) (cv := none) (N := N_bottom_of) (ps := ["fractions"]) (fin := finP) (t := t_bottom_of) A sc_bottom_of finP_ok (fun v hv => by cases hv) fun A1 outer s H E hr => ?_
  exact (dss_cons (ds_set (i := 1) sc_bottom_of.nd rfl (by first | exact .inl rfl | exact .inr rfl) de_int rfl (by first | exact .inl rfl | exact .inr rfl))
    (dss_cons (ds_for PassesOwn.never rfl (fun _ => rfl) (di_seq (dv 0)) (dg_name (i := 2) sc_bottom_of.nd rfl (by first | exact .inl rfl | exact .inr rfl) (by first | exact .inl rfl | exact .inr rfl)) (dss_one (ds_set (i := 1) sc_bottom_of.nd rfl (by first | exact .inl rfl | exact .inr rfl) (de_times newF (de_div (dv 1) (dcall (G := G) h_common_part bd_common_part (hr.mono (by omega)) (da_cons (dv 1) (da_cons (de_ix (dv 2) de_int) da_nil)))) (de_ix (dv 2) de_int)) rfl (by first | exact .inl rfl | exact .inr rfl))))
    (dss_one (ds_ret (dv 1)))))
theorem ok_wholes {f c  : Addr}  (A : FAt G.K mg "wholes" s_wholes f c) (z_tuple : mg "tuple" = none) (bm : ∃ B, G.base.BuiltinsAt mg B) (ht : ∃ B, G.t0 c B) : DFs P G.wo G mg 6 "wholes" s_wholes f ["fractions", "bottom"] F_wholes := by
  refine fn_at (k := 5) (cv := some (.ref c)) (N := N_wholes) (ps := ["fractions", "bottom"]) (fin := finP) (t := t_wholes) A sc_wholes finP_ok (fun v hv => by cases hv; exact ⟨rfl, ht⟩) fun A1 outer s H E hr => ?_
  exact (dss_one (ds_ret (de_tupGen (k := 0) (own := [("one", 2)]) (hr.mono (by omega)) z_tuple rfl rfl rfl sc_wholes.nd bm (di_seq (dv 0)) (blkOk_by (by kernel_rfl)) (fun s H L cl qn c0 fp pn A0 hr => ⟨(dgw_name (i := 2) sc_wholes.nd rfl (by first | exact .inl rfl | exact .inr rfl) (by first | exact .inl rfl | exact .inr rfl) (by decide)), dts_nil, (de_times newF (de_ix (dv 2) de_int) (de_div (dv 1) (de_ix (dv 2) de_int)))⟩))))
theorem ok_rows_over {f c f_bottom_of f_wholes : Addr}  (A : FAt G.K mg "rows_over" s_rows_over f c) (z_tuple : mg "tuple" = none) (h_bottom_of : DFs P G.wo G mg 3 "bottom_of" s_bottom_of f_bottom_of ["fractions"] F_bottom_of) (h_wholes : DFs P G.wo G mg 6 "wholes" s_wholes f_wholes ["fractions", "bottom"] F_wholes) (bm : ∃ B, G.base.BuiltinsAt mg B) (ht : ∃ B, G.t0 c B) : DFs P G.wo G mg 12 "rows_over" s_rows_over f ["rows"] F_rows_over := by
  refine fn_at (k := 11) (cv := some (.ref c)) (N := N_rows_over) (ps := ["rows"]) (fin := finP) (t := t_rows_over) A sc_rows_over finP_ok (fun v hv => by cases hv; exact ⟨rfl, ht⟩) fun A1 outer s H E hr => ?_
  exact (dss_cons (ds_set (i := 1) sc_rows_over.nd rfl (by first | exact .inl rfl | exact .inr rfl) (dcall (G := G) h_bottom_of bd_bottom_of (hr.mono (by omega)) (da_cons (de_lc2 (own := [("row", 2), ("one", 3)]) (vs1 := [3]) mkF rfl sc_rows_over.nd (di_seq (dv 0)) (blkOk_by (by kernel_rfl)) (by decide) (fun s H C cl fp => (dgw_name (i := 2) sc_rows_over.nd rfl (by first | exact .inl rfl | exact .inr rfl) (by first | exact .inl rfl | exact .inr rfl) (by decide))) (fun s H C cl fp => dts_nil) (fun s H C cl fp => (di_seq (dv 2))) (fun s H C cl fp => (dgw_name (i := 3) sc_rows_over.nd rfl (by first | exact .inl rfl | exact .inr rfl) (by first | exact .inl rfl | exact .inr rfl) (by decide))) (fun s H C cl fp => dts_nil) (fun s H C cl fp => (dv 3))) da_nil)) rfl (by first | exact .inl rfl | exact .inr rfl))
    (dss_one (ds_ret (de_tup (da_cons (dv 1) (da_cons (de_tupGen (k := 6) (own := [("row", 2)]) (hr.mono (by omega)) z_tuple rfl rfl rfl sc_rows_over.nd bm (di_seq (dv 0)) (blkOk_by (by kernel_rfl)) (fun s H L cl qn c0 fp pn A0 hr => ⟨(dgw_name (i := 2) sc_rows_over.nd rfl (by first | exact .inl rfl | exact .inr rfl) (by first | exact .inl rfl | exact .inr rfl) (by decide)), dts_nil, (dcall (G := G) h_wholes bd_wholes (hr.mono (by omega)) (da_cons (dv 2) (da_cons (dv 1) da_nil)))⟩)) da_nil))))))
theorem ok_total {f c f_bottom_of f_lowest f_wholes : Addr}  (A : FAt G.K mg "total" s_total f c) (z_sum : mg "sum" = none) (h_bottom_of : DFs P G.wo G mg 3 "bottom_of" s_bottom_of f_bottom_of ["fractions"] F_bottom_of) (h_lowest : DFs P G.wo G mg 3 "lowest" s_lowest f_lowest ["top", "bottom"] F_lowest) (h_wholes : DFs P G.wo G mg 6 "wholes" s_wholes f_wholes ["fractions", "bottom"] F_wholes) : DFs P G.wo G mg 7 "total" s_total f ["fractions"] F_total := by
  refine fn_at (k := 6) (cv := none) (N := N_total) (ps := ["fractions"]) (fin := finP) (t := t_total) A sc_total finP_ok (fun v hv => by cases hv) fun A1 outer s H E hr => ?_
  exact (dss_cons (ds_set (i := 1) sc_total.nd rfl (by first | exact .inl rfl | exact .inr rfl) (dcall (G := G) h_bottom_of bd_bottom_of (hr.mono (by omega)) (da_cons (dv 0) da_nil)) rfl (by first | exact .inl rfl | exact .inr rfl))
    (dss_one (ds_ret (dcall (G := G) h_lowest bd_lowest (hr.mono (by omega)) (da_cons (de_sum rfl z_sum (dcall (G := G) h_wholes bd_wholes (hr.mono (by omega)) (da_cons (dv 0) (da_cons (dv 1) da_nil)))) (da_cons (dv 1) da_nil))))))
theorem ok_is_chance {f c f_is_broken : Addr}  (A : FAt G.K mg "is_chance" s_is_chance f c) (h_is_broken : DFs P G.wo G mg 3 "is_broken" s_is_broken f_is_broken ["value"] F_is_broken) : DFs P G.wo G mg 4 "is_chance" s_is_chance f ["value"] F_is_chance := by
  refine fn_at (k := 3) (cv := none) (N := N_is_chance) (ps := ["value"]) (fin := finP) (t := t_is_chance) A sc_is_chance finP_ok (fun v hv => by cases hv) fun A1 outer s H E hr => ?_
  exact (dss_one (ds_ret (de_and (dcall (G := G) h_is_broken bd_is_broken (hr.mono (by omega)) (da_cons (dv 0) da_nil)) (de_one (de_cmp c_ge (de_ix (dv 0) de_int) de_int)))))
theorem ok_are_chances {f c f_is_chance f_total : Addr}  (A : FAt G.K mg "are_chances" s_are_chances f c) (z_all : mg "all" = none) (z_isinstance : mg "isinstance" = none) (z_len : mg "len" = none) (z_tuple : mg "tuple" = none) (h_is_chance : DFs P G.wo G mg 4 "is_chance" s_is_chance f_is_chance ["value"] F_is_chance) (h_total : DFs P G.wo G mg 7 "total" s_total f_total ["fractions"] F_total) (bm : ∃ B, G.base.BuiltinsAt mg B) (ht : ∃ B, G.t0 c B) : DFs P G.wo G mg 10 "are_chances" s_are_chances f ["value", "many"] F_are_chances := by
  refine fn_at (k := 9) (cv := some (.ref c)) (N := N_are_chances) (ps := ["value", "many"]) (fin := finP) (t := t_are_chances) A sc_are_chances finP_ok (fun v hv => by cases hv; exact ⟨rfl, ht⟩) fun A1 outer s H E hr => ?_
  exact (dss_cons (ds_if (dt_w (dw_or (dt_not (dt_tru (de_isi z_isinstance (dv 0) z_tuple bt_tuple))) (dw_or1 (dt_cmp (c_ne hr) (de_len z_len (dv 0)) (dv 1))))) (dss_one (ds_ret de_bl)) dss_nil)
    (dss_one (ds_ret (de_and (de_allGen (k := 4) (own := [("one", 2)]) (hr.mono (by omega)) z_all rfl rfl rfl sc_are_chances.nd bm (di_seq (dv 0)) (blkOk_by (by kernel_rfl)) (fun s H L cl qn c0 fp pn A0 hr => ⟨(dgw_name (i := 2) sc_are_chances.nd rfl (by first | exact .inl rfl | exact .inr rfl) (by first | exact .inl rfl | exact .inr rfl) (by decide)), dts_nil, (dcall (G := G) h_is_chance bd_is_chance (hr.mono (by omega)) (da_cons (dv 2) da_nil))⟩)) (de_one (de_cmp (c_eq hr) (dcall (G := G) h_total bd_total (hr.mono (by omega)) (da_cons (dv 0) da_nil)) (de_tup (da_cons de_int (da_cons de_int da_nil)))))))))
theorem ok_is_table {f c f_are_chances : Addr}  (A : FAt G.K mg "is_table" s_is_table f c) (z_all : mg "all" = none) (z_isinstance : mg "isinstance" = none) (z_len : mg "len" = none) (z_tuple : mg "tuple" = none) (h_are_chances : DFs P G.wo G mg 10 "are_chances" s_are_chances f_are_chances ["value", "many"] F_are_chances) (bm : ∃ B, G.base.BuiltinsAt mg B) (ht : ∃ B, G.t0 c B) : DFs P G.wo G mg 16 "is_table" s_is_table f ["value", "m", "k"] F_is_table := by
  refine fn_at (k := 15) (cv := some (.ref c)) (N := N_is_table) (ps := ["value", "m", "k"]) (fin := finP) (t := t_is_table) A sc_is_table finP_ok (fun v hv => by cases hv; exact ⟨rfl, ht⟩) fun A1 outer s H E hr => ?_
  exact (dss_one (ds_ret (de_and (de_isi z_isinstance (dv 0) z_tuple bt_tuple) (de_and (de_cmp (c_eq hr) (de_len z_len (dv 0)) (dv 1)) (de_one (de_allGen (k := 10) (own := [("row", 3)]) (hr.mono (by omega)) z_all rfl rfl rfl sc_is_table.nd bm (di_seq (dv 0)) (blkOk_by (by kernel_rfl)) (fun s H L cl qn c0 fp pn A0 hr => ⟨(dgw_name (i := 3) sc_is_table.nd rfl (by first | exact .inl rfl | exact .inr rfl) (by first | exact .inl rfl | exact .inr rfl) (by decide)), dts_nil, (dcall (G := G) h_are_chances bd_are_chances (hr.mono (by omega)) (da_cons (dv 3) (da_cons (dv 2) da_nil)))⟩)))))))
theorem ok_garbled {f c f_bottom_of f_lowest f_rows_over f_wholes : Addr}  (A : FAt G.K mg "garbled" s_garbled f c) (z_tuple : mg "tuple" = none) (z_zip : mg "zip" = none) (h_bottom_of : DFs P G.wo G mg 3 "bottom_of" s_bottom_of f_bottom_of ["fractions"] F_bottom_of) (h_lowest : DFs P G.wo G mg 3 "lowest" s_lowest f_lowest ["top", "bottom"] F_lowest) (h_rows_over : DFs P G.wo G mg 12 "rows_over" s_rows_over f_rows_over ["rows"] F_rows_over) (h_wholes : DFs P G.wo G mg 6 "wholes" s_wholes f_wholes ["fractions", "bottom"] F_wholes) (bm : ∃ B, G.base.BuiltinsAt mg B) (ht : ∃ B, G.t0 c B) : DFs P G.wo G mg 13 "garbled" s_garbled f ["telling", "table"] F_garbled := by
  refine fn_at (k := 12) (cv := some (.ref c)) (N := N_garbled) (ps := ["telling", "table"]) (fin := finP) (t := t_garbled) A sc_garbled finP_ok (fun v hv => by cases hv; exact ⟨rfl, ht⟩) fun A1 outer s H E hr => ?_
  exact (dss_cons (ds_asg (dcall (G := G) h_rows_over bd_rows_over (hr.mono (by omega)) (da_cons (dv 1) da_nil)) (dg_tup rfl (dgs_cons (dg_name (i := 2) sc_garbled.nd rfl (by first | exact .inl rfl | exact .inr rfl) (by first | exact .inl rfl | exact .inr rfl)) (dgs_cons (dg_name (i := 3) sc_garbled.nd rfl (by first | exact .inl rfl | exact .inr rfl) (by first | exact .inl rfl | exact .inr rfl)) dgs_nil))))
    (dss_cons (ds_set (i := 4) sc_garbled.nd rfl (by first | exact .inl rfl | exact .inr rfl) (de_lstO da_nil) rfl (by first | exact .inl rfl | exact .inr rfl))
    (dss_cons (ds_for PassesOwn.never rfl (fun _ => rfl) (di_seq (dv 0)) (dg_name (i := 5) sc_garbled.nd rfl (by first | exact .inl rfl | exact .inr rfl) (by first | exact .inl rfl | exact .inr rfl)) (dss_cons (ds_set (i := 6) sc_garbled.nd rfl (by first | exact .inl rfl | exact .inr rfl) (dcall (G := G) h_bottom_of bd_bottom_of (hr.mono (by omega)) (da_cons (dv 5) da_nil)) rfl (by first | exact .inl rfl | exact .inr rfl))
    (dss_cons (ds_set (i := 7) sc_garbled.nd rfl (by first | exact .inl rfl | exact .inr rfl) (dcall (G := G) h_wholes bd_wholes (hr.mono (by omega)) (da_cons (dv 5) (da_cons (dv 6) da_nil))) rfl (by first | exact .inl rfl | exact .inr rfl))
    (dss_cons (ds_setLc (own := [("_", 11)]) mkF rfl sc_garbled.nd (i := 8) rfl rfl (sw_true rfl rfl rfl rfl) (di_seq (de_ix (dv 3) de_int)) (blkOk_by (by kernel_rfl)) (fun s H C cl fp => (dgw_name (i := 11) sc_garbled.nd rfl (by first | exact .inl rfl | exact .inr rfl) (by first | exact .inl rfl | exact .inr rfl) (by decide))) (fun s H C cl fp => dts_nil) (fun s H C cl fp => de_int))
    (dss_cons (ds_for PassesOwn.never rfl (fun _ => rfl) (di_zip z_zip (dv 7) (dv 3)) (dg_tup rfl (dgs_cons (dg_name (i := 9) sc_garbled.nd rfl (by first | exact .inl rfl | exact .inr rfl) (by first | exact .inl rfl | exact .inr rfl)) (dgs_cons (dg_name (i := 10) sc_garbled.nd rfl (by first | exact .inl rfl | exact .inr rfl) (by first | exact .inl rfl | exact .inr rfl)) dgs_nil))) (dss_one (ds_if (dt_tru (dv 9)) (dss_one (ds_setLc (own := [("old", 13), ("cell", 14)]) mkF rfl sc_garbled.nd (i := 8) rfl rfl (sw_true rfl rfl rfl rfl) (di_zip z_zip (dv 8) (dv 10)) (blkOk_by (by kernel_rfl)) (fun s H C cl fp => (dgw_tup rfl (dgsw_cons (dgw_name (i := 13) sc_garbled.nd rfl (by first | exact .inl rfl | exact .inr rfl) (by first | exact .inl rfl | exact .inr rfl) (by decide)) (dgsw_cons (dgw_name (i := 14) sc_garbled.nd rfl (by first | exact .inl rfl | exact .inr rfl) (by first | exact .inl rfl | exact .inr rfl) (by decide)) dgsw_nil)))) (fun s H C cl fp => dts_nil) (fun s H C cl fp => (de_plus newF (dv 13) (de_times newF (dv 9) (dv 14)))))) dss_nil)))
    (dss_one (ds_expr (de_append (dv 4) (da_cons (de_tupGen (k := 3) (own := [("one", 12)]) (hr.mono (by omega)) z_tuple rfl rfl rfl sc_garbled.nd bm (di_seq (dv 8)) (blkOk_by (by kernel_rfl)) (fun s H L cl qn c0 fp pn A0 hr => ⟨(dgw_name (i := 12) sc_garbled.nd rfl (by first | exact .inl rfl | exact .inr rfl) (by first | exact .inl rfl | exact .inr rfl) (by decide)), dts_nil, (dcall (G := G) h_lowest bd_lowest (hr.mono (by omega)) (da_cons (dv 12) (da_cons (de_times newF (dv 6) (dv 2)) da_nil)))⟩)) da_nil)))))))))
    (dss_one (ds_ret (de_tupOf z_tuple (dv 4)))))))
theorem ok_composed {f c f_garbled : Addr}  (A : FAt G.K mg "composed" s_composed f c) (h_garbled : DFs P G.wo G mg 13 "garbled" s_garbled f_garbled ["telling", "table"] F_garbled) : DFs P G.wo G mg 14 "composed" s_composed f ["table", "other"] F_composed := by
  refine fn_at (k := 13) (cv := none) (N := N_composed) (ps := ["table", "other"]) (fin := finP) (t := t_composed) A sc_composed finP_ok (fun v hv => by cases hv) fun A1 outer s H E hr => ?_
  exact (dss_one (ds_ret (dcall (G := G) h_garbled bd_garbled (hr.mono (by omega)) (da_cons (dv 0) (da_cons (dv 1) da_nil)))))
theorem ok__law_mixed {f c  : Addr}  (A : FAt G.K mg "_law_mixed" s__law_mixed f c) (z_int : mg "int" = none) : DFs P G.wo G mg 2 "_law_mixed" s__law_mixed f ["number", "k"] F__law_mixed := by
  refine fn_at (k := 1) (cv := none) (N := N__law_mixed) (ps := ["number", "k"]) (fin := finP) (t := t__law_mixed) A sc__law_mixed finP_ok (fun v hv => by cases hv) fun A1 outer s H E hr => ?_
  exact (dss_cons (ds_set (i := 2) sc__law_mixed.nd rfl (by first | exact .inl rfl | exact .inr rfl) (de_mod (de_int1 z_int (de_plus newF (de_plus newF (de_times newF (dv 0) de_int) (de_times newF (dv 1) de_int)) de_int)) de_int) rfl (by first | exact .inl rfl | exact .inr rfl))
    (dss_cons (ds_set (i := 3) sc__law_mixed.nd rfl (by first | exact .inl rfl | exact .inr rfl) (de_mod (de_int1 z_int (de_plus newF (de_plus newF (de_times newF (dv 2) (de_plus newF (de_plus newF (dv 2) (de_times newF de_int (dv 1))) de_int)) (de_times newF (dv 1) de_int)) de_int)) de_int) rfl (by first | exact .inl rfl | exact .inr rfl))
    (dss_one (ds_ret (de_mod (de_int1 z_int (de_plus newF (de_times newF (dv 3) de_int) (dv 2))) de_int)))))
theorem ok__law_start {f c f__law_mixed : Addr}  (A : FAt G.K mg "_law_start" s__law_start f c) (z_len : mg "len" = none) (z_list : mg "list" = none) (h__law_mixed : DFs P G.wo G mg 2 "_law_mixed" s__law_mixed f__law_mixed ["number", "k"] F__law_mixed) : DFs P G.wo G mg 3 "_law_start" s__law_start f ["script"] F__law_start := by
  refine fn_at (k := 2) (cv := none) (N := N__law_start) (ps := ["script"]) (fin := finK) (t := t__law_start) A sc__law_start finK_ok (fun v hv => by cases hv) fun A1 outer s H E hr => ?_
  exact (dss_cons (ds_set (i := 1) sc__law_start.nd rfl (by first | exact .inl rfl | exact .inr rfl) (de_len z_len (dv 0)) rfl (by first | exact .inl rfl | exact .inr rfl))
    (dss_cons (ds_for PassesOwn.never rfl (fun _ => rfl) (di_seq (de_sl newF (dv 0) do_no (do_some de_int))) (dg_name (i := 2) sc__law_start.nd rfl (by first | exact .inl rfl | exact .inr rfl) (by first | exact .inl rfl | exact .inr rfl)) (dss_one (ds_set (i := 1) sc__law_start.nd rfl (by first | exact .inl rfl | exact .inr rfl) (dcall (G := G) h__law_mixed bd__law_mixed (hr.mono (by omega)) (da_cons (de_plus newF (dv 1) (dv 2)) (da_cons de_int da_nil))) rfl (by first | exact .inl rfl | exact .inr rfl))))
    (dss_one (ds_ret (de_lstO (da_cons de_int (da_cons de_int (da_cons de_int (da_cons (dv 1) (da_cons (de_listF z_list (de_sl newF (dv 0) do_no (do_some de_int))) (da_cons de_int da_nil)))))))))))
theorem ok__law_take {f c f__law_mixed : Addr}  (A : FAt G.K mg "_law_take" s__law_take f c) (z_abs : mg "abs" = none) (z_int : mg "int" = none) (z_len : mg "len" = none) (h__law_mixed : DFs P G.wo G mg 2 "_law_mixed" s__law_mixed f__law_mixed ["number", "k"] F__law_mixed) : DFs P G.wo G mg 3 "_law_take" s__law_take f ["state", "limit"] F__law_take := by
  refine fn_at (k := 2) (cv := none) (N := N__law_take) (ps := ["state", "limit"]) (fin := finM) (t := t__law_take) A sc__law_take finM_ok (fun v hv => by cases hv) fun A1 outer s H E hr => ?_
  exact (dss_cons (ds_set (i := 2) sc__law_take.nd rfl (by first | exact .inl rfl | exact .inr rfl) (de_ix (dv 0) de_int) rfl (by first | exact .inl rfl | exact .inr rfl))
    (dss_cons (ds_augIx g_add (dv 0) de_int de_int)
    (dss_cons (ds_if (dt_w (dw_and (dt_cmp (c_eq hr) (de_ix (dv 0) de_int) de_int) (dw_and1 (dt_cmp c_lt (de_ix (dv 0) de_int) (de_len z_len (dv 2)))))) (dss_cons (ds_set (i := 3) sc__law_take.nd rfl (by first | exact .inl rfl | exact .inr rfl) (de_ix (dv 2) (de_ix (dv 0) de_int)) rfl (by first | exact .inl rfl | exact .inr rfl))
    (dss_cons (ds_augIx g_add (dv 0) de_int de_int)
    (dss_cons (ds_if (dt_cmp c_lt (de_abs z_abs (dv 3)) (de_pow de_int de_int)) (dss_one (ds_ret (de_mod (de_int1 z_int (dcall (G := G) h__law_mixed bd__law_mixed (hr.mono (by omega)) (da_cons (dv 3) (da_cons (de_ix (dv 0) de_int) da_nil)))) (dv 1)))) dss_nil)
    (dss_cons (ds_asg (de_abs z_abs (dv 3)) (dg_ix (dv 0) de_int))
    (dss_one (ds_asg de_int (dg_ix (dv 0) de_int))))))) dss_nil)
    (dss_cons (ds_if (dt_cmp (c_eq hr) (de_ix (dv 0) de_int) de_int) (dss_one (ds_ret (de_mod (de_int1 z_int (dcall (G := G) h__law_mixed bd__law_mixed (hr.mono (by omega)) (da_cons (de_ix (dv 0) de_int) (da_cons (de_ix (dv 0) de_int) da_nil)))) (dv 1)))) dss_nil)
    (dss_cons (ds_set (i := 4) sc__law_take.nd rfl (by first | exact .inl rfl | exact .inr rfl) (de_mod (de_int1 z_int (de_ix (dv 0) de_int)) (dv 1)) rfl (by first | exact .inl rfl | exact .inr rfl))
    (dss_cons (ds_augIx g_sub (dv 0) de_int de_int)
    (dss_cons (ds_asg (de_times newF (de_div (de_ix (dv 0) de_int) (dv 1)) (de_int1 z_int (de_cmp c_gt (de_ix (dv 0) de_int) de_int))) (dg_ix (dv 0) de_int))
    (dss_one (ds_ret (dv 4))))))))))
theorem ok__law_pick {f c f__law_take : Addr}  (A : FAt G.K mg "_law_pick" s__law_pick f c) (z_len : mg "len" = none) (h__law_take : DFs P G.wo G mg 3 "_law_take" s__law_take f__law_take ["state", "limit"] F__law_take) : DFs P G.wo G mg 4 "_law_pick" s__law_pick f ["state", "some"] F__law_pick := by
  refine fn_at (k := 3) (cv := none) (N := N__law_pick) (ps := ["state", "some"]) (fin := finM) (t := t__law_pick) A sc__law_pick finM_ok (fun v hv => by cases hv) fun A1 outer s H E hr => ?_
  exact (dss_one (ds_ret (de_ix (dv 1) (dcall (G := G) h__law_take bd__law_take (hr.mono (by omega)) (da_cons (dv 0) (da_cons (de_len z_len (dv 1)) da_nil))))))
theorem ok__law_same {f c  : Addr}  (A : FAt G.K mg "_law_same" s__law_same f c) (z_bool : mg "bool" = none) (z_int : mg "int" = none) (z_isinstance : mg "isinstance" = none) (z_len : mg "len" = none) (z_range : mg "range" = none) (z_str : mg "str" = none) (z_tuple : mg "tuple" = none) : ∀ m : Nat, DFs P G.wo G mg (1 + 1 * m) "_law_same" s__law_same f ["told", "due"] (F__law_same m)
  | 0 => dfs_zero A
  | m + 1 => by
    have ih := ok__law_same A z_bool z_int z_isinstance z_len z_range z_str z_tuple   m
    refine DFs.mono (fn_at (k := 1 + 1 * m + 0) (cv := none) (N := N__law_same) (ps := ["told", "due"]) (fin := finP) (t := t__law_same (F__law_same m)) A sc__law_same finP_ok (fun v hv => by cases hv) fun A1 outer s H E hr => ?_) (by omega)
    exact (dss_cons (ds_if (dt_cmp c_isN (dv 1) de_non) (dss_one (ds_ret (de_cmp c_isN (dv 0) de_non))) dss_nil)
    (dss_cons (ds_if (dt_tru (de_isi z_isinstance (dv 1) z_bool bt_bool)) (dss_one (ds_ret (de_and (de_isi z_isinstance (dv 0) z_bool bt_bool) (de_one (de_cmp (c_eq hr) (dv 0) (dv 1)))))) dss_nil)
    (dss_cons (ds_if (dt_tru (de_isi z_isinstance (dv 1) z_int bt_int)) (dss_one (ds_ret (de_and (de_isi z_isinstance (dv 0) z_int bt_int) (de_and (de_not (de_isi z_isinstance (dv 0) z_bool bt_bool)) (de_one (de_cmp (c_eq hr) (dv 0) (dv 1))))))) dss_nil)
    (dss_cons (ds_if (dt_tru (de_isi z_isinstance (dv 1) z_str bt_str)) (dss_one (ds_ret (de_and (de_isi z_isinstance (dv 0) z_str bt_str) (de_one (de_cmp (c_eq hr) (dv 0) (dv 1)))))) dss_nil)
    (dss_cons (ds_if (dt_w (dw_or (dt_not (dt_tru (de_isi z_isinstance (dv 0) z_tuple bt_tuple))) (dw_or1 (dt_cmp (c_ne hr) (de_len z_len (dv 0)) (de_len z_len (dv 1)))))) (dss_one (ds_ret de_bl)) dss_nil)
    (dss_cons (ds_for PassesOwn.never rfl (fun _ => rfl) (di_range1 z_range (de_len z_len (dv 1))) (dg_name (i := 2) sc__law_same.nd rfl (by first | exact .inl rfl | exact .inr rfl) (by first | exact .inl rfl | exact .inr rfl)) (dss_one (ds_if (dt_not (dt_tru (dcall (G := G) ih bd__law_same (hr.mono (by omega)) (da_cons (de_ix (dv 0) (dv 2)) (da_cons (de_ix (dv 1) (dv 2)) da_nil))))) (dss_one (ds_ret de_bl)) dss_nil)))
    (dss_one (ds_ret de_bl))))))))
theorem ok__law_is_due {f c  : Addr}  (A : FAt G.K mg "_law_is_due" s__law_is_due f c) : DFs P G.wo G mg 2 "_law_is_due" s__law_is_due f ["told", "due"] F__law_is_due := by
  refine fn_at (k := 1) (cv := none) (N := N__law_is_due) (ps := ["told", "due"]) (fin := finP) (t := t__law_is_due) A sc__law_is_due finP_ok (fun v hv => by cases hv) fun A1 outer s H E hr => ?_
  exact (dss_one (ds_ret (de_if (dt_tru (dv 1)) (de_cmp c_isB (dv 0) de_bl) (de_cmp c_isB (dv 0) de_bl))))
theorem ok__law_divisor {f c  : Addr}  (A : FAt G.K mg "_law_divisor" s__law_divisor f c) (z_int : mg "int" = none) (z_range : mg "range" = none) : DFs P G.wo G mg 2 "_law_divisor" s__law_divisor f ["one", "other"] F__law_divisor := by
  refine fn_at (k := 1) (cv := none) (N := N__law_divisor) (ps := ["one", "other"]) (fin := finP) (t := t__law_divisor) A sc__law_divisor finP_ok (fun v hv => by cases hv) fun A1 outer s H E hr => ?_
  exact (dss_cons (ds_for PassesOwn.never rfl (fun _ => rfl) (di_range1 z_range de_int) (dg_name (i := 2) sc__law_divisor.nd rfl (by first | exact .inl rfl | exact .inr rfl) (by first | exact .inl rfl | exact .inr rfl)) (dss_cons (ds_if (dt_cmp (c_eq hr) (dv 1) de_int) (dss_one ds_break) dss_nil)
    (dss_one (ds_par (i := 0) (j := 1) rfl sc__law_divisor.nd rfl rfl (by decide) rfl rfl (da_cons (dv 1) (da_cons (de_mod (de_int1 z_int (dv 0)) (dv 1)) da_nil)) rfl))))
    (dss_one (ds_ret (dv 0))))
theorem ok__law_fraction {f c f__law_divisor : Addr}  (A : FAt G.K mg "_law_fraction" s__law_fraction f c) (z_abs : mg "abs" = none) (h__law_divisor : DFs P G.wo G mg 2 "_law_divisor" s__law_divisor f__law_divisor ["one", "other"] F__law_divisor) : DFs P G.wo G mg 3 "_law_fraction" s__law_fraction f ["top", "below"] F__law_fraction := by
  refine fn_at (k := 2) (cv := none) (N := N__law_fraction) (ps := ["top", "below"]) (fin := finP) (t := t__law_fraction) A sc__law_fraction finP_ok (fun v hv => by cases hv) fun A1 outer s H E hr => ?_
  exact (dss_cons (ds_set (i := 2) sc__law_fraction.nd rfl (by first | exact .inl rfl | exact .inr rfl) (dcall (G := G) h__law_divisor bd__law_divisor (hr.mono (by omega)) (da_cons (de_abs z_abs (dv 0)) (da_cons (dv 1) da_nil))) rfl (by first | exact .inl rfl | exact .inr rfl))
    (dss_one (ds_ret (de_tup (da_cons (de_div (dv 0) (dv 2)) (da_cons (de_div (dv 1) (dv 2)) da_nil))))))
theorem ok__law_product {f c f__law_fraction : Addr}  (A : FAt G.K mg "_law_product" s__law_product f c) (h__law_fraction : DFs P G.wo G mg 3 "_law_fraction" s__law_fraction f__law_fraction ["top", "below"] F__law_fraction) : DFs P G.wo G mg 4 "_law_product" s__law_product f ["one", "other"] F__law_product := by
  refine fn_at (k := 3) (cv := none) (N := N__law_product) (ps := ["one", "other"]) (fin := finP) (t := t__law_product) A sc__law_product finP_ok (fun v hv => by cases hv) fun A1 outer s H E hr => ?_
  exact (dss_one (ds_ret (dcall (G := G) h__law_fraction bd__law_fraction (hr.mono (by omega)) (da_cons (de_times newF (de_ix (dv 0) de_int) (de_ix (dv 1) de_int)) (da_cons (de_times newF (de_ix (dv 0) de_int) (de_ix (dv 1) de_int)) da_nil)))))
theorem ok__law_sum {f c f__law_fraction : Addr}  (A : FAt G.K mg "_law_sum" s__law_sum f c) (h__law_fraction : DFs P G.wo G mg 3 "_law_fraction" s__law_fraction f__law_fraction ["top", "below"] F__law_fraction) : DFs P G.wo G mg 4 "_law_sum" s__law_sum f ["one", "other"] F__law_sum := by
  refine fn_at (k := 3) (cv := none) (N := N__law_sum) (ps := ["one", "other"]) (fin := finP) (t := t__law_sum) A sc__law_sum finP_ok (fun v hv => by cases hv) fun A1 outer s H E hr => ?_
  exact (dss_one (ds_ret (dcall (G := G) h__law_fraction bd__law_fraction (hr.mono (by omega)) (da_cons (de_plus newF (de_times newF (de_ix (dv 0) de_int) (de_ix (dv 1) de_int)) (de_times newF (de_ix (dv 1) de_int) (de_ix (dv 0) de_int))) (da_cons (de_times newF (de_ix (dv 0) de_int) (de_ix (dv 1) de_int)) da_nil)))))
theorem ok__law_total {f c f__law_sum : Addr}  (A : FAt G.K mg "_law_total" s__law_total f c) (h__law_sum : DFs P G.wo G mg 4 "_law_sum" s__law_sum f__law_sum ["one", "other"] F__law_sum) : DFs P G.wo G mg 5 "_law_total" s__law_total f ["parts"] F__law_total := by
  refine fn_at (k := 4) (cv := none) (N := N__law_total) (ps := ["parts"]) (fin := finP) (t := t__law_total) A sc__law_total finP_ok (fun v hv => by cases hv) fun A1 outer s H E hr => ?_
  exact (dss_cons (ds_set (i := 1) sc__law_total.nd rfl (by first | exact .inl rfl | exact .inr rfl) (de_tup (da_cons de_int (da_cons de_int da_nil))) rfl (by first | exact .inl rfl | exact .inr rfl))
    (dss_cons (ds_for PassesOwn.never rfl (fun _ => rfl) (di_seq (dv 0)) (dg_name (i := 2) sc__law_total.nd rfl (by first | exact .inl rfl | exact .inr rfl) (by first | exact .inl rfl | exact .inr rfl)) (dss_one (ds_set (i := 1) sc__law_total.nd rfl (by first | exact .inl rfl | exact .inr rfl) (dcall (G := G) h__law_sum bd__law_sum (hr.mono (by omega)) (da_cons (dv 1) (da_cons (dv 2) da_nil))) rfl (by first | exact .inl rfl | exact .inr rfl))))
    (dss_one (ds_ret (dv 1)))))
theorem ok__law_is_fraction {f c f__law_divisor : Addr}  (A : FAt G.K mg "_law_is_fraction" s__law_is_fraction f c) (z_abs : mg "abs" = none) (z_bool : mg "bool" = none) (z_int : mg "int" = none) (z_isinstance : mg "isinstance" = none) (z_len : mg "len" = none) (z_tuple : mg "tuple" = none) (h__law_divisor : DFs P G.wo G mg 2 "_law_divisor" s__law_divisor f__law_divisor ["one", "other"] F__law_divisor) : DFs P G.wo G mg 3 "_law_is_fraction" s__law_is_fraction f ["value"] F__law_is_fraction := by
  refine fn_at (k := 2) (cv := none) (N := N__law_is_fraction) (ps := ["value"]) (fin := finP) (t := t__law_is_fraction) A sc__law_is_fraction finP_ok (fun v hv => by cases hv) fun A1 outer s H E hr => ?_
  exact (dss_cons (ds_if (dt_w (dw_or (dt_not (dt_tru (de_isi z_isinstance (dv 0) z_tuple bt_tuple))) (dw_or (dt_cmp (c_ne hr) (de_len z_len (dv 0)) de_int) (dw_or1 (dt_cmp c_gt (de_len z_len (de_lc (own := [("one", 1)]) mkF rfl sc__law_is_fraction.nd (di_seq (dv 0)) (blkOk_by (by kernel_rfl)) (fun s H C cl fp => (dgw_name (i := 1) sc__law_is_fraction.nd rfl (by first | exact .inl rfl | exact .inr rfl) (by first | exact .inl rfl | exact .inr rfl) (by decide))) (fun s H C cl fp => (dts_one (dt_w (dw_or (dt_not (dt_tru (de_isi z_isinstance (dv 1) z_int bt_int))) (dw_or1 (dt_tru (de_isi z_isinstance (dv 1) z_bool bt_bool))))))) (fun s H C cl fp => (dv 1)))) de_int))))) (dss_one (ds_ret de_bl)) dss_nil)
    (dss_one (ds_ret (de_and (de_cmp c_gt (de_ix (dv 0) de_int) de_int) (de_one (de_cmp (c_eq hr) (dcall (G := G) h__law_divisor bd__law_divisor (hr.mono (by omega)) (da_cons (de_abs z_abs (de_ix (dv 0) de_int)) (da_cons (de_ix (dv 0) de_int) da_nil))) de_int))))))
theorem ok__law_row {f c f__law_fraction f__law_pick f__law_take : Addr}  (A : FAt G.K mg "_law_row" s__law_row f c) (z_range : mg "range" = none) (z_tuple : mg "tuple" = none) (h__law_fraction : DFs P G.wo G mg 3 "_law_fraction" s__law_fraction f__law_fraction ["top", "below"] F__law_fraction) (h__law_pick : DFs P G.wo G mg 4 "_law_pick" s__law_pick f__law_pick ["state", "some"] F__law_pick) (h__law_take : DFs P G.wo G mg 3 "_law_take" s__law_take f__law_take ["state", "limit"] F__law_take) : DFs P G.wo G mg 5 "_law_row" s__law_row f ["state", "many", "belows"] F__law_row := by
  refine fn_at (k := 4) (cv := none) (N := N__law_row) (ps := ["state", "many", "belows"]) (fin := finM) (t := t__law_row) A sc__law_row finM_ok (fun v hv => by cases hv) fun A1 outer s H E hr => ?_
  exact (dss_cons (ds_set (i := 3) sc__law_row.nd rfl (by first | exact .inl rfl | exact .inr rfl) (dcall (G := G) h__law_pick bd__law_pick (hr.mono (by omega)) (da_cons (dv 0) (da_cons (dv 2) da_nil))) rfl (by first | exact .inl rfl | exact .inr rfl))
    (dss_cons (ds_set (i := 4) sc__law_row.nd rfl (by first | exact .inl rfl | exact .inr rfl) (de_times newO (de_lst (da_cons de_int da_nil)) (dv 1)) rfl (by first | exact .inl rfl | exact .inr rfl))
    (dss_cons (ds_for PassesOwn.never rfl (fun _ => rfl) (di_range1 z_range (dv 3)) (dg_name (i := 5) sc__law_row.nd rfl (by first | exact .inl rfl | exact .inr rfl) (by first | exact .inl rfl | exact .inr rfl)) (dss_one (ds_augIx g_add (dv 4) (dcall (G := G) h__law_take bd__law_take (hr.mono (by omega)) (da_cons (dv 0) (da_cons (dv 1) da_nil))) de_int)))
    (dss_one (ds_ret (de_tupOf z_tuple (de_lc (own := [("count", 6)]) mkF rfl sc__law_row.nd (di_seq (dv 4)) (blkOk_by (by kernel_rfl)) (fun s H C cl fp => (dgw_name (i := 6) sc__law_row.nd rfl (by first | exact .inl rfl | exact .inr rfl) (by first | exact .inl rfl | exact .inr rfl) (by decide))) (fun s H C cl fp => dts_nil) (fun s H C cl fp => (dcall (G := G) h__law_fraction bd__law_fraction (hr.mono (by omega)) (da_cons (dv 6) (da_cons (dv 3) da_nil)))))))))))
theorem ok__law_telling {f c f__law_product f__law_row f__law_take : Addr}  (A : FAt G.K mg "_law_telling" s__law_telling f c) (z_range : mg "range" = none) (z_tuple : mg "tuple" = none) (h__law_product : DFs P G.wo G mg 4 "_law_product" s__law_product f__law_product ["one", "other"] F__law_product) (h__law_row : DFs P G.wo G mg 5 "_law_row" s__law_row f__law_row ["state", "many", "belows"] F__law_row) (h__law_take : DFs P G.wo G mg 3 "_law_take" s__law_take f__law_take ["state", "limit"] F__law_take) : DFs P G.wo G mg 6 "_law_telling" s__law_telling f ["state", "worlds", "signs"] F__law_telling := by
  refine fn_at (k := 5) (cv := none) (N := N__law_telling) (ps := ["state", "worlds", "signs"]) (fin := finM) (t := t__law_telling) A sc__law_telling finM_ok (fun v hv => by cases hv) fun A1 outer s H E hr => ?_
  exact (dss_cons (ds_set (i := 3) sc__law_telling.nd rfl (by first | exact .inl rfl | exact .inr rfl) (de_lc (own := [("k", 4)]) mkF rfl sc__law_telling.nd (di_range1 z_range (dv 1)) (blkOk_by (by kernel_rfl)) (fun s H C cl fp => (dgw_name (i := 4) sc__law_telling.nd rfl (by first | exact .inl rfl | exact .inr rfl) (by first | exact .inl rfl | exact .inr rfl) (by decide))) (fun s H C cl fp => dts_nil) (fun s H C cl fp => (dcall (G := G) h__law_row bd__law_row (hr.mono (by omega)) (da_cons (dv 0) (da_cons (dv 2) (da_cons (de_lst (da_cons de_int (da_cons de_int (da_cons de_int (da_cons de_int (da_cons de_int (da_cons de_int da_nil))))))) da_nil)))))) rfl (by first | exact .inl rfl | exact .inr rfl))
    (dss_cons (ds_asg (de_tup (da_cons (dcall (G := G) h__law_take bd__law_take (hr.mono (by omega)) (da_cons (dv 0) (da_cons de_int da_nil))) (da_cons (dcall (G := G) h__law_take bd__law_take (hr.mono (by omega)) (da_cons (dv 0) (da_cons (dv 2) da_nil))) da_nil))) (dg_tup rfl (dgs_cons (dg_name (i := 5) sc__law_telling.nd rfl (by first | exact .inl rfl | exact .inr rfl) (by first | exact .inl rfl | exact .inr rfl)) (dgs_cons (dg_name (i := 6) sc__law_telling.nd rfl (by first | exact .inl rfl | exact .inr rfl) (by first | exact .inl rfl | exact .inr rfl)) dgs_nil))))
    (dss_cons (ds_if (dt_w (dw_and (dt_cmp (c_eq hr) (dv 5) de_int) (dw_and1 (dt_cmp c_lt (dv 2) de_int)))) (dss_one (ds_set (i := 3) sc__law_telling.nd rfl (by first | exact .inl rfl | exact .inr rfl) (de_lc (own := [("row", 7)]) mkF rfl sc__law_telling.nd (di_seq (dv 3)) (blkOk_by (by kernel_rfl)) (fun s H C cl fp => (dgw_name (i := 7) sc__law_telling.nd rfl (by first | exact .inl rfl | exact .inr rfl) (by first | exact .inl rfl | exact .inr rfl) (by decide))) (fun s H C cl fp => dts_nil) (fun s H C cl fp => (de_plus newF (de_plus newF (de_sl newF (dv 7) do_no (do_some (dv 6))) (de_tup (da_cons (de_tup (da_cons de_int (da_cons de_int da_nil))) da_nil))) (de_sl newF (dv 7) (do_some (dv 6)) do_no)))) rfl (by first | exact .inl rfl | exact .inr rfl))) dss_nil)
    (dss_cons (ds_if (dt_w (dw_and (dt_cmp (c_eq hr) (dv 5) de_int) (dw_and1 (dt_cmp c_lt (dv 2) de_int)))) (dss_one (ds_set (i := 3) sc__law_telling.nd rfl (by first | exact .inl rfl | exact .inr rfl) (de_lc (own := [("row", 7)]) mkF rfl sc__law_telling.nd (di_seq (dv 3)) (blkOk_by (by kernel_rfl)) (fun s H C cl fp => (dgw_name (i := 7) sc__law_telling.nd rfl (by first | exact .inl rfl | exact .inr rfl) (by first | exact .inl rfl | exact .inr rfl) (by decide))) (fun s H C cl fp => dts_nil) (fun s H C cl fp => (de_plus newF (de_plus newF (de_sl newF (dv 7) do_no (do_some (dv 6))) (de_times newF (de_tup (da_cons (dcall (G := G) h__law_product bd__law_product (hr.mono (by omega)) (da_cons (de_ix (dv 7) (dv 6)) (da_cons (de_tup (da_cons de_int (da_cons de_int da_nil))) da_nil))) da_nil)) de_int)) (de_sl newF (dv 7) (do_some (de_plus newF (dv 6) de_int)) do_no)))) rfl (by first | exact .inl rfl | exact .inr rfl))) dss_nil)
    (dss_cons (ds_if (dt_cmp (c_eq hr) (dv 5) de_int) (dss_one (ds_set (i := 3) sc__law_telling.nd rfl (by first | exact .inl rfl | exact .inr rfl) (de_lc (own := [("k", 4)]) mkF rfl sc__law_telling.nd (di_range1 z_range (dv 1)) (blkOk_by (by kernel_rfl)) (fun s H C cl fp => (dgw_name (i := 4) sc__law_telling.nd rfl (by first | exact .inl rfl | exact .inr rfl) (by first | exact .inl rfl | exact .inr rfl) (by decide))) (fun s H C cl fp => dts_nil) (fun s H C cl fp => (de_if (dt_cmp c_gt (dcall (G := G) h__law_take bd__law_take (hr.mono (by omega)) (da_cons (dv 0) (da_cons de_int da_nil))) de_int) (de_ix (dv 3) (dv 4)) (de_ix (dv 3) de_int)))) rfl (by first | exact .inl rfl | exact .inr rfl))) dss_nil)
    (dss_one (ds_ret (de_tupOf z_tuple (dv 3)))))))))
theorem ok__law_table {f c f__law_row : Addr}  (A : FAt G.K mg "_law_table" s__law_table f c) (z_range : mg "range" = none) (z_tuple : mg "tuple" = none) (h__law_row : DFs P G.wo G mg 5 "_law_row" s__law_row f__law_row ["state", "many", "belows"] F__law_row) : DFs P G.wo G mg 6 "_law_table" s__law_table f ["state", "many", "signs"] F__law_table := by
  refine fn_at (k := 5) (cv := none) (N := N__law_table) (ps := ["state", "many", "signs"]) (fin := finM) (t := t__law_table) A sc__law_table finM_ok (fun v hv => by cases hv) fun A1 outer s H E hr => ?_
  exact (dss_one (ds_ret (de_tupOf z_tuple (de_lc (own := [("k", 3)]) mkF rfl sc__law_table.nd (di_range1 z_range (dv 1)) (blkOk_by (by kernel_rfl)) (fun s H C cl fp => (dgw_name (i := 3) sc__law_table.nd rfl (by first | exact .inl rfl | exact .inr rfl) (by first | exact .inl rfl | exact .inr rfl) (by decide))) (fun s H C cl fp => dts_nil) (fun s H C cl fp => (dcall (G := G) h__law_row bd__law_row (hr.mono (by omega)) (da_cons (dv 0) (da_cons (dv 2) (da_cons (de_lst (da_cons de_int (da_cons de_int (da_cons de_int (da_cons de_int (da_cons de_int da_nil)))))) da_nil)))))))))
theorem ok__law_garbled {f c f__law_product f__law_total : Addr}  (A : FAt G.K mg "_law_garbled" s__law_garbled f c) (z_len : mg "len" = none) (z_range : mg "range" = none) (z_tuple : mg "tuple" = none) (h__law_product : DFs P G.wo G mg 4 "_law_product" s__law_product f__law_product ["one", "other"] F__law_product) (h__law_total : DFs P G.wo G mg 5 "_law_total" s__law_total f__law_total ["parts"] F__law_total) : DFs P G.wo G mg 6 "_law_garbled" s__law_garbled f ["telling", "table"] F__law_garbled := by
  refine fn_at (k := 5) (cv := none) (N := N__law_garbled) (ps := ["telling", "table"]) (fin := finP) (t := t__law_garbled) A sc__law_garbled finP_ok (fun v hv => by cases hv) fun A1 outer s H E hr => ?_
  exact (dss_cons (ds_set (i := 2) sc__law_garbled.nd rfl (by first | exact .inl rfl | exact .inr rfl) (de_lstO da_nil) rfl (by first | exact .inl rfl | exact .inr rfl))
    (dss_cons (ds_for PassesOwn.never rfl (fun _ => rfl) (di_seq (dv 0)) (dg_name (i := 3) sc__law_garbled.nd rfl (by first | exact .inl rfl | exact .inr rfl) (by first | exact .inl rfl | exact .inr rfl)) (dss_cons (ds_set (i := 4) sc__law_garbled.nd rfl (by first | exact .inl rfl | exact .inr rfl) (de_lstO da_nil) rfl (by first | exact .inl rfl | exact .inr rfl))
    (dss_cons (ds_for PassesOwn.never rfl (fun _ => rfl) (di_range1 z_range (de_len z_len (de_ix (dv 1) de_int))) (dg_name (i := 5) sc__law_garbled.nd rfl (by first | exact .inl rfl | exact .inr rfl) (by first | exact .inl rfl | exact .inr rfl)) (dss_one (ds_expr (de_append (dv 4) (da_cons (dcall (G := G) h__law_total bd__law_total (hr.mono (by omega)) (da_cons (de_lc (own := [("s", 6)]) mkF rfl sc__law_garbled.nd (di_range1 z_range (de_len z_len (dv 3))) (blkOk_by (by kernel_rfl)) (fun s H C cl fp => (dgw_name (i := 6) sc__law_garbled.nd rfl (by first | exact .inl rfl | exact .inr rfl) (by first | exact .inl rfl | exact .inr rfl) (by decide))) (fun s H C cl fp => dts_nil) (fun s H C cl fp => (dcall (G := G) h__law_product bd__law_product (hr.mono (by omega)) (da_cons (de_ix (dv 3) (dv 6)) (da_cons (de_ix (de_ix (dv 1) (dv 6)) (dv 5)) da_nil))))) da_nil)) da_nil)))))
    (dss_one (ds_expr (de_append (dv 2) (da_cons (de_tupOf z_tuple (dv 4)) da_nil)))))))
    (dss_one (ds_ret (de_tupOf z_tuple (dv 2))))))
theorem ok__law_is_table {f c f__law_is_fraction f__law_total : Addr}  (A : FAt G.K mg "_law_is_table" s__law_is_table f c) (z_isinstance : mg "isinstance" = none) (z_len : mg "len" = none) (z_tuple : mg "tuple" = none) (h__law_is_fraction : DFs P G.wo G mg 3 "_law_is_fraction" s__law_is_fraction f__law_is_fraction ["value"] F__law_is_fraction) (h__law_total : DFs P G.wo G mg 5 "_law_total" s__law_total f__law_total ["parts"] F__law_total) : DFs P G.wo G mg 6 "_law_is_table" s__law_is_table f ["value", "m", "k"] F__law_is_table := by
  refine fn_at (k := 5) (cv := none) (N := N__law_is_table) (ps := ["value", "m", "k"]) (fin := finP) (t := t__law_is_table) A sc__law_is_table finP_ok (fun v hv => by cases hv) fun A1 outer s H E hr => ?_
  exact (dss_cons (ds_if (dt_w (dw_or (dt_not (dt_tru (de_isi z_isinstance (dv 0) z_tuple bt_tuple))) (dw_or1 (dt_cmp (c_ne hr) (de_len z_len (dv 0)) (dv 1))))) (dss_one (ds_ret de_bl)) dss_nil)
    (dss_cons (ds_for PassesOwn.never rfl (fun _ => rfl) (di_seq (dv 0)) (dg_name (i := 3) sc__law_is_table.nd rfl (by first | exact .inl rfl | exact .inr rfl) (by first | exact .inl rfl | exact .inr rfl)) (dss_cons (ds_if (dt_w (dw_or (dt_not (dt_tru (de_isi z_isinstance (dv 3) z_tuple bt_tuple))) (dw_or (dt_cmp (c_ne hr) (de_len z_len (dv 3)) (dv 2)) (dw_or1 (dt_cmp c_gt (de_len z_len (de_lc (own := [("one", 4)]) mkF rfl sc__law_is_table.nd (di_seq (dv 3)) (blkOk_by (by kernel_rfl)) (fun s H C cl fp => (dgw_name (i := 4) sc__law_is_table.nd rfl (by first | exact .inl rfl | exact .inr rfl) (by first | exact .inl rfl | exact .inr rfl) (by decide))) (fun s H C cl fp => (dts_one (dt_w (dw_or (dt_not (dt_tru (dcall (G := G) h__law_is_fraction bd__law_is_fraction (hr.mono (by omega)) (da_cons (dv 4) da_nil)))) (dw_or1 (dt_cmp c_lt (de_ix (dv 4) de_int) de_int)))))) (fun s H C cl fp => (dv 4)))) de_int))))) (dss_one (ds_ret de_bl)) dss_nil)
    (dss_one (ds_if (dt_cmp (c_ne hr) (dcall (G := G) h__law_total bd__law_total (hr.mono (by omega)) (da_cons (dv 3) da_nil)) (de_tup (da_cons de_int (da_cons de_int da_nil)))) (dss_one (ds_ret de_bl)) dss_nil))))
    (dss_one (ds_ret de_bl))))
theorem ok__law_leaf {f c f__law_pick : Addr}  (A : FAt G.K mg "_law_leaf" s__law_leaf f c) (z_int : mg "int" = none) (z_isinstance : mg "isinstance" = none) (z_str : mg "str" = none) (h__law_pick : DFs P G.wo G mg 4 "_law_pick" s__law_pick f__law_pick ["state", "some"] F__law_pick) : DFs P G.wo G mg 5 "_law_leaf" s__law_leaf f ["state", "value"] F__law_leaf := by
  refine fn_at (k := 4) (cv := none) (N := N__law_leaf) (ps := ["state", "value"]) (fin := finM) (t := t__law_leaf) A sc__law_leaf finM_ok (fun v hv => by cases hv) fun A1 outer s H E hr => ?_
  exact (dss_cons (ds_if (dt_tru (de_isi z_isinstance (dv 1) z_str bt_str)) (dss_one (ds_ret (dcall (G := G) h__law_pick bd__law_pick (hr.mono (by omega)) (da_cons (dv 0) (da_cons (de_lst (da_cons de_str (da_cons (de_plus newF (dv 1) de_str) (da_cons (de_sl newF (dv 1) do_no (do_some (de_neg de_int))) (da_cons (de_plus newF de_str (dv 1)) (da_cons (de_plus newF (dv 1) de_str) (da_cons de_str (da_cons de_str (da_cons de_str (da_cons de_str (da_cons de_str (da_cons de_str (da_cons de_int (da_cons de_non (da_cons (de_tup (da_cons (dv 1) da_nil)) da_nil))))))))))))))) da_nil))))) dss_nil)
    (dss_cons (ds_if (dt_not (dt_tru (de_isi z_isinstance (dv 1) z_int bt_int))) (dss_one (ds_ret (dcall (G := G) h__law_pick bd__law_pick (hr.mono (by omega)) (da_cons (dv 0) (da_cons (de_lst (da_cons de_int (da_cons de_int (da_cons (de_tup da_nil) (da_cons de_str (da_cons de_bl (da_cons (de_neg de_int) (da_cons de_non da_nil)))))))) da_nil))))) dss_nil)
    (dss_cons (ds_set (i := 2) sc__law_leaf.nd rfl (by first | exact .inl rfl | exact .inr rfl) (de_lst (da_cons (de_plus newF (dv 1) de_int) (da_cons (de_sub (dv 1) de_int) (da_cons (de_neg (dv 1)) (da_cons (de_neg de_int) (da_cons de_int (da_cons de_int (da_cons de_int (da_cons de_int (da_cons de_int (da_cons de_int (da_cons de_int (da_cons de_int (da_cons de_int (da_cons de_int (da_cons de_int (da_cons de_int (da_cons de_int (da_cons de_int (da_cons de_int (da_cons de_int (da_cons de_int (da_cons de_int da_nil))))))))))))))))))))))) rfl (by first | exact .inl rfl | exact .inr rfl))
    (dss_one (ds_ret (dcall (G := G) h__law_pick bd__law_pick (hr.mono (by omega)) (da_cons (dv 0) (da_cons (de_plus newF (dv 2) (de_lst (da_cons de_int (da_cons de_int (da_cons de_int (da_cons de_int (da_cons de_int (da_cons (de_cmp (c_eq hr) (dv 1) de_int) (da_cons (de_cmp (c_eq hr) (dv 1) de_int) (da_cons de_non (da_cons (de_str1 z_str (dv 1)) (da_cons (de_tup (da_cons (dv 1) da_nil)) (da_cons (de_tup da_nil) da_nil))))))))))))) da_nil))))))))
theorem ok__law_spoilt {f c f__law_leaf f__law_pick f__law_take : Addr}  (A : FAt G.K mg "_law_spoilt" s__law_spoilt f c) (z_int : mg "int" = none) (z_isinstance : mg "isinstance" = none) (z_len : mg "len" = none) (z_tuple : mg "tuple" = none) (h__law_leaf : DFs P G.wo G mg 5 "_law_leaf" s__law_leaf f__law_leaf ["state", "value"] F__law_leaf) (h__law_pick : DFs P G.wo G mg 4 "_law_pick" s__law_pick f__law_pick ["state", "some"] F__law_pick) (h__law_take : DFs P G.wo G mg 3 "_law_take" s__law_take f__law_take ["state", "limit"] F__law_take) : ∀ m : Nat, DFs P G.wo G mg (5 + 1 * m) "_law_spoilt" s__law_spoilt f ["state", "value", "deep"] (F__law_spoilt m)
  | 0 => dfs_zero A
  | m + 1 => by
    have ih := ok__law_spoilt A z_int z_isinstance z_len z_tuple  h__law_leaf h__law_pick h__law_take m
    refine DFs.mono (fn_at (k := 5 + 1 * m + 0) (cv := none) (N := N__law_spoilt) (ps := ["state", "value", "deep"]) (fin := finM) (t := t__law_spoilt (F__law_spoilt m)) A sc__law_spoilt finM_ok (fun v hv => by cases hv) fun A1 outer s H E hr => ?_) (by omega)
    exact (dss_cons (ds_if (dt_not (dt_tru (de_isi z_isinstance (dv 1) z_tuple bt_tuple))) (dss_one (ds_ret (dcall (G := G) h__law_leaf bd__law_leaf (hr.mono (by omega)) (da_cons (dv 0) (da_cons (dv 1) da_nil))))) dss_nil)
    (dss_cons (ds_set (i := 3) sc__law_spoilt.nd rfl (by first | exact .inl rfl | exact .inr rfl) (dcall (G := G) h__law_take bd__law_take (hr.mono (by omega)) (da_cons (dv 0) (da_cons (de_plus newF (de_len z_len (dv 1)) de_int) da_nil))) rfl (by first | exact .inl rfl | exact .inr rfl))
    (dss_cons (ds_if (dt_w (dw_and (dt_cmp c_gt (de_len z_len (dv 1)) de_int) (dw_and (dt_cmp c_gt (dv 2) de_int) (dw_and1 (dt_cmp c_gt (dcall (G := G) h__law_take bd__law_take (hr.mono (by omega)) (da_cons (dv 0) (da_cons de_int da_nil))) de_int))))) (dss_cons (ds_set (i := 3) sc__law_spoilt.nd rfl (by first | exact .inl rfl | exact .inr rfl) (de_mod (de_int1 z_int (dv 3)) (de_len z_len (dv 1))) rfl (by first | exact .inl rfl | exact .inr rfl))
    (dss_one (ds_ret (de_plus newF (de_plus newF (de_sl newF (dv 1) do_no (do_some (dv 3))) (de_tup (da_cons (dcall (G := G) ih bd__law_spoilt (hr.mono (by omega)) (da_cons (dv 0) (da_cons (de_ix (dv 1) (dv 3)) (da_cons (de_sub (dv 2) de_int) da_nil)))) da_nil))) (de_sl newF (dv 1) (do_some (de_plus newF (dv 3) de_int)) do_no))))) dss_nil)
    (dss_cons (ds_set (i := 4) sc__law_spoilt.nd rfl (by first | exact .inl rfl | exact .inr rfl) (dcall (G := G) h__law_take bd__law_take (hr.mono (by omega)) (da_cons (dv 0) (da_cons de_int da_nil))) rfl (by first | exact .inl rfl | exact .inr rfl))
    (dss_cons (ds_if (dt_cmp (c_eq hr) (dv 4) de_int) (dss_one (ds_ret (de_plus newF (de_sl newF (dv 1) do_no (do_some (dv 3))) (de_sl newF (dv 1) (do_some (de_plus newF (dv 3) de_int)) do_no)))) dss_nil)
    (dss_cons (ds_if (dt_cmp (c_eq hr) (dv 4) de_int) (dss_one (ds_ret (de_plus newF (de_plus newF (de_sl newF (dv 1) do_no (do_some (dv 3))) (de_sl newF (dv 1) (do_some (dv 3)) (do_some (de_plus newF (dv 3) de_int)))) (de_sl newF (dv 1) (do_some (dv 3)) do_no)))) dss_nil)
    (dss_cons (ds_if (dt_cmp (c_eq hr) (dv 4) de_int) (dss_one (ds_ret (de_plus newF (de_sl newF (dv 1) (do_some (dv 3)) do_no) (de_sl newF (dv 1) do_no (do_some (dv 3)))))) dss_nil)
    (dss_cons (ds_if (dt_cmp (c_eq hr) (dv 4) de_int) (dss_one (ds_ret (de_tup da_nil))) dss_nil)
    (dss_cons (ds_if (dt_cmp (c_eq hr) (dv 4) de_int) (dss_one (ds_ret (de_plus newF (de_plus newF (de_sl newF (dv 1) do_no (do_some (dv 3))) (de_tup (da_cons (de_tup da_nil) da_nil))) (de_sl newF (dv 1) (do_some (dv 3)) do_no)))) dss_nil)
    (dss_cons (ds_if (dt_cmp (c_eq hr) (dv 4) de_int) (dss_one (ds_ret (de_plus newF (de_plus newF (de_sl newF (dv 1) do_no (do_some (dv 3))) (de_tup (da_cons de_int da_nil))) (de_sl newF (dv 1) (do_some (dv 3)) do_no)))) dss_nil)
    (dss_cons (ds_if (dt_cmp (c_eq hr) (dv 4) de_int) (dss_one (ds_ret (de_slS (dv 1) do_no do_no (do_some (de_neg de_int))))) dss_nil)
    (dss_one (ds_ret (de_if (dt_cmp (c_eq hr) (dv 4) de_int) (dcall (G := G) h__law_pick bd__law_pick (hr.mono (by omega)) (da_cons (dv 0) (da_cons (de_lst (da_cons de_non (da_cons de_int (da_cons de_str (da_cons (de_sl newF (dv 1) do_no (do_some de_int)) (da_cons de_bl da_nil)))))) da_nil))) (de_plus newF (de_plus newF (de_sl newF (dv 1) do_no (do_some (dv 3))) (de_tup (da_cons (dcall (G := G) h__law_pick bd__law_pick (hr.mono (by omega)) (da_cons (dv 0) (da_cons (de_lst (da_cons de_int (da_cons de_non (da_cons de_str da_nil)))) da_nil))) da_nil))) (de_sl newF (dv 1) (do_some (dv 3)) do_no))))))))))))))))
theorem ok__law_tables_are_told {f c f__law_is_due f__law_is_table f__law_spoilt f__law_take f_is_table : Addr}  (A : FAt G.K mg "_law_tables_are_told" s__law_tables_are_told f c) (z_len : mg "len" = none) (z_range : mg "range" = none) (z_tuple : mg "tuple" = none) (h__law_is_due : DFs P G.wo G mg 2 "_law_is_due" s__law_is_due f__law_is_due ["told", "due"] F__law_is_due) (h__law_is_table : DFs P G.wo G mg 6 "_law_is_table" s__law_is_table f__law_is_table ["value", "m", "k"] F__law_is_table) (h__law_spoilt : DFs P G.wo G mg 13 "_law_spoilt" s__law_spoilt f__law_spoilt ["state", "value", "deep"] (F__law_spoilt 8)) (h__law_take : DFs P G.wo G mg 3 "_law_take" s__law_take f__law_take ["state", "limit"] F__law_take) (h_is_table : DFs P G.wo G mg 16 "is_table" s_is_table f_is_table ["value", "m", "k"] F_is_table) : DFs P G.wo G mg 17 "_law_tables_are_told" s__law_tables_are_told f ["state", "table"] F__law_tables_are_told := by
  refine fn_at (k := 16) (cv := none) (N := N__law_tables_are_told) (ps := ["state", "table"]) (fin := finM) (t := t__law_tables_are_told) A sc__law_tables_are_told finM_ok (fun v hv => by cases hv) fun A1 outer s H E hr => ?_
  exact (dss_cons (ds_asg (de_tup (da_cons (de_len z_len (dv 1)) (da_cons (de_len z_len (de_ix (dv 1) de_int)) da_nil))) (dg_tup rfl (dgs_cons (dg_name (i := 2) sc__law_tables_are_told.nd rfl (by first | exact .inl rfl | exact .inr rfl) (by first | exact .inl rfl | exact .inr rfl)) (dgs_cons (dg_name (i := 3) sc__law_tables_are_told.nd rfl (by first | exact .inl rfl | exact .inr rfl) (by first | exact .inl rfl | exact .inr rfl)) dgs_nil))))
    (dss_cons (ds_par (i := 4) (j := 5) rfl sc__law_tables_are_told.nd rfl rfl (by decide) rfl rfl (da_cons (dcall (G := G) h__law_take bd__law_take (hr.mono (by omega)) (da_cons (dv 0) (da_cons (dv 2) da_nil))) (da_cons (dcall (G := G) h__law_take bd__law_take (hr.mono (by omega)) (da_cons (dv 0) (da_cons (dv 3) da_nil))) da_nil)) rfl)
    (dss_cons (ds_set (i := 6) sc__law_tables_are_told.nd rfl (by first | exact .inl rfl | exact .inr rfl) (de_lstO (da_cons (de_lst (da_cons (dv 1) (da_cons (dv 2) (da_cons (dv 3) da_nil)))) (da_cons (de_lst (da_cons (dv 1) (da_cons (dv 2) (da_cons (dv 3) da_nil)))) (da_cons (de_lst (da_cons (dv 1) (da_cons (de_plus newF (dv 2) de_int) (da_cons (dv 3) da_nil)))) (da_cons (de_lst (da_cons (dv 1) (da_cons (dv 2) (da_cons (de_plus newF (dv 3) de_int) da_nil)))) (da_cons (de_lst (da_cons (dv 1) (da_cons (dv 3) (da_cons (dv 2) da_nil)))) (da_cons (de_lst (da_cons (de_sl newF (dv 1) (do_some de_int) do_no) (da_cons (dv 2) (da_cons (dv 3) da_nil)))) (da_cons (de_lst (da_cons (de_plus newF (dv 1) (de_sl newF (dv 1) do_no (do_some de_int))) (da_cons (dv 2) (da_cons (dv 3) da_nil)))) (da_cons (de_lst (da_cons (de_slS (dv 1) do_no do_no (do_some (de_neg de_int))) (da_cons (dv 2) (da_cons (dv 3) da_nil)))) da_nil))))))))) rfl (by first | exact .inl rfl | exact .inr rfl))
    (dss_cons (ds_for PassesOwn.never rfl (fun _ => rfl) (di_seq (de_tup (da_cons (de_tup (da_cons de_int (da_cons de_int da_nil))) (da_cons (de_tup (da_cons de_int (da_cons de_int da_nil))) (da_cons (de_tup (da_cons de_int (da_cons de_int da_nil))) (da_cons (de_tup (da_cons (de_neg de_int) (da_cons de_int da_nil))) (da_cons (de_tup (da_cons de_int (da_cons de_int da_nil))) (da_cons (de_tup (da_cons de_bl (da_cons de_int da_nil))) (da_cons de_non (da_cons (de_tup (da_cons de_int (da_cons de_int da_nil))) (da_cons (de_tup (da_cons de_int (da_cons de_int da_nil))) (da_cons de_int (da_cons (de_tup (da_cons de_int da_nil)) da_nil))))))))))))) (dg_name (i := 7) sc__law_tables_are_told.nd rfl (by first | exact .inl rfl | exact .inr rfl) (by first | exact .inl rfl | exact .inr rfl)) (dss_cons (ds_set (i := 8) sc__law_tables_are_told.nd rfl (by first | exact .inl rfl | exact .inr rfl) (de_plus newF (de_plus newF (de_sl newF (de_ix (dv 1) (dv 4)) do_no (do_some (dv 5))) (de_tup (da_cons (dv 7) da_nil))) (de_sl newF (de_ix (dv 1) (dv 4)) (do_some (de_plus newF (dv 5) de_int)) do_no)) rfl (by first | exact .inl rfl | exact .inr rfl))
    (dss_one (ds_expr (de_append (dv 6) (da_cons (de_lst (da_cons (de_plus newF (de_plus newF (de_sl newF (dv 1) do_no (do_some (dv 4))) (de_tup (da_cons (dv 8) da_nil))) (de_sl newF (dv 1) (do_some (de_plus newF (dv 4) de_int)) do_no)) (da_cons (dv 2) (da_cons (dv 3) da_nil)))) da_nil))))))
    (dss_cons (ds_for PassesOwn.never rfl (fun _ => rfl) (di_seq (de_tup (da_cons (de_tup da_nil) (da_cons de_non (da_cons (de_plus newF (de_ix (dv 1) (dv 4)) (de_tup (da_cons (de_tup (da_cons de_int (da_cons de_int da_nil))) da_nil))) (da_cons (de_sl newF (de_ix (dv 1) (dv 4)) do_no (do_some (de_neg de_int))) (da_cons (de_times newF (de_tup (da_cons (de_tup (da_cons de_int (da_cons de_int da_nil))) da_nil)) (dv 3)) (da_cons de_str (da_cons de_int da_nil))))))))) (dg_name (i := 8) sc__law_tables_are_told.nd rfl (by first | exact .inl rfl | exact .inr rfl) (by first | exact .inl rfl | exact .inr rfl)) (dss_one (ds_expr (de_append (dv 6) (da_cons (de_lst (da_cons (de_plus newF (de_plus newF (de_sl newF (dv 1) do_no (do_some (dv 4))) (de_tup (da_cons (dv 8) da_nil))) (de_sl newF (dv 1) (do_some (de_plus newF (dv 4) de_int)) do_no)) (da_cons (dv 2) (da_cons (dv 3) da_nil)))) da_nil)))))
    (dss_cons (ds_set (i := 6) sc__law_tables_are_told.nd rfl (by first | exact .inl rfl | exact .inr rfl) (de_plus newO (de_plus newF (dv 6) (de_lc (own := [("value", 10)]) mkF rfl sc__law_tables_are_told.nd (di_seq (de_tup (da_cons de_non (da_cons de_int (da_cons (de_tup da_nil) (da_cons de_str (da_cons de_bl (da_cons (de_tup (da_cons (dv 1) da_nil)) da_nil)))))))) (blkOk_by (by kernel_rfl)) (fun s H C cl fp => (dgw_name (i := 10) sc__law_tables_are_told.nd rfl (by first | exact .inl rfl | exact .inr rfl) (by first | exact .inl rfl | exact .inr rfl) (by decide))) (fun s H C cl fp => dts_nil) (fun s H C cl fp => (de_lst (da_cons (dv 10) (da_cons (dv 2) (da_cons (dv 3) da_nil))))))) (de_lc (own := [("turn", 9)]) mkF rfl sc__law_tables_are_told.nd (di_range1 z_range de_int) (blkOk_by (by kernel_rfl)) (fun s H C cl fp => (dgw_name (i := 9) sc__law_tables_are_told.nd rfl (by first | exact .inl rfl | exact .inr rfl) (by first | exact .inl rfl | exact .inr rfl) (by decide))) (fun s H C cl fp => dts_nil) (fun s H C cl fp => (de_lst (da_cons (dcall (G := G) h__law_spoilt bd__law_spoilt (hr.mono (by omega)) (da_cons (dv 0) (da_cons (dv 1) (da_cons (de_plus newF de_int (dcall (G := G) h__law_take bd__law_take (hr.mono (by omega)) (da_cons (dv 0) (da_cons de_int da_nil)))) da_nil)))) (da_cons (dv 2) (da_cons (dv 3) da_nil))))))) rfl (by first | exact .inl rfl | exact .inr rfl))
    (dss_cons (ds_set (i := 11) sc__law_tables_are_told.nd rfl (by first | exact .inl rfl | exact .inr rfl) (de_tupOf z_tuple (de_lc (own := [("row", 8)]) mkF rfl sc__law_tables_are_told.nd (di_seq (dv 1)) (blkOk_by (by kernel_rfl)) (fun s H C cl fp => (dgw_name (i := 8) sc__law_tables_are_told.nd rfl (by first | exact .inl rfl | exact .inr rfl) (by first | exact .inl rfl | exact .inr rfl) (by decide))) (fun s H C cl fp => dts_nil) (fun s H C cl fp => (de_plus newF (dv 8) (de_tup (da_cons (de_tup (da_cons de_int (da_cons de_int da_nil))) da_nil)))))) rfl (by first | exact .inl rfl | exact .inr rfl))
    (dss_cons (ds_for PassesOwn.never rfl (fun _ => rfl) (di_seq (de_plus newF (dv 6) (de_lst (da_cons (de_lst (da_cons (dv 11) (da_cons (dv 2) (da_cons (dv 3) da_nil)))) (da_cons (de_lst (da_cons (dv 11) (da_cons (dv 2) (da_cons (de_plus newF (dv 3) de_int) da_nil)))) da_nil))))) (dg_tup rfl (dgs_cons (dg_name (i := 10) sc__law_tables_are_told.nd rfl (by first | exact .inl rfl | exact .inr rfl) (by first | exact .inl rfl | exact .inr rfl)) (dgs_cons (dg_name (i := 12) sc__law_tables_are_told.nd rfl (by first | exact .inl rfl | exact .inr rfl) (by first | exact .inl rfl | exact .inr rfl)) (dgs_cons (dg_name (i := 13) sc__law_tables_are_told.nd rfl (by first | exact .inl rfl | exact .inr rfl) (by first | exact .inl rfl | exact .inr rfl)) dgs_nil)))) (dss_cons (ds_set (i := 14) sc__law_tables_are_told.nd rfl (by first | exact .inl rfl | exact .inr rfl) (dcall (G := G) h__law_is_table bd__law_is_table (hr.mono (by omega)) (da_cons (dv 10) (da_cons (dv 12) (da_cons (dv 13) da_nil)))) rfl (by first | exact .inl rfl | exact .inr rfl))
    (dss_one (ds_if (dt_w (dw_or (dt_not (dt_tru (dcall (G := G) h__law_is_due bd__law_is_due (hr.mono (by omega)) (da_cons (dcall (G := G) h_is_table bd_is_table (hr.mono (by omega)) (da_cons (dv 10) (da_cons (dv 12) (da_cons (dv 13) da_nil)))) (da_cons (dv 14) da_nil))))) (dw_or1 (dt_not (dt_tru (dcall (G := G) h__law_is_due bd__law_is_due (hr.mono (by omega)) (da_cons (dcallK (G := G) (idx := [0, 1, 2]) h_is_table bk_is_table_012 (hr.mono (by omega)) (dk_cons (dv 10) (dk_cons (dv 12) (dk_cons (dv 13) dk_nil))) (hn := (al_cons (al_cons (al_cons al_nil))))) (da_cons (dv 14) da_nil)))))))) (dss_one (ds_ret de_bl)) dss_nil))))
    (dss_one (ds_ret de_bl))))))))))
theorem ok_law {f c f__law_garbled f__law_pick f__law_same f__law_start f__law_table f__law_tables_are_told f__law_take f__law_telling f_composed f_garbled : Addr}  (A : FAt G.K mg "law" s_law f c) (z_len : mg "len" = none) (z_range : mg "range" = none) (h__law_garbled : DFs P G.wo G mg 6 "_law_garbled" s__law_garbled f__law_garbled ["telling", "table"] F__law_garbled) (h__law_pick : DFs P G.wo G mg 4 "_law_pick" s__law_pick f__law_pick ["state", "some"] F__law_pick) (h__law_same : DFs P G.wo G mg 9 "_law_same" s__law_same f__law_same ["told", "due"] (F__law_same 8)) (h__law_start : DFs P G.wo G mg 3 "_law_start" s__law_start f__law_start ["script"] F__law_start) (h__law_table : DFs P G.wo G mg 6 "_law_table" s__law_table f__law_table ["state", "many", "signs"] F__law_table) (h__law_tables_are_told : DFs P G.wo G mg 17 "_law_tables_are_told" s__law_tables_are_told f__law_tables_are_told ["state", "table"] F__law_tables_are_told) (h__law_take : DFs P G.wo G mg 3 "_law_take" s__law_take f__law_take ["state", "limit"] F__law_take) (h__law_telling : DFs P G.wo G mg 6 "_law_telling" s__law_telling f__law_telling ["state", "worlds", "signs"] F__law_telling) (h_composed : DFs P G.wo G mg 14 "composed" s_composed f_composed ["table", "other"] F_composed) (h_garbled : DFs P G.wo G mg 13 "garbled" s_garbled f_garbled ["telling", "table"] F_garbled) : DFs P G.wo G mg 18 "law" s_law f ["script"] F_law := by
  refine fn_at (k := 17) (cv := none) (N := N_law) (ps := ["script"]) (fin := finP) (t := t_law) A sc_law finP_ok (fun v hv => by cases hv) fun A1 outer s H E hr => ?_
  exact (dss_cons (ds_set (i := 1) sc_law.nd rfl (by first | exact .inl rfl | exact .inr rfl) (dcall (G := G) h__law_start bd__law_start (hr.mono (by omega)) (da_cons (dv 0) da_nil)) rfl (by first | exact .inl rfl | exact .inr rfl))
    (dss_cons (ds_for PassesOwn.never rfl (fun _ => rfl) (di_range1 z_range de_int) (dg_name (i := 2) sc_law.nd rfl (by first | exact .inl rfl | exact .inr rfl) (by first | exact .inl rfl | exact .inr rfl)) (dss_cons (ds_asg (de_lc (own := [("k", 11)]) mkF rfl sc_law.nd (di_range1 z_range de_int) (blkOk_by (by kernel_rfl)) (fun s H C cl fp => (dgw_name (i := 11) sc_law.nd rfl (by first | exact .inl rfl | exact .inr rfl) (by first | exact .inl rfl | exact .inr rfl) (by decide))) (fun s H C cl fp => dts_nil) (fun s H C cl fp => (dcall (G := G) h__law_pick bd__law_pick (hr.mono (by omega)) (da_cons (dv 1) (da_cons (de_lst (da_cons (de_plus newF de_int (dcall (G := G) h__law_take bd__law_take (hr.mono (by omega)) (da_cons (dv 1) (da_cons de_int da_nil)))) (da_cons (de_plus newF de_int (dcall (G := G) h__law_take bd__law_take (hr.mono (by omega)) (da_cons (dv 1) (da_cons de_int da_nil)))) (da_cons de_int da_nil)))) da_nil))))) (dg_tup rfl (dgs_cons (dg_name (i := 6) sc_law.nd rfl (by first | exact .inl rfl | exact .inr rfl) (by first | exact .inl rfl | exact .inr rfl)) (dgs_cons (dg_name (i := 7) sc_law.nd rfl (by first | exact .inl rfl | exact .inr rfl) (by first | exact .inl rfl | exact .inr rfl)) (dgs_cons (dg_name (i := 8) sc_law.nd rfl (by first | exact .inl rfl | exact .inr rfl) (by first | exact .inl rfl | exact .inr rfl)) dgs_nil)))))
    (dss_cons (ds_set (i := 3) sc_law.nd rfl (by first | exact .inl rfl | exact .inr rfl) (dcall (G := G) h__law_telling bd__law_telling (hr.mono (by omega)) (da_cons (dv 1) (da_cons (de_plus newF de_int (dcall (G := G) h__law_take bd__law_take (hr.mono (by omega)) (da_cons (dv 1) (da_cons de_int da_nil)))) (da_cons (dv 6) da_nil)))) rfl (by first | exact .inl rfl | exact .inr rfl))
    (dss_cons (ds_par (i := 9) (j := 10) rfl sc_law.nd rfl rfl (by decide) rfl rfl (da_cons (dcall (G := G) h__law_table bd__law_table (hr.mono (by omega)) (da_cons (dv 1) (da_cons (de_len z_len (de_ix (dv 3) de_int)) (da_cons (dv 7) da_nil)))) (da_cons (dcall (G := G) h__law_table bd__law_table (hr.mono (by omega)) (da_cons (dv 1) (da_cons (dv 7) (da_cons (dv 8) da_nil)))) da_nil)) rfl)
    (dss_cons (ds_if (dt_cmp (c_eq hr) (dcall (G := G) h__law_take bd__law_take (hr.mono (by omega)) (da_cons (dv 1) (da_cons de_int da_nil))) de_int) (dss_one (ds_par (i := 9) (j := 10) rfl sc_law.nd rfl rfl (by decide) rfl rfl (da_cons (dcall (G := G) h__law_table bd__law_table (hr.mono (by omega)) (da_cons (dv 1) (da_cons (de_len z_len (de_ix (dv 3) de_int)) (da_cons de_int da_nil)))) (da_cons (dcall (G := G) h__law_table bd__law_table (hr.mono (by omega)) (da_cons (dv 1) (da_cons de_int (da_cons (dv 8) da_nil)))) da_nil)) rfl)) dss_nil)
    (dss_cons (ds_if (dt_not (dt_tru (dcall (G := G) h__law_tables_are_told bd__law_tables_are_told (hr.mono (by omega)) (da_cons (dv 1) (da_cons (dv 9) da_nil))))) (dss_one (ds_ret de_bl)) dss_nil)
    (dss_cons (ds_set (i := 4) sc_law.nd rfl (by first | exact .inl rfl | exact .inr rfl) (dcall (G := G) h__law_garbled bd__law_garbled (hr.mono (by omega)) (da_cons (dv 3) (da_cons (dv 9) da_nil))) rfl (by first | exact .inl rfl | exact .inr rfl))
    (dss_cons (ds_if (dt_w (dw_or (dt_not (dt_tru (dcall (G := G) h__law_same bd__law_same (hr.mono (by omega)) (da_cons (dcall (G := G) h_garbled bd_garbled (hr.mono (by omega)) (da_cons (dv 3) (da_cons (dv 9) da_nil))) (da_cons (dv 4) da_nil))))) (dw_or1 (dt_not (dt_tru (dcall (G := G) h__law_same bd__law_same (hr.mono (by omega)) (da_cons (dcallK (G := G) (idx := [0, 1]) h_garbled bk_garbled_01 (hr.mono (by omega)) (dk_cons (dv 3) (dk_cons (dv 9) dk_nil)) (hn := (al_cons (al_cons al_nil)))) (da_cons (dv 4) da_nil)))))))) (dss_one (ds_ret de_bl)) dss_nil)
    (dss_cons (ds_set (i := 5) sc_law.nd rfl (by first | exact .inl rfl | exact .inr rfl) (dcall (G := G) h__law_garbled bd__law_garbled (hr.mono (by omega)) (da_cons (dv 9) (da_cons (dv 10) da_nil))) rfl (by first | exact .inl rfl | exact .inr rfl))
    (dss_cons (ds_if (dt_w (dw_or (dt_not (dt_tru (dcall (G := G) h__law_same bd__law_same (hr.mono (by omega)) (da_cons (dcall (G := G) h_composed bd_composed (hr.mono (by omega)) (da_cons (dv 9) (da_cons (dv 10) da_nil))) (da_cons (dv 5) da_nil))))) (dw_or1 (dt_not (dt_tru (dcall (G := G) h__law_same bd__law_same (hr.mono (by omega)) (da_cons (dcallK (G := G) (idx := [0, 1]) h_composed bk_composed_01 (hr.mono (by omega)) (dk_cons (dv 9) (dk_cons (dv 10) dk_nil)) (hn := (al_cons (al_cons al_nil)))) (da_cons (dv 5) da_nil)))))))) (dss_one (ds_ret de_bl)) dss_nil)
    (dss_one (ds_if (dt_not (dt_tru (dcall (G := G) h__law_same bd__law_same (hr.mono (by omega)) (da_cons (dcall (G := G) h_garbled bd_garbled (hr.mono (by omega)) (da_cons (dv 3) (da_cons (dcall (G := G) h_composed bd_composed (hr.mono (by omega)) (da_cons (dv 9) (da_cons (dv 10) da_nil))) da_nil))) (da_cons (dcall (G := G) h__law_garbled bd__law_garbled (hr.mono (by omega)) (da_cons (dv 4) (da_cons (dv 10) da_nil))) da_nil))))) (dss_one (ds_ret de_bl)) dss_nil))))))))))))
    (dss_one (ds_ret de_bl))))
end
end LW

set_option maxRecDepth 100000
set_option maxHeartbeats 4000000
namespace LW
open PySem DL PL
open Classical
local macro_rules | `(tactic| walk_at "env") => `(tactic| (simp only [startD, List.map_cons, List.map_nil, List.length_cons, List.length_nil, Nat.reduceAdd, Nat.reduceSub, List.replicate, List.cons_append, List.nil_append, wipeD, List.set]; try rfl))
local macro_rules | `(tactic| walk_at "sto") => `(tactic| (simp only [List.cons_append, List.nil_append, List.set, List.set_cons_zero, List.set_cons_succ, Int.toNat_natCast, Int.reduceToNat]; try rfl))
local macro_rules | `(tactic| walk_at "if") => `(tactic| (refine ⟨fun hc => ?_, fun hc => ?_⟩ <;> simp only [decide_eq_true_eq, decide_eq_false_iff_not, Bool.not_eq_true', Bool.not_eq_false', bne_iff_ne, ne_eq, beq_iff_eq] at hc <;> try (exfalso; first | assumption | omega | (simp at hc; done))))
local macro_rules | `(tactic| walk_at "side") => `(tactic| first | assumption | omega | decide | (simp; done) | (simp; omega))
local macro_rules | `(tactic| walk_at "mul") => `(tactic| first | assumption | exact mul_sm (by first | decide | omega) | exact mul_sm' (by first | decide | omega))
local macro_rules | `(tactic| walk_at "div") => `(tactic| first | assumption | exact div_sm (by omega) (by omega))
local macro_rules | `(tactic| walk_at "w1") => `(tactic| first
  | (guard_target = wS _ (List.set _ _ _) _ _ _; refine wS_env (by walk_at "env") ?_)
  | (guard_target = wE _ (List.set _ _ _) _ _; refine wE_env (by walk_at "env") ?_)
  | (guard_target = wG _ _ (wipeD _ _) _ _; refine wG_env (by walk_at "env") ?_)
  | (guard_target = wS _ (startD _ _) _ _ _; refine wS_env (by walk_at "env") ?_)
  | (guard_target = wS (sSeq (sSet _ _) _) _ _ _ _; refine wS_seq ?_)
  | (guard_target = wS (sSeq (sAsg _ _) _) _ _ _ _; refine wS_seq ?_)
  | (guard_target = wS (sSeq (sExpr _) _) _ _ _ _; refine wS_seq ?_)
  | (guard_target = wS (sSeq (sPar _ _ _) _) _ _ _ _; refine wS_seq ?_)
  | (guard_target = wS (sSeq (sPar3 _ _ _ _) _) _ _ _ _; refine wS_seq ?_)
  | (guard_target = wS (sSeq (sAug _ _ _) _) _ _ _ _; refine wS_seq ?_)
  | (guard_target = wS (sSeq (sSeq _ _) _) _ _ _ _; refine wS_seq ?_)
  | (guard_target = wS _ _ (List.set _ _ _) _ _; refine wS_sto (by walk_at "sto") ?_)
  | (guard_target = wE _ _ (List.set _ _ _) _; refine wE_sto (by walk_at "sto") ?_)
  | (guard_target = wG (gIx _ _) _ _ _ _; refine wG_ix2 ?_)
  | (guard_target = ∃ (_ : Nat) (_ : Int) (_ : Nat) (_ : List D), _; refine ⟨_, _, _, _, rfl, rfl, rfl, rfl, ?_⟩)
  | (guard_target = wS (sSet _ _) _ _ _ _; refine wS_set ?_)
  | (guard_target = wS (sRet _) _ _ _ _; refine wS_ret ?_)
  | (guard_target = wS (sExpr _) _ _ _ _; refine wS_expr ?_)
  | (guard_target = wS sPass _ _ _ _; refine wS_pass ?_)
  | (guard_target = wS sBreak _ _ _ _; refine wS_break ?_)
  | (guard_target = wS sCont _ _ _ _; refine wS_cont ?_)
  | (guard_target = wS (sIf _ _ _) _ _ _ _; refine wS_if ?_)
  | (guard_target = wS (sAsg _ _) _ _ _ _; refine wS_asg ?_)
  | (guard_target = wS (sPar _ _ _) _ _ _ _; refine wS_par ?_)
  | (guard_target = wS (sPar3 _ _ _ _) _ _ _ _; refine wS_par3 ?_)
  | (guard_target = wS (sAug _ _ _) _ _ _ _; refine wS_aug rfl ?_)
  | (guard_target = wE (eV _) _ _ _; refine wE_v rfl ?_)
  | (guard_target = wE (eC _) _ _ _; refine wE_c ?_)
  | (guard_target = wE (e1 _ _) _ _ _; refine wE_1 ?_)
  | (guard_target = wE (e2 _ _ _) _ _ _; refine wE_2 ?_)
  | (guard_target = wE (e2s _ _ _) _ _ _; refine wE_2s ?_)
  | (guard_target = wE (eA _ _) _ _ _; refine wE_A ?_)
  | (guard_target = wA (aCons _ _) _ _ _; refine wA_cons ?_)
  | (guard_target = wA aNil _ _ _; refine wA_nil ?_)
  | (guard_target = wE (eM _ _ _) _ _ _; refine wE_M ?_)
  | (guard_target = wE (eAnd _ _) _ _ _; refine wE_and ?_)
  | (guard_target = wE (eOr _ _) _ _ _; refine wE_or ?_)
  | (guard_target = wE (eIf _ _ _) _ _ _; refine wE_if ?_)
  | (guard_target = wE (eChain _ _ _ _ _) _ _ _; refine wE_chain ?_)
  | (guard_target = wE (eLc _ _ _ tYesD _ _) _ _ _; refine wE_lcR ?_)
  | (guard_target = wE (eLc2 _ _ _ tYesD _ _ tYesD _ _ _) _ _ _; refine wE_lc2R ?_)
  | (guard_target = wE (eBl _) _ _ _; refine wE_bl ?_)
  | (guard_target = wE (eSl _ _ _ _) _ _ _; refine wE_sl ?_)
  | (guard_target = wE (eSlS _ _ _ _) _ _ _; refine wE_slS ?_)
  | (guard_target = wO oNo _ _ _; refine wO_no ?_)
  | (guard_target = wO (oSome _) _ _ _; refine wO_some ?_)
  | (guard_target = ∃ _ : Int, _; refine ⟨_, rfl, ?_⟩)
  | (guard_target = wSl _ (.tup _) _ _ _ _; refine wSl_tup ?_)
  | (guard_target = wSl _ (.lst _) _ _ _ _; refine wSl_lst ?_)
  | (guard_target = wSl _ (.scr _) _ _ _ _; refine wSl_scr ?_)
  | (guard_target = wT (tBl _) _ _ _; refine wT_bl ?_)
  | (guard_target = wT (tTru _) _ _ _; refine wT_tru ?_)
  | (guard_target = wT (tNotD _) _ _ _; refine wT_not ?_)
  | (guard_target = wT (tAndD _ _) _ _ _; refine wT_and ?_)
  | (guard_target = wT (tOrD _ _) _ _ _; refine wT_or ?_)
  | (guard_target = wT (tIfD _ _ _) _ _ _; refine wT_if ?_)
  | (guard_target = wT tYesD _ _ _; refine wT_yes ?_)
  | (guard_target = wT (tGenQ _ _ _ tYesD _ _) _ _ _; refine wT_genR ?_)
  | (guard_target = wT (tGenQ2 _ _ _ tYesD _ _ tYesD _ _ _) _ _ _; refine wT_gen2R ?_)
  | (guard_target = wI (iSeq _) _ _ _; refine wI_seqR ?_)
  | (guard_target = wI (iRange1 _) _ _ _; refine wI_rangeR ?_)
  | (guard_target = wI (iRange2 _ _) _ _ _; refine wI_range2R ?_)
  | (guard_target = wI (iZip (aCons _ (aCons _ aNil))) _ _ _; refine wI_zipR ?_)
  | (guard_target = wI (iEnum (aCons _ aNil)) _ _ _; refine wI_enumR ?_)
  | (guard_target = wG (gNm _) _ _ _ _; refine wG_nm ?_)
  | (guard_target = wG (gTp _ _) (.lst _) _ _ _; refine wG_tpL rfl ?_)
  | (guard_target = wG (gTp _ _) _ _ _ _; refine wG_tp rfl ?_)
  | (guard_target = wGs (gsCons _ _) _ _ _ _; refine wGs_cons ?_)
  | (guard_target = wGs gsNil _ _ _ _; refine wGs_nil ?_)
  | (guard_target = w2 fAdd _ _ _ _; refine w2_add ?_)
  | (guard_target = w2 fSub _ _ _ _; refine w2_sub ?_)
  | (guard_target = w2 fMul _ _ _ _; refine w2_mul (by walk_at "mul") ?_)
  | (guard_target = w2 fDiv _ _ _ _; refine w2_div (by walk_at "div") ?_)
  | (guard_target = w2 fMod _ _ _ _; refine w2_mod (by walk_at "side") ?_)
  | (guard_target = w2 (fCmp _) _ _ _ _; refine w2_cmp ?_)
  | (guard_target = w2 fEq (.int _) (.int _) _ _; refine w2_eqI ?_)
  | (guard_target = w2 fNe (.int _) (.int _) _ _; refine w2_neI ?_)
  | (guard_target = w2 fIx _ (.int _) _ _; refine w2_eq rfl ?_)
  | (guard_target = w2 fIx _ (.int 0) _ _; refine w2_ix0 rfl (by walk_at "side") ?_)
  | (guard_target = w2 fIx _ (.int (Nat.cast _)) _ _; refine w2_ixR rfl (by walk_at "side") ?_)
  | (guard_target = w2s (fPlus _) (.int _) (.int _) _ _; refine w2s_plusI ?_)
  | (guard_target = w2s (fTimes _) (.int _) (.int _) _ _; refine w2s_timesI (by walk_at "mul") ?_)
  | (guard_target = w2 fPow (.int _) (.int _) _ _; refine w2_pow (by decide) (by decide) (by decide) ?_)
  | (guard_target = w2 fIsB _ _ _ _; refine w2_eq rfl ?_)
  | (guard_target = w2 fNotB _ _ _ _; refine w2_eq rfl ?_)
  | (guard_target = w2 fIsN _ _ _ _; refine w2_eq rfl ?_)
  | (guard_target = w2 fNotN _ _ _ _; refine w2_eq rfl ?_)
  | (guard_target = w1 _ _ _ _; refine w1_eq rfl ?_)
  | (guard_target = wTru _ _ _; refine wTru_eq rfl ?_)
  | (guard_target = wF fTup _ _ _; refine wF_tup (by walk_at "side") ?_)
  | (guard_target = wF fLst _ _ _; refine wF_lst (by walk_at "side") ?_)
  | (guard_target = wF fObj _ _ _; refine wF_obj (by walk_at "side") ?_)
  | (guard_target = wF fLen [dQ _] _ _; refine wF_len2 ?_)
  | (guard_target = wF fLen _ _ _; refine wF_lenR rfl ?_)
  | (guard_target = wF fAbs _ _ _; refine wF_abs ?_)
  | (guard_target = wF fInt1 [.int _] _ _; refine wF_int ?_)
  | (guard_target = wF fInt1 [.bl _] _ _; refine wF_intB ?_)
  | (guard_target = wF fListF _ _ _; refine wF_listF rfl ?_)
  | (guard_target = wF fListO _ _ _; refine wF_listO rfl ?_)
  | (guard_target = wF fTupOf _ _ _; refine wF_tupOf rfl ?_)
  | (guard_target = wF fSum _ _ _; refine wF_sumR rfl ?_)
  | (guard_target = wF fMax2 _ _ _; refine wF_max2 ?_)
  | (guard_target = wF fMin2 _ _ _; refine wF_min2 ?_)
  | (guard_target = (false = true → _) ∧ _; refine ⟨fun h => (nomatch h), fun _ => ?_⟩)
  | (guard_target = (true = true → _) ∧ _; refine ⟨fun _ => ?_, fun h => (nomatch h)⟩)
  | (guard_target = ((!false) = true → _) ∧ _; refine ⟨fun _ => ?_, fun h => (nomatch h)⟩)
  | (guard_target = ((!true) = true → _) ∧ _; refine ⟨fun h => (nomatch h), fun _ => ?_⟩)
  | (guard_target = (isNon _ = true → _) ∧ _; first | refine ⟨fun h => absurd h Bool.false_ne_true, fun _ => ?_⟩ | refine ⟨fun _ => ?_, fun h => absurd h.symm Bool.false_ne_true⟩)
  | (guard_target = ((!isNon _) = true → _) ∧ _; first | refine ⟨fun h => absurd h Bool.false_ne_true, fun _ => ?_⟩ | refine ⟨fun _ => ?_, fun h => absurd h.symm Bool.false_ne_true⟩)
  | (guard_target = (_ = true → _) ∧ (_ = false → _); first | refine ⟨fun h => absurd h (by decide), fun _ => ?_⟩ | refine ⟨fun _ => ?_, fun h => absurd h (by decide)⟩)
  | (guard_target = (_ = _) ∧ _; refine ⟨rfl, ?_⟩)
  | (guard_target = _ ∧ (_ = _); refine ⟨?_, rfl⟩)
  | (guard_target = True ∧ _; refine ⟨trivial, ?_⟩)
  | (guard_target = ∃ _ : Bool, _; refine ⟨_, rfl, ?_⟩)
  | (guard_target = ∃ (_ _ : D), _; refine ⟨_, _, rfl, ?_⟩)
  | (guard_target = ∃ (_ _ _ : D), _; refine ⟨_, _, _, rfl, ?_⟩)
  | rfl)
local macro_rules | `(tactic| walk_at "w") => `(tactic| repeat' (walk_at "w1"))
local macro_rules | `(tactic| walk_at "v") => `(tactic| repeat' ((fail_if_success (guard_target = wE (eLc _ _ _ _ _ _) _ _ _)); walk_at "w1"))
local macro_rules | `(tactic| walk_at "g") => `(tactic| (repeat' (first
  | (guard_target = wG (gNm _) _ _ _ _; refine wG_nm ?_)
  | (guard_target = wG (gTp _ _) _ _ _ _; refine wG_tp rfl ?_)
  | (guard_target = wGs (gsCons _ _) _ _ _ _; refine wGs_cons ?_)
  | (guard_target = wGs gsNil _ _ _ _; refine wGs_nil ?_)
  | (guard_target = wS _ (List.set _ _ _) _ _ _; refine wS_env (by walk_at "env") ?_)
  | (guard_target = wE _ (List.set _ _ _) _ _; refine wE_env (by walk_at "env") ?_))))
local macro_rules | `(tactic| walk_at "u") => `(tactic| repeat' ((fail_if_success (guard_target = wE (eLc _ _ _ _ _ _) _ _ _)); (fail_if_success (guard_target = wE (eLc2 _ _ _ _ _ _ _ _ _ _) _ _ _)); (fail_if_success (guard_target = wT (tGenQ _ _ _ _ _ _) _ _ _)); (fail_if_success (guard_target = wT (tGenQ2 _ _ _ _ _ _ _ _ _ _) _ _ _)); walk_at "w1"))
theorem wS_augIx {f : D → D → Sto → Option D} {o i e : RE} {ρ : En} {S : Sto} {N : En → Sto → Prop} {K : Kt} (h : wE o ρ S fun ov S1 => ∃ k, ov = .obj k ∧ wE i ρ S1 fun iv S2 => ∃ (m : Int) (ys : List D) (j : Nat) (x : D), iv = .int m ∧ S2[k]? = some (.lst ys) ∧ L2.ixN ys.length m = some j ∧ ys[j]? = some x ∧ wE e ρ S2 fun y S3 => w2 f x y S3 fun r => ∃ ys2, S3[k]? = some (.lst ys2) ∧ ys2.length = ys.length ∧ N ρ (S3.set k (.lst (ys2.set j r)))) : wS (sAugIx f o i e) ρ S N K := by
  obtain ⟨ov, S1, e1, k, rfl, iv, S2, e2, m, ys, j, x, rfl, h1, h2, h3, y, S3, e3, r, e4, ys2, h4, h5, q⟩ := h
  refine wS_eq ?_ q
  simp only [sAugIx, e1, e2, h1, h2, h3, e3, e4, h4, if_pos h5]
theorem rep_rg {x : D} {m : Nat} : (List.replicate m [x]).flatten = rg m fun _ => x := by
  induction m with
  | zero => rfl
  | succ m ih => rw [List.replicate_succ, List.flatten_cons, ih, rg_cons]; rfl
theorem w2s_repL {mk : List D → Sto → Option (D × Sto)} {x : D} {m : Nat} {S : Sto} {Q : D → Sto → Prop} (h2 : m ≤ 1000000) (q : wF mk (rg m fun _ => x) S Q) : w2s (fTimes mk) (.lst [x]) (.int (m : Int)) S Q := by
  obtain ⟨z, S1, e, q⟩ := q
  refine ⟨z, S1, ?_, q⟩
  simp only [fTimes, fRepL, lstD]
  rw [if_pos ⟨by omega, by omega, by simp; omega⟩, Int.toNat_natCast, rep_rg]
  exact e
theorem mid_push {S J : Sto} {c d : Cell} : (S ++ c :: J) ++ [d] = S ++ c :: (J ++ [d]) := by simp
theorem get_mid {S J : Sto} {c : Cell} : (S ++ c :: J)[S.length]? = some c := by simp
theorem set_mid {S J : Sto} {c c' : Cell} : (S ++ c :: J).set S.length c' = S ++ c' :: J := by simp
/-- a list of fractions, the parts' sums -/
theorem rs_list {qs : List Rat} {k : Nat} (h : k ≤ qs.length) : rs (fun i => qs.getD i 0) k = (qs.take k).sum := by
  have := rs_getD_q (qs.take k)
  rw [← this, List.length_take, Nat.min_eq_left h]
  refine rs_congr fun i hi => ?_
  simp [List.getElem?_take, hi]
theorem filt_sum {f : Nat → Rat} {p : Nat → Bool} : ∀ n, (((List.range n).filter p).map f).sum = rs (fun s => if p s then f s else 0) n
  | 0 => rfl
  | n + 1 => by
    rw [List.range_succ, List.filter_append, List.map_append, List.sum_append, filt_sum n]
    show _ = rs _ n + _
    congr 1
    by_cases h : p n
    · simp [h, Rat.add_zero]
    · simp [h]

theorem cp_loop : ∀ (n x y : Nat) (S : Sto), y < n → whileL (tTru (eV 1)) (sPar 0 1 (aCons (eV 1) (aCons (e2 fMod (eV 0) (eV 1)) aNil))) n [some (.int x), some (.int y)] S = some (.nx [some (.int (Nat.gcd x y : Nat)), some (.int 0)] S)
  | 0, _, _, _, h => absurd h (Nat.not_lt_zero _)
  | n + 1, x, y, S, h => by
    unfold whileL
    by_cases hy : y = 0
    · subst hy
      simp
    · have hy2 : (y : Int) ≠ 0 := by omega
      have hl : x % y < y := Nat.mod_lt _ (Nat.pos_of_ne_zero hy)
      have ih := cp_loop n y (x % y) S (by omega)
      have hg : Nat.gcd x y = Nat.gcd y (x % y) := by rw [Nat.gcd_comm x y, Nat.gcd_rec, Nat.gcd_comm]
      have hb : ((y : Int) != 0) = true := by simp [hy]
      simp only [Int.natCast_emod] at ih
      simp [hb, hy, fmod_nat, ih, hg]
theorem F_cp (a b : Int) (S : Sto) : F_common_part [.int a, .int b] S = some (.int (Int.gcd a b : Nat), S) := by
  unfold F_common_part t_common_part
  have h := cp_loop (a.natAbs + (b.natAbs + 0) + 2) a.natAbs b.natAbs S (by omega)
  simp [abs_nat, fuelI] at h ⊢
  rw [h]
  simp [Int.gcd]
theorem F_low {a b : Int} {n : Nat} (hb : 0 < b) (hn : Bt n b) (h9 : n ≤ 8999) (S : Sto) : F_lowest [.int a, .int b] S = some (dQ ((a : Rat) / (b : Rat)), S) := by
  have hg : (0 : Int) < (Int.gcd a b : Int) := by
    have := gcd_ne (a := a) (b := b) (by omega)
    omega
  have hd : ∀ x : Int, L2.CDivW x (Int.gcd a b : Int) ∨ L2.CDivN x (Int.gcd a b : Int) := fun x => div_ok hg (gcd_bt hb hn) h9
  apply wF_of
  unfold F_lowest t_lowest
  refine wF_fn rfl ?_
  walk_at "w"
  refine wF_eq (F_cp a b S) ?_
  walk_at "w"
  refine wS_seq ?_
  walk_at "w"
  refine ⟨fun h => ?_, fun _ => ?_⟩
  · simp at h
    omega
  · walk_at "w"
    · refine w2_div (hd _) ?_
      walk_at "w"
      refine w2_div (hd _) ?_
      walk_at "w"
      refine wFin_P0 rfl rfl ⟨?_, rfl⟩
      unfold dQ
      rw [low_num a b hb, low_den a b hb]

theorem set_last {S : Sto} {c c' : Cell} : (S ++ [c]).set S.length c' = S ++ [c'] := by simp
theorem get_last {S : Sto} {c : Cell} : (S ++ [c])[S.length]? = some c := by simp
/-- a sequence of fractions, also a list that may change -/
def SeqQ (S : Sto) (d : D) (m : Nat) (q : Nat → Rat) : Prop := ∃ chk : Sto → Prop, seqC d S = some (rg m fun i => dQ (q i), chk) ∧ chk S
theorem SeqQ.of {S : Sto} {d : D} {m : Nat} {q : Nat → Rat} (h : d = dT m q ∨ d = dL m q) : SeqQ S d m q := ⟨fun _ => True, by rcases h with e | e <;> subst e <;> rfl, trivial⟩
theorem SeqQ.obj {S : Sto} {k : Nat} {qs : List Rat} (h : S[k]? = some (.lst (qs.map dQ))) : SeqQ S (.obj k) qs.length (fun i => qs.getD i 0) := by
  refine ⟨fun S' => S'[k]? = some (.lst (qs.map dQ)), ?_, h⟩
  rw [← dqs_rg]
  simp only [seqC, h]
theorem F_botS {d : D} {m B : Nat} {q : Nat → Rat} {S : Sto} (hd : SeqQ S d m q) (hB : 0 < B) (hq : ∀ i, i < m → (q i).den ∣ B) (hn : B < 2 ^ 8999) : F_bottom_of [d] S = some (.int (lc q m : Nat), S) := by
  apply wF_of
  unfold F_bottom_of t_bottom_of
  refine wF_fn rfl ?_
  walk_at "w"
  refine wS_seq ?_
  refine wS_forR (fun k ρ S' => S' = S ∧ ∃ t, ρ = [some d, some (.int (lc q k : Nat)), t]) ?_
  walk_at "w"
  obtain ⟨chk, hs, hc⟩ := hd
  refine ⟨m, fun i => dQ (q i), chk, hs, ?_⟩
  refine ⟨m, _, rfl, ⟨rfl, none, rfl⟩, fun i ρ S' hi ⟨e1, t, e2⟩ => ?_, fun ρ S' ⟨e1, t, e2⟩ => ?_⟩
  · subst e1 e2
    have hdv := hq i hi
    have hl := Nat.le_of_dvd hB hdv
    have hlc : lc q i ∣ B := lc_dvd fun j hj => hq j (by omega)
    have hlb := Nat.le_of_dvd hB hlc
    have hp := lc_pos (f := q) i
    have hdp := den_pos (q i)
    walk_at "w"
    refine wF_eq (F_cp _ _ _) ?_
    have hb := gcd_bt (n := 8999) (a := (lc q i : Int)) (b := ((q i).den : Int)) (by omega) (Bt.of_nat (by omega))
    have hg : (0 : Int) < (Int.gcd (lc q i : Int) ((q i).den : Int) : Int) := by
      have := gcd_ne (a := (lc q i : Int)) (b := ((q i).den : Int)) (by omega)
      omega
    refine w2_div (div_ok hg hb (by omega)) ?_
    walk_at "w"
    have hst := lcm_step (lc q i) (q i).den hp
    have hfd : Bt 8999 (Int.fdiv (lc q i : Int) (Int.gcd (lc q i : Int) ((q i).den : Int) : Int)) := by
      rw [Int.fdiv_eq_ediv_of_nonneg _ (by omega)]
      refine Bt.le (j := (lc q i : Int)) (Bt.of_nat (by omega)) (Int.ediv_nonneg (by omega) (by omega)) (Int.ediv_le_self _ (by omega))
    refine w2s_timesI (mul_ok hfd (Bt.of_nat (n := 8999) (k := (q i).den) (by omega)) (by omega)) ?_
    walk_at "w"
    exact ⟨hc, rfl, _, by rw [hst]; rfl⟩
  · subst e1 e2
    walk_at "w"
    exact wFin_P0 rfl rfl ⟨rfl, rfl⟩
theorem F_bot {d : D} {m B : Nat} {q : Nat → Rat} (hd : d = dT m q ∨ d = dL m q) (hB : 0 < B) (hq : ∀ i, i < m → (q i).den ∣ B) (hn : B < 2 ^ 8999) (S : Sto) : F_bottom_of [d] S = some (.int (lc q m : Nat), S) := F_botS (.of hd) hB hq hn
theorem F_whS {d : D} {m n : Nat} {q : Nat → Rat} {b : Nat} {S : Sto} (hd : SeqQ S d m q) (hb : 0 < b) (hn : b < 2 ^ n) (hq : ∀ i, i < m → Sm n (q i)) (h9 : n ≤ 8999) (hm : m ≤ 1000000) :
    F_wholes [d, .int (b : Int)] S = some (iT m fun i => wh (b : Int) (q i), S) := by
  apply wF_of
  unfold F_wholes t_wholes
  refine wF_fn rfl ?_
  walk_at "w"
  obtain ⟨chk, hs, hc⟩ := hd
  refine ⟨m, fun i => dQ (q i), chk, hs, ?_⟩
  refine ⟨m, _, fun i => .int (wh (b : Int) (q i)), rfl, hc, fun i hi => ?_, ?_⟩
  · have hs := hq i hi
    have hdp := den_pos (q i)
    walk_at "w"
    refine w2_div (div_ok (by omega) hs.den h9) ?_
    walk_at "w"
    have hfd : Bt n (Int.fdiv (b : Int) ((q i).den : Int)) := by
      rw [Int.fdiv_eq_ediv_of_nonneg _ (by omega)]
      exact Bt.le (j := (b : Int)) (Bt.of_nat hn) (Int.ediv_nonneg (by omega) (by omega)) (Int.ediv_le_self _ (by omega))
    refine w2s_timesI (mul_ok hs.num hfd (by omega)) ?_
    refine ⟨?_, rfl⟩
    unfold wh
    rw [Int.fdiv_eq_ediv_of_nonneg _ (by omega)]
  · walk_at "w"
    exact wFin_P0 clos_iT rfl ⟨rfl, rfl⟩
theorem F_wh {d : D} {m n : Nat} {q : Nat → Rat} {b : Nat} (hd : d = dT m q ∨ d = dL m q) (hb : 0 < b) (hn : b < 2 ^ n) (hq : ∀ i, i < m → Sm n (q i)) (h9 : n ≤ 8999) (hm : m ≤ 1000000) (S : Sto) :
    F_wholes [d, .int (b : Int)] S = some (iT m fun i => wh (b : Int) (q i), S) := F_whS (.of hd) hb hn hq h9 hm
/-- rows over their least common bottom -/
theorem F_ro {m n B M : Nat} {t : Nat → Nat → Rat} (hB : 0 < B) (ht : ∀ i j, i < m → j < n → In B M (t i j)) (hn : (M + 1) * B < 2 ^ 8999) (hm : m ≤ 1000) (hk : n ≤ 1000) (S : Sto) :
    F_rows_over [dM m n t] S = some (.tup [.int (lcM m n t : Nat), tF m fun i => iT n fun j => wh (lcM m n t : Nat) (t i j)], S) := by
  have hmn : m * n ≤ 1000000 := Nat.mul_le_mul hm hk
  have hidx : ∀ k, k < m * n → k / n < m ∧ k % n < n := fun k hk => by
    have hn : 0 < n := by
      rcases Nat.eq_zero_or_pos n with z | z
      · subst z; simp at hk
      · exact z
    exact ⟨Nat.div_lt_of_lt_mul (by rw [Nat.mul_comm]; exact hk), Nat.mod_lt _ hn⟩
  have hd : ∀ k, k < m * n → ((fun k => t (k / n) (k % n)) k).den ∣ B := fun k hk => (ht _ _ (hidx k hk).1 (hidx k hk).2).den
  have hBl : B < 2 ^ 8999 := by
    rw [Nat.add_mul, Nat.one_mul] at hn
    omega
  have hlb : lcM m n t ≤ B := Nat.le_of_dvd hB (lc_dvd hd)
  apply wF_of
  unfold F_rows_over t_rows_over
  refine wF_fn rfl ?_
  walk_at "w"
  refine ⟨m, fun i => dT n (t i), fun _ => True, rfl, ?_⟩
  refine ⟨m, _, fun _ => n, fun i j => dQ (t i j), rfl, trivial, fun i hi => ?_, ?_⟩
  · walk_at "w"
    refine ⟨n, fun j => dQ (t i j), fun _ => True, rfl, ?_⟩
    refine ⟨rfl, _, rfl, trivial, fun j hj => ?_⟩
    walk_at "w"
  · rw [rg_flat]
    walk_at "w"
    refine wF_eq (F_bot (m := m * n) (q := fun k => t (k / n) (k % n)) (.inr rfl) hB hd hBl S) ?_
    walk_at "w"
    refine ⟨m, fun i => dT n (t i), fun _ => True, rfl, ?_⟩
    refine ⟨m, _, fun i => iT n fun j => wh (lcM m n t : Nat) (t i j), rfl, trivial, fun i hi => ?_, ?_⟩
    · walk_at "w"
      refine wF_eq (F_wh (n := 8999) (.inl rfl) lcM_pos (by omega) (fun j hj => (ht i j hi hj).sm hB hn) (by omega) (by omega) S) ?_
      walk_at "w"
    · walk_at "w"
      refine wFin_P0 ?_ rfl ⟨rfl, rfl⟩
      exact clos_tup (closL_cons rfl (closL_cons (clos_tF fun i _ => clos_iT) closL_nil))

theorem F_totS {d : D} {m B M : Nat} {q : Nat → Rat} {S : Sto} (hd : SeqQ S d m q) (hB : 0 < B) (hq : ∀ i, i < m → In B M (q i)) (hn : (M + 1) * B < 2 ^ 8999) (hm : m ≤ 1000000) : F_total [d] S = some (dQ (rs q m), S) := by
  have hBl : B < 2 ^ 8999 := by
    rw [Nat.add_mul, Nat.one_mul] at hn
    omega
  have hlb := Nat.le_of_dvd hB (lc_dvd fun i hi => (hq i hi).den)
  have hp := lc_pos (f := q) m
  apply wF_of
  unfold F_total t_total
  refine wF_fn rfl ?_
  walk_at "w"
  refine wF_eq (F_botS hd hB (fun i hi => (hq i hi).den) hBl) ?_
  walk_at "w"
  refine wF_eq (F_whS (n := 8999) hd hp (by omega) (fun i hi => (hq i hi).sm hB hn) (by omega) hm) ?_
  walk_at "w"
  refine wF_eq (F_low (n := 8999) (by omega) (Bt.of_nat (by omega)) (by omega) S) ?_
  refine wFin_P0 rfl rfl ⟨?_, rfl⟩
  congr 1
  rw [rg_sum, is_cast]
  have e : rs (fun i => ((wh (lc q m : Nat) (q i) : Int) : Rat)) m = rs (fun i => q i * (lc q m : Rat)) m := rs_congr fun i hi => wh_cast (dvd_lc hi)
  rw [e, rs_mul']
  have hz : ((lc q m : Nat) : Rat) ≠ 0 := by
    have : lc q m ≠ 0 := by omega
    exact_mod_cast this
  have e2 : (((lc q m : Nat) : Int) : Rat) = ((lc q m : Nat) : Rat) := rfl
  rw [e2]
  grind
theorem F_tot {d : D} {m B M : Nat} {q : Nat → Rat} (hd : d = dT m q ∨ d = dL m q) (hB : 0 < B) (hq : ∀ i, i < m → In B M (q i)) (hn : (M + 1) * B < 2 ^ 8999) (hm : m ≤ 1000000) (S : Sto) : F_total [d] S = some (dQ (rs q m), S) := F_totS (.of hd) hB hq hn hm
end LW

set_option maxRecDepth 100000
set_option maxHeartbeats 4000000
namespace LW
open PySem DL PL
open Classical
local macro_rules | `(tactic| walk_at "env") => `(tactic| (simp only [startD, List.map_cons, List.map_nil, List.length_cons, List.length_nil, Nat.reduceAdd, Nat.reduceSub, List.replicate, List.cons_append, List.nil_append, wipeD, List.set]; try rfl))
local macro_rules | `(tactic| walk_at "sto") => `(tactic| (simp only [List.cons_append, List.nil_append, List.set, List.set_cons_zero, List.set_cons_succ, Int.toNat_natCast, Int.reduceToNat]; try rfl))
local macro_rules | `(tactic| walk_at "if") => `(tactic| (refine ⟨fun hc => ?_, fun hc => ?_⟩ <;> simp only [decide_eq_true_eq, decide_eq_false_iff_not, Bool.not_eq_true', Bool.not_eq_false', bne_iff_ne, ne_eq, beq_iff_eq] at hc <;> try (exfalso; first | assumption | omega | (simp at hc; done))))
local macro_rules | `(tactic| walk_at "side") => `(tactic| first | assumption | omega | decide | (simp; done) | (simp; omega))
local macro_rules | `(tactic| walk_at "mul") => `(tactic| first | assumption | exact mul_sm (by first | decide | omega) | exact mul_sm' (by first | decide | omega))
local macro_rules | `(tactic| walk_at "div") => `(tactic| first | assumption | exact div_sm (by omega) (by omega))
local macro_rules | `(tactic| walk_at "w1") => `(tactic| first
  | (guard_target = wS _ (List.set _ _ _) _ _ _; refine wS_env (by walk_at "env") ?_)
  | (guard_target = wE _ (List.set _ _ _) _ _; refine wE_env (by walk_at "env") ?_)
  | (guard_target = wG _ _ (wipeD _ _) _ _; refine wG_env (by walk_at "env") ?_)
  | (guard_target = wS _ (startD _ _) _ _ _; refine wS_env (by walk_at "env") ?_)
  | (guard_target = wS (sSeq (sSet _ _) _) _ _ _ _; refine wS_seq ?_)
  | (guard_target = wS (sSeq (sAsg _ _) _) _ _ _ _; refine wS_seq ?_)
  | (guard_target = wS (sSeq (sExpr _) _) _ _ _ _; refine wS_seq ?_)
  | (guard_target = wS (sSeq (sPar _ _ _) _) _ _ _ _; refine wS_seq ?_)
  | (guard_target = wS (sSeq (sPar3 _ _ _ _) _) _ _ _ _; refine wS_seq ?_)
  | (guard_target = wS (sSeq (sAug _ _ _) _) _ _ _ _; refine wS_seq ?_)
  | (guard_target = wS (sSeq (sSeq _ _) _) _ _ _ _; refine wS_seq ?_)
  | (guard_target = wS _ _ (List.set _ _ _) _ _; refine wS_sto (by walk_at "sto") ?_)
  | (guard_target = wE _ _ (List.set _ _ _) _; refine wE_sto (by walk_at "sto") ?_)
  | (guard_target = wG (gIx _ _) _ _ _ _; refine wG_ix2 ?_)
  | (guard_target = ∃ (_ : Nat) (_ : Int) (_ : Nat) (_ : List D), _; refine ⟨_, _, _, _, rfl, rfl, rfl, rfl, ?_⟩)
  | (guard_target = wS (sSet _ _) _ _ _ _; refine wS_set ?_)
  | (guard_target = wS (sRet _) _ _ _ _; refine wS_ret ?_)
  | (guard_target = wS (sExpr _) _ _ _ _; refine wS_expr ?_)
  | (guard_target = wS sPass _ _ _ _; refine wS_pass ?_)
  | (guard_target = wS sBreak _ _ _ _; refine wS_break ?_)
  | (guard_target = wS sCont _ _ _ _; refine wS_cont ?_)
  | (guard_target = wS (sIf _ _ _) _ _ _ _; refine wS_if ?_)
  | (guard_target = wS (sAsg _ _) _ _ _ _; refine wS_asg ?_)
  | (guard_target = wS (sPar _ _ _) _ _ _ _; refine wS_par ?_)
  | (guard_target = wS (sPar3 _ _ _ _) _ _ _ _; refine wS_par3 ?_)
  | (guard_target = wS (sAug _ _ _) _ _ _ _; refine wS_aug rfl ?_)
  | (guard_target = wE (eV _) _ _ _; refine wE_v rfl ?_)
  | (guard_target = wE (eC _) _ _ _; refine wE_c ?_)
  | (guard_target = wE (e1 _ _) _ _ _; refine wE_1 ?_)
  | (guard_target = wE (e2 _ _ _) _ _ _; refine wE_2 ?_)
  | (guard_target = wE (e2s _ _ _) _ _ _; refine wE_2s ?_)
  | (guard_target = wE (eA _ _) _ _ _; refine wE_A ?_)
  | (guard_target = wA (aCons _ _) _ _ _; refine wA_cons ?_)
  | (guard_target = wA aNil _ _ _; refine wA_nil ?_)
  | (guard_target = wE (eM _ _ _) _ _ _; refine wE_M ?_)
  | (guard_target = wE (eAnd _ _) _ _ _; refine wE_and ?_)
  | (guard_target = wE (eOr _ _) _ _ _; refine wE_or ?_)
  | (guard_target = wE (eIf _ _ _) _ _ _; refine wE_if ?_)
  | (guard_target = wE (eChain _ _ _ _ _) _ _ _; refine wE_chain ?_)
  | (guard_target = wE (eLc _ _ _ tYesD _ _) _ _ _; refine wE_lcR ?_)
  | (guard_target = wE (eLc2 _ _ _ tYesD _ _ tYesD _ _ _) _ _ _; refine wE_lc2R ?_)
  | (guard_target = wE (eBl _) _ _ _; refine wE_bl ?_)
  | (guard_target = wE (eSl _ _ _ _) _ _ _; refine wE_sl ?_)
  | (guard_target = wE (eSlS _ _ _ _) _ _ _; refine wE_slS ?_)
  | (guard_target = wO oNo _ _ _; refine wO_no ?_)
  | (guard_target = wO (oSome _) _ _ _; refine wO_some ?_)
  | (guard_target = ∃ _ : Int, _; refine ⟨_, rfl, ?_⟩)
  | (guard_target = wSl _ (.tup _) _ _ _ _; refine wSl_tup ?_)
  | (guard_target = wSl _ (.lst _) _ _ _ _; refine wSl_lst ?_)
  | (guard_target = wSl _ (.scr _) _ _ _ _; refine wSl_scr ?_)
  | (guard_target = wT (tBl _) _ _ _; refine wT_bl ?_)
  | (guard_target = wT (tTru _) _ _ _; refine wT_tru ?_)
  | (guard_target = wT (tNotD _) _ _ _; refine wT_not ?_)
  | (guard_target = wT (tAndD _ _) _ _ _; refine wT_and ?_)
  | (guard_target = wT (tOrD _ _) _ _ _; refine wT_or ?_)
  | (guard_target = wT (tIfD _ _ _) _ _ _; refine wT_if ?_)
  | (guard_target = wT tYesD _ _ _; refine wT_yes ?_)
  | (guard_target = wT (tGenQ _ _ _ tYesD _ _) _ _ _; refine wT_genR ?_)
  | (guard_target = wT (tGenQ2 _ _ _ tYesD _ _ tYesD _ _ _) _ _ _; refine wT_gen2R ?_)
  | (guard_target = wI (iSeq _) _ _ _; refine wI_seqR ?_)
  | (guard_target = wI (iRange1 _) _ _ _; refine wI_rangeR ?_)
  | (guard_target = wI (iRange2 _ _) _ _ _; refine wI_range2R ?_)
  | (guard_target = wI (iZip (aCons _ (aCons _ aNil))) _ _ _; refine wI_zipR ?_)
  | (guard_target = wI (iEnum (aCons _ aNil)) _ _ _; refine wI_enumR ?_)
  | (guard_target = wG (gNm _) _ _ _ _; refine wG_nm ?_)
  | (guard_target = wG (gTp _ _) (.lst _) _ _ _; refine wG_tpL rfl ?_)
  | (guard_target = wG (gTp _ _) _ _ _ _; refine wG_tp rfl ?_)
  | (guard_target = wGs (gsCons _ _) _ _ _ _; refine wGs_cons ?_)
  | (guard_target = wGs gsNil _ _ _ _; refine wGs_nil ?_)
  | (guard_target = w2 fAdd _ _ _ _; refine w2_add ?_)
  | (guard_target = w2 fSub _ _ _ _; refine w2_sub ?_)
  | (guard_target = w2 fMul _ _ _ _; refine w2_mul (by walk_at "mul") ?_)
  | (guard_target = w2 fDiv _ _ _ _; refine w2_div (by walk_at "div") ?_)
  | (guard_target = w2 fMod _ _ _ _; refine w2_mod (by walk_at "side") ?_)
  | (guard_target = w2 (fCmp _) _ _ _ _; refine w2_cmp ?_)
  | (guard_target = w2 fEq (.int _) (.int _) _ _; refine w2_eqI ?_)
  | (guard_target = w2 fNe (.int _) (.int _) _ _; refine w2_neI ?_)
  | (guard_target = w2 fIx _ (.int _) _ _; refine w2_eq rfl ?_)
  | (guard_target = w2 fIx _ (.int 0) _ _; refine w2_ix0 rfl (by walk_at "side") ?_)
  | (guard_target = w2 fIx _ (.int (Nat.cast _)) _ _; refine w2_ixR rfl (by walk_at "side") ?_)
  | (guard_target = w2s (fPlus _) (.int _) (.int _) _ _; refine w2s_plusI ?_)
  | (guard_target = w2s (fTimes _) (.int _) (.int _) _ _; refine w2s_timesI (by walk_at "mul") ?_)
  | (guard_target = w2 fPow (.int _) (.int _) _ _; refine w2_pow (by decide) (by decide) (by decide) ?_)
  | (guard_target = w2 fIsB _ _ _ _; refine w2_eq rfl ?_)
  | (guard_target = w2 fNotB _ _ _ _; refine w2_eq rfl ?_)
  | (guard_target = w2 fIsN _ _ _ _; refine w2_eq rfl ?_)
  | (guard_target = w2 fNotN _ _ _ _; refine w2_eq rfl ?_)
  | (guard_target = w1 _ _ _ _; refine w1_eq rfl ?_)
  | (guard_target = wTru _ _ _; refine wTru_eq rfl ?_)
  | (guard_target = wF fTup _ _ _; refine wF_tup (by walk_at "side") ?_)
  | (guard_target = wF fLst _ _ _; refine wF_lst (by walk_at "side") ?_)
  | (guard_target = wF fObj _ _ _; refine wF_obj (by walk_at "side") ?_)
  | (guard_target = wF fLen [dQ _] _ _; refine wF_len2 ?_)
  | (guard_target = wF fLen _ _ _; refine wF_lenR rfl ?_)
  | (guard_target = wF fAbs _ _ _; refine wF_abs ?_)
  | (guard_target = wF fInt1 [.int _] _ _; refine wF_int ?_)
  | (guard_target = wF fInt1 [.bl _] _ _; refine wF_intB ?_)
  | (guard_target = wF fListF _ _ _; refine wF_listF rfl ?_)
  | (guard_target = wF fListO _ _ _; refine wF_listO rfl ?_)
  | (guard_target = wF fTupOf _ _ _; refine wF_tupOf rfl ?_)
  | (guard_target = wF fSum _ _ _; refine wF_sumR rfl ?_)
  | (guard_target = wF fMax2 _ _ _; refine wF_max2 ?_)
  | (guard_target = wF fMin2 _ _ _; refine wF_min2 ?_)
  | (guard_target = (false = true → _) ∧ _; refine ⟨fun h => (nomatch h), fun _ => ?_⟩)
  | (guard_target = (true = true → _) ∧ _; refine ⟨fun _ => ?_, fun h => (nomatch h)⟩)
  | (guard_target = ((!false) = true → _) ∧ _; refine ⟨fun _ => ?_, fun h => (nomatch h)⟩)
  | (guard_target = ((!true) = true → _) ∧ _; refine ⟨fun h => (nomatch h), fun _ => ?_⟩)
  | (guard_target = (isNon _ = true → _) ∧ _; first | refine ⟨fun h => absurd h Bool.false_ne_true, fun _ => ?_⟩ | refine ⟨fun _ => ?_, fun h => absurd h.symm Bool.false_ne_true⟩)
  | (guard_target = ((!isNon _) = true → _) ∧ _; first | refine ⟨fun h => absurd h Bool.false_ne_true, fun _ => ?_⟩ | refine ⟨fun _ => ?_, fun h => absurd h.symm Bool.false_ne_true⟩)
  | (guard_target = (_ = true → _) ∧ (_ = false → _); first | refine ⟨fun h => absurd h (by decide), fun _ => ?_⟩ | refine ⟨fun _ => ?_, fun h => absurd h (by decide)⟩)
  | (guard_target = (_ = _) ∧ _; refine ⟨rfl, ?_⟩)
  | (guard_target = _ ∧ (_ = _); refine ⟨?_, rfl⟩)
  | (guard_target = True ∧ _; refine ⟨trivial, ?_⟩)
  | (guard_target = ∃ _ : Bool, _; refine ⟨_, rfl, ?_⟩)
  | (guard_target = ∃ (_ _ : D), _; refine ⟨_, _, rfl, ?_⟩)
  | (guard_target = ∃ (_ _ _ : D), _; refine ⟨_, _, _, rfl, ?_⟩)
  | rfl)
local macro_rules | `(tactic| walk_at "w") => `(tactic| repeat' (walk_at "w1"))
local macro_rules | `(tactic| walk_at "v") => `(tactic| repeat' ((fail_if_success (guard_target = wE (eLc _ _ _ _ _ _) _ _ _)); walk_at "w1"))
local macro_rules | `(tactic| walk_at "g") => `(tactic| (repeat' (first
  | (guard_target = wG (gNm _) _ _ _ _; refine wG_nm ?_)
  | (guard_target = wG (gTp _ _) _ _ _ _; refine wG_tp rfl ?_)
  | (guard_target = wGs (gsCons _ _) _ _ _ _; refine wGs_cons ?_)
  | (guard_target = wGs gsNil _ _ _ _; refine wGs_nil ?_)
  | (guard_target = wS _ (List.set _ _ _) _ _ _; refine wS_env (by walk_at "env") ?_)
  | (guard_target = wE _ (List.set _ _ _) _ _; refine wE_env (by walk_at "env") ?_))))
local macro_rules | `(tactic| walk_at "u") => `(tactic| repeat' ((fail_if_success (guard_target = wE (eLc _ _ _ _ _ _) _ _ _)); (fail_if_success (guard_target = wE (eLc2 _ _ _ _ _ _ _ _ _ _) _ _ _)); (fail_if_success (guard_target = wT (tGenQ _ _ _ _ _ _) _ _ _)); (fail_if_success (guard_target = wT (tGenQ2 _ _ _ _ _ _ _ _ _ _) _ _ _)); walk_at "w1"))
/-- the draws of this family: one list, with the script's list within -/
def pf : Pool := ⟨1, fun P => ∃ (a t sd e : Int) (p : Nat) (ns : List Int), ns.length ≤ 63 ∧ P = [.lst [.int a, .int (p : Int), .int t, .int sd, .lst (ns.map D.int), .int e]], fun P ⟨_, _, _, _, _, _, _, e⟩ => by rw [e]; rfl, fun P ⟨_, _, _, _, _, _, _, e⟩ ce h m hm => by
  rw [e] at h
  rw [List.mem_singleton.mp h]
  simp only [cellClos, closL, clos, Bool.and_true, Bool.true_and]
  exact closL_map (fun i => rfl) _⟩
theorem mixed_w {a k : Int} {S : Sto} {Q : D → Sto → Prop} (q : ∀ r : Int, Q (.int r) S) : wF F__law_mixed [.int a, .int k] S Q := by
  unfold F__law_mixed t__law_mixed
  refine wF_fn rfl ?_
  walk_at "u"
  obtain ⟨r1, g1, g2⟩ := fmod_m (a * 48271 + k * 69621 + 97) 2147483647 (by omega)
  rw [g1]
  refine w2s_timesI (mul_sm' (by omega)) ?_
  walk_at "u"
  exact wFin_P0 rfl rfl (q _)
theorem take_w {T S : Sto} {m : Int} {Q : D → Sto → Prop} (h : St pf T S) (hT : Cl pf T) (h1 : 1 ≤ m) (h2 : m ≤ 1000000) (q : ∀ (r : Nat) S', St pf T S' → (r : Int) < m → Q (.int (r : Int)) S') : wF F__law_take [.obj 0, .int m] S Q := by
  have h0 := h
  obtain ⟨P, ⟨a, t, sd, e, p, ns, hl, rfl⟩, rfl⟩ := h
  have ix : ∀ (a b c d e f : D), L2.ixN [a, b, c, d, e, f].length 0 = some 0 ∧ L2.ixN [a, b, c, d, e, f].length 1 = some 1 ∧ L2.ixN [a, b, c, d, e, f].length 2 = some 2 ∧ L2.ixN [a, b, c, d, e, f].length 5 = some 5 := fun _ _ _ _ _ _ =>
    ⟨ix_nat (r := 0) (by simp), ix_nat (r := 1) (by simp), ix_nat (r := 2) (by simp), ix_nat (r := 5) (by simp)⟩
  unfold F__law_take t__law_take
  refine wF_fn rfl ?_
  walk_at "u"
  refine wS_seq (wS_augIx ?_)
  walk_at "u"
  refine ⟨0, rfl, ?_⟩
  walk_at "u"
  refine ⟨2, _, 2, _, rfl, rfl, (ix _ _ _ _ _ _).2.2.1, rfl, ?_⟩
  walk_at "u"
  refine ⟨_, rfl, rfl, ?_⟩
  have out : ∀ {S1 : Sto} {r : Nat}, (∃ (a t sd e : Int) (p : Nat), S1 = .lst [.int a, .int (p : Int), .int t, .int sd, .lst (ns.map D.int), .int e] :: T) → (r : Int) < m → wFin finM (.int (r : Int)) ([Cell.lst [D.int a, D.int (p : Int), D.int t, D.int sd, D.lst (ns.map D.int), D.int e]] ++ T) S1 Q := fun ⟨a, t, sd, e, p, hS⟩ hr => by
    subst hS
    exact wFin_M (U := []) h0 ⟨_, ⟨a, t, sd, e, p, ns, hl, rfl⟩, by rw [List.append_nil]; rfl⟩ hT rfl rfl fun S' hs => q _ S' hs hr
  refine wS_cut (fun ρ S1 => ∃ (a t sd e : Int) (p : Nat) (x3 : Option D), S1 = .lst [.int a, .int (p : Int), .int t, .int sd, .lst (ns.map D.int), .int e] :: T ∧ ρ = [some (.obj 0), some (.int m), some (.lst (ns.map D.int)), x3, none]) ?_ ?_
  · walk_at "u"
    walk_at "if"
    · walk_at "u"
      refine wF_len (xs := ns.map D.int) rfl ?_
      rw [List.length_map]
      walk_at "u"
      walk_at "if"
      · walk_at "u"
        obtain ⟨z, hz⟩ := ints_at (ns := ns) (c := (p : Int)) (by omega) (by assumption)
        refine w2_ix rfl hz ?_
        walk_at "u"
        refine wS_seq (wS_augIx ?_)
        walk_at "u"
        refine ⟨0, rfl, ?_⟩
        walk_at "u"
        refine ⟨1, _, 1, _, rfl, rfl, (ix _ _ _ _ _ _).2.1, rfl, ?_⟩
        walk_at "u"
        refine ⟨_, rfl, rfl, ?_⟩
        refine wS_seq ?_
        walk_at "u"
        walk_at "if"
        · walk_at "u"
          refine mixed_w fun z2 => ?_
          walk_at "u"
          obtain ⟨r, hr, hr2⟩ := fmod_m z2 m h1
          rw [hr]
          exact out ⟨_, _, _, _, p + 1, rfl⟩ hr2
        · walk_at "u"
          exact ⟨((z.natAbs : Nat) : Int), t + 1, sd, 60, p + 1, _, rfl, rfl⟩
      · walk_at "u"
        exact ⟨a, _, sd, e, p, _, rfl, rfl⟩
    · walk_at "u"
      exact ⟨a, _, sd, e, p, _, rfl, rfl⟩
  · rintro ρ S1 ⟨a, t, sd, e, p, x3, rfl, rfl⟩
    refine wS_seq ?_
    walk_at "u"
    walk_at "if"
    · walk_at "u"
      refine mixed_w fun z2 => ?_
      walk_at "u"
      obtain ⟨r, hr, hr2⟩ := fmod_m z2 m h1
      rw [hr]
      exact out ⟨_, _, _, _, p, rfl⟩ hr2
    · walk_at "u"
      obtain ⟨r, hr, hr2⟩ := fmod_m a m h1
      rw [hr]
      walk_at "u"
      refine wS_seq (wS_augIx ?_)
      walk_at "u"
      refine ⟨0, rfl, ?_⟩
      walk_at "u"
      refine ⟨5, _, 5, _, rfl, rfl, (ix _ _ _ _ _ _).2.2.2, rfl, ?_⟩
      walk_at "u"
      refine ⟨_, rfl, rfl, ?_⟩
      walk_at "u"
      exact out ⟨_, _, _, _, p, rfl⟩ hr2
theorem pick_w {T S : Sto} {xs : List D} {Q : D → Sto → Prop} (h : St pf T S) (hT : Cl pf T) (h0 : xs ≠ []) (hl : xs.length ≤ 1000000) (hx : ∀ x ∈ xs, clos (pf.n + T.length) x = true ∧ isObj x = false) (q : ∀ x S', St pf T S' → x ∈ xs → Q x S') : wF F__law_pick [.obj 0, .lst xs] S Q := by
  have hp : 0 < xs.length := List.length_pos_iff.mpr h0
  unfold F__law_pick t__law_pick
  refine wF_fn rfl ?_
  walk_at "w"
  refine wF_len (xs := xs) rfl ?_
  walk_at "w"
  refine take_w h hT (by omega) (by omega) fun r S' hs hr => ?_
  have hr : r < xs.length := by omega
  refine w2_ix rfl (atI_nat (List.getElem?_eq_getElem hr)) ?_
  walk_at "w"
  have hm := List.getElem_mem hr
  refine wFin_M (U := []) h (by rw [List.append_nil]; exact hs) hT (hx _ hm).1 (hx _ hm).2 fun S2 h2 => q _ S2 h2 hm
theorem start_w {ns : List Int} {Q : D → Sto → Prop} (hl : ns.length ≤ 63) (q : ∀ S', St pf [] S' → Q (.obj 0) S') : wF F__law_start [.scr (ns.map D.int)] [] Q := by
  unfold F__law_start t__law_start
  refine wF_fn rfl ?_
  walk_at "u"
  refine wF_len (xs := ns.map D.int) rfl ?_
  rw [List.length_map]
  walk_at "u"
  have e : cutD (ns.map D.int) none (some 63) = ns.map D.int := by
    rw [show (63 : Int) = ((63 : Nat) : Int) from rfl, cutD_to, List.take_of_length_le (by rw [List.length_map]; exact hl)]
  refine wS_cut (fun ρ S' => S' = [] ∧ ∃ (sd : Int) (x2 : Option D), ρ = [some (.scr (ns.map D.int)), some (.int sd), x2]) ?_ ?_
  · refine wS_for (α := Int) (fun _ ρ S' => S' = [] ∧ ∃ (sd : Int) (x2 : Option D), ρ = [some (.scr (ns.map D.int)), some (.int sd), x2]) ?_
    refine wI_seq ?_
    walk_at "u"
    rw [e]
    refine wF_lst (by rw [List.length_map]; omega) ?_
    refine ⟨_, _, rfl, ns, D.int, rfl, ⟨rfl, _, _, rfl⟩, fun k z ρ S' hk ⟨e1, sd, x2, e2⟩ => ?_, fun ρ S' h => h⟩
    subst e1 e2
    walk_at "u"
    refine mixed_w fun r => ?_
    walk_at "u"
    exact ⟨_, _, rfl⟩
  · rintro ρ S' ⟨rfl, sd, x2, rfl⟩
    walk_at "u"
    rw [e]
    refine wF_lst (by rw [List.length_map]; omega) ?_
    walk_at "u"
    exact wFin_K (q _ ⟨_, ⟨0, 0, sd, 0, 0, ns, hl, rfl⟩, rfl⟩)
end LW

set_option maxRecDepth 100000
set_option maxHeartbeats 4000000
namespace LW
open PySem DL PL
open Classical
local macro_rules | `(tactic| walk_at "env") => `(tactic| (simp only [startD, List.map_cons, List.map_nil, List.length_cons, List.length_nil, Nat.reduceAdd, Nat.reduceSub, List.replicate, List.cons_append, List.nil_append, wipeD, List.set]; try rfl))
local macro_rules | `(tactic| walk_at "sto") => `(tactic| (simp only [List.cons_append, List.nil_append, List.set, List.set_cons_zero, List.set_cons_succ, Int.toNat_natCast, Int.reduceToNat]; try rfl))
local macro_rules | `(tactic| walk_at "if") => `(tactic| (refine ⟨fun hc => ?_, fun hc => ?_⟩ <;> simp only [decide_eq_true_eq, decide_eq_false_iff_not, Bool.not_eq_true', Bool.not_eq_false', bne_iff_ne, ne_eq, beq_iff_eq] at hc <;> try (exfalso; first | assumption | omega | (simp at hc; done))))
local macro_rules | `(tactic| walk_at "side") => `(tactic| first | assumption | omega | decide | (simp; done) | (simp; omega))
local macro_rules | `(tactic| walk_at "mul") => `(tactic| first | assumption | exact mul_sm (by first | decide | omega) | exact mul_sm' (by first | decide | omega))
local macro_rules | `(tactic| walk_at "div") => `(tactic| first | assumption | exact div_sm (by omega) (by omega))
local macro_rules | `(tactic| walk_at "w1") => `(tactic| first
  | (guard_target = wS _ (List.set _ _ _) _ _ _; refine wS_env (by walk_at "env") ?_)
  | (guard_target = wE _ (List.set _ _ _) _ _; refine wE_env (by walk_at "env") ?_)
  | (guard_target = wG _ _ (wipeD _ _) _ _; refine wG_env (by walk_at "env") ?_)
  | (guard_target = wS _ (startD _ _) _ _ _; refine wS_env (by walk_at "env") ?_)
  | (guard_target = wS (sSeq (sSet _ _) _) _ _ _ _; refine wS_seq ?_)
  | (guard_target = wS (sSeq (sAsg _ _) _) _ _ _ _; refine wS_seq ?_)
  | (guard_target = wS (sSeq (sExpr _) _) _ _ _ _; refine wS_seq ?_)
  | (guard_target = wS (sSeq (sPar _ _ _) _) _ _ _ _; refine wS_seq ?_)
  | (guard_target = wS (sSeq (sPar3 _ _ _ _) _) _ _ _ _; refine wS_seq ?_)
  | (guard_target = wS (sSeq (sAug _ _ _) _) _ _ _ _; refine wS_seq ?_)
  | (guard_target = wS (sSeq (sSeq _ _) _) _ _ _ _; refine wS_seq ?_)
  | (guard_target = wS _ _ (List.set _ _ _) _ _; refine wS_sto (by walk_at "sto") ?_)
  | (guard_target = wE _ _ (List.set _ _ _) _; refine wE_sto (by walk_at "sto") ?_)
  | (guard_target = wG (gIx _ _) _ _ _ _; refine wG_ix2 ?_)
  | (guard_target = ∃ (_ : Nat) (_ : Int) (_ : Nat) (_ : List D), _; refine ⟨_, _, _, _, rfl, rfl, rfl, rfl, ?_⟩)
  | (guard_target = wS (sSet _ _) _ _ _ _; refine wS_set ?_)
  | (guard_target = wS (sRet _) _ _ _ _; refine wS_ret ?_)
  | (guard_target = wS (sExpr _) _ _ _ _; refine wS_expr ?_)
  | (guard_target = wS sPass _ _ _ _; refine wS_pass ?_)
  | (guard_target = wS sBreak _ _ _ _; refine wS_break ?_)
  | (guard_target = wS sCont _ _ _ _; refine wS_cont ?_)
  | (guard_target = wS (sIf _ _ _) _ _ _ _; refine wS_if ?_)
  | (guard_target = wS (sAsg _ _) _ _ _ _; refine wS_asg ?_)
  | (guard_target = wS (sPar _ _ _) _ _ _ _; refine wS_par ?_)
  | (guard_target = wS (sPar3 _ _ _ _) _ _ _ _; refine wS_par3 ?_)
  | (guard_target = wS (sAug _ _ _) _ _ _ _; refine wS_aug rfl ?_)
  | (guard_target = wE (eV _) _ _ _; refine wE_v rfl ?_)
  | (guard_target = wE (eC _) _ _ _; refine wE_c ?_)
  | (guard_target = wE (e1 _ _) _ _ _; refine wE_1 ?_)
  | (guard_target = wE (e2 _ _ _) _ _ _; refine wE_2 ?_)
  | (guard_target = wE (e2s _ _ _) _ _ _; refine wE_2s ?_)
  | (guard_target = wE (eA _ _) _ _ _; refine wE_A ?_)
  | (guard_target = wA (aCons _ _) _ _ _; refine wA_cons ?_)
  | (guard_target = wA aNil _ _ _; refine wA_nil ?_)
  | (guard_target = wE (eM _ _ _) _ _ _; refine wE_M ?_)
  | (guard_target = wE (eAnd _ _) _ _ _; refine wE_and ?_)
  | (guard_target = wE (eOr _ _) _ _ _; refine wE_or ?_)
  | (guard_target = wE (eIf _ _ _) _ _ _; refine wE_if ?_)
  | (guard_target = wE (eChain _ _ _ _ _) _ _ _; refine wE_chain ?_)
  | (guard_target = wE (eLc _ _ _ tYesD _ _) _ _ _; refine wE_lcR ?_)
  | (guard_target = wE (eLc2 _ _ _ tYesD _ _ tYesD _ _ _) _ _ _; refine wE_lc2R ?_)
  | (guard_target = wE (eBl _) _ _ _; refine wE_bl ?_)
  | (guard_target = wE (eSl _ _ _ _) _ _ _; refine wE_sl ?_)
  | (guard_target = wE (eSlS _ _ _ _) _ _ _; refine wE_slS ?_)
  | (guard_target = wO oNo _ _ _; refine wO_no ?_)
  | (guard_target = wO (oSome _) _ _ _; refine wO_some ?_)
  | (guard_target = ∃ _ : Int, _; refine ⟨_, rfl, ?_⟩)
  | (guard_target = wSl _ (.tup _) _ _ _ _; refine wSl_tup ?_)
  | (guard_target = wSl _ (.lst _) _ _ _ _; refine wSl_lst ?_)
  | (guard_target = wSl _ (.scr _) _ _ _ _; refine wSl_scr ?_)
  | (guard_target = wT (tBl _) _ _ _; refine wT_bl ?_)
  | (guard_target = wT (tTru _) _ _ _; refine wT_tru ?_)
  | (guard_target = wT (tNotD _) _ _ _; refine wT_not ?_)
  | (guard_target = wT (tAndD _ _) _ _ _; refine wT_and ?_)
  | (guard_target = wT (tOrD _ _) _ _ _; refine wT_or ?_)
  | (guard_target = wT (tIfD _ _ _) _ _ _; refine wT_if ?_)
  | (guard_target = wT tYesD _ _ _; refine wT_yes ?_)
  | (guard_target = wT (tGenQ _ _ _ tYesD _ _) _ _ _; refine wT_genR ?_)
  | (guard_target = wT (tGenQ2 _ _ _ tYesD _ _ tYesD _ _ _) _ _ _; refine wT_gen2R ?_)
  | (guard_target = wI (iSeq _) _ _ _; refine wI_seqR ?_)
  | (guard_target = wI (iRange1 _) _ _ _; refine wI_rangeR ?_)
  | (guard_target = wI (iRange2 _ _) _ _ _; refine wI_range2R ?_)
  | (guard_target = wI (iZip (aCons _ (aCons _ aNil))) _ _ _; refine wI_zipR ?_)
  | (guard_target = wI (iEnum (aCons _ aNil)) _ _ _; refine wI_enumR ?_)
  | (guard_target = wG (gNm _) _ _ _ _; refine wG_nm ?_)
  | (guard_target = wG (gTp _ _) (.lst _) _ _ _; refine wG_tpL rfl ?_)
  | (guard_target = wG (gTp _ _) _ _ _ _; refine wG_tp rfl ?_)
  | (guard_target = wGs (gsCons _ _) _ _ _ _; refine wGs_cons ?_)
  | (guard_target = wGs gsNil _ _ _ _; refine wGs_nil ?_)
  | (guard_target = w2 fAdd _ _ _ _; refine w2_add ?_)
  | (guard_target = w2 fSub _ _ _ _; refine w2_sub ?_)
  | (guard_target = w2 fMul _ _ _ _; refine w2_mul (by walk_at "mul") ?_)
  | (guard_target = w2 fDiv _ _ _ _; refine w2_div (by walk_at "div") ?_)
  | (guard_target = w2 fMod _ _ _ _; refine w2_mod (by walk_at "side") ?_)
  | (guard_target = w2 (fCmp _) _ _ _ _; refine w2_cmp ?_)
  | (guard_target = w2 fEq (.int _) (.int _) _ _; refine w2_eqI ?_)
  | (guard_target = w2 fNe (.int _) (.int _) _ _; refine w2_neI ?_)
  | (guard_target = w2 fIx _ (.int _) _ _; refine w2_eq rfl ?_)
  | (guard_target = w2 fIx _ (.int 0) _ _; refine w2_ix0 rfl (by walk_at "side") ?_)
  | (guard_target = w2 fIx _ (.int (Nat.cast _)) _ _; refine w2_ixR rfl (by walk_at "side") ?_)
  | (guard_target = w2s (fPlus _) (.int _) (.int _) _ _; refine w2s_plusI ?_)
  | (guard_target = w2s (fTimes _) (.int _) (.int _) _ _; refine w2s_timesI (by walk_at "mul") ?_)
  | (guard_target = w2 fPow (.int _) (.int _) _ _; refine w2_pow (by decide) (by decide) (by decide) ?_)
  | (guard_target = w2 fIsB _ _ _ _; refine w2_eq rfl ?_)
  | (guard_target = w2 fNotB _ _ _ _; refine w2_eq rfl ?_)
  | (guard_target = w2 fIsN _ _ _ _; refine w2_eq rfl ?_)
  | (guard_target = w2 fNotN _ _ _ _; refine w2_eq rfl ?_)
  | (guard_target = w1 _ _ _ _; refine w1_eq rfl ?_)
  | (guard_target = wTru _ _ _; refine wTru_eq rfl ?_)
  | (guard_target = wF fTup _ _ _; refine wF_tup (by walk_at "side") ?_)
  | (guard_target = wF fLst _ _ _; refine wF_lst (by walk_at "side") ?_)
  | (guard_target = wF fObj _ _ _; refine wF_obj (by walk_at "side") ?_)
  | (guard_target = wF fLen [dQ _] _ _; refine wF_len2 ?_)
  | (guard_target = wF fLen _ _ _; refine wF_lenR rfl ?_)
  | (guard_target = wF fAbs _ _ _; refine wF_abs ?_)
  | (guard_target = wF fInt1 [.int _] _ _; refine wF_int ?_)
  | (guard_target = wF fInt1 [.bl _] _ _; refine wF_intB ?_)
  | (guard_target = wF fListF _ _ _; refine wF_listF rfl ?_)
  | (guard_target = wF fListO _ _ _; refine wF_listO rfl ?_)
  | (guard_target = wF fTupOf _ _ _; refine wF_tupOf rfl ?_)
  | (guard_target = wF fSum _ _ _; refine wF_sumR rfl ?_)
  | (guard_target = wF fMax2 _ _ _; refine wF_max2 ?_)
  | (guard_target = wF fMin2 _ _ _; refine wF_min2 ?_)
  | (guard_target = (false = true → _) ∧ _; refine ⟨fun h => (nomatch h), fun _ => ?_⟩)
  | (guard_target = (true = true → _) ∧ _; refine ⟨fun _ => ?_, fun h => (nomatch h)⟩)
  | (guard_target = ((!false) = true → _) ∧ _; refine ⟨fun _ => ?_, fun h => (nomatch h)⟩)
  | (guard_target = ((!true) = true → _) ∧ _; refine ⟨fun h => (nomatch h), fun _ => ?_⟩)
  | (guard_target = (isNon _ = true → _) ∧ _; first | refine ⟨fun h => absurd h Bool.false_ne_true, fun _ => ?_⟩ | refine ⟨fun _ => ?_, fun h => absurd h.symm Bool.false_ne_true⟩)
  | (guard_target = ((!isNon _) = true → _) ∧ _; first | refine ⟨fun h => absurd h Bool.false_ne_true, fun _ => ?_⟩ | refine ⟨fun _ => ?_, fun h => absurd h.symm Bool.false_ne_true⟩)
  | (guard_target = (_ = true → _) ∧ (_ = false → _); first | refine ⟨fun h => absurd h (by decide), fun _ => ?_⟩ | refine ⟨fun _ => ?_, fun h => absurd h (by decide)⟩)
  | (guard_target = (_ = _) ∧ _; refine ⟨rfl, ?_⟩)
  | (guard_target = _ ∧ (_ = _); refine ⟨?_, rfl⟩)
  | (guard_target = True ∧ _; refine ⟨trivial, ?_⟩)
  | (guard_target = ∃ _ : Bool, _; refine ⟨_, rfl, ?_⟩)
  | (guard_target = ∃ (_ _ : D), _; refine ⟨_, _, rfl, ?_⟩)
  | (guard_target = ∃ (_ _ _ : D), _; refine ⟨_, _, _, rfl, ?_⟩)
  | rfl)
local macro_rules | `(tactic| walk_at "w") => `(tactic| repeat' (walk_at "w1"))
local macro_rules | `(tactic| walk_at "v") => `(tactic| repeat' ((fail_if_success (guard_target = wE (eLc _ _ _ _ _ _) _ _ _)); walk_at "w1"))
local macro_rules | `(tactic| walk_at "g") => `(tactic| (repeat' (first
  | (guard_target = wG (gNm _) _ _ _ _; refine wG_nm ?_)
  | (guard_target = wG (gTp _ _) _ _ _ _; refine wG_tp rfl ?_)
  | (guard_target = wGs (gsCons _ _) _ _ _ _; refine wGs_cons ?_)
  | (guard_target = wGs gsNil _ _ _ _; refine wGs_nil ?_)
  | (guard_target = wS _ (List.set _ _ _) _ _ _; refine wS_env (by walk_at "env") ?_)
  | (guard_target = wE _ (List.set _ _ _) _ _; refine wE_env (by walk_at "env") ?_))))
local macro_rules | `(tactic| walk_at "u") => `(tactic| repeat' ((fail_if_success (guard_target = wE (eLc _ _ _ _ _ _) _ _ _)); (fail_if_success (guard_target = wE (eLc2 _ _ _ _ _ _ _ _ _ _) _ _ _)); (fail_if_success (guard_target = wT (tGenQ _ _ _ _ _ _) _ _ _)); (fail_if_success (guard_target = wT (tGenQ2 _ _ _ _ _ _ _ _ _ _) _ _ _)); walk_at "w1"))
theorem sum_bump : ∀ (zs : List Nat) (i : Nat), i < zs.length → (zs.set i (zs.getD i 0 + 1)).sum = zs.sum + 1
  | [], i, h => by simp at h
  | z :: zs, 0, _ => by simp; omega
  | z :: zs, i + 1, h => by
    have := sum_bump zs i (by simpa using h)
    simp only [List.set_cons_succ, List.sum_cons, List.getD_cons_succ]
    omega
theorem E_garbled {m n k Bt' Bg M : Nat} {t tab : Nat → Nat → Rat} (hn1 : 1 ≤ n) (hm2 : m ≤ 1000) (hn2 : n ≤ 1000) (hk2 : k ≤ 1000) (hBt : 0 < Bt') (hBg : 0 < Bg) (ht : ∀ i j, i < m → j < n → In Bt' M (t i j)) (hg : ∀ i j, i < n → j < k → In Bg M (tab i j))
    (h2 : (M + 1) * Bt' < 2 ^ 2000) (h3 : (M + 1) * Bg < 2 ^ 2000) (S : Sto) : F_garbled [dM m n t, dM n k tab] S = some (dM m k (garb n t tab), S) := by
  have big : (2 : Nat) ^ 2000 ≤ 2 ^ 8999 := Nat.pow_le_pow_right (Nat.succ_pos 1) (by omega)
  have b2 := In.lt h2
  have b3 := In.lt h3
  have l3 := Nat.le_of_dvd hBg (lcM_dvd fun i j hi hj => (hg i j hi hj).den)
  have bg : ∀ s j, s < n → j < k → DL.Bt 2000 (wh (lcM n k tab : Nat) (tab s j)) := fun s j hi hj => (hg s j hi hj).wh (dvd_lcM hi hj) lcM_pos l3 h3
  have hp3 := lcM_pos (m := n) (n := k) (t := tab)
  apply wF_of
  unfold F_garbled t_garbled
  refine wF_fn rfl ?_
  walk_at "w"
  refine wF_eq (F_ro hBg hg (by omega) hn2 hk2 S) ?_
  walk_at "w"
  refine wS_seq ?_
  refine wS_forR (fun w ρ S' => S' = S ++ [.lst (rg w fun i => dT k (garb n t tab i))] ∧ ∃ x5 x6 x7 x8 x9 x10, ρ = [some (dM m n t), some (dM n k tab), some (.int (lcM n k tab : Nat)), some (tF n fun i => iT k fun j => wh (lcM n k tab : Nat) (tab i j)), some (.obj S.length), x5, x6, x7, x8, x9, x10, none, none, none, none]) ?_
  walk_at "w"
  refine ⟨m, fun i => dT n (t i), fun _ => True, rfl, ?_⟩
  refine ⟨m, _, rfl, ⟨rfl, none, none, none, none, none, none, rfl⟩, fun w ρ S' hw ⟨e1, x5, x6, x7, x8, x9, x10, e2⟩ => ?_, fun ρ S' ⟨e1, x5, x6, x7, x8, x9, x10, e2⟩ => ?_⟩
  · subst e1 e2
    have hd : ∀ s, s < n → (t w s).den ∣ Bt' := fun s hs => (ht w s hw hs).den
    have l2 := Nat.le_of_dvd hBt (lc_dvd hd)
    have hp2 := lc_pos (f := t w) n
    have bt : ∀ s, s < n → DL.Bt 2000 (wh (lc (t w) n : Nat) (t w s)) := fun s hs => (ht w s hw hs).wh (dvd_lc hs) (lc_pos _) l2 h2
    walk_at "w"
    refine wF_eq (F_bot (.inl rfl) hBt hd (by omega) _) ?_
    walk_at "w"
    refine wF_eq (F_wh (n := 8999) (.inl rfl) hp2 (by omega) (fun s hs => ((ht w s hw hs).sm hBt h2).mono (by omega)) (by omega) (by omega) _) ?_
    walk_at "w"
    refine ⟨k, fun j => .int (wh (lcM n k tab : Nat) (tab 0 j)), fun _ => True, rfl, ?_⟩
    refine ⟨k, _, fun _ => .int 0, rfl, trivial, fun j hj => ?_, ?_⟩
    · walk_at "w"
    · walk_at "w"
      refine wS_seq ?_
      refine wS_forR (fun s ρ S2 => S2 = S ++ [.lst (rg w fun i => dT k (garb n t tab i))] ∧ ∃ x9 x10, ρ = [some (dM m n t), some (dM n k tab), some (.int (lcM n k tab : Nat)), some (tF n fun i => iT k fun j => wh (lcM n k tab : Nat) (tab i j)), some (.obj S.length), some (dT n (t w)), some (.int (lc (t w) n : Nat)), some (iT n fun s => wh (lc (t w) n : Nat) (t w s)), some (iL k fun j => is (fun s => wh (lc (t w) n : Nat) (t w s) * wh (lcM n k tab : Nat) (tab s j)) s), x9, x10, none, none, none, none]) ?_
      walk_at "w"
      refine ⟨n, fun s => .int (wh (lc (t w) n : Nat) (t w s)), fun s => iT k fun j => wh (lcM n k tab : Nat) (tab s j), fun _ => True, fun _ => True, rfl, rfl, ?_⟩
      refine ⟨n, _, rfl, ⟨rfl, _, _, rfl⟩, fun s ρ S2 hs ⟨e1, x9, x10, e2⟩ => ?_, fun ρ S2 ⟨e1, x9, x10, e2⟩ => ?_⟩
      · subst e1 e2
        walk_at "w"
        refine ⟨fun hc => ?_, fun hc => ?_⟩
        · walk_at "w"
          refine ⟨k, fun j => .int (is (fun s => wh (lc (t w) n : Nat) (t w s) * wh (lcM n k tab : Nat) (tab s j)) s), fun j => .int (wh (lcM n k tab : Nat) (tab s j)), fun _ => True, fun _ => True, rfl, rfl, ?_⟩
          refine ⟨k, _, fun j => .int (is (fun s => wh (lc (t w) n : Nat) (t w s) * wh (lcM n k tab : Nat) (tab s j)) (s + 1)), rfl, ⟨trivial, trivial⟩, fun j hj => ?_, ?_⟩
          · walk_at "w"
            refine w2s_timesI (mul_ok (bt s hs) (bg s j hs hj) (by omega)) ?_
            walk_at "w"
          · walk_at "w"
            exact ⟨⟨trivial, trivial⟩, rfl, _, _, rfl⟩
        · walk_at "w"
          have hz : wh (lc (t w) n : Nat) (t w s) = 0 := by simpa using hc
          have : (fun j => is (fun s => wh (lc (t w) n : Nat) (t w s) * wh (lcM n k tab : Nat) (tab s j)) (s + 1)) = fun j => is (fun s => wh (lc (t w) n : Nat) (t w s) * wh (lcM n k tab : Nat) (tab s j)) s := by
            funext j
            show is _ s + wh (lc (t w) n : Nat) (t w s) * wh (lcM n k tab : Nat) (tab s j) = _
            rw [hz]
            simp
          exact ⟨⟨trivial, trivial⟩, rfl, _, _, by rw [this]⟩
      · subst e1 e2
        walk_at "w"
        refine ⟨S.length, _, rfl, get_last, ?_⟩
        walk_at "w"
        refine ⟨k, fun j => .int (is (fun s => wh (lc (t w) n : Nat) (t w s) * wh (lcM n k tab : Nat) (tab s j)) n), fun _ => True, rfl, ?_⟩
        refine ⟨k, _, fun j => dQ (garb n t tab w j), rfl, trivial, fun j hj => ?_, ?_⟩
        · walk_at "w"
          refine w2s_timesI (mul_ok (Bt.of_nat (n := 2000) (k := lc (t w) n) (by omega)) (Bt.of_nat (n := 2000) (k := lcM n k tab) (by omega)) (by omega)) ?_
          walk_at "w"
          have hpp : (0 : Int) < ((lc (t w) n : Nat) : Int) * ((lcM n k tab : Nat) : Int) := Int.mul_pos (by omega) (by omega)
          refine wF_eq (F_low (n := 4000) hpp ((Bt.of_nat (n := 2000) (k := lc (t w) n) (by omega)).mul (Bt.of_nat (n := 2000) (k := lcM n k tab) (by omega))) (by omega) _) ?_
          have hv : ((is (fun s => wh (lc (t w) n : Nat) (t w s) * wh (lcM n k tab : Nat) (tab s j)) n : Int) : Rat) / ((((lc (t w) n : Nat) : Int) * ((lcM n k tab : Nat) : Int) : Int) : Rat) = garb n t tab w j := by
            have hz : ((((lc (t w) n : Nat) : Int) * ((lcM n k tab : Nat) : Int) : Int) : Rat) ≠ 0 := by
              have : (((lc (t w) n : Nat) : Int) * ((lcM n k tab : Nat) : Int)) ≠ 0 := by omega
              exact_mod_cast this
            have e : ((is (fun s => wh (lc (t w) n : Nat) (t w s) * wh (lcM n k tab : Nat) (tab s j)) n : Int) : Rat) = garb n t tab w j * ((((lc (t w) n : Nat) : Int) * ((lcM n k tab : Nat) : Int) : Int) : Rat) := by
              rw [is_cast]
              unfold garb
              rw [← rs_mul']
              refine rs_congr fun s hs => ?_
              have e1 := wh_cast (dvd_lc (f := t w) hs)
              have e2 := wh_cast (dvd_lcM (t := tab) hs hj)
              push_cast
              rw [e1, e2]
              grind
            rw [e]
            generalize ((((lc (t w) n : Nat) : Int) * ((lcM n k tab : Nat) : Int) : Int) : Rat) = L at hz
            grind
          rw [hv]
          exact ⟨rfl, rfl⟩
        · walk_at "w"
          refine wM_append get_last (by simp; omega) ?_
          rw [set_last]
          refine ⟨trivial, ?_, _, _, _, _, _, _, rfl⟩
          rw [rg_succ]
          rfl
  · subst e1 e2
    walk_at "w"
    refine wF_tupOf (xs := rg m fun i => dT k (garb n t tab i)) (by simp only [seqD, get_last]) ?_
    walk_at "w"
    exact wFin_P clos_dM rfl ⟨rfl, rfl⟩

def tieOk (m a b : Nat) (f g v : Nat → Nat → Rat) : Prop := (∀ w, w < m → ∀ s, s < a → rs (fun j => v w (s * b + j)) b = f w s) ∧ ∀ w, w < m → ∀ t, t < b → rs (fun s => v w (t + s * b)) a = g w t
theorem tie_ix {a b s j : Nat} (hs : s < a) (hj : j < b) : s * b + j < a * b := by
  have : (s + 1) * b ≤ a * b := Nat.mul_le_mul_right _ hs
  rw [Nat.add_mul, Nat.one_mul] at this
  omega
theorem all_range_true {m : Nat} {p : Nat → Bool} (h : ∀ i, i < m → p i = true) : ((List.range m).any fun i => p i == false) = false := by
  rw [List.any_eq_false]
  intro i hi
  rw [h i (List.mem_range.mp hi)]
  decide
theorem F_broken {q : Rat} (S : Sto) : F_is_broken [dQ q] S = some (.bl true, S) := by
  have hw : ∀ (i : Int) (S : Sto), F_is_whole [.int i] S = some (.bl true, S) := fun i S => by
    apply wF_of
    unfold F_is_whole t_is_whole
    refine wF_fn rfl ?_
    walk_at "w"
    exact wFin_P0 rfl rfl ⟨rfl, rfl⟩
  apply wF_of
  unfold F_is_broken t_is_broken
  refine wF_fn rfl ?_
  refine wS_seq ?_
  walk_at "w"
  refine wS_seq ?_
  rw [show dQ q = D.tup [.int q.num, .int (q.den : Int)] from rfl]
  walk_at "w"
  refine wF_eq (hw _ _) ?_
  walk_at "w"
  refine wF_eq (hw _ _) ?_
  walk_at "w"
  have hd := den_posI q
  rw [decide_eq_true (show (1 : Int) ≤ (q.den : Int) by omega)]
  walk_at "w"
  refine wF_eq (F_cp _ _ _) ?_
  have hg : Int.gcd q.num (q.den : Int) = 1 := by
    have := q.reduced
    unfold Nat.Coprime at this
    simpa [Int.gcd] using this
  rw [hg]
  walk_at "w"
  exact wFin_P0 rfl rfl ⟨rfl, rfl⟩
theorem F_totN {d : D} {m N : Nat} {q : Nat → Rat} {S : Sto} (hd : d = dT m q ∨ d = dL m q) (hq : ∀ i, i < m → Sm N (q i)) (hN : N * m + N ≤ 8000) (hm : m ≤ 1000000) : F_total [d] S = some (dQ (rs q m), S) := by
  obtain ⟨B, b0, b1, b2⟩ := In.of_sm m hq
  refine F_tot (B := B) (M := 2 ^ N) hd b0 b2 ?_ hm S
  have h1 : (2 ^ N + 1) * B ≤ 2 ^ (N + 1) * B := Nat.mul_le_mul_right _ (by
    rw [Nat.pow_succ]
    have : 0 < 2 ^ N := Nat.pow_pos (by omega)
    omega)
  have h2 : 2 ^ (N + 1) * B < 2 ^ (N + 1) * 2 ^ (N * m + 1) := Nat.mul_lt_mul_of_pos_left b1 (Nat.pow_pos (by omega))
  rw [← Nat.pow_add] at h2
  exact Nat.lt_of_le_of_lt h1 (Nat.lt_of_lt_of_le h2 (Nat.pow_le_pow_right (by omega) (by omega)))
/-! values of any form: trees with small ints -/
def trB (L : Nat) : Nat → D → Bool
  | _, .non => true
  | _, .bl _ => true
  | _, .int i => decide (i.natAbs < 9223372036854775808)
  | _, .str x => (PyData.str x).canLay0
  | k + 1, .tup xs => decide (xs.length ≤ L) && xs.all (trB L k)
  | _, _ => false
theorem tr_tup {L k : Nat} {xs : List D} (h1 : xs.length ≤ L) (h : ∀ x ∈ xs, trB L k x = true) : trB L (k + 1) (.tup xs) = true := by
  show (decide (xs.length ≤ L) && xs.all (trB L k)) = true
  rw [decide_eq_true h1, Bool.true_and, List.all_eq_true]
  exact h
theorem tr_tupE {L k : Nat} {xs : List D} (h : trB L k (.tup xs) = true) : ∃ j, k = j + 1 ∧ xs.length ≤ L ∧ ∀ x ∈ xs, trB L j x = true := by
  cases k with
  | zero => cases h
  | succ k =>
    have h : (decide (xs.length ≤ L) && xs.all (trB L k)) = true := h
    rw [Bool.and_eq_true, decide_eq_true_eq, List.all_eq_true] at h
    exact ⟨k, rfl, h.1, h.2⟩
theorem tr_mono {L M : Nat} (hL : L ≤ M) : ∀ {k j : Nat} {d : D}, k ≤ j → trB L k d = true → trB M j d = true
  | k, j, d, hk, h => by
    cases d with
    | non => cases j <;> rfl
    | bl b => cases j <;> rfl
    | int b => cases j <;> cases k <;> exact h
    | str b => cases j <;> cases k <;> exact h
    | tup xs =>
      obtain ⟨k2, rfl, h1, h2⟩ := tr_tupE h
      obtain ⟨j2, rfl⟩ : ∃ j2, j = j2 + 1 := ⟨j - 1, by omega⟩
      exact tr_tup (Nat.le_trans h1 hL) fun x hx => tr_mono hL (by omega) (h2 x hx)
    | lst xs => cases k <;> cases h
    | scr xs => cases k <;> cases h
    | obj xs => cases k <;> cases h
theorem closL_of {n : Nat} : ∀ {xs : List D}, (∀ x ∈ xs, clos n x = true) → closL n xs = true
  | [], _ => rfl
  | x :: r, h => closL_cons (h x List.mem_cons_self) (closL_of fun y hy => h y (List.mem_cons_of_mem _ hy))
theorem tr_clos {L n : Nat} : ∀ {k : Nat} {d : D}, trB L k d = true → clos n d = true
  | k, d, h => by
    cases d with
    | non => rfl
    | bl b => rfl
    | int b => rfl
    | str b => rfl
    | tup xs =>
      obtain ⟨k2, rfl, h1, h2⟩ := tr_tupE h
      exact clos_tup (closL_of fun x hx => tr_clos (h2 x hx))
    | lst xs => cases k <;> cases h
    | scr xs => cases k <;> cases h
    | obj xs => cases k <;> cases h
theorem tr_da {L : Nat} : ∀ {k : Nat} {d : D}, trB L k d = true → ∃ p, Da k d p
  | k, d, h => by
    cases d with
    | non => exact ⟨_, .non⟩
    | bl b => exact ⟨_, .bl⟩
    | int b => exact ⟨_, .int⟩
    | str b => exact ⟨.str b, rfl, by cases k <;> exact h, Nat.zero_le _⟩
    | tup xs =>
      obtain ⟨k2, rfl, h1, h2⟩ := tr_tupE h
      obtain ⟨ps, hp⟩ := DaL.all fun x hx => tr_da (h2 x hx)
      exact ⟨_, hp.tup⟩
    | lst xs => cases k <;> cases h
    | scr xs => cases k <;> cases h
    | obj xs => cases k <;> cases h
theorem tr_int {L k : Nat} {i : Int} : trB L k (.int i) = true ↔ i.natAbs < 9223372036854775808 := by
  cases k <;> exact decide_eq_true_iff
theorem tr_cases {L k : Nat} {d : D} (h : trB L k d = true) : d = .non ∨ (∃ b, d = .bl b) ∨ (∃ i, d = .int i) ∨ (∃ x, d = .str x) ∨ ∃ xs, d = .tup xs := by
  cases d with
  | non => exact .inl rfl
  | bl b => exact .inr (.inl ⟨_, rfl⟩)
  | int b => exact .inr (.inr (.inl ⟨_, rfl⟩))
  | str b => exact .inr (.inr (.inr (.inl ⟨_, rfl⟩)))
  | tup xs => exact .inr (.inr (.inr (.inr ⟨_, rfl⟩)))
  | lst xs => cases k <;> cases h
  | scr xs => cases k <;> cases h
  | obj xs => cases k <;> cases h
theorem tr_obj {L k : Nat} {d : D} (h : trB L k d = true) : isObj d = false := by
  rcases tr_cases h with z | ⟨_, z⟩ | ⟨_, z⟩ | ⟨_, z⟩ | ⟨_, z⟩ <;> subst z <;> rfl
theorem tr_dQ {L k : Nat} {q : Rat} (hL : 2 ≤ L) (h : Sm 63 q) : trB L (k + 1) (dQ q) = true := by
  refine tr_tup hL fun x hx => ?_
  simp only [List.mem_cons, List.not_mem_nil, or_false] at hx
  have h1 := h.num
  have h2 := h.den
  unfold DL.Bt at h1 h2
  rcases hx with z | z <;> subst z
  · exact tr_int.mpr h1
  · exact tr_int.mpr h2
theorem tr_dT {L k m : Nat} {f : Nat → Rat} (hL : 2 ≤ L) (hm : m ≤ L) (h : ∀ i, i < m → Sm 63 (f i)) : trB L (k + 2) (dT m f) = true := by
  refine tr_tup (by simpa using hm) fun x hx => ?_
  obtain ⟨i, hi, rfl⟩ := rg_mem.mp hx
  exact tr_dQ hL (h i hi)
theorem tr_dM {L k m n : Nat} {f : Nat → Nat → Rat} (hL : 2 ≤ L) (hm : m ≤ L) (hn : n ≤ L) (h : ∀ i j, i < m → j < n → Sm 63 (f i j)) : trB L (k + 3) (dM m n f) = true := by
  refine tr_tup (by simpa using hm) fun x hx => ?_
  obtain ⟨i, hi, rfl⟩ := rg_mem.mp hx
  exact tr_dT hL hn fun j hj => h i j hi hj
/-- the fraction that a value is -/
noncomputable def frq : D → Option Rat
  | .tup [.int a, .int b] => if 0 < b ∧ Int.gcd a b = 1 then some ((a : Rat) / (b : Rat)) else none
  | _ => none
theorem frq_pair {a b : Int} : frq (.tup [.int a, .int b]) = if 0 < b ∧ Int.gcd a b = 1 then some ((a : Rat) / (b : Rat)) else none := rfl
theorem low_self {a b : Int} (hb : 0 < b) (hg : Int.gcd a b = 1) : ((a : Rat) / (b : Rat)).num = a ∧ (((a : Rat) / (b : Rat)).den : Int) = b := by
  have e1 := low_num a b hb
  have e2 := low_den a b hb
  rw [hg] at e1 e2
  rw [e1, e2]
  constructor <;> simp
theorem frq_some {d : D} {q : Rat} (h : frq d = some q) : d = dQ q := by
  unfold frq at h
  split at h
  · rename_i a b
    split at h
    · rename_i hc
      cases h
      obtain ⟨h1, h2⟩ := low_self hc.1 hc.2
      exact dQ_of h1 h2
    · cases h
  · cases h
theorem frq_dQ {q : Rat} : frq (dQ q) = some q := by
  unfold dQ frq
  have hg : Int.gcd q.num (q.den : Int) = 1 := by
    have := q.reduced
    unfold Nat.Coprime at this
    simpa [Int.gcd] using this
  show (if 0 < (q.den : Int) ∧ Int.gcd q.num (q.den : Int) = 1 then some ((q.num : Rat) / ((q.den : Int) : Rat)) else none) = some q
  rw [if_pos ⟨den_posI q, hg⟩]
  rw [num_den]
theorem frq_sm {L k : Nat} {d : D} {q : Rat} (h : frq d = some q) (ht : trB L k d = true) : Sm 63 q := by
  have e := frq_some h
  subst e
  obtain ⟨j, rfl, _, h2⟩ := tr_tupE ht
  exact ⟨tr_int.mp (h2 (.int q.num) (by simp)), tr_int.mp (h2 (.int (q.den : Int)) (by simp))⟩
noncomputable def rowB (n : Nat) : D → Bool
  | .tup xs => decide (xs.length = n) && xs.all fun x => (frq x).isSome
  | _ => false
noncomputable def tabB (m n : Nat) : D → Bool
  | .tup xs => decide (xs.length = m) && xs.all (rowB n)
  | _ => false
noncomputable def frv (d : D) (i : Nat) : Rat := match d with | .tup xs => (frq (xs.getD i .non)).getD 0 | _ => 0
noncomputable def tabv (d : D) (i : Nat) : Nat → Rat := match d with | .tup xs => frv (xs.getD i .non) | _ => fun _ => 0
theorem rowB_eq {n : Nat} {d : D} (h : rowB n d = true) : d = dT n (frv d) := by
  cases d <;> try cases h
  rename_i xs
  have h : (decide (xs.length = n) && xs.all fun x => (frq x).isSome) = true := h
  rw [Bool.and_eq_true, decide_eq_true_eq, List.all_eq_true] at h
  obtain ⟨h1, h2⟩ := h
  unfold dT tF
  congr 1
  refine List.ext_getElem (by simpa using h1) fun i a b => ?_
  have hs := h2 xs[i] (List.getElem_mem a)
  obtain ⟨q, hq⟩ := Option.isSome_iff_exists.mp hs
  have e : (frv (.tup xs) i) = q := by
    unfold frv
    simp [a, hq]
  have : xs[i] = dQ q := frq_some hq
  simp only [rg, List.getElem_map, List.getElem_range]
  rw [e, this]
theorem tabB_eq {m n : Nat} {d : D} (h : tabB m n d = true) : d = dM m n (tabv d) := by
  cases d <;> try cases h
  rename_i xs
  have h : (decide (xs.length = m) && xs.all (rowB n)) = true := h
  rw [Bool.and_eq_true, decide_eq_true_eq, List.all_eq_true] at h
  obtain ⟨h1, h2⟩ := h
  unfold dM tF
  congr 1
  refine List.ext_getElem (by simpa using h1) fun i a b => ?_
  have hs := h2 xs[i] (List.getElem_mem a)
  have e : tabv (.tup xs) i = frv xs[i] := by
    unfold tabv
    simp [a]
  simp only [rg, List.getElem_map, List.getElem_range]
  rw [e]
  exact rowB_eq hs
theorem rowB_dT {n : Nat} {f : Nat → Rat} : rowB n (dT n f) = true := by
  show (decide ((rg n fun i => dQ (f i)).length = n) && (rg n fun i => dQ (f i)).all fun x => (frq x).isSome) = true
  rw [rg_len, decide_eq_true rfl, Bool.true_and, List.all_eq_true]
  intro x hx
  obtain ⟨i, _, rfl⟩ := rg_mem.mp hx
  rw [frq_dQ]
  rfl
theorem tab_sm {L k m n : Nat} {d : D} (h : tabB m n d = true) (ht : trB L k d = true) : ∀ i j, i < m → j < n → Sm 63 (tabv d i j) := fun i j hi hj => by
  rw [tabB_eq h] at ht
  obtain ⟨k1, rfl, _, h2⟩ := tr_tupE ht
  obtain ⟨k2, rfl, _, h4⟩ := tr_tupE (h2 (dT n (tabv d i)) (rg_mem.mpr ⟨i, hi, rfl⟩))
  exact frq_sm frq_dQ (h4 (dQ (tabv d i j)) (rg_mem.mpr ⟨j, hj, rfl⟩))
theorem any_all {α : Type} {p : α → Bool} : ∀ xs : List α, (if xs.any (fun x => p x == false) then false else !false) = xs.all p
  | [] => rfl
  | x :: xs => by
    have ih := any_all (p := p) xs
    rw [List.any_cons, List.all_cons, ← ih]
    cases p x <;> simp
theorem fEq_pair (q : Rat) (a b : Int) {S : Sto} : fEq (dQ q) (.tup [.int a, .int b]) S = some (.bl (decide (q.num = a ∧ (q.den : Int) = b))) := by
  rw [fEq_da (n := 1) (m := 1) Da.dQ (DaL.tup (.cons .int (.cons .int .nil)))]
  congr 2
  rw [Bool.eq_iff_iff]
  simp [PyData.eqv, PyData.eqvAll]
def isI : D → Bool
  | .int _ => true
  | _ => false
theorem F_whole {L k : Nat} {d : D} (h : trB L k d = true) (S : Sto) : F_is_whole [d] S = some (.bl (isI d), S) := by
  apply wF_of
  unfold F_is_whole t_is_whole
  refine wF_fn rfl ?_
  cases d with
  | non => walk_at "u"; exact wFin_P0 rfl rfl ⟨rfl, rfl⟩
  | bl b => walk_at "u"; exact wFin_P0 rfl rfl ⟨rfl, rfl⟩
  | int b => walk_at "u"; exact wFin_P0 rfl rfl ⟨rfl, rfl⟩
  | str b => walk_at "u"; exact wFin_P0 rfl rfl ⟨rfl, rfl⟩
  | tup b => walk_at "u"; exact wFin_P0 rfl rfl ⟨rfl, rfl⟩
  | lst b => cases k <;> cases h
  | scr b => cases k <;> cases h
  | obj b => cases k <;> cases h
theorem F_brk {L k : Nat} {d : D} (h : trB L k d = true) (S : Sto) : F_is_broken [d] S = some (.bl (frq d).isSome, S) := by
  apply wF_of
  unfold F_is_broken t_is_broken
  refine wF_fn rfl ?_
  refine wS_seq ?_
  cases d with
  | non => walk_at "u"; exact wFin_P0 rfl rfl ⟨rfl, rfl⟩
  | bl b => walk_at "u"; exact wFin_P0 rfl rfl ⟨rfl, rfl⟩
  | int b => walk_at "u"; exact wFin_P0 rfl rfl ⟨rfl, rfl⟩
  | str b => walk_at "u"; exact wFin_P0 rfl rfl ⟨rfl, rfl⟩
  | lst b => cases k <;> cases h
  | scr b => cases k <;> cases h
  | obj b => cases k <;> cases h
  | tup xs =>
    obtain ⟨k, rfl, _, hx⟩ := tr_tupE h
    walk_at "u"
    refine wF_len (xs := xs) rfl ?_
    walk_at "u"
    match xs, hx with
    | [], hx =>
      rw [decide_eq_false (by simp)]
      walk_at "u"
      exact wFin_P0 rfl rfl ⟨rfl, rfl⟩
    | [x], hx =>
      rw [decide_eq_false (by simp)]
      walk_at "u"
      exact wFin_P0 rfl rfl ⟨by cases x <;> rfl, rfl⟩
    | x :: y :: z :: r, hx =>
      rw [decide_eq_false (by simp; omega)]
      walk_at "u"
      refine wFin_P0 rfl rfl ⟨?_, rfl⟩
      cases x <;> cases y <;> rfl
    | [x, y], hx =>
      rw [decide_eq_true (by simp)]
      walk_at "u"
      refine wS_seq ?_
      walk_at "u"
      refine wF_eq (F_whole (hx x (by simp)) _) ?_
      walk_at "u"
      refine ⟨fun hc => ?_, fun hc => ?_⟩
      · walk_at "u"
        refine wFin_P0 rfl rfl ⟨?_, rfl⟩
        cases x <;> first | rfl | cases hc
      · refine wT_not (wT_tru (wE_A (wA_cons (wE_v rfl (wA_nil (wF_eq (F_whole (hx y (by simp)) _) ?_))))))
        walk_at "u"
        refine ⟨fun hc2 => ?_, fun hc2 => ?_⟩
        · walk_at "u"
          refine wFin_P0 rfl rfl ⟨?_, rfl⟩
          cases x <;> cases y <;> first | rfl | cases hc2
        · obtain ⟨a, rfl⟩ : ∃ a, x = .int a := by cases x <;> first | exact ⟨_, rfl⟩ | cases hc
          obtain ⟨b, rfl⟩ : ∃ b, y = .int b := by cases y <;> first | exact ⟨_, rfl⟩ | cases hc2
          walk_at "u"
          refine ⟨fun h1 => ?_, fun h1 => ?_⟩
          · have hb : 0 < b := by have := of_decide_eq_true h1; omega
            walk_at "u"
            refine wF_eq (F_cp _ _ _) ?_
            walk_at "u"
            refine wFin_P0 rfl rfl ⟨?_, rfl⟩
            rw [frq_pair]
            by_cases hg : Int.gcd a b = 1
            · rw [if_pos ⟨hb, hg⟩, hg]; rfl
            · rw [if_neg (fun h => hg h.2), decide_eq_false (fun h => hg (by omega))]; rfl
          · have hb : ¬ 0 < b := by have := of_decide_eq_false h1; omega
            refine wFin_P0 rfl rfl ⟨?_, rfl⟩
            rw [frq_pair, if_neg (fun h => hb h.1)]
            rfl
theorem rs_flatn {b : Nat} {f : Nat → Rat} : ∀ {a : Nat}, rs f (a * b) = rs (fun s => rs (fun j => f (s * b + j)) b) a
  | 0 => by rw [Nat.zero_mul]; rfl
  | a + 1 => by
    have key : ∀ k, rs f (a * b + k) = rs f (a * b) + rs (fun j => f (a * b + j)) k := fun k => by
      induction k with
      | zero => show rs f (a * b) = rs f (a * b) + 0; rw [Rat.add_zero]
      | succ k ih =>
        show rs f (a * b + k) + f (a * b + k) = rs f (a * b) + (rs (fun j => f (a * b + j)) k + f (a * b + k))
        rw [ih]
        grind
    rw [Nat.add_mul, Nat.one_mul, key, rs_flatn (a := a)]
    rfl
theorem Sm.rsn {N : Nat} {f : Nat → Rat} : ∀ {m : Nat}, (∀ i, i < m → Sm N (f i)) → Sm (m * (N + 1) + 1) (rs f m)
  | 0, _ => .zero (by omega)
  | m + 1, h => by
    have := (Sm.rsn (m := m) fun i hi => h i (by omega)).add (h m (by omega))
    exact this.mono (by rw [Nat.add_mul, Nat.one_mul]; omega)
theorem Sm.rs2000 {N m i : Nat} {f : Nat → Rat} (h : ∀ i, i < m → Sm N (f i)) (hi : i ≤ m) (hN : N ≤ 90) (hm : m ≤ 16) : Sm 2000 (rs f i) :=
  (Sm.rsn (m := i) fun k hk => h k (by omega)).mono (by
    have : i * (N + 1) ≤ 16 * 91 := Nat.mul_le_mul (by omega) (by omega)
    omega)
noncomputable def rowV (n : Nat) (d : D) : Bool := rowB n d && decide ((∀ j, j < n → 0 ≤ frv d j) ∧ rs (frv d) n = 1)
noncomputable def badV (d : D) : Bool := match frq d with | some q => decide (q.num < 0) | none => true
theorem bad_rg {n : Nat} {f : Nat → Rat} : ((rg n fun j => dQ (f j)).filter badV).isEmpty = decide (∀ j, j < n → 0 ≤ f j) := by
  by_cases h : ∀ j, j < n → 0 ≤ f j
  · rw [decide_eq_true h, List.isEmpty_iff, List.filter_eq_nil_iff]
    intro x hx
    obtain ⟨j, hj, rfl⟩ := rg_mem.mp hx
    unfold badV
    rw [frq_dQ]
    have := Rat.num_nonneg.mpr (h j hj)
    simp only [decide_eq_true_eq]
    omega
  · rw [decide_eq_false h]
    refine Bool.eq_false_iff.mpr fun hc => h fun j hj => ?_
    rw [List.isEmpty_iff, List.filter_eq_nil_iff] at hc
    have := hc (dQ (f j)) (rg_mem.mpr ⟨j, hj, rfl⟩)
    unfold badV at this
    rw [frq_dQ] at this
    simp only [decide_eq_true_eq] at this
    exact Rat.num_nonneg.mp (by omega)
theorem bad_none {xs : List D} (h : (xs.filter badV).isEmpty = true) : xs.all (fun x => (frq x).isSome) = true := by
  rw [List.isEmpty_iff, List.filter_eq_nil_iff] at h
  rw [List.all_eq_true]
  intro x hx
  have := h x hx
  unfold badV at this
  cases hq : frq x with
  | none => rw [hq] at this; exact absurd rfl this
  | some q => rfl
end LW

set_option maxRecDepth 100000
set_option maxHeartbeats 4000000
namespace LW
open PySem DL PL
open Classical
local macro_rules | `(tactic| walk_at "env") => `(tactic| (simp only [startD, List.map_cons, List.map_nil, List.length_cons, List.length_nil, Nat.reduceAdd, Nat.reduceSub, List.replicate, List.cons_append, List.nil_append, wipeD, List.set]; try rfl))
local macro_rules | `(tactic| walk_at "sto") => `(tactic| (simp only [List.cons_append, List.nil_append, List.set, List.set_cons_zero, List.set_cons_succ, Int.toNat_natCast, Int.reduceToNat]; try rfl))
local macro_rules | `(tactic| walk_at "if") => `(tactic| (refine ⟨fun hc => ?_, fun hc => ?_⟩ <;> simp only [decide_eq_true_eq, decide_eq_false_iff_not, Bool.not_eq_true', Bool.not_eq_false', bne_iff_ne, ne_eq, beq_iff_eq] at hc <;> try (exfalso; first | assumption | omega | (simp at hc; done))))
local macro_rules | `(tactic| walk_at "side") => `(tactic| first | assumption | omega | decide | (simp; done) | (simp; omega))
local macro_rules | `(tactic| walk_at "mul") => `(tactic| first | assumption | exact mul_sm (by first | decide | omega) | exact mul_sm' (by first | decide | omega))
local macro_rules | `(tactic| walk_at "div") => `(tactic| first | assumption | exact div_sm (by omega) (by omega))
local macro_rules | `(tactic| walk_at "w1") => `(tactic| first
  | (guard_target = wS _ (List.set _ _ _) _ _ _; refine wS_env (by walk_at "env") ?_)
  | (guard_target = wE _ (List.set _ _ _) _ _; refine wE_env (by walk_at "env") ?_)
  | (guard_target = wG _ _ (wipeD _ _) _ _; refine wG_env (by walk_at "env") ?_)
  | (guard_target = wS _ (startD _ _) _ _ _; refine wS_env (by walk_at "env") ?_)
  | (guard_target = wS (sSeq (sSet _ _) _) _ _ _ _; refine wS_seq ?_)
  | (guard_target = wS (sSeq (sAsg _ _) _) _ _ _ _; refine wS_seq ?_)
  | (guard_target = wS (sSeq (sExpr _) _) _ _ _ _; refine wS_seq ?_)
  | (guard_target = wS (sSeq (sPar _ _ _) _) _ _ _ _; refine wS_seq ?_)
  | (guard_target = wS (sSeq (sPar3 _ _ _ _) _) _ _ _ _; refine wS_seq ?_)
  | (guard_target = wS (sSeq (sAug _ _ _) _) _ _ _ _; refine wS_seq ?_)
  | (guard_target = wS (sSeq (sSeq _ _) _) _ _ _ _; refine wS_seq ?_)
  | (guard_target = wS _ _ (List.set _ _ _) _ _; refine wS_sto (by walk_at "sto") ?_)
  | (guard_target = wE _ _ (List.set _ _ _) _; refine wE_sto (by walk_at "sto") ?_)
  | (guard_target = wG (gIx _ _) _ _ _ _; refine wG_ix2 ?_)
  | (guard_target = ∃ (_ : Nat) (_ : Int) (_ : Nat) (_ : List D), _; refine ⟨_, _, _, _, rfl, rfl, rfl, rfl, ?_⟩)
  | (guard_target = wS (sSet _ _) _ _ _ _; refine wS_set ?_)
  | (guard_target = wS (sRet _) _ _ _ _; refine wS_ret ?_)
  | (guard_target = wS (sExpr _) _ _ _ _; refine wS_expr ?_)
  | (guard_target = wS sPass _ _ _ _; refine wS_pass ?_)
  | (guard_target = wS sBreak _ _ _ _; refine wS_break ?_)
  | (guard_target = wS sCont _ _ _ _; refine wS_cont ?_)
  | (guard_target = wS (sIf _ _ _) _ _ _ _; refine wS_if ?_)
  | (guard_target = wS (sAsg _ _) _ _ _ _; refine wS_asg ?_)
  | (guard_target = wS (sPar _ _ _) _ _ _ _; refine wS_par ?_)
  | (guard_target = wS (sPar3 _ _ _ _) _ _ _ _; refine wS_par3 ?_)
  | (guard_target = wS (sAug _ _ _) _ _ _ _; refine wS_aug rfl ?_)
  | (guard_target = wE (eV _) _ _ _; refine wE_v rfl ?_)
  | (guard_target = wE (eC _) _ _ _; refine wE_c ?_)
  | (guard_target = wE (e1 _ _) _ _ _; refine wE_1 ?_)
  | (guard_target = wE (e2 _ _ _) _ _ _; refine wE_2 ?_)
  | (guard_target = wE (e2s _ _ _) _ _ _; refine wE_2s ?_)
  | (guard_target = wE (eA _ _) _ _ _; refine wE_A ?_)
  | (guard_target = wA (aCons _ _) _ _ _; refine wA_cons ?_)
  | (guard_target = wA aNil _ _ _; refine wA_nil ?_)
  | (guard_target = wE (eM _ _ _) _ _ _; refine wE_M ?_)
  | (guard_target = wE (eAnd _ _) _ _ _; refine wE_and ?_)
  | (guard_target = wE (eOr _ _) _ _ _; refine wE_or ?_)
  | (guard_target = wE (eIf _ _ _) _ _ _; refine wE_if ?_)
  | (guard_target = wE (eChain _ _ _ _ _) _ _ _; refine wE_chain ?_)
  | (guard_target = wE (eLc _ _ _ tYesD _ _) _ _ _; refine wE_lcR ?_)
  | (guard_target = wE (eLc2 _ _ _ tYesD _ _ tYesD _ _ _) _ _ _; refine wE_lc2R ?_)
  | (guard_target = wE (eBl _) _ _ _; refine wE_bl ?_)
  | (guard_target = wE (eSl _ _ _ _) _ _ _; refine wE_sl ?_)
  | (guard_target = wE (eSlS _ _ _ _) _ _ _; refine wE_slS ?_)
  | (guard_target = wO oNo _ _ _; refine wO_no ?_)
  | (guard_target = wO (oSome _) _ _ _; refine wO_some ?_)
  | (guard_target = ∃ _ : Int, _; refine ⟨_, rfl, ?_⟩)
  | (guard_target = wSl _ (.tup _) _ _ _ _; refine wSl_tup ?_)
  | (guard_target = wSl _ (.lst _) _ _ _ _; refine wSl_lst ?_)
  | (guard_target = wSl _ (.scr _) _ _ _ _; refine wSl_scr ?_)
  | (guard_target = wT (tBl _) _ _ _; refine wT_bl ?_)
  | (guard_target = wT (tTru _) _ _ _; refine wT_tru ?_)
  | (guard_target = wT (tNotD _) _ _ _; refine wT_not ?_)
  | (guard_target = wT (tAndD _ _) _ _ _; refine wT_and ?_)
  | (guard_target = wT (tOrD _ _) _ _ _; refine wT_or ?_)
  | (guard_target = wT (tIfD _ _ _) _ _ _; refine wT_if ?_)
  | (guard_target = wT tYesD _ _ _; refine wT_yes ?_)
  | (guard_target = wT (tGenQ _ _ _ tYesD _ _) _ _ _; refine wT_genR ?_)
  | (guard_target = wT (tGenQ2 _ _ _ tYesD _ _ tYesD _ _ _) _ _ _; refine wT_gen2R ?_)
  | (guard_target = wI (iSeq _) _ _ _; refine wI_seqR ?_)
  | (guard_target = wI (iRange1 _) _ _ _; refine wI_rangeR ?_)
  | (guard_target = wI (iRange2 _ _) _ _ _; refine wI_range2R ?_)
  | (guard_target = wI (iZip (aCons _ (aCons _ aNil))) _ _ _; refine wI_zipR ?_)
  | (guard_target = wI (iEnum (aCons _ aNil)) _ _ _; refine wI_enumR ?_)
  | (guard_target = wG (gNm _) _ _ _ _; refine wG_nm ?_)
  | (guard_target = wG (gTp _ _) (.lst _) _ _ _; refine wG_tpL rfl ?_)
  | (guard_target = wG (gTp _ _) _ _ _ _; refine wG_tp rfl ?_)
  | (guard_target = wGs (gsCons _ _) _ _ _ _; refine wGs_cons ?_)
  | (guard_target = wGs gsNil _ _ _ _; refine wGs_nil ?_)
  | (guard_target = w2 fAdd _ _ _ _; refine w2_add ?_)
  | (guard_target = w2 fSub _ _ _ _; refine w2_sub ?_)
  | (guard_target = w2 fMul _ _ _ _; refine w2_mul (by walk_at "mul") ?_)
  | (guard_target = w2 fDiv _ _ _ _; refine w2_div (by walk_at "div") ?_)
  | (guard_target = w2 fMod _ _ _ _; refine w2_mod (by walk_at "side") ?_)
  | (guard_target = w2 (fCmp _) _ _ _ _; refine w2_cmp ?_)
  | (guard_target = w2 fEq (.int _) (.int _) _ _; refine w2_eqI ?_)
  | (guard_target = w2 fNe (.int _) (.int _) _ _; refine w2_neI ?_)
  | (guard_target = w2 fIx _ (.int _) _ _; refine w2_eq rfl ?_)
  | (guard_target = w2 fIx _ (.int 0) _ _; refine w2_ix0 rfl (by walk_at "side") ?_)
  | (guard_target = w2 fIx _ (.int (Nat.cast _)) _ _; refine w2_ixR rfl (by walk_at "side") ?_)
  | (guard_target = w2s (fPlus _) (.int _) (.int _) _ _; refine w2s_plusI ?_)
  | (guard_target = w2s (fTimes _) (.int _) (.int _) _ _; refine w2s_timesI (by walk_at "mul") ?_)
  | (guard_target = w2 fPow (.int _) (.int _) _ _; refine w2_pow (by decide) (by decide) (by decide) ?_)
  | (guard_target = w2 fIsB _ _ _ _; refine w2_eq rfl ?_)
  | (guard_target = w2 fNotB _ _ _ _; refine w2_eq rfl ?_)
  | (guard_target = w2 fIsN _ _ _ _; refine w2_eq rfl ?_)
  | (guard_target = w2 fNotN _ _ _ _; refine w2_eq rfl ?_)
  | (guard_target = w1 _ _ _ _; refine w1_eq rfl ?_)
  | (guard_target = wTru _ _ _; refine wTru_eq rfl ?_)
  | (guard_target = wF fTup _ _ _; refine wF_tup (by walk_at "side") ?_)
  | (guard_target = wF fLst _ _ _; refine wF_lst (by walk_at "side") ?_)
  | (guard_target = wF fObj _ _ _; refine wF_obj (by walk_at "side") ?_)
  | (guard_target = wF fLen [dQ _] _ _; refine wF_len2 ?_)
  | (guard_target = wF fLen _ _ _; refine wF_lenR rfl ?_)
  | (guard_target = wF fAbs _ _ _; refine wF_abs ?_)
  | (guard_target = wF fInt1 [.int _] _ _; refine wF_int ?_)
  | (guard_target = wF fInt1 [.bl _] _ _; refine wF_intB ?_)
  | (guard_target = wF fListF _ _ _; refine wF_listF rfl ?_)
  | (guard_target = wF fListO _ _ _; refine wF_listO rfl ?_)
  | (guard_target = wF fTupOf _ _ _; refine wF_tupOf rfl ?_)
  | (guard_target = wF fSum _ _ _; refine wF_sumR rfl ?_)
  | (guard_target = wF fMax2 _ _ _; refine wF_max2 ?_)
  | (guard_target = wF fMin2 _ _ _; refine wF_min2 ?_)
  | (guard_target = (false = true → _) ∧ _; refine ⟨fun h => (nomatch h), fun _ => ?_⟩)
  | (guard_target = (true = true → _) ∧ _; refine ⟨fun _ => ?_, fun h => (nomatch h)⟩)
  | (guard_target = ((!false) = true → _) ∧ _; refine ⟨fun _ => ?_, fun h => (nomatch h)⟩)
  | (guard_target = ((!true) = true → _) ∧ _; refine ⟨fun h => (nomatch h), fun _ => ?_⟩)
  | (guard_target = (isNon _ = true → _) ∧ _; first | refine ⟨fun h => absurd h Bool.false_ne_true, fun _ => ?_⟩ | refine ⟨fun _ => ?_, fun h => absurd h.symm Bool.false_ne_true⟩)
  | (guard_target = ((!isNon _) = true → _) ∧ _; first | refine ⟨fun h => absurd h Bool.false_ne_true, fun _ => ?_⟩ | refine ⟨fun _ => ?_, fun h => absurd h.symm Bool.false_ne_true⟩)
  | (guard_target = (_ = true → _) ∧ (_ = false → _); first | refine ⟨fun h => absurd h (by decide), fun _ => ?_⟩ | refine ⟨fun _ => ?_, fun h => absurd h (by decide)⟩)
  | (guard_target = (_ = _) ∧ _; refine ⟨rfl, ?_⟩)
  | (guard_target = _ ∧ (_ = _); refine ⟨?_, rfl⟩)
  | (guard_target = True ∧ _; refine ⟨trivial, ?_⟩)
  | (guard_target = ∃ _ : Bool, _; refine ⟨_, rfl, ?_⟩)
  | (guard_target = ∃ (_ _ : D), _; refine ⟨_, _, rfl, ?_⟩)
  | (guard_target = ∃ (_ _ _ : D), _; refine ⟨_, _, _, rfl, ?_⟩)
  | rfl)
local macro_rules | `(tactic| walk_at "w") => `(tactic| repeat' (walk_at "w1"))
local macro_rules | `(tactic| walk_at "v") => `(tactic| repeat' ((fail_if_success (guard_target = wE (eLc _ _ _ _ _ _) _ _ _)); walk_at "w1"))
local macro_rules | `(tactic| walk_at "g") => `(tactic| (repeat' (first
  | (guard_target = wG (gNm _) _ _ _ _; refine wG_nm ?_)
  | (guard_target = wG (gTp _ _) _ _ _ _; refine wG_tp rfl ?_)
  | (guard_target = wGs (gsCons _ _) _ _ _ _; refine wGs_cons ?_)
  | (guard_target = wGs gsNil _ _ _ _; refine wGs_nil ?_)
  | (guard_target = wS _ (List.set _ _ _) _ _ _; refine wS_env (by walk_at "env") ?_)
  | (guard_target = wE _ (List.set _ _ _) _ _; refine wE_env (by walk_at "env") ?_))))
local macro_rules | `(tactic| walk_at "u") => `(tactic| repeat' ((fail_if_success (guard_target = wE (eLc _ _ _ _ _ _) _ _ _)); (fail_if_success (guard_target = wE (eLc2 _ _ _ _ _ _ _ _ _ _) _ _ _)); (fail_if_success (guard_target = wT (tGenQ _ _ _ _ _ _) _ _ _)); (fail_if_success (guard_target = wT (tGenQ2 _ _ _ _ _ _ _ _ _ _) _ _ _)); walk_at "w1"))
theorem E_div {a b n : Nat} (hn : b < 2 ^ n) (h9 : n ≤ 5000) (S : Sto) : F__law_divisor [.int (a : Int), .int (b : Int)] S = some (.int (Nat.gcd a b : Nat), S) := by
  apply wF_of
  unfold F__law_divisor t__law_divisor
  refine wF_fn rfl ?_
  refine wS_cut (fun ρ S' => S' = S ∧ ∃ t y, ρ = [some (.int (Nat.gcd a b : Nat)), y, t]) ?_ ?_
  · refine wS_forR (fun k ρ S' => S' = S ∧ ∃ (t : Option D) (x y : Nat), Nat.gcd x y = Nat.gcd a b ∧ Eu (10000 - k) x y ∧ ρ = [some (.int (x : Nat)), some (.int (y : Nat)), t]) ?_
    walk_at "w"
    refine ⟨10000, rfl, by omega, 10000, _, rfl, ⟨rfl, none, a, b, rfl, eu_le (eu_bound n _ _ hn) (by omega), rfl⟩, fun i ρ S' hi ⟨e1, t, x, y, hgcd, heu, e2⟩ => ?_, fun ρ S' ⟨e1, t, x, y, hgcd, heu, e2⟩ => ?_⟩
    · subst e1 e2
      walk_at "w"
      refine wS_seq ?_
      walk_at "w"
      walk_at "if"
      · walk_at "w"
        rename_i hc
        have : y = 0 := by omega
        subst this
        exact ⟨_, _, by rw [← hgcd, Nat.gcd_zero_right]⟩
      · rename_i hc
        walk_at "w"
        have h1 : Nat.gcd y (x % y) = Nat.gcd a b := by rw [← hgcd, Nat.gcd_comm x y, Nat.gcd_rec y x, Nat.gcd_comm]
        have h2 : Eu (10000 - (i + 1)) y (x % y) := by
          have e9 : 10000 - i = (10000 - (i + 1)) + 1 := by omega
          rw [e9] at heu
          rcases heu with z | z
          · exact absurd (by omega) hc
          · exact z
        exact ⟨_, y, x % y, h1, h2, by rw [fmod_nat]; rfl⟩
    · subst e1 e2
      have hy : y = 0 := heu
      subst hy
      exact ⟨rfl, t, _, by rw [← hgcd, Nat.gcd_zero_right]⟩
  · rintro ρ S' ⟨rfl, t, y, rfl⟩
    walk_at "w"
    exact wFin_P0 rfl rfl ⟨rfl, rfl⟩
theorem E_fraction {a : Int} {b n : Nat} (hb : 0 < b) (hn : b < 2 ^ n) (h9 : n ≤ 5000) (S : Sto) : F__law_fraction [.int a, .int (b : Int)] S = some (dQ ((a : Rat) / ((b : Int) : Rat)), S) := by
  have hbi : (0 : Int) < (b : Int) := by omega
  have hg : (0 : Int) < (Int.gcd a (b : Int) : Int) := by
    have := gcd_ne (a := a) (b := (b : Int)) (by omega)
    omega
  have hd : ∀ x : Int, L2.CDivW x (Int.gcd a (b : Int) : Int) ∨ L2.CDivN x (Int.gcd a (b : Int) : Int) := fun x => div_ok hg (gcd_bt hbi (Bt.of_nat hn)) (by omega)
  apply wF_of
  unfold F__law_fraction t__law_fraction
  refine wF_fn rfl ?_
  walk_at "w"
  refine wF_eq (E_div hn h9 _) ?_
  rw [show (Nat.gcd a.natAbs b : Nat) = Int.gcd a (b : Int) from rfl]
  walk_at "w"
  refine w2_div (hd _) ?_
  walk_at "w"
  refine w2_div (hd _) ?_
  walk_at "w"
  exact wFin_P0 rfl rfl ⟨dQ_num hbi rfl, rfl⟩
theorem den_mul {x y : Rat} {n : Nat} (hx : Sm n x) (hy : Sm n y) : (x.den : Int) * (y.den : Int) = ((x.den * y.den : Nat) : Int) ∧ x.den * y.den < 2 ^ (n + n) := by
  have e : (x.den : Int) * (y.den : Int) = ((x.den * y.den : Nat) : Int) := by push_cast; rfl
  refine ⟨e, ?_⟩
  have := hx.den.mul hy.den
  rw [e] at this
  unfold DL.Bt at this
  omega
theorem E_lproduct {x y : Rat} {n : Nat} (hx : Sm n x) (hy : Sm n y) (h9 : n ≤ 2500) (S : Sto) : F__law_product [dQ x, dQ y] S = some (dQ (x * y), S) := by
  obtain ⟨e, hb⟩ := den_mul hx hy
  apply wF_of
  unfold F__law_product t__law_product
  refine wF_fn rfl ?_
  walk_at "w"
  refine w2s_timesI (mul_ok hx.num hy.num (by omega)) ?_
  walk_at "w"
  refine w2s_timesI (mul_ok hx.den hy.den (by omega)) ?_
  walk_at "w"
  rw [e]
  refine wF_eq (E_fraction (n := n + n) (Nat.mul_pos (den_pos x) (den_pos y)) hb (by omega) _) ?_
  refine wFin_P0 rfl rfl ⟨?_, rfl⟩
  rw [← e, ← mul_eq]
theorem E_lsum2 {x y : Rat} {n : Nat} (hx : Sm n x) (hy : Sm n y) (h9 : n ≤ 2500) (S : Sto) : F__law_sum [dQ x, dQ y] S = some (dQ (x + y), S) := by
  obtain ⟨e, hb⟩ := den_mul hx hy
  apply wF_of
  unfold F__law_sum t__law_sum
  refine wF_fn rfl ?_
  walk_at "w"
  refine w2s_timesI (mul_ok hx.num hy.den (by omega)) ?_
  walk_at "w"
  refine w2s_timesI (mul_ok hy.num hx.den (by omega)) ?_
  walk_at "w"
  refine w2s_timesI (mul_ok hx.den hy.den (by omega)) ?_
  walk_at "w"
  rw [e]
  refine wF_eq (E_fraction (n := n + n) (Nat.mul_pos (den_pos x) (den_pos y)) hb (by omega) _) ?_
  refine wFin_P0 rfl rfl ⟨?_, rfl⟩
  rw [← e, ← add_eq]
theorem E_ltot {d : D} {m n : Nat} {q : Nat → Rat} {S : Sto} (hd : SeqQ S d m q) (hq : ∀ i, i < m → Sm n (q i)) (hs : ∀ i, i ≤ m → Sm n (rs q i)) (h9 : n ≤ 2500) : F__law_total [d] S = some (dQ (rs q m), S) := by
  obtain ⟨chk, hsq, hc⟩ := hd
  apply wF_of
  unfold F__law_total t__law_total
  refine wF_fn rfl ?_
  walk_at "w"
  rw [show D.tup [.int 0, .int 1] = dQ 0 from rfl]
  refine wS_seq ?_
  refine wS_forR (fun k ρ S' => S' = S ∧ ∃ t, ρ = [some d, some (dQ (rs q k)), t]) ?_
  walk_at "w"
  refine ⟨m, fun i => dQ (q i), chk, hsq, ?_⟩
  refine ⟨m, _, rfl, ⟨rfl, none, rfl⟩, fun i ρ S' hi ⟨e1, t, e2⟩ => ?_, fun ρ S' ⟨e1, t, e2⟩ => ?_⟩
  · subst e1 e2
    walk_at "w"
    refine wF_eq (E_lsum2 (hs i (by omega)) (hq i hi) h9 _) ?_
    walk_at "w"
    exact ⟨hc, rfl, _, rfl⟩
  · subst e1 e2
    walk_at "w"
    exact wFin_P0 rfl rfl ⟨rfl, rfl⟩
theorem same_int {k : Nat} {a : Int} (S : Sto) : F__law_same (k + 1) [.int a, .int a] S = some (.bl true, S) := by
  apply wF_of
  show wF (fnD 2 3 finP (t__law_same (F__law_same k))) _ _ _
  unfold t__law_same
  refine wF_fn rfl ?_
  refine wS_seq ?_
  walk_at "u"
  refine wS_seq ?_
  walk_at "u"
  refine wS_seq ?_
  walk_at "u"
  rw [decide_eq_true rfl]
  exact wFin_P0 rfl rfl ⟨rfl, rfl⟩
theorem same_tup {k : Nat} {xs : List D} (hl : xs.length ≤ 1000000) (h : ∀ x, x ∈ xs → ∀ S, F__law_same k [x, x] S = some (.bl true, S)) (S : Sto) : F__law_same (k + 1) [.tup xs, .tup xs] S = some (.bl true, S) := by
  apply wF_of
  show wF (fnD 2 3 finP (t__law_same (F__law_same k))) _ _ _
  unfold t__law_same
  refine wF_fn rfl ?_
  refine wS_seq ?_
  walk_at "u"
  refine wS_seq ?_
  walk_at "u"
  refine wS_seq ?_
  walk_at "u"
  refine wS_seq ?_
  walk_at "u"
  refine wS_seq ?_
  walk_at "u"
  refine wF_len (xs := xs) rfl ?_
  walk_at "u"
  refine wF_len (xs := xs) rfl ?_
  walk_at "u"
  rw [decide_eq_true rfl]
  walk_at "u"
  refine wS_seq ?_
  refine wS_forR (fun i ρ S' => S' = S ∧ ∃ x, ρ = [some (.tup xs), some (.tup xs), x]) ?_
  walk_at "u"
  refine wF_len (xs := xs) rfl ?_
  refine ⟨xs.length, rfl, by omega, xs.length, _, rfl, ⟨rfl, none, rfl⟩, fun i ρ S' hi ⟨e1, x, e2⟩ => ?_, fun ρ S' ⟨e1, x, e2⟩ => ?_⟩
  · subst e1 e2
    walk_at "u"
    have hx : xs[i]? = some xs[i] := List.getElem?_eq_getElem hi
    refine w2_ix rfl (atI_nat hx) ?_
    walk_at "u"
    refine w2_ix rfl (atI_nat hx) ?_
    walk_at "u"
    refine wF_eq (h _ (List.getElem_mem hi) _) ?_
    walk_at "u"
    exact ⟨_, rfl⟩
  · subst e1 e2
    walk_at "u"
    exact wFin_P0 rfl rfl ⟨rfl, rfl⟩
theorem same_dQ {k : Nat} {q : Rat} (S : Sto) : F__law_same (k + 2) [dQ q, dQ q] S = some (.bl true, S) := same_tup (k := k + 1) (xs := [.int q.num, .int (q.den : Int)]) (by simp) (fun x hx S => by
  simp only [List.mem_cons, List.not_mem_nil, or_false] at hx
  rcases hx with z | z <;> subst z <;> exact same_int S) S
theorem same_dM {k m n : Nat} {t : Nat → Nat → Rat} (hm : m ≤ 1000) (hn : n ≤ 1000) (S : Sto) : F__law_same (k + 4) [dM m n t, dM m n t] S = some (.bl true, S) :=
  same_tup (k := k + 3) (xs := rg m fun i => dT n (t i)) (by simp; omega) (fun x hx S => by
    obtain ⟨i, _, rfl⟩ := rg_mem.mp hx
    refine same_tup (k := k + 2) (xs := rg n fun j => dQ (t i j)) (by simp; omega) (fun y hy S => ?_) S
    obtain ⟨j, _, rfl⟩ := rg_mem.mp hy
    exact same_dQ S) S
theorem E_due {a b : Bool} (S : Sto) : F__law_is_due [.bl a, .bl b] S = some (.bl (a == b), S) := by
  apply wF_of
  unfold F__law_is_due t__law_is_due
  refine wF_fn rfl ?_
  cases a <;> cases b <;> walk_at "u" <;> exact wFin_P0 rfl rfl ⟨rfl, rfl⟩
theorem row_w {T S : Sto} {m : Nat} {us : List Nat} {Q : D → Sto → Prop} (h : St pf T S) (hT : Cl pf T) (hm1 : 1 ≤ m) (hm : m ≤ 1000) (hu0 : us ≠ []) (hul : us.length ≤ 1000) (hu : ∀ u ∈ us, 1 ≤ u ∧ u ∣ 12) (q : ∀ (r : Nat → Rat) S', St pf T S' → Row 12 m r → Q (dT m r) S') : wF F__law_row [.obj 0, .int (m : Int), .lst (us.map fun u : Nat => D.int (u : Int))] S Q := by
  unfold F__law_row t__law_row
  refine wF_fn rfl ?_
  walk_at "u"
  refine pick_w h hT (by simpa using hu0) (by simp; omega) (fun x hx => by obtain ⟨u, _, rfl⟩ := List.mem_map.mp hx; exact ⟨rfl, rfl⟩) fun x S1 hs1 hx => ?_
  obtain ⟨W, hW, rfl⟩ := List.mem_map.mp hx
  obtain ⟨w1, w12⟩ := hu W hW
  have wl : W ≤ 12 := Nat.le_of_dvd (by omega) w12
  walk_at "u"
  refine w2s_repL (by omega) ?_
  refine wF_objS hs1 (by simp; omega) fun hs2 => ?_
  walk_at "u"
  have e0 : (rg m fun _ => D.int 0) = (List.replicate m 0).map fun z : Nat => D.int (z : Int) := by
    refine List.ext_getElem (by simp) fun i a b => ?_
    simp [rg]
  rw [e0] at hs2 ⊢
  refine wS_seq ?_
  refine wS_forR (fun k ρ S' => ∃ (zs : List Nat) (x5 : Option D), zs.length = m ∧ zs.sum = k ∧ St pf (T ++ [.lst (zs.map fun z : Nat => D.int (z : Int))]) S' ∧ ρ = [some (.obj 0), some (.int (m : Int)), some (.lst (us.map fun u : Nat => D.int (u : Int))), some (.int (W : Int)), some (.obj (pf.n + T.length)), x5, none]) ?_
  walk_at "u"
  refine ⟨W, rfl, by omega, W, _, rfl, ⟨List.replicate m 0, none, by simp, by simp, hs2, rfl⟩, fun k ρ S' hk ⟨zs, x5, hl, hsum, hs, e⟩ => ?_, fun ρ S' ⟨zs, x5, hl, hsum, hs, e⟩ => ?_⟩
  · subst e
    have hT2 : Cl pf (T ++ [.lst (zs.map fun z : Nat => D.int (z : Int))]) := hT.push (closL_map (fun x => rfl) zs)
    refine wG_nm ?_
    refine wS_env (by walk_at "env") ?_
    refine wS_augIx ?_
    walk_at "u"
    refine ⟨_, rfl, ?_⟩
    walk_at "u"
    refine take_w hs hT2 (by omega) (by omega) fun r S3 hs3 hr => ?_
    have hr2 : r < zs.length := by omega
    refine ⟨_, _, r, _, rfl, hs3.last, by rw [List.length_map]; exact ix_nat hr2, (show (zs.map fun z : Nat => D.int (z : Int))[r]? = some (D.int ((zs.getD r 0 : Nat) : Int)) by simp [hr2]), ?_⟩
    walk_at "u"
    refine ⟨_, hs3.last, rfl, ?_⟩
    have hs4 := hs3.setLast (c' := .lst ((zs.map fun z : Nat => D.int (z : Int)).set r (.int (((zs.getD r 0 : Nat) : Int) + 1))))
    have e2 : (zs.map fun z : Nat => D.int (z : Int)).set r (.int (((zs.getD r 0 : Nat) : Int) + 1)) = (zs.set r (zs.getD r 0 + 1)).map fun z : Nat => D.int (z : Int) := by
      rw [List.map_set]
      rfl
    rw [e2] at hs4 ⊢
    exact ⟨trivial, zs.set r (zs.getD r 0 + 1), _, by rw [List.length_set]; exact hl, by rw [sum_bump zs r hr2, hsum], hs4, rfl⟩
  · subst e
    have hrow := (row_of (W := W) (by omega) hsum).mono w12
    rw [hl] at hrow
    walk_at "w"
    refine ⟨m, fun i => D.int ((zs.getD i 0 : Nat) : Int), fun S' => S'[pf.n + T.length]? = some (.lst (zs.map fun z : Nat => D.int (z : Int))), by simp only [seqC, hs.last]; rw [ints_rg, hl], ?_⟩
    refine ⟨m, _, fun i => dQ ((((zs.getD i 0 : Nat) : Int) : Rat) / (W : Rat)), rfl, hs.last, fun i hi => ?_, ?_⟩
    · walk_at "w"
      refine wF_eq (E_fraction (n := 10) (by omega) (by omega) (by omega) _) ?_
      exact ⟨rfl, rfl⟩
    · walk_at "w"
      exact wFin_M h hs hT clos_dT rfl fun S3 h3 => q _ S3 h3 hrow
theorem table_w {T S : Sto} {m n : Nat} {Q : D → Sto → Prop} (h : St pf T S) (hT : Cl pf T) (hm : m ≤ 1000) (hn1 : 1 ≤ n) (hn : n ≤ 1000) (q : ∀ (t : Nat → Nat → Rat) S', St pf T S' → (∀ i, i < m → Row 12 n (t i)) → Q (dM m n t) S') : wF F__law_table [.obj 0, .int (m : Int), .int (n : Int)] S Q := by
  unfold F__law_table t__law_table
  refine wF_fn rfl ?_
  walk_at "u"
  refine wE_lcRI (β := Nat → Rat) (fun _ S' => St pf T S') (dT n) (fun _ r => Row 12 n r) ?_
  walk_at "u"
  refine ⟨m, rfl, by omega, m, _, rfl, h, fun i S2 hi hs2 => ?_, fun t S2 hs2 ht => ?_⟩
  · walk_at "u"
    refine row_w (us := [1, 1, 2, 3, 4]) hs2 hT hn1 hn (by simp) (by simp) (by decide) fun r S3 hs3 hr => ?_
    exact ⟨r, rfl, hr, trivial, hs3⟩
  · refine wF_lst (by simp; omega) ?_
    walk_at "u"
    exact wFin_M (U := []) h (by rw [List.append_nil]; exact hs2) hT clos_dM rfl fun S3 h3 => q t S3 h3 ht
theorem row_frv {xs : List D} {P : Rat → Prop} (h : ∀ x ∈ xs, ∃ q, x = dQ q ∧ P q) : D.tup xs = dT xs.length (frv (.tup xs)) ∧ ∀ j, j < xs.length → P (frv (.tup xs) j) := by
  have e : rowB xs.length (.tup xs) = true := by
    show (decide (xs.length = xs.length) && xs.all fun x => (frq x).isSome) = true
    rw [decide_eq_true rfl, Bool.true_and, List.all_eq_true]
    intro x hx
    obtain ⟨q, rfl, _⟩ := h x hx
    rw [frq_dQ]
    rfl
  have e2 := rowB_eq e
  refine ⟨e2, fun j hj => ?_⟩
  obtain ⟨q, h1, h2⟩ := h xs[j] (List.getElem_mem hj)
  have : frv (.tup xs) j = q := by
    show (frq (xs.getD j .non)).getD 0 = q
    rw [List.getD_eq_getElem?_getD, List.getElem?_eq_getElem hj]
    show (frq xs[j]).getD 0 = q
    rw [h1, frq_dQ]
    rfl
  rw [this]
  exact h2
theorem dq_mem {n : Nat} {f : Nat → Rat} {P : Rat → Prop} (h : ∀ j, j < n → P (f j)) : ∀ x ∈ rg n fun j => dQ (f j), ∃ q, x = dQ q ∧ P q := fun x hx => by
  obtain ⟨j, hj, rfl⟩ := rg_mem.mp hx
  exact ⟨_, rfl, h j hj⟩
theorem half_dQ : D.tup [.int 1, .int 2] = dQ (1 / 2) := dQ_of (by decide +kernel) (by decide +kernel)
theorem Sm.half {n : Nat} (h : 2 ≤ n) : Sm n (1 / 2 : Rat) := (Sm.lit (n := 2) (q := 1 / 2) (by decide +kernel) (by decide +kernel)).mono h
theorem _root_.PL.In.s60 {B M n : Nat} {q : Rat} (h : PL.In B M q) (hB : 0 < B) (hB2 : B ≤ 10000) (hM : M ≤ 1000) (hn : 24 ≤ n) : Sm n q := (h.sm hB (n := 24) (by
  have : (M + 1) * B ≤ 1001 * 10000 := Nat.mul_le_mul (by omega) hB2
  omega)).mono hn
theorem telling_w {T S : Sto} {m n : Nat} {Q : D → Sto → Prop} (h : St pf T S) (hT : Cl pf T) (hm1 : 1 ≤ m) (hm : m ≤ 100) (hn1 : 1 ≤ n) (hn : n ≤ 100) (q : ∀ (n' : Nat) (t : Nat → Nat → Rat) S', St pf T S' → 1 ≤ n' → n' ≤ n + 1 → (∀ i j, i < m → j < n' → PL.In 24 1 (t i j)) → Q (dM m n' t) S') : wF F__law_telling [.obj 0, .int (m : Int), .int (n : Int)] S Q := by
  unfold F__law_telling t__law_telling
  refine wF_fn rfl ?_
  walk_at "u"
  refine wE_lcRI (β := Nat → Rat) (fun _ S' => St pf T S') (dT n) (fun _ r => Row 12 n r) ?_
  walk_at "u"
  refine ⟨m, rfl, by omega, m, _, rfl, h, fun i S2 hi hs2 => ?_, fun t S2 hs2 ht => ?_⟩
  · walk_at "u"
    refine row_w (us := [1, 2, 3, 4, 6, 12]) hs2 hT hn1 (by omega) (by simp) (by simp) (by decide) fun r S3 hs3 hr => ?_
    exact ⟨r, rfl, hr, trivial, hs3⟩
  refine wF_lst (by simp; omega) ?_
  walk_at "u"
  refine take_w hs2 hT (by omega) (by omega) fun way S3 hs3 hway => ?_
  walk_at "u"
  refine take_w hs3 hT (by omega) (by omega) fun a S4 hs4 ha => ?_
  have ha : a < n := by omega
  walk_at "u"
  have ht1 : ∀ i j, i < m → j < n → PL.In 24 1 (t i j) := fun i j hi hj => ((ht i hi).inB j hj).mono (by decide) (Nat.le_refl _)
  have mk : ∀ {r : Nat → List D} {n' : Nat}, (∀ i, i < m → (r i).length = n' ∧ ∀ x ∈ r i, ∃ q, x = dQ q ∧ PL.In 24 1 q) → (rg m fun i => D.tup (r i)) = rg m (fun i => dT n' ((fun i => frv (.tup (r i))) i)) ∧ ∀ i j, i < m → j < n' → PL.In 24 1 (frv (.tup (r i)) j) := fun {r n'} hr => by
    refine ⟨rg_congr fun i hi => ?_, fun i j hi hj => ?_⟩
    · obtain ⟨h1, h2⟩ := hr i hi
      have := (row_frv h2).1
      rw [h1] at this
      exact this
    · obtain ⟨h1, h2⟩ := hr i hi
      exact (row_frv h2).2 j (by omega)
  refine wS_cut (fun ρ S5 => ∃ (n' : Nat) (t : Nat → Nat → Rat) (x4 x7 : Option D), 1 ≤ n' ∧ n' ≤ n + 1 ∧ (∀ i j, i < m → j < n' → PL.In 24 1 (t i j)) ∧ (way ≠ 0 → n' = n ∧ ∀ i j, i < m → j < n → PL.In 12 1 (t i j)) ∧ St pf T S5 ∧ ρ = [some (.obj 0), some (.int (m : Int)), some (.int (n : Int)), some (.lst (rg m fun i => dT n' (t i))), x4, some (.int (way : Nat)), some (.int (a : Nat)), x7]) ?_ ?_
  · walk_at "u"
    walk_at "if"
    · walk_at "u"
      walk_at "if"
      · walk_at "u"
        refine wE_lcR ?_
        walk_at "u"
        refine ⟨m, fun i => dT n (t i), fun _ => True, rfl, ?_⟩
        refine ⟨m, _, fun i => .tup ((rg n fun j => dQ (t i j)).take a ++ [dQ 0] ++ (rg n fun j => dQ (t i j)).drop a), rfl, trivial, fun i hi => ?_, ?_⟩
        · walk_at "u"
          rw [show dT n (t i) = D.tup (rg n fun j => dQ (t i j)) from rfl]
          walk_at "u"
          rw [cutD_to, show D.tup [.int 0, .int 1] = dQ 0 from rfl]
          refine w2s_plusT (by simp; omega) ?_
          walk_at "u"
          rw [cutD_from]
          refine w2s_plusT (by simp; omega) ?_
          exact ⟨rfl, rfl⟩
        · refine wF_lst (by simp; omega) ?_
          have hz : ∀ i, i < m → ((rg n fun j => dQ (t i j)).take a ++ [dQ 0] ++ (rg n fun j => dQ (t i j)).drop a).length = n + 1 ∧ ∀ x ∈ (rg n fun j => dQ (t i j)).take a ++ [dQ 0] ++ (rg n fun j => dQ (t i j)).drop a, ∃ q, x = dQ q ∧ PL.In 24 1 q := fun i hi => by
            refine ⟨by simp; omega, fun x hx => ?_⟩
            rcases List.mem_append.mp hx with z | z
            · rcases List.mem_append.mp z with z | z
              · exact dq_mem (ht1 i · hi) x (List.mem_of_mem_take z)
              · exact ⟨0, List.mem_singleton.mp z, .zero⟩
            · exact dq_mem (ht1 i · hi) x (List.mem_of_mem_drop z)
          obtain ⟨e1, e2⟩ := mk hz
          rw [e1]
          exact ⟨n + 1, _, _, _, by omega, by omega, e2, fun h => absurd (by omega) h, hs4, rfl⟩
      · walk_at "u"
        exact ⟨n, t, _, _, by omega, by omega, ht1, fun _ => ⟨rfl, fun i j hi hj => (ht i hi).inB j hj⟩, hs4, rfl⟩
    · walk_at "u"
      exact ⟨n, t, _, _, by omega, by omega, ht1, fun _ => ⟨rfl, fun i j hi hj => (ht i hi).inB j hj⟩, hs4, rfl⟩
  rintro ρ S5 ⟨n1, t1, x4, x7, hn2, hn3, hb1, hb2, hs5, rfl⟩
  refine wS_cut (fun ρ S5 => ∃ (n' : Nat) (t : Nat → Nat → Rat) (x4 x7 : Option D), 1 ≤ n' ∧ n' ≤ n + 1 ∧ (∀ i j, i < m → j < n' → PL.In 24 1 (t i j)) ∧ St pf T S5 ∧ ρ = [some (.obj 0), some (.int (m : Int)), some (.int (n : Int)), some (.lst (rg m fun i => dT n' (t i))), x4, some (.int (way : Nat)), some (.int (a : Nat)), x7]) ?_ ?_
  · walk_at "u"
    walk_at "if"
    · rename_i hw1
      obtain ⟨rfl, hb3⟩ := hb2 (by omega)
      walk_at "u"
      walk_at "if"
      · walk_at "u"
        refine wE_lcR ?_
        walk_at "u"
        refine ⟨m, fun i => dT n1 (t1 i), fun _ => True, rfl, ?_⟩
        refine ⟨m, _, fun i => .tup ((rg n1 fun j => dQ (t1 i j)).take a ++ (rg 2 fun _ => dQ (t1 i a * (1 / 2))) ++ (rg n1 fun j => dQ (t1 i j)).drop (a + 1)), rfl, trivial, fun i hi => ?_, ?_⟩
        · walk_at "u"
          rw [show dT n1 (t1 i) = D.tup (rg n1 fun j => dQ (t1 i j)) from rfl]
          walk_at "u"
          rw [half_dQ]
          refine wF_eq (E_lproduct (n := 60) ((hb3 i a hi ha).s60 (by decide) (by decide) (by decide) (by decide)) (Sm.half (n := 60) (by omega)) (by omega) _) ?_
          walk_at "u"
          refine w2s_rep (m := 2) (by omega) (by omega) ?_
          walk_at "u"
          rw [cutD_to]
          refine w2s_plusT (by simp; omega) ?_
          walk_at "u"
          rw [show (a : Int) + 1 = ((a + 1 : Nat) : Int) by omega, cutD_from]
          refine w2s_plusT (by simp; omega) ?_
          exact ⟨rfl, rfl⟩
        · refine wF_lst (by simp; omega) ?_
          have hal : PL.In 2 1 (1 / 2 : Rat) := ⟨by decide +kernel, by decide +kernel, by decide +kernel⟩
          have hz : ∀ i, i < m → ((rg n1 fun j => dQ (t1 i j)).take a ++ (rg 2 fun _ => dQ (t1 i a * (1 / 2))) ++ (rg n1 fun j => dQ (t1 i j)).drop (a + 1)).length = n1 + 1 ∧ ∀ x ∈ (rg n1 fun j => dQ (t1 i j)).take a ++ (rg 2 fun _ => dQ (t1 i a * (1 / 2))) ++ (rg n1 fun j => dQ (t1 i j)).drop (a + 1), ∃ q, x = dQ q ∧ PL.In 24 1 q := fun i hi => by
            refine ⟨by simp; omega, fun x hx => ?_⟩
            rcases List.mem_append.mp hx with z | z
            · rcases List.mem_append.mp z with z | z
              · exact dq_mem (hb1 i · hi) x (List.mem_of_mem_take z)
              · obtain ⟨_, _, rfl⟩ := rg_mem.mp z
                exact ⟨_, rfl, (hb3 i a hi ha).mul (by decide) (by decide) hal⟩
            · exact dq_mem (hb1 i · hi) x (List.mem_of_mem_drop z)
          obtain ⟨e1, e2⟩ := mk hz
          rw [e1]
          exact ⟨n1 + 1, _, _, _, by omega, by omega, e2, hs5, rfl⟩
      · walk_at "u"
        exact ⟨n1, t1, _, _, by omega, by omega, hb1, hs5, rfl⟩
    · walk_at "u"
      exact ⟨n1, t1, _, _, by omega, by omega, hb1, hs5, rfl⟩
  rintro ρ S6 ⟨n2, t2, x4, x7, hn4, hn5, hb4, hs6, rfl⟩
  refine wS_cut (fun ρ S5 => ∃ (t : Nat → Nat → Rat) (x4 x7 : Option D), (∀ i j, i < m → j < n2 → PL.In 24 1 (t i j)) ∧ St pf T S5 ∧ ρ = [some (.obj 0), some (.int (m : Int)), some (.int (n : Int)), some (.lst (rg m fun i => dT n2 (t i))), x4, some (.int (way : Nat)), some (.int (a : Nat)), x7]) ?_ ?_
  · walk_at "u"
    walk_at "if"
    · walk_at "u"
      refine wE_lcRI (β := Nat → Rat) (fun _ S' => St pf T S') (dT n2) (fun _ r => ∀ j, j < n2 → PL.In 24 1 (r j)) ?_
      walk_at "u"
      refine ⟨m, rfl, by omega, m, _, rfl, hs6, fun i S7 hi hs7 => ?_, fun t' S7 hs7 ht' => ?_⟩
      · walk_at "u"
        refine take_w hs7 hT (by omega) (by omega) fun r S8 hs8 hr => ?_
        walk_at "u"
        walk_at "if"
        · walk_at "u"
          exact ⟨t2 i, rfl, fun j hj => hb4 i j hi hj, trivial, hs8⟩
        · walk_at "u"
          exact ⟨t2 0, rfl, fun j hj => hb4 0 j (by omega) hj, trivial, hs8⟩
      · refine wF_lst (by simp; omega) ?_
        exact ⟨t', _, _, fun i j hi hj => ht' i hi j hj, hs7, rfl⟩
    · walk_at "u"
      exact ⟨t2, _, _, hb4, hs6, rfl⟩
  rintro ρ S7 ⟨t3, x4, x7, hb5, hs7, rfl⟩
  walk_at "u"
  exact wFin_M (U := []) h (by rw [List.append_nil]; exact hs7) hT (clos_dM (t := t3)) rfl fun S8 h8 => q n2 t3 S8 h8 hn4 hn5 hb5
end LW

set_option maxRecDepth 100000
set_option maxHeartbeats 4000000
namespace LW
open PySem DL PL
open Classical
local macro_rules | `(tactic| walk_at "env") => `(tactic| (simp only [startD, List.map_cons, List.map_nil, List.length_cons, List.length_nil, Nat.reduceAdd, Nat.reduceSub, List.replicate, List.cons_append, List.nil_append, wipeD, List.set]; try rfl))
local macro_rules | `(tactic| walk_at "sto") => `(tactic| (simp only [List.cons_append, List.nil_append, List.set, List.set_cons_zero, List.set_cons_succ, Int.toNat_natCast, Int.reduceToNat]; try rfl))
local macro_rules | `(tactic| walk_at "if") => `(tactic| (refine ⟨fun hc => ?_, fun hc => ?_⟩ <;> simp only [decide_eq_true_eq, decide_eq_false_iff_not, Bool.not_eq_true', Bool.not_eq_false', bne_iff_ne, ne_eq, beq_iff_eq] at hc <;> try (exfalso; first | assumption | omega | (simp at hc; done))))
local macro_rules | `(tactic| walk_at "side") => `(tactic| first | assumption | omega | decide | (simp; done) | (simp; omega))
local macro_rules | `(tactic| walk_at "mul") => `(tactic| first | assumption | exact mul_sm (by first | decide | omega) | exact mul_sm' (by first | decide | omega))
local macro_rules | `(tactic| walk_at "div") => `(tactic| first | assumption | exact div_sm (by omega) (by omega))
local macro_rules | `(tactic| walk_at "w1") => `(tactic| first
  | (guard_target = wS _ (List.set _ _ _) _ _ _; refine wS_env (by walk_at "env") ?_)
  | (guard_target = wE _ (List.set _ _ _) _ _; refine wE_env (by walk_at "env") ?_)
  | (guard_target = wG _ _ (wipeD _ _) _ _; refine wG_env (by walk_at "env") ?_)
  | (guard_target = wS _ (startD _ _) _ _ _; refine wS_env (by walk_at "env") ?_)
  | (guard_target = wS (sSeq (sSet _ _) _) _ _ _ _; refine wS_seq ?_)
  | (guard_target = wS (sSeq (sAsg _ _) _) _ _ _ _; refine wS_seq ?_)
  | (guard_target = wS (sSeq (sExpr _) _) _ _ _ _; refine wS_seq ?_)
  | (guard_target = wS (sSeq (sPar _ _ _) _) _ _ _ _; refine wS_seq ?_)
  | (guard_target = wS (sSeq (sPar3 _ _ _ _) _) _ _ _ _; refine wS_seq ?_)
  | (guard_target = wS (sSeq (sAug _ _ _) _) _ _ _ _; refine wS_seq ?_)
  | (guard_target = wS (sSeq (sSeq _ _) _) _ _ _ _; refine wS_seq ?_)
  | (guard_target = wS _ _ (List.set _ _ _) _ _; refine wS_sto (by walk_at "sto") ?_)
  | (guard_target = wE _ _ (List.set _ _ _) _; refine wE_sto (by walk_at "sto") ?_)
  | (guard_target = wG (gIx _ _) _ _ _ _; refine wG_ix2 ?_)
  | (guard_target = ∃ (_ : Nat) (_ : Int) (_ : Nat) (_ : List D), _; refine ⟨_, _, _, _, rfl, rfl, rfl, rfl, ?_⟩)
  | (guard_target = wS (sSet _ _) _ _ _ _; refine wS_set ?_)
  | (guard_target = wS (sRet _) _ _ _ _; refine wS_ret ?_)
  | (guard_target = wS (sExpr _) _ _ _ _; refine wS_expr ?_)
  | (guard_target = wS sPass _ _ _ _; refine wS_pass ?_)
  | (guard_target = wS sBreak _ _ _ _; refine wS_break ?_)
  | (guard_target = wS sCont _ _ _ _; refine wS_cont ?_)
  | (guard_target = wS (sIf _ _ _) _ _ _ _; refine wS_if ?_)
  | (guard_target = wS (sAsg _ _) _ _ _ _; refine wS_asg ?_)
  | (guard_target = wS (sPar _ _ _) _ _ _ _; refine wS_par ?_)
  | (guard_target = wS (sPar3 _ _ _ _) _ _ _ _; refine wS_par3 ?_)
  | (guard_target = wS (sAug _ _ _) _ _ _ _; refine wS_aug rfl ?_)
  | (guard_target = wE (eV _) _ _ _; refine wE_v rfl ?_)
  | (guard_target = wE (eC _) _ _ _; refine wE_c ?_)
  | (guard_target = wE (e1 _ _) _ _ _; refine wE_1 ?_)
  | (guard_target = wE (e2 _ _ _) _ _ _; refine wE_2 ?_)
  | (guard_target = wE (e2s _ _ _) _ _ _; refine wE_2s ?_)
  | (guard_target = wE (eA _ _) _ _ _; refine wE_A ?_)
  | (guard_target = wA (aCons _ _) _ _ _; refine wA_cons ?_)
  | (guard_target = wA aNil _ _ _; refine wA_nil ?_)
  | (guard_target = wE (eM _ _ _) _ _ _; refine wE_M ?_)
  | (guard_target = wE (eAnd _ _) _ _ _; refine wE_and ?_)
  | (guard_target = wE (eOr _ _) _ _ _; refine wE_or ?_)
  | (guard_target = wE (eIf _ _ _) _ _ _; refine wE_if ?_)
  | (guard_target = wE (eChain _ _ _ _ _) _ _ _; refine wE_chain ?_)
  | (guard_target = wE (eLc _ _ _ tYesD _ _) _ _ _; refine wE_lcR ?_)
  | (guard_target = wE (eLc2 _ _ _ tYesD _ _ tYesD _ _ _) _ _ _; refine wE_lc2R ?_)
  | (guard_target = wE (eBl _) _ _ _; refine wE_bl ?_)
  | (guard_target = wE (eSl _ _ _ _) _ _ _; refine wE_sl ?_)
  | (guard_target = wE (eSlS _ _ _ _) _ _ _; refine wE_slS ?_)
  | (guard_target = wO oNo _ _ _; refine wO_no ?_)
  | (guard_target = wO (oSome _) _ _ _; refine wO_some ?_)
  | (guard_target = ∃ _ : Int, _; refine ⟨_, rfl, ?_⟩)
  | (guard_target = wSl _ (.tup _) _ _ _ _; refine wSl_tup ?_)
  | (guard_target = wSl _ (.lst _) _ _ _ _; refine wSl_lst ?_)
  | (guard_target = wSl _ (.scr _) _ _ _ _; refine wSl_scr ?_)
  | (guard_target = wT (tBl _) _ _ _; refine wT_bl ?_)
  | (guard_target = wT (tTru _) _ _ _; refine wT_tru ?_)
  | (guard_target = wT (tNotD _) _ _ _; refine wT_not ?_)
  | (guard_target = wT (tAndD _ _) _ _ _; refine wT_and ?_)
  | (guard_target = wT (tOrD _ _) _ _ _; refine wT_or ?_)
  | (guard_target = wT (tIfD _ _ _) _ _ _; refine wT_if ?_)
  | (guard_target = wT tYesD _ _ _; refine wT_yes ?_)
  | (guard_target = wT (tGenQ _ _ _ tYesD _ _) _ _ _; refine wT_genR ?_)
  | (guard_target = wT (tGenQ2 _ _ _ tYesD _ _ tYesD _ _ _) _ _ _; refine wT_gen2R ?_)
  | (guard_target = wI (iSeq _) _ _ _; refine wI_seqR ?_)
  | (guard_target = wI (iRange1 _) _ _ _; refine wI_rangeR ?_)
  | (guard_target = wI (iRange2 _ _) _ _ _; refine wI_range2R ?_)
  | (guard_target = wI (iZip (aCons _ (aCons _ aNil))) _ _ _; refine wI_zipR ?_)
  | (guard_target = wI (iEnum (aCons _ aNil)) _ _ _; refine wI_enumR ?_)
  | (guard_target = wG (gNm _) _ _ _ _; refine wG_nm ?_)
  | (guard_target = wG (gTp _ _) (.lst _) _ _ _; refine wG_tpL rfl ?_)
  | (guard_target = wG (gTp _ _) _ _ _ _; refine wG_tp rfl ?_)
  | (guard_target = wGs (gsCons _ _) _ _ _ _; refine wGs_cons ?_)
  | (guard_target = wGs gsNil _ _ _ _; refine wGs_nil ?_)
  | (guard_target = w2 fAdd _ _ _ _; refine w2_add ?_)
  | (guard_target = w2 fSub _ _ _ _; refine w2_sub ?_)
  | (guard_target = w2 fMul _ _ _ _; refine w2_mul (by walk_at "mul") ?_)
  | (guard_target = w2 fDiv _ _ _ _; refine w2_div (by walk_at "div") ?_)
  | (guard_target = w2 fMod _ _ _ _; refine w2_mod (by walk_at "side") ?_)
  | (guard_target = w2 (fCmp _) _ _ _ _; refine w2_cmp ?_)
  | (guard_target = w2 fEq (.int _) (.int _) _ _; refine w2_eqI ?_)
  | (guard_target = w2 fNe (.int _) (.int _) _ _; refine w2_neI ?_)
  | (guard_target = w2 fIx _ (.int _) _ _; refine w2_eq rfl ?_)
  | (guard_target = w2 fIx _ (.int 0) _ _; refine w2_ix0 rfl (by walk_at "side") ?_)
  | (guard_target = w2 fIx _ (.int (Nat.cast _)) _ _; refine w2_ixR rfl (by walk_at "side") ?_)
  | (guard_target = w2s (fPlus _) (.int _) (.int _) _ _; refine w2s_plusI ?_)
  | (guard_target = w2s (fTimes _) (.int _) (.int _) _ _; refine w2s_timesI (by walk_at "mul") ?_)
  | (guard_target = w2 fPow (.int _) (.int _) _ _; refine w2_pow (by decide) (by decide) (by decide) ?_)
  | (guard_target = w2 fIsB _ _ _ _; refine w2_eq rfl ?_)
  | (guard_target = w2 fNotB _ _ _ _; refine w2_eq rfl ?_)
  | (guard_target = w2 fIsN _ _ _ _; refine w2_eq rfl ?_)
  | (guard_target = w2 fNotN _ _ _ _; refine w2_eq rfl ?_)
  | (guard_target = w1 _ _ _ _; refine w1_eq rfl ?_)
  | (guard_target = wTru _ _ _; refine wTru_eq rfl ?_)
  | (guard_target = wF fTup _ _ _; refine wF_tup (by walk_at "side") ?_)
  | (guard_target = wF fLst _ _ _; refine wF_lst (by walk_at "side") ?_)
  | (guard_target = wF fObj _ _ _; refine wF_obj (by walk_at "side") ?_)
  | (guard_target = wF fLen [dQ _] _ _; refine wF_len2 ?_)
  | (guard_target = wF fLen _ _ _; refine wF_lenR rfl ?_)
  | (guard_target = wF fAbs _ _ _; refine wF_abs ?_)
  | (guard_target = wF fInt1 [.int _] _ _; refine wF_int ?_)
  | (guard_target = wF fInt1 [.bl _] _ _; refine wF_intB ?_)
  | (guard_target = wF fListF _ _ _; refine wF_listF rfl ?_)
  | (guard_target = wF fListO _ _ _; refine wF_listO rfl ?_)
  | (guard_target = wF fTupOf _ _ _; refine wF_tupOf rfl ?_)
  | (guard_target = wF fSum _ _ _; refine wF_sumR rfl ?_)
  | (guard_target = wF fMax2 _ _ _; refine wF_max2 ?_)
  | (guard_target = wF fMin2 _ _ _; refine wF_min2 ?_)
  | (guard_target = (false = true → _) ∧ _; refine ⟨fun h => (nomatch h), fun _ => ?_⟩)
  | (guard_target = (true = true → _) ∧ _; refine ⟨fun _ => ?_, fun h => (nomatch h)⟩)
  | (guard_target = ((!false) = true → _) ∧ _; refine ⟨fun _ => ?_, fun h => (nomatch h)⟩)
  | (guard_target = ((!true) = true → _) ∧ _; refine ⟨fun h => (nomatch h), fun _ => ?_⟩)
  | (guard_target = (isNon _ = true → _) ∧ _; first | refine ⟨fun h => absurd h Bool.false_ne_true, fun _ => ?_⟩ | refine ⟨fun _ => ?_, fun h => absurd h.symm Bool.false_ne_true⟩)
  | (guard_target = ((!isNon _) = true → _) ∧ _; first | refine ⟨fun h => absurd h Bool.false_ne_true, fun _ => ?_⟩ | refine ⟨fun _ => ?_, fun h => absurd h.symm Bool.false_ne_true⟩)
  | (guard_target = (_ = true → _) ∧ (_ = false → _); first | refine ⟨fun h => absurd h (by decide), fun _ => ?_⟩ | refine ⟨fun _ => ?_, fun h => absurd h (by decide)⟩)
  | (guard_target = (_ = _) ∧ _; refine ⟨rfl, ?_⟩)
  | (guard_target = _ ∧ (_ = _); refine ⟨?_, rfl⟩)
  | (guard_target = True ∧ _; refine ⟨trivial, ?_⟩)
  | (guard_target = ∃ _ : Bool, _; refine ⟨_, rfl, ?_⟩)
  | (guard_target = ∃ (_ _ : D), _; refine ⟨_, _, rfl, ?_⟩)
  | (guard_target = ∃ (_ _ _ : D), _; refine ⟨_, _, _, rfl, ?_⟩)
  | rfl)
local macro_rules | `(tactic| walk_at "w") => `(tactic| repeat' (walk_at "w1"))
local macro_rules | `(tactic| walk_at "v") => `(tactic| repeat' ((fail_if_success (guard_target = wE (eLc _ _ _ _ _ _) _ _ _)); walk_at "w1"))
local macro_rules | `(tactic| walk_at "g") => `(tactic| (repeat' (first
  | (guard_target = wG (gNm _) _ _ _ _; refine wG_nm ?_)
  | (guard_target = wG (gTp _ _) _ _ _ _; refine wG_tp rfl ?_)
  | (guard_target = wGs (gsCons _ _) _ _ _ _; refine wGs_cons ?_)
  | (guard_target = wGs gsNil _ _ _ _; refine wGs_nil ?_)
  | (guard_target = wS _ (List.set _ _ _) _ _ _; refine wS_env (by walk_at "env") ?_)
  | (guard_target = wE _ (List.set _ _ _) _ _; refine wE_env (by walk_at "env") ?_))))
local macro_rules | `(tactic| walk_at "u") => `(tactic| repeat' ((fail_if_success (guard_target = wE (eLc _ _ _ _ _ _) _ _ _)); (fail_if_success (guard_target = wE (eLc2 _ _ _ _ _ _ _ _ _ _) _ _ _)); (fail_if_success (guard_target = wT (tGenQ _ _ _ _ _ _) _ _ _)); (fail_if_success (guard_target = wT (tGenQ2 _ _ _ _ _ _ _ _ _ _) _ _ _)); walk_at "w1"))
noncomputable def tblV (m n : Nat) : D → Bool
  | .tup xs => decide (xs.length = m) && xs.all (rowV n)
  | _ => false
theorem F_chance {L k : Nat} {d : D} (h : trB L k d = true) (S : Sto) : F_is_chance [d] S = some (.bl (!badV d), S) := by
  apply wF_of
  unfold F_is_chance t_is_chance
  refine wF_fn rfl ?_
  walk_at "u"
  refine wF_eq (F_brk h _) ?_
  cases hq : frq d with
  | none =>
    have e : badV d = true := by unfold badV; rw [hq]
    rw [e, Option.isSome_none]
    walk_at "u"
    exact wFin_P0 rfl rfl ⟨rfl, rfl⟩
  | some q =>
    have e : badV d = decide (q.num < 0) := by unfold badV; rw [hq]
    have e2 := frq_some hq
    rw [e, Option.isSome_some]
    subst e2
    walk_at "u"
    refine wFin_P0 rfl rfl ⟨?_, rfl⟩
    congr 1
    by_cases h : q.num < 0
    · rw [decide_eq_true h, decide_eq_false (by omega)]; rfl
    · rw [decide_eq_false h, decide_eq_true (by omega)]; rfl
theorem F_chances {L k n : Nat} {d : D} (h : trB L k d = true) (hn1 : 1 ≤ n) (hn : n ≤ 16) (S : Sto) : F_are_chances [d, .int (n : Int)] S = some (.bl (rowV n d), S) := by
  apply wF_of
  unfold F_are_chances t_are_chances
  refine wF_fn rfl ?_
  refine wS_seq ?_
  rcases tr_cases h with z | ⟨_, z⟩ | ⟨_, z⟩ | ⟨_, z⟩ | ⟨xs, z⟩ <;> subst z
  · walk_at "u"; exact wFin_P0 rfl rfl ⟨rfl, rfl⟩
  · walk_at "u"; exact wFin_P0 rfl rfl ⟨rfl, rfl⟩
  · walk_at "u"; exact wFin_P0 rfl rfl ⟨rfl, rfl⟩
  · walk_at "u"; exact wFin_P0 rfl rfl ⟨rfl, rfl⟩
  obtain ⟨k, rfl, hl, hx⟩ := tr_tupE h
  walk_at "u"
  refine wF_len (xs := xs) rfl ?_
  walk_at "u"
  by_cases hlen : xs.length = n
  case neg =>
    rw [decide_eq_false (show ¬ (xs.length : Int) = (n : Int) by omega)]
    walk_at "u"
    refine wFin_P0 rfl rfl ⟨?_, rfl⟩
    have : rowB n (.tup xs) = false := by
      show (decide (xs.length = n) && _) = false
      rw [decide_eq_false hlen]
      rfl
    unfold rowV
    rw [this]
    rfl
  rw [decide_eq_true (show (xs.length : Int) = (n : Int) by omega)]
  walk_at "u"
  refine wT_gen (α := D) ?_
  refine wI_seq ?_
  walk_at "u"
  refine ⟨_, _, rfl, xs, id, fun x => !badV x, (List.map_id _).symm, trivial, fun x hx' => ?_, ?_⟩
  · walk_at "u"
    exact wF_eq (F_chance (hx x hx') _) ⟨rfl, rfl⟩
  rw [any_all]
  have eA : (xs.all fun x => !badV x) = (xs.filter badV).isEmpty := by
    rw [Bool.eq_iff_iff, List.all_eq_true, List.isEmpty_iff, List.filter_eq_nil_iff]
    exact ⟨fun h x hx => by have := h x hx; simpa using this, fun h x hx => by have := h x hx; simpa using this⟩
  rw [eA]
  cases he : (xs.filter badV).isEmpty with
  | false =>
    walk_at "u"
    refine wFin_P0 rfl rfl ⟨?_, rfl⟩
    congr 1
    symm
    refine Bool.eq_false_iff.mpr fun hc => ?_
    unfold rowV at hc
    rw [Bool.and_eq_true, decide_eq_true_eq] at hc
    have e := rowB_eq hc.1
    generalize frv (D.tup xs) = f at e hc
    have e : xs = rg n fun j => dQ (f j) := D.tup.inj e
    rw [e, bad_rg, decide_eq_false_iff_not] at he
    exact he hc.2.1
  | true =>
    walk_at "u"
    have hB : rowB n (.tup xs) = true := by
      show (decide (xs.length = n) && _) = true
      rw [decide_eq_true hlen, bad_none he]
      rfl
    have e := rowB_eq hB
    have hv : rowV n (.tup xs) = decide (rs (frv (.tup xs)) n = 1) := by
      unfold rowV
      rw [hB, Bool.true_and]
      refine decide_eq_decide.mpr ⟨fun h => h.2, fun h => ⟨?_, h⟩⟩
      have e3 : xs = rg n fun j => dQ (frv (.tup xs) j) := D.tup.inj e
      rw [e3, bad_rg, decide_eq_true_eq] at he
      exact he
    rw [hv]
    have hs : ∀ i, i < n → Sm 63 (frv (.tup xs) i) := fun i hi => by
      have h9 := h
      rw [e] at h9
      obtain ⟨_, _, _, h2⟩ := tr_tupE h9
      exact frq_sm frq_dQ (h2 _ (rg_mem.mpr ⟨i, hi, rfl⟩))
    generalize frv (D.tup xs) = f at e hs
    rw [e]
    refine wF_eq (F_totN (N := 63) (.inl rfl) hs (by omega) (by omega)) ?_
    walk_at "u"
    rw [show D.tup [.int 1, .int 1] = dQ 1 from rfl]
    refine w2_eq eq_dQ ?_
    exact wFin_P0 rfl rfl ⟨rfl, rfl⟩
theorem F_istab {L k m n : Nat} {d : D} (h : trB L k d = true) (hn1 : 1 ≤ n) (hn : n ≤ 16) (S : Sto) : F_is_table [d, .int (m : Int), .int (n : Int)] S = some (.bl (tblV m n d), S) := by
  apply wF_of
  unfold F_is_table t_is_table
  refine wF_fn rfl ?_
  rcases tr_cases h with z | ⟨_, z⟩ | ⟨_, z⟩ | ⟨_, z⟩ | ⟨xs, z⟩ <;> subst z
  · walk_at "u"; exact wFin_P0 rfl rfl ⟨rfl, rfl⟩
  · walk_at "u"; exact wFin_P0 rfl rfl ⟨rfl, rfl⟩
  · walk_at "u"; exact wFin_P0 rfl rfl ⟨rfl, rfl⟩
  · walk_at "u"; exact wFin_P0 rfl rfl ⟨rfl, rfl⟩
  obtain ⟨k, rfl, hl, hx⟩ := tr_tupE h
  walk_at "u"
  refine wF_len (xs := xs) rfl ?_
  walk_at "u"
  refine ⟨fun h1 => ?_, fun h1 => ?_⟩
  · have h1 : xs.length = m := by have := of_decide_eq_true h1; omega
    walk_at "u"
    refine wT_gen (α := D) ?_
    refine wI_seq ?_
    walk_at "u"
    refine ⟨_, _, rfl, xs, id, rowV n, (List.map_id _).symm, trivial, fun x hx' => ?_, ?_⟩
    · walk_at "u"
      exact wF_eq (F_chances (hx x hx') hn1 hn _) ⟨rfl, rfl⟩
    · rw [any_all]
      refine wFin_P0 rfl rfl ⟨?_, rfl⟩
      show _ = D.bl (decide (xs.length = m) && _)
      rw [decide_eq_true h1, Bool.true_and]
  · have h1 : ¬ xs.length = m := by have := of_decide_eq_false h1; omega
    refine wFin_P0 rfl rfl ⟨?_, rfl⟩
    show _ = D.bl (decide (xs.length = m) && _)
    rw [decide_eq_false h1, Bool.false_and]
theorem E_isfr {L k : Nat} {d : D} (h : trB L k d = true) (S : Sto) : F__law_is_fraction [d] S = some (.bl (frq d).isSome, S) := by
  apply wF_of
  unfold F__law_is_fraction t__law_is_fraction
  refine wF_fn rfl ?_
  refine wS_seq ?_
  rcases tr_cases h with z | ⟨_, z⟩ | ⟨_, z⟩ | ⟨_, z⟩ | ⟨xs, z⟩ <;> subst z
  · walk_at "u"; exact wFin_P0 rfl rfl ⟨rfl, rfl⟩
  · walk_at "u"; exact wFin_P0 rfl rfl ⟨rfl, rfl⟩
  · walk_at "u"; exact wFin_P0 rfl rfl ⟨rfl, rfl⟩
  · walk_at "u"; exact wFin_P0 rfl rfl ⟨rfl, rfl⟩
  obtain ⟨k, rfl, _, hx⟩ := tr_tupE h
  walk_at "u"
  refine wF_len (xs := xs) rfl ?_
  walk_at "u"
  by_cases hlen : xs.length = 2
  case neg =>
    rw [decide_eq_false (by omega)]
    walk_at "u"
    refine wFin_P0 rfl rfl ⟨?_, rfl⟩
    match xs, hlen with
    | [], _ => rfl
    | [x], _ => cases x <;> rfl
    | [x, y], h => exact absurd rfl h
    | x :: y :: z :: r, _ => cases x <;> cases y <;> rfl
  obtain ⟨x, y, rfl⟩ : ∃ x y, xs = [x, y] := by
    match xs, hlen with
    | [x, y], _ => exact ⟨x, y, rfl⟩
  rw [decide_eq_true (by simp)]
  walk_at "u"
  refine wE_lcF (α := D) ?_
  refine wI_seq ?_
  walk_at "u"
  refine ⟨_, _, rfl, [x, y], id, fun x => !isI x, id, rfl, trivial, fun z hz => ?_, ?_⟩
  · have hz0 := hx z hz
    rcases tr_cases hz0 with e | ⟨_, e⟩ | ⟨_, e⟩ | ⟨_, e⟩ | ⟨_, e⟩ <;> subst e <;> walk_at "u" <;> first | exact fun _ => by walk_at "u" | exact fun h => nomatch h
  · rw [List.map_id]
    refine wF_lst (Nat.le_trans (List.length_filter_le _ _) (by simp)) ?_
    walk_at "u"
    refine wF_len (xs := [x, y].filter fun x => !isI x) rfl ?_
    by_cases hi : isI x = true ∧ isI y = true
    · obtain ⟨a, rfl⟩ : ∃ a, x = .int a := by
        have := hi.1
        cases x <;> first | exact ⟨_, rfl⟩ | cases this
      obtain ⟨b, rfl⟩ : ∃ a, y = .int a := by
        have := hi.2
        cases y <;> first | exact ⟨_, rfl⟩ | cases this
      rw [show ([D.int a, D.int b].filter fun x => !isI x).length = 0 from rfl]
      walk_at "u"
      refine ⟨fun h1 => ?_, fun h1 => ?_⟩
      · have hb : 0 < b := of_decide_eq_true h1
        walk_at "u"
        have hy := tr_int.mp (hx (.int b) (by simp))
        obtain ⟨B, rfl⟩ : ∃ B : Nat, b = (B : Int) := ⟨b.toNat, by omega⟩
        refine wF_eq (E_div (n := 63) (by omega) (by omega) _) ?_
        walk_at "u"
        refine wFin_P0 rfl rfl ⟨?_, rfl⟩
        rw [frq_pair, show (Nat.gcd a.natAbs B : Nat) = Int.gcd a (B : Int) from rfl]
        by_cases hg : Int.gcd a (B : Int) = 1
        · rw [if_pos ⟨hb, hg⟩, hg]; rfl
        · rw [if_neg (fun h => hg h.2), decide_eq_false (fun h => hg (by omega))]; rfl
      · have hb : ¬ 0 < b := of_decide_eq_false h1
        refine wFin_P0 rfl rfl ⟨?_, rfl⟩
        rw [frq_pair, if_neg (fun h => hb h.1)]
        rfl
    · have hp : 0 < ([x, y].filter fun x => !isI x).length := by
        rw [List.length_pos_iff]
        intro h0
        rw [List.filter_eq_nil_iff] at h0
        refine hi ⟨?_, ?_⟩
        · have := h0 x (by simp); simpa using this
        · have := h0 y (by simp); simpa using this
      walk_at "u"
      rw [decide_eq_true (by omega)]
      walk_at "u"
      refine wFin_P0 rfl rfl ⟨?_, rfl⟩
      cases x <;> cases y <;> first | rfl | exact absurd ⟨rfl, rfl⟩ hi
theorem E_istab {L k m n : Nat} {d : D} (h : trB L k d = true) (hk : k ≤ 60) (hL : L ≤ 100000) (hn : n ≤ 16) (S : Sto) : F__law_is_table [d, .int (m : Int), .int (n : Int)] S = some (.bl (tblV m n d), S) := by
  apply wF_of
  unfold F__law_is_table t__law_is_table
  refine wF_fn rfl ?_
  refine wS_seq ?_
  rcases tr_cases h with z | ⟨_, z⟩ | ⟨_, z⟩ | ⟨_, z⟩ | ⟨xs, z⟩ <;> subst z
  · walk_at "u"; exact wFin_P0 rfl rfl ⟨rfl, rfl⟩
  · walk_at "u"; exact wFin_P0 rfl rfl ⟨rfl, rfl⟩
  · walk_at "u"; exact wFin_P0 rfl rfl ⟨rfl, rfl⟩
  · walk_at "u"; exact wFin_P0 rfl rfl ⟨rfl, rfl⟩
  obtain ⟨k, rfl, hl, hx⟩ := tr_tupE h
  walk_at "u"
  refine wF_len (xs := xs) rfl ?_
  walk_at "u"
  by_cases hlen : xs.length = m
  case neg =>
    rw [decide_eq_false (show ¬ (xs.length : Int) = (m : Int) by omega)]
    walk_at "u"
    refine wFin_P0 rfl rfl ⟨?_, rfl⟩
    show _ = D.bl (decide (xs.length = m) && _)
    rw [decide_eq_false hlen, Bool.false_and]
  rw [decide_eq_true (show (xs.length : Int) = (m : Int) by omega)]
  walk_at "u"
  have bad : ∀ {x : D}, x ∈ xs → rowV n x = false → tblV m n (.tup xs) = false := fun {x} hx h => by
    show (_ && xs.all (rowV n)) = false
    have : xs.all (rowV n) = false := List.all_eq_false.mpr ⟨x, hx, by rw [h]; decide⟩
    rw [this, Bool.and_false]
  refine wS_seq ?_
  refine wS_for (α := D) (fun i ρ S' => S' = S ∧ (∀ x ∈ xs.take i, rowV n x = true) ∧ ∃ x3, ρ = [some (.tup xs), some (.int (m : Int)), some (.int (n : Int)), x3, none]) ?_
  refine wI_seq ?_
  walk_at "u"
  refine ⟨_, _, rfl, xs, id, (List.map_id _).symm, ⟨rfl, (fun x hx => by simp at hx), _, rfl⟩, fun i x ρ S' hi ⟨e1, h2, x3, e2⟩ => ?_, fun ρ S' ⟨e1, h2, x3, e2⟩ => ?_⟩
  · subst e1 e2
    have hm := List.mem_of_getElem? hi
    have hx0 := hx x hm
    refine wG_nm ?_
    refine wS_env (by walk_at "env") ?_
    refine wS_seq ?_
    have no : rowV n x = false → wFin finP (.bl false) S' S' fun d' S'_1 => d' = D.bl (tblV m n (.tup xs)) ∧ S'_1 = S' := fun h => wFin_P0 rfl rfl ⟨by rw [bad hm h], rfl⟩
    rcases tr_cases hx0 with z | ⟨_, z⟩ | ⟨_, z⟩ | ⟨_, z⟩ | ⟨ys, z⟩ <;> subst z
    · walk_at "u"; exact no rfl
    · walk_at "u"; exact no rfl
    · walk_at "u"; exact no rfl
    · walk_at "u"; exact no rfl
    obtain ⟨k, rfl, hl2, hy⟩ := tr_tupE hx0
    walk_at "u"
    refine wF_len (xs := ys) rfl ?_
    walk_at "u"
    by_cases hlen2 : ys.length = n
    case neg =>
      rw [decide_eq_false (show ¬ (ys.length : Int) = (n : Int) by omega)]
      walk_at "u"
      refine no ?_
      have : rowB n (.tup ys) = false := by
        show (decide (ys.length = n) && _) = false
        rw [decide_eq_false hlen2]
        rfl
      unfold rowV
      rw [this]
      rfl
    rw [decide_eq_true (show (ys.length : Int) = (n : Int) by omega)]
    walk_at "u"
    refine wE_lcF (α := D) ?_
    refine wI_seq ?_
    walk_at "u"
    refine ⟨_, _, rfl, ys, id, badV, id, (List.map_id _).symm, trivial, fun y hy' => ?_, ?_⟩
    · walk_at "u"
      refine wF_eq (E_isfr (hy y hy') _) ?_
      cases hq : frq y with
      | none =>
        have e : badV y = true := by unfold badV; rw [hq]
        rw [e, Option.isSome_none]
        walk_at "u"
        exact fun _ => by walk_at "u"
      | some q =>
        have e : badV y = decide (q.num < 0) := by unfold badV; rw [hq]
        have e2 := frq_some hq
        rw [e, Option.isSome_some]
        subst e2
        walk_at "u"
        exact fun _ => by walk_at "u"
    have hfl := List.length_filter_le badV ys
    rw [List.map_id]
    refine wF_lst (by omega) ?_
    walk_at "u"
    refine wF_len (xs := ys.filter badV) rfl ?_
    walk_at "u"
    by_cases he : (ys.filter badV).isEmpty = true
    case neg =>
      have hp : 0 < (ys.filter badV).length := by
        rw [List.length_pos_iff]
        intro h0
        exact he (by rw [h0]; rfl)
      rw [decide_eq_true (by omega)]
      walk_at "u"
      refine no ?_
      refine Bool.eq_false_iff.mpr fun hc => ?_
      unfold rowV at hc
      rw [Bool.and_eq_true, decide_eq_true_eq] at hc
      have e := rowB_eq hc.1
      generalize frv (D.tup ys) = f at e hc
      have e : ys = rg n fun j => dQ (f j) := D.tup.inj e
      rw [e, bad_rg, decide_eq_true_eq] at he
      exact he hc.2.1
    have hp : (ys.filter badV).length = 0 := by
      rw [List.isEmpty_iff] at he
      rw [he]
      rfl
    rw [hp]
    walk_at "u"
    have hB : rowB n (.tup ys) = true := by
      show (decide (ys.length = n) && _) = true
      rw [decide_eq_true hlen2, bad_none he]
      rfl
    have e := rowB_eq hB
    have hv : rowV n (.tup ys) = decide (rs (frv (.tup ys)) n = 1) := by
      unfold rowV
      rw [hB, Bool.true_and]
      refine decide_eq_decide.mpr ⟨fun h => h.2, fun h => ⟨?_, h⟩⟩
      have e3 : ys = rg n fun j => dQ (frv (.tup ys) j) := D.tup.inj e
      rw [e3, bad_rg, decide_eq_true_eq] at he
      exact he
    have hs : ∀ i, i < n → Sm 63 (frv (.tup ys) i) := fun i hi => by
      have h9 := hx0
      rw [e] at h9
      obtain ⟨_, _, _, h2⟩ := tr_tupE h9
      exact frq_sm frq_dQ (h2 _ (rg_mem.mpr ⟨i, hi, rfl⟩))
    refine wF_eq (f := F__law_total) (ds := [.tup ys]) (by
      have := E_ltot (S := S') (n := 2000) (q := frv (.tup ys)) (m := n) (d := dT n (frv (.tup ys))) (.of (.inl rfl)) (fun i hi => (hs i hi).mono (by omega)) (fun i hi => Sm.rs2000 hs hi (by omega) hn) (by omega)
      rw [← e] at this
      exact this) ?_
    walk_at "u"
    rw [show D.tup [.int 1, .int 1] = dQ 1 from rfl]
    refine w2_eq ne_dQs ?_
    by_cases hc : rs (frv (.tup ys)) n = 1
    · rw [decide_eq_true hc] at hv ⊢
      walk_at "u"
      refine ⟨fun x hx => ?_, _, rfl⟩
      rw [List.take_succ, hi] at hx
      rcases List.mem_append.mp hx with z | z
      · exact h2 x z
      · have : x = .tup ys := by simpa using z
        rw [this]
        exact hv
    · rw [decide_eq_false hc] at hv ⊢
      walk_at "u"
      exact no hv
  · subst e1 e2
    walk_at "u"
    refine wFin_P0 rfl rfl ⟨?_, rfl⟩
    show _ = D.bl (decide (xs.length = m) && _)
    rw [decide_eq_true hlen, Bool.true_and]
    congr 1
    symm
    rw [List.all_eq_true]
    intro x hx
    exact h2 x (by rw [List.take_length]; exact hx)
end LW

set_option maxRecDepth 100000
set_option maxHeartbeats 4000000
namespace LW
open PySem DL PL
open Classical
local macro_rules | `(tactic| walk_at "env") => `(tactic| (simp only [startD, List.map_cons, List.map_nil, List.length_cons, List.length_nil, Nat.reduceAdd, Nat.reduceSub, List.replicate, List.cons_append, List.nil_append, wipeD, List.set]; try rfl))
local macro_rules | `(tactic| walk_at "sto") => `(tactic| (simp only [List.cons_append, List.nil_append, List.set, List.set_cons_zero, List.set_cons_succ, Int.toNat_natCast, Int.reduceToNat]; try rfl))
local macro_rules | `(tactic| walk_at "if") => `(tactic| (refine ⟨fun hc => ?_, fun hc => ?_⟩ <;> simp only [decide_eq_true_eq, decide_eq_false_iff_not, Bool.not_eq_true', Bool.not_eq_false', bne_iff_ne, ne_eq, beq_iff_eq] at hc <;> try (exfalso; first | assumption | omega | (simp at hc; done))))
local macro_rules | `(tactic| walk_at "side") => `(tactic| first | assumption | omega | decide | (simp; done) | (simp; omega))
local macro_rules | `(tactic| walk_at "mul") => `(tactic| first | assumption | exact mul_sm (by first | decide | omega) | exact mul_sm' (by first | decide | omega))
local macro_rules | `(tactic| walk_at "div") => `(tactic| first | assumption | exact div_sm (by omega) (by omega))
local macro_rules | `(tactic| walk_at "w1") => `(tactic| first
  | (guard_target = wS _ (List.set _ _ _) _ _ _; refine wS_env (by walk_at "env") ?_)
  | (guard_target = wE _ (List.set _ _ _) _ _; refine wE_env (by walk_at "env") ?_)
  | (guard_target = wG _ _ (wipeD _ _) _ _; refine wG_env (by walk_at "env") ?_)
  | (guard_target = wS _ (startD _ _) _ _ _; refine wS_env (by walk_at "env") ?_)
  | (guard_target = wS (sSeq (sSet _ _) _) _ _ _ _; refine wS_seq ?_)
  | (guard_target = wS (sSeq (sAsg _ _) _) _ _ _ _; refine wS_seq ?_)
  | (guard_target = wS (sSeq (sExpr _) _) _ _ _ _; refine wS_seq ?_)
  | (guard_target = wS (sSeq (sPar _ _ _) _) _ _ _ _; refine wS_seq ?_)
  | (guard_target = wS (sSeq (sPar3 _ _ _ _) _) _ _ _ _; refine wS_seq ?_)
  | (guard_target = wS (sSeq (sAug _ _ _) _) _ _ _ _; refine wS_seq ?_)
  | (guard_target = wS (sSeq (sSeq _ _) _) _ _ _ _; refine wS_seq ?_)
  | (guard_target = wS _ _ (List.set _ _ _) _ _; refine wS_sto (by walk_at "sto") ?_)
  | (guard_target = wE _ _ (List.set _ _ _) _; refine wE_sto (by walk_at "sto") ?_)
  | (guard_target = wG (gIx _ _) _ _ _ _; refine wG_ix2 ?_)
  | (guard_target = ∃ (_ : Nat) (_ : Int) (_ : Nat) (_ : List D), _; refine ⟨_, _, _, _, rfl, rfl, rfl, rfl, ?_⟩)
  | (guard_target = wS (sSet _ _) _ _ _ _; refine wS_set ?_)
  | (guard_target = wS (sRet _) _ _ _ _; refine wS_ret ?_)
  | (guard_target = wS (sExpr _) _ _ _ _; refine wS_expr ?_)
  | (guard_target = wS sPass _ _ _ _; refine wS_pass ?_)
  | (guard_target = wS sBreak _ _ _ _; refine wS_break ?_)
  | (guard_target = wS sCont _ _ _ _; refine wS_cont ?_)
  | (guard_target = wS (sIf _ _ _) _ _ _ _; refine wS_if ?_)
  | (guard_target = wS (sAsg _ _) _ _ _ _; refine wS_asg ?_)
  | (guard_target = wS (sPar _ _ _) _ _ _ _; refine wS_par ?_)
  | (guard_target = wS (sPar3 _ _ _ _) _ _ _ _; refine wS_par3 ?_)
  | (guard_target = wS (sAug _ _ _) _ _ _ _; refine wS_aug rfl ?_)
  | (guard_target = wE (eV _) _ _ _; refine wE_v rfl ?_)
  | (guard_target = wE (eC _) _ _ _; refine wE_c ?_)
  | (guard_target = wE (e1 _ _) _ _ _; refine wE_1 ?_)
  | (guard_target = wE (e2 _ _ _) _ _ _; refine wE_2 ?_)
  | (guard_target = wE (e2s _ _ _) _ _ _; refine wE_2s ?_)
  | (guard_target = wE (eA _ _) _ _ _; refine wE_A ?_)
  | (guard_target = wA (aCons _ _) _ _ _; refine wA_cons ?_)
  | (guard_target = wA aNil _ _ _; refine wA_nil ?_)
  | (guard_target = wE (eM _ _ _) _ _ _; refine wE_M ?_)
  | (guard_target = wE (eAnd _ _) _ _ _; refine wE_and ?_)
  | (guard_target = wE (eOr _ _) _ _ _; refine wE_or ?_)
  | (guard_target = wE (eIf _ _ _) _ _ _; refine wE_if ?_)
  | (guard_target = wE (eChain _ _ _ _ _) _ _ _; refine wE_chain ?_)
  | (guard_target = wE (eLc _ _ _ tYesD _ _) _ _ _; refine wE_lcR ?_)
  | (guard_target = wE (eLc2 _ _ _ tYesD _ _ tYesD _ _ _) _ _ _; refine wE_lc2R ?_)
  | (guard_target = wE (eBl _) _ _ _; refine wE_bl ?_)
  | (guard_target = wE (eSl _ _ _ _) _ _ _; refine wE_sl ?_)
  | (guard_target = wE (eSlS _ _ _ _) _ _ _; refine wE_slS ?_)
  | (guard_target = wO oNo _ _ _; refine wO_no ?_)
  | (guard_target = wO (oSome _) _ _ _; refine wO_some ?_)
  | (guard_target = ∃ _ : Int, _; refine ⟨_, rfl, ?_⟩)
  | (guard_target = wSl _ (.tup _) _ _ _ _; refine wSl_tup ?_)
  | (guard_target = wSl _ (.lst _) _ _ _ _; refine wSl_lst ?_)
  | (guard_target = wSl _ (.scr _) _ _ _ _; refine wSl_scr ?_)
  | (guard_target = wT (tBl _) _ _ _; refine wT_bl ?_)
  | (guard_target = wT (tTru _) _ _ _; refine wT_tru ?_)
  | (guard_target = wT (tNotD _) _ _ _; refine wT_not ?_)
  | (guard_target = wT (tAndD _ _) _ _ _; refine wT_and ?_)
  | (guard_target = wT (tOrD _ _) _ _ _; refine wT_or ?_)
  | (guard_target = wT (tIfD _ _ _) _ _ _; refine wT_if ?_)
  | (guard_target = wT tYesD _ _ _; refine wT_yes ?_)
  | (guard_target = wT (tGenQ _ _ _ tYesD _ _) _ _ _; refine wT_genR ?_)
  | (guard_target = wT (tGenQ2 _ _ _ tYesD _ _ tYesD _ _ _) _ _ _; refine wT_gen2R ?_)
  | (guard_target = wI (iSeq _) _ _ _; refine wI_seqR ?_)
  | (guard_target = wI (iRange1 _) _ _ _; refine wI_rangeR ?_)
  | (guard_target = wI (iRange2 _ _) _ _ _; refine wI_range2R ?_)
  | (guard_target = wI (iZip (aCons _ (aCons _ aNil))) _ _ _; refine wI_zipR ?_)
  | (guard_target = wI (iEnum (aCons _ aNil)) _ _ _; refine wI_enumR ?_)
  | (guard_target = wG (gNm _) _ _ _ _; refine wG_nm ?_)
  | (guard_target = wG (gTp _ _) (.lst _) _ _ _; refine wG_tpL rfl ?_)
  | (guard_target = wG (gTp _ _) _ _ _ _; refine wG_tp rfl ?_)
  | (guard_target = wGs (gsCons _ _) _ _ _ _; refine wGs_cons ?_)
  | (guard_target = wGs gsNil _ _ _ _; refine wGs_nil ?_)
  | (guard_target = w2 fAdd _ _ _ _; refine w2_add ?_)
  | (guard_target = w2 fSub _ _ _ _; refine w2_sub ?_)
  | (guard_target = w2 fMul _ _ _ _; refine w2_mul (by walk_at "mul") ?_)
  | (guard_target = w2 fDiv _ _ _ _; refine w2_div (by walk_at "div") ?_)
  | (guard_target = w2 fMod _ _ _ _; refine w2_mod (by walk_at "side") ?_)
  | (guard_target = w2 (fCmp _) _ _ _ _; refine w2_cmp ?_)
  | (guard_target = w2 fEq (.int _) (.int _) _ _; refine w2_eqI ?_)
  | (guard_target = w2 fNe (.int _) (.int _) _ _; refine w2_neI ?_)
  | (guard_target = w2 fIx _ (.int _) _ _; refine w2_eq rfl ?_)
  | (guard_target = w2 fIx _ (.int 0) _ _; refine w2_ix0 rfl (by walk_at "side") ?_)
  | (guard_target = w2 fIx _ (.int (Nat.cast _)) _ _; refine w2_ixR rfl (by walk_at "side") ?_)
  | (guard_target = w2s (fPlus _) (.int _) (.int _) _ _; refine w2s_plusI ?_)
  | (guard_target = w2s (fTimes _) (.int _) (.int _) _ _; refine w2s_timesI (by walk_at "mul") ?_)
  | (guard_target = w2 fPow (.int _) (.int _) _ _; refine w2_pow (by decide) (by decide) (by decide) ?_)
  | (guard_target = w2 fIsB _ _ _ _; refine w2_eq rfl ?_)
  | (guard_target = w2 fNotB _ _ _ _; refine w2_eq rfl ?_)
  | (guard_target = w2 fIsN _ _ _ _; refine w2_eq rfl ?_)
  | (guard_target = w2 fNotN _ _ _ _; refine w2_eq rfl ?_)
  | (guard_target = w1 _ _ _ _; refine w1_eq rfl ?_)
  | (guard_target = wTru _ _ _; refine wTru_eq rfl ?_)
  | (guard_target = wF fTup _ _ _; refine wF_tup (by walk_at "side") ?_)
  | (guard_target = wF fLst _ _ _; refine wF_lst (by walk_at "side") ?_)
  | (guard_target = wF fObj _ _ _; refine wF_obj (by walk_at "side") ?_)
  | (guard_target = wF fLen [dQ _] _ _; refine wF_len2 ?_)
  | (guard_target = wF fLen _ _ _; refine wF_lenR rfl ?_)
  | (guard_target = wF fAbs _ _ _; refine wF_abs ?_)
  | (guard_target = wF fInt1 [.int _] _ _; refine wF_int ?_)
  | (guard_target = wF fInt1 [.bl _] _ _; refine wF_intB ?_)
  | (guard_target = wF fListF _ _ _; refine wF_listF rfl ?_)
  | (guard_target = wF fListO _ _ _; refine wF_listO rfl ?_)
  | (guard_target = wF fTupOf _ _ _; refine wF_tupOf rfl ?_)
  | (guard_target = wF fSum _ _ _; refine wF_sumR rfl ?_)
  | (guard_target = wF fMax2 _ _ _; refine wF_max2 ?_)
  | (guard_target = wF fMin2 _ _ _; refine wF_min2 ?_)
  | (guard_target = (false = true → _) ∧ _; refine ⟨fun h => (nomatch h), fun _ => ?_⟩)
  | (guard_target = (true = true → _) ∧ _; refine ⟨fun _ => ?_, fun h => (nomatch h)⟩)
  | (guard_target = ((!false) = true → _) ∧ _; refine ⟨fun _ => ?_, fun h => (nomatch h)⟩)
  | (guard_target = ((!true) = true → _) ∧ _; refine ⟨fun h => (nomatch h), fun _ => ?_⟩)
  | (guard_target = (isNon _ = true → _) ∧ _; first | refine ⟨fun h => absurd h Bool.false_ne_true, fun _ => ?_⟩ | refine ⟨fun _ => ?_, fun h => absurd h.symm Bool.false_ne_true⟩)
  | (guard_target = ((!isNon _) = true → _) ∧ _; first | refine ⟨fun h => absurd h Bool.false_ne_true, fun _ => ?_⟩ | refine ⟨fun _ => ?_, fun h => absurd h.symm Bool.false_ne_true⟩)
  | (guard_target = (_ = true → _) ∧ (_ = false → _); first | refine ⟨fun h => absurd h (by decide), fun _ => ?_⟩ | refine ⟨fun _ => ?_, fun h => absurd h (by decide)⟩)
  | (guard_target = (_ = _) ∧ _; refine ⟨rfl, ?_⟩)
  | (guard_target = _ ∧ (_ = _); refine ⟨?_, rfl⟩)
  | (guard_target = True ∧ _; refine ⟨trivial, ?_⟩)
  | (guard_target = ∃ _ : Bool, _; refine ⟨_, rfl, ?_⟩)
  | (guard_target = ∃ (_ _ : D), _; refine ⟨_, _, rfl, ?_⟩)
  | (guard_target = ∃ (_ _ _ : D), _; refine ⟨_, _, _, rfl, ?_⟩)
  | rfl)
local macro_rules | `(tactic| walk_at "w") => `(tactic| repeat' (walk_at "w1"))
local macro_rules | `(tactic| walk_at "v") => `(tactic| repeat' ((fail_if_success (guard_target = wE (eLc _ _ _ _ _ _) _ _ _)); walk_at "w1"))
local macro_rules | `(tactic| walk_at "g") => `(tactic| (repeat' (first
  | (guard_target = wG (gNm _) _ _ _ _; refine wG_nm ?_)
  | (guard_target = wG (gTp _ _) _ _ _ _; refine wG_tp rfl ?_)
  | (guard_target = wGs (gsCons _ _) _ _ _ _; refine wGs_cons ?_)
  | (guard_target = wGs gsNil _ _ _ _; refine wGs_nil ?_)
  | (guard_target = wS _ (List.set _ _ _) _ _ _; refine wS_env (by walk_at "env") ?_)
  | (guard_target = wE _ (List.set _ _ _) _ _; refine wE_env (by walk_at "env") ?_))))
local macro_rules | `(tactic| walk_at "u") => `(tactic| repeat' ((fail_if_success (guard_target = wE (eLc _ _ _ _ _ _) _ _ _)); (fail_if_success (guard_target = wE (eLc2 _ _ _ _ _ _ _ _ _ _) _ _ _)); (fail_if_success (guard_target = wT (tGenQ _ _ _ _ _ _) _ _ _)); (fail_if_success (guard_target = wT (tGenQ2 _ _ _ _ _ _ _ _ _ _) _ _ _)); walk_at "w1"))
theorem cut_mem {xs : List D} {l h : Option Int} : ∀ x ∈ cutD xs l h, x ∈ xs := fun x hx => List.mem_of_mem_drop (List.mem_of_mem_take hx)
theorem cut_len {xs : List D} {l h : Option Int} : (cutD xs l h).length ≤ xs.length := by
  unfold cutD
  rw [List.length_take, List.length_drop]
  omega
theorem pick_mem {xs : List D} {is : List Nat} : ∀ x ∈ pickL xs is, x ∈ xs := fun x hx => by
  unfold pickL at hx
  obtain ⟨i, _, h⟩ := List.mem_filterMap.mp hx
  exact List.mem_of_getElem? h
theorem rev_len {xs : List D} : (pickL xs (stepIx xs.length none none (some (-1)))).length ≤ xs.length := by
  refine Nat.le_trans (List.length_filterMap_le _ _) ?_
  unfold stepIx
  rw [List.length_map, List.length_range]
  unfold Builtin.Slice.slicePlaces Builtin.Slice.sliceAdjust
  simp
  omega
theorem str_ok (x : String) : (PyData.str (Str.ofString x)).canLay0 = true := by
  show PyData.strOk _ = true
  unfold PyData.strOk
  rw [← Array.all_toList, PyProof.Rows.signs_ofString, List.all_eq_true]
  intro c hc
  obtain ⟨ch, _, rfl⟩ := List.mem_map.mp hc
  have := ch.valid
  unfold UInt32.isValidChar Nat.isValidChar at this
  have e : ch.toNat = ch.val.toNat := rfl
  exact decide_eq_true (by omega)
theorem wF_str1 {i : Int} {S : Sto} {Q : D → Sto → Prop} (h : i.natAbs < 2 ^ 63) (q : Q (.str (Str.ofString (toString i))) S) : wF fStr1 [.int i] S Q := by
  refine ⟨_, _, ?_, q⟩
  simp only [fStr1]
  rw [if_pos]
  rcases Nat.eq_zero_or_pos i.natAbs with h0 | h0
  · rw [h0]; decide
  · have := (Nat.log2_lt (Nat.pos_iff_ne_zero.mp h0)).mpr h
    omega
theorem wT_mono {t : RT} {ρ : En} {S : Sto} {Q Q' : Bool → Sto → Prop} (h : wT t ρ S Q) (m : ∀ b S, Q b S → Q' b S) : wT t ρ S Q' := let ⟨d, S', e, q⟩ := h; ⟨d, S', e, m _ _ q⟩
/-- a tree of ints -/
def intT : Nat → D → Bool
  | _, .int i => decide (i.natAbs < 4611686018427387904)
  | k + 1, .tup xs => decide (xs.length ≤ 20) && xs.all (intT k)
  | _, _ => false
theorem it_tup {k : Nat} {xs : List D} (h1 : xs.length ≤ 20) (h : ∀ x ∈ xs, intT k x = true) : intT (k + 1) (.tup xs) = true := by
  show (decide (xs.length ≤ 20) && xs.all (intT k)) = true
  rw [decide_eq_true h1, Bool.true_and, List.all_eq_true]
  exact h
theorem it_tr : ∀ {k : Nat} {d : D}, intT k d = true → trB 20 k d = true
  | k, d, h => by
    cases d with
    | int i =>
      have : i.natAbs < 4611686018427387904 := by cases k <;> exact of_decide_eq_true h
      exact tr_int.mpr (by omega)
    | tup xs =>
      cases k with
      | zero => cases h
      | succ k =>
        have h : (decide (xs.length ≤ 20) && xs.all (intT k)) = true := h
        rw [Bool.and_eq_true, decide_eq_true_eq, List.all_eq_true] at h
        exact tr_tup h.1 fun x hx => it_tr (h.2 x hx)
    | non => cases k <;> cases h
    | bl b => cases k <;> cases h
    | str b => cases k <;> cases h
    | lst b => cases k <;> cases h
    | scr b => cases k <;> cases h
    | obj b => cases k <;> cases h
theorem it_cases {k : Nat} {d : D} (h : intT k d = true) : (∃ i, d = .int i ∧ i.natAbs < 4611686018427387904) ∨ ∃ j xs, k = j + 1 ∧ d = .tup xs ∧ xs.length ≤ 20 ∧ ∀ x ∈ xs, intT j x = true := by
  cases d with
  | int i => exact .inl ⟨i, rfl, by cases k <;> exact of_decide_eq_true h⟩
  | tup xs =>
    cases k with
    | zero => cases h
    | succ k =>
      have h : (decide (xs.length ≤ 20) && xs.all (intT k)) = true := h
      rw [Bool.and_eq_true, decide_eq_true_eq, List.all_eq_true] at h
      exact .inr ⟨k, xs, rfl, rfl, h.1, h.2⟩
  | non => cases k <;> cases h
  | bl b => cases k <;> cases h
  | str b => cases k <;> cases h
  | lst b => cases k <;> cases h
  | scr b => cases k <;> cases h
  | obj b => cases k <;> cases h
theorem it_dQ {k : Nat} {q : Rat} (h : Sm 62 q) : intT (k + 1) (dQ q) = true := by
  refine it_tup (by simp) fun x hx => ?_
  simp only [List.mem_cons, List.not_mem_nil, or_false] at hx
  have h1 := h.num
  have h2 := h.den
  unfold DL.Bt at h1 h2
  rcases hx with z | z <;> subst z <;> cases k <;> first | exact decide_eq_true h1 | exact decide_eq_true h2
theorem pickT_w {T S : Sto} {L k : Nat} {xs : List D} {Q : D → Sto → Prop} (h : St pf T S) (hT : Cl pf T) (h0 : xs ≠ []) (hl : xs.length ≤ 1000000) (hx : ∀ x ∈ xs, trB L k x = true) (q : ∀ x S', St pf T S' → trB L k x = true → Q x S') : wF F__law_pick [.obj 0, .lst xs] S Q :=
  pick_w h hT h0 hl (fun x hm => ⟨tr_clos (hx x hm), tr_obj (hx x hm)⟩) fun x S' hs hm => q x S' hs (hx x hm)
theorem leaf_w {T S : Sto} {i : Int} {Q : D → Sto → Prop} (h : St pf T S) (hT : Cl pf T) (hi : i.natAbs < 4611686018427387904) (q : ∀ (d' : D) S', St pf T S' → trB 2 1 d' = true → Q d' S') : wF F__law_leaf [.obj 0, .int i] S Q := by
  unfold F__law_leaf t__law_leaf
  refine wF_fn rfl ?_
  refine wS_seq ?_
  walk_at "u"
  refine wS_seq ?_
  walk_at "u"
  refine wF_str1 (by omega) ?_
  walk_at "u"
  refine w2s_plusL rfl rfl (wF_lst (by simp) ?_)
  walk_at "u"
  refine pickT_w (L := 2) (k := 1) h hT (by simp) (by simp) ?_ fun x S' hs hm => ?_
  rotate_left
  · exact wFin_M (U := []) h (by rw [List.append_nil]; exact hs) hT (tr_clos hm) (tr_obj hm) fun S2 h2 => q _ S2 h2 hm
  · intro x hx
    simp only [List.cons_append, List.nil_append, List.mem_cons, List.not_mem_nil, or_false] at hx
    have ii : ∀ {j : Int}, j.natAbs < 9223372036854775808 → trB 2 1 (.int j) = true := fun h => tr_int.mpr h
    rcases hx with z | z | z | z | z | z | z | z | z | z | z | z | z | z | z | z | z | z | z | z | z | z | z | z | z | z | z | z | z | z | z | z | z <;> rw [z] <;> first | exact ii (by omega) | exact ii (by decide) | rfl | exact str_ok _ | exact tr_tup (by simp) fun y hy => by rw [List.mem_singleton.mp hy]; exact tr_int.mpr (by omega)
theorem spoilt_w : ∀ (j k : Nat), k < j → ∀ {T S : Sto} {d : D} {deep : Int} {Q : D → Sto → Prop}, St pf T S → Cl pf T → k ≤ 50 → intT k d = true → (∀ (d' : D) S', St pf T S' → trB 100 (k + 3) d' = true → Q d' S') → wF (F__law_spoilt j) [.obj 0, d, .int deep] S Q
  | 0, k, hj, _, _, _, _, _, _, _, _, _, _ => absurd hj (Nat.not_lt_zero _)
  | j + 1, k, hj, T, S, d, deep, Q, h, hT, hk5, ht, q => by
    show wF (fnD 3 5 finM (t__law_spoilt (F__law_spoilt j))) _ _ _
    unfold t__law_spoilt
    refine wF_fn rfl ?_
    refine wS_seq ?_
    rcases it_cases ht with ⟨i, rfl, hi⟩ | ⟨k, xs, rfl, rfl, hl, hx⟩
    · walk_at "u"
      refine leaf_w h hT hi fun x S1 hs1 hx => ?_
      have hm : trB 100 (k + 3) x = true := tr_mono (by omega) (by omega) hx
      exact wFin_M (U := []) h (by rw [List.append_nil]; exact hs1) hT (tr_clos hm) (tr_obj hm) fun S' h' => q _ S' h' hm
    have hup : ∀ x ∈ xs, trB 100 (k + 3) x = true := fun x hx' => tr_mono (by omega) (by omega) (it_tr (hx x hx'))
    have fin : ∀ {ys : List D} {S9 : Sto}, ys.length ≤ 100 → (∀ y ∈ ys, trB 100 (k + 3) y = true) → St pf T S9 → wFin finM (.tup ys) S S9 Q := fun h1 h2 h9 => by
      have ht2 : trB 100 (k + 1 + 3) (.tup _) = true := tr_tup h1 h2
      exact wFin_M (U := []) h (by rw [List.append_nil]; exact h9) hT (tr_clos ht2) rfl fun S' h' => q _ S' h' ht2
    have fin1 : ∀ {x : D} {S9 : Sto}, trB 100 (k + 3) x = true → St pf T S9 → wFin finM x S S9 Q := fun h1 h9 => by
      have ht2 : trB 100 (k + 1 + 3) _ = true := tr_mono (Nat.le_refl _) (by omega) h1
      exact wFin_M (U := []) h (by rw [List.append_nil]; exact h9) hT (tr_clos ht2) (tr_obj ht2) fun S' h' => q _ S' h' ht2
    walk_at "u"
    refine wF_len (xs := xs) rfl ?_
    walk_at "u"
    refine take_w h hT (by omega) (by omega) fun a S1 hs1 ha => ?_
    have ha : a ≤ xs.length := by omega
    walk_at "u"
    refine wS_seq (wS_if (wT_mono (Q := fun b S2 => St pf T S2 ∧ (b = true → 0 < xs.length)) ?_ ?_))
    · walk_at "u"
      refine wF_len (xs := xs) rfl ?_
      walk_at "u"
      walk_at "if"
      · rename_i hc
        walk_at "u"
        walk_at "if"
        · walk_at "u"
          refine take_w hs1 hT (by omega) (by omega) fun r S2 hs2 hr => ?_
          walk_at "u"
          exact ⟨hs2, fun _ => by omega⟩
        · walk_at "u"
          exact ⟨hs1, fun h => nomatch h⟩
      · walk_at "u"
        exact ⟨hs1, fun h => nomatch h⟩
    · intro b S2 ⟨hs2, hb⟩
      have c1 : ∀ {l h : Option Int}, ∀ x ∈ cutD xs l h, trB 100 (k + 3) x = true := fun x hx => hup x (cut_mem x hx)
      have l1 : ∀ {l h : Option Int}, (cutD xs l h).length ≤ 20 := Nat.le_trans cut_len hl
      have app : ∀ {us vs : List D}, (∀ x ∈ us, trB 100 (k + 3) x = true) → (∀ x ∈ vs, trB 100 (k + 3) x = true) → ∀ x ∈ us ++ vs, trB 100 (k + 3) x = true := fun h1 h2 x hx => by
        rcases List.mem_append.mp hx with z | z
        · exact h1 x z
        · exact h2 x z
      have one : ∀ {y : D}, trB 100 (k + 3) y = true → ∀ x ∈ [y], trB 100 (k + 3) x = true := fun h x hx => by rw [List.mem_singleton.mp hx]; exact h
      have e2 : ∀ {us vs : List D}, us.length ≤ 20 → vs.length ≤ 20 → (us ++ vs).length ≤ 100 := fun h1 h2 => by rw [List.length_append]; omega
      have e3 : ∀ {us vs ws : List D}, us.length ≤ 20 → vs.length ≤ 20 → ws.length ≤ 20 → (us ++ vs ++ ws).length ≤ 100 := fun h1 h2 h3 => by rw [List.length_append, List.length_append]; omega
      have p2 : ∀ {us vs : List D} {S3 : Sto} {R : D → Sto → Prop}, us.length ≤ 20 → vs.length ≤ 20 → R (.tup (us ++ vs)) S3 → w2s (fPlus fLst) (.tup us) (.tup vs) S3 R := fun h1 h2 r => w2s_plusT (by omega) r
      have p3 : ∀ {us vs ws : List D} {S3 : Sto} {R : D → Sto → Prop}, us.length ≤ 20 → vs.length ≤ 20 → ws.length ≤ 20 → R (.tup (us ++ vs ++ ws)) S3 → w2s (fPlus fLst) (.tup (us ++ vs)) (.tup ws) S3 R := fun h1 h2 h3 r => w2s_plusT (by rw [List.length_append]; omega) r
      have z1 : ∀ {y : D}, [y].length ≤ 20 := by intro y; simp
      refine ⟨fun hc => ?_, fun hc => ?_⟩
      · have hp := hb hc
        walk_at "u"
        refine wF_len (xs := xs) rfl ?_
        refine w2_mod (by omega) ?_
        rw [fmod_nat]
        have hr : a % xs.length < xs.length := Nat.mod_lt _ hp
        generalize a % xs.length = r at hr
        walk_at "u"
        refine w2_ix rfl (atI_nat (List.getElem?_eq_getElem hr)) ?_
        walk_at "u"
        refine spoilt_w j k (by omega) hs2 hT (by omega) (hx _ (List.getElem_mem hr)) fun y S3 hs3 hy => ?_
        walk_at "u"
        refine p2 l1 z1 ?_
        walk_at "u"
        refine p3 l1 z1 l1 ?_
        exact fin (e3 l1 z1 l1) (app (app c1 (one hy)) c1) hs3
      · walk_at "u"
        refine take_w hs2 hT (by omega) (by omega) fun way S3 hs3 hway => ?_
        walk_at "u"
        refine wS_seq ?_
        walk_at "u"
        walk_at "if"
        · walk_at "u"
          refine p2 l1 l1 ?_
          exact fin (e2 l1 l1) (app c1 c1) hs3
        walk_at "u"
        refine wS_seq ?_
        walk_at "u"
        walk_at "if"
        · walk_at "u"
          refine p2 l1 l1 ?_
          walk_at "u"
          refine p3 l1 l1 l1 ?_
          exact fin (e3 l1 l1 l1) (app (app c1 c1) c1) hs3
        walk_at "u"
        refine wS_seq ?_
        walk_at "u"
        walk_at "if"
        · walk_at "u"
          refine p2 l1 l1 ?_
          exact fin (e2 l1 l1) (app c1 c1) hs3
        walk_at "u"
        refine wS_seq ?_
        walk_at "u"
        walk_at "if"
        · walk_at "u"
          exact fin1 rfl hs3
        walk_at "u"
        refine wS_seq ?_
        walk_at "u"
        walk_at "if"
        · walk_at "u"
          refine p2 l1 z1 ?_
          walk_at "u"
          refine p3 l1 z1 l1 ?_
          exact fin (e3 l1 z1 l1) (app (app c1 (one rfl)) c1) hs3
        walk_at "u"
        refine wS_seq ?_
        walk_at "u"
        walk_at "if"
        · walk_at "u"
          refine p2 l1 z1 ?_
          walk_at "u"
          refine p3 l1 z1 l1 ?_
          exact fin (e3 l1 z1 l1) (app (app c1 (one (tr_int.mpr (by decide)))) c1) hs3
        walk_at "u"
        refine wS_seq ?_
        walk_at "u"
        walk_at "if"
        · walk_at "u"
          refine wSlS_tup (by decide) (Nat.le_trans rev_len (by omega)) ?_
          exact fin (Nat.le_trans rev_len (by omega)) (fun y hy => hup y (pick_mem y hy)) hs3
        walk_at "u"
        walk_at "if"
        · walk_at "u"
          have tr : ∀ x ∈ [D.non, .int 0, .str "", .tup (cutD xs none (some 1)), .bl true], trB 100 (k + 3 + 1) x = true := fun x hx => by
            simp only [List.mem_cons, List.not_mem_nil, or_false] at hx
            rcases hx with z | z | z | z | z <;> rw [z]
            · rfl
            · exact tr_int.mpr (by decide)
            · exact str_ok _
            · exact tr_tup (Nat.le_trans l1 (by omega)) c1
            · rfl
          refine pick_w hs3 hT (by simp) (by simp) (fun x hx => ⟨tr_clos (tr x hx), tr_obj (tr x hx)⟩) fun x S4 hs4 hx => ?_
          have hm := tr x hx
          exact wFin_M (U := []) h (by rw [List.append_nil]; exact hs4) hT (tr_clos hm) (tr_obj hm) fun S' h' => q _ S' h' hm
        · walk_at "u"
          have tr : ∀ x ∈ [D.int 1, .non, .str "in"], trB 100 (k + 3) x = true := fun x hx => by
            simp only [List.mem_cons, List.not_mem_nil, or_false] at hx
            rcases hx with z | z | z <;> rw [z]
            · exact tr_int.mpr (by decide)
            · rfl
            · exact str_ok _
          refine pick_w hs3 hT (by simp) (by simp) (fun x hx => ⟨tr_clos (tr x hx), tr_obj (tr x hx)⟩) fun x S4 hs4 hx => ?_
          walk_at "u"
          refine p2 l1 z1 ?_
          walk_at "u"
          refine p3 l1 z1 l1 ?_
          exact fin (e3 l1 z1 l1) (app (app c1 (one (tr x hx))) c1) hs4
end LW

set_option maxRecDepth 100000
set_option maxHeartbeats 4000000
namespace LW
open PySem DL PL
open Classical
local macro_rules | `(tactic| walk_at "env") => `(tactic| (simp only [startD, List.map_cons, List.map_nil, List.length_cons, List.length_nil, Nat.reduceAdd, Nat.reduceSub, List.replicate, List.cons_append, List.nil_append, wipeD, List.set]; try rfl))
local macro_rules | `(tactic| walk_at "sto") => `(tactic| (simp only [List.cons_append, List.nil_append, List.set, List.set_cons_zero, List.set_cons_succ, Int.toNat_natCast, Int.reduceToNat]; try rfl))
local macro_rules | `(tactic| walk_at "if") => `(tactic| (refine ⟨fun hc => ?_, fun hc => ?_⟩ <;> simp only [decide_eq_true_eq, decide_eq_false_iff_not, Bool.not_eq_true', Bool.not_eq_false', bne_iff_ne, ne_eq, beq_iff_eq] at hc <;> try (exfalso; first | assumption | omega | (simp at hc; done))))
local macro_rules | `(tactic| walk_at "side") => `(tactic| first | assumption | omega | decide | (simp; done) | (simp; omega))
local macro_rules | `(tactic| walk_at "mul") => `(tactic| first | assumption | exact mul_sm (by first | decide | omega) | exact mul_sm' (by first | decide | omega))
local macro_rules | `(tactic| walk_at "div") => `(tactic| first | assumption | exact div_sm (by omega) (by omega))
local macro_rules | `(tactic| walk_at "w1") => `(tactic| first
  | (guard_target = wS _ (List.set _ _ _) _ _ _; refine wS_env (by walk_at "env") ?_)
  | (guard_target = wE _ (List.set _ _ _) _ _; refine wE_env (by walk_at "env") ?_)
  | (guard_target = wG _ _ (wipeD _ _) _ _; refine wG_env (by walk_at "env") ?_)
  | (guard_target = wS _ (startD _ _) _ _ _; refine wS_env (by walk_at "env") ?_)
  | (guard_target = wS (sSeq (sSet _ _) _) _ _ _ _; refine wS_seq ?_)
  | (guard_target = wS (sSeq (sAsg _ _) _) _ _ _ _; refine wS_seq ?_)
  | (guard_target = wS (sSeq (sExpr _) _) _ _ _ _; refine wS_seq ?_)
  | (guard_target = wS (sSeq (sPar _ _ _) _) _ _ _ _; refine wS_seq ?_)
  | (guard_target = wS (sSeq (sPar3 _ _ _ _) _) _ _ _ _; refine wS_seq ?_)
  | (guard_target = wS (sSeq (sAug _ _ _) _) _ _ _ _; refine wS_seq ?_)
  | (guard_target = wS (sSeq (sSeq _ _) _) _ _ _ _; refine wS_seq ?_)
  | (guard_target = wS _ _ (List.set _ _ _) _ _; refine wS_sto (by walk_at "sto") ?_)
  | (guard_target = wE _ _ (List.set _ _ _) _; refine wE_sto (by walk_at "sto") ?_)
  | (guard_target = wG (gIx _ _) _ _ _ _; refine wG_ix2 ?_)
  | (guard_target = ∃ (_ : Nat) (_ : Int) (_ : Nat) (_ : List D), _; refine ⟨_, _, _, _, rfl, rfl, rfl, rfl, ?_⟩)
  | (guard_target = wS (sSet _ _) _ _ _ _; refine wS_set ?_)
  | (guard_target = wS (sRet _) _ _ _ _; refine wS_ret ?_)
  | (guard_target = wS (sExpr _) _ _ _ _; refine wS_expr ?_)
  | (guard_target = wS sPass _ _ _ _; refine wS_pass ?_)
  | (guard_target = wS sBreak _ _ _ _; refine wS_break ?_)
  | (guard_target = wS sCont _ _ _ _; refine wS_cont ?_)
  | (guard_target = wS (sIf _ _ _) _ _ _ _; refine wS_if ?_)
  | (guard_target = wS (sAsg _ _) _ _ _ _; refine wS_asg ?_)
  | (guard_target = wS (sPar _ _ _) _ _ _ _; refine wS_par ?_)
  | (guard_target = wS (sPar3 _ _ _ _) _ _ _ _; refine wS_par3 ?_)
  | (guard_target = wS (sAug _ _ _) _ _ _ _; refine wS_aug rfl ?_)
  | (guard_target = wE (eV _) _ _ _; refine wE_v rfl ?_)
  | (guard_target = wE (eC _) _ _ _; refine wE_c ?_)
  | (guard_target = wE (e1 _ _) _ _ _; refine wE_1 ?_)
  | (guard_target = wE (e2 _ _ _) _ _ _; refine wE_2 ?_)
  | (guard_target = wE (e2s _ _ _) _ _ _; refine wE_2s ?_)
  | (guard_target = wE (eA _ _) _ _ _; refine wE_A ?_)
  | (guard_target = wA (aCons _ _) _ _ _; refine wA_cons ?_)
  | (guard_target = wA aNil _ _ _; refine wA_nil ?_)
  | (guard_target = wE (eM _ _ _) _ _ _; refine wE_M ?_)
  | (guard_target = wE (eAnd _ _) _ _ _; refine wE_and ?_)
  | (guard_target = wE (eOr _ _) _ _ _; refine wE_or ?_)
  | (guard_target = wE (eIf _ _ _) _ _ _; refine wE_if ?_)
  | (guard_target = wE (eChain _ _ _ _ _) _ _ _; refine wE_chain ?_)
  | (guard_target = wE (eLc _ _ _ tYesD _ _) _ _ _; refine wE_lcR ?_)
  | (guard_target = wE (eLc2 _ _ _ tYesD _ _ tYesD _ _ _) _ _ _; refine wE_lc2R ?_)
  | (guard_target = wE (eBl _) _ _ _; refine wE_bl ?_)
  | (guard_target = wE (eSl _ _ _ _) _ _ _; refine wE_sl ?_)
  | (guard_target = wE (eSlS _ _ _ _) _ _ _; refine wE_slS ?_)
  | (guard_target = wO oNo _ _ _; refine wO_no ?_)
  | (guard_target = wO (oSome _) _ _ _; refine wO_some ?_)
  | (guard_target = ∃ _ : Int, _; refine ⟨_, rfl, ?_⟩)
  | (guard_target = wSl _ (.tup _) _ _ _ _; refine wSl_tup ?_)
  | (guard_target = wSl _ (.lst _) _ _ _ _; refine wSl_lst ?_)
  | (guard_target = wSl _ (.scr _) _ _ _ _; refine wSl_scr ?_)
  | (guard_target = wT (tBl _) _ _ _; refine wT_bl ?_)
  | (guard_target = wT (tTru _) _ _ _; refine wT_tru ?_)
  | (guard_target = wT (tNotD _) _ _ _; refine wT_not ?_)
  | (guard_target = wT (tAndD _ _) _ _ _; refine wT_and ?_)
  | (guard_target = wT (tOrD _ _) _ _ _; refine wT_or ?_)
  | (guard_target = wT (tIfD _ _ _) _ _ _; refine wT_if ?_)
  | (guard_target = wT tYesD _ _ _; refine wT_yes ?_)
  | (guard_target = wT (tGenQ _ _ _ tYesD _ _) _ _ _; refine wT_genR ?_)
  | (guard_target = wT (tGenQ2 _ _ _ tYesD _ _ tYesD _ _ _) _ _ _; refine wT_gen2R ?_)
  | (guard_target = wI (iSeq _) _ _ _; refine wI_seqR ?_)
  | (guard_target = wI (iRange1 _) _ _ _; refine wI_rangeR ?_)
  | (guard_target = wI (iRange2 _ _) _ _ _; refine wI_range2R ?_)
  | (guard_target = wI (iZip (aCons _ (aCons _ aNil))) _ _ _; refine wI_zipR ?_)
  | (guard_target = wI (iEnum (aCons _ aNil)) _ _ _; refine wI_enumR ?_)
  | (guard_target = wG (gNm _) _ _ _ _; refine wG_nm ?_)
  | (guard_target = wG (gTp _ _) (.lst _) _ _ _; refine wG_tpL rfl ?_)
  | (guard_target = wG (gTp _ _) _ _ _ _; refine wG_tp rfl ?_)
  | (guard_target = wGs (gsCons _ _) _ _ _ _; refine wGs_cons ?_)
  | (guard_target = wGs gsNil _ _ _ _; refine wGs_nil ?_)
  | (guard_target = w2 fAdd _ _ _ _; refine w2_add ?_)
  | (guard_target = w2 fSub _ _ _ _; refine w2_sub ?_)
  | (guard_target = w2 fMul _ _ _ _; refine w2_mul (by walk_at "mul") ?_)
  | (guard_target = w2 fDiv _ _ _ _; refine w2_div (by walk_at "div") ?_)
  | (guard_target = w2 fMod _ _ _ _; refine w2_mod (by walk_at "side") ?_)
  | (guard_target = w2 (fCmp _) _ _ _ _; refine w2_cmp ?_)
  | (guard_target = w2 fEq (.int _) (.int _) _ _; refine w2_eqI ?_)
  | (guard_target = w2 fNe (.int _) (.int _) _ _; refine w2_neI ?_)
  | (guard_target = w2 fIx _ (.int _) _ _; refine w2_eq rfl ?_)
  | (guard_target = w2 fIx _ (.int 0) _ _; refine w2_ix0 rfl (by walk_at "side") ?_)
  | (guard_target = w2 fIx _ (.int (Nat.cast _)) _ _; refine w2_ixR rfl (by walk_at "side") ?_)
  | (guard_target = w2s (fPlus _) (.int _) (.int _) _ _; refine w2s_plusI ?_)
  | (guard_target = w2s (fTimes _) (.int _) (.int _) _ _; refine w2s_timesI (by walk_at "mul") ?_)
  | (guard_target = w2 fPow (.int _) (.int _) _ _; refine w2_pow (by decide) (by decide) (by decide) ?_)
  | (guard_target = w2 fIsB _ _ _ _; refine w2_eq rfl ?_)
  | (guard_target = w2 fNotB _ _ _ _; refine w2_eq rfl ?_)
  | (guard_target = w2 fIsN _ _ _ _; refine w2_eq rfl ?_)
  | (guard_target = w2 fNotN _ _ _ _; refine w2_eq rfl ?_)
  | (guard_target = w1 _ _ _ _; refine w1_eq rfl ?_)
  | (guard_target = wTru _ _ _; refine wTru_eq rfl ?_)
  | (guard_target = wF fTup _ _ _; refine wF_tup (by walk_at "side") ?_)
  | (guard_target = wF fLst _ _ _; refine wF_lst (by walk_at "side") ?_)
  | (guard_target = wF fObj _ _ _; refine wF_obj (by walk_at "side") ?_)
  | (guard_target = wF fLen [dQ _] _ _; refine wF_len2 ?_)
  | (guard_target = wF fLen _ _ _; refine wF_lenR rfl ?_)
  | (guard_target = wF fAbs _ _ _; refine wF_abs ?_)
  | (guard_target = wF fInt1 [.int _] _ _; refine wF_int ?_)
  | (guard_target = wF fInt1 [.bl _] _ _; refine wF_intB ?_)
  | (guard_target = wF fListF _ _ _; refine wF_listF rfl ?_)
  | (guard_target = wF fListO _ _ _; refine wF_listO rfl ?_)
  | (guard_target = wF fTupOf _ _ _; refine wF_tupOf rfl ?_)
  | (guard_target = wF fSum _ _ _; refine wF_sumR rfl ?_)
  | (guard_target = wF fMax2 _ _ _; refine wF_max2 ?_)
  | (guard_target = wF fMin2 _ _ _; refine wF_min2 ?_)
  | (guard_target = (false = true → _) ∧ _; refine ⟨fun h => (nomatch h), fun _ => ?_⟩)
  | (guard_target = (true = true → _) ∧ _; refine ⟨fun _ => ?_, fun h => (nomatch h)⟩)
  | (guard_target = ((!false) = true → _) ∧ _; refine ⟨fun _ => ?_, fun h => (nomatch h)⟩)
  | (guard_target = ((!true) = true → _) ∧ _; refine ⟨fun h => (nomatch h), fun _ => ?_⟩)
  | (guard_target = (isNon _ = true → _) ∧ _; first | refine ⟨fun h => absurd h Bool.false_ne_true, fun _ => ?_⟩ | refine ⟨fun _ => ?_, fun h => absurd h.symm Bool.false_ne_true⟩)
  | (guard_target = ((!isNon _) = true → _) ∧ _; first | refine ⟨fun h => absurd h Bool.false_ne_true, fun _ => ?_⟩ | refine ⟨fun _ => ?_, fun h => absurd h.symm Bool.false_ne_true⟩)
  | (guard_target = (_ = true → _) ∧ (_ = false → _); first | refine ⟨fun h => absurd h (by decide), fun _ => ?_⟩ | refine ⟨fun _ => ?_, fun h => absurd h (by decide)⟩)
  | (guard_target = (_ = _) ∧ _; refine ⟨rfl, ?_⟩)
  | (guard_target = _ ∧ (_ = _); refine ⟨?_, rfl⟩)
  | (guard_target = True ∧ _; refine ⟨trivial, ?_⟩)
  | (guard_target = ∃ _ : Bool, _; refine ⟨_, rfl, ?_⟩)
  | (guard_target = ∃ (_ _ : D), _; refine ⟨_, _, rfl, ?_⟩)
  | (guard_target = ∃ (_ _ _ : D), _; refine ⟨_, _, _, rfl, ?_⟩)
  | rfl)
local macro_rules | `(tactic| walk_at "w") => `(tactic| repeat' (walk_at "w1"))
local macro_rules | `(tactic| walk_at "v") => `(tactic| repeat' ((fail_if_success (guard_target = wE (eLc _ _ _ _ _ _) _ _ _)); walk_at "w1"))
local macro_rules | `(tactic| walk_at "g") => `(tactic| (repeat' (first
  | (guard_target = wG (gNm _) _ _ _ _; refine wG_nm ?_)
  | (guard_target = wG (gTp _ _) _ _ _ _; refine wG_tp rfl ?_)
  | (guard_target = wGs (gsCons _ _) _ _ _ _; refine wGs_cons ?_)
  | (guard_target = wGs gsNil _ _ _ _; refine wGs_nil ?_)
  | (guard_target = wS _ (List.set _ _ _) _ _ _; refine wS_env (by walk_at "env") ?_)
  | (guard_target = wE _ (List.set _ _ _) _ _; refine wE_env (by walk_at "env") ?_))))
local macro_rules | `(tactic| walk_at "u") => `(tactic| repeat' ((fail_if_success (guard_target = wE (eLc _ _ _ _ _ _) _ _ _)); (fail_if_success (guard_target = wE (eLc2 _ _ _ _ _ _ _ _ _ _) _ _ _)); (fail_if_success (guard_target = wT (tGenQ _ _ _ _ _ _) _ _ _)); (fail_if_success (guard_target = wT (tGenQ2 _ _ _ _ _ _ _ _ _ _) _ _ _)); walk_at "w1"))
/-- a value with the numbers that it is asked with -/
def tri (t : D × Nat × Nat) : D := .lst [t.1, .int (t.2.1 : Nat), .int (t.2.2 : Nat)]
def Good (t : D × Nat × Nat) : Prop := trB 100 9 t.1 = true ∧ 1 ≤ t.2.2 ∧ t.2.2 ≤ 16
theorem tri_clos {n : Nat} {ws : List (D × Nat × Nat)} (h : ∀ t ∈ ws, Good t) : closL n (ws.map tri) = true := closL_of fun x hx => by
  obtain ⟨t, ht, rfl⟩ := List.mem_map.mp hx
  exact clos_lst (closL_cons (tr_clos (h t ht).1) (closL_cons rfl (closL_cons rfl rfl)))
theorem good_app {us vs : List (D × Nat × Nat)} (h1 : ∀ t ∈ us, Good t) (h2 : ∀ t ∈ vs, Good t) : ∀ t ∈ us ++ vs, Good t := fun t ht => by
  rcases List.mem_append.mp ht with z | z
  · exact h1 t z
  · exact h2 t z
theorem told_w {T S : Sto} {m k : Nat} {yss : List (List D)} {Q : D → Sto → Prop} (h : St pf T S) (hT : Cl pf T) (hm : yss.length = m) (hm1 : 1 ≤ m) (hm2 : m ≤ 12) (hk1 : 1 ≤ k) (hk2 : k ≤ 12) (hk : ∀ ys ∈ yss, ys.length = k ∧ ∀ y ∈ ys, intT 1 y = true) (q : ∀ S', St pf T S' → Q (.bl true) S') : wF F__law_tables_are_told [.obj 0, .tup (yss.map D.tup)] S Q := by
  have hy3 : ∀ ys ∈ yss, ∀ y ∈ ys, trB 100 4 y = true := fun ys hys y hy => tr_mono (by omega) (by omega) (it_tr ((hk ys hys).2 y hy))
  have hrow : ∀ ys ∈ yss, trB 100 5 (.tup ys) = true := fun ys hys => tr_tup (by have := (hk ys hys).1; omega) (hy3 ys hys)
  have hrow' : ∀ x ∈ yss.map D.tup, trB 100 8 x = true := fun x hx => by
    obtain ⟨ys, hys, rfl⟩ := List.mem_map.mp hx
    exact tr_mono (by omega) (by omega) (hrow ys hys)
  have htab : trB 100 9 (.tup (yss.map D.tup)) = true := tr_tup (by simp; omega) hrow'
  have hlen : (yss.map D.tup).length = m := by rw [List.length_map, hm]
  have lc : ∀ {l h : Option Int}, (cutD (yss.map D.tup) l h).length ≤ 12 := Nat.le_trans cut_len (by omega)
  have cm : ∀ {l h : Option Int}, ∀ x ∈ cutD (yss.map D.tup) l h, trB 100 8 x = true := fun x hx => hrow' x (cut_mem x hx)
  have app : ∀ {e : Nat} {us vs : List D}, (∀ x ∈ us, trB 100 e x = true) → (∀ x ∈ vs, trB 100 e x = true) → ∀ x ∈ us ++ vs, trB 100 e x = true := fun h1 h2 x hx => by
    rcases List.mem_append.mp hx with z | z
    · exact h1 x z
    · exact h2 x z
  have one : ∀ {e : Nat} {y : D}, trB 100 e y = true → ∀ x ∈ [y], trB 100 e x = true := fun h x hx => by rw [List.mem_singleton.mp hx]; exact h
  have p2 : ∀ {us vs : List D} {S3 : Sto} {R : D → Sto → Prop}, us.length ≤ 20 → vs.length ≤ 20 → R (.tup (us ++ vs)) S3 → w2s (fPlus fLst) (.tup us) (.tup vs) S3 R := fun h1 h2 r => w2s_plusT (by omega) r
  have p3 : ∀ {us vs ws : List D} {S3 : Sto} {R : D → Sto → Prop}, us.length ≤ 20 → vs.length ≤ 20 → ws.length ≤ 20 → R (.tup (us ++ vs ++ ws)) S3 → w2s (fPlus fLst) (.tup (us ++ vs)) (.tup ws) S3 R := fun h1 h2 h3 r => w2s_plusT (by rw [List.length_append]; omega) r
  have z1 : ∀ {y : D}, [y].length ≤ 20 := by intro y; simp
  -- a table with a row put in
  have put : ∀ {y : D} (a b : Option Int), trB 100 8 y = true → trB 100 9 (.tup (cutD (yss.map D.tup) none a ++ [y] ++ cutD (yss.map D.tup) b none)) = true := fun a b hy => tr_tup (by
    have h1 := @lc none a
    have h2 := @lc b none
    simp only [List.length_append, List.length_singleton]
    omega) (app (app cm (one hy)) cm)
  unfold F__law_tables_are_told t__law_tables_are_told
  refine wF_fn rfl ?_
  walk_at "u"
  refine wF_len (xs := yss.map D.tup) rfl ?_
  rw [hlen]
  walk_at "u"
  have h00 : (yss.map D.tup)[0]? = some (.tup (yss.getD 0 [])) := by rw [List.getElem?_map]; cases yss with | nil => simp at hm; omega | cons y r => rfl
  refine w2_ix (xs := yss.map D.tup) rfl (atI_nat (i := 0) h00) ?_
  walk_at "u"
  refine wF_len (xs := yss.getD 0 []) rfl ?_
  have h0k : (yss.getD 0 []).length = k := by cases yss with | nil => simp at hm; omega | cons y r => exact (hk y List.mem_cons_self).1
  rw [h0k]
  walk_at "u"
  refine take_w h hT (by omega) (by omega) fun a S1 hs1 ha => ?_
  have ha : a < yss.length := by omega
  walk_at "u"
  refine take_w hs1 hT (by omega) (by omega) fun j S2 hs2 hj => ?_
  have hj : j < k := by omega
  walk_at "u"
  obtain ⟨ys, hys, hye⟩ : ∃ ys, ys ∈ yss ∧ (yss.map D.tup)[a]? = some (.tup ys) := ⟨yss[a], List.getElem_mem ha, by rw [List.getElem?_map, List.getElem?_eq_getElem ha]; rfl⟩
  have hyk := (hk ys hys).1
  have lr : ∀ {l h : Option Int}, (cutD ys l h).length ≤ 12 := Nat.le_trans cut_len (by omega)
  have cr : ∀ {l h : Option Int}, ∀ x ∈ cutD ys l h, trB 100 7 x = true := fun x hx => tr_mono (by omega) (by omega) (hy3 ys hys x (cut_mem x hx))
  have lc20 : ∀ {l h : Option Int}, (cutD (yss.map D.tup) l h).length ≤ 20 := Nat.le_trans lc (by omega)
  have lr20 : ∀ {l h : Option Int}, (cutD ys l h).length ≤ 20 := Nat.le_trans lr (by omega)
  refine p2 (by omega) lc20 ?_
  walk_at "u"
  refine wSlS_tup (by decide) (Nat.le_trans rev_len (by omega)) ?_
  walk_at "u"
  obtain ⟨ws, hws, hgood, hwl⟩ : ∃ ws : List (D × Nat × Nat), [D.lst [D.tup (yss.map D.tup), .int (m : Int), .int (k : Int)], D.lst [D.tup (yss.map D.tup), .int (m : Int), .int (k : Int)], D.lst [D.tup (yss.map D.tup), .int ((m : Int) + 1), .int (k : Int)], D.lst [D.tup (yss.map D.tup), .int (m : Int), .int ((k : Int) + 1)], D.lst [D.tup (yss.map D.tup), .int (k : Int), .int (m : Int)], D.lst [D.tup (cutD (yss.map D.tup) (some 1) none), .int (m : Int), .int (k : Int)], D.lst [D.tup (yss.map D.tup ++ cutD (yss.map D.tup) none (some 1)), .int (m : Int), .int (k : Int)], D.lst [D.tup (pickL (yss.map D.tup) (stepIx (yss.map D.tup).length none none (some (-1)))), .int (m : Int), .int (k : Int)]] = ws.map tri ∧ (∀ t ∈ ws, Good t) ∧ ws.length ≤ 8 := by
    refine ⟨[(.tup (yss.map D.tup), m, k), (.tup (yss.map D.tup), m, k), (.tup (yss.map D.tup), m + 1, k), (.tup (yss.map D.tup), m, k + 1), (.tup (yss.map D.tup), k, m), (.tup (cutD (yss.map D.tup) (some 1) none), m, k), (.tup (yss.map D.tup ++ cutD (yss.map D.tup) none (some 1)), m, k), (.tup (pickL (yss.map D.tup) (stepIx (yss.map D.tup).length none none (some (-1)))), m, k)], rfl, fun t ht => ?_, by simp⟩
    simp only [List.mem_cons, List.not_mem_nil, or_false] at ht
    have l20 := @lc none (some 1)
    rcases ht with z | z | z | z | z | z | z | z <;> rw [z]
    · exact ⟨htab, by show 1 ≤ k; omega, by show k ≤ 16; omega⟩
    · exact ⟨htab, by show 1 ≤ k; omega, by show k ≤ 16; omega⟩
    · exact ⟨htab, by show 1 ≤ k; omega, by show k ≤ 16; omega⟩
    · exact ⟨htab, by show 1 ≤ k + 1; omega, by show k + 1 ≤ 16; omega⟩
    · exact ⟨htab, by show 1 ≤ m; omega, by show m ≤ 16; omega⟩
    · exact ⟨tr_tup (Nat.le_trans lc (by omega)) cm, by show 1 ≤ k; omega, by show k ≤ 16; omega⟩
    · exact ⟨tr_tup (by rw [List.length_append]; omega) (app hrow' cm), by show 1 ≤ k; omega, by show k ≤ 16; omega⟩
    · exact ⟨tr_tup (Nat.le_trans rev_len (by omega)) fun x hx => hrow' x (pick_mem x hx), by show 1 ≤ k; omega, by show k ≤ 16; omega⟩
  rw [hws, hs2.len]
  have hs3 := hs2.push (c := .lst (ws.map tri))
  have hTw : ∀ {ws : List (D × Nat × Nat)}, (∀ t ∈ ws, Good t) → Cl pf (T ++ [.lst (ws.map tri)]) := fun h => hT.push (tri_clos h)
  -- the rows with one part new
  refine wS_cut (fun ρ S' => ∃ (ws : List (D × Nat × Nat)) (x7 x8 : Option D), (∀ t ∈ ws, Good t) ∧ ws.length ≤ 40 ∧ St pf (T ++ [.lst (ws.map tri)]) S' ∧ ρ = [some (.obj 0), some (.tup (yss.map D.tup)), some (.int (m : Nat)), some (.int (k : Nat)), some (.int (a : Nat)), some (.int (j : Nat)), some (.obj (pf.n + T.length)), x7, x8, none, none, none, none, none, none]) ?_ ?_
  · refine wS_for (α := D) (fun i ρ S' => ∃ (ws : List (D × Nat × Nat)) (x7 x8 : Option D), (∀ t ∈ ws, Good t) ∧ ws.length ≤ 8 + i ∧ St pf (T ++ [.lst (ws.map tri)]) S' ∧ ρ = [some (.obj 0), some (.tup (yss.map D.tup)), some (.int (m : Nat)), some (.int (k : Nat)), some (.int (a : Nat)), some (.int (j : Nat)), some (.obj (pf.n + T.length)), x7, x8, none, none, none, none, none, none]) ?_
    refine wI_seq ?_
    walk_at "u"
    refine ⟨_, _, rfl, _, id, (List.map_id _).symm, ⟨ws, none, none, hgood, by omega, hs3, rfl⟩, fun i x ρ S' hi ⟨ws, x7, x8, hgood, hwl, hs, eq⟩ => ?_, fun ρ S' ⟨ws, x7, x8, hgood, hwl, hs, eq⟩ => ⟨ws, x7, x8, hgood, by simp at hwl; omega, hs, eq⟩⟩
    subst eq
    have hmx := List.mem_of_getElem? hi
    have hil := (List.getElem?_eq_some_iff.mp hi).1
    have hx : trB 100 7 x = true := by
      simp only [List.mem_cons, List.not_mem_nil, or_false] at hmx
      have : trB 2 2 x = true := by rcases hmx with z | z | z | z | z | z | z | z | z | z | z <;> rw [z] <;> rfl
      exact tr_mono (by omega) (by omega) this
    clear hmx
    refine wG_nm ?_
    refine wS_env (by walk_at "env") ?_
    walk_at "u"
    refine w2_ix (xs := yss.map D.tup) rfl (atI_nat hye) ?_
    walk_at "u"
    refine p2 lr20 z1 ?_
    walk_at "u"
    refine w2_ix (xs := yss.map D.tup) rfl (atI_nat hye) ?_
    walk_at "u"
    refine p3 lr20 z1 lr20 ?_
    walk_at "u"
    refine ⟨_, _, rfl, hs.last, ?_⟩
    walk_at "u"
    refine p2 lc20 z1 ?_
    walk_at "u"
    refine p3 lc20 z1 lc20 ?_
    walk_at "u"
    refine wM_append hs.last (by simp at hil ⊢; omega) ?_
    have hs9 := hs.setLast (c' := .lst (ws.map tri ++ [tri (.tup (cutD (yss.map D.tup) none (some (a : Int)) ++ [.tup (cutD ys none (some (j : Int)) ++ [x] ++ cutD ys (some ((j : Int) + 1)) none)] ++ cutD (yss.map D.tup) (some ((a : Int) + 1)) none), m, k)]))
    have e9 : ∀ t : D × Nat × Nat, ws.map tri ++ [tri t] = (ws ++ [t]).map tri := fun t => by rw [List.map_append]; rfl
    rw [e9] at hs9
    refine ⟨trivial, ws ++ [(.tup (cutD (yss.map D.tup) none (some (a : Int)) ++ [.tup (cutD ys none (some (j : Int)) ++ [x] ++ cutD ys (some ((j : Int) + 1)) none)] ++ cutD (yss.map D.tup) (some ((a : Int) + 1)) none), m, k)], _, _, good_app hgood fun t ht => ?_, by rw [List.length_append, List.length_singleton]; omega, ?_, rfl⟩
    · rw [List.mem_singleton.mp ht]
      refine ⟨put _ _ (tr_tup ?_ (app (app cr (one hx)) cr)), by show 1 ≤ k; omega, by show k ≤ 16; omega⟩
      have h1 := @lr none (some (j : Int))
      have h2 := @lr (some ((j : Int) + 1)) none
      simp only [List.length_append, List.length_singleton]
      omega
    · rw [← e9]
      rw [← e9] at hs9
      exact hs9
  rintro ρ S4 ⟨ws, x7, x8, hgood, hwl, hs4, rfl⟩
  -- the rows new
  refine wS_cut (fun ρ S' => ∃ (ws : List (D × Nat × Nat)) (x7 x8 : Option D), (∀ t ∈ ws, Good t) ∧ ws.length ≤ 80 ∧ St pf (T ++ [.lst (ws.map tri)]) S' ∧ ρ = [some (.obj 0), some (.tup (yss.map D.tup)), some (.int (m : Nat)), some (.int (k : Nat)), some (.int (a : Nat)), some (.int (j : Nat)), some (.obj (pf.n + T.length)), x7, x8, none, none, none, none, none, none]) ?_ ?_
  · refine wS_for (α := D) (fun i ρ S' => ∃ (ws : List (D × Nat × Nat)) (x7 x8 : Option D), (∀ t ∈ ws, Good t) ∧ ws.length ≤ 40 + i ∧ St pf (T ++ [.lst (ws.map tri)]) S' ∧ ρ = [some (.obj 0), some (.tup (yss.map D.tup)), some (.int (m : Nat)), some (.int (k : Nat)), some (.int (a : Nat)), some (.int (j : Nat)), some (.obj (pf.n + T.length)), x7, x8, none, none, none, none, none, none]) ?_
    refine wI_seq ?_
    walk_at "u"
    refine w2_ix (xs := yss.map D.tup) rfl (atI_nat hye) ?_
    walk_at "u"
    refine p2 (by omega) z1 ?_
    walk_at "u"
    refine w2_ix (xs := yss.map D.tup) rfl (atI_nat hye) ?_
    walk_at "u"
    refine w2s_rep (m := k) hk1 (by omega) ?_
    walk_at "u"
    refine ⟨_, _, rfl, _, id, (List.map_id _).symm, ⟨ws, x7, x8, hgood, by omega, hs4, rfl⟩, fun i x ρ S' hi ⟨ws, x7, x8, hgood, hwl, hs, eq⟩ => ?_, fun ρ S' ⟨ws, x7, x8, hgood, hwl, hs, eq⟩ => ⟨ws, x7, x8, hgood, by simp at hwl; omega, hs, eq⟩⟩
    subst eq
    have hmx := List.mem_of_getElem? hi
    have hil := (List.getElem?_eq_some_iff.mp hi).1
    have h01 : trB 100 7 (.tup [.int 0, .int 1]) = true := tr_mono (by omega : 2 ≤ 100) (by omega : 2 ≤ 7) rfl
    have hx : trB 100 8 x = true := by
      simp only [List.mem_cons, List.not_mem_nil, or_false] at hmx
      rcases hmx with z | z | z | z | z | z | z <;> rw [z]
      · rfl
      · rfl
      · exact tr_tup (by simp; omega) (app (fun x hx => tr_mono (by omega) (by omega) (hy3 ys hys x hx)) (one h01))
      · exact tr_tup (Nat.le_trans lr (by omega)) cr
      · exact tr_tup (by simp; omega) fun x hx => by obtain ⟨_, _, rfl⟩ := rg_mem.mp hx; exact h01
      · exact str_ok _
      · exact tr_int.mpr (by decide)
    clear hmx
    refine wG_nm ?_
    refine wS_env (by walk_at "env") ?_
    walk_at "u"
    refine ⟨_, _, rfl, hs.last, ?_⟩
    walk_at "u"
    refine p2 lc20 z1 ?_
    walk_at "u"
    refine p3 lc20 z1 lc20 ?_
    walk_at "u"
    refine wM_append hs.last (by simp at hil ⊢; omega) ?_
    have hs9 := hs.setLast (c' := .lst (ws.map tri ++ [tri (.tup (cutD (yss.map D.tup) none (some (a : Int)) ++ [x] ++ cutD (yss.map D.tup) (some ((a : Int) + 1)) none), m, k)]))
    have e9 : ∀ t : D × Nat × Nat, ws.map tri ++ [tri t] = (ws ++ [t]).map tri := fun t => by rw [List.map_append]; rfl
    refine ⟨trivial, ws ++ [(.tup (cutD (yss.map D.tup) none (some (a : Int)) ++ [x] ++ cutD (yss.map D.tup) (some ((a : Int) + 1)) none), m, k)], _, _, good_app hgood fun t ht => ?_, by rw [List.length_append, List.length_singleton]; omega, ?_, rfl⟩
    · rw [List.mem_singleton.mp ht]
      exact ⟨put _ _ hx, by show 1 ≤ k; omega, by show k ≤ 16; omega⟩
    · rw [← e9]
      exact hs9
  rintro ρ S5 ⟨ws, x7, x8, hgood, hwl, hs5, rfl⟩
  walk_at "u"
  refine wE_lc (α := D) ?_
  refine wI_seq ?_
  walk_at "u"
  refine ⟨_, _, rfl, [.non, .int 0, .tup [], .str "table", .bl true, .tup [.tup (yss.map D.tup)]], id, fun x => tri (x, m, k), (List.map_id _).symm, trivial, fun x hx => ?_, ?_⟩
  · walk_at "u"
  refine wF_lst (by simp) ?_
  refine w2s_plusL (xs := ws.map tri) (by simp only [lstD, hs5.last]) rfl ?_
  refine wF_lst (by simp; omega) ?_
  walk_at "u"
  refine wE_lcRI (β := D) (fun _ S' => St pf (T ++ [.lst (ws.map tri)]) S') (fun d => tri (d, m, k)) (fun _ d => trB 100 9 d = true) ?_
  walk_at "u"
  have hit : intT 3 (.tup (yss.map D.tup)) = true := it_tup (by simp; omega) fun x hx => by
    obtain ⟨ys, hys, rfl⟩ := List.mem_map.mp hx
    exact it_tup (by have := (hk ys hys).1; omega) (hk ys hys).2
  refine ⟨6, rfl, by omega, 6, _, rfl, hs5, fun i S6 hi hs6 => ?_, fun ds S6 hs6 hds => ?_⟩
  · walk_at "u"
    refine take_w hs6 (hTw hgood) (by omega) (by omega) fun r S7 hs7 hr => ?_
    walk_at "u"
    refine spoilt_w 8 3 (by omega) hs7 (hTw hgood) (by omega) hit fun d S8 hs8 hd => ?_
    walk_at "u"
    exact ⟨d, rfl, tr_mono (by omega) (by omega) hd, trivial, hs8⟩
  refine wF_lst (by simp) ?_
  refine w2s_plusL rfl rfl ?_
  obtain ⟨ws2, hws2, hgood2, hwl2⟩ : ∃ ws2 : List (D × Nat × Nat), (ws.map tri ++ [D.non, .int 0, .tup [], .str "table", .bl true, .tup [.tup (yss.map D.tup)]].map fun x => tri (x, m, k)) ++ (rg 6 fun i => tri (ds i, m, k)) = ws2.map tri ∧ (∀ t ∈ ws2, Good t) ∧ ws2.length ≤ 200 := by
    refine ⟨ws ++ ([D.non, .int 0, .tup [], .str "table", .bl true, .tup [.tup (yss.map D.tup)]].map fun x => (x, m, k)) ++ (rg 6 fun i => (ds i, m, k)), ?_, good_app (good_app hgood fun t ht => ?_) fun t ht => ?_, by simp; omega⟩
    · rw [List.map_append, List.map_append, List.map_map, rg_map]
      rfl
    · obtain ⟨x, hx, rfl⟩ := List.mem_map.mp ht
      refine ⟨?_, by show 1 ≤ k; omega, by show k ≤ 16; omega⟩
      simp only [List.mem_cons, List.not_mem_nil, or_false] at hx
      rcases hx with z | z | z | z | z | z <;> rw [z]
      · rfl
      · exact tr_int.mpr (by decide)
      · rfl
      · exact str_ok _
      · rfl
      · have h5 : trB 100 8 (.tup (yss.map D.tup)) = true := tr_mono (by omega) (by omega) (it_tr hit)
        exact tr_tup (by simp) (one h5)
    · obtain ⟨i, hi, rfl⟩ := rg_mem.mp ht
      exact ⟨hds i hi, by show 1 ≤ k; omega, by show k ≤ 16; omega⟩
  refine wF_objS hs6 (by rw [hws2, List.length_map]; omega) ?_
  rw [hws2]
  intro hs7
  generalize S6 ++ [Cell.lst (ws2.map tri)] = S7 at hs7
  walk_at "u"
  refine wE_lc (α := List D) ?_
  refine wI_seq ?_
  walk_at "u"
  refine ⟨_, _, rfl, yss, D.tup, fun ys => .tup (ys ++ [.tup [.int 0, .int 1]]), rfl, trivial, fun ys hys => ?_, ?_⟩
  · walk_at "u"
    refine p2 (by have := (hk ys hys).1; omega) z1 ?_
    exact ⟨rfl, rfl⟩
  refine wF_lst (by simp; omega) ?_
  walk_at "u"
  have h01 : trB 100 7 (.tup [.int 0, .int 1]) = true := tr_mono (by omega : 2 ≤ 100) (by omega : 2 ≤ 7) rfl
  have hhalf : trB 100 9 (.tup (yss.map fun ys => .tup (ys ++ [.tup [.int 0, .int 1]]))) = true := tr_tup (by simp; omega) fun x hx => by
    obtain ⟨ys, hys, rfl⟩ := List.mem_map.mp hx
    exact tr_tup (by have := (hk ys hys).1; simp; omega) (app (fun x hx => tr_mono (by omega) (by omega) (hy3 ys hys x hx)) (one h01))
  refine wS_cut (fun ρ S' => St pf (T ++ [Cell.lst (ws.map tri)] ++ [Cell.lst (ws2.map tri)]) S') ?_ ?_
  · refine wS_for (α := D × Nat × Nat) (fun i ρ S' => S' = S7 ∧ ∃ (x10 x12 x13 x14 : Option D), ρ = [some (.obj 0), some (.tup (yss.map D.tup)), some (.int (m : Nat)), some (.int (k : Nat)), some (.int (a : Nat)), some (.int (j : Nat)), some (.obj (pf.n + (T ++ [Cell.lst (ws.map tri)]).length)), x7, x8, none, x10, some (.tup (yss.map fun ys => .tup (ys ++ [.tup [.int 0, .int 1]]))), x12, x13, x14]) ?_
    refine wI_seq ?_
    walk_at "u"
    refine w2s_plusL (xs := ws2.map tri) (by simp only [lstD, hs7.last]) rfl ?_
    refine wF_lst (by simp; omega) ?_
    have hg3 : ∀ t ∈ ws2 ++ [(.tup (yss.map fun ys => .tup (ys ++ [.tup [.int 0, .int 1]])), m, k), (.tup (yss.map fun ys => .tup (ys ++ [.tup [.int 0, .int 1]])), m, k + 1)], Good t := good_app hgood2 fun t ht => by
      simp only [List.mem_cons, List.not_mem_nil, or_false] at ht
      rcases ht with z | z <;> rw [z]
      · exact ⟨hhalf, by show 1 ≤ k; omega, by show k ≤ 16; omega⟩
      · exact ⟨hhalf, by show 1 ≤ k + 1; omega, by show k + 1 ≤ 16; omega⟩
    refine ⟨_, _, rfl, ws2 ++ [(.tup (yss.map fun ys => .tup (ys ++ [.tup [.int 0, .int 1]])), m, k), (.tup (yss.map fun ys => .tup (ys ++ [.tup [.int 0, .int 1]])), m, k + 1)], tri, by rw [List.map_append]; rfl, ⟨rfl, none, none, none, none, rfl⟩, fun i t ρ S' hi ⟨e1, x10, x12, x13, x14, e2⟩ => ?_, fun ρ S' ⟨e1, _⟩ => by rw [e1]; exact hs7⟩
    subst e1 e2
    obtain ⟨g1, g2, g3⟩ := hg3 t (List.mem_of_getElem? hi)
    obtain ⟨d, p, r⟩ := t
    show wG _ (.lst [d, .int (p : Nat), .int (r : Nat)]) _ _ _
    walk_at "u"
    refine wF_eq (E_istab g1 (by omega) (by omega) g3 _) ?_
    walk_at "u"
    refine wF_eq (F_istab g1 g2 g3 _) ?_
    walk_at "u"
    refine wF_eq (E_due _) ?_
    rw [beq_self_eq_true]
    walk_at "u"
    refine wF_eq (show F_is_table (pick [0, 1, 2] [d, .int (p : Nat), .int (r : Nat)]) S' = some (.bl (tblV p r d), S') from F_istab g1 g2 g3 _) ?_
    walk_at "u"
    refine wF_eq (E_due _) ?_
    rw [beq_self_eq_true]
    walk_at "u"
    exact ⟨_, _, _, _, rfl⟩
  · intro ρ S' hs9
    walk_at "u"
    refine wFin_M (U := [Cell.lst (ws.map tri)] ++ [Cell.lst (ws2.map tri)]) h (by rw [← List.append_assoc]; exact hs9) hT rfl rfl fun S9 h9 => q S9 h9
end LW

set_option maxRecDepth 100000
set_option maxHeartbeats 4000000
namespace LW
open PySem DL PL
open Classical
local macro_rules | `(tactic| walk_at "env") => `(tactic| (simp only [startD, List.map_cons, List.map_nil, List.length_cons, List.length_nil, Nat.reduceAdd, Nat.reduceSub, List.replicate, List.cons_append, List.nil_append, wipeD, List.set]; try rfl))
local macro_rules | `(tactic| walk_at "sto") => `(tactic| (simp only [List.cons_append, List.nil_append, List.set, List.set_cons_zero, List.set_cons_succ, Int.toNat_natCast, Int.reduceToNat]; try rfl))
local macro_rules | `(tactic| walk_at "if") => `(tactic| (refine ⟨fun hc => ?_, fun hc => ?_⟩ <;> simp only [decide_eq_true_eq, decide_eq_false_iff_not, Bool.not_eq_true', Bool.not_eq_false', bne_iff_ne, ne_eq, beq_iff_eq] at hc <;> try (exfalso; first | assumption | omega | (simp at hc; done))))
local macro_rules | `(tactic| walk_at "side") => `(tactic| first | assumption | omega | decide | (simp; done) | (simp; omega))
local macro_rules | `(tactic| walk_at "mul") => `(tactic| first | assumption | exact mul_sm (by first | decide | omega) | exact mul_sm' (by first | decide | omega))
local macro_rules | `(tactic| walk_at "div") => `(tactic| first | assumption | exact div_sm (by omega) (by omega))
local macro_rules | `(tactic| walk_at "w1") => `(tactic| first
  | (guard_target = wS _ (List.set _ _ _) _ _ _; refine wS_env (by walk_at "env") ?_)
  | (guard_target = wE _ (List.set _ _ _) _ _; refine wE_env (by walk_at "env") ?_)
  | (guard_target = wG _ _ (wipeD _ _) _ _; refine wG_env (by walk_at "env") ?_)
  | (guard_target = wS _ (startD _ _) _ _ _; refine wS_env (by walk_at "env") ?_)
  | (guard_target = wS (sSeq (sSet _ _) _) _ _ _ _; refine wS_seq ?_)
  | (guard_target = wS (sSeq (sAsg _ _) _) _ _ _ _; refine wS_seq ?_)
  | (guard_target = wS (sSeq (sExpr _) _) _ _ _ _; refine wS_seq ?_)
  | (guard_target = wS (sSeq (sPar _ _ _) _) _ _ _ _; refine wS_seq ?_)
  | (guard_target = wS (sSeq (sPar3 _ _ _ _) _) _ _ _ _; refine wS_seq ?_)
  | (guard_target = wS (sSeq (sAug _ _ _) _) _ _ _ _; refine wS_seq ?_)
  | (guard_target = wS (sSeq (sSeq _ _) _) _ _ _ _; refine wS_seq ?_)
  | (guard_target = wS _ _ (List.set _ _ _) _ _; refine wS_sto (by walk_at "sto") ?_)
  | (guard_target = wE _ _ (List.set _ _ _) _; refine wE_sto (by walk_at "sto") ?_)
  | (guard_target = wG (gIx _ _) _ _ _ _; refine wG_ix2 ?_)
  | (guard_target = ∃ (_ : Nat) (_ : Int) (_ : Nat) (_ : List D), _; refine ⟨_, _, _, _, rfl, rfl, rfl, rfl, ?_⟩)
  | (guard_target = wS (sSet _ _) _ _ _ _; refine wS_set ?_)
  | (guard_target = wS (sRet _) _ _ _ _; refine wS_ret ?_)
  | (guard_target = wS (sExpr _) _ _ _ _; refine wS_expr ?_)
  | (guard_target = wS sPass _ _ _ _; refine wS_pass ?_)
  | (guard_target = wS sBreak _ _ _ _; refine wS_break ?_)
  | (guard_target = wS sCont _ _ _ _; refine wS_cont ?_)
  | (guard_target = wS (sIf _ _ _) _ _ _ _; refine wS_if ?_)
  | (guard_target = wS (sAsg _ _) _ _ _ _; refine wS_asg ?_)
  | (guard_target = wS (sPar _ _ _) _ _ _ _; refine wS_par ?_)
  | (guard_target = wS (sPar3 _ _ _ _) _ _ _ _; refine wS_par3 ?_)
  | (guard_target = wS (sAug _ _ _) _ _ _ _; refine wS_aug rfl ?_)
  | (guard_target = wE (eV _) _ _ _; refine wE_v rfl ?_)
  | (guard_target = wE (eC _) _ _ _; refine wE_c ?_)
  | (guard_target = wE (e1 _ _) _ _ _; refine wE_1 ?_)
  | (guard_target = wE (e2 _ _ _) _ _ _; refine wE_2 ?_)
  | (guard_target = wE (e2s _ _ _) _ _ _; refine wE_2s ?_)
  | (guard_target = wE (eA _ _) _ _ _; refine wE_A ?_)
  | (guard_target = wA (aCons _ _) _ _ _; refine wA_cons ?_)
  | (guard_target = wA aNil _ _ _; refine wA_nil ?_)
  | (guard_target = wE (eM _ _ _) _ _ _; refine wE_M ?_)
  | (guard_target = wE (eAnd _ _) _ _ _; refine wE_and ?_)
  | (guard_target = wE (eOr _ _) _ _ _; refine wE_or ?_)
  | (guard_target = wE (eIf _ _ _) _ _ _; refine wE_if ?_)
  | (guard_target = wE (eChain _ _ _ _ _) _ _ _; refine wE_chain ?_)
  | (guard_target = wE (eLc _ _ _ tYesD _ _) _ _ _; refine wE_lcR ?_)
  | (guard_target = wE (eLc2 _ _ _ tYesD _ _ tYesD _ _ _) _ _ _; refine wE_lc2R ?_)
  | (guard_target = wE (eBl _) _ _ _; refine wE_bl ?_)
  | (guard_target = wE (eSl _ _ _ _) _ _ _; refine wE_sl ?_)
  | (guard_target = wE (eSlS _ _ _ _) _ _ _; refine wE_slS ?_)
  | (guard_target = wO oNo _ _ _; refine wO_no ?_)
  | (guard_target = wO (oSome _) _ _ _; refine wO_some ?_)
  | (guard_target = ∃ _ : Int, _; refine ⟨_, rfl, ?_⟩)
  | (guard_target = wSl _ (.tup _) _ _ _ _; refine wSl_tup ?_)
  | (guard_target = wSl _ (.lst _) _ _ _ _; refine wSl_lst ?_)
  | (guard_target = wSl _ (.scr _) _ _ _ _; refine wSl_scr ?_)
  | (guard_target = wT (tBl _) _ _ _; refine wT_bl ?_)
  | (guard_target = wT (tTru _) _ _ _; refine wT_tru ?_)
  | (guard_target = wT (tNotD _) _ _ _; refine wT_not ?_)
  | (guard_target = wT (tAndD _ _) _ _ _; refine wT_and ?_)
  | (guard_target = wT (tOrD _ _) _ _ _; refine wT_or ?_)
  | (guard_target = wT (tIfD _ _ _) _ _ _; refine wT_if ?_)
  | (guard_target = wT tYesD _ _ _; refine wT_yes ?_)
  | (guard_target = wT (tGenQ _ _ _ tYesD _ _) _ _ _; refine wT_genR ?_)
  | (guard_target = wT (tGenQ2 _ _ _ tYesD _ _ tYesD _ _ _) _ _ _; refine wT_gen2R ?_)
  | (guard_target = wI (iSeq _) _ _ _; refine wI_seqR ?_)
  | (guard_target = wI (iRange1 _) _ _ _; refine wI_rangeR ?_)
  | (guard_target = wI (iRange2 _ _) _ _ _; refine wI_range2R ?_)
  | (guard_target = wI (iZip (aCons _ (aCons _ aNil))) _ _ _; refine wI_zipR ?_)
  | (guard_target = wI (iEnum (aCons _ aNil)) _ _ _; refine wI_enumR ?_)
  | (guard_target = wG (gNm _) _ _ _ _; refine wG_nm ?_)
  | (guard_target = wG (gTp _ _) (.lst _) _ _ _; refine wG_tpL rfl ?_)
  | (guard_target = wG (gTp _ _) _ _ _ _; refine wG_tp rfl ?_)
  | (guard_target = wGs (gsCons _ _) _ _ _ _; refine wGs_cons ?_)
  | (guard_target = wGs gsNil _ _ _ _; refine wGs_nil ?_)
  | (guard_target = w2 fAdd _ _ _ _; refine w2_add ?_)
  | (guard_target = w2 fSub _ _ _ _; refine w2_sub ?_)
  | (guard_target = w2 fMul _ _ _ _; refine w2_mul (by walk_at "mul") ?_)
  | (guard_target = w2 fDiv _ _ _ _; refine w2_div (by walk_at "div") ?_)
  | (guard_target = w2 fMod _ _ _ _; refine w2_mod (by walk_at "side") ?_)
  | (guard_target = w2 (fCmp _) _ _ _ _; refine w2_cmp ?_)
  | (guard_target = w2 fEq (.int _) (.int _) _ _; refine w2_eqI ?_)
  | (guard_target = w2 fNe (.int _) (.int _) _ _; refine w2_neI ?_)
  | (guard_target = w2 fIx _ (.int _) _ _; refine w2_eq rfl ?_)
  | (guard_target = w2 fIx _ (.int 0) _ _; refine w2_ix0 rfl (by walk_at "side") ?_)
  | (guard_target = w2 fIx _ (.int (Nat.cast _)) _ _; refine w2_ixR rfl (by walk_at "side") ?_)
  | (guard_target = w2s (fPlus _) (.int _) (.int _) _ _; refine w2s_plusI ?_)
  | (guard_target = w2s (fTimes _) (.int _) (.int _) _ _; refine w2s_timesI (by walk_at "mul") ?_)
  | (guard_target = w2 fPow (.int _) (.int _) _ _; refine w2_pow (by decide) (by decide) (by decide) ?_)
  | (guard_target = w2 fIsB _ _ _ _; refine w2_eq rfl ?_)
  | (guard_target = w2 fNotB _ _ _ _; refine w2_eq rfl ?_)
  | (guard_target = w2 fIsN _ _ _ _; refine w2_eq rfl ?_)
  | (guard_target = w2 fNotN _ _ _ _; refine w2_eq rfl ?_)
  | (guard_target = w1 _ _ _ _; refine w1_eq rfl ?_)
  | (guard_target = wTru _ _ _; refine wTru_eq rfl ?_)
  | (guard_target = wF fTup _ _ _; refine wF_tup (by walk_at "side") ?_)
  | (guard_target = wF fLst _ _ _; refine wF_lst (by walk_at "side") ?_)
  | (guard_target = wF fObj _ _ _; refine wF_obj (by walk_at "side") ?_)
  | (guard_target = wF fLen [dQ _] _ _; refine wF_len2 ?_)
  | (guard_target = wF fLen _ _ _; refine wF_lenR rfl ?_)
  | (guard_target = wF fAbs _ _ _; refine wF_abs ?_)
  | (guard_target = wF fInt1 [.int _] _ _; refine wF_int ?_)
  | (guard_target = wF fInt1 [.bl _] _ _; refine wF_intB ?_)
  | (guard_target = wF fListF _ _ _; refine wF_listF rfl ?_)
  | (guard_target = wF fListO _ _ _; refine wF_listO rfl ?_)
  | (guard_target = wF fTupOf _ _ _; refine wF_tupOf rfl ?_)
  | (guard_target = wF fSum _ _ _; refine wF_sumR rfl ?_)
  | (guard_target = wF fMax2 _ _ _; refine wF_max2 ?_)
  | (guard_target = wF fMin2 _ _ _; refine wF_min2 ?_)
  | (guard_target = (false = true → _) ∧ _; refine ⟨fun h => (nomatch h), fun _ => ?_⟩)
  | (guard_target = (true = true → _) ∧ _; refine ⟨fun _ => ?_, fun h => (nomatch h)⟩)
  | (guard_target = ((!false) = true → _) ∧ _; refine ⟨fun _ => ?_, fun h => (nomatch h)⟩)
  | (guard_target = ((!true) = true → _) ∧ _; refine ⟨fun h => (nomatch h), fun _ => ?_⟩)
  | (guard_target = (isNon _ = true → _) ∧ _; first | refine ⟨fun h => absurd h Bool.false_ne_true, fun _ => ?_⟩ | refine ⟨fun _ => ?_, fun h => absurd h.symm Bool.false_ne_true⟩)
  | (guard_target = ((!isNon _) = true → _) ∧ _; first | refine ⟨fun h => absurd h Bool.false_ne_true, fun _ => ?_⟩ | refine ⟨fun _ => ?_, fun h => absurd h.symm Bool.false_ne_true⟩)
  | (guard_target = (_ = true → _) ∧ (_ = false → _); first | refine ⟨fun h => absurd h (by decide), fun _ => ?_⟩ | refine ⟨fun _ => ?_, fun h => absurd h (by decide)⟩)
  | (guard_target = (_ = _) ∧ _; refine ⟨rfl, ?_⟩)
  | (guard_target = _ ∧ (_ = _); refine ⟨?_, rfl⟩)
  | (guard_target = True ∧ _; refine ⟨trivial, ?_⟩)
  | (guard_target = ∃ _ : Bool, _; refine ⟨_, rfl, ?_⟩)
  | (guard_target = ∃ (_ _ : D), _; refine ⟨_, _, rfl, ?_⟩)
  | (guard_target = ∃ (_ _ _ : D), _; refine ⟨_, _, _, rfl, ?_⟩)
  | rfl)
local macro_rules | `(tactic| walk_at "w") => `(tactic| repeat' (walk_at "w1"))
local macro_rules | `(tactic| walk_at "v") => `(tactic| repeat' ((fail_if_success (guard_target = wE (eLc _ _ _ _ _ _) _ _ _)); walk_at "w1"))
local macro_rules | `(tactic| walk_at "g") => `(tactic| (repeat' (first
  | (guard_target = wG (gNm _) _ _ _ _; refine wG_nm ?_)
  | (guard_target = wG (gTp _ _) _ _ _ _; refine wG_tp rfl ?_)
  | (guard_target = wGs (gsCons _ _) _ _ _ _; refine wGs_cons ?_)
  | (guard_target = wGs gsNil _ _ _ _; refine wGs_nil ?_)
  | (guard_target = wS _ (List.set _ _ _) _ _ _; refine wS_env (by walk_at "env") ?_)
  | (guard_target = wE _ (List.set _ _ _) _ _; refine wE_env (by walk_at "env") ?_))))
local macro_rules | `(tactic| walk_at "u") => `(tactic| repeat' ((fail_if_success (guard_target = wE (eLc _ _ _ _ _ _) _ _ _)); (fail_if_success (guard_target = wE (eLc2 _ _ _ _ _ _ _ _ _ _) _ _ _)); (fail_if_success (guard_target = wT (tGenQ _ _ _ _ _ _) _ _ _)); (fail_if_success (guard_target = wT (tGenQ2 _ _ _ _ _ _ _ _ _ _) _ _ _)); walk_at "w1"))
theorem E_lgarb {m n k N : Nat} {t tab : Nat → Nat → Rat} (hn1 : 1 ≤ n) (hm : m ≤ 1000) (hn : n ≤ 1000) (hk : k ≤ 1000) (hs : ∀ i j, i < m → j < n → Sm N (t i j)) (hg : ∀ i j, i < n → j < k → Sm N (tab i j)) (hp : ∀ i j l, i < m → j < k → l ≤ n → Sm (N + N) (rs (fun s => t i s * tab s j) l)) (hN : N ≤ 1000) (S : Sto) : F__law_garbled [dM m n t, dM n k tab] S = some (dM m k (garb n t tab), S) := by
  apply wF_of
  unfold F__law_garbled t__law_garbled
  refine wF_fn rfl ?_
  walk_at "u"
  refine wS_seq ?_
  refine wS_forR (fun w ρ S' => ∃ (J : Sto) (x3 x4 x5 : Option D), S' = S ++ .lst (rg w fun i => dT k (garb n t tab i)) :: J ∧ ρ = [some (dM m n t), some (dM n k tab), some (.obj S.length), x3, x4, x5, none]) ?_
  walk_at "u"
  refine ⟨m, fun i => dT n (t i), fun _ => True, rfl, ?_⟩
  refine ⟨m, _, rfl, ⟨[], none, none, none, rfl, rfl⟩, fun w ρ S' hw ⟨J, x3, x4, x5, e1, e2⟩ => ?_, fun ρ S' ⟨J, x3, x4, x5, e1, e2⟩ => ?_⟩
  · subst e2
    walk_at "u"
    refine wS_seq ?_
    refine wS_forR (fun j ρ S2 => S2 = S' ++ [.lst (rg j fun i => dQ (garb n t tab w i))] ∧ ∃ x5, ρ = [some (dM m n t), some (dM n k tab), some (.obj S.length), some (dT n (t w)), some (.obj S'.length), x5, none]) ?_
    walk_at "u"
    refine ⟨k, rfl, by omega, k, _, rfl, ⟨rfl, _, rfl⟩, fun j ρ S2 hj ⟨e3, x5, e2⟩ => ?_, fun ρ S2 ⟨e3, x5, e2⟩ => ?_⟩
    · subst e3 e2
      walk_at "u"
      refine ⟨_, _, rfl, get_last, ?_⟩
      walk_at "u"
      refine wE_lcR ?_
      walk_at "u"
      refine ⟨n, rfl, by omega, n, _, fun s => dQ (t w s * tab s j), rfl, trivial, fun s hs' => ?_, ?_⟩
      · walk_at "u"
        refine wF_eq (E_lproduct (n := N) (hs w s hw hs') (hg s j hs' hj) (by omega) _) ?_
        exact ⟨rfl, rfl⟩
      · refine wF_lst (by simp; omega) ?_
        walk_at "u"
        refine wF_eq (E_ltot (n := N + N) (m := n) (q := fun s => t w s * tab s j) (.of (.inr rfl)) (fun s hs' => (hs w s hw hs').mul (hg s j hs' hj)) (fun l hl => hp w j l hw hj hl) (by omega)) ?_
        walk_at "u"
        refine wM_append get_last (by simp; omega) ?_
        rw [set_last]
        refine ⟨trivial, ?_, _, rfl⟩
        rw [rg_succ]
        rfl
    · subst e3 e2 e1
      rw [mid_push]
      walk_at "u"
      refine ⟨_, _, rfl, get_mid, ?_⟩
      walk_at "u"
      have hlast : (S ++ Cell.lst (rg w fun i => dT k (garb n t tab i)) :: (J ++ [Cell.lst (rg k fun i => dQ (garb n t tab w i))]))[(S ++ Cell.lst (rg w fun i => dT k (garb n t tab i)) :: J).length]? = some (.lst (rg k fun i => dQ (garb n t tab w i))) := by
        rw [← mid_push]
        exact get_last
      refine wF_tupOf (xs := rg k fun i => dQ (garb n t tab w i)) (by simp only [seqD, hlast]) ?_
      walk_at "u"
      refine wM_append get_mid (by simp; omega) ?_
      rw [set_mid]
      refine ⟨trivial, J ++ [.lst (rg k fun i => dQ (garb n t tab w i))], _, _, _, ?_, rfl⟩
      rw [rg_succ]
      rfl
  · subst e1 e2
    walk_at "u"
    refine wF_tupOf (xs := rg m fun i => dT k (garb n t tab i)) (by simp only [seqD, get_mid]) ?_
    exact wFin_P (clos_dM (t := garb n t tab)) rfl ⟨rfl, rfl⟩
theorem E_composed {m n k Bt' Bg M : Nat} {t tab : Nat → Nat → Rat} (hn1 : 1 ≤ n) (hm2 : m ≤ 1000) (hn2 : n ≤ 1000) (hk2 : k ≤ 1000) (hBt : 0 < Bt') (hBg : 0 < Bg) (ht : ∀ i j, i < m → j < n → PL.In Bt' M (t i j)) (hg : ∀ i j, i < n → j < k → PL.In Bg M (tab i j))
    (h2 : (M + 1) * Bt' < 2 ^ 2000) (h3 : (M + 1) * Bg < 2 ^ 2000) (S : Sto) : F_composed [dM m n t, dM n k tab] S = some (dM m k (garb n t tab), S) := by
  apply wF_of
  unfold F_composed t_composed
  refine wF_fn rfl ?_
  walk_at "u"
  refine wF_eq (E_garbled hn1 hm2 hn2 hk2 hBt hBg ht hg h2 h3 _) ?_
  exact wFin_P0 (clos_dM (t := garb n t tab)) rfl ⟨rfl, rfl⟩
theorem garb_ass {n p : Nat} {t tab oth : Nat → Nat → Rat} {w j : Nat} : garb n t (garb p tab oth) w j = garb p (garb n t tab) oth w j := by
  unfold garb
  have e1 : rs (fun s => t w s * rs (fun i => tab s i * oth i j) p) n = rs (fun s => rs (fun i => t w s * (tab s i * oth i j)) p) n := rs_congr fun s _ => rs_mul.symm
  have e2 : rs (fun i => rs (fun s => t w s * tab s i) n * oth i j) p = rs (fun i => rs (fun s => t w s * (tab s i * oth i j)) n) p := rs_congr fun i _ => by
    rw [← rs_mul']
    exact rs_congr fun s _ => Rat.mul_assoc _ _ _
  rw [e1, e2]
  exact rs_swap
theorem told_dM {T S : Sto} {m k : Nat} {t : Nat → Nat → Rat} {Q : D → Sto → Prop} (h : St pf T S) (hT : Cl pf T) (hm1 : 1 ≤ m) (hm2 : m ≤ 12) (hk1 : 1 ≤ k) (hk2 : k ≤ 12) (ht : ∀ i j, i < m → j < k → Sm 62 (t i j)) (q : ∀ S', St pf T S' → Q (.bl true) S') : wF F__law_tables_are_told [.obj 0, dM m k t] S Q := by
  have e : dM m k t = .tup ((rg m fun i => rg k fun j => dQ (t i j)).map D.tup) := by
    rw [rg_map]
    rfl
  rw [e]
  refine told_w h hT (by simp) hm1 hm2 hk1 hk2 (fun ys hys => ?_) q
  obtain ⟨i, hi, rfl⟩ := rg_mem.mp hys
  refine ⟨by simp, fun y hy => ?_⟩
  obtain ⟨j, hj, rfl⟩ := rg_mem.mp hy
  exact it_dQ (k := 0) (ht i j hi hj)
end LW

set_option maxRecDepth 100000
set_option maxHeartbeats 4000000
namespace LW
open PySem DL PL
open Classical
local macro_rules | `(tactic| walk_at "env") => `(tactic| (simp only [startD, List.map_cons, List.map_nil, List.length_cons, List.length_nil, Nat.reduceAdd, Nat.reduceSub, List.replicate, List.cons_append, List.nil_append, wipeD, List.set]; try rfl))
local macro_rules | `(tactic| walk_at "sto") => `(tactic| (simp only [List.cons_append, List.nil_append, List.set, List.set_cons_zero, List.set_cons_succ, Int.toNat_natCast, Int.reduceToNat]; try rfl))
local macro_rules | `(tactic| walk_at "if") => `(tactic| (refine ⟨fun hc => ?_, fun hc => ?_⟩ <;> simp only [decide_eq_true_eq, decide_eq_false_iff_not, Bool.not_eq_true', Bool.not_eq_false', bne_iff_ne, ne_eq, beq_iff_eq] at hc <;> try (exfalso; first | assumption | omega | (simp at hc; done))))
local macro_rules | `(tactic| walk_at "side") => `(tactic| first | assumption | omega | decide | (simp; done) | (simp; omega))
local macro_rules | `(tactic| walk_at "mul") => `(tactic| first | assumption | exact mul_sm (by first | decide | omega) | exact mul_sm' (by first | decide | omega))
local macro_rules | `(tactic| walk_at "div") => `(tactic| first | assumption | exact div_sm (by omega) (by omega))
local macro_rules | `(tactic| walk_at "w1") => `(tactic| first
  | (guard_target = wS _ (List.set _ _ _) _ _ _; refine wS_env (by walk_at "env") ?_)
  | (guard_target = wE _ (List.set _ _ _) _ _; refine wE_env (by walk_at "env") ?_)
  | (guard_target = wG _ _ (wipeD _ _) _ _; refine wG_env (by walk_at "env") ?_)
  | (guard_target = wS _ (startD _ _) _ _ _; refine wS_env (by walk_at "env") ?_)
  | (guard_target = wS (sSeq (sSet _ _) _) _ _ _ _; refine wS_seq ?_)
  | (guard_target = wS (sSeq (sAsg _ _) _) _ _ _ _; refine wS_seq ?_)
  | (guard_target = wS (sSeq (sExpr _) _) _ _ _ _; refine wS_seq ?_)
  | (guard_target = wS (sSeq (sPar _ _ _) _) _ _ _ _; refine wS_seq ?_)
  | (guard_target = wS (sSeq (sPar3 _ _ _ _) _) _ _ _ _; refine wS_seq ?_)
  | (guard_target = wS (sSeq (sAug _ _ _) _) _ _ _ _; refine wS_seq ?_)
  | (guard_target = wS (sSeq (sSeq _ _) _) _ _ _ _; refine wS_seq ?_)
  | (guard_target = wS _ _ (List.set _ _ _) _ _; refine wS_sto (by walk_at "sto") ?_)
  | (guard_target = wE _ _ (List.set _ _ _) _; refine wE_sto (by walk_at "sto") ?_)
  | (guard_target = wG (gIx _ _) _ _ _ _; refine wG_ix2 ?_)
  | (guard_target = ∃ (_ : Nat) (_ : Int) (_ : Nat) (_ : List D), _; refine ⟨_, _, _, _, rfl, rfl, rfl, rfl, ?_⟩)
  | (guard_target = wS (sSet _ _) _ _ _ _; refine wS_set ?_)
  | (guard_target = wS (sRet _) _ _ _ _; refine wS_ret ?_)
  | (guard_target = wS (sExpr _) _ _ _ _; refine wS_expr ?_)
  | (guard_target = wS sPass _ _ _ _; refine wS_pass ?_)
  | (guard_target = wS sBreak _ _ _ _; refine wS_break ?_)
  | (guard_target = wS sCont _ _ _ _; refine wS_cont ?_)
  | (guard_target = wS (sIf _ _ _) _ _ _ _; refine wS_if ?_)
  | (guard_target = wS (sAsg _ _) _ _ _ _; refine wS_asg ?_)
  | (guard_target = wS (sPar _ _ _) _ _ _ _; refine wS_par ?_)
  | (guard_target = wS (sPar3 _ _ _ _) _ _ _ _; refine wS_par3 ?_)
  | (guard_target = wS (sAug _ _ _) _ _ _ _; refine wS_aug rfl ?_)
  | (guard_target = wE (eV _) _ _ _; refine wE_v rfl ?_)
  | (guard_target = wE (eC _) _ _ _; refine wE_c ?_)
  | (guard_target = wE (e1 _ _) _ _ _; refine wE_1 ?_)
  | (guard_target = wE (e2 _ _ _) _ _ _; refine wE_2 ?_)
  | (guard_target = wE (e2s _ _ _) _ _ _; refine wE_2s ?_)
  | (guard_target = wE (eA _ _) _ _ _; refine wE_A ?_)
  | (guard_target = wA (aCons _ _) _ _ _; refine wA_cons ?_)
  | (guard_target = wA aNil _ _ _; refine wA_nil ?_)
  | (guard_target = wE (eM _ _ _) _ _ _; refine wE_M ?_)
  | (guard_target = wE (eAnd _ _) _ _ _; refine wE_and ?_)
  | (guard_target = wE (eOr _ _) _ _ _; refine wE_or ?_)
  | (guard_target = wE (eIf _ _ _) _ _ _; refine wE_if ?_)
  | (guard_target = wE (eChain _ _ _ _ _) _ _ _; refine wE_chain ?_)
  | (guard_target = wE (eLc _ _ _ tYesD _ _) _ _ _; refine wE_lcR ?_)
  | (guard_target = wE (eLc2 _ _ _ tYesD _ _ tYesD _ _ _) _ _ _; refine wE_lc2R ?_)
  | (guard_target = wE (eBl _) _ _ _; refine wE_bl ?_)
  | (guard_target = wE (eSl _ _ _ _) _ _ _; refine wE_sl ?_)
  | (guard_target = wE (eSlS _ _ _ _) _ _ _; refine wE_slS ?_)
  | (guard_target = wO oNo _ _ _; refine wO_no ?_)
  | (guard_target = wO (oSome _) _ _ _; refine wO_some ?_)
  | (guard_target = ∃ _ : Int, _; refine ⟨_, rfl, ?_⟩)
  | (guard_target = wSl _ (.tup _) _ _ _ _; refine wSl_tup ?_)
  | (guard_target = wSl _ (.lst _) _ _ _ _; refine wSl_lst ?_)
  | (guard_target = wSl _ (.scr _) _ _ _ _; refine wSl_scr ?_)
  | (guard_target = wT (tBl _) _ _ _; refine wT_bl ?_)
  | (guard_target = wT (tTru _) _ _ _; refine wT_tru ?_)
  | (guard_target = wT (tNotD _) _ _ _; refine wT_not ?_)
  | (guard_target = wT (tAndD _ _) _ _ _; refine wT_and ?_)
  | (guard_target = wT (tOrD _ _) _ _ _; refine wT_or ?_)
  | (guard_target = wT (tIfD _ _ _) _ _ _; refine wT_if ?_)
  | (guard_target = wT tYesD _ _ _; refine wT_yes ?_)
  | (guard_target = wT (tGenQ _ _ _ tYesD _ _) _ _ _; refine wT_genR ?_)
  | (guard_target = wT (tGenQ2 _ _ _ tYesD _ _ tYesD _ _ _) _ _ _; refine wT_gen2R ?_)
  | (guard_target = wI (iSeq _) _ _ _; refine wI_seqR ?_)
  | (guard_target = wI (iRange1 _) _ _ _; refine wI_rangeR ?_)
  | (guard_target = wI (iRange2 _ _) _ _ _; refine wI_range2R ?_)
  | (guard_target = wI (iZip (aCons _ (aCons _ aNil))) _ _ _; refine wI_zipR ?_)
  | (guard_target = wI (iEnum (aCons _ aNil)) _ _ _; refine wI_enumR ?_)
  | (guard_target = wG (gNm _) _ _ _ _; refine wG_nm ?_)
  | (guard_target = wG (gTp _ _) (.lst _) _ _ _; refine wG_tpL rfl ?_)
  | (guard_target = wG (gTp _ _) _ _ _ _; refine wG_tp rfl ?_)
  | (guard_target = wGs (gsCons _ _) _ _ _ _; refine wGs_cons ?_)
  | (guard_target = wGs gsNil _ _ _ _; refine wGs_nil ?_)
  | (guard_target = w2 fAdd _ _ _ _; refine w2_add ?_)
  | (guard_target = w2 fSub _ _ _ _; refine w2_sub ?_)
  | (guard_target = w2 fMul _ _ _ _; refine w2_mul (by walk_at "mul") ?_)
  | (guard_target = w2 fDiv _ _ _ _; refine w2_div (by walk_at "div") ?_)
  | (guard_target = w2 fMod _ _ _ _; refine w2_mod (by walk_at "side") ?_)
  | (guard_target = w2 (fCmp _) _ _ _ _; refine w2_cmp ?_)
  | (guard_target = w2 fEq (.int _) (.int _) _ _; refine w2_eqI ?_)
  | (guard_target = w2 fNe (.int _) (.int _) _ _; refine w2_neI ?_)
  | (guard_target = w2 fIx _ (.int _) _ _; refine w2_eq rfl ?_)
  | (guard_target = w2 fIx _ (.int 0) _ _; refine w2_ix0 rfl (by walk_at "side") ?_)
  | (guard_target = w2 fIx _ (.int (Nat.cast _)) _ _; refine w2_ixR rfl (by walk_at "side") ?_)
  | (guard_target = w2s (fPlus _) (.int _) (.int _) _ _; refine w2s_plusI ?_)
  | (guard_target = w2s (fTimes _) (.int _) (.int _) _ _; refine w2s_timesI (by walk_at "mul") ?_)
  | (guard_target = w2 fPow (.int _) (.int _) _ _; refine w2_pow (by decide) (by decide) (by decide) ?_)
  | (guard_target = w2 fIsB _ _ _ _; refine w2_eq rfl ?_)
  | (guard_target = w2 fNotB _ _ _ _; refine w2_eq rfl ?_)
  | (guard_target = w2 fIsN _ _ _ _; refine w2_eq rfl ?_)
  | (guard_target = w2 fNotN _ _ _ _; refine w2_eq rfl ?_)
  | (guard_target = w1 _ _ _ _; refine w1_eq rfl ?_)
  | (guard_target = wTru _ _ _; refine wTru_eq rfl ?_)
  | (guard_target = wF fTup _ _ _; refine wF_tup (by walk_at "side") ?_)
  | (guard_target = wF fLst _ _ _; refine wF_lst (by walk_at "side") ?_)
  | (guard_target = wF fObj _ _ _; refine wF_obj (by walk_at "side") ?_)
  | (guard_target = wF fLen [dQ _] _ _; refine wF_len2 ?_)
  | (guard_target = wF fLen _ _ _; refine wF_lenR rfl ?_)
  | (guard_target = wF fAbs _ _ _; refine wF_abs ?_)
  | (guard_target = wF fInt1 [.int _] _ _; refine wF_int ?_)
  | (guard_target = wF fInt1 [.bl _] _ _; refine wF_intB ?_)
  | (guard_target = wF fListF _ _ _; refine wF_listF rfl ?_)
  | (guard_target = wF fListO _ _ _; refine wF_listO rfl ?_)
  | (guard_target = wF fTupOf _ _ _; refine wF_tupOf rfl ?_)
  | (guard_target = wF fSum _ _ _; refine wF_sumR rfl ?_)
  | (guard_target = wF fMax2 _ _ _; refine wF_max2 ?_)
  | (guard_target = wF fMin2 _ _ _; refine wF_min2 ?_)
  | (guard_target = (false = true → _) ∧ _; refine ⟨fun h => (nomatch h), fun _ => ?_⟩)
  | (guard_target = (true = true → _) ∧ _; refine ⟨fun _ => ?_, fun h => (nomatch h)⟩)
  | (guard_target = ((!false) = true → _) ∧ _; refine ⟨fun _ => ?_, fun h => (nomatch h)⟩)
  | (guard_target = ((!true) = true → _) ∧ _; refine ⟨fun h => (nomatch h), fun _ => ?_⟩)
  | (guard_target = (isNon _ = true → _) ∧ _; first | refine ⟨fun h => absurd h Bool.false_ne_true, fun _ => ?_⟩ | refine ⟨fun _ => ?_, fun h => absurd h.symm Bool.false_ne_true⟩)
  | (guard_target = ((!isNon _) = true → _) ∧ _; first | refine ⟨fun h => absurd h Bool.false_ne_true, fun _ => ?_⟩ | refine ⟨fun _ => ?_, fun h => absurd h.symm Bool.false_ne_true⟩)
  | (guard_target = (_ = true → _) ∧ (_ = false → _); first | refine ⟨fun h => absurd h (by decide), fun _ => ?_⟩ | refine ⟨fun _ => ?_, fun h => absurd h (by decide)⟩)
  | (guard_target = (_ = _) ∧ _; refine ⟨rfl, ?_⟩)
  | (guard_target = _ ∧ (_ = _); refine ⟨?_, rfl⟩)
  | (guard_target = True ∧ _; refine ⟨trivial, ?_⟩)
  | (guard_target = ∃ _ : Bool, _; refine ⟨_, rfl, ?_⟩)
  | (guard_target = ∃ (_ _ : D), _; refine ⟨_, _, rfl, ?_⟩)
  | (guard_target = ∃ (_ _ _ : D), _; refine ⟨_, _, _, rfl, ?_⟩)
  | rfl)
local macro_rules | `(tactic| walk_at "w") => `(tactic| repeat' (walk_at "w1"))
local macro_rules | `(tactic| walk_at "v") => `(tactic| repeat' ((fail_if_success (guard_target = wE (eLc _ _ _ _ _ _) _ _ _)); walk_at "w1"))
local macro_rules | `(tactic| walk_at "g") => `(tactic| (repeat' (first
  | (guard_target = wG (gNm _) _ _ _ _; refine wG_nm ?_)
  | (guard_target = wG (gTp _ _) _ _ _ _; refine wG_tp rfl ?_)
  | (guard_target = wGs (gsCons _ _) _ _ _ _; refine wGs_cons ?_)
  | (guard_target = wGs gsNil _ _ _ _; refine wGs_nil ?_)
  | (guard_target = wS _ (List.set _ _ _) _ _ _; refine wS_env (by walk_at "env") ?_)
  | (guard_target = wE _ (List.set _ _ _) _ _; refine wE_env (by walk_at "env") ?_))))
local macro_rules | `(tactic| walk_at "u") => `(tactic| repeat' ((fail_if_success (guard_target = wE (eLc _ _ _ _ _ _) _ _ _)); (fail_if_success (guard_target = wE (eLc2 _ _ _ _ _ _ _ _ _ _) _ _ _)); (fail_if_success (guard_target = wT (tGenQ _ _ _ _ _ _) _ _ _)); (fail_if_success (guard_target = wT (tGenQ2 _ _ _ _ _ _ _ _ _ _) _ _ _)); walk_at "w1"))
theorem law_holds (ns : List Int) (hl : ns.length ≤ 63) (hb : ∀ z ∈ ns, Builtin.Int.intBits z ≤ 1048576) : F_law [.scr (ns.map D.int)] [] = some (.bl true, []) := by
  apply wF_of
  unfold F_law t_law
  refine wF_fn rfl ?_
  walk_at "u"
  refine start_w hl fun S1 hs1 => ?_
  walk_at "u"
  refine wS_cut (fun ρ S' => ∃ (x2 x3 x4 x5 x6 x7 x8 x9 x10 x11 : Option D), St pf [] S' ∧ ρ = [some (.scr (ns.map D.int)), some (.obj 0), x2, x3, x4, x5, x6, x7, x8, x9, x10, x11]) ?_ ?_
  · refine wS_forR (fun _ ρ S' => ∃ (x2 x3 x4 x5 x6 x7 x8 x9 x10 x11 : Option D), St pf [] S' ∧ ρ = [some (.scr (ns.map D.int)), some (.obj 0), x2, x3, x4, x5, x6, x7, x8, x9, x10, x11]) ?_
    walk_at "u"
    refine ⟨3, rfl, by omega, 3, _, rfl, ⟨none, none, none, none, none, none, none, none, none, none, hs1, rfl⟩, fun i ρ S2 hi ⟨x2, x3, x4, x5, x6, x7, x8, x9, x10, x11, hs2, eq⟩ => ?_, fun ρ S2 h => h⟩
    subst eq
    walk_at "u"
    refine wE_lcRI (β := Nat) (fun _ S' => St pf [] S') (fun z : Nat => D.int (z : Int)) (fun _ z => 1 ≤ z ∧ z ≤ 6) ?_
    walk_at "u"
    refine ⟨3, rfl, by omega, 3, _, rfl, hs2, fun k S3 hk hs3 => ?_, fun z S3 hs3 hz => ?_⟩
    · walk_at "u"
      refine take_w hs3 .nil (by omega) (by omega) fun r1 S4 hs4 hr1 => ?_
      walk_at "u"
      refine take_w hs4 .nil (by omega) (by omega) fun r2 S5 hs5 hr2 => ?_
      walk_at "u"
      have key : ∀ x ∈ [D.int (1 + (r1 : Int)), .int (1 + (r2 : Int)), .int 6], ∃ z : Nat, x = .int (z : Int) ∧ 1 ≤ z ∧ z ≤ 6 := fun x hx => by
        simp only [List.mem_cons, List.not_mem_nil, or_false] at hx
        rcases hx with z | z | z <;> rw [z]
        · exact ⟨1 + r1, by congr 1, by omega, by omega⟩
        · exact ⟨1 + r2, by congr 1, by omega, by omega⟩
        · exact ⟨6, rfl, by omega, by omega⟩
      refine pick_w hs5 .nil (by simp) (by simp) (fun x hx => by obtain ⟨z, rfl, _⟩ := key x hx; exact ⟨rfl, rfl⟩) fun x S6 hs6 hx => ?_
      obtain ⟨z, rfl, h1, h2⟩ := key x hx
      exact ⟨z, rfl, ⟨h1, h2⟩, trivial, hs6⟩
    refine wF_lst (by simp) ?_
    show wG _ (.lst [.int (z 0 : Nat), .int (z 1 : Nat), .int (z 2 : Nat)]) _ _ _
    obtain ⟨n, hn⟩ : ∃ n, n = z 0 := ⟨_, rfl⟩
    obtain ⟨p0, hp0⟩ : ∃ n, n = z 1 := ⟨_, rfl⟩
    obtain ⟨k, hk⟩ : ∃ n, n = z 2 := ⟨_, rfl⟩
    obtain ⟨hn1, hn2⟩ := hz 0 (by omega)
    obtain ⟨hp1, hp2⟩ := hz 1 (by omega)
    obtain ⟨hk1, hk2⟩ := hz 2 (by omega)
    rw [← hn] at hn1 hn2 ⊢
    rw [← hp0] at hp1 hp2 ⊢
    rw [← hk] at hk1 hk2 ⊢
    clear hz hn hp0 hk
    walk_at "u"
    refine take_w hs3 .nil (by omega) (by omega) fun r S4 hs4 hr => ?_
    walk_at "u"
    rw [show (1 + (r : Int)) = ((1 + r : Nat) : Int) from by omega]
    obtain ⟨m, hm⟩ : ∃ m, m = 1 + r := ⟨_, rfl⟩
    rw [← hm]
    have hm1 : 1 ≤ m := by omega
    have hm6 : m ≤ 6 := by omega
    clear hm hr
    refine telling_w hs4 .nil hm1 (by omega) hn1 (by omega) fun n' t S5 hs5 hn3 hn4 ht => ?_
    have hn7 : n' ≤ 7 := by omega
    walk_at "u"
    refine table_w hs5 .nil (by omega) hp1 (by omega) fun tab0 S6 hs6 htab0 => ?_
    walk_at "u"
    refine table_w hs6 .nil (by omega) hk1 (by omega) fun oth0 S7 hs7 hoth0 => ?_
    walk_at "u"
    refine wS_cut (fun ρ S' => ∃ (p : Nat) (tab oth : Nat → Nat → Rat), 1 ≤ p ∧ p ≤ 12 ∧ (∀ i, i < n' → Row 12 p (tab i)) ∧ (∀ i, i < p → Row 12 k (oth i)) ∧ St pf [] S' ∧ ρ = [some (.scr (ns.map D.int)), some (.obj 0), some (.int (i : Nat)), some (dM m n' t), x4, x5, some (.int (n : Nat)), some (.int (p0 : Nat)), some (.int (k : Nat)), some (dM n' p tab), some (dM p k oth), x11]) ?_ ?_
    · walk_at "u"
      refine take_w hs7 .nil (by omega) (by omega) fun r S8 hs8 hr => ?_
      walk_at "u"
      walk_at "if"
      · walk_at "u"
        refine table_w (n := 12) hs8 .nil (by omega) (by omega) (by omega) fun tab S9 hs9 htab => ?_
        walk_at "u"
        refine table_w (m := 12) hs9 .nil (by omega) hk1 (by omega) fun oth S10 hs10 hoth => ?_
        walk_at "u"
        exact ⟨12, tab, oth, by omega, by omega, htab, hoth, hs10, rfl⟩
      · walk_at "u"
        exact ⟨p0, tab0, oth0, hp1, by omega, htab0, hoth0, hs8, rfl⟩
    rintro ρ S8 ⟨p, tab, oth, hq1, hq2, htab, hoth, hs8, rfl⟩
    have itab : ∀ i j, i < n' → j < p → PL.In 12 1 (tab i j) := fun i j hi hj => (htab i hi).inB j hj
    have ioth : ∀ i j, i < p → j < k → PL.In 12 1 (oth i j) := fun i j hi hj => (hoth i hi).inB j hj
    have igar : ∀ i j, i < m → j < p → PL.In 288 7 (garb n' t tab i j) := fun i j hi hj => (In.rs (by decide) fun s hs => (ht i s hi hs).mul (by decide) (by decide) (itab s j hs hj)).mono (Nat.dvd_refl _) (by omega)
    have iboth : ∀ i j, i < n' → j < k → PL.In 144 12 (garb p tab oth i j) := fun i j hi hj => (In.rs (by decide) fun s hs => (itab i s hi hs).mul (by decide) (by decide) (ioth s j hs hj)).mono (Nat.dvd_refl _) (by omega)
    refine wS_seq ?_
    walk_at "u"
    refine told_dM hs8 .nil hn3 (by omega) hq1 hq2 (fun i j hi hj => (itab i j hi hj).s60 (by decide) (by decide) (by decide) (by decide)) fun S9 hs9 => ?_
    walk_at "u"
    have g1 := fun S => E_lgarb (S := S) (N := 60) (k := p) hn3 (by omega : m ≤ 1000) (by omega) (by omega) (fun i j hi hj => (ht i j hi hj).s60 (by decide) (by decide) (by decide) (by decide)) (fun i j hi hj => (itab i j hi hj).s60 (by decide) (by decide) (by decide) (by decide)) (fun i j l hi hj hl => ((In.rs_le (by decide) (fun s hs => (ht i s hi hs).mul (by decide) (by decide) (itab s j hs hj)) hl).mono (N := 7) (Nat.dvd_refl _) (by omega)).s60 (by decide) (by decide) (by decide) (by decide)) (by omega)
    refine wF_eq (g1 _) ?_
    walk_at "u"
    have f1 := fun S => E_garbled (S := S) (k := p) hn3 (by omega : m ≤ 1000) (by omega) (by omega) (by decide) (by decide) ht itab (by decide) (by decide)
    refine wS_seq ?_
    walk_at "u"
    refine wF_eq (f1 _) ?_
    walk_at "u"
    refine wF_eq (same_dM (k := 4) (by omega) (by omega) _) ?_
    walk_at "u"
    refine wF_eq (show F_garbled (pick [0, 1] [dM m n' t, dM n' p tab]) S9 = some (dM m p (garb n' t tab), S9) from f1 _) ?_
    walk_at "u"
    refine wF_eq (same_dM (k := 4) (by omega) (by omega) _) ?_
    walk_at "u"
    have g2 := fun S => E_lgarb (S := S) (N := 60) (k := k) hq1 (by omega : n' ≤ 1000) (by omega) (by omega) (fun i j hi hj => (itab i j hi hj).s60 (by decide) (by decide) (by decide) (by decide)) (fun i j hi hj => (ioth i j hi hj).s60 (by decide) (by decide) (by decide) (by decide)) (fun i j l hi hj hl => ((In.rs_le (by decide) (fun s hs => (itab i s hi hs).mul (by decide) (by decide) (ioth s j hs hj)) hl).mono (N := 12) (Nat.dvd_refl _) (by omega)).s60 (by decide) (by decide) (by decide) (by decide)) (by omega)
    refine wF_eq (g2 _) ?_
    walk_at "u"
    have f2 := fun S => E_composed (S := S) (k := k) hq1 (by omega : n' ≤ 1000) (by omega) (by omega) (by decide) (by decide) itab ioth (by decide) (by decide)
    refine wS_seq ?_
    walk_at "u"
    refine wF_eq (f2 _) ?_
    walk_at "u"
    refine wF_eq (same_dM (k := 4) (by omega) (by omega) _) ?_
    walk_at "u"
    refine wF_eq (show F_composed (pick [0, 1] [dM n' p tab, dM p k oth]) S9 = some (dM n' k (garb p tab oth), S9) from f2 _) ?_
    walk_at "u"
    refine wF_eq (same_dM (k := 4) (by omega) (by omega) _) ?_
    walk_at "u"
    refine wF_eq (f2 _) ?_
    walk_at "u"
    refine wF_eq (E_garbled (M := 12) (k := k) hn3 (by omega : m ≤ 1000) (by omega) (by omega) (by decide) (by decide) (fun i j hi hj => (ht i j hi hj).mono (Nat.dvd_refl _) (by omega)) iboth (by decide) (by decide) _) ?_
    walk_at "u"
    refine wF_eq (E_lgarb (N := 60) (k := k) hq1 (by omega : m ≤ 1000) (by omega) (by omega) (fun i j hi hj => (igar i j hi hj).s60 (by decide) (by decide) (by decide) (by decide)) (fun i j hi hj => (ioth i j hi hj).s60 (by decide) (by decide) (by decide) (by decide)) (fun i j l hi hj hl => ((In.rs_le (by decide) (fun s hs => (igar i s hi hs).mul (by decide) (by decide) (ioth s j hs hj)) hl).mono (N := 84) (Nat.dvd_refl _) (by omega)).s60 (by decide) (by decide) (by decide) (by decide)) (by omega) _) ?_
    walk_at "u"
    rw [show dM m k (garb n' t (garb p tab oth)) = dM m k (garb p (garb n' t tab) oth) from dM_congr fun i j _ _ => garb_ass]
    refine wF_eq (same_dM (k := 4) (by omega) (by omega) _) ?_
    walk_at "u"
    exact ⟨_, _, _, _, _, _, _, _, _, _, hs9, rfl⟩
  · rintro ρ S' ⟨x2, x3, x4, x5, x6, x7, x8, x9, x10, x11, hs, rfl⟩
    walk_at "u"
    obtain ⟨P, _, rfl⟩ := hs
    exact wFin_P rfl rfl ⟨rfl, rfl⟩
end LW

set_option maxRecDepth 100000
set_option maxHeartbeats 4000000
set_option pp.maxSteps 900
namespace LW
open PySem PySem.Spec PyProof.Rows L2 GX DL LamX
theorem all_mk {l : PySem.W.OpenLaw} {w : World} {K : PySem.W.Frag} {mg : Str → Option Value} {fa : Addr} {h : Heap} {q : Program} (KX : K.In h) (Gn : h.Ns mainGlobals mg) (hfa : mg "law" = some (.ref fa))
    (own : ∀ y : Str, ((recsOf q).any fun e => e.name == y) = true → ∀ f, mg y = some (.ref f) → OwnTab K f h)
    (hlaw : ∀ ns : List Int, ns.length ≤ 63 → (∀ z ∈ ns, Builtin.Int.intBits z ≤ 1048576) → F_law [.scr (ns.map D.int)] [] = some (.bl true, []))
    {f_is_whole c_is_whole : Addr} {od_is_whole an_is_whole : Option Addr} {sl_is_whole : Array (Option Value)} {oc_is_whole kV_is_whole dc_is_whole pm_is_whole ct_is_whole : Value}
    (a_is_whole : PySem.W.nsIn K mainGlobals "is_whole" = some (some (.ref f_is_whole))) (l_is_whole : K.lookup f_is_whole = some ⟨oc_is_whole, od_is_whole, .func (PySem.W.fnOf "is_whole" "is_whole" (defArgs s_is_whole) (defBody s_is_whole) (defScope s_is_whole) .none kV_is_whole dc_is_whole pm_is_whole an_is_whole (.ref c_is_whole) ct_is_whole), sl_is_whole⟩) (d_is_whole : PySem.W.codeIn K (.ref c_is_whole) "is_whole" = true) (k_is_whole : PySem.W.keepIn K (.ref f_is_whole) = true)
    {f_common_part c_common_part : Addr} {od_common_part an_common_part : Option Addr} {sl_common_part : Array (Option Value)} {oc_common_part kV_common_part dc_common_part pm_common_part ct_common_part : Value}
    (a_common_part : PySem.W.nsIn K mainGlobals "common_part" = some (some (.ref f_common_part))) (l_common_part : K.lookup f_common_part = some ⟨oc_common_part, od_common_part, .func (PySem.W.fnOf "common_part" "common_part" (defArgs s_common_part) (defBody s_common_part) (defScope s_common_part) .none kV_common_part dc_common_part pm_common_part an_common_part (.ref c_common_part) ct_common_part), sl_common_part⟩) (d_common_part : PySem.W.codeIn K (.ref c_common_part) "common_part" = true) (k_common_part : PySem.W.keepIn K (.ref f_common_part) = true)
    {f_lowest c_lowest : Addr} {od_lowest an_lowest : Option Addr} {sl_lowest : Array (Option Value)} {oc_lowest kV_lowest dc_lowest pm_lowest ct_lowest : Value}
    (a_lowest : PySem.W.nsIn K mainGlobals "lowest" = some (some (.ref f_lowest))) (l_lowest : K.lookup f_lowest = some ⟨oc_lowest, od_lowest, .func (PySem.W.fnOf "lowest" "lowest" (defArgs s_lowest) (defBody s_lowest) (defScope s_lowest) .none kV_lowest dc_lowest pm_lowest an_lowest (.ref c_lowest) ct_lowest), sl_lowest⟩) (d_lowest : PySem.W.codeIn K (.ref c_lowest) "lowest" = true) (k_lowest : PySem.W.keepIn K (.ref f_lowest) = true)
    {f_is_broken c_is_broken : Addr} {od_is_broken an_is_broken : Option Addr} {sl_is_broken : Array (Option Value)} {oc_is_broken kV_is_broken dc_is_broken pm_is_broken ct_is_broken : Value}
    (a_is_broken : PySem.W.nsIn K mainGlobals "is_broken" = some (some (.ref f_is_broken))) (l_is_broken : K.lookup f_is_broken = some ⟨oc_is_broken, od_is_broken, .func (PySem.W.fnOf "is_broken" "is_broken" (defArgs s_is_broken) (defBody s_is_broken) (defScope s_is_broken) .none kV_is_broken dc_is_broken pm_is_broken an_is_broken (.ref c_is_broken) ct_is_broken), sl_is_broken⟩) (d_is_broken : PySem.W.codeIn K (.ref c_is_broken) "is_broken" = true) (k_is_broken : PySem.W.keepIn K (.ref f_is_broken) = true)
    {f_bottom_of c_bottom_of : Addr} {od_bottom_of an_bottom_of : Option Addr} {sl_bottom_of : Array (Option Value)} {oc_bottom_of kV_bottom_of dc_bottom_of pm_bottom_of ct_bottom_of : Value}
    (a_bottom_of : PySem.W.nsIn K mainGlobals "bottom_of" = some (some (.ref f_bottom_of))) (l_bottom_of : K.lookup f_bottom_of = some ⟨oc_bottom_of, od_bottom_of, .func (PySem.W.fnOf "bottom_of" "bottom_of" (defArgs s_bottom_of) (defBody s_bottom_of) (defScope s_bottom_of) .none kV_bottom_of dc_bottom_of pm_bottom_of an_bottom_of (.ref c_bottom_of) ct_bottom_of), sl_bottom_of⟩) (d_bottom_of : PySem.W.codeIn K (.ref c_bottom_of) "bottom_of" = true) (k_bottom_of : PySem.W.keepIn K (.ref f_bottom_of) = true)
    {f_wholes c_wholes : Addr} {od_wholes an_wholes : Option Addr} {sl_wholes : Array (Option Value)} {oc_wholes kV_wholes dc_wholes pm_wholes ct_wholes : Value}
    (a_wholes : PySem.W.nsIn K mainGlobals "wholes" = some (some (.ref f_wholes))) (l_wholes : K.lookup f_wholes = some ⟨oc_wholes, od_wholes, .func (PySem.W.fnOf "wholes" "wholes" (defArgs s_wholes) (defBody s_wholes) (defScope s_wholes) .none kV_wholes dc_wholes pm_wholes an_wholes (.ref c_wholes) ct_wholes), sl_wholes⟩) (d_wholes : PySem.W.codeIn K (.ref c_wholes) "wholes" = true) (k_wholes : PySem.W.keepIn K (.ref f_wholes) = true)
    {f_rows_over c_rows_over : Addr} {od_rows_over an_rows_over : Option Addr} {sl_rows_over : Array (Option Value)} {oc_rows_over kV_rows_over dc_rows_over pm_rows_over ct_rows_over : Value}
    (a_rows_over : PySem.W.nsIn K mainGlobals "rows_over" = some (some (.ref f_rows_over))) (l_rows_over : K.lookup f_rows_over = some ⟨oc_rows_over, od_rows_over, .func (PySem.W.fnOf "rows_over" "rows_over" (defArgs s_rows_over) (defBody s_rows_over) (defScope s_rows_over) .none kV_rows_over dc_rows_over pm_rows_over an_rows_over (.ref c_rows_over) ct_rows_over), sl_rows_over⟩) (d_rows_over : PySem.W.codeIn K (.ref c_rows_over) "rows_over" = true) (k_rows_over : PySem.W.keepIn K (.ref f_rows_over) = true)
    {f_total c_total : Addr} {od_total an_total : Option Addr} {sl_total : Array (Option Value)} {oc_total kV_total dc_total pm_total ct_total : Value}
    (a_total : PySem.W.nsIn K mainGlobals "total" = some (some (.ref f_total))) (l_total : K.lookup f_total = some ⟨oc_total, od_total, .func (PySem.W.fnOf "total" "total" (defArgs s_total) (defBody s_total) (defScope s_total) .none kV_total dc_total pm_total an_total (.ref c_total) ct_total), sl_total⟩) (d_total : PySem.W.codeIn K (.ref c_total) "total" = true) (k_total : PySem.W.keepIn K (.ref f_total) = true)
    {f_is_chance c_is_chance : Addr} {od_is_chance an_is_chance : Option Addr} {sl_is_chance : Array (Option Value)} {oc_is_chance kV_is_chance dc_is_chance pm_is_chance ct_is_chance : Value}
    (a_is_chance : PySem.W.nsIn K mainGlobals "is_chance" = some (some (.ref f_is_chance))) (l_is_chance : K.lookup f_is_chance = some ⟨oc_is_chance, od_is_chance, .func (PySem.W.fnOf "is_chance" "is_chance" (defArgs s_is_chance) (defBody s_is_chance) (defScope s_is_chance) .none kV_is_chance dc_is_chance pm_is_chance an_is_chance (.ref c_is_chance) ct_is_chance), sl_is_chance⟩) (d_is_chance : PySem.W.codeIn K (.ref c_is_chance) "is_chance" = true) (k_is_chance : PySem.W.keepIn K (.ref f_is_chance) = true)
    {f_are_chances c_are_chances : Addr} {od_are_chances an_are_chances : Option Addr} {sl_are_chances : Array (Option Value)} {oc_are_chances kV_are_chances dc_are_chances pm_are_chances ct_are_chances : Value}
    (a_are_chances : PySem.W.nsIn K mainGlobals "are_chances" = some (some (.ref f_are_chances))) (l_are_chances : K.lookup f_are_chances = some ⟨oc_are_chances, od_are_chances, .func (PySem.W.fnOf "are_chances" "are_chances" (defArgs s_are_chances) (defBody s_are_chances) (defScope s_are_chances) .none kV_are_chances dc_are_chances pm_are_chances an_are_chances (.ref c_are_chances) ct_are_chances), sl_are_chances⟩) (d_are_chances : PySem.W.codeIn K (.ref c_are_chances) "are_chances" = true) (k_are_chances : PySem.W.keepIn K (.ref f_are_chances) = true)
    {f_is_table c_is_table : Addr} {od_is_table an_is_table : Option Addr} {sl_is_table : Array (Option Value)} {oc_is_table kV_is_table dc_is_table pm_is_table ct_is_table : Value}
    (a_is_table : PySem.W.nsIn K mainGlobals "is_table" = some (some (.ref f_is_table))) (l_is_table : K.lookup f_is_table = some ⟨oc_is_table, od_is_table, .func (PySem.W.fnOf "is_table" "is_table" (defArgs s_is_table) (defBody s_is_table) (defScope s_is_table) .none kV_is_table dc_is_table pm_is_table an_is_table (.ref c_is_table) ct_is_table), sl_is_table⟩) (d_is_table : PySem.W.codeIn K (.ref c_is_table) "is_table" = true) (k_is_table : PySem.W.keepIn K (.ref f_is_table) = true)
    {f_garbled c_garbled : Addr} {od_garbled an_garbled : Option Addr} {sl_garbled : Array (Option Value)} {oc_garbled kV_garbled dc_garbled pm_garbled ct_garbled : Value}
    (a_garbled : PySem.W.nsIn K mainGlobals "garbled" = some (some (.ref f_garbled))) (l_garbled : K.lookup f_garbled = some ⟨oc_garbled, od_garbled, .func (PySem.W.fnOf "garbled" "garbled" (defArgs s_garbled) (defBody s_garbled) (defScope s_garbled) .none kV_garbled dc_garbled pm_garbled an_garbled (.ref c_garbled) ct_garbled), sl_garbled⟩) (d_garbled : PySem.W.codeIn K (.ref c_garbled) "garbled" = true) (k_garbled : PySem.W.keepIn K (.ref f_garbled) = true)
    {f_composed c_composed : Addr} {od_composed an_composed : Option Addr} {sl_composed : Array (Option Value)} {oc_composed kV_composed dc_composed pm_composed ct_composed : Value}
    (a_composed : PySem.W.nsIn K mainGlobals "composed" = some (some (.ref f_composed))) (l_composed : K.lookup f_composed = some ⟨oc_composed, od_composed, .func (PySem.W.fnOf "composed" "composed" (defArgs s_composed) (defBody s_composed) (defScope s_composed) .none kV_composed dc_composed pm_composed an_composed (.ref c_composed) ct_composed), sl_composed⟩) (d_composed : PySem.W.codeIn K (.ref c_composed) "composed" = true) (k_composed : PySem.W.keepIn K (.ref f_composed) = true)
    {f__law_mixed c__law_mixed : Addr} {od__law_mixed an__law_mixed : Option Addr} {sl__law_mixed : Array (Option Value)} {oc__law_mixed kV__law_mixed dc__law_mixed pm__law_mixed ct__law_mixed : Value}
    (a__law_mixed : PySem.W.nsIn K mainGlobals "_law_mixed" = some (some (.ref f__law_mixed))) (l__law_mixed : K.lookup f__law_mixed = some ⟨oc__law_mixed, od__law_mixed, .func (PySem.W.fnOf "_law_mixed" "_law_mixed" (defArgs s__law_mixed) (defBody s__law_mixed) (defScope s__law_mixed) .none kV__law_mixed dc__law_mixed pm__law_mixed an__law_mixed (.ref c__law_mixed) ct__law_mixed), sl__law_mixed⟩) (d__law_mixed : PySem.W.codeIn K (.ref c__law_mixed) "_law_mixed" = true) (k__law_mixed : PySem.W.keepIn K (.ref f__law_mixed) = true)
    {f__law_start c__law_start : Addr} {od__law_start an__law_start : Option Addr} {sl__law_start : Array (Option Value)} {oc__law_start kV__law_start dc__law_start pm__law_start ct__law_start : Value}
    (a__law_start : PySem.W.nsIn K mainGlobals "_law_start" = some (some (.ref f__law_start))) (l__law_start : K.lookup f__law_start = some ⟨oc__law_start, od__law_start, .func (PySem.W.fnOf "_law_start" "_law_start" (defArgs s__law_start) (defBody s__law_start) (defScope s__law_start) .none kV__law_start dc__law_start pm__law_start an__law_start (.ref c__law_start) ct__law_start), sl__law_start⟩) (d__law_start : PySem.W.codeIn K (.ref c__law_start) "_law_start" = true) (k__law_start : PySem.W.keepIn K (.ref f__law_start) = true)
    {f__law_take c__law_take : Addr} {od__law_take an__law_take : Option Addr} {sl__law_take : Array (Option Value)} {oc__law_take kV__law_take dc__law_take pm__law_take ct__law_take : Value}
    (a__law_take : PySem.W.nsIn K mainGlobals "_law_take" = some (some (.ref f__law_take))) (l__law_take : K.lookup f__law_take = some ⟨oc__law_take, od__law_take, .func (PySem.W.fnOf "_law_take" "_law_take" (defArgs s__law_take) (defBody s__law_take) (defScope s__law_take) .none kV__law_take dc__law_take pm__law_take an__law_take (.ref c__law_take) ct__law_take), sl__law_take⟩) (d__law_take : PySem.W.codeIn K (.ref c__law_take) "_law_take" = true) (k__law_take : PySem.W.keepIn K (.ref f__law_take) = true)
    {f__law_pick c__law_pick : Addr} {od__law_pick an__law_pick : Option Addr} {sl__law_pick : Array (Option Value)} {oc__law_pick kV__law_pick dc__law_pick pm__law_pick ct__law_pick : Value}
    (a__law_pick : PySem.W.nsIn K mainGlobals "_law_pick" = some (some (.ref f__law_pick))) (l__law_pick : K.lookup f__law_pick = some ⟨oc__law_pick, od__law_pick, .func (PySem.W.fnOf "_law_pick" "_law_pick" (defArgs s__law_pick) (defBody s__law_pick) (defScope s__law_pick) .none kV__law_pick dc__law_pick pm__law_pick an__law_pick (.ref c__law_pick) ct__law_pick), sl__law_pick⟩) (d__law_pick : PySem.W.codeIn K (.ref c__law_pick) "_law_pick" = true) (k__law_pick : PySem.W.keepIn K (.ref f__law_pick) = true)
    {f__law_same c__law_same : Addr} {od__law_same an__law_same : Option Addr} {sl__law_same : Array (Option Value)} {oc__law_same kV__law_same dc__law_same pm__law_same ct__law_same : Value}
    (a__law_same : PySem.W.nsIn K mainGlobals "_law_same" = some (some (.ref f__law_same))) (l__law_same : K.lookup f__law_same = some ⟨oc__law_same, od__law_same, .func (PySem.W.fnOf "_law_same" "_law_same" (defArgs s__law_same) (defBody s__law_same) (defScope s__law_same) .none kV__law_same dc__law_same pm__law_same an__law_same (.ref c__law_same) ct__law_same), sl__law_same⟩) (d__law_same : PySem.W.codeIn K (.ref c__law_same) "_law_same" = true) (k__law_same : PySem.W.keepIn K (.ref f__law_same) = true)
    {f__law_is_due c__law_is_due : Addr} {od__law_is_due an__law_is_due : Option Addr} {sl__law_is_due : Array (Option Value)} {oc__law_is_due kV__law_is_due dc__law_is_due pm__law_is_due ct__law_is_due : Value}
    (a__law_is_due : PySem.W.nsIn K mainGlobals "_law_is_due" = some (some (.ref f__law_is_due))) (l__law_is_due : K.lookup f__law_is_due = some ⟨oc__law_is_due, od__law_is_due, .func (PySem.W.fnOf "_law_is_due" "_law_is_due" (defArgs s__law_is_due) (defBody s__law_is_due) (defScope s__law_is_due) .none kV__law_is_due dc__law_is_due pm__law_is_due an__law_is_due (.ref c__law_is_due) ct__law_is_due), sl__law_is_due⟩) (d__law_is_due : PySem.W.codeIn K (.ref c__law_is_due) "_law_is_due" = true) (k__law_is_due : PySem.W.keepIn K (.ref f__law_is_due) = true)
    {f__law_divisor c__law_divisor : Addr} {od__law_divisor an__law_divisor : Option Addr} {sl__law_divisor : Array (Option Value)} {oc__law_divisor kV__law_divisor dc__law_divisor pm__law_divisor ct__law_divisor : Value}
    (a__law_divisor : PySem.W.nsIn K mainGlobals "_law_divisor" = some (some (.ref f__law_divisor))) (l__law_divisor : K.lookup f__law_divisor = some ⟨oc__law_divisor, od__law_divisor, .func (PySem.W.fnOf "_law_divisor" "_law_divisor" (defArgs s__law_divisor) (defBody s__law_divisor) (defScope s__law_divisor) .none kV__law_divisor dc__law_divisor pm__law_divisor an__law_divisor (.ref c__law_divisor) ct__law_divisor), sl__law_divisor⟩) (d__law_divisor : PySem.W.codeIn K (.ref c__law_divisor) "_law_divisor" = true) (k__law_divisor : PySem.W.keepIn K (.ref f__law_divisor) = true)
    {f__law_fraction c__law_fraction : Addr} {od__law_fraction an__law_fraction : Option Addr} {sl__law_fraction : Array (Option Value)} {oc__law_fraction kV__law_fraction dc__law_fraction pm__law_fraction ct__law_fraction : Value}
    (a__law_fraction : PySem.W.nsIn K mainGlobals "_law_fraction" = some (some (.ref f__law_fraction))) (l__law_fraction : K.lookup f__law_fraction = some ⟨oc__law_fraction, od__law_fraction, .func (PySem.W.fnOf "_law_fraction" "_law_fraction" (defArgs s__law_fraction) (defBody s__law_fraction) (defScope s__law_fraction) .none kV__law_fraction dc__law_fraction pm__law_fraction an__law_fraction (.ref c__law_fraction) ct__law_fraction), sl__law_fraction⟩) (d__law_fraction : PySem.W.codeIn K (.ref c__law_fraction) "_law_fraction" = true) (k__law_fraction : PySem.W.keepIn K (.ref f__law_fraction) = true)
    {f__law_product c__law_product : Addr} {od__law_product an__law_product : Option Addr} {sl__law_product : Array (Option Value)} {oc__law_product kV__law_product dc__law_product pm__law_product ct__law_product : Value}
    (a__law_product : PySem.W.nsIn K mainGlobals "_law_product" = some (some (.ref f__law_product))) (l__law_product : K.lookup f__law_product = some ⟨oc__law_product, od__law_product, .func (PySem.W.fnOf "_law_product" "_law_product" (defArgs s__law_product) (defBody s__law_product) (defScope s__law_product) .none kV__law_product dc__law_product pm__law_product an__law_product (.ref c__law_product) ct__law_product), sl__law_product⟩) (d__law_product : PySem.W.codeIn K (.ref c__law_product) "_law_product" = true) (k__law_product : PySem.W.keepIn K (.ref f__law_product) = true)
    {f__law_sum c__law_sum : Addr} {od__law_sum an__law_sum : Option Addr} {sl__law_sum : Array (Option Value)} {oc__law_sum kV__law_sum dc__law_sum pm__law_sum ct__law_sum : Value}
    (a__law_sum : PySem.W.nsIn K mainGlobals "_law_sum" = some (some (.ref f__law_sum))) (l__law_sum : K.lookup f__law_sum = some ⟨oc__law_sum, od__law_sum, .func (PySem.W.fnOf "_law_sum" "_law_sum" (defArgs s__law_sum) (defBody s__law_sum) (defScope s__law_sum) .none kV__law_sum dc__law_sum pm__law_sum an__law_sum (.ref c__law_sum) ct__law_sum), sl__law_sum⟩) (d__law_sum : PySem.W.codeIn K (.ref c__law_sum) "_law_sum" = true) (k__law_sum : PySem.W.keepIn K (.ref f__law_sum) = true)
    {f__law_total c__law_total : Addr} {od__law_total an__law_total : Option Addr} {sl__law_total : Array (Option Value)} {oc__law_total kV__law_total dc__law_total pm__law_total ct__law_total : Value}
    (a__law_total : PySem.W.nsIn K mainGlobals "_law_total" = some (some (.ref f__law_total))) (l__law_total : K.lookup f__law_total = some ⟨oc__law_total, od__law_total, .func (PySem.W.fnOf "_law_total" "_law_total" (defArgs s__law_total) (defBody s__law_total) (defScope s__law_total) .none kV__law_total dc__law_total pm__law_total an__law_total (.ref c__law_total) ct__law_total), sl__law_total⟩) (d__law_total : PySem.W.codeIn K (.ref c__law_total) "_law_total" = true) (k__law_total : PySem.W.keepIn K (.ref f__law_total) = true)
    {f__law_is_fraction c__law_is_fraction : Addr} {od__law_is_fraction an__law_is_fraction : Option Addr} {sl__law_is_fraction : Array (Option Value)} {oc__law_is_fraction kV__law_is_fraction dc__law_is_fraction pm__law_is_fraction ct__law_is_fraction : Value}
    (a__law_is_fraction : PySem.W.nsIn K mainGlobals "_law_is_fraction" = some (some (.ref f__law_is_fraction))) (l__law_is_fraction : K.lookup f__law_is_fraction = some ⟨oc__law_is_fraction, od__law_is_fraction, .func (PySem.W.fnOf "_law_is_fraction" "_law_is_fraction" (defArgs s__law_is_fraction) (defBody s__law_is_fraction) (defScope s__law_is_fraction) .none kV__law_is_fraction dc__law_is_fraction pm__law_is_fraction an__law_is_fraction (.ref c__law_is_fraction) ct__law_is_fraction), sl__law_is_fraction⟩) (d__law_is_fraction : PySem.W.codeIn K (.ref c__law_is_fraction) "_law_is_fraction" = true) (k__law_is_fraction : PySem.W.keepIn K (.ref f__law_is_fraction) = true)
    {f__law_row c__law_row : Addr} {od__law_row an__law_row : Option Addr} {sl__law_row : Array (Option Value)} {oc__law_row kV__law_row dc__law_row pm__law_row ct__law_row : Value}
    (a__law_row : PySem.W.nsIn K mainGlobals "_law_row" = some (some (.ref f__law_row))) (l__law_row : K.lookup f__law_row = some ⟨oc__law_row, od__law_row, .func (PySem.W.fnOf "_law_row" "_law_row" (defArgs s__law_row) (defBody s__law_row) (defScope s__law_row) .none kV__law_row dc__law_row pm__law_row an__law_row (.ref c__law_row) ct__law_row), sl__law_row⟩) (d__law_row : PySem.W.codeIn K (.ref c__law_row) "_law_row" = true) (k__law_row : PySem.W.keepIn K (.ref f__law_row) = true)
    {f__law_telling c__law_telling : Addr} {od__law_telling an__law_telling : Option Addr} {sl__law_telling : Array (Option Value)} {oc__law_telling kV__law_telling dc__law_telling pm__law_telling ct__law_telling : Value}
    (a__law_telling : PySem.W.nsIn K mainGlobals "_law_telling" = some (some (.ref f__law_telling))) (l__law_telling : K.lookup f__law_telling = some ⟨oc__law_telling, od__law_telling, .func (PySem.W.fnOf "_law_telling" "_law_telling" (defArgs s__law_telling) (defBody s__law_telling) (defScope s__law_telling) .none kV__law_telling dc__law_telling pm__law_telling an__law_telling (.ref c__law_telling) ct__law_telling), sl__law_telling⟩) (d__law_telling : PySem.W.codeIn K (.ref c__law_telling) "_law_telling" = true) (k__law_telling : PySem.W.keepIn K (.ref f__law_telling) = true)
    {f__law_table c__law_table : Addr} {od__law_table an__law_table : Option Addr} {sl__law_table : Array (Option Value)} {oc__law_table kV__law_table dc__law_table pm__law_table ct__law_table : Value}
    (a__law_table : PySem.W.nsIn K mainGlobals "_law_table" = some (some (.ref f__law_table))) (l__law_table : K.lookup f__law_table = some ⟨oc__law_table, od__law_table, .func (PySem.W.fnOf "_law_table" "_law_table" (defArgs s__law_table) (defBody s__law_table) (defScope s__law_table) .none kV__law_table dc__law_table pm__law_table an__law_table (.ref c__law_table) ct__law_table), sl__law_table⟩) (d__law_table : PySem.W.codeIn K (.ref c__law_table) "_law_table" = true) (k__law_table : PySem.W.keepIn K (.ref f__law_table) = true)
    {f__law_garbled c__law_garbled : Addr} {od__law_garbled an__law_garbled : Option Addr} {sl__law_garbled : Array (Option Value)} {oc__law_garbled kV__law_garbled dc__law_garbled pm__law_garbled ct__law_garbled : Value}
    (a__law_garbled : PySem.W.nsIn K mainGlobals "_law_garbled" = some (some (.ref f__law_garbled))) (l__law_garbled : K.lookup f__law_garbled = some ⟨oc__law_garbled, od__law_garbled, .func (PySem.W.fnOf "_law_garbled" "_law_garbled" (defArgs s__law_garbled) (defBody s__law_garbled) (defScope s__law_garbled) .none kV__law_garbled dc__law_garbled pm__law_garbled an__law_garbled (.ref c__law_garbled) ct__law_garbled), sl__law_garbled⟩) (d__law_garbled : PySem.W.codeIn K (.ref c__law_garbled) "_law_garbled" = true) (k__law_garbled : PySem.W.keepIn K (.ref f__law_garbled) = true)
    {f__law_is_table c__law_is_table : Addr} {od__law_is_table an__law_is_table : Option Addr} {sl__law_is_table : Array (Option Value)} {oc__law_is_table kV__law_is_table dc__law_is_table pm__law_is_table ct__law_is_table : Value}
    (a__law_is_table : PySem.W.nsIn K mainGlobals "_law_is_table" = some (some (.ref f__law_is_table))) (l__law_is_table : K.lookup f__law_is_table = some ⟨oc__law_is_table, od__law_is_table, .func (PySem.W.fnOf "_law_is_table" "_law_is_table" (defArgs s__law_is_table) (defBody s__law_is_table) (defScope s__law_is_table) .none kV__law_is_table dc__law_is_table pm__law_is_table an__law_is_table (.ref c__law_is_table) ct__law_is_table), sl__law_is_table⟩) (d__law_is_table : PySem.W.codeIn K (.ref c__law_is_table) "_law_is_table" = true) (k__law_is_table : PySem.W.keepIn K (.ref f__law_is_table) = true)
    {f__law_leaf c__law_leaf : Addr} {od__law_leaf an__law_leaf : Option Addr} {sl__law_leaf : Array (Option Value)} {oc__law_leaf kV__law_leaf dc__law_leaf pm__law_leaf ct__law_leaf : Value}
    (a__law_leaf : PySem.W.nsIn K mainGlobals "_law_leaf" = some (some (.ref f__law_leaf))) (l__law_leaf : K.lookup f__law_leaf = some ⟨oc__law_leaf, od__law_leaf, .func (PySem.W.fnOf "_law_leaf" "_law_leaf" (defArgs s__law_leaf) (defBody s__law_leaf) (defScope s__law_leaf) .none kV__law_leaf dc__law_leaf pm__law_leaf an__law_leaf (.ref c__law_leaf) ct__law_leaf), sl__law_leaf⟩) (d__law_leaf : PySem.W.codeIn K (.ref c__law_leaf) "_law_leaf" = true) (k__law_leaf : PySem.W.keepIn K (.ref f__law_leaf) = true)
    {f__law_spoilt c__law_spoilt : Addr} {od__law_spoilt an__law_spoilt : Option Addr} {sl__law_spoilt : Array (Option Value)} {oc__law_spoilt kV__law_spoilt dc__law_spoilt pm__law_spoilt ct__law_spoilt : Value}
    (a__law_spoilt : PySem.W.nsIn K mainGlobals "_law_spoilt" = some (some (.ref f__law_spoilt))) (l__law_spoilt : K.lookup f__law_spoilt = some ⟨oc__law_spoilt, od__law_spoilt, .func (PySem.W.fnOf "_law_spoilt" "_law_spoilt" (defArgs s__law_spoilt) (defBody s__law_spoilt) (defScope s__law_spoilt) .none kV__law_spoilt dc__law_spoilt pm__law_spoilt an__law_spoilt (.ref c__law_spoilt) ct__law_spoilt), sl__law_spoilt⟩) (d__law_spoilt : PySem.W.codeIn K (.ref c__law_spoilt) "_law_spoilt" = true) (k__law_spoilt : PySem.W.keepIn K (.ref f__law_spoilt) = true)
    {f__law_tables_are_told c__law_tables_are_told : Addr} {od__law_tables_are_told an__law_tables_are_told : Option Addr} {sl__law_tables_are_told : Array (Option Value)} {oc__law_tables_are_told kV__law_tables_are_told dc__law_tables_are_told pm__law_tables_are_told ct__law_tables_are_told : Value}
    (a__law_tables_are_told : PySem.W.nsIn K mainGlobals "_law_tables_are_told" = some (some (.ref f__law_tables_are_told))) (l__law_tables_are_told : K.lookup f__law_tables_are_told = some ⟨oc__law_tables_are_told, od__law_tables_are_told, .func (PySem.W.fnOf "_law_tables_are_told" "_law_tables_are_told" (defArgs s__law_tables_are_told) (defBody s__law_tables_are_told) (defScope s__law_tables_are_told) .none kV__law_tables_are_told dc__law_tables_are_told pm__law_tables_are_told an__law_tables_are_told (.ref c__law_tables_are_told) ct__law_tables_are_told), sl__law_tables_are_told⟩) (d__law_tables_are_told : PySem.W.codeIn K (.ref c__law_tables_are_told) "_law_tables_are_told" = true) (k__law_tables_are_told : PySem.W.keepIn K (.ref f__law_tables_are_told) = true)
    {f_law c_law : Addr} {od_law an_law : Option Addr} {sl_law : Array (Option Value)} {oc_law kV_law dc_law pm_law ct_law : Value}
    (a_law : PySem.W.nsIn K mainGlobals "law" = some (some (.ref f_law))) (l_law : K.lookup f_law = some ⟨oc_law, od_law, .func (PySem.W.fnOf "law" "law" (defArgs s_law) (defBody s_law) (defScope s_law) .none kV_law dc_law pm_law an_law (.ref c_law) ct_law), sl_law⟩) (d_law : PySem.W.codeIn K (.ref c_law) "law" = true) (k_law : PySem.W.keepIn K (.ref f_law) = true)
    {P_wholes : Addr} {e_wholes : Value} {dd_wholes : Option Addr} {vs_wholes : Array Value} {s2_wholes : Array (Option Value)}
    (t_wholes : K.lookup c_wholes = some ⟨e_wholes, dd_wholes, .fields vs_wholes, s2_wholes⟩) (p_wholes : vs_wholes[11]? = some (.ref P_wholes)) (n_wholes : K.lookup P_wholes = none) (h_wholes : PySem.W.codeHdIn K c_wholes P_wholes = true) (r_wholes : ((recsOf q).any fun e => e.name == ("wholes" : Str)) = true)
    {P_rows_over : Addr} {e_rows_over : Value} {dd_rows_over : Option Addr} {vs_rows_over : Array Value} {s2_rows_over : Array (Option Value)}
    (t_rows_over : K.lookup c_rows_over = some ⟨e_rows_over, dd_rows_over, .fields vs_rows_over, s2_rows_over⟩) (p_rows_over : vs_rows_over[11]? = some (.ref P_rows_over)) (n_rows_over : K.lookup P_rows_over = none) (h_rows_over : PySem.W.codeHdIn K c_rows_over P_rows_over = true) (r_rows_over : ((recsOf q).any fun e => e.name == ("rows_over" : Str)) = true)
    {P_are_chances : Addr} {e_are_chances : Value} {dd_are_chances : Option Addr} {vs_are_chances : Array Value} {s2_are_chances : Array (Option Value)}
    (t_are_chances : K.lookup c_are_chances = some ⟨e_are_chances, dd_are_chances, .fields vs_are_chances, s2_are_chances⟩) (p_are_chances : vs_are_chances[11]? = some (.ref P_are_chances)) (n_are_chances : K.lookup P_are_chances = none) (h_are_chances : PySem.W.codeHdIn K c_are_chances P_are_chances = true) (r_are_chances : ((recsOf q).any fun e => e.name == ("are_chances" : Str)) = true)
    {P_is_table : Addr} {e_is_table : Value} {dd_is_table : Option Addr} {vs_is_table : Array Value} {s2_is_table : Array (Option Value)}
    (t_is_table : K.lookup c_is_table = some ⟨e_is_table, dd_is_table, .fields vs_is_table, s2_is_table⟩) (p_is_table : vs_is_table[11]? = some (.ref P_is_table)) (n_is_table : K.lookup P_is_table = none) (h_is_table : PySem.W.codeHdIn K c_is_table P_is_table = true) (r_is_table : ((recsOf q).any fun e => e.name == ("is_table" : Str)) = true)
    {P_garbled : Addr} {e_garbled : Value} {dd_garbled : Option Addr} {vs_garbled : Array Value} {s2_garbled : Array (Option Value)}
    (t_garbled : K.lookup c_garbled = some ⟨e_garbled, dd_garbled, .fields vs_garbled, s2_garbled⟩) (p_garbled : vs_garbled[11]? = some (.ref P_garbled)) (n_garbled : K.lookup P_garbled = none) (h_garbled : PySem.W.codeHdIn K c_garbled P_garbled = true) (r_garbled : ((recsOf q).any fun e => e.name == ("garbled" : Str)) = true)
    (z_abs : PySem.W.nsIn K mainGlobals "abs" = some none)
    (z_all : PySem.W.nsIn K mainGlobals "all" = some none)
    (z_bool : PySem.W.nsIn K mainGlobals "bool" = some none)
    (z_int : PySem.W.nsIn K mainGlobals "int" = some none)
    (z_isinstance : PySem.W.nsIn K mainGlobals "isinstance" = some none)
    (z_len : PySem.W.nsIn K mainGlobals "len" = some none)
    (z_list : PySem.W.nsIn K mainGlobals "list" = some none)
    (z_range : PySem.W.nsIn K mainGlobals "range" = some none)
    (z_str : PySem.W.nsIn K mainGlobals "str" = some none)
    (z_sum : PySem.W.nsIn K mainGlobals "sum" = some none)
    (z_tuple : PySem.W.nsIn K mainGlobals "tuple" = some none)
    (z_zip : PySem.W.nsIn K mainGlobals "zip" = some none)
    (nl : noLists K = true) : LawAtS l w K CX0 18 63 "script" mg fa h := by
  have e := hfa.symm.trans (PySem.W.mg_of KX Gn a_law)
  cases e
  have A_is_whole : FAt K mg "is_whole" s_is_whole f_is_whole c_is_whole := ⟨⟨_, _, _, _, _, _, _, _, l_is_whole⟩, d_is_whole, k_is_whole, PySem.W.mg_of KX Gn a_is_whole⟩
  have A_common_part : FAt K mg "common_part" s_common_part f_common_part c_common_part := ⟨⟨_, _, _, _, _, _, _, _, l_common_part⟩, d_common_part, k_common_part, PySem.W.mg_of KX Gn a_common_part⟩
  have A_lowest : FAt K mg "lowest" s_lowest f_lowest c_lowest := ⟨⟨_, _, _, _, _, _, _, _, l_lowest⟩, d_lowest, k_lowest, PySem.W.mg_of KX Gn a_lowest⟩
  have A_is_broken : FAt K mg "is_broken" s_is_broken f_is_broken c_is_broken := ⟨⟨_, _, _, _, _, _, _, _, l_is_broken⟩, d_is_broken, k_is_broken, PySem.W.mg_of KX Gn a_is_broken⟩
  have A_bottom_of : FAt K mg "bottom_of" s_bottom_of f_bottom_of c_bottom_of := ⟨⟨_, _, _, _, _, _, _, _, l_bottom_of⟩, d_bottom_of, k_bottom_of, PySem.W.mg_of KX Gn a_bottom_of⟩
  have A_wholes : FAt K mg "wholes" s_wholes f_wholes c_wholes := ⟨⟨_, _, _, _, _, _, _, _, l_wholes⟩, d_wholes, k_wholes, PySem.W.mg_of KX Gn a_wholes⟩
  have A_rows_over : FAt K mg "rows_over" s_rows_over f_rows_over c_rows_over := ⟨⟨_, _, _, _, _, _, _, _, l_rows_over⟩, d_rows_over, k_rows_over, PySem.W.mg_of KX Gn a_rows_over⟩
  have A_total : FAt K mg "total" s_total f_total c_total := ⟨⟨_, _, _, _, _, _, _, _, l_total⟩, d_total, k_total, PySem.W.mg_of KX Gn a_total⟩
  have A_is_chance : FAt K mg "is_chance" s_is_chance f_is_chance c_is_chance := ⟨⟨_, _, _, _, _, _, _, _, l_is_chance⟩, d_is_chance, k_is_chance, PySem.W.mg_of KX Gn a_is_chance⟩
  have A_are_chances : FAt K mg "are_chances" s_are_chances f_are_chances c_are_chances := ⟨⟨_, _, _, _, _, _, _, _, l_are_chances⟩, d_are_chances, k_are_chances, PySem.W.mg_of KX Gn a_are_chances⟩
  have A_is_table : FAt K mg "is_table" s_is_table f_is_table c_is_table := ⟨⟨_, _, _, _, _, _, _, _, l_is_table⟩, d_is_table, k_is_table, PySem.W.mg_of KX Gn a_is_table⟩
  have A_garbled : FAt K mg "garbled" s_garbled f_garbled c_garbled := ⟨⟨_, _, _, _, _, _, _, _, l_garbled⟩, d_garbled, k_garbled, PySem.W.mg_of KX Gn a_garbled⟩
  have A_composed : FAt K mg "composed" s_composed f_composed c_composed := ⟨⟨_, _, _, _, _, _, _, _, l_composed⟩, d_composed, k_composed, PySem.W.mg_of KX Gn a_composed⟩
  have A__law_mixed : FAt K mg "_law_mixed" s__law_mixed f__law_mixed c__law_mixed := ⟨⟨_, _, _, _, _, _, _, _, l__law_mixed⟩, d__law_mixed, k__law_mixed, PySem.W.mg_of KX Gn a__law_mixed⟩
  have A__law_start : FAt K mg "_law_start" s__law_start f__law_start c__law_start := ⟨⟨_, _, _, _, _, _, _, _, l__law_start⟩, d__law_start, k__law_start, PySem.W.mg_of KX Gn a__law_start⟩
  have A__law_take : FAt K mg "_law_take" s__law_take f__law_take c__law_take := ⟨⟨_, _, _, _, _, _, _, _, l__law_take⟩, d__law_take, k__law_take, PySem.W.mg_of KX Gn a__law_take⟩
  have A__law_pick : FAt K mg "_law_pick" s__law_pick f__law_pick c__law_pick := ⟨⟨_, _, _, _, _, _, _, _, l__law_pick⟩, d__law_pick, k__law_pick, PySem.W.mg_of KX Gn a__law_pick⟩
  have A__law_same : FAt K mg "_law_same" s__law_same f__law_same c__law_same := ⟨⟨_, _, _, _, _, _, _, _, l__law_same⟩, d__law_same, k__law_same, PySem.W.mg_of KX Gn a__law_same⟩
  have A__law_is_due : FAt K mg "_law_is_due" s__law_is_due f__law_is_due c__law_is_due := ⟨⟨_, _, _, _, _, _, _, _, l__law_is_due⟩, d__law_is_due, k__law_is_due, PySem.W.mg_of KX Gn a__law_is_due⟩
  have A__law_divisor : FAt K mg "_law_divisor" s__law_divisor f__law_divisor c__law_divisor := ⟨⟨_, _, _, _, _, _, _, _, l__law_divisor⟩, d__law_divisor, k__law_divisor, PySem.W.mg_of KX Gn a__law_divisor⟩
  have A__law_fraction : FAt K mg "_law_fraction" s__law_fraction f__law_fraction c__law_fraction := ⟨⟨_, _, _, _, _, _, _, _, l__law_fraction⟩, d__law_fraction, k__law_fraction, PySem.W.mg_of KX Gn a__law_fraction⟩
  have A__law_product : FAt K mg "_law_product" s__law_product f__law_product c__law_product := ⟨⟨_, _, _, _, _, _, _, _, l__law_product⟩, d__law_product, k__law_product, PySem.W.mg_of KX Gn a__law_product⟩
  have A__law_sum : FAt K mg "_law_sum" s__law_sum f__law_sum c__law_sum := ⟨⟨_, _, _, _, _, _, _, _, l__law_sum⟩, d__law_sum, k__law_sum, PySem.W.mg_of KX Gn a__law_sum⟩
  have A__law_total : FAt K mg "_law_total" s__law_total f__law_total c__law_total := ⟨⟨_, _, _, _, _, _, _, _, l__law_total⟩, d__law_total, k__law_total, PySem.W.mg_of KX Gn a__law_total⟩
  have A__law_is_fraction : FAt K mg "_law_is_fraction" s__law_is_fraction f__law_is_fraction c__law_is_fraction := ⟨⟨_, _, _, _, _, _, _, _, l__law_is_fraction⟩, d__law_is_fraction, k__law_is_fraction, PySem.W.mg_of KX Gn a__law_is_fraction⟩
  have A__law_row : FAt K mg "_law_row" s__law_row f__law_row c__law_row := ⟨⟨_, _, _, _, _, _, _, _, l__law_row⟩, d__law_row, k__law_row, PySem.W.mg_of KX Gn a__law_row⟩
  have A__law_telling : FAt K mg "_law_telling" s__law_telling f__law_telling c__law_telling := ⟨⟨_, _, _, _, _, _, _, _, l__law_telling⟩, d__law_telling, k__law_telling, PySem.W.mg_of KX Gn a__law_telling⟩
  have A__law_table : FAt K mg "_law_table" s__law_table f__law_table c__law_table := ⟨⟨_, _, _, _, _, _, _, _, l__law_table⟩, d__law_table, k__law_table, PySem.W.mg_of KX Gn a__law_table⟩
  have A__law_garbled : FAt K mg "_law_garbled" s__law_garbled f__law_garbled c__law_garbled := ⟨⟨_, _, _, _, _, _, _, _, l__law_garbled⟩, d__law_garbled, k__law_garbled, PySem.W.mg_of KX Gn a__law_garbled⟩
  have A__law_is_table : FAt K mg "_law_is_table" s__law_is_table f__law_is_table c__law_is_table := ⟨⟨_, _, _, _, _, _, _, _, l__law_is_table⟩, d__law_is_table, k__law_is_table, PySem.W.mg_of KX Gn a__law_is_table⟩
  have A__law_leaf : FAt K mg "_law_leaf" s__law_leaf f__law_leaf c__law_leaf := ⟨⟨_, _, _, _, _, _, _, _, l__law_leaf⟩, d__law_leaf, k__law_leaf, PySem.W.mg_of KX Gn a__law_leaf⟩
  have A__law_spoilt : FAt K mg "_law_spoilt" s__law_spoilt f__law_spoilt c__law_spoilt := ⟨⟨_, _, _, _, _, _, _, _, l__law_spoilt⟩, d__law_spoilt, k__law_spoilt, PySem.W.mg_of KX Gn a__law_spoilt⟩
  have A__law_tables_are_told : FAt K mg "_law_tables_are_told" s__law_tables_are_told f__law_tables_are_told c__law_tables_are_told := ⟨⟨_, _, _, _, _, _, _, _, l__law_tables_are_told⟩, d__law_tables_are_told, k__law_tables_are_told, PySem.W.mg_of KX Gn a__law_tables_are_told⟩
  have A_law : FAt K mg "law" s_law fa c_law := ⟨⟨_, _, _, _, _, _, _, _, l_law⟩, d_law, k_law, PySem.W.mg_of KX Gn a_law⟩
  have o_wholes := own "wholes" r_wholes _ (PySem.W.mg_of KX Gn a_wholes) _ _ _ _ _ _ _ _ l_wholes rfl rfl t_wholes p_wholes
  have o_rows_over := own "rows_over" r_rows_over _ (PySem.W.mg_of KX Gn a_rows_over) _ _ _ _ _ _ _ _ l_rows_over rfl rfl t_rows_over p_rows_over
  have o_are_chances := own "are_chances" r_are_chances _ (PySem.W.mg_of KX Gn a_are_chances) _ _ _ _ _ _ _ _ l_are_chances rfl rfl t_are_chances p_are_chances
  have o_is_table := own "is_table" r_is_table _ (PySem.W.mg_of KX Gn a_is_table) _ _ _ _ _ _ _ _ l_is_table rfl rfl t_is_table p_is_table
  have o_garbled := own "garbled" r_garbled _ (PySem.W.mg_of KX Gn a_garbled) _ _ _ _ _ _ _ _ l_garbled rfl rfl t_garbled p_garbled
  refine law_at (c := c_law) (st := s_law) (ln := "law") (F := F_law) [(c_wholes, P_wholes), (c_rows_over, P_rows_over), (c_are_chances, P_are_chances), (c_is_table, P_is_table), (c_garbled, P_garbled)] (List.forall_mem_cons.mpr ⟨o_wholes, (List.forall_mem_cons.mpr ⟨o_rows_over, (List.forall_mem_cons.mpr ⟨o_are_chances, (List.forall_mem_cons.mpr ⟨o_is_table, (List.forall_mem_cons.mpr ⟨o_garbled, (fun _ hq => nomatch hq)⟩)⟩)⟩)⟩)⟩) (List.forall_mem_cons.mpr ⟨n_wholes, (List.forall_mem_cons.mpr ⟨n_rows_over, (List.forall_mem_cons.mpr ⟨n_are_chances, (List.forall_mem_cons.mpr ⟨n_is_table, (List.forall_mem_cons.mpr ⟨n_garbled, (fun _ hq => nomatch hq)⟩)⟩)⟩)⟩)⟩) (List.forall_mem_cons.mpr ⟨PySem.W.codeHd_of_K KX h_wholes, (List.forall_mem_cons.mpr ⟨PySem.W.codeHd_of_K KX h_rows_over, (List.forall_mem_cons.mpr ⟨PySem.W.codeHd_of_K KX h_are_chances, (List.forall_mem_cons.mpr ⟨PySem.W.codeHd_of_K KX h_is_table, (List.forall_mem_cons.mpr ⟨PySem.W.codeHd_of_K KX h_garbled, (fun _ hq => nomatch hq)⟩)⟩)⟩)⟩)⟩) nl bd_law hlaw A_law fun base hk hns ht => ?_
  have bm : ∃ B, base.BuiltinsAt mg B := ⟨_, (ht _ List.mem_cons_self).bm⟩
  have tb_wholes : ∃ B, (c_wholes, B) ∈ ([(c_wholes, P_wholes), (c_rows_over, P_rows_over), (c_are_chances, P_are_chances), (c_is_table, P_is_table), (c_garbled, P_garbled)] : List (Addr × Addr)) := ⟨P_wholes, by simp⟩
  have tb_rows_over : ∃ B, (c_rows_over, B) ∈ ([(c_wholes, P_wholes), (c_rows_over, P_rows_over), (c_are_chances, P_are_chances), (c_is_table, P_is_table), (c_garbled, P_garbled)] : List (Addr × Addr)) := ⟨P_rows_over, by simp⟩
  have tb_are_chances : ∃ B, (c_are_chances, B) ∈ ([(c_wholes, P_wholes), (c_rows_over, P_rows_over), (c_are_chances, P_are_chances), (c_is_table, P_is_table), (c_garbled, P_garbled)] : List (Addr × Addr)) := ⟨P_are_chances, by simp⟩
  have tb_is_table : ∃ B, (c_is_table, B) ∈ ([(c_wholes, P_wholes), (c_rows_over, P_rows_over), (c_are_chances, P_are_chances), (c_is_table, P_is_table), (c_garbled, P_garbled)] : List (Addr × Addr)) := ⟨P_is_table, by simp⟩
  have tb_garbled : ∃ B, (c_garbled, B) ∈ ([(c_wholes, P_wholes), (c_rows_over, P_rows_over), (c_are_chances, P_are_chances), (c_is_table, P_is_table), (c_garbled, P_garbled)] : List (Addr × Addr)) := ⟨P_garbled, by simp⟩
  have y_abs := PySem.W.mg_none_of KX Gn z_abs
  have y_all := PySem.W.mg_none_of KX Gn z_all
  have y_bool := PySem.W.mg_none_of KX Gn z_bool
  have y_int := PySem.W.mg_none_of KX Gn z_int
  have y_isinstance := PySem.W.mg_none_of KX Gn z_isinstance
  have y_len := PySem.W.mg_none_of KX Gn z_len
  have y_list := PySem.W.mg_none_of KX Gn z_list
  have y_range := PySem.W.mg_none_of KX Gn z_range
  have y_str := PySem.W.mg_none_of KX Gn z_str
  have y_sum := PySem.W.mg_none_of KX Gn z_sum
  have y_tuple := PySem.W.mg_none_of KX Gn z_tuple
  have y_zip := PySem.W.mg_none_of KX Gn z_zip
  have D_is_whole : DFs l.prog w ⟨base, K, fun c P => (c, P) ∈ ([(c_wholes, P_wholes), (c_rows_over, P_rows_over), (c_are_chances, P_are_chances), (c_is_table, P_is_table), (c_garbled, P_garbled)] : List (Addr × Addr)), none, w⟩ mg 2 "is_whole" s_is_whole f_is_whole ["value"] F_is_whole := ok_is_whole (G := ⟨base, K, fun c P => (c, P) ∈ ([(c_wholes, P_wholes), (c_rows_over, P_rows_over), (c_are_chances, P_are_chances), (c_is_table, P_is_table), (c_garbled, P_garbled)] : List (Addr × Addr)), none, w⟩) A_is_whole y_bool y_int y_isinstance
  have D_common_part : DFs l.prog w ⟨base, K, fun c P => (c, P) ∈ ([(c_wholes, P_wholes), (c_rows_over, P_rows_over), (c_are_chances, P_are_chances), (c_is_table, P_is_table), (c_garbled, P_garbled)] : List (Addr × Addr)), none, w⟩ mg 2 "common_part" s_common_part f_common_part ["one", "other"] F_common_part := ok_common_part (G := ⟨base, K, fun c P => (c, P) ∈ ([(c_wholes, P_wholes), (c_rows_over, P_rows_over), (c_are_chances, P_are_chances), (c_is_table, P_is_table), (c_garbled, P_garbled)] : List (Addr × Addr)), none, w⟩) A_common_part y_abs
  have D_lowest : DFs l.prog w ⟨base, K, fun c P => (c, P) ∈ ([(c_wholes, P_wholes), (c_rows_over, P_rows_over), (c_are_chances, P_are_chances), (c_is_table, P_is_table), (c_garbled, P_garbled)] : List (Addr × Addr)), none, w⟩ mg 3 "lowest" s_lowest f_lowest ["top", "bottom"] F_lowest := ok_lowest (G := ⟨base, K, fun c P => (c, P) ∈ ([(c_wholes, P_wholes), (c_rows_over, P_rows_over), (c_are_chances, P_are_chances), (c_is_table, P_is_table), (c_garbled, P_garbled)] : List (Addr × Addr)), none, w⟩) A_lowest D_common_part
  have D_is_broken : DFs l.prog w ⟨base, K, fun c P => (c, P) ∈ ([(c_wholes, P_wholes), (c_rows_over, P_rows_over), (c_are_chances, P_are_chances), (c_is_table, P_is_table), (c_garbled, P_garbled)] : List (Addr × Addr)), none, w⟩ mg 3 "is_broken" s_is_broken f_is_broken ["value"] F_is_broken := ok_is_broken (G := ⟨base, K, fun c P => (c, P) ∈ ([(c_wholes, P_wholes), (c_rows_over, P_rows_over), (c_are_chances, P_are_chances), (c_is_table, P_is_table), (c_garbled, P_garbled)] : List (Addr × Addr)), none, w⟩) A_is_broken y_isinstance y_len y_tuple D_common_part D_is_whole
  have D_bottom_of : DFs l.prog w ⟨base, K, fun c P => (c, P) ∈ ([(c_wholes, P_wholes), (c_rows_over, P_rows_over), (c_are_chances, P_are_chances), (c_is_table, P_is_table), (c_garbled, P_garbled)] : List (Addr × Addr)), none, w⟩ mg 3 "bottom_of" s_bottom_of f_bottom_of ["fractions"] F_bottom_of := ok_bottom_of (G := ⟨base, K, fun c P => (c, P) ∈ ([(c_wholes, P_wholes), (c_rows_over, P_rows_over), (c_are_chances, P_are_chances), (c_is_table, P_is_table), (c_garbled, P_garbled)] : List (Addr × Addr)), none, w⟩) A_bottom_of D_common_part
  have D_wholes : DFs l.prog w ⟨base, K, fun c P => (c, P) ∈ ([(c_wholes, P_wholes), (c_rows_over, P_rows_over), (c_are_chances, P_are_chances), (c_is_table, P_is_table), (c_garbled, P_garbled)] : List (Addr × Addr)), none, w⟩ mg 6 "wholes" s_wholes f_wholes ["fractions", "bottom"] F_wholes := ok_wholes (G := ⟨base, K, fun c P => (c, P) ∈ ([(c_wholes, P_wholes), (c_rows_over, P_rows_over), (c_are_chances, P_are_chances), (c_is_table, P_is_table), (c_garbled, P_garbled)] : List (Addr × Addr)), none, w⟩) A_wholes y_tuple bm tb_wholes
  have D_rows_over : DFs l.prog w ⟨base, K, fun c P => (c, P) ∈ ([(c_wholes, P_wholes), (c_rows_over, P_rows_over), (c_are_chances, P_are_chances), (c_is_table, P_is_table), (c_garbled, P_garbled)] : List (Addr × Addr)), none, w⟩ mg 12 "rows_over" s_rows_over f_rows_over ["rows"] F_rows_over := ok_rows_over (G := ⟨base, K, fun c P => (c, P) ∈ ([(c_wholes, P_wholes), (c_rows_over, P_rows_over), (c_are_chances, P_are_chances), (c_is_table, P_is_table), (c_garbled, P_garbled)] : List (Addr × Addr)), none, w⟩) A_rows_over y_tuple D_bottom_of D_wholes bm tb_rows_over
  have D_total : DFs l.prog w ⟨base, K, fun c P => (c, P) ∈ ([(c_wholes, P_wholes), (c_rows_over, P_rows_over), (c_are_chances, P_are_chances), (c_is_table, P_is_table), (c_garbled, P_garbled)] : List (Addr × Addr)), none, w⟩ mg 7 "total" s_total f_total ["fractions"] F_total := ok_total (G := ⟨base, K, fun c P => (c, P) ∈ ([(c_wholes, P_wholes), (c_rows_over, P_rows_over), (c_are_chances, P_are_chances), (c_is_table, P_is_table), (c_garbled, P_garbled)] : List (Addr × Addr)), none, w⟩) A_total y_sum D_bottom_of D_lowest D_wholes
  have D_is_chance : DFs l.prog w ⟨base, K, fun c P => (c, P) ∈ ([(c_wholes, P_wholes), (c_rows_over, P_rows_over), (c_are_chances, P_are_chances), (c_is_table, P_is_table), (c_garbled, P_garbled)] : List (Addr × Addr)), none, w⟩ mg 4 "is_chance" s_is_chance f_is_chance ["value"] F_is_chance := ok_is_chance (G := ⟨base, K, fun c P => (c, P) ∈ ([(c_wholes, P_wholes), (c_rows_over, P_rows_over), (c_are_chances, P_are_chances), (c_is_table, P_is_table), (c_garbled, P_garbled)] : List (Addr × Addr)), none, w⟩) A_is_chance D_is_broken
  have D_are_chances : DFs l.prog w ⟨base, K, fun c P => (c, P) ∈ ([(c_wholes, P_wholes), (c_rows_over, P_rows_over), (c_are_chances, P_are_chances), (c_is_table, P_is_table), (c_garbled, P_garbled)] : List (Addr × Addr)), none, w⟩ mg 10 "are_chances" s_are_chances f_are_chances ["value", "many"] F_are_chances := ok_are_chances (G := ⟨base, K, fun c P => (c, P) ∈ ([(c_wholes, P_wholes), (c_rows_over, P_rows_over), (c_are_chances, P_are_chances), (c_is_table, P_is_table), (c_garbled, P_garbled)] : List (Addr × Addr)), none, w⟩) A_are_chances y_all y_isinstance y_len y_tuple D_is_chance D_total bm tb_are_chances
  have D_is_table : DFs l.prog w ⟨base, K, fun c P => (c, P) ∈ ([(c_wholes, P_wholes), (c_rows_over, P_rows_over), (c_are_chances, P_are_chances), (c_is_table, P_is_table), (c_garbled, P_garbled)] : List (Addr × Addr)), none, w⟩ mg 16 "is_table" s_is_table f_is_table ["value", "m", "k"] F_is_table := ok_is_table (G := ⟨base, K, fun c P => (c, P) ∈ ([(c_wholes, P_wholes), (c_rows_over, P_rows_over), (c_are_chances, P_are_chances), (c_is_table, P_is_table), (c_garbled, P_garbled)] : List (Addr × Addr)), none, w⟩) A_is_table y_all y_isinstance y_len y_tuple D_are_chances bm tb_is_table
  have D_garbled : DFs l.prog w ⟨base, K, fun c P => (c, P) ∈ ([(c_wholes, P_wholes), (c_rows_over, P_rows_over), (c_are_chances, P_are_chances), (c_is_table, P_is_table), (c_garbled, P_garbled)] : List (Addr × Addr)), none, w⟩ mg 13 "garbled" s_garbled f_garbled ["telling", "table"] F_garbled := ok_garbled (G := ⟨base, K, fun c P => (c, P) ∈ ([(c_wholes, P_wholes), (c_rows_over, P_rows_over), (c_are_chances, P_are_chances), (c_is_table, P_is_table), (c_garbled, P_garbled)] : List (Addr × Addr)), none, w⟩) A_garbled y_tuple y_zip D_bottom_of D_lowest D_rows_over D_wholes bm tb_garbled
  have D_composed : DFs l.prog w ⟨base, K, fun c P => (c, P) ∈ ([(c_wholes, P_wholes), (c_rows_over, P_rows_over), (c_are_chances, P_are_chances), (c_is_table, P_is_table), (c_garbled, P_garbled)] : List (Addr × Addr)), none, w⟩ mg 14 "composed" s_composed f_composed ["table", "other"] F_composed := ok_composed (G := ⟨base, K, fun c P => (c, P) ∈ ([(c_wholes, P_wholes), (c_rows_over, P_rows_over), (c_are_chances, P_are_chances), (c_is_table, P_is_table), (c_garbled, P_garbled)] : List (Addr × Addr)), none, w⟩) A_composed D_garbled
  have D__law_mixed : DFs l.prog w ⟨base, K, fun c P => (c, P) ∈ ([(c_wholes, P_wholes), (c_rows_over, P_rows_over), (c_are_chances, P_are_chances), (c_is_table, P_is_table), (c_garbled, P_garbled)] : List (Addr × Addr)), none, w⟩ mg 2 "_law_mixed" s__law_mixed f__law_mixed ["number", "k"] F__law_mixed := ok__law_mixed (G := ⟨base, K, fun c P => (c, P) ∈ ([(c_wholes, P_wholes), (c_rows_over, P_rows_over), (c_are_chances, P_are_chances), (c_is_table, P_is_table), (c_garbled, P_garbled)] : List (Addr × Addr)), none, w⟩) A__law_mixed y_int
  have D__law_start : DFs l.prog w ⟨base, K, fun c P => (c, P) ∈ ([(c_wholes, P_wholes), (c_rows_over, P_rows_over), (c_are_chances, P_are_chances), (c_is_table, P_is_table), (c_garbled, P_garbled)] : List (Addr × Addr)), none, w⟩ mg 3 "_law_start" s__law_start f__law_start ["script"] F__law_start := ok__law_start (G := ⟨base, K, fun c P => (c, P) ∈ ([(c_wholes, P_wholes), (c_rows_over, P_rows_over), (c_are_chances, P_are_chances), (c_is_table, P_is_table), (c_garbled, P_garbled)] : List (Addr × Addr)), none, w⟩) A__law_start y_len y_list D__law_mixed
  have D__law_take : DFs l.prog w ⟨base, K, fun c P => (c, P) ∈ ([(c_wholes, P_wholes), (c_rows_over, P_rows_over), (c_are_chances, P_are_chances), (c_is_table, P_is_table), (c_garbled, P_garbled)] : List (Addr × Addr)), none, w⟩ mg 3 "_law_take" s__law_take f__law_take ["state", "limit"] F__law_take := ok__law_take (G := ⟨base, K, fun c P => (c, P) ∈ ([(c_wholes, P_wholes), (c_rows_over, P_rows_over), (c_are_chances, P_are_chances), (c_is_table, P_is_table), (c_garbled, P_garbled)] : List (Addr × Addr)), none, w⟩) A__law_take y_abs y_int y_len D__law_mixed
  have D__law_pick : DFs l.prog w ⟨base, K, fun c P => (c, P) ∈ ([(c_wholes, P_wholes), (c_rows_over, P_rows_over), (c_are_chances, P_are_chances), (c_is_table, P_is_table), (c_garbled, P_garbled)] : List (Addr × Addr)), none, w⟩ mg 4 "_law_pick" s__law_pick f__law_pick ["state", "some"] F__law_pick := ok__law_pick (G := ⟨base, K, fun c P => (c, P) ∈ ([(c_wholes, P_wholes), (c_rows_over, P_rows_over), (c_are_chances, P_are_chances), (c_is_table, P_is_table), (c_garbled, P_garbled)] : List (Addr × Addr)), none, w⟩) A__law_pick y_len D__law_take
  have D__law_same : DFs l.prog w ⟨base, K, fun c P => (c, P) ∈ ([(c_wholes, P_wholes), (c_rows_over, P_rows_over), (c_are_chances, P_are_chances), (c_is_table, P_is_table), (c_garbled, P_garbled)] : List (Addr × Addr)), none, w⟩ mg 9 "_law_same" s__law_same f__law_same ["told", "due"] (F__law_same 8) := ok__law_same (G := ⟨base, K, fun c P => (c, P) ∈ ([(c_wholes, P_wholes), (c_rows_over, P_rows_over), (c_are_chances, P_are_chances), (c_is_table, P_is_table), (c_garbled, P_garbled)] : List (Addr × Addr)), none, w⟩) A__law_same y_bool y_int y_isinstance y_len y_range y_str y_tuple 8
  have D__law_is_due : DFs l.prog w ⟨base, K, fun c P => (c, P) ∈ ([(c_wholes, P_wholes), (c_rows_over, P_rows_over), (c_are_chances, P_are_chances), (c_is_table, P_is_table), (c_garbled, P_garbled)] : List (Addr × Addr)), none, w⟩ mg 2 "_law_is_due" s__law_is_due f__law_is_due ["told", "due"] F__law_is_due := ok__law_is_due (G := ⟨base, K, fun c P => (c, P) ∈ ([(c_wholes, P_wholes), (c_rows_over, P_rows_over), (c_are_chances, P_are_chances), (c_is_table, P_is_table), (c_garbled, P_garbled)] : List (Addr × Addr)), none, w⟩) A__law_is_due
  have D__law_divisor : DFs l.prog w ⟨base, K, fun c P => (c, P) ∈ ([(c_wholes, P_wholes), (c_rows_over, P_rows_over), (c_are_chances, P_are_chances), (c_is_table, P_is_table), (c_garbled, P_garbled)] : List (Addr × Addr)), none, w⟩ mg 2 "_law_divisor" s__law_divisor f__law_divisor ["one", "other"] F__law_divisor := ok__law_divisor (G := ⟨base, K, fun c P => (c, P) ∈ ([(c_wholes, P_wholes), (c_rows_over, P_rows_over), (c_are_chances, P_are_chances), (c_is_table, P_is_table), (c_garbled, P_garbled)] : List (Addr × Addr)), none, w⟩) A__law_divisor y_int y_range
  have D__law_fraction : DFs l.prog w ⟨base, K, fun c P => (c, P) ∈ ([(c_wholes, P_wholes), (c_rows_over, P_rows_over), (c_are_chances, P_are_chances), (c_is_table, P_is_table), (c_garbled, P_garbled)] : List (Addr × Addr)), none, w⟩ mg 3 "_law_fraction" s__law_fraction f__law_fraction ["top", "below"] F__law_fraction := ok__law_fraction (G := ⟨base, K, fun c P => (c, P) ∈ ([(c_wholes, P_wholes), (c_rows_over, P_rows_over), (c_are_chances, P_are_chances), (c_is_table, P_is_table), (c_garbled, P_garbled)] : List (Addr × Addr)), none, w⟩) A__law_fraction y_abs D__law_divisor
  have D__law_product : DFs l.prog w ⟨base, K, fun c P => (c, P) ∈ ([(c_wholes, P_wholes), (c_rows_over, P_rows_over), (c_are_chances, P_are_chances), (c_is_table, P_is_table), (c_garbled, P_garbled)] : List (Addr × Addr)), none, w⟩ mg 4 "_law_product" s__law_product f__law_product ["one", "other"] F__law_product := ok__law_product (G := ⟨base, K, fun c P => (c, P) ∈ ([(c_wholes, P_wholes), (c_rows_over, P_rows_over), (c_are_chances, P_are_chances), (c_is_table, P_is_table), (c_garbled, P_garbled)] : List (Addr × Addr)), none, w⟩) A__law_product D__law_fraction
  have D__law_sum : DFs l.prog w ⟨base, K, fun c P => (c, P) ∈ ([(c_wholes, P_wholes), (c_rows_over, P_rows_over), (c_are_chances, P_are_chances), (c_is_table, P_is_table), (c_garbled, P_garbled)] : List (Addr × Addr)), none, w⟩ mg 4 "_law_sum" s__law_sum f__law_sum ["one", "other"] F__law_sum := ok__law_sum (G := ⟨base, K, fun c P => (c, P) ∈ ([(c_wholes, P_wholes), (c_rows_over, P_rows_over), (c_are_chances, P_are_chances), (c_is_table, P_is_table), (c_garbled, P_garbled)] : List (Addr × Addr)), none, w⟩) A__law_sum D__law_fraction
  have D__law_total : DFs l.prog w ⟨base, K, fun c P => (c, P) ∈ ([(c_wholes, P_wholes), (c_rows_over, P_rows_over), (c_are_chances, P_are_chances), (c_is_table, P_is_table), (c_garbled, P_garbled)] : List (Addr × Addr)), none, w⟩ mg 5 "_law_total" s__law_total f__law_total ["parts"] F__law_total := ok__law_total (G := ⟨base, K, fun c P => (c, P) ∈ ([(c_wholes, P_wholes), (c_rows_over, P_rows_over), (c_are_chances, P_are_chances), (c_is_table, P_is_table), (c_garbled, P_garbled)] : List (Addr × Addr)), none, w⟩) A__law_total D__law_sum
  have D__law_is_fraction : DFs l.prog w ⟨base, K, fun c P => (c, P) ∈ ([(c_wholes, P_wholes), (c_rows_over, P_rows_over), (c_are_chances, P_are_chances), (c_is_table, P_is_table), (c_garbled, P_garbled)] : List (Addr × Addr)), none, w⟩ mg 3 "_law_is_fraction" s__law_is_fraction f__law_is_fraction ["value"] F__law_is_fraction := ok__law_is_fraction (G := ⟨base, K, fun c P => (c, P) ∈ ([(c_wholes, P_wholes), (c_rows_over, P_rows_over), (c_are_chances, P_are_chances), (c_is_table, P_is_table), (c_garbled, P_garbled)] : List (Addr × Addr)), none, w⟩) A__law_is_fraction y_abs y_bool y_int y_isinstance y_len y_tuple D__law_divisor
  have D__law_row : DFs l.prog w ⟨base, K, fun c P => (c, P) ∈ ([(c_wholes, P_wholes), (c_rows_over, P_rows_over), (c_are_chances, P_are_chances), (c_is_table, P_is_table), (c_garbled, P_garbled)] : List (Addr × Addr)), none, w⟩ mg 5 "_law_row" s__law_row f__law_row ["state", "many", "belows"] F__law_row := ok__law_row (G := ⟨base, K, fun c P => (c, P) ∈ ([(c_wholes, P_wholes), (c_rows_over, P_rows_over), (c_are_chances, P_are_chances), (c_is_table, P_is_table), (c_garbled, P_garbled)] : List (Addr × Addr)), none, w⟩) A__law_row y_range y_tuple D__law_fraction D__law_pick D__law_take
  have D__law_telling : DFs l.prog w ⟨base, K, fun c P => (c, P) ∈ ([(c_wholes, P_wholes), (c_rows_over, P_rows_over), (c_are_chances, P_are_chances), (c_is_table, P_is_table), (c_garbled, P_garbled)] : List (Addr × Addr)), none, w⟩ mg 6 "_law_telling" s__law_telling f__law_telling ["state", "worlds", "signs"] F__law_telling := ok__law_telling (G := ⟨base, K, fun c P => (c, P) ∈ ([(c_wholes, P_wholes), (c_rows_over, P_rows_over), (c_are_chances, P_are_chances), (c_is_table, P_is_table), (c_garbled, P_garbled)] : List (Addr × Addr)), none, w⟩) A__law_telling y_range y_tuple D__law_product D__law_row D__law_take
  have D__law_table : DFs l.prog w ⟨base, K, fun c P => (c, P) ∈ ([(c_wholes, P_wholes), (c_rows_over, P_rows_over), (c_are_chances, P_are_chances), (c_is_table, P_is_table), (c_garbled, P_garbled)] : List (Addr × Addr)), none, w⟩ mg 6 "_law_table" s__law_table f__law_table ["state", "many", "signs"] F__law_table := ok__law_table (G := ⟨base, K, fun c P => (c, P) ∈ ([(c_wholes, P_wholes), (c_rows_over, P_rows_over), (c_are_chances, P_are_chances), (c_is_table, P_is_table), (c_garbled, P_garbled)] : List (Addr × Addr)), none, w⟩) A__law_table y_range y_tuple D__law_row
  have D__law_garbled : DFs l.prog w ⟨base, K, fun c P => (c, P) ∈ ([(c_wholes, P_wholes), (c_rows_over, P_rows_over), (c_are_chances, P_are_chances), (c_is_table, P_is_table), (c_garbled, P_garbled)] : List (Addr × Addr)), none, w⟩ mg 6 "_law_garbled" s__law_garbled f__law_garbled ["telling", "table"] F__law_garbled := ok__law_garbled (G := ⟨base, K, fun c P => (c, P) ∈ ([(c_wholes, P_wholes), (c_rows_over, P_rows_over), (c_are_chances, P_are_chances), (c_is_table, P_is_table), (c_garbled, P_garbled)] : List (Addr × Addr)), none, w⟩) A__law_garbled y_len y_range y_tuple D__law_product D__law_total
  have D__law_is_table : DFs l.prog w ⟨base, K, fun c P => (c, P) ∈ ([(c_wholes, P_wholes), (c_rows_over, P_rows_over), (c_are_chances, P_are_chances), (c_is_table, P_is_table), (c_garbled, P_garbled)] : List (Addr × Addr)), none, w⟩ mg 6 "_law_is_table" s__law_is_table f__law_is_table ["value", "m", "k"] F__law_is_table := ok__law_is_table (G := ⟨base, K, fun c P => (c, P) ∈ ([(c_wholes, P_wholes), (c_rows_over, P_rows_over), (c_are_chances, P_are_chances), (c_is_table, P_is_table), (c_garbled, P_garbled)] : List (Addr × Addr)), none, w⟩) A__law_is_table y_isinstance y_len y_tuple D__law_is_fraction D__law_total
  have D__law_leaf : DFs l.prog w ⟨base, K, fun c P => (c, P) ∈ ([(c_wholes, P_wholes), (c_rows_over, P_rows_over), (c_are_chances, P_are_chances), (c_is_table, P_is_table), (c_garbled, P_garbled)] : List (Addr × Addr)), none, w⟩ mg 5 "_law_leaf" s__law_leaf f__law_leaf ["state", "value"] F__law_leaf := ok__law_leaf (G := ⟨base, K, fun c P => (c, P) ∈ ([(c_wholes, P_wholes), (c_rows_over, P_rows_over), (c_are_chances, P_are_chances), (c_is_table, P_is_table), (c_garbled, P_garbled)] : List (Addr × Addr)), none, w⟩) A__law_leaf y_int y_isinstance y_str D__law_pick
  have D__law_spoilt : DFs l.prog w ⟨base, K, fun c P => (c, P) ∈ ([(c_wholes, P_wholes), (c_rows_over, P_rows_over), (c_are_chances, P_are_chances), (c_is_table, P_is_table), (c_garbled, P_garbled)] : List (Addr × Addr)), none, w⟩ mg 13 "_law_spoilt" s__law_spoilt f__law_spoilt ["state", "value", "deep"] (F__law_spoilt 8) := ok__law_spoilt (G := ⟨base, K, fun c P => (c, P) ∈ ([(c_wholes, P_wholes), (c_rows_over, P_rows_over), (c_are_chances, P_are_chances), (c_is_table, P_is_table), (c_garbled, P_garbled)] : List (Addr × Addr)), none, w⟩) A__law_spoilt y_int y_isinstance y_len y_tuple D__law_leaf D__law_pick D__law_take 8
  have D__law_tables_are_told : DFs l.prog w ⟨base, K, fun c P => (c, P) ∈ ([(c_wholes, P_wholes), (c_rows_over, P_rows_over), (c_are_chances, P_are_chances), (c_is_table, P_is_table), (c_garbled, P_garbled)] : List (Addr × Addr)), none, w⟩ mg 17 "_law_tables_are_told" s__law_tables_are_told f__law_tables_are_told ["state", "table"] F__law_tables_are_told := ok__law_tables_are_told (G := ⟨base, K, fun c P => (c, P) ∈ ([(c_wholes, P_wholes), (c_rows_over, P_rows_over), (c_are_chances, P_are_chances), (c_is_table, P_is_table), (c_garbled, P_garbled)] : List (Addr × Addr)), none, w⟩) A__law_tables_are_told y_len y_range y_tuple D__law_is_due D__law_is_table D__law_spoilt D__law_take D_is_table
  have D_law : DFs l.prog w ⟨base, K, fun c P => (c, P) ∈ ([(c_wholes, P_wholes), (c_rows_over, P_rows_over), (c_are_chances, P_are_chances), (c_is_table, P_is_table), (c_garbled, P_garbled)] : List (Addr × Addr)), none, w⟩ mg 18 "law" s_law fa ["script"] F_law := ok_law (G := ⟨base, K, fun c P => (c, P) ∈ ([(c_wholes, P_wholes), (c_rows_over, P_rows_over), (c_are_chances, P_are_chances), (c_is_table, P_is_table), (c_garbled, P_garbled)] : List (Addr × Addr)), none, w⟩) A_law y_len y_range D__law_garbled D__law_pick D__law_same D__law_start D__law_table D__law_tables_are_told D__law_take D__law_telling D_composed D_garbled
  exact D_law
end LW
open PySem PySem.W PyProof.Rows
set_option maxHeartbeats 0 in
theorem PySem.Challenge.cw_moretold_k02_tables_and_garbling_holds : PySem.Challenge.rw_moretold_k02_tables_and_garbling.Holds := by
  w_on; o_law; k_head; (case hw => w_witness2)
  k_fill
  refine DL.walk_ofD (n := 63) (k := 18) (x := "script") rfl (by decide) rfl ⟨rfl, by decide, by decide⟩ (fun w h Y => PySem.W.kIn_of Y) ?F
  case F =>
    intro w mg fa h Y KX Gn hmg own
    refine' LW.all_mk KX Gn hmg own LW.law_holds ?a_is_whole ?l_is_whole ?d_is_whole ?k_is_whole ?a_common_part ?l_common_part ?d_common_part ?k_common_part ?a_lowest ?l_lowest ?d_lowest ?k_lowest ?a_is_broken ?l_is_broken ?d_is_broken ?k_is_broken ?a_bottom_of ?l_bottom_of ?d_bottom_of ?k_bottom_of ?a_wholes ?l_wholes ?d_wholes ?k_wholes ?a_rows_over ?l_rows_over ?d_rows_over ?k_rows_over ?a_total ?l_total ?d_total ?k_total ?a_is_chance ?l_is_chance ?d_is_chance ?k_is_chance ?a_are_chances ?l_are_chances ?d_are_chances ?k_are_chances ?a_is_table ?l_is_table ?d_is_table ?k_is_table ?a_garbled ?l_garbled ?d_garbled ?k_garbled ?a_composed ?l_composed ?d_composed ?k_composed ?a__law_mixed ?l__law_mixed ?d__law_mixed ?k__law_mixed ?a__law_start ?l__law_start ?d__law_start ?k__law_start ?a__law_take ?l__law_take ?d__law_take ?k__law_take ?a__law_pick ?l__law_pick ?d__law_pick ?k__law_pick ?a__law_same ?l__law_same ?d__law_same ?k__law_same ?a__law_is_due ?l__law_is_due ?d__law_is_due ?k__law_is_due ?a__law_divisor ?l__law_divisor ?d__law_divisor ?k__law_divisor ?a__law_fraction ?l__law_fraction ?d__law_fraction ?k__law_fraction ?a__law_product ?l__law_product ?d__law_product ?k__law_product ?a__law_sum ?l__law_sum ?d__law_sum ?k__law_sum ?a__law_total ?l__law_total ?d__law_total ?k__law_total ?a__law_is_fraction ?l__law_is_fraction ?d__law_is_fraction ?k__law_is_fraction ?a__law_row ?l__law_row ?d__law_row ?k__law_row ?a__law_telling ?l__law_telling ?d__law_telling ?k__law_telling ?a__law_table ?l__law_table ?d__law_table ?k__law_table ?a__law_garbled ?l__law_garbled ?d__law_garbled ?k__law_garbled ?a__law_is_table ?l__law_is_table ?d__law_is_table ?k__law_is_table ?a__law_leaf ?l__law_leaf ?d__law_leaf ?k__law_leaf ?a__law_spoilt ?l__law_spoilt ?d__law_spoilt ?k__law_spoilt ?a__law_tables_are_told ?l__law_tables_are_told ?d__law_tables_are_told ?k__law_tables_are_told ?a_law ?l_law ?d_law ?k_law ?t_wholes ?p_wholes ?n_wholes ?h_wholes ?r_wholes ?t_rows_over ?p_rows_over ?n_rows_over ?h_rows_over ?r_rows_over ?t_are_chances ?p_are_chances ?n_are_chances ?h_are_chances ?r_are_chances ?t_is_table ?p_is_table ?n_is_table ?h_is_table ?r_is_table ?t_garbled ?p_garbled ?n_garbled ?h_garbled ?r_garbled ?z_abs ?z_all ?z_bool ?z_int ?z_isinstance ?z_len ?z_list ?z_range ?z_str ?z_sum ?z_tuple ?z_zip ?nl
    (case a_is_whole => k_is)
    (case l_is_whole => k_is)
    (case d_is_whole => k_is)
    (case k_is_whole => k_is)
    (case a_common_part => k_is)
    (case l_common_part => k_is)
    (case d_common_part => k_is)
    (case k_common_part => k_is)
    (case a_lowest => k_is)
    (case l_lowest => k_is)
    (case d_lowest => k_is)
    (case k_lowest => k_is)
    (case a_is_broken => k_is)
    (case l_is_broken => k_is)
    (case d_is_broken => k_is)
    (case k_is_broken => k_is)
    (case a_bottom_of => k_is)
    (case l_bottom_of => k_is)
    (case d_bottom_of => k_is)
    (case k_bottom_of => k_is)
    (case a_wholes => k_is)
    (case l_wholes => k_is)
    (case d_wholes => k_is)
    (case k_wholes => k_is)
    (case a_rows_over => k_is)
    (case l_rows_over => k_is)
    (case d_rows_over => k_is)
    (case k_rows_over => k_is)
    (case a_total => k_is)
    (case l_total => k_is)
    (case d_total => k_is)
    (case k_total => k_is)
    (case a_is_chance => k_is)
    (case l_is_chance => k_is)
    (case d_is_chance => k_is)
    (case k_is_chance => k_is)
    (case a_are_chances => k_is)
    (case l_are_chances => k_is)
    (case d_are_chances => k_is)
    (case k_are_chances => k_is)
    (case a_is_table => k_is)
    (case l_is_table => k_is)
    (case d_is_table => k_is)
    (case k_is_table => k_is)
    (case a_garbled => k_is)
    (case l_garbled => k_is)
    (case d_garbled => k_is)
    (case k_garbled => k_is)
    (case a_composed => k_is)
    (case l_composed => k_is)
    (case d_composed => k_is)
    (case k_composed => k_is)
    (case a__law_mixed => k_is)
    (case l__law_mixed => k_is)
    (case d__law_mixed => k_is)
    (case k__law_mixed => k_is)
    (case a__law_start => k_is)
    (case l__law_start => k_is)
    (case d__law_start => k_is)
    (case k__law_start => k_is)
    (case a__law_take => k_is)
    (case l__law_take => k_is)
    (case d__law_take => k_is)
    (case k__law_take => k_is)
    (case a__law_pick => k_is)
    (case l__law_pick => k_is)
    (case d__law_pick => k_is)
    (case k__law_pick => k_is)
    (case a__law_same => k_is)
    (case l__law_same => k_is)
    (case d__law_same => k_is)
    (case k__law_same => k_is)
    (case a__law_is_due => k_is)
    (case l__law_is_due => k_is)
    (case d__law_is_due => k_is)
    (case k__law_is_due => k_is)
    (case a__law_divisor => k_is)
    (case l__law_divisor => k_is)
    (case d__law_divisor => k_is)
    (case k__law_divisor => k_is)
    (case a__law_fraction => k_is)
    (case l__law_fraction => k_is)
    (case d__law_fraction => k_is)
    (case k__law_fraction => k_is)
    (case a__law_product => k_is)
    (case l__law_product => k_is)
    (case d__law_product => k_is)
    (case k__law_product => k_is)
    (case a__law_sum => k_is)
    (case l__law_sum => k_is)
    (case d__law_sum => k_is)
    (case k__law_sum => k_is)
    (case a__law_total => k_is)
    (case l__law_total => k_is)
    (case d__law_total => k_is)
    (case k__law_total => k_is)
    (case a__law_is_fraction => k_is)
    (case l__law_is_fraction => k_is)
    (case d__law_is_fraction => k_is)
    (case k__law_is_fraction => k_is)
    (case a__law_row => k_is)
    (case l__law_row => k_is)
    (case d__law_row => k_is)
    (case k__law_row => k_is)
    (case a__law_telling => k_is)
    (case l__law_telling => k_is)
    (case d__law_telling => k_is)
    (case k__law_telling => k_is)
    (case a__law_table => k_is)
    (case l__law_table => k_is)
    (case d__law_table => k_is)
    (case k__law_table => k_is)
    (case a__law_garbled => k_is)
    (case l__law_garbled => k_is)
    (case d__law_garbled => k_is)
    (case k__law_garbled => k_is)
    (case a__law_is_table => k_is)
    (case l__law_is_table => k_is)
    (case d__law_is_table => k_is)
    (case k__law_is_table => k_is)
    (case a__law_leaf => k_is)
    (case l__law_leaf => k_is)
    (case d__law_leaf => k_is)
    (case k__law_leaf => k_is)
    (case a__law_spoilt => k_is)
    (case l__law_spoilt => k_is)
    (case d__law_spoilt => k_is)
    (case k__law_spoilt => k_is)
    (case a__law_tables_are_told => k_is)
    (case l__law_tables_are_told => k_is)
    (case d__law_tables_are_told => k_is)
    (case k__law_tables_are_told => k_is)
    (case a_law => k_is)
    (case l_law => k_is)
    (case d_law => k_is)
    (case k_law => k_is)
    (case t_wholes => k_is)
    (case p_wholes => exact rfl)
    (case n_wholes => kernel_rfl)
    (case h_wholes => kernel_rfl)
    (case r_wholes => first | kernel_rfl | decide +kernel)
    (case t_rows_over => k_is)
    (case p_rows_over => exact rfl)
    (case n_rows_over => kernel_rfl)
    (case h_rows_over => kernel_rfl)
    (case r_rows_over => first | kernel_rfl | decide +kernel)
    (case t_are_chances => k_is)
    (case p_are_chances => exact rfl)
    (case n_are_chances => kernel_rfl)
    (case h_are_chances => kernel_rfl)
    (case r_are_chances => first | kernel_rfl | decide +kernel)
    (case t_is_table => k_is)
    (case p_is_table => exact rfl)
    (case n_is_table => kernel_rfl)
    (case h_is_table => kernel_rfl)
    (case r_is_table => first | kernel_rfl | decide +kernel)
    (case t_garbled => k_is)
    (case p_garbled => exact rfl)
    (case n_garbled => kernel_rfl)
    (case h_garbled => kernel_rfl)
    (case r_garbled => first | kernel_rfl | decide +kernel)
    (case z_abs => k_is)
    (case z_all => k_is)
    (case z_bool => k_is)
    (case z_int => k_is)
    (case z_isinstance => k_is)
    (case z_len => k_is)
    (case z_list => k_is)
    (case z_range => k_is)
    (case z_str => k_is)
    (case z_sum => k_is)
    (case z_tuple => k_is)
    (case z_zip => k_is)
    (case nl => kernel_rfl)
