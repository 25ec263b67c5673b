import PyProof.Rows.All
import Wide.All
import OpenK.AllK
import Wide.FinOn
import PyProof.GenQ
import PyProof.CodeObjX
import KE.KNest
import HandS.ForMost
import HandS.AnyAll
import HandS.Lambda
import HandS.GenList
import HandS.SetFor
import HandS.Strs
import HandS.Deep
import HandS.TupAny
import KE.KDictKeyed
import KE.KeyNested
import KE.KDictDisplayH
import KE.KDictLaw
import PySem.Challenge.RW_dyeworks_k00_whole_law
import KE.KStateDown
import Lean
import HandS.Base
import HandS.Call
import HandS.Ends
import HandS.More
import HandS.Words
import HandS.WordsExc
import HandS.Defaults
import HandS.Head0
import HandS.Head1
import HandS.Head2
import HandS.HeadEnd
import HandS.HeadHook1
import HandS.HeadHook2
import HandS.HeadHook3
import HandS.HeadHook4
import HandS.HeadWalk
import HandS.IsInst
import HandS.Wide
import HandS.Zip
section
set_option Elab.async false
set_option linter.all false
set_option maxRecDepth 100000
set_option maxHeartbeats 2000000
/-! any, all of a generator expression whose element may be any expression of the layer -/
namespace Dw
open PySem PySem.Spec PyProof.Rows L2 GenW

/-! ### tables of code objects -/
/-- the code object at c, its table at P -/
def CodeH (c P : Addr) : HO := .ext fun h => PySem.W.CodeHd h c P
/-- what is known of a code object's value, n deep -/
def InfoN : Nat → Hp → Value → Prop
  | 0, _, _ => True
  | n + 1, H, cv => ∃ c P, cv = .ref c ∧ H c = some (CodeH c P) ∧ ∃ ps : Array Value, H P = some (.tbl ps) ∧ TriplesOk ps.toList ∧ ∀ pos cv', codeAmong pos ps.toList = some cv' → InfoN n H cv'
def TabN (n : Nat) (H : Hp) (P : Addr) : Prop := ∃ ps : Array Value, H P = some (.tbl ps) ∧ TriplesOk ps.toList ∧ ∀ pos cv, codeAmong pos ps.toList = some cv → InfoN n H cv
theorem codeH_ne {c P : Addr} (ps : Array Value) : CodeH c P ≠ .tbl ps := fun z => by
  unfold CodeH at z
  cases z
theorem infoN_of {H H' : Hp} (h1 : ∀ b ps, H b = some (.tbl ps) → H' b = some (.tbl ps)) (h2 : ∀ c P, H c = some (CodeH c P) → H' c = some (CodeH c P)) : ∀ (n : Nat) (cv : Value), InfoN n H cv → InfoN n H' cv
  | 0, _, _ => trivial
  | n + 1, cv, ⟨c, P, e, hc, ps, hP, ht, k⟩ => ⟨c, P, e, h2 _ _ hc, ps, h1 _ _ hP, ht, fun pos cv' q => infoN_of h1 h2 n cv' (k pos cv' q)⟩
theorem tabN_of {H H' : Hp} (h1 : ∀ b ps, H b = some (.tbl ps) → H' b = some (.tbl ps)) (h2 : ∀ c P, H c = some (CodeH c P) → H' c = some (CodeH c P)) {n : Nat} {P : Addr} : TabN n H P → TabN n H' P :=
  fun ⟨ps, hP, ht, k⟩ => ⟨ps, h1 _ _ hP, ht, fun pos cv q => infoN_of h1 h2 n cv (k pos cv q)⟩

/-- all but the tables stands as before; a good table stays one -/
structure Kp (H H' : Hp) : Prop where
  keep : ∀ b o, H b = some o → (∀ ps, o ≠ .tbl ps) → H' b = some o
  tab : ∀ n P, TabN n H P → TabN n H' P
  dom : ∀ b, H' b = none → H b = none
theorem Kp.refl (H : Hp) : Kp H H := ⟨fun _ _ h _ => h, fun _ _ h => h, fun _ h => h⟩
theorem Kp.trans {H H1 H2 : Hp} (a : Kp H H1) (b : Kp H1 H2) : Kp H H2 := ⟨fun c o h n => b.keep c o (a.keep c o h n) n, fun n P h => b.tab n P (a.tab n P h), fun c h => a.dom c (b.dom c h)⟩
theorem Kp.same {H H' : Hp} (h : Same H H') : Kp H H' := ⟨fun b o e _ => h b o e, fun _ _ t => tabN_of (fun b ps e => h _ _ e) (fun c P e => h _ _ e) t, fun b e => by
  cases q : H b with
  | none => rfl
  | some o => rw [h b o q] at e; cases e⟩
theorem same_new {H : Hp} {p : Addr} {o : HO} (h : H p = none) : Same H (upd H p o) := fun b u e => by rw [upd_ne (ne_of_none e h)]; exact e
theorem Kp.new {H0 H : Hp} {p : Addr} {o : HO} (k : Kp H0 H) (h : H p = none) : Kp H0 (upd H p o) := k.trans (.same (same_new h))
theorem Kp.free {H H' : Hp} (k : Kp H H') {p : Addr} (h : H' p = none) (hp : ∀ ps, H p ≠ some (.tbl ps)) : H p = none := k.dom p h
/-- an object of one's own is changed -/
theorem Kp.put {H0 H : Hp} {p : Addr} {o o' : HO} (k : Kp H0 H) (h0 : H0 p = none) (h : H p = some o') (h1 : ∀ ps, o' ≠ .tbl ps) (h2 : ∀ P, o' ≠ CodeH p P) : Kp H0 (upd H p o) where
  keep := fun b u e n => by
    have : b ≠ p := fun z => by rw [z, h0] at e; cases e
    rw [upd_ne this]
    exact k.keep b u e n
  tab := fun n P t => tabN_of (fun b ps e => by
      have : b ≠ p := fun z => by rw [z, h] at e; exact h1 ps (Option.some.inj e)
      rw [upd_ne this]; exact e) (fun c P e => by
      have : c ≠ p := fun z => by rw [z, h] at e; exact h2 P (Option.some.inj e)
      rw [upd_ne this]; exact e) (k.tab n P t)
  dom := fun b e => by
    by_cases z : b = p
    · rw [z]; exact h0
    · rw [upd_ne z] at e; exact k.dom b e
theorem lst_ne_code {xs : List V} {c P : Addr} : HO.lst xs ≠ CodeH c P := fun z => by unfold CodeH at z; cases z
theorem Kp.putL {H0 H : Hp} {p : Addr} {xs : List V} {o : HO} (k : Kp H0 H) (h0 : H0 p = none) (h : H p = some (.lst xs)) : Kp H0 (upd H p o) :=
  k.put h0 h (fun ps e => by cases e) fun P => lst_ne_code
theorem Kp.tup {H H' : Hp} (k : Kp H H') {b : Addr} {xs : List V} (h : H b = some (.tup xs)) : H' b = some (.tup xs) := k.keep _ _ h fun _ e => by cases e
theorem Kp.lst {H H' : Hp} (k : Kp H H') {b : Addr} {xs : List V} (h : H b = some (.lst xs)) : H' b = some (.lst xs) := k.keep _ _ h fun _ e => by cases e
theorem Kp.ins {H H' : Hp} (k : Kp H H') {b C dx : Addr} {fs : List (Str × V)} (h : H b = some (.ins C dx fs)) : H' b = some (.ins C dx fs) := k.keep _ _ h fun _ e => by cases e

section
variable {X : Cx} {pins : List (Addr × Obj)} {σ : L2.St} {H : Hp} {s : Shared}
/-- the table has grown by a new code object that has an empty table -/
theorem inv_tab {P c' P' : Addr} {ps more : Array Value} {h' : Heap} {t' : Nat} (I : Inv X pins σ H s) (hP : H P = some (.tbl ps)) (k : ∀ b o, b ≠ P → s.heap.get? b = some o → h'.get? b = some o)
    (hm : h'.get? P = some { cls := .none, data := .fields (ps ++ more) }) (hc : s.heap.objs.size ≤ c') (hc2 : s.heap.objs.size ≤ P') (hcd : PySem.W.CodeHd h' c' P') (ht : h'.get? P' = some { cls := .none, data := .fields #[] }) :
    Inv X pins σ (upd (upd (upd H P (.tbl (ps ++ more))) c' (CodeH c' P')) P' (.tbl #[])) { s with heap := h', toks := t' } := by
  have nC : H c' = none := I.hok.fresh hc
  have nP' : H P' = none := I.hok.fresh hc2
  have ncp : c' ≠ P' := by obtain ⟨_, _, _, _, _, _, _, _, _, _, _, _, _, _, _, _, _, _, ne⟩ := hcd; exact ne
  have nPc : P ≠ c' := ne_of_none hP nC
  have nPp : P ≠ P' := ne_of_none hP nP'
  have at_ : ∀ b, b ≠ P → b ≠ c' → b ≠ P' → upd (upd (upd H P (.tbl (ps ++ more))) c' (CodeH c' P')) P' (.tbl #[]) b = H b := fun b h1 h2 h3 => by rw [upd_ne h3, upd_ne h2, upd_ne h1]
  have atP : upd (upd (upd H P (.tbl (ps ++ more))) c' (CodeH c' P')) P' (.tbl #[]) P = some (.tbl (ps ++ more)) := by rw [upd_ne nPp, upd_ne nPc, upd_same]
  have atc : upd (upd (upd H P (.tbl (ps ++ more))) c' (CodeH c' P')) P' (.tbl #[]) c' = some (CodeH c' P') := by rw [upd_ne ncp, upd_same]
  have nP : ∀ b u, H b = some u → (∀ q, u ≠ .tbl q) → b ≠ P := fun b u e q z => by
    rw [z, hP] at e
    exact q ps (Option.some.inj e).symm
  have nN : ∀ b, H b = none → b ≠ P := fun b e z => by
    rw [z, hP] at e
    cases e
  have lt1 : ∀ b o, s.heap.get? b = some o → b ≠ c' := fun b o e z => by
    rw [z] at e
    exact Nat.lt_irrefl _ (Nat.lt_of_lt_of_le (Heap.lt_size e) hc)
  have lt2 : ∀ b o, s.heap.get? b = some o → b ≠ P' := fun b o e z => by
    rw [z] at e
    exact Nat.lt_irrefl _ (Nat.lt_of_lt_of_le (Heap.lt_size e) hc2)
  have sm1 : ∀ b u, H b = some u → b ≠ c' := fun b u e => ne_of_none e nC
  have sm2 : ∀ b u, H b = some u → b ≠ P' := fun b u e => ne_of_none e nP'
  refine I.step (g' := s.gens) (d' := s.drawn) (ch := []) (fun b hb => absurd hb (by simp)) (fun b o _ _ _ e n => k b o (nN b n) e) (fun b o _ _ _ e n => ⟨o.slots, k b o (nN b n) e⟩)
    (fun b o _ e n => by rw [at_ b (nN b n) (lt1 b o e) (lt2 b o e)]; exact n) (fun b o _ e => ?_) (fun b xs e => by rw [at_ b (nP b _ e (fun q z => by cases z)) (sm1 b _ e) (sm2 b _ e)]; exact e)
    (fun b o u e => by rw [at_ b (nP b _ e (fun q z => by cases z)) (sm1 b _ e) (sm2 b _ e)]; exact e) (fun b qs e => ?_) (fun m hn => ?_) (fun b u e => ?_) I.bare
  · by_cases hb : b = P
    · rw [hb]
      exact ⟨_, hm⟩
    · exact ⟨o, k b o hb e⟩
  · by_cases hb : b = P
    · rw [hb, hP] at e
      cases e
      rw [hb, atP]
      exact ⟨more, rfl⟩
    · rw [at_ b hb (sm1 b _ e) (sm2 b _ e), e]
      exact ⟨#[], by simp⟩
  · obtain ⟨ob, es, ep, ho, r⟩ := hn
    exact ⟨ob, es, ep, k _ ob (nN _ I.free) ho, r⟩
  · by_cases hb3 : b = P'
    · subst hb3
      rw [upd_same] at e
      cases e
      exact ht
    · by_cases hb : b = c'
      · subst hb
        rw [atc] at e
        cases e
        refine ⟨hcd, ?_, fun h1 h2 q st => ?_⟩
        · obtain ⟨o, _, _, _, _, _, _, _, _, e1, _⟩ := hcd
          exact ⟨o, e1⟩
        · obtain ⟨o, vs, file, tf, flags, tg, inF, text, tt, e1, r⟩ := q
          exact ⟨o, vs, file, tf, flags, tg, inF, text, tt, st _ e1, r⟩
      · by_cases hb2 : b = P
        · subst hb2
          rw [atP] at e
          cases e
          exact hm
        · rw [at_ b hb2 hb hb3] at e
          refine (I.hok b u e).stay (fun d v hd q => k d v ?_ q) (fun d q => by rw [at_ d (nP d _ q (fun q z => by cases z)) (sm1 d _ q) (sm2 d _ q)]; exact q) fun d xs q => by rw [at_ d (nP d _ q (fun q z => by cases z)) (sm1 d _ q) (sm2 d _ q)]; exact q
          rcases hd with z | z
          · rw [z]
            exact hb2
          · exact nP d _ z (fun q z => by cases z)

theorem among_app {pos p' : Pos} {c cv : Value} (l : List Value) (h : TriplesOk l) (hc : codeAmong p' (l ++ [rawInt pos.line, rawInt pos.col, c]) = some cv) : codeAmong p' l = some cv ∨ cv = c := LamX.among_app l h hc

/-- behind the growth -/
theorem kp_tab {P c' P' : Addr} {ps : Array Value} {pos : Pos} (hP : H P = some (.tbl ps)) (ht : TriplesOk ps.toList) (nC : H c' = none) (nP' : H P' = none) (ncp : c' ≠ P') :
    Kp H (upd (upd (upd H P (.tbl (ps ++ #[rawInt pos.line, rawInt pos.col, .ref c']))) c' (CodeH c' P')) P' (.tbl #[])) ∧
      ∀ n, InfoN n (upd (upd (upd H P (.tbl (ps ++ #[rawInt pos.line, rawInt pos.col, .ref c']))) c' (CodeH c' P')) P' (.tbl #[])) (.ref c') := by
  generalize hH : upd (upd (upd H P (.tbl (ps ++ #[rawInt pos.line, rawInt pos.col, .ref c']))) c' (CodeH c' P')) P' (.tbl #[]) = H'
  have nPc : P ≠ c' := ne_of_none hP nC
  have nPp : P ≠ P' := ne_of_none hP nP'
  have at_ : ∀ b u, H b = some u → b ≠ P → H' b = some u := fun b u e h1 => by
    rw [← hH, upd_ne (ne_of_none e nP'), upd_ne (ne_of_none e nC), upd_ne h1]; exact e
  have atP : H' P = some (.tbl (ps ++ #[rawInt pos.line, rawInt pos.col, .ref c'])) := by rw [← hH, upd_ne nPp, upd_ne nPc, upd_same]
  have atc : H' c' = some (CodeH c' P') := by rw [← hH, upd_ne ncp, upd_same]
  have atp : H' P' = some (.tbl #[]) := by rw [← hH, upd_same]
  have info : ∀ n, InfoN n H' (.ref c') := fun n => by
    cases n with
    | zero => trivial
    | succ n => exact ⟨c', P', rfl, atc, #[], atp, trivial, fun pos cv q => by simp [codeAmong] at q⟩
  have hl : (ps ++ #[rawInt pos.line, rawInt pos.col, Value.ref c']).toList = ps.toList ++ [rawInt pos.line, rawInt pos.col, .ref c'] := by simp
  have step : ∀ n, (∀ cv, InfoN n H cv → InfoN n H' cv) ∧ ∀ Q, TabN n H Q → TabN n H' Q := by
    intro n
    induction n with
    | zero =>
      refine ⟨fun _ _ => trivial, fun Q ⟨qs, hQ, hq, _⟩ => ?_⟩
      by_cases e : Q = P
      · subst e
        rw [hP] at hQ
        cases hQ
        exact ⟨_, atP, by rw [hl]; exact TriplesOk_snoc _ _ _ _ ht, fun _ _ _ => trivial⟩
      · exact ⟨qs, at_ _ _ hQ e, hq, fun _ _ _ => trivial⟩
    | succ n ih =>
      have i1 : ∀ cv, InfoN (n + 1) H cv → InfoN (n + 1) H' cv := fun cv ⟨c, R, e, hc, r⟩ => by
        refine ⟨c, R, e, at_ _ _ hc (fun z => ?_), ih.2 R r⟩
        rw [z, hP] at hc
        exact codeH_ne _ (Option.some.inj hc).symm
      refine ⟨i1, fun Q ⟨qs, hQ, hq, k⟩ => ?_⟩
      by_cases e : Q = P
      · subst e
        rw [hP] at hQ
        cases hQ
        refine ⟨_, atP, by rw [hl]; exact TriplesOk_snoc _ _ _ _ ht, fun p' cv q => ?_⟩
        rw [hl] at q
        rcases among_app _ ht q with q | q
        · exact i1 cv (k p' cv q)
        · rw [q]; exact info _
      · exact ⟨qs, at_ _ _ hQ e, hq, fun p' cv q => i1 cv (k p' cv q)⟩
  refine ⟨⟨fun b o e n => at_ b o e fun z => ?_, fun n Q t => (step n).2 Q t, fun b e => ?_⟩, info⟩
  rotate_left
  · cases q : H b with
    | none => rfl
    | some o =>
      by_cases z : b = P
      · rw [z, atP] at e; cases e
      · rw [at_ b o q z] at e; cases e
  rw [z, hP] at e
  exact n _ (Option.some.inj e).symm
end
end Dw
end

section
set_option Elab.async false
set_option linter.all false
set_option maxRecDepth 100000
set_option maxHeartbeats 2000000
namespace Dw
open PySem PySem.Spec PyProof.Rows L2 GenW

/-! ### the generator is made -/
abbrev genEnvC (scope : Scope) (cells : List (Str × Addr)) (C : Addr) (code : Value) (bi : Addr) (env : Env) : Env :=
  { scope, locals := C, globals := env.globals, cells, qual := env.qual ++ "<genexpr>.", func := none, code, frame := some C, builtins := bi }
abbrev genObj (g : Nat) (q : Str) (t u : Nat) : Obj := { cls := .type "generator", data := .fields #[.int g 0, .str "<genexpr>" t, .str q u] }
abbrev frameObj : Obj := { cls := .type "frame", data := .dict #[] }

section
variable {M : Model} {A : Around} {E : Value → Shared → Prop} {s : Shared}
theorem newEnv_gen {scope : Scope} {globals bi : Addr} {cl : List (Str × Addr)} {it code : Value} {qual : Str} {Q : Env → Shared → Prop} (hk : scope.kind = .function) (h0 : scope.names.lookup (".0" : Str) = some NameKind.local)
    (hQ : ∀ h' tk, h'.Ns s.heap.objs.size (fun y => if y = ".0" then some it else none) → Heap.SameBut s.heap.objs.size (pushCells (s.heap.push frameObj) scope.names) h' →
      Q (newEnv scope s.heap.objs.size globals (cellsFrom (s.heap.objs.size + 1) scope.names cl) qual none code none bi) { s with heap := h', toks := tk }) :
    wpAny M A (newFunctionEnv scope globals cl [(".0", it)] qual none code none bi) Q E s := by
  simp only [newFunctionEnv, Option.isSome_none, Bool.false_eq_true, if_false]
  refine wpAny_bind (wpAny_alloc ?_)
  refine wpAny_bind (wpAny_layCells _ (fun name kind cells => by cases hkc : kind == NameKind.cell <;> simp [hkc]) _ _ _ _ ?_)
  rw [show ({ s with heap := s.heap.push { cls := .type "frame", data := .dict #[] } } : Shared).heap.objs.size = s.heap.objs.size + 1 from Heap.size_push ..]
  refine wpAny_bind ?_
  rw [List.forIn_cons]
  have hn : (pushCells (s.heap.push frameObj) scope.names).Ns s.heap.objs.size (fun _ => none) := (Heap.Ns.new s.heap (.type "frame")).keeps (pushCells_keeps _ _)
  refine wpAny_bind (wpAny_bind (wpAny_storeName_local (env := newEnv scope s.heap.objs.size globals (cellsFrom (s.heap.objs.size + 1) scope.names cl) qual none code none bi) h0 hn (fun h' hn' hs' => ?_) (by show (scope.kind == .class || (scope.kind == .module && _)) = false; rw [hk]; rfl)))
  refine wpAny_pure ?_
  show wpAny M A (forIn ([] : List (Str × Value)) PUnit.unit _) _ _ _
  rw [List.forIn_nil]
  exact wpAny_pure (wpAny_pure (hQ h' _ hn' hs'))

theorem eval_Gen1 (elt target iter : Expr) (rest : List Comprehension) (scope : Scope) (pos : Pos) (env : Env) (hco : scope.isCoroutine = false) :
    eval (.GeneratorExp elt (⟨target, iter, [], 0⟩ :: rest) scope pos) env = (do
      let x ← eval iter env
      standAt iter.pos
      let x ← genFold iter env x
      let it ← holding [x] (pyIter x)
      enterFrame
      let cl ← closureFor scope env
      let code ← genexprCode env pos (env.qual ++ "<genexpr>") scope
      let bi ← builtinsFor env.globals env.builtins
      let cenv ← newFunctionEnv scope env.globals cl [(".0", it)] (env.qual ++ "<genexpr>.") none code none bi
      newGenerator (.compStart (.GeneratorExp elt (⟨target, iter, [], 0⟩ :: rest) scope pos) 0 it .none cenv) "<genexpr>" (env.qual ++ "<genexpr>")) := by
  rw [arm_eval_GeneratorExp]
  simp only [hco, Bool.false_eq_true, if_false]
  cases iter <;> rfl

theorem gen_make {env : Env} {elt target iter : Expr} {rest : List Comprehension} {scope : Scope} {cl : List (Str × Addr)} {pos : Pos} {Q : Value → Shared → Prop}
    (hco : scope.isCoroutine = false) (hclos : closureFor scope env = pure cl) (h0 : scope.names.lookup (".0" : Str) = some NameKind.local) (hkind : scope.kind = .function)
    (hroom : A.depth < recursionLimit)
    (h : wpAny M A (eval iter env) (fun xv s₁ => wpAny M A (pyIter xv) (fun it s₂ => s₂.heap.NoLimit ∧
      wpAny M A (genexprCode env pos (env.qual ++ "<genexpr>") scope) (fun code s₃ => wpAny M A (builtinsFor env.globals env.builtins) (fun bi s₄ =>
        ∀ h' t1 t2 t3, h'.Ns s₄.heap.objs.size (fun y => if y = ".0" then some it else none) → Heap.SameBut s₄.heap.objs.size (pushCells (s₄.heap.push frameObj) scope.names) h' →
          Q (.ref h'.objs.size) { s₄ with
            gens := s₄.gens.push (.fresh (.compStart (.GeneratorExp elt (⟨target, iter, [], 0⟩ :: rest) scope pos) 0 it .none (genEnvC scope (cellsFrom (s₄.heap.objs.size + 1) scope.names cl) s₄.heap.objs.size code bi env))),
            toks := t3,
            heap := h'.push (genObj s₄.gens.size (env.qual ++ "<genexpr>") t1 t2) }) E s₃) E s₂) E s₁) E s)
    (hs : ∀ x, genFold iter env x = pure x) :
    wpAny M A (eval (.GeneratorExp elt (⟨target, iter, [], 0⟩ :: rest) scope pos) env) Q E s := by
  rw [eval_Gen1 _ _ _ _ _ _ _ hco, hclos]
  refine wpAny_bind (wpAny_mono h (fun xv s₁ h₁ => ?_) fun _ _ e => e)
  refine wpAny_bind (wpAny_standAt ?_)
  refine wpAny_bind (wpAny_of_eq (hs xv) ?_)
  refine wpAny_bind (wpAny_holding (wpAny_mono h₁ (fun it s₂ h₂ => ?_) fun _ _ e => e))
  refine wpAny_bind (wpAny_enterFrame h₂.1 hroom ?_)
  refine wpAny_bind (wpAny_pure ?_)
  refine wpAny_bind (wpAny_mono h₂.2 (fun code s₃ h₃ => ?_) fun _ _ e => e)
  refine wpAny_bind (wpAny_mono h₃ (fun bi s₄ h₄ => ?_) fun _ _ e => e)
  refine wpAny_bind (newEnv_gen hkind h0 fun h' tk hn' hs' => ?_)
  simp only [newGenerator, newFields]
  refine wpAny_bind (wpAny_newGen (wpAny_bind (wpAny_mkText (wpAny_bind (wpAny_mkText (wpAny_newObj_type ?_ (by size_fits)))))))
  exact h₄ h' _ _ _ hn' hs'
end

/-! ### the generator's own context -/
/-- its scope: own names ns (and «.0»), captured names; N: the names around -/
structure GenSc (N ns : List Str) (sc scope : Scope) : Prop where
  kind : scope.kind = .function
  co : scope.isCoroutine = false
  dot : scope.names.lookup (".0" : Str) = some NameKind.local
  uniq : ∀ y ∈ scope.names, scope.names.lookup y.1 = some y.2
  free : ∀ y ∈ scope.names, y.2 = .free → sc.names.lookup y.1 = some .cell ∨ sc.names.lookup y.1 = some .free
  own : ∀ y ∈ scope.names, y.2 = .local ∨ y.2 = .cell → y.1 ∉ N

/-- the code that the generator runs -/
abbrev gLoop (elt tg iter : Expr) (rest : List Comprehension) (scope : Scope) (gpos : Pos) (it : Addr) (cenv : Env) : Code := .compLoop (.GeneratorExp elt (⟨tg, iter, [], 0⟩ :: rest) scope gpos) 0 (.ref it) .none cenv
abbrev gStart (elt tg iter : Expr) (rest : List Comprehension) (scope : Scope) (gpos : Pos) (it : Addr) (cenv : Env) : Code := .compStart (.GeneratorExp elt (⟨tg, iter, [], 0⟩ :: rest) scope gpos) 0 (.ref it) .none cenv
/-- around the generator's code -/
abbrev gAround (A : Around) (cenv : Env) : Around := ⟨A.handled, A.depth + 1, pushEnvs [cenv] A.frames, A.guards, A.units + 1 + 1 + 3⟩
theorem over_gLoop {A : Around} {elt tg iter : Expr} {rest : List Comprehension} {scope : Scope} {gpos : Pos} {it : Addr} {cenv : Env} : A.in1.in1.over (gLoop elt tg iter rest scope gpos it cenv) [] = gAround A cenv := by
  first
    | rfl
    | (obtain ⟨hd, d, fr, gs, u⟩ := A; simp [Around.over, gAround, Around.in1, marksOver, frameCount, unitsOf, envsOf, guardsOf, pushEnvs, pushGuards, Code.envs, Code.env?, Code.isFrame, Code.guards, Code.isGuard, Code.weight, Code.frames, Code.isCreation, Code.isCaller, Code.cUnits])
theorem over_gStart {A : Around} {elt tg iter : Expr} {rest : List Comprehension} {scope : Scope} {gpos : Pos} {it : Addr} {cenv : Env} : A.in1.in1.over (gStart elt tg iter rest scope gpos it cenv) [] = gAround A cenv := by
  first
    | rfl
    | (obtain ⟨hd, d, fr, gs, u⟩ := A; simp [Around.over, gAround, Around.in1, marksOver, frameCount, unitsOf, envsOf, guardsOf, pushEnvs, pushGuards, Code.envs, Code.env?, Code.isFrame, Code.guards, Code.isGuard, Code.weight, Code.frames, Code.isCreation, Code.isCaller, Code.cUnits])
theorem Room.gen {k : Nat} {A : Around} (r : Room (k + 1) A) (cenv : Env) : Room k (gAround A cenv) :=
  ⟨r.hd, by have := r.dp; show A.depth + 1 + 3 * k + 5 < _; omega, by have := r.un; show A.units + 1 + 1 + 3 + 16 * k + 200 < _; omega⟩

/-- the context of a generator that is made at s -/
abbrev gcx (X : Cx) (s : Shared) (H : Hp) (scope : Scope) (cells : List (Str × Addr)) (C : Addr) (cv : Value) (A : Around) (ns : List Str) (fp : List Addr) (pn : List (Addr × Obj)) : Cx :=
  { X with A := A, N := X.N ++ ns, s_0 := s, H_0 := H, env := genEnvC scope cells C cv builtinsNs X.env, outer := X.stack, stack := genEnvC scope cells C cv builtinsNs X.env :: X.stack, ex := fp, fn := fun x => scope.names.lookup x == some .cell, pn := pn, xe := fun _ _ => False }

section
variable {X : Cx} {pins : List (Addr × Obj)} {σ : L2.St} {H : Hp} {s : Shared}
theorem gen_start {scope : Scope} {ns : List Str} {fp : List Addr} {cv : Value} {gob : Obj} {it : Value} {h' : Heap} {g' : Array GenState} {d' : Drawn} {t' : Nat} (I : Inv X pins σ H s) (S : GenSc X.N ns X.env.scope scope) (hfp : ∀ b ∈ fp, FpOk X pins H b ∧ b < s.heap.objs.size)
    (hgd : ∀ v, gob.data ≠ .cell v) (hn : h'.Ns s.heap.objs.size (fun y => if y = ".0" then some it else none)) (hsb : Heap.SameBut s.heap.objs.size (pushCells (s.heap.push frameObj) scope.names) h') (hg : AllBare g') (hgp : (h'.push gob).get? h'.objs.size = some gob) :
    Inv (gcx X s H scope (cellsFrom (s.heap.objs.size + 1) scope.names (cloFrom X.env.cells scope.names [])) s.heap.objs.size cv (gAround X.A (genEnvC scope (cellsFrom (s.heap.objs.size + 1) scope.names (cloFrom X.env.cells scope.names [])) s.heap.objs.size cv builtinsNs X.env)) ns fp [(h'.objs.size, gob)]) []
      (σ ++ List.replicate ns.length none) H { s with heap := h'.push gob, gens := g', drawn := d', toks := t' } := by
  have hfree : ∀ y ∈ scope.names, y.2 = .free → ∃ c, X.env.cells.lookup y.1 = some c := fun y hy e => by
    rcases S.free y hy e with k | k
    · exact I.ok.has _ (.inl k)
    · exact I.ok.has _ (.inr k)
  generalize hcenv : genEnvC scope (cellsFrom (s.heap.objs.size + 1) scope.names (cloFrom X.env.cells scope.names [])) s.heap.objs.size cv builtinsNs X.env = cenv
  have szc : (pushCells (s.heap.push frameObj) scope.names).objs.size = h'.objs.size := hsb.1.symm
  have szp : s.heap.objs.size + 1 ≤ h'.objs.size := by
    rw [← szc]
    refine Nat.le_trans ?_ (pushCells_size _ _)
    rw [Heap.size_push]
    exact Nat.le_refl _
  have kp0 : ∀ b o, (pushCells (s.heap.push frameObj) scope.names).get? b = some o → b ≠ s.heap.objs.size → (h'.push gob).get? b = some o := fun b o e n => Heap.get?_push_of_some _ ((hsb.2 b n).trans e)
  have kp : ∀ b o, s.heap.get? b = some o → (h'.push gob).get? b = some o := fun b o e => kp0 b o (pushCells_keeps _ _ _ _ (Heap.get?_push_of_some _ e)) (Nat.ne_of_lt (Heap.lt_size e))
  have hL : cenv.locals = s.heap.objs.size := by rw [← hcenv]
  have hcl : cenv.cells = cellsFrom (s.heap.objs.size + 1) scope.names (cloFrom X.env.cells scope.names []) := by rw [← hcenv]
  have hsc : cenv.scope = scope := by rw [← hcenv]
  rw [← Heap.size_push s.heap frameObj] at hcl
  have cm : ∀ {y c}, (y, c) ∈ cloFrom X.env.cells scope.names [] → X.env.cells.lookup y = some c ∧ c < s.heap.objs.size := fun {y c} hm => by
    rcases cloFrom_mem hm with hm | ⟨h1, rfl⟩
    · cases hm
    · obtain ⟨c, hc⟩ := hfree _ h1 rfl
      rw [hc]
      obtain ⟨w, z⟩ := I.cell _ _ hc
      exact ⟨rfl, z.lt⟩
  have mem : ∀ {y c}, cenv.cells.lookup y = some c → (X.env.cells.lookup y = some c ∧ c < s.heap.objs.size) ∨ (s.heap.objs.size + 1 ≤ c ∧ CellAt (h'.push gob) c none) := fun {y c} e => by
    rw [hcl] at e
    rcases cells_mem (PySem.mem_of_lookup e) with hm | ⟨_, h2, h3⟩
    · exact .inl (cm hm)
    · rw [Heap.size_push] at h2
      obtain ⟨oc, h3, h4⟩ := h3
      exact .inr ⟨h2, oc, kp0 c oc h3 (Nat.ne_of_gt h2), h4⟩
  have look : ∀ {y}, scope.names.lookup y = some .free → ∃ c, cenv.cells.lookup y = some c ∧ X.env.cells.lookup y = some c := fun {y} hl => by
    have hy : (y, NameKind.free) ∈ scope.names := PySem.mem_of_lookup hl
    obtain ⟨c', e'⟩ := mem_lookup (cells_acc (names := scope.names) (n := (s.heap.push frameObj).objs.size) (cloFrom_has (cells := X.env.cells) (acc := []) hy))
    rw [← hcl] at e'
    refine ⟨c', e', ?_⟩
    rw [hcl] at e'
    rcases cells_mem (PySem.mem_of_lookup e') with hm | ⟨h1, _, _⟩
    · exact (cm hm).1
    · have := S.uniq _ h1
      rw [hl] at this; cases this
  have gge : s.heap.objs.size < h'.objs.size := szp
  have okB : (gcx X s H scope (cellsFrom (s.heap.objs.size + 1) scope.names (cloFrom X.env.cells scope.names [])) s.heap.objs.size cv (gAround X.A cenv) ns fp [(h'.objs.size, gob)]).Ok := by
    refine ⟨I.ok.mod, S.kind, I.ok.glob, rfl, Nat.le_refl _, fun y z c e1 e2 => ?_, fun y hy => ?_, fun y c z e => ?_, I.ok.hd, ?_, .inr ⟨rfl, rfl⟩, fun b hb => ⟨?_, fun y c e z => ?_⟩, I.bs, Nat.le_trans I.ok.bsz I.sz, fun b o e hb => ?_, fun b hb z => ?_, I.stack, I.stkFree⟩
    · have e1 : cenv.cells.lookup y = some c := by rw [← hcenv]; exact e1
      have e2 : cenv.cells.lookup z = some c := by rw [← hcenv]; exact e2
      rw [hcl] at e1 e2
      refine cells_inj (fun p hp => ?_) (fun y z c a b => I.ok.inj y z c (cm a).1 (cm b).1) (PySem.mem_of_lookup e1) (PySem.mem_of_lookup e2)
      rw [Heap.size_push]
      exact Nat.lt_succ_of_lt (cm (y := p.1) (c := p.2) hp).2
    · have key : ∃ c, cenv.cells.lookup y = some c := by
        have hy : scope.names.lookup y = some .cell ∨ scope.names.lookup y = some .free := hy
        rcases hy with e | e
        · obtain ⟨c, hm⟩ := cells_has (n := (s.heap.push frameObj).objs.size) (acc := cloFrom X.env.cells scope.names []) (PySem.mem_of_lookup e)
          obtain ⟨c', e'⟩ := mem_lookup hm
          exact ⟨c', by rw [hcl]; exact e'⟩
        · obtain ⟨c, h1, _⟩ := look e
          exact ⟨c, h1⟩
      rw [← hcenv] at key
      exact key
    · have z : (scope.names.lookup y == some NameKind.cell) = true := z
      have z : scope.names.lookup y = some .cell := by simpa using z
      have e : cenv.cells.lookup y = some c := by rw [← hcenv]; exact e
      rw [hcl] at e
      rcases cells_mem (PySem.mem_of_lookup e) with hm | ⟨_, h2, _⟩
      · rcases cloFrom_mem hm with hm | ⟨h1, _⟩
        · cases hm
        · have q := S.uniq _ h1
          rw [z] at q; cases q
      · rw [Heap.size_push] at h2
        exact Nat.le_of_succ_le h2
    · rw [← hcenv]
      exact (congrArg (pushEnvs [_]) I.ok.frames).trans rfl
    · exact Nat.ne_of_lt (hfp b hb).2
    · have e : cenv.cells.lookup y = some c := by rw [← hcenv]; exact e
      rcases mem e with ⟨h1, _⟩ | ⟨h1, _⟩
      · exact (hfp b hb).1.2.2.2.2.1 y c h1 z
      · have h2 : s.heap.objs.size + 1 ≤ b := by rw [← z]; exact h1
        exact absurd (Nat.lt_of_lt_of_le (hfp b hb).2 (Nat.le_of_succ_le h2)) (Nat.lt_irrefl _)
    · rcases (hfp b hb).1.2.2.2.1 with z | z
      · exact I.ok.noex b o e z
      · exact absurd (Nat.lt_of_lt_of_le (Heap.lt_size e) (Nat.le_trans I.ok.bsz z)) (Nat.lt_irrefl _)
    · rcases List.mem_cons.mp (I.stkSub b z) with z | z
      · exact (hfp b hb).1.2.1 z
      · exact (hfp b hb).1.2.2.1 z
  have hns : (h'.push gob).Ns s.heap.objs.size (fun y => if y = ".0" then some it else none) := Heap.Ns.keeps hn fun b o e => Heap.get?_push_of_some _ e
  refine ⟨okB, rfl, hg, Un.kept kp, ⟨_, hns, fun i y av e1 e2 e3 => ?_⟩, fun y c e => ?_, ?_, fun y c e => ?_, fun p hp => ?_, I.hok.kept kp, ?_⟩
  · have hi : i < σ.length := by
      by_cases hi : i < σ.length
      · exact hi
      · rw [List.getElem?_append_right (by omega), List.getElem?_replicate] at e2
        split at e2 <;> cases e2
    have e2' : σ[i]? = some (some av) := by rw [List.getElem?_append_left hi] at e2; exact e2
    have e1' : X.N[i]? = some y := by
      have e1 : (X.N ++ ns)[i]? = some y := e1
      rw [List.getElem?_append_left (by rw [← I.len]; exact hi)] at e1; exact e1
    have hyN : y ∈ X.N := List.mem_of_getElem? e1'
    have hfr : scope.names.lookup y = some .free := by
      have e3 : Vis scope y := e3
      rcases e3 with e3 | e3 | e3
      · exact absurd hyN (S.own _ (PySem.mem_of_lookup e3) (.inl rfl))
      · exact absurd hyN (S.own _ (PySem.mem_of_lookup e3) (.inr rfl))
      · exact e3
    obtain ⟨m, hn, hl⟩ := I.loc
    have hvis : Vis X.env.scope y := (S.free _ (PySem.mem_of_lookup hfr) rfl).elim (fun k => .inr (.inl k)) (fun k => .inr (.inr k))
    obtain ⟨w, r, q⟩ := hl i y av e1' e2' hvis
    obtain ⟨c, h1, h2⟩ := look hfr
    refine ⟨w, r, .inr ⟨.inr hfr, c, ?_, ?_⟩⟩
    · rw [← hcenv] at h1; exact h1
    rcases q with ⟨k, _⟩ | ⟨_, c', e', z⟩
    · have k : X.env.scope.names.lookup y = some .local := k
      rcases S.free _ (PySem.mem_of_lookup hfr) rfl with k' | k' <;> rw [show X.env.scope.names.lookup y = _ from k'] at k <;> cases k
    · rw [h2] at e'; cases e'
      exact z.keeps kp
  · have e : cenv.cells.lookup y = some c := by rw [← hcenv]; exact e
    rcases mem e with ⟨h1, _⟩ | ⟨_, z⟩
    · obtain ⟨w, z⟩ := I.cell y c h1
      exact ⟨w, z.keeps kp⟩
    · exact ⟨_, z⟩
  · exact I.hok.fresh (Nat.le_refl _)
  · have e : cenv.cells.lookup y = some c := by rw [← hcenv]; exact e
    rcases mem e with ⟨h1, _⟩ | ⟨h1, _⟩
    · exact I.freeC y c h1
    · exact I.hok.fresh (Nat.le_of_succ_le h1)
  · have hp : p ∈ ([(h'.objs.size, gob)] : List (Addr × Obj)) ++ [] := hp
    rw [List.append_nil] at hp
    rw [List.mem_singleton.mp hp]
    refine ⟨hgp, I.hok.fresh (Nat.le_of_lt gge), Nat.ne_of_gt gge, fun z => ?_, hgd⟩
    rcases List.mem_cons.mp (I.stkSub _ z) with z | z
    · have := I.lt
      rw [← z] at this
      exact absurd (Nat.lt_trans this gge) (Nat.lt_irrefl _)
    · exact I.nofs (Nat.le_of_lt gge) z
  · show (σ ++ List.replicate ns.length none).length = (X.N ++ ns).length
    rw [List.length_append, List.length_append, List.length_replicate, I.len]

/-- woken again: nothing has changed but the table of generators -/
structure Woke (s s' : Shared) : Prop where
  os : s'.os = s.os
  heap : s'.heap = s.heap
  bare : AllBare s'.gens
theorem Inv.woke {s' : Shared} (I : Inv X pins σ H s) (z : Woke s s') : Inv X pins σ H s' := by
  obtain ⟨h, g, d, t, o⟩ := s'
  obtain ⟨z1, z2, z3⟩ := z
  have z1 : o = s.os := z1
  have z2 : h = s.heap := z2
  subst z1 z2
  exact ⟨I.ok, I.os, z3, I.base, I.loc, I.cell, I.free, I.freeC, I.pin, I.hok, I.len⟩
end
end Dw
end

section
set_option Elab.async false
set_option linter.all false
set_option maxRecDepth 100000
set_option maxHeartbeats 2000000
namespace Dw
open PySem PySem.Spec PyProof.Rows L2 GenW

/-- the end of the walk: all items were z -/
def PEnd (Y : Cx) (z : Bool) (Qf : Bool → Hp → Prop) (s : Shared) : Prop := ∃ σ H, Inv Y [] σ H s ∧ Qf z H
/-- a truth value is handed out: at z the walk goes on -/
def YE (Y : Cx) (z : Bool) (Qf : Bool → Hp → Prop) : Protocol := fun _ _ v s kap => ∃ (b : Bool) (σ : L2.St) (H : Hp), v = .bool b ∧ Inv Y [] σ H s ∧ (b = z → ∀ s', Woke s s' → kap (.send .none) s') ∧ (b ≠ z → Qf (!z) H)
/-- one turn of the walk, by the measure -/
def GTurn (J : It) (g : TG) (te : TE) (z : Bool) (Qf : Bool → Hp → Prop) (W : Nat → Nat → L2.St → Hp → Prop) : Prop :=
  ∀ i m σ H, W i m σ H → (J.stop i H ∧ Qf z H) ∨ (J.go i H ∧ ∀ x H', J.yld i H x H' → g x σ H' fun σ2 H2 => te σ2 H2 fun v H3 => ∃ b, v = .bl b ∧ (b = z → ∃ m', m' < m ∧ W (i + 1) m' σ2 H3) ∧ (b ≠ z → Qf (!z) H3))

section
variable {Y : Cx} {A : Around} {tg elt iter : Expr} {scope : Scope} {gpos : Pos} {J : It} {fp : List Addr} {it : Addr} {tn : Nat → Heap → Prop} {g : TG} {te : TE} {z : Bool} {Qf : Bool → Hp → Prop} {W : Nat → Nat → L2.St → Hp → Prop}

theorem fpok_of {pins : List (Addr × Obj)} {H H' : Hp} (f : ∀ b ∈ fp, FpOk Y pins H b) (h : ∀ b ∈ fp, H' b = none) : ∀ b ∈ fp, FpOk Y pins H' b := fun b hb => ⟨h b hb, (f b hb).2⟩

theorem seg_turns (hA : A.over (gLoop elt tg iter [] scope gpos it Y.env) [] = Y.A) (hc : Y.calm = true) (hco : Y.env.scope.isCoroutine = false) (hxe : ∀ e s, Y.xe e s → False) (T : Turn Y.prog Y.w Y.K tg J fp it tn) (hg : PG Y tg g) (he : PE Y elt te)
    (turn : GTurn J g te z Qf W) :
    ∀ (m n i : Nat) (s₀ s : Shared) (σ : L2.St) (H : Hp), m < n → W i m σ H → Inv Y [] σ H s → tn i s.heap → (∀ b ∈ fp, FpOk Y [] H b) →
      Seg (model Y.prog Y.w) A (fun n s₀ r s₁ => r = .ok .next ∧ PEnd Y z Qf s₁) (YE Y z Qf) n s₀ (gLoop elt tg iter [] scope gpos it Y.env) ((model Y.prog Y.w).den (gLoop elt tg iter [] scope gpos it Y.env)) [] s := by
  intro m
  induction m using Nat.strongRecOn with
  | ind m ih =>
    intro n i s₀ s σ H hmn w I st f
    have nox : ∀ {α : Type} {t : Sem α} {Q Q' : α → Shared → Prop} {E' : Value → Shared → Prop} {s : Shared}, wpAny (model Y.prog Y.w) Y.A t Q Y.xe s → (∀ a s, Q a s → Q' a s) → wpAny (model Y.prog Y.w) Y.A t Q' E' s :=
      fun {α t Q Q' E' s} h hq => wpAny_mono h hq fun e s' q => (hxe e s' q).elim
    show Seg _ A _ _ _ s₀ _ ((compTurn (.GeneratorExp elt [⟨tg, iter, [], 0⟩] scope gpos) 0 (.ref it) .none Y.env).onRaise (leaving Y.env)) [] s
    rw [compTurn_gen, Sem.onRaise_eq_wrap]
    refine seg_bind_wrap (wpAny_standAt ?_)
    rcases turn i m σ H w with ⟨stop, q⟩ | ⟨go, step⟩
    · refine seg_bind_wrap ?_
      rw [hA]
      refine nox (T.done Y rfl rfl rfl hc i [] s σ H Y.xe I f st stop) fun r s1 ⟨hr, I1⟩ => ?_
      subst hr
      exact seg_end (.ok .next) ⟨rfl, σ, H, I1, q⟩
    · refine seg_bind_wrap ?_
      rw [hA]
      refine nox (T.item Y rfl rfl rfl hc i [] s σ H Y.xe I f st go) fun r s1 ⟨u, hr, h2⟩ => ?_
      subst hr
      refine seg_bind_wrap ?_
      rw [hA]
      refine nox h2 fun _ s2 ⟨x, H2, I2, r2, y2, st2, fr2⟩ => ?_
      have f2 := fpok_of f fr2
      have I2' := I2.pinned f2 (T.obj _ _ st2)
      refine seg_bind_wrap ?_
      rw [hA]
      refine nox (hg.run _ s2 σ H2 x u _ I2' r2 (step x H2 y2)) fun _ s3 ⟨σ3, H3, I3, q3⟩ => ?_
      refine seg_bind_wrap ?_
      rw [List.forIn_nil]
      refine wpAny_pure ?_
      simp only [if_true]
      have hy : ∀ v, yieldOut Y.env v = yieldValue v := fun v => by simp only [yieldOut, hco, Bool.false_eq_true, if_false]
      simp only [hy]
      rw [Sem.bind_eq_wrap', Sem.bind_eq_wrap', Sem.wrap_wrap, Sem.wrap_wrap]
      refine seg_wrap ?_
      rw [hA]
      refine nox (he.run _ s3 σ3 H3 _ I3 q3) fun v s4 ⟨xv, H4, I4, r4, b, eb, q4, q5⟩ => ?_
      subst eb
      obtain rfl : v = Value.bool b := r4
      have keep4 : ∀ b ∈ fp, ∀ o, s2.heap.get? b = some o → s4.heap.get? b = some o ∧ H4 b = none := fun b hb o e => by
        have p := I4.pin (b, o) (List.mem_append_right _ (List.mem_append_right _ (mem_pinsAt hb e)))
        exact ⟨p.1, p.2.1⟩
      have st4 : tn (i + 1) s4.heap := T.keep _ _ _ st2 fun b hb o e => (keep4 b hb o e).1
      have f4 : ∀ b ∈ fp, FpOk Y [] H4 b := fpok_of f fun b hb => by
        obtain ⟨o, e, _⟩ := T.obj _ _ st2 b hb
        exact (keep4 b hb o e).2
      have J4 : Inv Y [] σ3 H4 s4 := I4.unpinned
      obtain ⟨n', rfl⟩ : ∃ n', n = n' + 1 := ⟨n - 1, by omega⟩
      refine seg_at (seg_yield rfl rfl rfl ⟨b, σ3, H4, rfl, J4, fun hbz s' wk => ?_, q5⟩)
      obtain ⟨m', hm', w'⟩ := q4 hbz
      have st' : tn (i + 1) s'.heap := by rw [wk.heap]; exact st4
      exact seg_again rfl (ih m' hm' n' (i + 1) s' s' σ3 H4 (by omega) w' (Inv.woke J4 wk) st' f4)

theorem seg_begin (hA : A.over (gLoop elt tg iter [] scope gpos it Y.env) [] = Y.A) (hB : A.over (gStart elt tg iter [] scope gpos it Y.env) [] = Y.A) (hc : Y.calm = true) (hco : Y.env.scope.isCoroutine = false) (hxe : ∀ e s, Y.xe e s → False) (T : Turn Y.prog Y.w Y.K tg J fp it tn) (hg : PG Y tg g) (he : PE Y elt te)
    (turn : GTurn J g te z Qf W) {m n : Nat} {s₀ s : Shared} {σ : L2.St} {H : Hp} (hmn : m < n) (w : W 0 m σ H) (I : Inv Y [] σ H s) (st : tn 0 s.heap) (f : ∀ b ∈ fp, FpOk Y [] H b) :
    Seg (model Y.prog Y.w) A (fun n s₀ r s₁ => r = .ok .next ∧ PEnd Y z Qf s₁) (YE Y z Qf) n s₀ (gStart elt tg iter [] scope gpos it Y.env) ((model Y.prog Y.w).den (gStart elt tg iter [] scope gpos it Y.env)) [] s := by
  have loop := seg_turns (iter := iter) (scope := scope) (gpos := gpos) hA hc hco hxe T hg he turn m n 0 s₀ s σ H hmn w I st f
  show Seg _ A _ _ _ s₀ _ ((compStart (.GeneratorExp elt [⟨tg, iter, [], 0⟩] scope gpos) 0 (.ref it) .none Y.env).onRaise (leaving Y.env)) [] s
  unfold compStart
  rw [Sem.onRaise_eq_wrap]
  show Seg _ A _ _ _ s₀ _ ((ask >>= _).wrap _ _ _ _) [] s
  refine seg_bind_wrap (wpAny_askSetting ?_)
  split
  · exact seg_again rfl loop
  · first
      | exact seg_bind_wrap (wpAny_rule (seg_bind_wrap (wpAny_standAt (seg_bind_wrap (T.self _ 0 s _ _ st (seg_again rfl loop))))))
      | (refine seg_bind_wrap (wpAny_rule ?_); show Seg _ A _ _ _ s₀ _ ((standAt iter.pos >>= _).wrap _ _ _ _) [] s; exact seg_bind_wrap (wpAny_standAt (seg_bind_wrap (T.self _ 0 s _ _ st (seg_again rfl loop)))))
end

/-! ### the consumers -/
section
variable {Y : Cx} {A : Around} {z : Bool} {Qf : Bool → Hp → Prop} {R : Result → Shared → Prop} {a : Addr} {g : Nat}
/-- what the consumer's loop wants: an end -/
def GFin (Y : Cx) (Q : Bool → Hp → Prop) (b : Bool) (s : Shared) : Prop := ∃ σ H, Inv Y [] σ H s ∧ Q b H
theorem GFin.gens {Q : Bool → Hp → Prop} {b : Bool} {s : Shared} {x : GenState} (h : GFin Y Q b s) (hx : x.bare = true) : GFin Y Q b (s.setGen g x) := by
  obtain ⟨σ, H, I, q⟩ := h
  exact ⟨σ, H, Inv.woke I ⟨rfl, rfl, allBare_setGen I.bare hx⟩, q⟩
theorem GFin.kept {Q : Bool → Hp → Prop} {b : Bool} {s : Shared} {h' : Heap} (h : GFin Y Q b s) (k : ∀ b o, s.heap.get? b = some o → h'.get? b = some o) : GFin Y Q b { s with heap := h' } := by
  obtain ⟨σ, H, I, q⟩ := h
  exact ⟨σ, H, I.kept (t' := s.toks) k, q⟩
theorem isGen_pin {gob : Obj} {σ : L2.St} {H : Hp} {s : Shared} (I : Inv Y [] σ H s) (hp : (a, gob) ∈ Y.pn) (hg : ∀ h : Heap, h.get? a = some gob → h.IsGen a g) : s.heap.IsGen a g :=
  hg _ (I.pin _ (List.mem_append_left _ hp)).1

/-- the loop of all -/
theorem loop_all {gob : Obj} (hh : A.handled = none) (hd : A.depth < recursionLimit) (hp : (a, gob) ∈ Y.pn) (hg : ∀ h : Heap, h.get? a = some gob → h.IsGen a g)
    (hR : ∀ b s, GFin Y Qf b s → R (.ok (.ret (.bool b))) s) :
    ∀ (n : Nat) (s : Shared) (gs : GenState), (∃ σ H, Inv Y [] σ H s) → s.gens[g]? = some gs →
      gs.Goes (model Y.prog Y.w) A.in1.in1 (fun n s₀ r s₁ => r = .ok .next ∧ PEnd Y true Qf s₁) (YE Y true Qf) n (.send .none) (s.setGen g .running) →
      codeAny (model Y.prog Y.w) A (.builtin "all.loop" ⟨[.ref a], []⟩) R s := by
  intro n
  induction n with
  | zero =>
    intro s gs ⟨σ, H, I⟩ hgs hgo
    refine codeAny_builtin F.entry_all_loop ?_
    rw [Around.under_plainId F.plain_all_loop _]
    show wpAny _ A.in1 (pyNext (.ref a) >>= _) _ _ s
    refine wpAny_bind (wpAny_pyNext_genexpQ (A := A.in1) (P := fun n s₀ s₁ => PEnd Y true Qf s₁) hh I.nolimit hd (isGen_pin I hp hg) hgs hgo (fun v s₁ gs' hb hv => ?_) fun s₁ hpe h' hk => ?_)
    · obtain ⟨b, σ1, H1, rfl, I1, h1, h2⟩ := hv
      by_cases hb1 : b = true
      · exact False.elim (h1 hb1 s₁ ⟨rfl, rfl, I1.bare⟩)
      · have eb : b = false := by simpa using hb1
        subst eb
        refine wpAny_bind (wpAny_holding (wpAny_truthy_bool ?_))
        refine wpAny_bind (wpAny_letGo ?_)
        simp only [Bool.false_eq_true, if_false]
        refine wpAny_bind (wpAny_rule (wpAny_pure ?_))
        exact hR false _ (GFin.gens ⟨σ1, H1, I1, h2 hb1⟩ hb)
    · refine wpAny_bind (wpAny_rule (wpAny_pure ?_))
      exact hR true _ (GFin.kept (GFin.gens hpe rfl) hk)
  | succ n ih =>
    intro s gs ⟨σ, H, I⟩ hgs hgo
    have hgl : g < s.gens.size := (Array.getElem?_eq_some_iff.mp hgs).1
    refine codeAny_builtin F.entry_all_loop ?_
    rw [Around.under_plainId F.plain_all_loop _]
    show wpAny _ A.in1 (pyNext (.ref a) >>= _) _ _ s
    refine wpAny_bind (wpAny_gsz (n := g + 1) hgl (wpAny_pyNext_genexpQ (A := A.in1) (P := fun n s₀ s₁ => PEnd Y true Qf s₁) hh I.nolimit hd (isGen_pin I hp hg) hgs hgo (fun v s₁ gs' hb hv => ?_) fun s₁ hpe h' hk => ?_))
    · intro hsz
      obtain ⟨b, σ1, H1, rfl, I1, h1, h2⟩ := hv
      refine wpAny_bind (wpAny_holding (wpAny_truthy_bool ?_))
      refine wpAny_bind (wpAny_letGo ?_)
      by_cases hb1 : b = true
      · subst hb1
        simp only [if_true]
        have hsz1 : g < s₁.gens.size := by
          have q : (s₁.setGen g gs').gens.size = s₁.gens.size := setGen_size _ _ _
          have hsz' : g + 1 ≤ (s₁.setGen g gs').gens.size := hsz
          omega
        refine wpAny_pure ⟨plainId_quiet F.plain_all_loop _, ih (s₁.setGen g gs') gs' ⟨σ1, H1, Inv.woke I1 ⟨rfl, rfl, allBare_setGen I1.bare hb⟩⟩ (setGen_at hsz1) ?_⟩
        exact h1 rfl _ ⟨rfl, rfl, allBare_setGen (s := s₁.setGen g gs') (allBare_setGen I1.bare hb) rfl⟩
      · have eb : b = false := by simpa using hb1
        subst eb
        simp only [Bool.false_eq_true, if_false]
        refine wpAny_bind (wpAny_rule (wpAny_pure ?_))
        exact hR false _ (GFin.gens ⟨σ1, H1, I1, h2 hb1⟩ hb)
    · intro _
      refine wpAny_bind (wpAny_rule (wpAny_pure ?_))
      exact hR true _ (GFin.kept (GFin.gens hpe rfl) hk)
/-- the loop of any -/
theorem loop_any {gob : Obj} (hh : A.handled = none) (hd : A.depth < recursionLimit) (hp : (a, gob) ∈ Y.pn) (hg : ∀ h : Heap, h.get? a = some gob → h.IsGen a g)
    (hR : ∀ b s, GFin Y Qf b s → R (.ok (.ret (.bool b))) s) :
    ∀ (n : Nat) (s : Shared) (gs : GenState), (∃ σ H, Inv Y [] σ H s) → s.gens[g]? = some gs →
      gs.Goes (model Y.prog Y.w) A.in1.in1 (fun n s₀ r s₁ => r = .ok .next ∧ PEnd Y false Qf s₁) (YE Y false Qf) n (.send .none) (s.setGen g .running) →
      codeAny (model Y.prog Y.w) A (.builtin "any.loop" ⟨[.ref a], []⟩) R s := by
  intro n
  induction n with
  | zero =>
    intro s gs ⟨σ, H, I⟩ hgs hgo
    refine codeAny_builtin F.entry_any_loop ?_
    rw [Around.under_plainId F.plain_any_loop _]
    show wpAny _ A.in1 (pyNext (.ref a) >>= _) _ _ s
    refine wpAny_bind (wpAny_pyNext_genexpQ (A := A.in1) (P := fun n s₀ s₁ => PEnd Y false Qf s₁) hh I.nolimit hd (isGen_pin I hp hg) hgs hgo (fun v s₁ gs' hb hv => ?_) fun s₁ hpe h' hk => ?_)
    · obtain ⟨b, σ1, H1, rfl, I1, h1, h2⟩ := hv
      by_cases hb1 : b = false
      · exact False.elim (h1 hb1 s₁ ⟨rfl, rfl, I1.bare⟩)
      · have eb : b = true := by simpa using hb1
        subst eb
        refine wpAny_bind (wpAny_holding (wpAny_truthy_bool ?_))
        refine wpAny_bind (wpAny_letGo ?_)
        simp only [if_true]
        refine wpAny_bind (wpAny_rule (wpAny_pure ?_))
        exact hR true _ (GFin.gens ⟨σ1, H1, I1, h2 hb1⟩ hb)
    · refine wpAny_bind (wpAny_rule (wpAny_pure ?_))
      exact hR false _ (GFin.kept (GFin.gens hpe rfl) hk)
  | succ n ih =>
    intro s gs ⟨σ, H, I⟩ hgs hgo
    have hgl : g < s.gens.size := (Array.getElem?_eq_some_iff.mp hgs).1
    refine codeAny_builtin F.entry_any_loop ?_
    rw [Around.under_plainId F.plain_any_loop _]
    show wpAny _ A.in1 (pyNext (.ref a) >>= _) _ _ s
    refine wpAny_bind (wpAny_gsz (n := g + 1) hgl (wpAny_pyNext_genexpQ (A := A.in1) (P := fun n s₀ s₁ => PEnd Y false Qf s₁) hh I.nolimit hd (isGen_pin I hp hg) hgs hgo (fun v s₁ gs' hb hv => ?_) fun s₁ hpe h' hk => ?_))
    · intro hsz
      obtain ⟨b, σ1, H1, rfl, I1, h1, h2⟩ := hv
      refine wpAny_bind (wpAny_holding (wpAny_truthy_bool ?_))
      refine wpAny_bind (wpAny_letGo ?_)
      by_cases hb1 : b = false
      · subst hb1
        simp only [Bool.false_eq_true, if_false]
        have hsz1 : g < s₁.gens.size := by
          have q : (s₁.setGen g gs').gens.size = s₁.gens.size := setGen_size _ _ _
          have hsz' : g + 1 ≤ (s₁.setGen g gs').gens.size := hsz
          omega
        refine wpAny_pure ⟨plainId_quiet F.plain_any_loop _, ih (s₁.setGen g gs') gs' ⟨σ1, H1, Inv.woke I1 ⟨rfl, rfl, allBare_setGen I1.bare hb⟩⟩ (setGen_at hsz1) ?_⟩
        exact h1 rfl _ ⟨rfl, rfl, allBare_setGen (s := s₁.setGen g gs') (allBare_setGen I1.bare hb) rfl⟩
      · have eb : b = true := by simpa using hb1
        subst eb
        simp only [if_true]
        refine wpAny_bind (wpAny_rule (wpAny_pure ?_))
        exact hR true _ (GFin.gens ⟨σ1, H1, I1, h2 hb1⟩ hb)
    · intro _
      refine wpAny_bind (wpAny_rule (wpAny_pure ?_))
      exact hR false _ (GFin.kept (GFin.gens hpe rfl) hk)
end
end Dw
end

section
set_option Elab.async false
set_option linter.all false
set_option maxRecDepth 100000
set_option maxHeartbeats 2000000
namespace Dw
open PySem PySem.Spec PyProof.Rows L2 GenW

section
variable {Y : Cx} {A : Around} {Qf : Bool → Hp → Prop} {a : Addr} {g n : Nat} {gob : Obj} {s : Shared} {gs : GenState} {Q' : Value → Shared → Prop} {E : Value → Shared → Prop}
theorem call_allG (hh : A.handled = none) (hd : A.depth < recursionLimit) (hp : (a, gob) ∈ Y.pn) (hg : ∀ h : Heap, h.get? a = some gob → h.IsGen a g) (hi : ∃ σ H, Inv Y [] σ H s) (hgs : s.gens[g]? = some gs)
    (hgo : gs.Goes (model Y.prog Y.w) A.in1.in1 (fun n s₀ r s₁ => r = .ok .next ∧ PEnd Y true Qf s₁) (YE Y true Qf) n (.send .none) (s.setGen g .running)) (hR : ∀ b s, GFin Y Qf b s → Q' (.bool b) s) :
    wpAny (model Y.prog Y.w) A (call (.builtin "all") [.ref a]) Q' E s := by
  refine call_function_tree F.kind_all F.plain_all F.entry_all (F.args_all1 _) ?_
  unfold Builtin.«all»
  refine wpAny_bind (m := oneArg "all" _) (wpAny_pure ?_)
  obtain ⟨σ, H, I⟩ := hi
  refine wpAny_bind (wpAny_pyIter_gen (isGen_pin I hp hg) ?_)
  exact wpAny_pure ⟨plainId_quiet F.plain_all_loop _, loop_all hh hd hp hg hR n s gs ⟨σ, H, I⟩ hgs hgo⟩
theorem call_anyG (hh : A.handled = none) (hd : A.depth < recursionLimit) (hp : (a, gob) ∈ Y.pn) (hg : ∀ h : Heap, h.get? a = some gob → h.IsGen a g) (hi : ∃ σ H, Inv Y [] σ H s) (hgs : s.gens[g]? = some gs)
    (hgo : gs.Goes (model Y.prog Y.w) A.in1.in1 (fun n s₀ r s₁ => r = .ok .next ∧ PEnd Y false Qf s₁) (YE Y false Qf) n (.send .none) (s.setGen g .running)) (hR : ∀ b s, GFin Y Qf b s → Q' (.bool b) s) :
    wpAny (model Y.prog Y.w) A (call (.builtin "any") [.ref a]) Q' E s := by
  refine call_function_tree F.kind_any F.plain_any F.entry_any (F.args_any1 _) ?_
  unfold Builtin.«any»
  refine wpAny_bind (m := oneArg "any" _) (wpAny_pure ?_)
  obtain ⟨σ, H, I⟩ := hi
  refine wpAny_bind (wpAny_pyIter_gen (isGen_pin I hp hg) ?_)
  exact wpAny_pure ⟨plainId_quiet F.plain_any_loop _, loop_any hh hd hp hg hR n s gs ⟨σ, H, I⟩ hgs hgo⟩
end

/-- the module's own namespace of built-ins, as the top left it -/
def BMain (base : Heap) (mg : Str → Option Value) : Prop := ∃ (bm : Addr) (ob : Obj), mg "__builtins__" = some (.ref bm) ∧ bm ≠ builtinsNs ∧ base.get? bm = some ob ∧ ob.cls = .type "module" ∧ ob.dict = some builtinsNs ∧ ob.data = .plain
theorem bmain_of {base : Heap} {mg : Str → Option Value} {P : Addr} (h : base.BuiltinsAt mg P) : BMain base mg := by
  obtain ⟨bm, ob, e1, e2, e3, e4, e5, e6, e7, e8⟩ := h
  exact ⟨bm, ob, e1, e2, e5, e6, e7, e8⟩

end Dw
end

section
set_option Elab.async false
set_option linter.all false
set_option maxRecDepth 100000
set_option maxHeartbeats 2000000
/-! two clauses -/
namespace Dw
open PySem PySem.Spec PyProof.Rows L2 GenW

theorem compTurn_gen20 (elt target iter target2 iter2 : Expr) (scope : Scope) (pos : Pos) (it acc : Value) (env : Env) :
    compTurn (.GeneratorExp elt [⟨target, iter, [], 0⟩, ⟨target2, iter2, [], 0⟩] scope pos) 0 it acc env = (do
      standAt iter.pos
      match ← pyNext it with
      | none => pure (.done .next)
      | some v =>
        letOwnedTupleGo target it v
        assign target env v
        let x ← eval iter2 env
        standAt iter2.pos
        let x ← foldedSetIterable iter2 env x
        let it2 ← holding [x] (pyIter x)
        let _ ← runOwn (.compStart (.GeneratorExp elt [⟨target, iter, [], 0⟩, ⟨target2, iter2, [], 0⟩] scope pos) 1 it2 acc env) env
        again (.compLoop (.GeneratorExp elt [⟨target, iter, [], 0⟩, ⟨target2, iter2, [], 0⟩] scope pos) 0 it acc env)) := by rfl
theorem compTurn_gen21 (elt target iter target2 iter2 : Expr) (scope : Scope) (pos : Pos) (it acc : Value) (env : Env) :
    compTurn (.GeneratorExp elt [⟨target, iter, [], 0⟩, ⟨target2, iter2, [], 0⟩] scope pos) 1 it acc env = (do
      standAt iter2.pos
      match ← pyNext it with
      | none => pure (.done .next)
      | some v =>
        letOwnedTupleGo target2 it v
        assign target2 env v
        (do let v ← eval elt env; standAt elt.pos; let _ ← yieldOut env v)
        again (.compLoop (.GeneratorExp elt [⟨target, iter, [], 0⟩, ⟨target2, iter2, [], 0⟩] scope pos) 1 it acc env)) := by rfl

/-- one turn of the outer walk, with its inner walk -/
def GTurn2 (J : It) (g : TG) (wi2 : TI) (g2 : TG) (te : TE) (z : Bool) (Qf : Bool → Hp → Prop) (W : Nat → Nat → L2.St → Hp → Prop) : Prop :=
  ∀ i m σ H, W i m σ H → (J.stop i H ∧ Qf z H) ∨ (J.go i H ∧ ∀ x H', J.yld i H x H' → g x σ H' fun σ2 H2 => wi2 σ2 H2 fun J2 H3 => ∃ (W2 : Nat → Nat → L2.St → Hp → Prop) (m2 : Nat), m2 < m ∧ W2 0 m2 σ2 H3 ∧
    ∀ j m σ H, W2 j m σ H → (J2.stop j H ∧ ∃ m', m' < m ∧ W (i + 1) m' σ H) ∨
      (J2.go j H ∧ ∀ y H', J2.yld j H y H' → g2 y σ H' fun σ3 H4 => te σ3 H4 fun v H5 => ∃ b, v = .bl b ∧ (b = z → ∃ m', m' < m ∧ W2 (j + 1) m' σ3 H5) ∧ (b ≠ z → Qf (!z) H5)))

section
variable {Y : Cx} {A : Around} {tg elt iter tg2 iter2 : Expr} {scope : Scope} {gpos : Pos} {J : It} {fp : List Addr} {it : Addr} {tn : Nat → Heap → Prop} {g g2 : TG} {wi2 : TI} {te : TE} {z : Bool} {Qf : Bool → Hp → Prop} {W : Nat → Nat → L2.St → Hp → Prop}

/-- the inner loop's code -/
abbrev gLoop1 (elt tg iter tg2 iter2 : Expr) (scope : Scope) (gpos : Pos) (it : Addr) (cenv : Env) : Code := .compLoop (.GeneratorExp elt [⟨tg, iter, [], 0⟩, ⟨tg2, iter2, [], 0⟩] scope gpos) 1 (.ref it) .none cenv

theorem seg_inner {W2 : Nat → Nat → L2.St → Hp → Prop} {N : Nat → L2.St → Hp → Prop} {J2 : It} {fp2 : List Addr} {it2 : Addr} {tn2 : Nat → Heap → Prop} {c0 : Code} {k : Result → Sem PySem.Fin} {l : List Value} {p : Pos} {pins : List (Addr × Obj)}
    (hA : A.over c0 [] = Y.A) (hc : Y.calm = true) (hco : Y.env.scope.isCoroutine = false) (hxe : ∀ e s, Y.xe e s → False) (T2 : Turn Y.prog Y.w Y.K tg2 J2 fp2 it2 tn2) (hg2 : PG Y tg2 g2) (he : PE Y elt te)
    (turn : ∀ j m σ H, W2 j m σ H → (J2.stop j H ∧ ∃ m', m' < m ∧ N m' σ H) ∨
      (J2.go j H ∧ ∀ y H', J2.yld j H y H' → g2 y σ H' fun σ3 H4 => te σ3 H4 fun v H5 => ∃ b, v = .bl b ∧ (b = z → ∃ m', m' < m ∧ W2 (j + 1) m' σ3 H5) ∧ (b ≠ z → Qf (!z) H5)))
    (M0 : Nat)
    (out : ∀ (m n : Nat) (s₀ s : Shared) (σ : L2.St) (H : Hp), m < M0 → m < n → N m σ H → Inv Y pins σ H s →
      Seg (model Y.prog Y.w) A (fun n s₀ r s₁ => r = .ok .next ∧ PEnd Y z Qf s₁) (YE Y z Qf) n s₀ c0 (k (.ok .next)) [] s) :
    ∀ (m n j : Nat) (s₀ s : Shared) (σ : L2.St) (H : Hp), m ≤ M0 → m < n → W2 j m σ H → Inv Y pins σ H s → tn2 j s.heap → (∀ b ∈ fp2, FpOk Y pins H b) →
      Seg (model Y.prog Y.w) A (fun n s₀ r s₁ => r = .ok .next ∧ PEnd Y z Qf s₁) (YE Y z Qf) n s₀ (gLoop1 elt tg iter tg2 iter2 scope gpos it2 Y.env)
        ((model Y.prog Y.w).den (gLoop1 elt tg iter tg2 iter2 scope gpos it2 Y.env)) [.ret k none false l c0 p []] s := by
  have hA2 : A.over (gLoop1 elt tg iter tg2 iter2 scope gpos it2 Y.env) [.ret k none false l c0 p []] = Y.A := (over_loop rfl rfl).trans hA
  intro m
  induction m using Nat.strongRecOn with
  | ind m ih =>
    intro n j s₀ s σ H hmM hmn w I st f
    have nox : ∀ {α : Type} {t : Sem α} {Q Q' : α → Shared → Prop} {E' : Value → Shared → Prop} {s : Shared}, wpAny (model Y.prog Y.w) Y.A t Q Y.xe s → (∀ a s, Q a s → Q' a s) → wpAny (model Y.prog Y.w) Y.A t Q' E' s :=
      fun {α t Q Q' E' s} h hq => wpAny_mono h hq fun e s' q => (hxe e s' q).elim
    show Seg _ A _ _ _ s₀ _ ((compTurn (.GeneratorExp elt [⟨tg, iter, [], 0⟩, ⟨tg2, iter2, [], 0⟩] scope gpos) 1 (.ref it2) .none Y.env).onRaise (fun x => do noteFrame x Y.env; theTreesLotGoes x)) _ s
    rw [compTurn_gen21, Sem.onRaise_eq_wrap]
    refine seg_bind_wrap (wpAny_standAt ?_)
    rcases turn j m σ H w with ⟨stop, m', hm', hN⟩ | ⟨go, step⟩
    · refine seg_bind_wrap ?_
      rw [hA2]
      refine nox (T2.done Y rfl rfl rfl hc j pins s σ H Y.xe I f st stop) fun r s1 ⟨hr, I1⟩ => ?_
      subst hr
      exact seg_leaf (.ok .next) (out m' n s₀ s1 σ H (by omega) (by omega) hN I1)
    · refine seg_bind_wrap ?_
      rw [hA2]
      refine nox (T2.item Y rfl rfl rfl hc j pins s σ H Y.xe I f st go) fun r s1 ⟨u, hr, h2⟩ => ?_
      subst hr
      refine seg_bind_wrap ?_
      rw [hA2]
      refine nox h2 fun _ s2 ⟨x, H2, I2, r2, y2, st2, fr2⟩ => ?_
      have f2 := fpok_of f fr2
      have I2' := I2.pinned f2 (T2.obj _ _ st2)
      refine seg_bind_wrap ?_
      rw [hA2]
      refine nox (hg2.run _ s2 σ H2 x u _ I2' r2 (step x H2 y2)) fun _ s3 ⟨σ3, H3, I3, q3⟩ => ?_
      have hy : ∀ v, yieldOut Y.env v = yieldValue v := fun v => by simp only [yieldOut, hco, Bool.false_eq_true, if_false]
      simp only [hy]
      rw [Sem.bind_eq_wrap', Sem.bind_eq_wrap', Sem.wrap_wrap, Sem.wrap_wrap]
      refine seg_wrap ?_
      rw [hA2]
      refine nox (he.run _ s3 σ3 H3 _ I3 q3) fun v s4 ⟨xv, H4, I4, r4, b, eb, q4, q5⟩ => ?_
      subst eb
      obtain rfl : v = Value.bool b := r4
      have keep4 : ∀ b ∈ fp2, ∀ o, s2.heap.get? b = some o → s4.heap.get? b = some o ∧ H4 b = none := fun b hb o e => by
        have p := I4.pin (b, o) (List.mem_append_right _ (List.mem_append_right _ (mem_pinsAt hb e)))
        exact ⟨p.1, p.2.1⟩
      have st4 : tn2 (j + 1) s4.heap := T2.keep _ _ _ st2 fun b hb o e => (keep4 b hb o e).1
      have f4 : ∀ b ∈ fp2, FpOk Y pins H4 b := fpok_of f fun b hb => by
        obtain ⟨o, e, _⟩ := T2.obj _ _ st2 b hb
        exact (keep4 b hb o e).2
      have J4 : Inv Y pins σ3 H4 s4 := I4.unpinned
      have J0 : Inv Y [] σ3 H4 s4 := L2.Inv.unpinned (pins := []) (pl := pins) J4
      obtain ⟨n', rfl⟩ : ∃ n', n = n' + 1 := ⟨n - 1, by omega⟩
      refine seg_at (seg_yield rfl rfl rfl ⟨b, σ3, H4, rfl, J0, fun hbz s' wk => ?_, q5⟩)
      obtain ⟨m', hm', w'⟩ := q4 hbz
      have st' : tn2 (j + 1) s'.heap := by rw [wk.heap]; exact st4
      exact seg_again rfl (ih m' hm' n' (j + 1) s' s' σ3 H4 (by omega) (by omega) w' (Inv.woke J4 wk) st' f4)

theorem seg_turns2 (hA : A.over (gLoop elt tg iter [⟨tg2, iter2, [], 0⟩] scope gpos it Y.env) [] = Y.A) (hc : Y.calm = true) (hco : Y.env.scope.isCoroutine = false) (hxe : ∀ e s, Y.xe e s → False) (T : Turn Y.prog Y.w Y.K tg J fp it tn)
    (hg : PG Y tg g) (hi2 : PI Y tg2 iter2 wi2) (hg2 : PG Y tg2 g2) (he : PE Y elt te) (hs2 : ∀ x, foldedSetIterable iter2 Y.env x = pure x)
    (turn : GTurn2 J g wi2 g2 te z Qf W) :
    ∀ (m n i : Nat) (s₀ s : Shared) (σ : L2.St) (H : Hp), m < n → W i m σ H → Inv Y [] σ H s → tn i s.heap → (∀ b ∈ fp, FpOk Y [] H b) →
      Seg (model Y.prog Y.w) A (fun n s₀ r s₁ => r = .ok .next ∧ PEnd Y z Qf s₁) (YE Y z Qf) n s₀ (gLoop elt tg iter [⟨tg2, iter2, [], 0⟩] scope gpos it Y.env) ((model Y.prog Y.w).den (gLoop elt tg iter [⟨tg2, iter2, [], 0⟩] scope gpos it Y.env)) [] s := by
  intro m
  induction m using Nat.strongRecOn with
  | ind m ih =>
    intro n i s₀ s σ H hmn w I st f
    have nox : ∀ {α : Type} {t : Sem α} {Q Q' : α → Shared → Prop} {E' : Value → Shared → Prop} {s : Shared}, wpAny (model Y.prog Y.w) Y.A t Q Y.xe s → (∀ a s, Q a s → Q' a s) → wpAny (model Y.prog Y.w) Y.A t Q' E' s :=
      fun {α t Q Q' E' s} h hq => wpAny_mono h hq fun e s' q => (hxe e s' q).elim
    show Seg _ A _ _ _ s₀ _ ((compTurn (.GeneratorExp elt [⟨tg, iter, [], 0⟩, ⟨tg2, iter2, [], 0⟩] scope gpos) 0 (.ref it) .none Y.env).onRaise (leaving Y.env)) [] s
    rw [compTurn_gen20, Sem.onRaise_eq_wrap]
    refine seg_bind_wrap (wpAny_standAt ?_)
    rcases turn i m σ H w with ⟨stop, q⟩ | ⟨go, step⟩
    · refine seg_bind_wrap ?_
      rw [hA]
      refine nox (T.done Y rfl rfl rfl hc i [] s σ H Y.xe I f st stop) fun r s1 ⟨hr, I1⟩ => ?_
      subst hr
      exact seg_end (.ok .next) ⟨rfl, σ, H, I1, q⟩
    · refine seg_bind_wrap ?_
      rw [hA]
      refine nox (T.item Y rfl rfl rfl hc i [] s σ H Y.xe I f st go) fun r s1 ⟨u, hr, h2⟩ => ?_
      subst hr
      refine seg_bind_wrap ?_
      rw [hA]
      refine nox h2 fun _ s2 ⟨x, H2, I2, r2, y2, st2, fr2⟩ => ?_
      have f2 := fpok_of f fr2
      have I2' := I2.pinned f2 (T.obj _ _ st2)
      refine seg_bind_wrap ?_
      rw [hA]
      refine nox (hg.run _ s2 σ H2 x u _ I2' r2 (step x H2 y2)) fun _ s3 ⟨σ3, H3, I3, q3⟩ => ?_
      refine seg_bind_wrap ?_
      rw [hA]
      refine nox (hi2.run _ s3 σ3 H3 _ I3 q3) fun v s4 h4 => ?_
      refine seg_bind_wrap (wpAny_standAt ?_)
      refine seg_bind_wrap (wpAny_of_eq (hs2 v) ?_)
      refine seg_bind_wrap (wpAny_holding ?_)
      rw [hA]
      refine nox h4 fun itv s5 h5 => ?_
      obtain ⟨it2, fp2, tn2, J2, H5, e5, I5, T2, st5, f5, W2, m2, hm2, w2, turn2⟩ := h5
      subst e5
      have keepfp : ∀ {H6 : Hp} {s6 : Shared} {σ6 : L2.St}, Inv Y ([] ++ pinsAt fp s2.heap) σ6 H6 s6 → tn (i + 1) s6.heap ∧ ∀ b ∈ fp, FpOk Y [] H6 b := fun {H6 s6 σ6} I6 => by
        have keep4 : ∀ b ∈ fp, ∀ o, s2.heap.get? b = some o → s6.heap.get? b = some o ∧ H6 b = none := fun b hb o e => by
          have p := I6.pin (b, o) (List.mem_append_right _ (List.mem_append_right _ (mem_pinsAt hb e)))
          exact ⟨p.1, p.2.1⟩
        refine ⟨T.keep _ _ _ st2 fun b hb o e => (keep4 b hb o e).1, fpok_of f fun b hb => ?_⟩
        obtain ⟨o, e, _⟩ := T.obj _ _ st2 b hb
        exact (keep4 b hb o e).2
      refine seg_call fun p => ?_
      have start : ∀ (kk : Result → Sem PySem.Fin) (ll : List Value), (∀ (n : Nat) (s₀ s : Shared), Seg (model Y.prog Y.w) A (fun n s₀ r s₁ => r = .ok .next ∧ PEnd Y z Qf s₁) (YE Y z Qf) n s₀ (gLoop elt tg iter [⟨tg2, iter2, [], 0⟩] scope gpos it Y.env) (.pure (.again (gLoop elt tg iter [⟨tg2, iter2, [], 0⟩] scope gpos it Y.env))) [] s →
          Seg (model Y.prog Y.w) A (fun n s₀ r s₁ => r = .ok .next ∧ PEnd Y z Qf s₁) (YE Y z Qf) n s₀ (gLoop elt tg iter [⟨tg2, iter2, [], 0⟩] scope gpos it Y.env) (kk (.ok .next)) [] s) →
          Seg (model Y.prog Y.w) A (fun n s₀ r s₁ => r = .ok .next ∧ PEnd Y z Qf s₁) (YE Y z Qf) n s₀ (.compStart (.GeneratorExp elt [⟨tg, iter, [], 0⟩, ⟨tg2, iter2, [], 0⟩] scope gpos) 1 (.ref it2) .none Y.env)
            ((model Y.prog Y.w).den (.compStart (.GeneratorExp elt [⟨tg, iter, [], 0⟩, ⟨tg2, iter2, [], 0⟩] scope gpos) 1 (.ref it2) .none Y.env)) [.ret kk none false ll (gLoop elt tg iter [⟨tg2, iter2, [], 0⟩] scope gpos it Y.env) p []] s5 := fun kk ll hout => by
        have lp := seg_inner (elt := elt) (tg2 := tg2) (g2 := g2) (te := te) (z := z) (Qf := Qf) (iter := iter) (tg := tg) (iter2 := iter2) (scope := scope) (gpos := gpos) (k := kk) (l := ll) (p := p) (W2 := W2) (N := W (i + 1)) (c0 := gLoop elt tg iter [⟨tg2, iter2, [], 0⟩] scope gpos it Y.env) (pins := [] ++ pinsAt fp s2.heap) hA hc hco hxe T2 hg2 he turn2 m2
          (fun m' n' s₀' s' σ' H' hm' hn' w' I' => hout n' s₀' s' (seg_again rfl (ih m' (by omega) n' (i + 1) s₀' s' σ' H' hn' w' (L2.Inv.unpinned (pins := []) I') (keepfp I').1 (keepfp I').2)))
          m2 n 0 s₀ s5 σ3 H5 (Nat.le_refl _) (by omega) w2 I5 st5 f5
        show Seg _ A _ _ _ s₀ _ ((compStart (.GeneratorExp elt [⟨tg, iter, [], 0⟩, ⟨tg2, iter2, [], 0⟩] scope gpos) 1 (.ref it2) .none Y.env).onRaise (fun x => do noteFrame x Y.env; standAt theWindowsPlace)) _ s5
        unfold compStart
        rw [Sem.onRaise_eq_wrap]
        show Seg _ A _ _ _ s₀ _ ((ask >>= _).wrap _ _ _ _) _ s5
        refine seg_bind_wrap (wpAny_askSetting ?_)
        split
        · exact seg_again rfl lp
        · first
            | exact seg_bind_wrap (wpAny_rule (seg_bind_wrap (wpAny_standAt (seg_bind_wrap (T2.self _ 0 _ _ _ st5 (seg_again rfl lp))))))
            | (refine seg_bind_wrap (wpAny_rule ?_); show Seg _ A _ _ _ s₀ _ ((standAt iter2.pos >>= _).wrap _ _ _ _) _ s5; exact seg_bind_wrap (wpAny_standAt (seg_bind_wrap (T2.self _ 0 _ _ _ st5 (seg_again rfl lp)))))
      exact start _ _ (fun n s₀ s h => h)

theorem seg_begin2 (hA : A.over (gLoop elt tg iter [⟨tg2, iter2, [], 0⟩] scope gpos it Y.env) [] = Y.A) (hc : Y.calm = true) (hco : Y.env.scope.isCoroutine = false) (hxe : ∀ e s, Y.xe e s → False) (T : Turn Y.prog Y.w Y.K tg J fp it tn)
    (hg : PG Y tg g) (hi2 : PI Y tg2 iter2 wi2) (hg2 : PG Y tg2 g2) (he : PE Y elt te) (hs2 : ∀ x, foldedSetIterable iter2 Y.env x = pure x)
    (turn : GTurn2 J g wi2 g2 te z Qf W) {m n : Nat} {s₀ s : Shared} {σ : L2.St} {H : Hp} (hmn : m < n) (w : W 0 m σ H) (I : Inv Y [] σ H s) (st : tn 0 s.heap) (f : ∀ b ∈ fp, FpOk Y [] H b) :
    Seg (model Y.prog Y.w) A (fun n s₀ r s₁ => r = .ok .next ∧ PEnd Y z Qf s₁) (YE Y z Qf) n s₀ (gStart elt tg iter [⟨tg2, iter2, [], 0⟩] scope gpos it Y.env) ((model Y.prog Y.w).den (gStart elt tg iter [⟨tg2, iter2, [], 0⟩] scope gpos it Y.env)) [] s := by
  have loop := seg_turns2 (iter := iter) (scope := scope) (gpos := gpos) hA hc hco hxe T hg hi2 hg2 he hs2 turn m n 0 s₀ s σ H hmn w I st f
  show Seg _ A _ _ _ s₀ _ ((compStart (.GeneratorExp elt [⟨tg, iter, [], 0⟩, ⟨tg2, iter2, [], 0⟩] scope gpos) 0 (.ref it) .none Y.env).onRaise (leaving Y.env)) [] s
  unfold compStart
  rw [Sem.onRaise_eq_wrap]
  show Seg _ A _ _ _ s₀ _ ((ask >>= _).wrap _ _ _ _) [] s
  refine seg_bind_wrap (wpAny_askSetting ?_)
  split
  · exact seg_again rfl loop
  · first
      | exact seg_bind_wrap (wpAny_rule (seg_bind_wrap (wpAny_standAt (seg_bind_wrap (T.self _ 0 s _ _ st (seg_again rfl loop))))))
      | (refine seg_bind_wrap (wpAny_rule ?_); show Seg _ A _ _ _ s₀ _ ((standAt iter.pos >>= _).wrap _ _ _ _) [] s; exact seg_bind_wrap (wpAny_standAt (seg_bind_wrap (T.self _ 0 s _ _ st (seg_again rfl loop)))))
end
end Dw
end

section
set_option Elab.async false
set_option linter.all false
set_option maxRecDepth 100000
set_option maxHeartbeats 2000000
namespace Dw
open PySem PySem.Spec PyProof.Rows L2 GenW

/-- the generator's code runs as the turns say -/
def SegOk (Y : Cx) (z : Bool) (elt tg iter : Expr) (rest : List Comprehension) (scope : Scope) (gpos : Pos) (Tn : It → (Bool → Hp → Prop) → (Nat → Nat → L2.St → Hp → Prop) → Prop) : Prop :=
  ∀ (A : Around) (J : It) (fp : List Addr) (it : Addr) (tn : Nat → Heap → Prop) (Qf : Bool → Hp → Prop) (W : Nat → Nat → L2.St → Hp → Prop) (m n : Nat) (s₀ s : Shared) (σ : L2.St) (H : Hp),
    (∀ it', A.over (gLoop elt tg iter rest scope gpos it' Y.env) [] = Y.A) → (∀ it', A.over (gStart elt tg iter rest scope gpos it' Y.env) [] = Y.A) → Y.calm = true → Y.env.scope.isCoroutine = false → (∀ e s, Y.xe e s → False) →
    Turn Y.prog Y.w Y.K tg J fp it tn → Tn J Qf W → m < n → W 0 m σ H → Inv Y [] σ H s → tn 0 s.heap → (∀ b ∈ fp, FpOk Y [] H b) →
    Seg (model Y.prog Y.w) A (fun n s₀ r s₁ => r = .ok .next ∧ PEnd Y z Qf s₁) (YE Y z Qf) n s₀ (gStart elt tg iter rest scope gpos it Y.env) ((model Y.prog Y.w).den (gStart elt tg iter rest scope gpos it Y.env)) [] s
theorem SegOk.one {Y : Cx} {z : Bool} {elt tg iter : Expr} {scope : Scope} {gpos : Pos} {g : TG} {te : TE} (hg : PG Y tg g) (he : PE Y elt te) : SegOk Y z elt tg iter [] scope gpos (fun J Qf W => GTurn J g te z Qf W) :=
  fun A J fp it tn Qf W m n s₀ s σ H h1 h2 h3 h4 h5 T turn h6 h7 h8 h9 h10 => seg_begin (h1 it) (h2 it) h3 h4 h5 T hg he turn h6 h7 h8 h9 h10
theorem SegOk.two {Y : Cx} {z : Bool} {elt tg iter tg2 iter2 : Expr} {scope : Scope} {gpos : Pos} {g g2 : TG} {wi2 : TI} {te : TE} (hg : PG Y tg g) (hi2 : PI Y tg2 iter2 wi2) (hg2 : PG Y tg2 g2) (he : PE Y elt te)
    (hs2 : ∀ x, foldedSetIterable iter2 Y.env x = pure x := by intro _; rfl) : SegOk Y z elt tg iter [⟨tg2, iter2, [], 0⟩] scope gpos (fun J Qf W => GTurn2 J g wi2 g2 te z Qf W) :=
  fun A J fp it tn Qf W m n s₀ s σ H h1 h2 h3 h4 h5 T turn h6 h7 h8 h9 h10 => seg_begin2 (h1 it) h3 h4 h5 T hg hi2 hg2 he hs2 turn h6 h7 h8 h9 h10

/-- the reading: wi what is walked, g the target, te the element (of the generator's code object); k own names; z goes on -/
def GenIn (cd : Value) (base : Heap) (n k : Nat) (Tn : Value → It → (Bool → Hp → Prop) → (Nat → Nat → L2.St → Hp → Prop) → Prop) (σ : L2.St) (J : It) (H1 : Hp) (Q : VK) : Prop := ∃ c P, cd = .ref c ∧ (PySem.W.CodeHd base c P ∨ H1 c = some (CodeH c P)) ∧ TabN n H1 P ∧
  ∀ cv H2, Kp H1 H2 → InfoN n H2 cv → ∃ W m, W 0 m (σ ++ List.replicate k none) H2 ∧ Tn cv J (fun b H => Q (.bl b) H) W
def tGen (cd : Value) (base : Heap) (n k : Nat) (wi : TI) (Tn : Value → It → (Bool → Hp → Prop) → (Nat → Nat → L2.St → Hp → Prop) → Prop) : TE := fun σ H Q => wi σ H fun J H1 => GenIn cd base n k Tn σ J H1 Q

section
variable {X : Cx} {pins : List (Addr × Obj)} {σ : L2.St} {H : Hp} {s : Shared} {tg elt iter : Expr} {scope : Scope} {gpos p pos : Pos} {ns : List Str} {z : Bool} {wi : TI} {rest : List Comprehension} {Tn : Value → It → (Bool → Hp → Prop) → (Nat → Nat → L2.St → Hp → Prop) → Prop} {k n : Nat} {cd : Value} {base : Heap}

/-- the generator stands, fresh; a is its address -/
theorem gen_ready {Q : VK} {Q' : Value → Shared → Prop} (hr : Room (k + 1) X.A) (BM : BMain X.base X.mg) (S : GenSc X.N ns X.env.scope scope) (hi : PI X tg iter wi) (hc : X.calm = true)
    (hel : ∀ (cv : Value) (s4 : Shared) (H4 : Hp) (cells : List (Str × Addr)) (C : Addr) (A' : Around) (fp : List Addr) (pn : List (Addr × Obj)), Room k A' →
      SegOk (gcx X s4 H4 scope cells C cv A' ns fp pn) z elt tg iter rest scope gpos (Tn cv))
    (hs : ∀ v, genFold iter X.env v = pure v) (I : Inv X pins σ H s) (h : tGen X.env.code X.base n ns.length wi Tn σ H Q)
    (hQ : ∀ (Y : Cx) (a gn : Nat) (gob : Obj) (s5 : Shared) (gs : GenState) (m : Nat), Y.prog = X.prog → Y.w = X.w → (a, gob) ∈ Y.pn → (∀ h : Heap, h.get? a = some gob → h.IsGen a gn) → (∃ σ H, Inv Y [] σ H s5) → s5.gens[gn]? = some gs →
      gs.Goes (model Y.prog Y.w) X.A.in1.in1 (fun n s₀ r s₁ => r = .ok .next ∧ PEnd Y z (fun b H => Q (.bl b) H) s₁) (YE Y z (fun b H => Q (.bl b) H)) m (.send .none) (s5.setGen gn .running) →
      (∀ b s', GFin Y (fun b H => Q (.bl b) H) b s' → EP X pins σ Q (.bool b) s') → Q' (.ref a) s5) :
    wpAny (model X.prog X.w) X.A (eval (.GeneratorExp elt (⟨tg, iter, [], 0⟩ :: rest) scope gpos) X.env) Q' X.xe s := by
  have hfree : ∀ y ∈ scope.names, y.2 = .free → ∃ c, X.env.cells.lookup y.1 = some c := fun y hy e => by
    rcases S.free y hy e with k | k
    · exact I.ok.has _ (.inl k)
    · exact I.ok.has _ (.inr k)
  refine gen_make S.co (closure_ok hfree) S.dot S.kind hr.depth ?_ hs
  refine thn (hi.run pins s σ H _ I h) fun xv s1 h1 => thn h1 fun itv s2 h2 => ?_
  obtain ⟨it, fp, tn, J, H1, rfl, I2, T, st2, f2, c, P, hcode, hcd, htab, hrest⟩ := h2
  refine ⟨I2.nolimit, ?_⟩
  obtain ⟨ps, hP, ht, hinfo⟩ := id htab
  have hPs : s2.heap.get? P = some { cls := .none, data := .fields ps } := I2.hok P _ hP
  have cd : PySem.W.CodeHd s2.heap c P := by
    rcases hcd with q | q
    · exact q.keeps I2.bk
    · exact (I2.hok c _ q).1
  have fpl : ∀ b ∈ fp, b < s2.heap.objs.size := fun b hb => by
    obtain ⟨o, e, _⟩ := T.obj _ _ st2 b hb
    exact Heap.lt_size e
  have hbm : ∀ {s3 : Shared} {H3 : Hp}, Inv X pins σ H3 s3 → ∀ {Q'' : Addr → Shared → Prop}, Q'' builtinsNs s3 → wpAny (model X.prog X.w) X.A (builtinsFor X.env.globals X.env.builtins) Q'' X.xe s3 := fun {s3 H3} I3 {Q''} hq => by
    obtain ⟨bm, ob, e1, e2, e5, e6, e7, e8⟩ := BM
    exact wpAny_builtinsFor (m := X.mg) (by rw [I3.ok.glob]; exact I3.mod.glob.keeps I3.bk) e1 e2 (I3.bk _ _ e5) e6 e7 e8 hq
  -- behind the code object
  have cont : ∀ (cv : Value) (s3 : Shared) (H2 : Hp), Inv X pins σ H2 s3 → Kp H1 H2 → InfoN n H2 cv → (∀ b o, b ∈ fp → s2.heap.get? b = some o → s3.heap.get? b = some o) → (∀ b ∈ fp, H2 b = none) →
      wpAny (model X.prog X.w) X.A (builtinsFor X.env.globals X.env.builtins) (fun bi s₄ =>
        ∀ h' t1 t2 t3, h'.Ns s₄.heap.objs.size (fun y => if y = ".0" then some (.ref it) else none) → Heap.SameBut s₄.heap.objs.size (pushCells (s₄.heap.push frameObj) scope.names) h' →
          Q' (.ref h'.objs.size) { s₄ with
            gens := s₄.gens.push (.fresh (.compStart (.GeneratorExp elt (⟨tg, iter, [], 0⟩ :: rest) scope gpos) 0 (.ref it) .none (genEnvC scope (cellsFrom (s₄.heap.objs.size + 1) scope.names (cloFrom X.env.cells scope.names [])) s₄.heap.objs.size cv bi X.env))),
            toks := t3,
            heap := h'.push (genObj s₄.gens.size (X.env.qual ++ "<genexpr>") t1 t2) }) X.xe s3 := by
    intro cv s3 H2 I3 kp info kf hf0
    refine hbm I3 fun h' t1 t2 t3 hn hsb => ?_
    have f3 : ∀ b ∈ fp, FpOk X pins H2 b := fpok_of f2 hf0
    have fpl3 : ∀ b ∈ fp, b < s3.heap.objs.size := fun b hb => by
      obtain ⟨o, e, _⟩ := T.obj _ _ st2 b hb
      exact Heap.lt_size (kf b o hb e)
    have st3 : tn 0 s3.heap := T.keep _ _ _ st2 fun b hb o e => kf b o hb e
    obtain ⟨W, m, w0, turn⟩ := hrest cv H2 kp info
    have hgp : (h'.push (genObj s3.gens.size (X.env.qual ++ "<genexpr>") t1 t2)).get? h'.objs.size = some (genObj s3.gens.size (X.env.qual ++ "<genexpr>") t1 t2) := Heap.get?_push_size _ rfl
    have hgb : AllBare (s3.gens.push (.fresh (.compStart (.GeneratorExp elt (⟨tg, iter, [], 0⟩ :: rest) scope gpos) 0 (.ref it) .none (genEnvC scope (cellsFrom (s3.heap.objs.size + 1) scope.names (cloFrom X.env.cells scope.names [])) s3.heap.objs.size cv builtinsNs X.env)))) := I3.bare.push rfl
    have IY := gen_start (cv := cv) (d' := s3.drawn) (t' := t3) I3 S (fun b hb => ⟨f3 b hb, fpl3 b hb⟩) (fun v q => by cases q) hn hsb hgb hgp
    have hkeep : ∀ b o, s3.heap.get? b = some o → (h'.push (genObj s3.gens.size (X.env.qual ++ "<genexpr>") t1 t2)).get? b = some o := fun b o e =>
      Heap.get?_push_of_some _ ((hsb.2 b (Nat.ne_of_lt (Heap.lt_size e))).trans (pushCells_keeps _ _ _ _ (Heap.get?_push_of_some _ e)))
    have hpe := hel cv s3 H2 (cellsFrom (s3.heap.objs.size + 1) scope.names (cloFrom X.env.cells scope.names [])) s3.heap.objs.size
      (gAround X.A (genEnvC scope (cellsFrom (s3.heap.objs.size + 1) scope.names (cloFrom X.env.cells scope.names [])) s3.heap.objs.size cv builtinsNs X.env)) fp
      [(h'.objs.size, genObj s3.gens.size (X.env.qual ++ "<genexpr>") t1 t2)] (Room.gen hr _)
    refine hQ (gcx X s3 H2 scope (cellsFrom (s3.heap.objs.size + 1) scope.names (cloFrom X.env.cells scope.names [])) s3.heap.objs.size cv
        (gAround X.A (genEnvC scope (cellsFrom (s3.heap.objs.size + 1) scope.names (cloFrom X.env.cells scope.names [])) s3.heap.objs.size cv builtinsNs X.env)) ns fp
        [(h'.objs.size, genObj s3.gens.size (X.env.qual ++ "<genexpr>") t1 t2)]) h'.objs.size s3.gens.size (genObj s3.gens.size (X.env.qual ++ "<genexpr>") t1 t2) _ _ (m + 1) rfl rfl (List.mem_singleton.mpr rfl) (fun h e => ⟨_, _, _, e, rfl, rfl, rfl⟩) ⟨_, _, IY⟩ (Array.getElem?_push_size ..) ⟨rfl, ?_⟩ fun b s' hfin => ?_
    · have fY : ∀ b ∈ fp, FpOk (gcx X s3 H2 scope (cellsFrom (s3.heap.objs.size + 1) scope.names (cloFrom X.env.cells scope.names [])) s3.heap.objs.size cv
        (gAround X.A (genEnvC scope (cellsFrom (s3.heap.objs.size + 1) scope.names (cloFrom X.env.cells scope.names [])) s3.heap.objs.size cv builtinsNs X.env)) ns fp
        [(h'.objs.size, genObj s3.gens.size (X.env.qual ++ "<genexpr>") t1 t2)]) [] H2 b := fun b hb => by
        refine ⟨hf0 b hb, (IY.ok.exf b hb).1, fun z => IY.ok.exfs b hb z, .inl hb, (IY.ok.exf b hb).2, fun q hq => ?_⟩
        have hq : q ∈ ([(h'.objs.size, genObj s3.gens.size (X.env.qual ++ "<genexpr>") t1 t2)] : List (Addr × Obj)) ++ [] := hq
        rw [List.append_nil] at hq
        rw [List.mem_singleton.mp hq]
        have h1 := fpl3 b hb
        have h2 := hn.lt
        exact Nat.ne_of_gt (Nat.lt_trans h1 h2)
      exact hpe _ J fp it tn _ W m (m + 1) _ _ _ _ (fun _ => over_gLoop) (fun _ => over_gStart) hc S.co (fun _ _ z => z) T turn (Nat.lt_succ_self m) w0 (Inv.woke IY ⟨rfl, rfl, allBare_setGen IY.bare rfl⟩) (T.keep _ _ _ st3 fun b hb o e => hkeep b o e) fY
    · obtain ⟨σ', H', I', q⟩ := hfin
      refine ⟨.bl b, H', ?_, rfl, q⟩
      refine I3.call' (ch := fp) I'.os I'.base I'.hok I'.bare fun b hb => ?_
      obtain ⟨_, q1, _, q3, q4, q5⟩ := f3 b hb
      exact ⟨q3, q1, q4, q5⟩
  cases hf : codeAmong gpos ps.toList with
  | none =>
    refine wpAny_genexprCodeX hcode (cd.code hPs ht) (cd.tab hPs) hf fun c' h' tk hx hge hlt hco' _ htab' ⟨P', hP', hc', ht'⟩ => ?_
    have cdh := PySem.W.CodeHd.of hc' ht'
    have ncp : c' ≠ P' := by obtain ⟨_, _, _, _, _, _, _, _, _, _, _, _, _, _, _, _, _, _, ne⟩ := cdh; exact ne
    have I3 := inv_tab (t' := tk) I2 hP (fun b o hb e => hx b o hb e) htab'.2 hge hP' cdh ht'.2
    obtain ⟨kp, info⟩ := kp_tab (pos := gpos) hP ht (I2.hok.fresh hge) (I2.hok.fresh hP') ncp
    have nPf : ∀ b ∈ fp, b ≠ P := fun b hb e => by
      have := (f2 b hb).1
      rw [e, hP] at this
      cases this
    refine cont _ _ _ I3 kp (info n) (fun b o hb e => hx b o (nPf b hb) e) fun b hb => ?_
    have h1 := fpl b hb
    rw [upd_ne (Nat.ne_of_lt (Nat.lt_of_lt_of_le h1 hP')), upd_ne (Nat.ne_of_lt (Nat.lt_of_lt_of_le h1 hge)), upd_ne (nPf b hb)]
    exact (f2 b hb).1
  | some cv =>
    refine wpAny_genexprCode_hit hcode (cd.code hPs ht) hf ?_
    exact cont cv s2 H1 I2 (.refl _) (hinfo _ _ hf) (fun b o _ e => e) fun b hb => (f2 b hb).1

theorem pe_allG (nm : Str) (hnm : nm = "all") (hr : Room (k + 1) X.A) (hg : Gl X nm) (hm : X.mg nm = none) (BM : BMain X.base X.mg) (S : GenSc X.N ns X.env.scope scope) (hc : X.calm = true) (hi : PI X tg iter wi)
    (hel : ∀ (cv : Value) (s4 : Shared) (H4 : Hp) (cells : List (Str × Addr)) (C : Addr) (A' : Around) (fp : List Addr) (pn : List (Addr × Obj)), Room k A' →
      SegOk (gcx X s4 H4 scope cells C cv A' ns fp pn) true elt tg iter rest scope gpos (Tn cv))
    (hs : ∀ v, genFold iter X.env v = pure v := by intro _; rfl) (hcd : X.env.code = cd := by rfl) (hbs : X.base = base := by rfl)
    (he : starEach [.GeneratorExp elt (⟨tg, iter, [], 0⟩ :: rest) scope gpos] X.env = (false, eval (.GeneratorExp elt (⟨tg, iter, [], 0⟩ :: rest) scope gpos) X.env) :: starEach [] X.env := by rfl) :
    PE X (.Call (.Name nm p) [.GeneratorExp elt (⟨tg, iter, [], 0⟩ :: rest) scope gpos] [] pos) (tGen cd base n ns.length wi Tn) := by
  subst hnm hcd hbs
  refine ⟨fun pins s σ H Q I h => ?_⟩
  refine wpAny_Call_Name_kw (ld_blt I hg hm (by decide +kernel : bootBuiltins "all" = some (.builtin "all")) ?_)
  refine PyProof.Rows.callWith_builtin1 ?_ he (by rfl)
  rw [he]
  show wpAny _ _ (spliced ((false, eval (.GeneratorExp elt (⟨tg, iter, [], 0⟩ :: rest) scope gpos) X.env) :: backTo pos (starEach [] X.env))) _ _ s
  refine Calls.spliced_cons (gen_ready hr BM S hi hc hel hs I h fun Y a gn gob s5 gs m e1 e2 hp hgn hI hgs hgo hfin => ?_)
  refine Calls.spliced_nil ?_
  have q := call_allG (Q' := EP X pins σ Q) (E := X.xe) (Qf := fun b H => Q (.bl b) H) hr.hd hr.depth hp hgn hI hgs hgo hfin
  rw [e1, e2] at q
  exact q
theorem pe_anyG (nm : Str) (hnm : nm = "any") (hr : Room (k + 1) X.A) (hg : Gl X nm) (hm : X.mg nm = none) (BM : BMain X.base X.mg) (S : GenSc X.N ns X.env.scope scope) (hc : X.calm = true) (hi : PI X tg iter wi)
    (hel : ∀ (cv : Value) (s4 : Shared) (H4 : Hp) (cells : List (Str × Addr)) (C : Addr) (A' : Around) (fp : List Addr) (pn : List (Addr × Obj)), Room k A' →
      SegOk (gcx X s4 H4 scope cells C cv A' ns fp pn) false elt tg iter rest scope gpos (Tn cv))
    (hs : ∀ v, genFold iter X.env v = pure v := by intro _; rfl) (hcd : X.env.code = cd := by rfl) (hbs : X.base = base := by rfl)
    (he : starEach [.GeneratorExp elt (⟨tg, iter, [], 0⟩ :: rest) scope gpos] X.env = (false, eval (.GeneratorExp elt (⟨tg, iter, [], 0⟩ :: rest) scope gpos) X.env) :: starEach [] X.env := by rfl) :
    PE X (.Call (.Name nm p) [.GeneratorExp elt (⟨tg, iter, [], 0⟩ :: rest) scope gpos] [] pos) (tGen cd base n ns.length wi Tn) := by
  subst hnm hcd hbs
  refine ⟨fun pins s σ H Q I h => ?_⟩
  refine wpAny_Call_Name_kw (ld_blt I hg hm (by decide +kernel : bootBuiltins "any" = some (.builtin "any")) ?_)
  refine PyProof.Rows.callWith_builtin1 ?_ he (by rfl)
  rw [he]
  show wpAny _ _ (spliced ((false, eval (.GeneratorExp elt (⟨tg, iter, [], 0⟩ :: rest) scope gpos) X.env) :: backTo pos (starEach [] X.env))) _ _ s
  refine Calls.spliced_cons (gen_ready hr BM S hi hc hel hs I h fun Y a gn gob s5 gs m e1 e2 hp hgn hI hgs hgo hfin => ?_)
  refine Calls.spliced_nil ?_
  have q := call_anyG (Q' := EP X pins σ Q) (E := X.xe) (Qf := fun b H => Q (.bl b) H) hr.hd hr.depth hp hgn hI hgs hgo hfin
  rw [e1, e2] at q
  exact q
end
end Dw
end

section
set_option Elab.async false
set_option linter.all false
set_option maxRecDepth 100000
set_option maxHeartbeats 3200000
/-! set(xs) of a list, of a tuple of ints, as sets over the layer -/
namespace Dw
open PySem PySem.Spec PyProof.Rows L2

section
variable {P : Program} {w : World} {A : Around} {E : Value → Shared → Prop} {s : Shared}
abbrev newSet (w : World) : Obj := { cls := .type "set", dict := none, data := .set #[] 0 (.fresh 0 0 (!w.params.followText "set-order")) }
/-- set(xs), xs a list of ints: as for a tuple (HandS.SetFor), the walk over the list in its place -/
theorem call_set_lstI {l : Addr} {items : Array Value} (ns : List Int) {Q : Value → Shared → Prop} (hh : A.handled = none) (hl : s.heap.IsList l items) (hit : IntsAre items.toList ns) (hb : ns.length + 1 < scanBound)
    (h : ∀ (h' : Heap) (tk c : Nat), SetR w h' s.heap.objs.size (fun j => decide (j ∈ ns)) c → c ≤ ns.length → (∀ b o, s.heap.get? b = some o → h'.get? b = some o) → Q (.ref s.heap.objs.size) { s with heap := h', toks := tk }) :
    wpAny (model P w) A (call (.type "set") [.ref l]) Q E s := by
  have hisz : items.size = ns.length := by have q := IntsAre.length hit; rwa [Array.length_toList] at q
  obtain ⟨c, tl, hmro⟩ := F.called_set.mro
  have hmade := F.called_set.made
  have hsub := F.called_set.sub
  refine wpAny_call (codeAny_of_tree ?_)
  show wpAny _ _ (callAny (.type "set") _) _ _ _
  refine wpAny_pure ⟨Code.quiet_builtin _ (by decide +kernel), codeAny_builtin F.entry_type_call ?_⟩
  rw [Around.under_plain (weight_type_call_type "set" [.ref l] []) rfl]
  have h1 := F.called_set.notType
  have h2 := F.called_set.canCreate
  have hct := F.typeCall_set_1 (.ref l)
  repeat (any_goals (first | assumption | wp_step))
  refine codeAny_mono (code_set_led1 (.ref l) (E := E) (Q₁ := fun obj s₁ => obj = .ref s.heap.objs.size ∧ s₁ = { s with heap := s.heap.push (newSet w) }) ⟨rfl, rfl⟩) fun r s₁ hr => ?_
  cases r with
  | error e => exact hr
  | ok fl =>
    cases fl with
    | next => exact hr.elim
    | brk => exact hr.elim
    | cont => exact hr.elim
    | ret obj =>
      obtain ⟨rfl, rfl⟩ := hr
      have hS : (s.heap.push (newSet w)).get? s.heap.objs.size = some (newSet w) := Heap.get?_push_size _ rfl
      have hT : Shared.TypeIs { s with heap := s.heap.push (newSet w) } (.ref s.heap.objs.size) "set" := ⟨_, hS, rfl⟩
      have hli := F.called_set.init.lookup
      have hbi := F.called_set.init.bind (.ref s.heap.objs.size)
      repeat (any_goals (first | assumption | wp_step))
      refine codeAny_mono (codeAny_call_builtin (R := wants (fun r s₂ => r = .none ∧ ∃ h' tk c, s₂ = { s with heap := h', toks := tk } ∧ SetR w h' s.heap.objs.size (fun j => decide (j ∈ ns)) c ∧ c ≤ ns.length ∧
          (∀ b o, s.heap.get? b = some o → h'.get? b = some o)) E) F.called_set.init.plain F.entry_set_init (check_set_init_1 hT ?_)) fun r₂ s₂ hr₂ => ?_
      · obtain ⟨ol, hol, hcl, nl, hdl⟩ := hl
        obtain ⟨ocls, odict, odata, oslots⟩ := ol
        simp only at hcl hdl
        subst hcl; subst hdl
        have hol' : (s.heap.push (newSet w)).get? l = some { cls := .type "list", dict := odict, data := .seq items nl, slots := oslots } := Heap.get?_push_of_some _ hol
        have hsls := F.sub_list_set
        have hslf := F.sub_list_frozenset
        have hne : (Value.type "list" == Value.type "dict") = false := by decide
        have hl1 : (s.heap.push (newSet w)).IsList l items := ⟨_, hol', rfl, nl, rfl⟩
        have sz1 : (s.heap.push (newSet w)).objs.size = s.heap.objs.size + 1 := Heap.size_push ..
        have hlS : l < s.heap.objs.size := Heap.lt_size hol
        unfold Builtin.«set.__init__» noKeywords Builtin.Frozenset.updateFrom
        generalize hPI : pyIter = PI
        wp_walk
        subst hPI
        refine wpAny_pyIter_list hl1 ?_
        refine wpAny_bind (wpAny_runValue ?_)
        have hneI : l ≠ (s.heap.push (newSet w)).objs.size := by rw [sz1]; exact Nat.ne_of_lt (Nat.lt_succ_of_lt hlS)
        have hSf : s.heap.objs.size ∉ [(s.heap.push (newSet w)).objs.size, l] := fun z => by
          rcases List.mem_cons.mp z with z | z
          · rw [sz1] at z; exact Nat.ne_of_lt (Nat.lt_succ_self _) z
          · rw [List.mem_singleton.mp z] at hlS; exact Nat.lt_irrefl _ hlS
        have hval : ∀ (i : Nat) (v : Value), items[i]? = some v → ∃ k t, ns[i]? = some k ∧ v = .int k t := fun i v hv => by
          have hi : i < ns.length := by rw [← hisz]; exact (Array.getElem?_eq_some_iff.mp hv).1
          obtain ⟨t, e⟩ := PyProof.Rows.IntsAre.int_at hit i v (by rw [Array.getElem?_toList]; exact hv)
          have e2 : ns[i]? = some ns[i] := List.getElem?_eq_getElem hi
          exact ⟨ns[i], t, e2, by rw [e, List.getD_eq_getElem?_getD, e2]; rfl⟩
        refine set_update_ints ((Walks.list (show A.in1.in1.in1.handled = none from hh) _ l hneI items).toS) s.heap.objs.size hSf ns hisz hb hval (items.size - 0) 0 _ (by omega) (Nat.zero_le _)
          ⟨⟨_, Heap.get?_push_size _ rfl, rfl, rfl⟩, hl1.push _⟩ ⟨0, Nat.le_refl 0, setR_new_at (Heap.get?_push_of_some _ hS)⟩ fun s' c' hm hc' hS' => ?_
        obtain ⟨h', g2, d', tk', os'⟩ := s'
        obtain rfl : g2 = s.gens := hm.gens
        obtain rfl : d' = s.drawn := hm.drawn
        obtain rfl : os' = s.os := hm.os
        rw [hisz] at hc'
        refine wpAny_pure (wpAny_pure ⟨rfl, h', tk', c', rfl, hS', hc', fun b o e => ?_⟩)
        have hb0 : b < s.heap.objs.size := Heap.lt_size e
        refine hm.heap b o (fun z => ?_) (Heap.get?_push_of_some _ (Heap.get?_push_of_some _ e))
        rcases List.mem_cons.mp z with z | z
        · exact Nat.ne_of_lt hb0 z
        · rw [List.mem_singleton.mp z, sz1] at hb0; exact Nat.lt_irrefl _ (Nat.lt_of_succ_lt hb0)
      · cases r₂ with
        | error e => exact hr₂
        | ok fl₂ =>
          cases fl₂ with
          | ret r =>
            obtain ⟨rfl, h', tk, c', rfl, hS', hc', hk'⟩ := hr₂
            repeat (any_goals (first | assumption | wp_step))
            exact h _ _ _ hS' hc' hk'
          | _ => exact hr₂.elim
end

section
variable {X : Cx}
/-- set(xs): members, at most so many -/
def rSetI (K : PySem.W.Frag) (w : World) : List V → Hp → VK → Prop := fun xs H Q => ∃ (p : Addr) (ns : List Int), xs = [.ref p] ∧ (SqL K H p (ns.map V.int) ∨ SqT K H p (ns.map V.int)) ∧ ns.length ≤ 1000 ∧
  ∀ a c, H a = none → c ≤ ns.length → Q (.ref a) (upd H a (SetO w a (fun j => decide (j ∈ ns)) c))
theorem cr_setI (hc : X.calm = true) : CallR X (.type "set") (rSetI X.K X.w) := by
  intro pins s σ H xs us Q I r h
  obtain ⟨p, ns, rfl, hp, hl, q⟩ := h
  rw [Vals.ref1 r]
  have sb : ns.length + 1 < scanBound := by unfold scanBound; omega
  have fin : ∀ (h' : Heap) (tk c : Nat), SetR X.w h' s.heap.objs.size (fun j => decide (j ∈ ns)) c → c ≤ ns.length → (∀ b o, s.heap.get? b = some o → h'.get? b = some o) → EP X pins σ Q (.ref s.heap.objs.size) { s with heap := h', toks := tk } := fun h' tk c R hcn k =>
    ⟨.ref s.heap.objs.size, upd H s.heap.objs.size (SetO X.w s.heap.objs.size (fun j => decide (j ∈ ns)) c), I.laid k (Nat.le_refl _) (setO_new R), rfl, q _ c (I.hok.fresh (Nat.le_refl _)) hcn⟩
  rcases hp with hp | hp
  · obtain ⟨its, rv, pl, _⟩ := I.list hp
    exact call_set_lstI ns (I.ok.hd hc) pl.isList (by simpa using rv.ints) sb fin
  · obtain ⟨its, rv, pl, _⟩ := I.tuple hp
    exact call_set_tupI ns (I.ok.hd hc) (show s.heap.IsTuple p its.toArray from pl) (by simpa using rv.ints) sb fin
end
end Dw
end

section
set_option Elab.async false
set_option linter.all false
set_option maxRecDepth 100000
set_option maxHeartbeats 1000000
namespace Dw
open PySem PySem.Spec PyProof.Rows L2

/-! ### the data -/
abbrev Lot := List Nat
abbrev Stand := List Lot
abbrev Route := List Nat
structure Kind where
  wants : Lot
  bars : Lot
  routes : List Route
structure Works where
  dyes : Nat
  vats : List Lot
  kinds : List Kind

/-! ### lists that go together -/
section
variable {α β : Type} {F : α → β → Prop}
theorem Paired.at1 : ∀ {l : List α} {m : List β} {i : Nat} {x : α}, Paired F l m → l[i]? = some x → ∃ y, m[i]? = some y ∧ F x y
  | _, _, _, _, .nil, e => by simp at e
  | _, _, 0, _, .cons h _, e => by simp at e; subst e; exact ⟨_, rfl, h⟩
  | _, _, i + 1, _, .cons _ t, e => by simpa using Paired.at1 (i := i) t (by simpa using e)
theorem Paired.at2 : ∀ {l : List α} {m : List β} {i : Nat} {y : β}, Paired F l m → m[i]? = some y → ∃ x, l[i]? = some x ∧ F x y
  | _, _, _, _, .nil, e => by simp at e
  | _, _, 0, _, .cons h _, e => by simp at e; subst e; exact ⟨_, rfl, h⟩
  | _, _, i + 1, _, .cons _ t, e => by simpa using Paired.at2 (i := i) t (by simpa using e)
theorem Paired.app : ∀ {l l' : List α} {m m' : List β}, Paired F l m → Paired F l' m' → Paired F (l ++ l') (m ++ m')
  | _, _, _, _, .nil, h => h
  | _, _, _, _, .cons h t, h' => .cons h (Paired.app t h')
theorem Paired.set1 {x : α} {y : β} (r : F x y) : ∀ {l : List α} {m : List β} (i : Nat), Paired F l m → Paired F (l.set i x) (m.set i y)
  | _, _, _, .nil => .nil
  | _, _, 0, .cons _ t => .cons r t
  | _, _, i + 1, .cons q t => .cons q (Paired.set1 r i t)
theorem Paired.take1 : ∀ {l : List α} {m : List β} (n : Nat), Paired F l m → Paired F (l.take n) (m.take n)
  | _, _, 0, _ => .nil
  | _, _, _ + 1, .nil => .nil
  | _, _, n + 1, .cons r t => .cons r (Paired.take1 n t)
end

/-! ### what the values stand for -/
abbrev VN (n : Nat) : V := .int (n : Int)
def nums (l : List Nat) : List V := l.map VN
theorem nums_len (l : List Nat) : (nums l).length = l.length := by unfold nums; rw [List.length_map]
theorem nums_at {l : List Nat} {i n : Nat} (h : l[i]? = some n) : (nums l)[i]? = some (VN n) := by unfold nums; rw [List.getElem?_map, h]; rfl
theorem nums_int (l : List Nat) : nums l = (l.map fun (n : Nat) => (n : Int)).map V.int := by unfold nums; rw [List.map_map]; rfl
theorem nums_of {l : List Nat} {i : Nat} {x : V} (h : (nums l)[i]? = some x) : ∃ n, l[i]? = some n ∧ x = VN n := by
  unfold nums at h
  rw [List.getElem?_map] at h
  cases e : l[i]? with
  | none => rw [e] at h; cases h
  | some n => rw [e] at h; exact ⟨n, rfl, (Option.some.inj h).symm⟩
theorem nums_inj {l m : List Nat} (h : nums l = nums m) : l = m := by
  unfold nums at h
  refine List.map_inj_right (f := VN) (fun a b e => ?_) |>.mp h
  have : ((a : Nat) : Int) = b := V.int.inj e
  omega

def LotV (H : Hp) (v : V) (l : List Nat) : Prop := ∃ a, v = .ref a ∧ H a = some (.tup (nums l))
def TupV {α : Type} (R : Hp → V → α → Prop) (H : Hp) (v : V) (xs : List α) : Prop := ∃ a vs, v = .ref a ∧ H a = some (.tup vs) ∧ Paired (R H) vs xs
abbrev StandV : Hp → V → Stand → Prop := TupV LotV
def KindV (H : Hp) (v : V) (k : Kind) : Prop := ∃ a vw vb vr, v = .ref a ∧ H a = some (.tup [vw, vb, vr]) ∧ LotV H vw k.wants ∧ LotV H vb k.bars ∧ TupV LotV H vr k.routes
def WorksV (H : Hp) (v : V) (W : Works) : Prop := ∃ a vv vk, v = .ref a ∧ H a = some (.tup [VN W.dyes, vv, vk]) ∧ StandV H vv W.vats ∧ TupV KindV H vk W.kinds
/-- a list (it may change) -/
def LstV {α : Type} (R : Hp → V → α → Prop) (H : Hp) (a : Addr) (xs : List α) : Prop := ∃ vs, H a = some (.lst vs) ∧ Paired (R H) vs xs

/-- the tuples stay -/
def Ti (H H' : Hp) : Prop := ∀ b xs, H b = some (.tup xs) → H' b = some (.tup xs)
theorem Kp.ti {H H' : Hp} (k : Kp H H') : Ti H H' := fun _ _ h => k.tup h
theorem Ti.refl (H : Hp) : Ti H H := fun _ _ h => h
theorem Ti.trans {H H1 H2 : Hp} (a : Ti H H1) (b : Ti H1 H2) : Ti H H2 := fun _ _ h => b _ _ (a _ _ h)
theorem Ti.put {H : Hp} {p : Addr} {o : HO} (h : ∀ xs, H p ≠ some (.tup xs)) : Ti H (upd H p o) := fun b xs e => by
  have : b ≠ p := fun z => h xs (by rw [← z]; exact e)
  rw [upd_ne this]; exact e
theorem Ti.new {H : Hp} {p : Addr} {o : HO} (h : H p = none) : Ti H (upd H p o) := Ti.put fun xs e => by rw [h] at e; cases e
theorem Ti.putL {H : Hp} {p : Addr} {o : HO} {ys : List V} (h : H p = some (.lst ys)) : Ti H (upd H p o) := Ti.put fun xs e => by rw [h] at e; cases e
theorem LotV.mono {H H' : Hp} (t : Ti H H') {v : V} {l : List Nat} (h : LotV H v l) : LotV H' v l := let ⟨a, e, q⟩ := h; ⟨a, e, t _ _ q⟩
theorem TupV.mono {α : Type} {R : Hp → V → α → Prop} {H H' : Hp} (hR : ∀ v x, R H v x → R H' v x) (t : Ti H H') {v : V} {xs : List α} (h : TupV R H v xs) : TupV R H' v xs :=
  let ⟨a, vs, e, q, p⟩ := h; ⟨a, vs, e, t _ _ q, L2.Paired.mapP p hR⟩
theorem StandV.mono {H H' : Hp} (t : Ti H H') {v : V} {xs : List Lot} (h : TupV LotV H v xs) : TupV LotV H' v xs := TupV.mono (fun _ _ q => q.mono t) t h
theorem KindV.mono {H H' : Hp} (t : Ti H H') {v : V} {k : Kind} (h : KindV H v k) : KindV H' v k :=
  let ⟨a, vw, vb, vr, e, q, q1, q2, q3⟩ := h; ⟨a, vw, vb, vr, e, t _ _ q, q1.mono t, q2.mono t, StandV.mono t q3⟩
theorem WorksV.mono {H H' : Hp} (t : Ti H H') {v : V} {W : Works} (h : WorksV H v W) : WorksV H' v W :=
  let ⟨a, vv, vk, e, q, q1, q2⟩ := h; ⟨a, vv, vk, e, t _ _ q, StandV.mono t q1, TupV.mono (fun _ _ z => z.mono t) t q2⟩
theorem Paired.ti {α : Type} {R : Hp → V → α → Prop} {H H' : Hp} (hR : ∀ v x, R H v x → R H' v x) {vs : List V} {xs : List α} (p : Paired (R H) vs xs) : Paired (R H') vs xs := L2.Paired.mapP p hR

/-! ### the same as plain data -/
def natsD (l : List Nat) : PyData := .tuple (l.map fun (n : Nat) => .int (n : Int))
def standD (st : List (List Nat)) : PyData := .tuple (st.map natsD)
section
variable {K : PySem.W.Frag} {H : Hp}
theorem dpAll_nums : ∀ l : List Nat, DpAll K H (nums l) (l.map fun (n : Nat) => .int (n : Int))
  | [] => .nil
  | n :: l => .cons (.int _) (dpAll_nums l)
theorem LotV.dp {v : V} {l : List Nat} (h : LotV H v l) : Dp K H v (natsD l) := by
  obtain ⟨a, rfl, e⟩ := h
  exact .tup (SqT.of e) (dpAll_nums l)
theorem dpAll_of {α : Type} {R : Hp → V → α → Prop} {f : α → PyData} (h : ∀ v x, R H v x → Dp K H v (f x)) : ∀ {vs : List V} {xs : List α}, Paired (R H) vs xs → DpAll K H vs (xs.map f)
  | _, _, .nil => .nil
  | _, _, .cons q t => .cons (h _ _ q) (dpAll_of h t)
theorem StandV.dp {v : V} {st : List (List Nat)} (h : TupV LotV H v st) : Dp K H v (standD st) := by
  obtain ⟨a, vs, rfl, e, p⟩ := h
  exact .tup (SqT.of e) (dpAll_of (fun _ _ q => q.dp) p)
theorem LstV.dp {α : Type} {R : Hp → V → α → Prop} {f : α → PyData} {a : Addr} {xs : List α} (h : LstV R H a xs) (hf : ∀ v x, R H v x → Dp K H v (f x)) : Dp K H (.ref a) (.list (xs.map f)) := by
  obtain ⟨vs, e, p⟩ := h
  exact .lst (SqL.of e) (dpAll_of hf p)
end
theorem natsD_lay (l : List Nat) : (natsD l).canLay0 = true := by
  unfold natsD
  simp only [PyData.canLay0]
  induction l with
  | nil => rfl
  | cons n l ih => simp [PyData.canLayAll0, PyData.canLay0, ih]
theorem natsD_depth (l : List Nat) : (natsD l).depth ≤ 1 := by
  unfold natsD
  simp only [PyData.depth]
  have : PyData.depthAll (l.map fun (n : Nat) => PyData.int (n : Int)) = 0 := by
    induction l with
    | nil => rfl
    | cons n l ih => simp [PyData.depthAll, PyData.depth, ih]
  omega
theorem layAll_of {α : Type} {f : α → PyData} (h : ∀ x, (f x).canLay0 = true) (xs : List α) : PyData.canLayAll0 (xs.map f) = true := by
  induction xs with
  | nil => rfl
  | cons x xs ih => simp [PyData.canLayAll0, h x, ih]
theorem depthAll_of {α : Type} {f : α → PyData} {d : Nat} (h : ∀ x, (f x).depth ≤ d) (xs : List α) : PyData.depthAll (xs.map f) ≤ d := by
  induction xs with
  | nil => simp [PyData.depthAll]
  | cons x xs ih =>
    have := h x
    simp only [List.map_cons, PyData.depthAll]
    omega
theorem standD_lay (st : List (List Nat)) : (standD st).canLay0 = true := by
  unfold standD
  simp only [PyData.canLay0]
  exact layAll_of natsD_lay st
theorem standD_depth (st : List (List Nat)) : (standD st).depth ≤ 2 := by
  unfold standD
  simp only [PyData.depth]
  have := depthAll_of natsD_depth st
  omega
theorem shaped_of {d : PyData} {n : Nat} (h1 : d.canLay0 = true) (h2 : d.depth ≤ n) (h3 : n ≤ 64) : SeqAt.shaped d = true := by
  show (d.canLay0 && decide (d.depth ≤ 64)) = true
  rw [h1, decide_eq_true (Nat.le_trans h2 h3)]
  rfl
theorem natsD_shaped (l : List Nat) : SeqAt.shaped (natsD l) = true := shaped_of (natsD_lay l) (natsD_depth l) (by decide)
theorem standD_shaped (st : List (List Nat)) : SeqAt.shaped (standD st) = true := shaped_of (standD_lay st) (standD_depth st) (by decide)
theorem listD_shaped {α : Type} {f : α → PyData} {d : Nat} (h1 : ∀ x, (f x).canLay0 = true) (h2 : ∀ x, (f x).depth ≤ d) (hd : d ≤ 63) (xs : List α) : SeqAt.shaped (.list (xs.map f)) = true :=
  shaped_of (n := d + 1) (by simp only [PyData.canLay0]; exact layAll_of h1 xs) (by simp only [PyData.depth]; have := depthAll_of h2 xs; omega) (by omega)
theorem eqvAll_of {α : Type} [DecidableEq α] {f : α → PyData} (h : ∀ x y, PyData.eqv (f x) (f y) = decide (x = y)) : ∀ xs ys : List α, PyData.eqvAll (xs.map f) (ys.map f) = decide (xs = ys)
  | [], [] => by simp [PyData.eqvAll]
  | [], _ :: _ => by simp [PyData.eqvAll]
  | _ :: _, [] => by simp [PyData.eqvAll]
  | x :: xs, y :: ys => by
    simp only [List.map_cons, PyData.eqvAll, h x y, eqvAll_of h xs ys]
    by_cases e : x = y
    · subst e; simp
    · simp [e]
theorem intD_eqv (x y : Nat) : PyData.eqv (.int (x : Int)) (.int (y : Int)) = decide (x = y) := by
  have e : PyData.eqv (.int (x : Int)) (.int (y : Int)) = ((x : Int) == (y : Int)) := by simp only [PyData.eqv]
  rw [e]
  by_cases h : x = y
  · subst h; simp
  · rw [decide_eq_false h]
    exact beq_eq_false_iff_ne.mpr (by omega)
theorem natsD_eqv (l m : List Nat) : PyData.eqv (natsD l) (natsD m) = decide (l = m) := by
  unfold natsD
  simp only [PyData.eqv]
  exact eqvAll_of intD_eqv l m
theorem standD_eqv (l m : List (List Nat)) : PyData.eqv (standD l) (standD m) = decide (l = m) := by
  unfold standD
  simp only [PyData.eqv]
  exact eqvAll_of natsD_eqv l m
end Dw
end

section
set_option Elab.async false
set_option linter.all false
set_option maxRecDepth 100000
set_option maxHeartbeats 1000000
/-! dicts whose keys are stands (tuples of tuples of ints) -/
namespace Dw
open PySem PySem.Spec PyProof.Rows L2

def lotK (l : Lot) : NestedKey := .tup (l.map fun (n : Nat) => .num (n : Int))
def standK (st : Stand) : NestedKey := .tup (st.map lotK)
theorem lotK_inj {a b : Lot} (h : lotK a = lotK b) : a = b := by
  unfold lotK at h
  injection h with h
  refine (List.map_inj_right fun x y e => ?_).mp h
  injection e with e
  omega
theorem standK_inj {a b : Stand} (h : standK a = standK b) : a = b := by
  unfold standK at h
  injection h with h
  exact (List.map_inj_right fun x y e => lotK_inj e).mp h
theorem depthAll_le {α : Type} {f : α → NestedKey} {d : Nat} (h : ∀ x, (f x).depth ≤ d) : ∀ xs : List α, NestedKey.depthAll (xs.map f) ≤ d
  | [] => by simp [NestedKey.depthAll]
  | x :: xs => by
    have h1 := h x
    have h2 := depthAll_le h xs
    simp only [List.map_cons, NestedKey.depthAll]
    omega
theorem lotK_depth (l : Lot) : (lotK l).depth ≤ 1 := by
  unfold lotK
  simp only [NestedKey.depth]
  have := depthAll_le (f := fun (n : Nat) => NestedKey.num (n : Int)) (d := 0) (fun x => by simp [NestedKey.depth]) l
  omega
theorem standK_depth (st : Stand) : (standK st).depth ≤ 2 := by
  unfold standK
  simp only [NestedKey.depth]
  have := depthAll_le lotK_depth st
  omega

section
variable {P : Program} {w : World} {H : Hp} {h : Heap}
theorem numsIs : ∀ {l : List Nat} {us : List Value}, Vals (nums l) us → NestedAll h (l.map fun (n : Nat) => .num (n : Int)) us
  | [], _, .nil => .nil
  | n :: l, _, .cons r t => by
    obtain ⟨k, rfl⟩ : ∃ k, _ = Value.int (n : Int) k := r
    exact .cons (.int _ _) (numsIs t)
theorem lotIs (ok : HOk P w H h) {v : V} {u : Value} {l : Lot} (q : LotV H v l) (r : RelV v u) : NestedIs h (lotK l) u := by
  obtain ⟨a, rfl, e⟩ := q
  obtain rfl : u = .ref a := r
  obtain ⟨_, its, r2, o, h1, h2, n, h3⟩ := (show ObjOk P w H h a (.tup (nums l)) from ok a _ e)
  exact .tup h1 h2 h3 (by simpa using numsIs r2)
theorem lotsIs (ok : HOk P w H h) : ∀ {vs : List V} {st : Stand} {us : List Value}, Paired (LotV H) vs st → Vals vs us → NestedAll h (st.map lotK) us
  | _, _, _, .nil, .nil => .nil
  | _, _, _, .cons q t, .cons r t2 => .cons (lotIs ok q r) (lotsIs ok t t2)
theorem standIs (ok : HOk P w H h) {b : Addr} {st : Stand} (q : StandV H (.ref b) st) : (nestedKind P w).is h (standK st) b := by
  obtain ⟨a, vs, e0, e, p⟩ := q
  cases e0
  obtain ⟨_, its, r2, o, h1, h2, n, h3⟩ := (show ObjOk P w H h b (.tup vs) from ok b _ e)
  exact ⟨.tup h1 h2 h3 (by simpa using lotsIs ok p r2), Nat.le_trans (standK_depth st) (by decide)⟩
end

/-! ### tables -/
abbrev Ent := Stand × Addr × V
abbrev KN : List Ent → List (NestedKey × Addr × Value) → Prop := Paired fun p q => standK p.1 = q.1 ∧ p.2.1 = q.2.1 ∧ RelV p.2.2 q.2.2
abbrev ofE (es : List Ent) : List (Stand × V) := es.map fun e => (e.1, e.2.2)
def putE (es : List Ent) (st : Stand) (b : Addr) (v : V) : List Ent :=
  if (valV (ofE es) st).isSome = true then es.map (fun e => if e.1 = st then (e.1, e.2.1, v) else e) else es ++ [(st, b, v)]
theorem KN.val {es : List Ent} {xs : List (NestedKey × Addr × Value)} (r : KN es xs) (k : Stand) : RelO (valV (ofE es) k) ((atKey xs (standK k)).map (·.2)) := by
  induction r with
  | nil => exact True.intro
  | @cons p q ps qs h t ih =>
    obtain ⟨h1, _, h2⟩ := h
    by_cases e : p.1 = k
    · have e' : q.1 = standK k := by rw [← h1, e]
      have b : atKey (q :: qs) (standK k) = some q.2 := by simp [atKey, List.find?_cons, e']
      show RelO (valV ((p.1, p.2.2) :: ofE ps) k) _
      rw [valV_pos e, b]; exact h2
    · have e' : ¬ q.1 = standK k := fun z => e (standK_inj (h1.trans z))
      have b : atKey (q :: qs) (standK k) = atKey qs (standK k) := by simp [atKey, List.find?_cons, e']
      show RelO (valV ((p.1, p.2.2) :: ofE ps) k) _
      rw [valV_neg e, b]; exact ih
theorem KN.repl {es : List Ent} {xs : List (NestedKey × Addr × Value)} (r : KN es xs) (k : Stand) {y : V} {u : Value} (ry : RelV y u) :
    KN (es.map fun e => if e.1 = k then (e.1, e.2.1, y) else e) (xs.map (putAt (standK k) u)) := by
  induction r with
  | nil => exact .nil
  | @cons p q ps qs h t ih =>
    rw [List.map_cons, List.map_cons]
    refine .cons ?_ ih
    obtain ⟨h1, h2, h3⟩ := h
    unfold putAt
    by_cases e : p.1 = k
    · rw [if_pos e, if_pos (by rw [← h1, e])]; exact ⟨h1, h2, ry⟩
    · rw [if_neg e, if_neg (fun z => e (standK_inj (h1.trans z)))]; exact ⟨h1, h2, h3⟩
theorem KN.put {es : List Ent} {xs : List (NestedKey × Addr × Value)} (r : KN es xs) (k : Stand) {b : Addr} {y : V} {u : Value} (ry : RelV y u) :
    KN (putE es k b y) (storedH xs (standK k) b u) := by
  have e : (valV (ofE es) k).isSome = (atKey xs (standK k)).isSome := by
    rw [(r.val k).isSome_eq, Option.isSome_map]
  unfold putE storedH
  rw [e]
  by_cases q : (atKey xs (standK k)).isSome = true
  · rw [if_pos q, if_pos q]; exact r.repl k ry
  · rw [if_neg q, if_neg q]; exact Paired.snoc r ⟨rfl, rfl, ry⟩
theorem ofE_putE (es : List Ent) (k : Stand) (b : Addr) (v : V) : ofE (putE es k b v) = putK (ofE es) k v := by
  unfold putE putK
  rw [valV_any]
  by_cases q : (valV (ofE es) k).isSome = true
  · rw [if_pos q, if_pos q]
    unfold ofE
    rw [List.map_map, List.map_map]
    refine List.map_congr_left fun e _ => ?_
    simp only [Function.comp]
    by_cases z : e.1 = k
    · rw [if_pos z, if_pos z]
    · rw [if_neg z, if_neg z]
  · rw [if_neg q, if_neg q]
    unfold ofE
    rw [List.map_append]
    rfl
theorem putE_mem {es : List Ent} {k : Stand} {b : Addr} {v : V} {e : Ent} (h : e ∈ putE es k b v) : (∃ e0 ∈ es, e.1 = e0.1 ∧ e.2.1 = e0.2.1) ∨ (e.1 = k ∧ e.2.1 = b) := by
  unfold putE at h
  by_cases q : (valV (ofE es) k).isSome = true
  · rw [if_pos q] at h
    obtain ⟨e0, h0, rfl⟩ := List.mem_map.mp h
    refine .inl ⟨e0, h0, ?_⟩
    by_cases z : e0.1 = k
    · rw [if_pos z]; exact ⟨rfl, rfl⟩
    · rw [if_neg z]; exact ⟨rfl, rfl⟩
  · rw [if_neg q] at h
    rcases List.mem_append.mp h with h | h
    · exact .inl ⟨e, h, rfl, rfl⟩
    · rw [List.mem_singleton.mp h]
      exact .inr ⟨rfl, rfl⟩
theorem length_putE (es : List Ent) (k : Stand) (b : Addr) (v : V) : (putE es k b v).length ≤ es.length + 1 := by
  unfold putE
  split
  · rw [List.length_map]; omega
  · rw [List.length_append]; exact Nat.le_refl _

/-- a dict with these keys (at these places) and values -/
def DictO (P : Program) (w : World) (d : Addr) (es : List Ent) : HO := .ext fun h => ∃ xs : List (NestedKey × Addr × Value), KN es xs ∧ (d == sysModules) = false ∧
  ∃ o dd ep, h.get? d = some o ∧ o.ExactDict ∧ o.data = .dict dd ep ∧ dd.toList = xs.map (entryOfKey (nestedKind P w)) ∧ (xs.map (·.1)).Nodup
/-- at d stands a dict of stands -/
def DictV (P : Program) (w : World) (H : Hp) (d : Addr) (kvs : List (Stand × V)) : Prop := ∃ es : List Ent, H d = some (DictO P w d es) ∧ (∀ e ∈ es, StandV H (.ref e.2.1) e.1) ∧ ofE es = kvs ∧ es.length ≤ 6000 ∧ ∀ P', DictO P w d es ≠ CodeH d P'

section
variable {P : Program} {w : World} {H : Hp} {h : Heap} {d : Addr}
theorem dictO_ok {H' : Hp} {h' : Heap} {es : List Ent} {xs : List (NestedKey × Addr × Value)} (r : KN es xs) (hd : (d == sysModules) = false) (dd : h'.DictOfH (nestedKind P w) d xs) : ObjOk P w H' h' d (DictO P w d es) := by
  obtain ⟨o, ds, ep, h1, h2, h3, h4, _, h5⟩ := dd
  exact ⟨⟨xs, r, hd, o, ds, ep, h1, h2, h3, h4, h5⟩, ⟨o, h1⟩, fun a b ⟨xs, r, hd, o, ds, ep, q1, q2, q3, q4, q5⟩ k => ⟨xs, r, hd, o, ds, ep, k _ q1, q2, q3, q4, q5⟩⟩
theorem dict_of {kvs : List (Stand × V)} (ok : HOk P w H h) (q : DictV P w H d kvs) : ∃ es xs, H d = some (DictO P w d es) ∧ (∀ e ∈ es, StandV H (.ref e.2.1) e.1) ∧ ofE es = kvs ∧ es.length ≤ 6000 ∧ KN es xs ∧ (d == sysModules) = false ∧ h.DictOfH (nestedKind P w) d xs := by
  obtain ⟨es, e, ks, eq, l, _⟩ := q
  obtain ⟨⟨xs, r, hd, o, ds, ep, h1, h2, h3, h4, h5⟩, _⟩ := (show ObjOk P w H h d (DictO P w d es) from ok d _ e)
  refine ⟨es, xs, e, ks, eq, l, r, hd, o, ds, ep, h1, h2, h3, h4, fun x hx => ?_, h5⟩
  have all : ∀ {l : List Ent} {m : List (NestedKey × Addr × Value)}, KN l m → (∀ e ∈ l, StandV H (.ref e.2.1) e.1) → ∀ x ∈ m, (nestedKind P w).is h x.1 x.2.1 := by
    intro l m q
    induction q with
    | nil => intro _ x hx; exact nomatch hx
    | @cons p q ps qs hq t ih =>
      intro ks x hx
      rcases List.mem_cons.mp hx with e | hx
      · subst e
        rw [← hq.1, ← hq.2.1]
        exact standIs ok (ks p (List.mem_cons_self ..))
      · exact ih (fun e he => ks e (List.mem_cons_of_mem _ he)) x hx
  exact all r ks x hx
theorem DictV.mono {H' : Hp} {kvs : List (Stand × V)} (t : Ti H H') (hd : ∀ es, H d = some (DictO P w d es) → H' d = some (DictO P w d es)) (q : DictV P w H d kvs) : DictV P w H' d kvs :=
  let ⟨es, e, ks, r⟩ := q; ⟨es, hd es e, fun x hx => StandV.mono t (ks x hx), r⟩
theorem dictO_not_tup {es : List Ent} {xs : List V} : DictO P w d es ≠ .tup xs := fun z => by unfold DictO at z; cases z
theorem dictO_not_tbl {es : List Ent} (ps : Array Value) : DictO P w d es ≠ .tbl ps := fun z => by unfold DictO at z; cases z
theorem DictV.kp {H' : Hp} {kvs : List (Stand × V)} (k : Kp H H') (q : DictV P w H d kvs) : DictV P w H' d kvs :=
  q.mono k.ti fun es e => k.keep _ _ e fun ps => dictO_not_tbl ps
theorem dictO_ne {es : List Ent} (ok : HOk P w H h) (e : H d = some (DictO P w d es)) : ∀ P', DictO P w d es ≠ CodeH d P' := fun P' z => by
  obtain ⟨⟨xs, r, hd, o, ds, ep, h1, h2, h3, _⟩, _⟩ := (show ObjOk P w H h d (DictO P w d es) from ok d _ e)
  rw [z] at e
  obtain ⟨⟨o', vs, file, tf, flags, tg, inF, text, tt, e1, _, e3, _⟩, _⟩ := (show ObjOk P w H h d (CodeH d P') from ok d _ e)
  rw [h1] at e1
  cases e1
  rw [h3] at e3
  cases e3
/-- behind d[st] = v -/
theorem DictV.put {es : List Ent} {st : Stand} {b : Addr} {v : V} (e : H d = some (DictO P w d es)) (ks : ∀ x ∈ es, StandV H (.ref x.2.1) x.1) (l : es.length < 6000) (hb : StandV H (.ref b) st) (ne : ∀ P', DictO P w d (putE es st b v) ≠ CodeH d P') :
    DictV P w (upd H d (DictO P w d (putE es st b v))) d (putK (ofE es) st v) := by
  have t : Ti H (upd H d (DictO P w d (putE es st b v))) := Ti.put fun xs z => by rw [e] at z; exact dictO_not_tup (Option.some.inj z)
  refine ⟨putE es st b v, by rw [upd_same], fun x hx => StandV.mono t ?_, ofE_putE _ _ _ _, by have := length_putE es st b v; omega, ne⟩
  rcases putE_mem hx with ⟨x0, h0, q1, q2⟩ | ⟨q1, q2⟩
  · rw [q1, q2]; exact ks x0 h0
  · rw [q1, q2]; exact hb
end

/-! ### the rules -/
section
variable {X : Cx} {pins : List (Addr × Obj)} {σ : L2.St} {H : Hp} {s : Shared} {a b : Addr} {v : V} {r : Value} {kvs : List (Stand × V)} {st : Stand} {A : Around} {E : Value → Shared → Prop}
theorem n_getItem {Q : Value → Shared → Prop} (hu : A.units + 10 < cLine) (I : Inv X pins σ H s) (g : DictV X.prog X.w H a kvs) (hb : StandV H (.ref b) st) (hv : valV kvs st = some v) (h : ∀ w' s', Inv X pins σ H s' → RelV v w' → Q w' s') :
    wpAny (model X.prog X.w) A (getItem (.ref a) (.ref b)) Q E s := by
  obtain ⟨es, xs, e, ks, eq, l, rel, hd, dd⟩ := dict_of I.hok g
  subst eq
  obtain ⟨w', hw, rw'⟩ := RelO.some_of (v := v) (o := (atKey xs (standK st)).map (·.2)) (by rw [← hv]; exact rel.val st)
  obtain ⟨p, hp, hp2⟩ := Option.map_eq_some_iff.mp hw
  refine wpAny_getItem_heap (show A.in1.units + 8 < cLine from by simp only [Around.in1]; omega) (standIs I.hok hb) dd hp ?_
  rw [hp2]
  exact h w' _ (I.tok _) rw'
theorem n_in {Q : Value → Shared → Prop} (hu : A.units + 10 < cLine) (I : Inv X pins σ H s) (g : DictV X.prog X.w H a kvs) (hb : StandV H (.ref b) st) (h : ∀ s', Inv X pins σ H s' → Q (.bool (valV kvs st).isSome) s') :
    wpAny (model X.prog X.w) A (compareOp .In (.ref b) (.ref a)) Q E s := by
  obtain ⟨es, xs, e, ks, eq, l, rel, hd, dd⟩ := dict_of I.hok g
  subst eq
  refine wpAny_in_heap (show A.in1.units + 8 < cLine from by simp only [Around.in1]; omega) (standIs I.hok hb) hd dd ?_
  have q := (rel.val st).isSome_eq
  rw [Option.isSome_map] at q
  rw [← q]
  exact h _ (I.tok _)
theorem n_notIn {Q : Value → Shared → Prop} (hu : A.units + 10 < cLine) (I : Inv X pins σ H s) (g : DictV X.prog X.w H a kvs) (hb : StandV H (.ref b) st) (h : ∀ s', Inv X pins σ H s' → Q (.bool (!(valV kvs st).isSome)) s') :
    wpAny (model X.prog X.w) A (compareOp .NotIn (.ref b) (.ref a)) Q E s := by
  obtain ⟨es, xs, e, ks, eq, l, rel, hd, dd⟩ := dict_of I.hok g
  subst eq
  refine wpAny_notIn_heap (show A.in1.units + 8 < cLine from by simp only [Around.in1]; omega) (standIs I.hok hb) hd dd ?_
  have q := (rel.val st).isSome_eq
  rw [Option.isSome_map] at q
  rw [← q]
  exact h _ (I.tok _)
theorem n_setItem {es : List Ent} {Q : Unit → Shared → Prop} (hu : A.units + 10 < cLine) (I : Inv X pins σ H s) (e : H a = some (DictO X.prog X.w a es)) (ks : ∀ e ∈ es, StandV H (.ref e.2.1) e.1) (l : es.length < 6000) (hb : StandV H (.ref b) st) (rv : RelV v r)
    (h : ∀ s', Inv X pins σ (upd H a (DictO X.prog X.w a (putE es st b v))) s' → Q () s') : wpAny (model X.prog X.w) A (setItem (.ref a) (.ref b) r) Q E s := by
  obtain ⟨xs, rel, hd, dd⟩ : ∃ xs, KN es xs ∧ (a == sysModules) = false ∧ s.heap.DictOfH (nestedKind X.prog X.w) a xs := by
    obtain ⟨⟨xs, r, hd, o, ds, ep, h1, h2, h3, h4, h5⟩, _⟩ := (show ObjOk X.prog X.w H s.heap a (DictO X.prog X.w a es) from I.hok a _ e)
    refine ⟨xs, r, hd, o, ds, ep, h1, h2, h3, h4, fun x hx => ?_, h5⟩
    obtain ⟨y, hy, q1, q2, _⟩ : ∃ y ∈ es, standK y.1 = x.1 ∧ y.2.1 = x.2.1 ∧ True := by
      obtain ⟨i, hi⟩ := List.mem_iff_getElem?.mp hx
      obtain ⟨y, hy, q⟩ := Paired.at2 r hi
      exact ⟨y, List.mem_of_getElem? hy, q.1, q.2.1, trivial⟩
    rw [← q1, ← q2]
    exact standIs I.hok (ks y hy)
  have hz : xs.length ≤ sizeLine := by rw [← Paired.length rel, sizeLine_eq]; omega
  refine wpAny_setItem_heap (hsz := hz) (show A.in1.units + 8 < cLine from by simp only [Around.in1]; omega) (standIs I.hok hb) dd fun h' dd' hs => h _ ?_
  obtain ⟨q, ds, ep, hq, _⟩ := id dd'
  exact d_write I (by rw [e]; exact True.intro) hs ⟨q, hq⟩ (dictO_ok (rel.put st rv) hd dd')
theorem n_typeIs (I : Inv X pins σ H s) (g : DictV X.prog X.w H a kvs) : s.TypeIs (.ref a) "dict" ∧ ∀ b, Value.ref a = .ref b → ∃ ob, s.heap.get? b = some ob ∧ ob.dict = none := by
  obtain ⟨es, xs, e, ks, eq, l, rel, hd, dd⟩ := dict_of I.hok g
  refine ⟨dd.typeIs, fun b q => ?_⟩
  cases q
  obtain ⟨ob, _, _, h1, h2, _⟩ := dd
  exact ⟨ob, h1, h2.2.1⟩
theorem n_get1 {Q : Value → Shared → Prop} (hu : A.units + 10 < cLine) (I : Inv X pins σ H s) (g : DictV X.prog X.w H a kvs) (hb : StandV H (.ref b) st) (h : ∀ w' s', Inv X pins σ H s' → RelV ((valV kvs st).getD .non) w' → Q w' s') :
    wpAny (model X.prog X.w) A (call (.builtin "dict.get") [.ref a, .ref b]) Q E s := by
  obtain ⟨es, xs, e, ks, eq, l, rel, hd, dd⟩ := dict_of I.hok g
  subst eq
  refine call_meetsIn PySem.F.slot_dict_get dd.typeIs PySem.F.entry_dict_get (PySem.F.args_dict_get_2 _ _) (meetsH_dict_get (nestedKind X.prog X.w) a b hd) ⟨show A.in1.units + 8 < cLine from by simp only [Around.in1]; omega, standK st, xs, standIs I.hok hb, dd, h _ _ (I.tok _) ?_⟩
  exact (rel.val st).getD rfl
theorem n_get2 {y : V} {Q : Value → Shared → Prop} (hu : A.units + 10 < cLine) (I : Inv X pins σ H s) (g : DictV X.prog X.w H a kvs) (hb : StandV H (.ref b) st) (ry : RelV y r) (h : ∀ w' s', Inv X pins σ H s' → RelV ((valV kvs st).getD y) w' → Q w' s') :
    wpAny (model X.prog X.w) A (call (.builtin "dict.get") [.ref a, .ref b, r]) Q E s := by
  obtain ⟨es, xs, e, ks, eq, l, rel, hd, dd⟩ := dict_of I.hok g
  subst eq
  refine call_meetsIn PySem.F.slot_dict_get dd.typeIs PySem.F.entry_dict_get (PySem.F.args_dict_get_3 _ _ _) (meetsH_dict_get_default (nestedKind X.prog X.w) a b hd r) ⟨show A.in1.units + 8 < cLine from by simp only [Around.in1]; omega, standK st, xs, standIs I.hok hb, dd, h _ _ (I.tok _) ?_⟩
  exact (rel.val st).getD ry
end

def tNGet (td ty : TE) (P : Program) (w : World) : TE := fun σ H Q => td σ H fun x H1 => ty σ H1 fun y H2 => ∃ a b kvs st v, x = .ref a ∧ y = .ref b ∧ DictV P w H2 a kvs ∧ StandV H2 (.ref b) st ∧ valV kvs st = some v ∧ Q v H2
def tNIn (ty td : TE) (P : Program) (w : World) : TE := fun σ H Q => ty σ H fun y H1 => td σ H1 fun x H2 => ∃ a b kvs st, x = .ref a ∧ y = .ref b ∧ DictV P w H2 a kvs ∧ StandV H2 (.ref b) st ∧ Q (.bl (valV kvs st).isSome) H2
def tNNot (ty td : TE) (P : Program) (w : World) : TE := fun σ H Q => ty σ H fun y H1 => td σ H1 fun x H2 => ∃ a b kvs st, x = .ref a ∧ y = .ref b ∧ DictV P w H2 a kvs ∧ StandV H2 (.ref b) st ∧ Q (.bl (!(valV kvs st).isSome)) H2
def sNPut (td ty tv : TE) (P : Program) (w : World) : TS := fun D σ H => tv σ H fun v H1 => td σ H1 fun x H2 => ty σ H2 fun y H3 => ∃ a b kvs st, x = .ref a ∧ y = .ref b ∧ DictV P w H3 a kvs ∧ StandV H3 (.ref b) st ∧ kvs.length < 6000 ∧
  ∀ o, (∀ H0, Kp H0 H3 → H0 a = none → Kp H0 (upd H3 a o)) → Ti H3 (upd H3 a o) → DictV P w (upd H3 a o) a (putK kvs st v) → D.nx σ (upd H3 a o)
def tNGet1 (td ty : TE) (P : Program) (w : World) : TE := fun σ H Q => td σ H fun x H1 => ∃ a kvs, x = .ref a ∧ DictV P w H1 a kvs ∧ ty σ H1 fun y H2 => ∃ b st, y = .ref b ∧ DictV P w H2 a kvs ∧ StandV H2 (.ref b) st ∧ Q ((valV kvs st).getD .non) H2
def tNGet2 (td ty tx : TE) (P : Program) (w : World) : TE := fun σ H Q => td σ H fun x H1 => ∃ a kvs, x = .ref a ∧ DictV P w H1 a kvs ∧ ty σ H1 fun y H2 => tx σ H2 fun z H3 => ∃ b st, y = .ref b ∧ DictV P w H3 a kvs ∧ StandV H3 (.ref b) st ∧ Q ((valV kvs st).getD z) H3
def tNNew (P : Program) (w : World) : TE := fun _ H Q => ∀ p, H p = none → DictV P w (upd H p (DictO P w p [])) p [] → Q (.ref p) (upd H p (DictO P w p []))
/-- {st: v} -/
def tNOne (ty tv : TE) (P : Program) (w : World) : TE := fun σ H Q => ∀ p, H p = none → tPairs [(ty, tv)] σ (upd H p (DictO P w p [])) fun ps H2 => ∃ b st v, ps = [(.ref b, v)] ∧ H2 p = some (DictO P w p []) ∧ StandV H2 (.ref b) st ∧
  (DictV P w (upd H2 p (DictO P w p [(st, b, v)])) p [(st, v)] → (∀ H0, Kp H0 H2 → H0 p = none → Kp H0 (upd H2 p (DictO P w p [(st, b, v)]))) → Q (.ref p) (upd H2 p (DictO P w p [(st, b, v)])))
section
variable {X : Cx} {o i e f value : Expr} {pos pos' tpos apos cpos : Pos} {td ty tx tv : TE}
theorem pe_nget (hu : X.A.units + 10 < cLine) (ho : PE X o td) (hi : PE X i ty) (hs : NoSl i) : PE X (.Subscript o i pos) (tNGet td ty X.prog X.w) := by
  refine ⟨fun pins s σ H Q I h => ?_⟩
  refine subD_of PySem.F.slot_dict_getitem.lookup hs (thn (ho.run pins s σ H _ I h) fun u s1 ⟨x, H1, I1, rx, q1⟩ => thn (hi.run pins s1 σ H1 _ I1 q1) fun iv s2 ⟨y, H2, I2, ry, a, b, kvs, st, v, ex, ey, g, hb, hv, q2⟩ => ?_)
  subst ex ey
  obtain rfl : u = Value.ref a := rx
  obtain rfl : iv = Value.ref b := ry
  exact ⟨(n_typeIs I2 g).1, n_getItem hu I2 g hb hv fun w' s3 I3 rw' => ⟨v, H2, I3, rw', q2⟩⟩
theorem pc_nin (hu : X.A.units + 10 < cLine) (hi : PE X i ty) (ho : PE X o td) : PC X .In i o (tNIn ty td X.prog X.w) := by
  refine ⟨fun pins s σ H Q I h => ?_⟩
  refine thn (hi.run pins s σ H _ I h) fun iv s1 ⟨y, H1, I1, ry, q1⟩ => thn (ho.run pins s1 σ H1 _ I1 q1) fun u s2 ⟨x, H2, I2, rx, a, b, kvs, st, ex, ey, g, hb, q2⟩ => ?_
  subst ex ey
  obtain rfl : u = Value.ref a := rx
  obtain rfl : iv = Value.ref b := ry
  exact n_in hu I2 g hb fun s3 I3 => ⟨.bl (valV kvs st).isSome, H2, I3, rfl, q2⟩
theorem pc_nnot (hu : X.A.units + 10 < cLine) (hi : PE X i ty) (ho : PE X o td) : PC X .NotIn i o (tNNot ty td X.prog X.w) := by
  refine ⟨fun pins s σ H Q I h => ?_⟩
  refine thn (hi.run pins s σ H _ I h) fun iv s1 ⟨y, H1, I1, ry, q1⟩ => thn (ho.run pins s1 σ H1 _ I1 q1) fun u s2 ⟨x, H2, I2, rx, a, b, kvs, st, ex, ey, g, hb, q2⟩ => ?_
  subst ex ey
  obtain rfl : u = Value.ref a := rx
  obtain rfl : iv = Value.ref b := ry
  exact n_notIn hu I2 g hb fun s3 I3 => ⟨.bl (!(valV kvs st).isSome), H2, I3, rfl, q2⟩
theorem ps_nput (hu : X.A.units + 10 < cLine) (ho : PE X o td) (hi : PE X i ty) (hv : PE X value tv) (hs : swapsWith value (some (.Subscript o i pos')) pos.line X.env = pure false) :
    PS X (.Assign [.Subscript o i pos'] value pos) (sNPut td ty tv X.prog X.w) := by
  refine ⟨fun pins s σ H D I h => ?_⟩
  refine wpAny_Assign_Subscript (thn (hv.run pins s σ H _ I h) fun r s1 ⟨v, H1, I1, rv, q1⟩ => thn (ho.run pins s1 σ H1 _ I1 q1) fun u s2 ⟨x, H2, I2, rx, q2⟩ => thn (hi.run pins s2 σ H2 _ I2 q2) fun iv s3 ⟨y, H3, I3, ry, a, b, kvs, st, ex, ey, g, hb, l, q3⟩ => ?_) hs
  subst ex ey
  obtain rfl : u = Value.ref a := rx
  obtain rfl : iv = Value.ref b := ry
  obtain ⟨es, e, ks, eq, _, ne⟩ := g
  subst eq
  have l' : es.length < 6000 := by rw [List.length_map] at l; exact l
  exact n_setItem hu I3 e ks l' hb rv fun s4 I4 => ⟨σ, _, I4, q3 _ (fun H0 k h0 => k.put h0 e (fun ps => dictO_not_tbl ps) ne) (Ti.put fun xs z => by rw [e] at z; exact dictO_not_tup (Option.some.inj z)) (DictV.put e ks l' hb (dictO_ne I4.hok upd_same))⟩
theorem pe_nget1 (hu : X.A.units + 10 < cLine) (ho : PE X o td) (he : PE X e ty) (m : M1 X o "get" apos e cpos) : PE X (.Call (.Attribute o "get" apos) [e] [] cpos) (tNGet1 td ty X.prog X.w) := by
  refine ⟨fun pins s σ H Q I h => ?_⟩
  refine wpAny_Call_method m.base m.few m.line PySem.F.plainAttrs_dict PySem.F.slot_dict_get PySem.F.type_dict_get (thn (ho.run pins s σ H _ I h) fun u s1 ⟨x, H1, I1, rx, a, kvs, ex, d, q1⟩ => ?_)
  subst ex
  obtain rfl : u = Value.ref a := rx
  obtain ⟨t1, t2⟩ := n_typeIs I1 d
  refine ⟨t1, t2, ?_⟩
  rw [m.trees]
  refine Calls.callWith_builtin rfl (Calls.evalArgs_plain (Calls.spliced_cons (thn (he.run pins s1 σ H1 _ I1 q1) fun iv s2 ⟨y, H2, I2, ry, b, st, ey, g, hb, q2⟩ => Calls.spliced_nil ?_)))
  subst ey
  obtain rfl : iv = Value.ref b := ry
  exact n_get1 hu I2 g hb fun w' s3 I3 rw' => ⟨_, H2, I3, rw', q2⟩
theorem pe_nget2 (hu : X.A.units + 10 < cLine) (ho : PE X o td) (he : PE X e ty) (hf : PE X f tx) (m : M2 X o "get" apos e f cpos) : PE X (.Call (.Attribute o "get" apos) [e, f] [] cpos) (tNGet2 td ty tx X.prog X.w) := by
  refine ⟨fun pins s σ H Q I h => ?_⟩
  refine wpAny_Call_method m.base m.few m.line PySem.F.plainAttrs_dict PySem.F.slot_dict_get PySem.F.type_dict_get (thn (ho.run pins s σ H _ I h) fun u s1 ⟨x, H1, I1, rx, a, kvs, ex, d, q1⟩ => ?_)
  subst ex
  obtain rfl : u = Value.ref a := rx
  obtain ⟨t1, t2⟩ := n_typeIs I1 d
  refine ⟨t1, t2, ?_⟩
  rw [m.trees]
  refine Calls.callWith_builtin rfl (Calls.evalArgs_plain (Calls.spliced_cons (thn (he.run pins s1 σ H1 _ I1 q1) fun iv s2 ⟨y, H2, I2, ry, q2⟩ =>
    Calls.spliced_cons (thn (hf.run pins s2 σ H2 _ I2 q2) fun fv s3 ⟨z, H3, I3, rz, b, st, ey, g, hb, q3⟩ => Calls.spliced_nil ?_))))
  subst ey
  obtain rfl : iv = Value.ref b := ry
  exact n_get2 hu I3 g hb rz fun w' s4 I4 rw' => ⟨_, H3, I4, rw', q3⟩
theorem n_empty {P : Program} {w : World} {H : Hp} (h : Heap) (hb : sysModules < h.objs.size) : ObjOk P w H (h.push { cls := .type "dict", data := .dict #[] }) h.objs.size (DictO P w h.objs.size []) :=
  dictO_ok (xs := []) .nil (beq_eq_false_iff_ne.mpr (Ne.symm (Nat.ne_of_lt hb))) (Heap.DictOfH.new h)
theorem n_emptyV {P : Program} {w : World} {H : Hp} {h : Heap} {p : Addr} (ok : HOk P w (upd H p (DictO P w p [])) h) : DictV P w (upd H p (DictO P w p [])) p [] := ⟨[], upd_same .., fun e he => (by cases he), rfl, Nat.zero_le _, dictO_ne ok upd_same⟩
theorem pe_nnew : PE X (.Dict [] [] pos) (tNNew X.prog X.w) := ⟨fun pins s σ H Q I h => by
  have I2 := I.laid (a := s.heap.objs.size) (o := DictO X.prog X.w s.heap.objs.size []) (h' := s.heap.push { cls := .type "dict", data := .dict #[] }) (t' := s.toks) (fun _ _ q => Heap.get?_push_of_some _ q) (Nat.le_refl _) (n_empty s.heap I.big)
  exact wpAny_Dict_empty ⟨.ref s.heap.objs.size, _, I2, rfl, h _ (I.hok.fresh (Nat.le_refl _)) (n_emptyV I2.hok)⟩⟩
theorem pe_none (hu : X.A.units + 10 < cLine) (he : PE X e ty) (hv : PE X value tv) : PE X (.Dict [some e] [value] pos) (tNOne ty tv X.prog X.w) := by
  refine ⟨fun pins s σ H Q I h => ?_⟩
  have hn := I.hok.fresh (Nat.le_refl s.heap.objs.size)
  have I1 := I.laid (a := s.heap.objs.size) (o := DictO X.prog X.w s.heap.objs.size []) (h' := s.heap.push { cls := .type "dict", data := .dict #[] }) (t' := s.toks) (fun _ _ q => Heap.get?_push_of_some _ q) (Nat.le_refl _) (n_empty s.heap I.big)
  rw [arm_eval_Dict, show (evalEachOpt [some e] X.env).zip ((evalEach [value] X.env).map fun v => do let x ← v; standAt pos; pure x) = (pairTrees [some e] [value] X.env pos).map fun p => (some p.1, p.2) from rfl, dictDisplay_pairs _ (by intro z; cases z) (by show (1 : Nat) < 17; decide)]
  refine wpAny_bind (wpAny_standAt (wpAny_bind (wpAny_subDictH (knd := nestedKind X.prog X.w) (show X.A.units + 8 < cLine by omega) (by show (1 : Nat) ≤ 15; decide) ?_)))
  refine thn ((pps_cons (pos := pos) he hv pps_nil).run pins _ σ _ _ I1 (h _ hn)) fun ws s2 ⟨ps, H2, I2, rel, b, st, v, eps, e2, hb, q2⟩ => ?_
  subst eps
  obtain ⟨es, xs, e0, _, eq, _, r0, hd, dd⟩ := dict_of I2.hok (kvs := []) ⟨[], e2, fun e he => (by cases he), rfl, Nat.zero_le _, dictO_ne I2.hok e2⟩
  have dd0 : s2.heap.DictOfH (nestedKind X.prog X.w) s.heap.objs.size [] := by
    obtain rfl : es = [] := by
      cases es with
      | nil => rfl
      | cons x y => simp [ofE] at eq
    cases r0
    exact dd
  cases rel with
  | @cons pa pb ta tb hh tt =>
    cases tt
    obtain ⟨kv, uv⟩ := pb
    obtain ⟨r1, r2⟩ := hh
    obtain rfl : kv = Value.ref b := r1
    refine ⟨[(standK st, b, uv)], ⟨rfl, rfl, standIs I2.hok hb, trivial⟩, dd0, fun h' tk dd' hs => wpAny_pure ?_⟩
    obtain ⟨q, ds, ep, hq, _⟩ := id dd'
    have I3 := d_write (t' := tk) I2 (by rw [e2]; exact True.intro) hs ⟨q, hq⟩ (dictO_ok (P := X.prog) (w := X.w) (es := [(st, b, v)]) (.cons ⟨rfl, rfl, r2⟩ .nil) hd dd')
    exact ⟨.ref s.heap.objs.size, _, I3, rfl, q2 (DictV.put (es := []) e2 (fun e he => (by cases he)) (by decide) hb (dictO_ne I3.hok upd_same)) fun H0 k h0 => k.put h0 e2 (fun ps => dictO_not_tbl ps) (dictO_ne I2.hok e2)⟩
end
end Dw
end

section
set_option Elab.async false
set_option linter.all false
set_option maxRecDepth 100000
set_option maxHeartbeats 1000000
/-! the plain mathematics: no program in sight -/
namespace Dw
open PySem (Paired)

/-! ### lists -/
theorem len_of_sub {α : Type} [DecidableEq α] : ∀ {l m : List α}, l.Nodup → (∀ x ∈ l, x ∈ m) → l.length ≤ m.length
  | [], _, _, _ => Nat.zero_le _
  | x :: l, m, hn, hs => by
    rw [List.nodup_cons] at hn
    have hx : x ∈ m := hs x (List.mem_cons_self ..)
    have h1 : l.length ≤ (m.erase x).length := len_of_sub hn.2 fun y hy => (List.mem_erase_of_ne (by intro e; rw [e] at hy; exact hn.1 hy)).mpr (hs y (List.mem_cons_of_mem _ hy))
    have h2 : (m.erase x).length = m.length - 1 := List.length_erase_of_mem hx
    have h3 : 0 < m.length := List.length_pos_of_mem hx
    rw [List.length_cons]
    omega
theorem sub_of_len {α : Type} [DecidableEq α] {l m : List α} (hn : l.Nodup) (hs : ∀ x ∈ l, x ∈ m) (hl : m.length ≤ l.length) : ∀ x ∈ m, x ∈ l := by
  intro x hx
  refine Classical.byContradiction fun h => ?_
  have := len_of_sub (l := x :: l) (m := m) (List.nodup_cons.mpr ⟨h, hn⟩) fun y hy => by
    rcases List.mem_cons.mp hy with e | e
    · rw [e]; exact hx
    · exact hs y e
  rw [List.length_cons] at this
  omega

abbrev Asc (l : List Nat) : Prop := l.Pairwise (· < ·)
theorem Asc.nodup {l : List Nat} (h : Asc l) : l.Nodup := h.imp fun h => Nat.ne_of_lt h
theorem asc_ext : ∀ {a b : List Nat}, Asc a → Asc b → (∀ j, j ∈ a ↔ j ∈ b) → a = b
  | [], [], _, _, _ => rfl
  | [], y :: b, _, _, h => absurd ((h y).mpr (List.mem_cons_self ..)) (by simp)
  | x :: a, [], _, _, h => absurd ((h x).mp (List.mem_cons_self ..)) (by simp)
  | x :: a, y :: b, ha, hb, h => by
    rw [Asc, List.pairwise_cons] at ha hb
    have e : x = y := by
      rcases List.mem_cons.mp ((h x).mp (List.mem_cons_self ..)) with e | e
      · exact e
      · rcases List.mem_cons.mp ((h y).mpr (List.mem_cons_self ..)) with e2 | e2
        · exact e2.symm
        · have := ha.1 y e2
          have := hb.1 x e
          omega
    subst e
    rw [asc_ext ha.2 hb.2 fun j => ⟨fun hj => ?_, fun hj => ?_⟩]
    · rcases List.mem_cons.mp ((h j).mp (List.mem_cons_of_mem _ hj)) with e | e
      · have := ha.1 j hj; omega
      · exact e
    · rcases List.mem_cons.mp ((h j).mpr (List.mem_cons_of_mem _ hj)) with e | e
      · have := hb.1 j hj; omega
      · exact e

/-- the members, in order -/
def uni (l : List Nat) : List Nat := (List.range (l.foldr max 0 + 1)).filter fun j => decide (j ∈ l)
theorem le_foldmax : ∀ {l : List Nat} {j : Nat}, j ∈ l → j ≤ l.foldr max 0
  | x :: l, j, h => by
    rcases List.mem_cons.mp h with e | e
    · subst e; simp only [List.foldr_cons]; omega
    · have := le_foldmax e; simp only [List.foldr_cons]; omega
theorem uni_mem {l : List Nat} {j : Nat} : j ∈ uni l ↔ j ∈ l := by
  unfold uni
  rw [List.mem_filter, List.mem_range]
  constructor
  · intro h; exact of_decide_eq_true h.2
  · intro h; exact ⟨Nat.lt_succ_of_le (le_foldmax h), decide_eq_true h⟩
theorem uni_asc (l : List Nat) : Asc (uni l) := List.Pairwise.filter _ List.pairwise_lt_range

/-! ### stands -/
def passL : Stand → Lot → Route → Stand × Lot
  | s, c, [] => (s, c)
  | s, c, v :: r => passL (s.set v (uni (c ++ s.getD v []))) (uni (c ++ s.getD v [])) r
abbrev next (s : Stand) (r : Route) : Stand := (passL s [] r).1
def OkLot (D : Nat) (l : Lot) : Prop := Asc l ∧ ∀ x ∈ l, x < D
def OkStand (V D : Nat) (s : Stand) : Prop := s.length = V ∧ ∀ l ∈ s, OkLot D l
def LeS (s t : Stand) : Prop := s.length = t.length ∧ ∀ v j, j ∈ s.getD v [] → j ∈ t.getD v []
theorem LeS.refl (s : Stand) : LeS s s := ⟨rfl, fun _ _ h => h⟩
theorem LeS.trans {s t u : Stand} (a : LeS s t) (b : LeS t u) : LeS s u := ⟨a.1.trans b.1, fun v j h => b.2 v j (a.2 v j h)⟩
theorem getD_set (s : Stand) (v w : Nat) (l : Lot) : (s.set v l).getD w [] = if w = v ∧ v < s.length then l else s.getD w [] := by
  simp only [List.getD_eq_getElem?_getD, List.getElem?_set]
  by_cases e : v = w
  · subst e
    by_cases h : v < s.length
    · simp [h]
    · simp [h, List.getElem?_eq_none (Nat.le_of_not_lt h)]
  · have : ¬ w = v := fun z => e z.symm
    simp [e, this]
theorem pass_mono : ∀ (r : Route) {s t : Stand} {c d : Lot}, LeS s t → (∀ j ∈ c, j ∈ d) → LeS (passL s c r).1 (passL t d r).1 ∧ ∀ j ∈ (passL s c r).2, j ∈ (passL t d r).2
  | [], s, t, c, d, h, hc => ⟨h, hc⟩
  | v :: r, s, t, c, d, h, hc => by
    have hu : ∀ j ∈ uni (c ++ s.getD v []), j ∈ uni (d ++ t.getD v []) := fun j hj => by
      rw [uni_mem, List.mem_append] at hj ⊢
      exact hj.imp (hc j) (h.2 v j)
    refine pass_mono r ⟨by rw [List.length_set, List.length_set]; exact h.1, fun w j hj => ?_⟩ hu
    rw [getD_set] at hj ⊢
    rw [← h.1]
    by_cases e : w = v ∧ v < s.length
    · rw [if_pos e] at hj ⊢; exact hu j hj
    · rw [if_neg e] at hj ⊢; exact h.2 w j hj
theorem pass_up : ∀ (r : Route) (s : Stand) (c : Lot), LeS s (passL s c r).1
  | [], s, c => LeS.refl s
  | v :: r, s, c => by
    refine LeS.trans ⟨by rw [List.length_set], fun w j hj => ?_⟩ (pass_up r _ _)
    rw [getD_set]
    by_cases e : w = v ∧ v < s.length
    · rw [if_pos e, uni_mem, List.mem_append]
      rw [e.1] at hj
      exact .inr hj
    · rw [if_neg e]; exact hj
theorem getD_ok {V D : Nat} {s : Stand} (h : OkStand V D s) (v : Nat) : OkLot D (s.getD v []) := by
  rw [List.getD_eq_getElem?_getD]
  cases e : s[v]? with
  | none => exact ⟨List.Pairwise.nil, fun x hx => by cases hx⟩
  | some l => exact h.2 l (List.mem_of_getElem? e)
theorem pass_ok {V D : Nat} : ∀ (r : Route) {s : Stand} {c : Lot}, OkStand V D s → OkLot D c → OkStand V D (passL s c r).1 ∧ OkLot D (passL s c r).2
  | [], _, _, h, hc => ⟨h, hc⟩
  | v :: r, s, c, h, hc => by
    have hu : OkLot D (uni (c ++ s.getD v [])) := ⟨uni_asc _, fun x hx => by
      rw [uni_mem, List.mem_append] at hx
      exact hx.elim (hc.2 x) ((getD_ok h v).2 x)⟩
    refine pass_ok r ⟨by rw [List.length_set]; exact h.1, fun l hl => ?_⟩ hu
    rcases List.mem_or_eq_of_mem_set hl with e | e
    · exact h.2 l e
    · rw [e]; exact hu
theorem okLot_nil {D : Nat} : OkLot D [] := ⟨List.Pairwise.nil, fun x hx => by cases hx⟩
theorem next_ok {V D : Nat} {s : Stand} (h : OkStand V D s) (r : Route) : OkStand V D (next s r) := (pass_ok r h okLot_nil).1
theorem next_mono {s t : Stand} (h : LeS s t) (r : Route) : LeS (next s r) (next t r) := (pass_mono r h fun _ h => h).1
theorem next_up (s : Stand) (r : Route) : LeS s (next s r) := pass_up r s []
theorem leS_antisymm {V D : Nat} {s t : Stand} (hs : OkStand V D s) (ht : OkStand V D t) (a : LeS s t) (b : LeS t s) : s = t := by
  refine List.ext_getElem? fun v => ?_
  by_cases hv : v < s.length
  · have hv' : v < t.length := by rw [← a.1]; exact hv
    have e : s.getD v [] = t.getD v [] := asc_ext (getD_ok hs v).1 (getD_ok ht v).1 fun j => ⟨a.2 v j, b.2 v j⟩
    rw [List.getD_eq_getElem?_getD, List.getD_eq_getElem?_getD, List.getElem?_eq_getElem hv, List.getElem?_eq_getElem hv'] at e
    rw [List.getElem?_eq_getElem hv, List.getElem?_eq_getElem hv']
    simpa using e
  · rw [List.getElem?_eq_none (Nat.le_of_not_lt hv), List.getElem?_eq_none (by rw [← a.1]; exact Nat.le_of_not_lt hv)]

/-! ### the size of a stand -/
def size (s : Stand) : Nat := (s.map List.length).sum
theorem okLot_len {D : Nat} {l : Lot} (h : OkLot D l) : l.length ≤ D := by
  have := len_of_sub (m := List.range D) h.1.nodup fun x hx => List.mem_range.mpr (h.2 x hx)
  rwa [List.length_range] at this
theorem size_le {D : Nat} : ∀ {s : Stand}, (∀ l ∈ s, OkLot D l) → size s ≤ s.length * D
  | [], _ => by simp [size]
  | l :: s, h => by
    have h1 := size_le (s := s) fun m hm => h m (List.mem_cons_of_mem _ hm)
    have h2 := okLot_len (h l (List.mem_cons_self ..))
    simp only [size, List.map_cons, List.sum_cons, List.length_cons] at h1 ⊢
    rw [Nat.succ_mul]
    omega
theorem size_lt {D : Nat} : ∀ {s t : Stand}, (∀ l ∈ s, OkLot D l) → (∀ l ∈ t, OkLot D l) → LeS s t → size s ≤ size t ∧ (size t ≤ size s → s = t)
  | [], [], _, _, _ => ⟨Nat.le_refl _, fun _ => rfl⟩
  | [], _ :: _, _, _, h => by have := h.1; simp at this
  | _ :: _, [], _, _, h => by have := h.1; simp at this
  | l :: s, m :: t, hs, ht, h => by
    have hl := hs l (List.mem_cons_self ..)
    have hm := ht m (List.mem_cons_self ..)
    have sub : ∀ j ∈ l, j ∈ m := fun j hj => by simpa using h.2 0 j (by simpa using hj)
    have h1 := len_of_sub hl.1.nodup sub
    have h2 := size_lt (s := s) (t := t) (fun x hx => hs x (List.mem_cons_of_mem _ hx)) (fun x hx => ht x (List.mem_cons_of_mem _ hx)) ⟨by simpa using h.1, fun v j hj => by simpa using h.2 (v + 1) j (by simpa using hj)⟩
    have e1 : size (l :: s) = l.length + size s := by simp [size]
    have e2 : size (m :: t) = m.length + size t := by simp [size]
    rw [e1, e2]
    refine ⟨by omega, fun q => ?_⟩
    rw [h2.2 (by omega), asc_ext hl.1 hm.1 fun j => ⟨sub j, sub_of_len hl.1.nodup sub (by omega) j⟩]

/-! ### good, fine -/
def hasWants (W : Works) (kd : Kind) (r : Route) : Bool := kd.wants.all fun dye => r.any fun v => decide (dye ∈ W.vats.getD v [])
def isClean (kd : Kind) (c : Lot) : Bool := !(c.any fun dye => decide (dye ∈ kd.bars))
def goodR (W : Works) (kd : Kind) (s : Stand) (r : Route) : Bool := hasWants W kd r && isClean kd (passL s [] r).2
theorem good_anti {W : Works} {kd : Kind} {s t : Stand} {r : Route} (h : LeS s t) (g : goodR W kd t r = true) : goodR W kd s r = true := by
  unfold goodR at g ⊢
  rw [Bool.and_eq_true] at g ⊢
  refine ⟨g.1, ?_⟩
  have g2 := g.2
  unfold isClean at g2 ⊢
  rw [Bool.not_eq_true', List.any_eq_false] at g2 ⊢
  exact fun x hx => g2 x ((pass_mono r h fun _ h => h).2 x hx)

inductive Reach (rs : List Route) (s0 : Stand) : Stand → Prop
  | here : Reach rs s0 s0
  | step {s r} : Reach rs s0 s → r ∈ rs → Reach rs s0 (next s r)
theorem Reach.ok {V D : Nat} {rs : List Route} {s0 s : Stand} (h0 : OkStand V D s0) (h : Reach rs s0 s) : OkStand V D s := by
  induction h with
  | here => exact h0
  | step _ _ ih => exact next_ok ih _
theorem Reach.mono {rs rs' : List Route} {s0 s : Stand} (h : Reach rs s0 s) (k : ∀ r ∈ rs, r ∈ rs') : Reach rs' s0 s := by
  induction h with
  | here => exact .here
  | step _ q ih => exact .step ih (k _ q)
theorem Reach.up {rs : List Route} {s0 s : Stand} (h : Reach rs s0 s) : LeS s0 s := by
  induction h with
  | here => exact LeS.refl _
  | step _ _ ih => exact ih.trans (next_up _ _)
theorem Reach.under {rs : List Route} {s0 s c : Stand} (h : Reach rs s0 s) (h0 : LeS s0 c) (hc : ∀ r ∈ rs, next c r = c) : LeS s c := by
  induction h with
  | here => exact h0
  | @step s r _ q ih => have := next_mono ih r; rw [hc r q] at this; exact this

structure OkKind (V D : Nat) (kd : Kind) : Prop where
  wants : OkLot D kd.wants
  bars : OkLot D kd.bars
  r0 : kd.routes ≠ []
  r4 : kd.routes.length ≤ 4
  route : ∀ r ∈ kd.routes, r ≠ [] ∧ r.length ≤ 3 ∧ ∀ v ∈ r, v < V
structure OkWorks (W : Works) : Prop where
  d1 : 1 ≤ W.dyes
  d4 : W.dyes ≤ 4
  v1 : W.vats ≠ []
  v4 : W.vats.length ≤ 4
  lots : ∀ l ∈ W.vats, OkLot W.dyes l
  k1 : W.kinds ≠ []
  k3 : W.kinds.length ≤ 3
  kind : ∀ kd ∈ W.kinds, OkKind W.vats.length W.dyes kd
theorem OkWorks.stand {W : Works} (h : OkWorks W) : OkStand W.vats.length W.dyes W.vats := ⟨rfl, h.lots⟩

abbrev Plan := List Nat
def PlanOk (W : Works) (p : Plan) : Prop := Paired (fun (n : Nat) (kd : Kind) => n < kd.routes.length) p W.kinds
abbrev routeOf (kd : Kind) (n : Nat) : Route := kd.routes.getD n []
def routesOf (W : Works) (p : Plan) : List Route := List.zipWith routeOf W.kinds p
abbrev allRoutes (W : Works) : List Route := W.kinds.flatMap (·.routes)
def Fine (W : Works) (p : Plan) : Prop := ∀ s, Reach (routesOf W p) W.vats s → ∀ x ∈ List.zip W.kinds (routesOf W p), goodR W x.1 s x.2 = true
theorem routeOf_mem {kd : Kind} {n : Nat} (h : n < kd.routes.length) : routeOf kd n ∈ kd.routes := by
  unfold routeOf
  rw [List.getD_eq_getElem?_getD, List.getElem?_eq_getElem h]
  exact List.getElem_mem h
theorem routesOf_sub {W : Works} {p : Plan} (h : PlanOk W p) : ∀ r ∈ routesOf W p, r ∈ allRoutes W := by
  unfold PlanOk at h
  unfold routesOf allRoutes
  generalize W.kinds = ks at h
  induction h with
  | nil => intro r hr; simp at hr
  | @cons n kd ns ks h t ih =>
    intro r hr
    rw [List.zipWith_cons_cons, List.mem_cons] at hr
    rw [List.flatMap_cons, List.mem_append]
    rcases hr with e | e
    · rw [e]; exact .inl (routeOf_mem h)
    · exact .inr (ih r e)

/-- a stand that the sweep leaves as it is, is left as it is by each route -/
theorem sweep_up (rs : List Route) : ∀ s : Stand, LeS s (rs.foldl next s) := by
  induction rs with
  | nil => exact fun s => LeS.refl s
  | cons r rs ih => exact fun s => (next_up s r).trans (ih (next s r))
theorem sweep_ok {V D : Nat} (rs : List Route) : ∀ {s : Stand}, OkStand V D s → OkStand V D (rs.foldl next s) := by
  induction rs with
  | nil => exact fun h => h
  | cons r rs ih => exact fun h => ih (next_ok h r)
theorem sweep_reach {s0 : Stand} {all : List Route} (rs : List Route) : ∀ {s : Stand}, (∀ r ∈ rs, r ∈ all) → Reach all s0 s → Reach all s0 (rs.foldl next s) := by
  induction rs with
  | nil => exact fun _ h => h
  | cons r rs ih => exact fun k h => ih (fun q hq => k q (List.mem_cons_of_mem _ hq)) (.step h (k r (List.mem_cons_self ..)))
theorem sweep_fix {V D : Nat} : ∀ (rs : List Route) {c : Stand}, OkStand V D c → rs.foldl next c = c → ∀ r ∈ rs, next c r = c
  | [], _, _, _, r, hr => by cases hr
  | q :: rs, c, hc, e, r, hr => by
    have e1 : next c q = c := leS_antisymm (next_ok hc q) hc (by have := sweep_up rs (next c q); rw [List.foldl_cons] at e; rw [e] at this; exact this) (next_up c q)
    rcases List.mem_cons.mp hr with z | z
    · rw [z]; exact e1
    · refine sweep_fix rs hc ?_ r z
      rw [List.foldl_cons, e1] at e
      exact e
theorem fine_iff {W : Works} {p : Plan} (hW : OkWorks W) {c : Stand} (hr : Reach (routesOf W p) W.vats c) (hf : (routesOf W p).foldl next c = c) :
    Fine W p ↔ ∀ x ∈ List.zip W.kinds (routesOf W p), goodR W x.1 c x.2 = true := by
  constructor
  · intro h; exact h c hr
  · intro h s hs x hx
    exact good_anti (hs.under hr.up (sweep_fix _ (hr.ok hW.stand) hf)) (h x hx)

/-! ### losing -/
def lostB (W : Works) : Nat → Stand → Bool
  | 0, _ => false
  | n + 1, s => lostB W n s || W.kinds.any fun kd => kd.routes.all fun r => !(goodR W kd s r) || lostB W n (next s r)
theorem lostB_up {W : Works} {s : Stand} {n m : Nat} (h : n ≤ m) (q : lostB W n s = true) : lostB W m s = true := by
  induction h with
  | refl => exact q
  | step _ ih => simp [lostB, ih]
theorem zip_routes : ∀ {p : Plan} {ks : List Kind}, Paired (fun (n : Nat) (kd : Kind) => n < kd.routes.length) p ks → ∀ kd ∈ ks, ∃ r ∈ kd.routes, r ∈ List.zipWith routeOf ks p ∧ (kd, r) ∈ List.zip ks (List.zipWith routeOf ks p)
  | _, _, .nil, kd, hk => by cases hk
  | _, _, .cons (a := n) (b := k) h t, kd, hk => by
    rcases List.mem_cons.mp hk with e | e
    · subst e
      exact ⟨routeOf kd n, routeOf_mem h, by simp, by simp⟩
    · obtain ⟨r, h1, h2, h3⟩ := zip_routes t kd e
      exact ⟨r, h1, by rw [List.zipWith_cons_cons]; exact List.mem_cons_of_mem _ h2, by rw [List.zipWith_cons_cons, List.zip_cons_cons]; exact List.mem_cons_of_mem _ h3⟩
/-- a fine plan never loses -/
theorem fine_safe {W : Works} {p : Plan} (hp : PlanOk W p) (hf : Fine W p) : ∀ (n : Nat) (s : Stand), Reach (routesOf W p) W.vats s → lostB W n s = false
  | 0, _, _ => rfl
  | n + 1, s, hs => by
    rw [lostB, fine_safe hp hf n s hs, Bool.false_or, List.any_eq_false]
    intro kd hk q
    obtain ⟨r, h1, h2, h3⟩ := zip_routes hp kd hk
    have q := List.all_eq_true.mp q r h1
    rw [hf s hs _ h3, fine_safe hp hf n _ (.step hs h2)] at q
    cases q
theorem plan_of {W : Works} {F : Kind → Route → Prop} : ∀ {ks : List Kind}, (∀ kd ∈ ks, ∃ r ∈ kd.routes, F kd r) → ∃ p : Plan, Paired (fun (n : Nat) (kd : Kind) => n < kd.routes.length) p ks ∧ ∀ x ∈ List.zip ks (List.zipWith routeOf ks p), F x.1 x.2
  | [], _ => ⟨[], .nil, fun x hx => by simp at hx⟩
  | kd :: ks, h => by
    obtain ⟨p, h1, h2⟩ := plan_of (W := W) (F := F) (ks := ks) fun k hk => h k (List.mem_cons_of_mem _ hk)
    obtain ⟨r, hr, q⟩ := h kd (List.mem_cons_self ..)
    obtain ⟨n, hn, e⟩ := List.mem_iff_getElem.mp hr
    refine ⟨n :: p, .cons hn h1, fun x hx => ?_⟩
    rw [List.zipWith_cons_cons, List.zip_cons_cons] at hx
    rcases List.mem_cons.mp hx with z | z
    · rw [z]
      show F kd (routeOf kd n)
      unfold routeOf
      rw [List.getD_eq_getElem?_getD, List.getElem?_eq_getElem hn, e]
      exact q
    · exact h2 x z
theorem zip_mem_right : ∀ {ks : List Kind} {rs : List Route}, rs.length = ks.length → ∀ r ∈ rs, ∃ kd, (kd, r) ∈ List.zip ks rs
  | [], [], _, r, hr => by cases hr
  | kd :: ks, q :: rs, e, r, hr => by
    rcases List.mem_cons.mp hr with z | z
    · exact ⟨kd, by rw [z]; simp⟩
    · obtain ⟨k, h⟩ := zip_mem_right (by simpa using e) r z
      exact ⟨k, by rw [List.zip_cons_cons]; exact List.mem_cons_of_mem _ h⟩
  | [], _ :: _, e, _, _ => by simp at e
  | _ :: _, [], e, _, _ => by simp at e
/-- not lost so soon: a fine plan -/
theorem safe_fine {W : Works} (hW : OkWorks W) : ∀ (c : Nat) (s : Stand), OkStand W.vats.length W.dyes s → LeS W.vats s → W.vats.length * W.dyes ≤ size s + c → lostB W (c + 1) s = false → ∃ p, PlanOk W p ∧ Fine W p
  | c, s, hs, h0, hc, hl => by
    rw [lostB, Bool.or_eq_false_iff, List.any_eq_false] at hl
    have ch : ∀ kd ∈ W.kinds, ∃ r ∈ kd.routes, goodR W kd s r = true ∧ lostB W c (next s r) = false := fun kd hk => by
      have q := hl.2 kd hk
      rw [Bool.not_eq_true, List.all_eq_false] at q
      obtain ⟨r, hr, q⟩ := q
      rw [Bool.not_eq_true, Bool.or_eq_false_iff] at q
      exact ⟨r, hr, by simpa using q.1, q.2⟩
    by_cases all : ∀ kd ∈ W.kinds, ∃ r ∈ kd.routes, goodR W kd s r = true ∧ next s r = s
    · obtain ⟨p, hp, hq⟩ := plan_of (W := W) (F := fun kd r => goodR W kd s r = true ∧ next s r = s) all
      have hlen : (routesOf W p).length = W.kinds.length := by
        unfold routesOf
        rw [List.length_zipWith, Paired.length hp]
        omega
      refine ⟨p, hp, fun t ht x hx => good_anti (ht.under h0 fun r hr => ?_) (hq x hx).1⟩
      obtain ⟨kd, hk⟩ := zip_mem_right hlen r hr
      exact (hq _ hk).2
    · obtain ⟨kd, hk, hn⟩ : ∃ kd, kd ∈ W.kinds ∧ ¬ ∃ r ∈ kd.routes, goodR W kd s r = true ∧ next s r = s := by
        refine Classical.byContradiction fun z => all fun kd hk => Classical.byContradiction fun y => z ⟨kd, hk, y⟩
      obtain ⟨r, hr, g, l⟩ := ch kd hk
      have ne : ¬ next s r = s := fun e => hn ⟨r, hr, g, e⟩
      have hk' := next_ok hs r
      have sz := size_lt hs.2 hk'.2 (next_up s r)
      have lt : size s < size (next s r) := by
        rcases Nat.lt_or_ge (size s) (size (next s r)) with z | z
        · exact z
        · exact absurd (sz.2 z).symm ne
      have top := size_le hk'.2
      rw [hk'.1] at top
      cases c with
      | zero => omega
      | succ c => exact safe_fine hW c (next s r) hk' (h0.trans (next_up s r)) (by omega) l

/-! ### ranks -/
def rankTo (W : Works) : Nat → Stand → Option Nat
  | 0, _ => none
  | n + 1, s => match rankTo W n s with
    | some m => some m
    | none => if lostB W (n + 1) s = true then some (n + 1) else none
theorem rank_none {W : Works} {s : Stand} : ∀ {n : Nat}, rankTo W n s = none ↔ lostB W n s = false
  | 0 => by simp [rankTo, lostB]
  | n + 1 => by
    have ih := rank_none (W := W) (s := s) (n := n)
    rw [rankTo]
    cases e : rankTo W n s with
    | some m =>
      have : lostB W n s = true := by
        cases q : lostB W n s with
        | true => rfl
        | false => rw [ih.mpr q] at e; cases e
      simp [lostB_up (Nat.le_succ n) this]
    | none =>
      cases q : lostB W (n + 1) s <;> simp
theorem rank_isSome {W : Works} {s : Stand} {n : Nat} : (rankTo W n s).isSome = lostB W n s := by
  cases e : rankTo W n s with
  | none => rw [rank_none.mp e]; rfl
  | some m =>
    cases q : lostB W n s with
    | true => rfl
    | false => rw [rank_none.mpr q] at e; cases e
theorem rank_le {W : Works} {s : Stand} : ∀ {n m : Nat}, rankTo W n s = some m → m ≤ n ∧ lostB W m s = true ∧ ∀ j, j < m → lostB W j s = false
  | 0, m, h => by cases h
  | n + 1, m, h => by
    rw [rankTo] at h
    cases e : rankTo W n s with
    | some k =>
      rw [e] at h
      cases h
      obtain ⟨h1, h2, h3⟩ := rank_le e
      exact ⟨by omega, h2, h3⟩
    | none =>
      rw [e] at h
      simp only at h
      by_cases q : lostB W (n + 1) s = true
      · rw [if_pos q] at h
        cases h
        refine ⟨Nat.le_refl _, q, fun j hj => ?_⟩
        have z := rank_none.mp e
        cases y : lostB W j s with
        | false => rfl
        | true => rw [lostB_up (by omega) y] at z; cases z
      · rw [if_neg q] at h; cases h
/-- from a round on that changes nothing, nothing changes -/
theorem lost_stays {W : Works} {S : List Stand} {n : Nat} (hS : ∀ s ∈ S, ∀ kd ∈ W.kinds, ∀ r ∈ kd.routes, next s r ∈ S) (h : ∀ s ∈ S, lostB W (n + 1) s = lostB W n s) :
    ∀ (d : Nat) (s : Stand), s ∈ S → lostB W (n + d) s = lostB W n s
  | 0, s, hs => rfl
  | d + 1, s, hs => by
    have e1 := lost_stays hS h d s hs
    refine Eq.trans ?_ (h s hs)
    rw [show n + (d + 1) = (n + d) + 1 from rfl, lostB, lostB, e1]
    congr 1
    · refine anyc fun kd hk => allc fun r hr => ?_
      rw [lost_stays hS h d _ (hS s hs kd hk r hr)]
where
  anyc {f g : Kind → Bool} {l : List Kind} (h : ∀ x ∈ l, f x = g x) : l.any f = l.any g := by
    induction l with
    | nil => rfl
    | cons x l ih => rw [List.any_cons, List.any_cons, h x (List.mem_cons_self ..), ih fun y hy => h y (List.mem_cons_of_mem _ hy)]
  allc {f g : Route → Bool} {l : List Route} (h : ∀ x ∈ l, f x = g x) : l.all f = l.all g := by
    induction l with
    | nil => rfl
    | cons x l ih => rw [List.all_cons, List.all_cons, h x (List.mem_cons_self ..), ih fun y hy => h y (List.mem_cons_of_mem _ hy)]
theorem rank_stays {W : Works} {S : List Stand} {n : Nat} (hS : ∀ s ∈ S, ∀ kd ∈ W.kinds, ∀ r ∈ kd.routes, next s r ∈ S) (h : ∀ s ∈ S, lostB W (n + 1) s = lostB W n s) (s : Stand) (hs : s ∈ S) : ∀ d : Nat, rankTo W (n + d) s = rankTo W n s
  | 0 => rfl
  | d + 1 => by
    rw [show n + (d + 1) = (n + d) + 1 from rfl, rankTo, rank_stays hS h s hs d]
    cases e : rankTo W n s with
    | some m => rfl
    | none =>
      have q := lost_stays hS h (d + 1) s hs
      rw [rank_none.mp e] at q
      have q' : lostB W (n + d + 1) s = false := q
      simp [q']
def countL (W : Works) (S : List Stand) (n : Nat) : Nat := S.countP fun s => lostB W n s
theorem count_up {W : Works} {S : List Stand} {n : Nat} : countL W S n ≤ countL W S (n + 1) ∧ (countL W S (n + 1) ≤ countL W S n → ∀ s ∈ S, lostB W (n + 1) s = lostB W n s) := by
  unfold countL
  induction S with
  | nil => exact ⟨Nat.le_refl _, fun _ s hs => by cases hs⟩
  | cons x S ih =>
    rw [List.countP_cons, List.countP_cons]
    have up : lostB W n x = true → lostB W (n + 1) x = true := lostB_up (Nat.le_succ n)
    cases e1 : lostB W n x with
    | true =>
      rw [up e1]
      simp only [if_true]
      refine ⟨by omega, fun q s hs => ?_⟩
      rcases List.mem_cons.mp hs with z | z
      · rw [z, up e1, e1]
      · exact ih.2 (by omega) s z
    | false =>
      cases e2 : lostB W (n + 1) x with
      | true =>
        simp only [if_true, Bool.false_eq_true, if_false]
        exact ⟨by omega, fun q => by omega⟩
      | false =>
        simp only [Bool.false_eq_true, if_false]
        refine ⟨by omega, fun q s hs => ?_⟩
        rcases List.mem_cons.mp hs with z | z
        · rw [z, e1, e2]
        · exact ih.2 (by omega) s z
theorem count_le {W : Works} {S : List Stand} {n : Nat} : countL W S n ≤ S.length := List.countP_le_length
theorem fix_ex {W : Works} {S : List Stand} : ∃ n, n ≤ S.length ∧ ∀ s ∈ S, lostB W (n + 1) s = lostB W n s := by
  refine Classical.byContradiction fun z => ?_
  have step : ∀ n, n ≤ S.length + 1 → n ≤ countL W S n := by
    intro n
    induction n with
    | zero => intro _; exact Nat.zero_le _
    | succ n ih =>
      intro h
      have h1 := ih (by omega)
      have h2 := count_up (W := W) (S := S) (n := n)
      rcases Nat.lt_or_ge (countL W S n) (countL W S (n + 1)) with q | q
      · omega
      · exact absurd ⟨n, by omega, h2.2 q⟩ z
  have h1 := step (S.length + 1) (Nat.le_refl _)
  have h2 := count_le (W := W) (S := S) (n := S.length + 1)
  omega
/-- two counts of rounds, both long enough -/
theorem rank_same {W : Works} {S T : List Stand} {n : Nat} (hS : ∀ s ∈ S, ∀ kd ∈ W.kinds, ∀ r ∈ kd.routes, next s r ∈ S) (hT : ∀ s ∈ T, ∀ kd ∈ W.kinds, ∀ r ∈ kd.routes, next s r ∈ T) (h : ∀ s ∈ S, lostB W (n + 1) s = lostB W n s) (s : Stand) (hs : s ∈ S) (ht : s ∈ T) :
    rankTo W n s = rankTo W (T.length + 1) s := by
  obtain ⟨m, hm, hf⟩ := fix_ex (W := W) (S := T)
  have a := rank_stays hS h s hs m
  have b := rank_stays hT hf s ht n
  have c := rank_stays hT hf s ht (T.length + 1 - m)
  rw [show m + (T.length + 1 - m) = T.length + 1 by omega] at c
  rw [← a, c, ← b, Nat.add_comm]

/-! ### the two sides -/
theorem rank_none_iff {W : Works} (hW : OkWorks W) {S : List Stand} (hS : ∀ s ∈ S, ∀ kd ∈ W.kinds, ∀ r ∈ kd.routes, next s r ∈ S) (h0 : W.vats ∈ S) {n : Nat} (h : ∀ s ∈ S, lostB W (n + 1) s = lostB W n s) : rankTo W n W.vats = none ↔ ∃ p, PlanOk W p ∧ Fine W p := by
  constructor
  · intro e
    refine safe_fine hW (W.vats.length * W.dyes) W.vats hW.stand (LeS.refl _) (by omega) ?_
    have a := rank_stays hS h W.vats h0 (W.vats.length * W.dyes + 1)
    rw [e] at a
    cases q : lostB W (W.vats.length * W.dyes + 1) W.vats with
    | false => rfl
    | true => have z := lostB_up (m := n + (W.vats.length * W.dyes + 1)) (by omega) q; rw [rank_none.mp a] at z; cases z
  · intro ⟨p, hp, hf⟩
    exact rank_none.mpr (fine_safe hp hf n _ .here)
theorem rank_bound {W : Works} (hW : OkWorks W) {n m : Nat} (h : rankTo W n W.vats = some m) : m ≤ (W.vats.length * W.dyes + 1) * W.kinds.length := by
  obtain ⟨h1, h2, h3⟩ := rank_le h
  have k : 1 ≤ W.kinds.length := List.length_pos_iff.mpr hW.k1
  have le : m ≤ W.vats.length * W.dyes + 1 := by
    rcases Nat.lt_or_ge (W.vats.length * W.dyes + 1) m with q | q
    · obtain ⟨p, hp, hf⟩ := safe_fine hW (W.vats.length * W.dyes) W.vats hW.stand (LeS.refl _) (by omega) (h3 _ q)
      rw [fine_safe hp hf m _ .here] at h2
      cases h2
    · exact q
  exact Nat.le_trans le (Nat.le_mul_of_pos_right _ k)

/-! ### all plans -/
def longer (found : List Plan) (kd : Kind) : List Plan := found.flatMap fun p => (List.range kd.routes.length).map fun n => p ++ [n]
def plans (W : Works) : List Plan := W.kinds.foldl longer [[]]
theorem paired_snoc {α β : Type} {F : α → β → Prop} : ∀ {p : List α} {ks : List β} {k : β}, Paired F p (ks ++ [k]) ↔ ∃ q n, p = q ++ [n] ∧ Paired F q ks ∧ F n k
  | [], ks, k => by
    constructor
    · intro h
      cases ks with
      | nil => cases h
      | cons _ _ => cases h
    · intro ⟨q, n, e, _⟩
      simp at e
  | x :: p, [], k => by
    constructor
    · intro h
      cases h with
      | cons h t => cases t; exact ⟨[], x, rfl, .nil, h⟩
    · intro ⟨q, n, e, h1, h2⟩
      cases h1
      simp at e
      obtain ⟨rfl, rfl⟩ := e
      exact .cons h2 .nil
  | x :: p, y :: ks, k => by
    constructor
    · intro h
      cases h with
      | cons h t =>
        obtain ⟨q, n, e, h1, h2⟩ := paired_snoc.mp t
        exact ⟨x :: q, n, by rw [e]; rfl, .cons h h1, h2⟩
    · intro ⟨q, n, e, h1, h2⟩
      cases h1 with
      | @cons a b q' _ h1 t1 =>
        rw [List.cons_append, List.cons.injEq] at e
        rw [e.1]
        exact .cons h1 (paired_snoc.mpr ⟨q', n, e.2, t1, h2⟩)
theorem mem_foldl_longer : ∀ (ks : List Kind) (done : List Kind) (acc : List Plan), (∀ p, p ∈ acc ↔ Paired (fun (n : Nat) (kd : Kind) => n < kd.routes.length) p done) →
    ∀ p, p ∈ ks.foldl longer acc ↔ Paired (fun (n : Nat) (kd : Kind) => n < kd.routes.length) p (done ++ ks)
  | [], done, acc, h, p => by rw [List.append_nil]; exact h p
  | k :: ks, done, acc, h, p => by
    rw [List.foldl_cons, show done ++ k :: ks = (done ++ [k]) ++ ks by simp]
    refine mem_foldl_longer ks (done ++ [k]) (longer acc k) (fun q => ?_) p
    rw [paired_snoc]
    unfold longer
    constructor
    · intro hq
      obtain ⟨r, hr, hq⟩ := List.mem_flatMap.mp hq
      obtain ⟨n, hn, e⟩ := List.mem_map.mp hq
      exact ⟨r, n, e.symm, (h r).mp hr, List.mem_range.mp hn⟩
    · intro ⟨r, n, e, hr, hn⟩
      exact List.mem_flatMap.mpr ⟨r, (h r).mpr hr, List.mem_map.mpr ⟨n, List.mem_range.mpr hn, e.symm⟩⟩
theorem mem_plans {W : Works} {p : Plan} : p ∈ plans W ↔ PlanOk W p := by
  have := mem_foldl_longer W.kinds [] [[]] (fun p => by
    constructor
    · intro h; rw [List.mem_singleton.mp h]; exact .nil
    · intro h; cases h; simp) p
  rwa [List.nil_append] at this
theorem length_longer : ∀ (found : List Plan) (kd : Kind), (longer found kd).length = found.length * kd.routes.length
  | [], kd => by simp [longer]
  | p :: f, kd => by
    have ih := length_longer f kd
    unfold longer at ih ⊢
    rw [List.flatMap_cons, List.length_append, ih, List.length_map, List.length_range, List.length_cons, Nat.succ_mul, Nat.add_comm]
end Dw
end

section
set_option Elab.async false
set_option linter.all false
set_option maxRecDepth 100000
namespace Dw
open PySem PySem.Spec PyProof.Rows L2
def top (i : Nat) : Stmt := PySem.Challenge.pw_dyeworks_k00_whole_law.main.body.getD i (.Pass ⟨0, 0, 0, 0⟩)
abbrev sIsNumber : Stmt := top 14
abbrev sIsLot : Stmt := top 15
abbrev sIsRoute : Stmt := top 16
abbrev sIsKind : Stmt := top 17
abbrev sNeedWorks : Stmt := top 18
abbrev sNeedStand : Stmt := top 19
abbrev sJoined : Stmt := top 20
abbrev sBehind : Stmt := top 21
abbrev sHasWants : Stmt := top 22
abbrev sIsClean : Stmt := top 23
abbrev sDyed : Stmt := top 24
abbrev sAllStands : Stmt := top 25
abbrev sIsPlan : Stmt := top 27
abbrev sNeedPlan : Stmt := top 28
abbrev sRoutesOf : Stmt := top 29
abbrev sClosed : Stmt := top 30
abbrev sIsFine : Stmt := top 31
abbrev sIsGood : Stmt := top 32
abbrev sAllPlans : Stmt := top 33
abbrev sFinePlans : Stmt := top 34
abbrev sGoodPlans : Stmt := top 35
abbrev sSomePlan : Stmt := top 36
abbrev sShowsPlan : Stmt := top 37
abbrev sNeedCome : Stmt := top 40
abbrev sLostWithin : Stmt := top 41
abbrev sLawTaken : Stmt := top 43
abbrev sLawDyes : Stmt := top 44
abbrev sLawWorks : Stmt := top 45
abbrev sLawPass : Stmt := top 46
abbrev sLawStands : Stmt := top 47
abbrev sLawPlans : Stmt := top 48
abbrev sLawGood : Stmt := top 49
abbrev sLawFine : Stmt := top 50
abbrev sLawAlike : Stmt := top 51
abbrev sLawWithin : Stmt := top 52
abbrev sLaw : Stmt := top 53
abbrev sGInit : Stmt := inClass (top 39) 0
abbrev sGAnswers : Stmt := inClass (top 39) 1
abbrev sGReckon : Stmt := inClass (top 39) 2
abbrev sGBeaten : Stmt := inClass (top 39) 3

end Dw
end

section
set_option Elab.async false
set_option linter.all false
set_option maxRecDepth 100000
set_option maxHeartbeats 1000000
namespace Dw
open PySem PySem.Spec PyProof.Rows L2
def dIsNumber : He.DefD := ⟨("is_number", none), "is_number", "is_number", defArgs sIsNumber, defBody sIsNumber, defScope sIsNumber, [], []⟩
def dIsLot : He.DefD := ⟨("is_lot", none), "is_lot", "is_lot", defArgs sIsLot, defBody sIsLot, defScope sIsLot, [], []⟩
def dIsRoute : He.DefD := ⟨("is_route", none), "is_route", "is_route", defArgs sIsRoute, defBody sIsRoute, defScope sIsRoute, [], []⟩
def dIsKind : He.DefD := ⟨("is_kind", none), "is_kind", "is_kind", defArgs sIsKind, defBody sIsKind, defScope sIsKind, [], []⟩
def dNeedWorks : He.DefD := ⟨("need_works", none), "need_works", "need_works", defArgs sNeedWorks, defBody sNeedWorks, defScope sNeedWorks, [], []⟩
def dNeedStand : He.DefD := ⟨("need_stand", none), "need_stand", "need_stand", defArgs sNeedStand, defBody sNeedStand, defScope sNeedStand, [], []⟩
def dJoined : He.DefD := ⟨("joined", none), "joined", "joined", defArgs sJoined, defBody sJoined, defScope sJoined, [], []⟩
def dBehind : He.DefD := ⟨("behind", none), "behind", "behind", defArgs sBehind, defBody sBehind, defScope sBehind, [], []⟩
def dHasWants : He.DefD := ⟨("has_wants", none), "has_wants", "has_wants", defArgs sHasWants, defBody sHasWants, defScope sHasWants, [], []⟩
def dIsClean : He.DefD := ⟨("is_clean", none), "is_clean", "is_clean", defArgs sIsClean, defBody sIsClean, defScope sIsClean, [], []⟩
def dDyed : He.DefD := ⟨("dyed", none), "dyed", "dyed", defArgs sDyed, defBody sDyed, defScope sDyed, [], []⟩
def dAllStands : He.DefD := ⟨("all_stands", none), "all_stands", "all_stands", defArgs sAllStands, defBody sAllStands, defScope sAllStands, [], []⟩
def dIsPlan : He.DefD := ⟨("is_plan", none), "is_plan", "is_plan", defArgs sIsPlan, defBody sIsPlan, defScope sIsPlan, [], []⟩
def dNeedPlan : He.DefD := ⟨("need_plan", none), "need_plan", "need_plan", defArgs sNeedPlan, defBody sNeedPlan, defScope sNeedPlan, [], []⟩
def dRoutesOf : He.DefD := ⟨("routes_of", none), "routes_of", "routes_of", defArgs sRoutesOf, defBody sRoutesOf, defScope sRoutesOf, [], []⟩
def dClosed : He.DefD := ⟨("closed", none), "closed", "closed", defArgs sClosed, defBody sClosed, defScope sClosed, [], []⟩
def dIsFine : He.DefD := ⟨("is_fine", none), "is_fine", "is_fine", defArgs sIsFine, defBody sIsFine, defScope sIsFine, [], []⟩
def dIsGood : He.DefD := ⟨("is_good", none), "is_good", "is_good", defArgs sIsGood, defBody sIsGood, defScope sIsGood, [], []⟩
def dAllPlans : He.DefD := ⟨("all_plans", none), "all_plans", "all_plans", defArgs sAllPlans, defBody sAllPlans, defScope sAllPlans, [], []⟩
def dFinePlans : He.DefD := ⟨("fine_plans", none), "fine_plans", "fine_plans", defArgs sFinePlans, defBody sFinePlans, defScope sFinePlans, [], []⟩
def dGoodPlans : He.DefD := ⟨("good_plans", none), "good_plans", "good_plans", defArgs sGoodPlans, defBody sGoodPlans, defScope sGoodPlans, [], []⟩
def dSomePlan : He.DefD := ⟨("some_plan", none), "some_plan", "some_plan", defArgs sSomePlan, defBody sSomePlan, defScope sSomePlan, [], []⟩
def dShowsPlan : He.DefD := ⟨("shows_plan", none), "shows_plan", "shows_plan", defArgs sShowsPlan, defBody sShowsPlan, defScope sShowsPlan, [], []⟩
def dNeedCome : He.DefD := ⟨("need_come", none), "need_come", "need_come", defArgs sNeedCome, defBody sNeedCome, defScope sNeedCome, [], []⟩
def dLostWithin : He.DefD := ⟨("lost_within", none), "lost_within", "lost_within", defArgs sLostWithin, defBody sLostWithin, defScope sLostWithin, [], []⟩
def dLawTaken : He.DefD := ⟨("_law_taken", none), "_law_taken", "_law_taken", defArgs sLawTaken, defBody sLawTaken, defScope sLawTaken, [], []⟩
def dLawDyes : He.DefD := ⟨("_law_dyes", none), "_law_dyes", "_law_dyes", defArgs sLawDyes, defBody sLawDyes, defScope sLawDyes, [], []⟩
def dLawWorks : He.DefD := ⟨("_law_works", none), "_law_works", "_law_works", defArgs sLawWorks, defBody sLawWorks, defScope sLawWorks, [], []⟩
def dLawPass : He.DefD := ⟨("_law_pass", none), "_law_pass", "_law_pass", defArgs sLawPass, defBody sLawPass, defScope sLawPass, [], []⟩
def dLawStands : He.DefD := ⟨("_law_stands", none), "_law_stands", "_law_stands", defArgs sLawStands, defBody sLawStands, defScope sLawStands, [], []⟩
def dLawPlans : He.DefD := ⟨("_law_plans", none), "_law_plans", "_law_plans", defArgs sLawPlans, defBody sLawPlans, defScope sLawPlans, [], []⟩
def dLawGood : He.DefD := ⟨("_law_good", none), "_law_good", "_law_good", defArgs sLawGood, defBody sLawGood, defScope sLawGood, [], []⟩
def dLawFine : He.DefD := ⟨("_law_fine", none), "_law_fine", "_law_fine", defArgs sLawFine, defBody sLawFine, defScope sLawFine, [], []⟩
def dLawAlike : He.DefD := ⟨("_law_alike", none), "_law_alike", "_law_alike", defArgs sLawAlike, defBody sLawAlike, defScope sLawAlike, [], []⟩
def dLawWithin : He.DefD := ⟨("_law_within", none), "_law_within", "_law_within", defArgs sLawWithin, defBody sLawWithin, defScope sLawWithin, [], []⟩
def dLaw : He.DefD := ⟨("law", none), "law", "law", defArgs sLaw, defBody sLaw, defScope sLaw, [], []⟩
def dGInit : He.DefD := ⟨("Game", some "__init__"), "__init__", "Game.__init__", defArgs sGInit, defBody sGInit, defScope sGInit, [], []⟩
def dGAnswers : He.DefD := ⟨("Game", some "answers"), "answers", "Game.answers", defArgs sGAnswers, defBody sGAnswers, defScope sGAnswers, [], []⟩
def dGReckon : He.DefD := ⟨("Game", some "reckon"), "reckon", "Game.reckon", defArgs sGReckon, defBody sGReckon, defScope sGReckon, [], []⟩
def dGBeaten : He.DefD := ⟨("Game", some "beaten"), "beaten", "Game.beaten", defArgs sGBeaten, defBody sGBeaten, defScope sGBeaten, [], []⟩
def fn : List He.DefD := [dIsNumber, dIsLot, dIsRoute, dIsKind, dNeedWorks, dNeedStand, dJoined, dBehind, dHasWants, dIsClean, dDyed, dAllStands, dIsPlan, dNeedPlan, dRoutesOf, dClosed, dIsFine, dIsGood, dAllPlans, dFinePlans, dGoodPlans, dSomePlan, dShowsPlan, dNeedCome, dLostWithin, dLawTaken, dLawDyes, dLawWorks, dLawPass, dLawStands] ++ [dLawPlans, dLawGood, dLawFine, dLawAlike, dLawWithin, dLaw, dGInit, dGAnswers, dGReckon, dGBeaten]
def fa : List He.Fa := [.glo "is_number", .glo "is_lot", .glo "is_route", .glo "is_kind", .glo "need_works", .glo "need_stand", .glo "joined", .glo "behind", .glo "has_wants", .glo "is_clean", .glo "dyed", .glo "all_stands", .glo "is_plan", .glo "need_plan", .glo "routes_of", .glo "closed", .glo "is_fine", .glo "is_good", .glo "all_plans", .glo "fine_plans", .glo "good_plans", .glo "some_plan", .glo "shows_plan", .glo "need_come", .glo "lost_within", .glo "_law_taken", .glo "_law_dyes", .glo "_law_works", .glo "_law_pass", .glo "_law_stands"] ++ [.glo "_law_plans", .glo "_law_good", .glo "_law_fine", .glo "_law_alike", .glo "_law_within", .glo "law", .glo "Game", .free "all", .free "any", .free "isinstance", .free "len", .free "tuple", .free "list", .free "set", .free "sorted", .free "range", .free "zip", .free "enumerate", .free "int", .free "bool", .free "str", .int "MOST_DYES" 5, .int "MOST_VATS" 5, .int "MOST_KINDS" 4, .int "MOST_ROUTES" 8, .int "MOST_LONG" 6, .int "MOST_STANDS" 5000, .cls "Game", .mkr "Game", .noat "Game" "works"] ++ [.noat "Game" "stands", .noat "Game" "ways", .noat "Game" "within", .noat "Game" "sizes", .meth "Game" "answers", .meth "Game" "reckon", .meth "Game" "beaten"]
def tf : List He.Defn := [("is_lot", none), ("is_route", none), ("is_kind", none), ("need_works", none), ("need_stand", none), ("has_wants", none), ("is_clean", none), ("is_plan", none), ("Game", some "reckon"), ("Game", some "beaten")]
def loose : List PySem.Str := (["_wall", "WorksError", "BadWorks", "BadStand", "BadPlan", "TooMany", "MOST_DYES", "MOST_VATS", "MOST_KINDS", "MOST_ROUTES", "MOST_LONG", "MOST_STANDS", "is_number", "is_lot", "is_route", "is_kind", "need_works", "need_stand", "joined", "behind", "has_wants", "is_clean", "dyed", "all_stands", "is_plan", "need_plan", "routes_of", "closed", "is_fine", "is_good"] : List PySem.Str) ++ (["all_plans", "fine_plans", "good_plans", "some_plan", "shows_plan", "Game", "need_come", "lost_within", "_law_taken", "_law_dyes", "_law_works", "_law_pass", "_law_stands", "_law_plans", "_law_good", "_law_fine", "_law_alike", "_law_within"] : List PySem.Str)


/-! ### what is known of the module -/
structure Tx (P : Program) (w : World) (K : PySem.W.Frag) (mg : Str → Option Value) (base : Heap) : Prop where
  kin : K.In base
  ns : base.Ns mainGlobals mg
  says : He.SaysD fa fn K
  hd : ∀ p ∈ tf, PySem.W.CodeHd base (He.cT K p).1 (He.cT K p).2
  bm : BMain base mg
section
variable {P : Program} {w : World} {K : PySem.W.Frag} {mg : Str → Option Value} {base : Heap}
theorem Tx.gIsNumber (T : Tx P w K mg base) : mg "is_number" = some (.ref (He.ga K "is_number")) := He.glo_ok T.kin T.ns (T.says.fact 0)
theorem Tx.gIsLot (T : Tx P w K mg base) : mg "is_lot" = some (.ref (He.ga K "is_lot")) := He.glo_ok T.kin T.ns (T.says.fact 1)
theorem Tx.gIsRoute (T : Tx P w K mg base) : mg "is_route" = some (.ref (He.ga K "is_route")) := He.glo_ok T.kin T.ns (T.says.fact 2)
theorem Tx.gIsKind (T : Tx P w K mg base) : mg "is_kind" = some (.ref (He.ga K "is_kind")) := He.glo_ok T.kin T.ns (T.says.fact 3)
theorem Tx.gNeedWorks (T : Tx P w K mg base) : mg "need_works" = some (.ref (He.ga K "need_works")) := He.glo_ok T.kin T.ns (T.says.fact 4)
theorem Tx.gNeedStand (T : Tx P w K mg base) : mg "need_stand" = some (.ref (He.ga K "need_stand")) := He.glo_ok T.kin T.ns (T.says.fact 5)
theorem Tx.gJoined (T : Tx P w K mg base) : mg "joined" = some (.ref (He.ga K "joined")) := He.glo_ok T.kin T.ns (T.says.fact 6)
theorem Tx.gBehind (T : Tx P w K mg base) : mg "behind" = some (.ref (He.ga K "behind")) := He.glo_ok T.kin T.ns (T.says.fact 7)
theorem Tx.gHasWants (T : Tx P w K mg base) : mg "has_wants" = some (.ref (He.ga K "has_wants")) := He.glo_ok T.kin T.ns (T.says.fact 8)
theorem Tx.gIsClean (T : Tx P w K mg base) : mg "is_clean" = some (.ref (He.ga K "is_clean")) := He.glo_ok T.kin T.ns (T.says.fact 9)
theorem Tx.gDyed (T : Tx P w K mg base) : mg "dyed" = some (.ref (He.ga K "dyed")) := He.glo_ok T.kin T.ns (T.says.fact 10)
theorem Tx.gAllStands (T : Tx P w K mg base) : mg "all_stands" = some (.ref (He.ga K "all_stands")) := He.glo_ok T.kin T.ns (T.says.fact 11)
theorem Tx.gIsPlan (T : Tx P w K mg base) : mg "is_plan" = some (.ref (He.ga K "is_plan")) := He.glo_ok T.kin T.ns (T.says.fact 12)
theorem Tx.gNeedPlan (T : Tx P w K mg base) : mg "need_plan" = some (.ref (He.ga K "need_plan")) := He.glo_ok T.kin T.ns (T.says.fact 13)
theorem Tx.gRoutesOf (T : Tx P w K mg base) : mg "routes_of" = some (.ref (He.ga K "routes_of")) := He.glo_ok T.kin T.ns (T.says.fact 14)
theorem Tx.gClosed (T : Tx P w K mg base) : mg "closed" = some (.ref (He.ga K "closed")) := He.glo_ok T.kin T.ns (T.says.fact 15)
theorem Tx.gIsFine (T : Tx P w K mg base) : mg "is_fine" = some (.ref (He.ga K "is_fine")) := He.glo_ok T.kin T.ns (T.says.fact 16)
theorem Tx.gIsGood (T : Tx P w K mg base) : mg "is_good" = some (.ref (He.ga K "is_good")) := He.glo_ok T.kin T.ns (T.says.fact 17)
theorem Tx.gAllPlans (T : Tx P w K mg base) : mg "all_plans" = some (.ref (He.ga K "all_plans")) := He.glo_ok T.kin T.ns (T.says.fact 18)
theorem Tx.gFinePlans (T : Tx P w K mg base) : mg "fine_plans" = some (.ref (He.ga K "fine_plans")) := He.glo_ok T.kin T.ns (T.says.fact 19)
theorem Tx.gGoodPlans (T : Tx P w K mg base) : mg "good_plans" = some (.ref (He.ga K "good_plans")) := He.glo_ok T.kin T.ns (T.says.fact 20)
theorem Tx.gSomePlan (T : Tx P w K mg base) : mg "some_plan" = some (.ref (He.ga K "some_plan")) := He.glo_ok T.kin T.ns (T.says.fact 21)
theorem Tx.gShowsPlan (T : Tx P w K mg base) : mg "shows_plan" = some (.ref (He.ga K "shows_plan")) := He.glo_ok T.kin T.ns (T.says.fact 22)
theorem Tx.gNeedCome (T : Tx P w K mg base) : mg "need_come" = some (.ref (He.ga K "need_come")) := He.glo_ok T.kin T.ns (T.says.fact 23)
theorem Tx.gLostWithin (T : Tx P w K mg base) : mg "lost_within" = some (.ref (He.ga K "lost_within")) := He.glo_ok T.kin T.ns (T.says.fact 24)
theorem Tx.gLawTaken (T : Tx P w K mg base) : mg "_law_taken" = some (.ref (He.ga K "_law_taken")) := He.glo_ok T.kin T.ns (T.says.fact 25)
theorem Tx.gLawDyes (T : Tx P w K mg base) : mg "_law_dyes" = some (.ref (He.ga K "_law_dyes")) := He.glo_ok T.kin T.ns (T.says.fact 26)
theorem Tx.gLawWorks (T : Tx P w K mg base) : mg "_law_works" = some (.ref (He.ga K "_law_works")) := He.glo_ok T.kin T.ns (T.says.fact 27)
theorem Tx.gLawPass (T : Tx P w K mg base) : mg "_law_pass" = some (.ref (He.ga K "_law_pass")) := He.glo_ok T.kin T.ns (T.says.fact 28)
theorem Tx.gLawStands (T : Tx P w K mg base) : mg "_law_stands" = some (.ref (He.ga K "_law_stands")) := He.glo_ok T.kin T.ns (T.says.fact 29)
theorem Tx.gLawPlans (T : Tx P w K mg base) : mg "_law_plans" = some (.ref (He.ga K "_law_plans")) := He.glo_ok T.kin T.ns (T.says.fact 30)
theorem Tx.gLawGood (T : Tx P w K mg base) : mg "_law_good" = some (.ref (He.ga K "_law_good")) := He.glo_ok T.kin T.ns (T.says.fact 31)
theorem Tx.gLawFine (T : Tx P w K mg base) : mg "_law_fine" = some (.ref (He.ga K "_law_fine")) := He.glo_ok T.kin T.ns (T.says.fact 32)
theorem Tx.gLawAlike (T : Tx P w K mg base) : mg "_law_alike" = some (.ref (He.ga K "_law_alike")) := He.glo_ok T.kin T.ns (T.says.fact 33)
theorem Tx.gLawWithin (T : Tx P w K mg base) : mg "_law_within" = some (.ref (He.ga K "_law_within")) := He.glo_ok T.kin T.ns (T.says.fact 34)
theorem Tx.gLaw (T : Tx P w K mg base) : mg "law" = some (.ref (He.ga K "law")) := He.glo_ok T.kin T.ns (T.says.fact 35)
theorem Tx.gGame (T : Tx P w K mg base) : mg "Game" = some (.ref (He.ga K "Game")) := He.glo_ok T.kin T.ns (T.says.fact 36)
theorem Tx.fAll (T : Tx P w K mg base) : mg "all" = none := He.free_ok T.kin T.ns (T.says.fact 37)
theorem Tx.fAny (T : Tx P w K mg base) : mg "any" = none := He.free_ok T.kin T.ns (T.says.fact 38)
theorem Tx.fIsinstance (T : Tx P w K mg base) : mg "isinstance" = none := He.free_ok T.kin T.ns (T.says.fact 39)
theorem Tx.fLen (T : Tx P w K mg base) : mg "len" = none := He.free_ok T.kin T.ns (T.says.fact 40)
theorem Tx.fTuple (T : Tx P w K mg base) : mg "tuple" = none := He.free_ok T.kin T.ns (T.says.fact 41)
theorem Tx.fList (T : Tx P w K mg base) : mg "list" = none := He.free_ok T.kin T.ns (T.says.fact 42)
theorem Tx.fSet (T : Tx P w K mg base) : mg "set" = none := He.free_ok T.kin T.ns (T.says.fact 43)
theorem Tx.fSorted (T : Tx P w K mg base) : mg "sorted" = none := He.free_ok T.kin T.ns (T.says.fact 44)
theorem Tx.fRange (T : Tx P w K mg base) : mg "range" = none := He.free_ok T.kin T.ns (T.says.fact 45)
theorem Tx.fZip (T : Tx P w K mg base) : mg "zip" = none := He.free_ok T.kin T.ns (T.says.fact 46)
theorem Tx.fEnumerate (T : Tx P w K mg base) : mg "enumerate" = none := He.free_ok T.kin T.ns (T.says.fact 47)
theorem Tx.fInt (T : Tx P w K mg base) : mg "int" = none := He.free_ok T.kin T.ns (T.says.fact 48)
theorem Tx.fBool (T : Tx P w K mg base) : mg "bool" = none := He.free_ok T.kin T.ns (T.says.fact 49)
theorem Tx.fStr (T : Tx P w K mg base) : mg "str" = none := He.free_ok T.kin T.ns (T.says.fact 50)
theorem Tx.iMostDyes (T : Tx P w K mg base) : ∃ t, mg "MOST_DYES" = some (.int 5 t) := He.int_ok T.kin T.ns (T.says.fact 51)
theorem Tx.iMostVats (T : Tx P w K mg base) : ∃ t, mg "MOST_VATS" = some (.int 5 t) := He.int_ok T.kin T.ns (T.says.fact 52)
theorem Tx.iMostKinds (T : Tx P w K mg base) : ∃ t, mg "MOST_KINDS" = some (.int 4 t) := He.int_ok T.kin T.ns (T.says.fact 53)
theorem Tx.iMostRoutes (T : Tx P w K mg base) : ∃ t, mg "MOST_ROUTES" = some (.int 8 t) := He.int_ok T.kin T.ns (T.says.fact 54)
theorem Tx.iMostLong (T : Tx P w K mg base) : ∃ t, mg "MOST_LONG" = some (.int 6 t) := He.int_ok T.kin T.ns (T.says.fact 55)
theorem Tx.iMostStands (T : Tx P w K mg base) : ∃ t, mg "MOST_STANDS" = some (.int 5000 t) := He.int_ok T.kin T.ns (T.says.fact 56)
theorem Tx.cls (T : Tx P w K mg base) : Cls K (He.ga K "Game") := He.cls_ok (T.says.fact 57)
theorem Tx.mkr (T : Tx P w K mg base) : Mk K (He.ga K "Game") (He.ma K (He.ga K "Game") "__init__") := He.mkr_ok (T.says.fact 58)
theorem Tx.nWorks (T : Tx P w K mg base) : NoAttr K (He.ga K "Game") "works" := He.noat_ok (T.says.fact 59)
theorem Tx.nStands (T : Tx P w K mg base) : NoAttr K (He.ga K "Game") "stands" := He.noat_ok (T.says.fact 60)
theorem Tx.nWays (T : Tx P w K mg base) : NoAttr K (He.ga K "Game") "ways" := He.noat_ok (T.says.fact 61)
theorem Tx.nWithin (T : Tx P w K mg base) : NoAttr K (He.ga K "Game") "within" := He.noat_ok (T.says.fact 62)
theorem Tx.nSizes (T : Tx P w K mg base) : NoAttr K (He.ga K "Game") "sizes" := He.noat_ok (T.says.fact 63)
theorem Tx.mAnswers (T : Tx P w K mg base) : Meth K (He.ga K "Game") "answers" (He.ma K (He.ga K "Game") "answers") := He.meth_ok (T.says.fact 64)
theorem Tx.mReckon (T : Tx P w K mg base) : Meth K (He.ga K "Game") "reckon" (He.ma K (He.ga K "Game") "reckon") := He.meth_ok (T.says.fact 65)
theorem Tx.mBeaten (T : Tx P w K mg base) : Meth K (He.ga K "Game") "beaten" (He.ma K (He.ga K "Game") "beaten") := He.meth_ok (T.says.fact 66)
end
end Dw
end

section
set_option Elab.async false
set_option linter.all false
set_option maxRecDepth 100000
set_option maxHeartbeats 0
namespace Dw
open PySem PySem.Spec PyProof.Rows L2
abbrev R : PySem.W.OpenRow := PySem.W.OpenLaw.row PySem.Challenge.rw_dyeworks_k00_whole_law
abbrev hk : PySem.W.Hook := He.hookX 5 fa fn [] tf (fun _ => true)
def ob (s : PySem.W.SharedT) : He.AlX := He.obsX 5 fa fn [] tf (fun _ => true) (HandSHeadRun.getT s)
theorem ob_eq (s : PySem.W.SharedT) : ob s = hk.obs s.abs := He.obsX_eq (HandSHeadRun.getT_eq s)
theorem run (w : World) : HandSHeadRun.RunEq R (PySem.W.view R.prog [53]) hk ob 20000 loose w := by
  intro os
  kernel_rfl
end Dw
end

section
set_option Elab.async false
set_option linter.all false
set_option maxRecDepth 100000
set_option maxHeartbeats 1000000
/-! the frame of the walks: defs that keep their promise, calls of them -/
namespace Dw
open PySem PySem.Spec PyProof.Rows L2

/-- a def of the module that keeps its promise -/
def Good (P : Program) (w : World) (K : PySem.W.Frag) (mg : Str → Option Value) (base : Heap) (x : Str) (k : Nat) (ps : List Str) (sp : Sp) : Prop :=
  ∃ f fd, mg x = some (.ref f) ∧ PySem.W.keepIn K (.ref f) = true ∧ Binds K fd ps [] ∧ FnOk P w K mg base CX0 k f fd ps sp
/-- a method of Game -/
def GoodM (P : Program) (w : World) (K : PySem.W.Frag) (mg : Str → Option Value) (base : Heap) (m : Str) (k : Nat) (ps : List Str) (sp : Sp) : Prop :=
  ∃ f fd, Meth K (He.ga K "Game") m f ∧ Binds K fd ps [] ∧ FnOk P w K mg base CX0 k f fd ps sp
/-- the body's context -/
abbrev bcx (P : Program) (w : World) (K : PySem.W.Frag) (mg : Str → Option Value) (base : Heap) (N : List Str) (d : He.DefD) (A : Around) (outer : List Env) (s : Shared) (H : Hp) (E : XK) : Cx :=
  (cxOf CX0 P w K mg base N d.qual d.scope (He.fAd K d.at_) (.ref (He.codeOf K d.at_)) A outer s H E).nox
section
variable {X : Cx} {k j : Nat} {ps : List Str} {sp : Sp} {x m : Str} {p pos apos : Pos} {e o : Expr} {es : List Expr} {ta : TE} {t : TA}
theorem pe_callG (g : Good X.prog X.w X.K X.mg X.base x k ps sp) (hr : Room j X.A) (hk : k ≤ j) (hg : Gl X x) (ha : PA X (e :: es) t) (hdb : (x == ("__debug__" : Str)) = false := by decide)
    (he : starEach (e :: es) X.env = (false, eval e X.env) :: starEach es X.env := by rfl) (hpl : (backTo pos (starEach es X.env)).any (·.1) = false := by rfl) :
    PE X (.Call (.Name x p) (e :: es) [] pos) (tCall sp [] E0 t) := by
  obtain ⟨f, fd, hm, kp, hb, F⟩ := g
  exact pe_call F (hr.mono hk) hg hm kp hb .nil pass0 ha hdb he hpl
theorem pe_methG (K : PySem.W.Frag) (hK : X.K = K) {pl : Sem Bool} (g : GoodM X.prog X.w X.K X.mg X.base m k ps sp) (c : Cls X.K (He.ga X.K "Game")) (he : PE X o ta) (hr : Room j X.A) (hk : k ≤ j) (ha : PA X (e :: es) t)
    (hst : starEach (e :: es) X.env = (false, eval e X.env) :: starEach es X.env := by rfl) (hpl : (backTo pos (starEach es X.env)).any (·.1) = false := by rfl)
    (ht : eval (.Call (.Attribute o m apos) (e :: es) [] pos) X.env = (do
      let ov ← eval o X.env
      standAt apos.atName
      let (f, first) ← holding [ov] (getMethod ov m pl)
      callWith pos f first (backTo pos (starEach (e :: es) X.env)) (backToKw pos (keywordEach [] X.env))) := by rfl) :
    PE X (.Call (.Attribute o m apos) (e :: es) [] pos) (tMeth (He.ga K "Game") m sp [] E0 ta t) := by
  subst hK
  obtain ⟨f, fd, hm, hb, F⟩ := g
  exact pe_meth he c hm F (hr.mono hk) hb .nil pass0 ha hst hpl ht
theorem pe_methG0 (K : PySem.W.Frag) (hK : X.K = K) {pl : Sem Bool} (g : GoodM X.prog X.w X.K X.mg X.base m k ps sp) (c : Cls X.K (He.ga X.K "Game")) (he : PE X o ta) (hr : Room j X.A) (hk : k ≤ j)
    (ht : eval (.Call (.Attribute o m apos) [] [] pos) X.env = (do
      let ov ← eval o X.env
      standAt apos.atName
      let (f, first) ← holding [ov] (getMethod ov m pl)
      callWith pos f first (backTo pos (starEach [] X.env)) (backToKw pos (keywordEach [] X.env))) := by rfl) :
    PE X (.Call (.Attribute o m apos) [] [] pos) (tMeth (He.ga K "Game") m sp [] E0 ta tNil) := by
  subst hK
  obtain ⟨f, fd, hm, hb, F⟩ := g
  exact pe_meth0 he c hm F (hr.mono hk) hb .nil pass0 ht
theorem pe_makeG (K : PySem.W.Frag) (hK : X.K = K) {C f : Addr} (g : ∃ fd, Binds X.K fd ps [] ∧ FnOk X.prog X.w X.K X.mg X.base CX0 k f fd ps sp) (M : Mk X.K C f) (hr : Room j X.A) (hk : k + 1 ≤ j) (hg : Gl X x) (hm : X.mg x = some (.ref C)) (ha : PA X (e :: es) t) (hdb : (x == ("__debug__" : Str)) = false := by decide)
    (he : starEach (e :: es) X.env = (false, eval e X.env) :: starEach es X.env := by rfl) (hpl : (backTo pos (starEach es X.env)).any (·.1) = false := by rfl) : PE X (.Call (.Name x p) (e :: es) [] pos) (tMake C sp [] E0 t) := by
  obtain ⟨fd, hb, F⟩ := g
  exact pe_make M F (hr.mono hk) hg hm hb .nil pass0 ha hdb he hpl
end
section
variable {P : Program} {w : World} {K : PySem.W.Frag} {mg : Str → Option Value} {base : Heap}
/-- the promise by the body: its code object is known -/
theorem fnok_at (d : He.DefD) {fd : FuncData} (F : FunD K d.name d.qual d.params d.body d.scope [] [] (He.fAd K d.at_) fd) {N ps : List Str} {k : Nat} {sp : Sp} (S : FnScope N ps d.scope) (len : ∀ vs H Q E, sp vs H Q E → vs.length = ps.length)
    (hbody : ∀ (A : Around) (outer : List Env) (s : Shared) (H : Hp) (vs : List V) (Q : VK) (E : XK), Room k (bcx P w K mg base N d A outer s H E).A → sp vs H Q E →
      ∃ t, PSs (bcx P w K mg base N d A outer s H E) d.body t ∧ t { nx := fun _ H' => Q .non H', rt := Q } (start N vs) H) :
    FnOk P w K mg base CX0 (k + 1) (He.fAd K d.at_) fd ps sp := by
  obtain ⟨oc, od, dV, kV, doc, pm, an, cdv, ct, osl, rfl, lk, hcd, _, _⟩ := F.ex
  obtain ⟨c, hc⟩ := He.codeIn_ref hcd
  subst hc
  have ec : He.codeOf K d.at_ = c := He.codeOf_eq lk rfl
  subst ec
  refine fn_of lk hcd S len fun A outer s H vs Q E hr hsp => ?_
  obtain ⟨t, h, q⟩ := hbody A outer s H vs Q E hr hsp
  exact ⟨t, h.nox, q⟩
theorem fund_of (T : Tx P w K mg base) (d : He.DefD) (hd : d ∈ fn) (hdf : d.dfl = []) (hkw : d.kwd = []) : ∃ fd, FunD K d.name d.qual d.params d.body d.scope [] [] (He.fAd K d.at_) fd := by
  obtain ⟨fd, F⟩ := T.says.defs hd
  have e1 : d.dvs K = [] := by unfold He.DefD.dvs; rw [hdf]; rfl
  have e2 : d.kws K = [] := by unfold He.DefD.kws; rw [hkw]; rfl
  rw [e1, e2] at F
  exact ⟨fd, F⟩
theorem fnok_mk (T : Tx P w K mg base) (d : He.DefD) (hd : d ∈ fn) (hdf : d.dfl = []) (hkw : d.kwd = []) {N ps : List Str} {k : Nat} {sp : Sp} (S : FnScope N ps d.scope) (len : ∀ vs H Q E, sp vs H Q E → vs.length = ps.length)
    (hb : ∀ (kV doc pm : Value) (an : Option Addr) (cdv ct : Value) (us : List Value), us.length = ps.length → bindArgs (PySem.W.fnOf d.name d.qual d.params d.body d.scope .none kV doc pm an cdv ct) ⟨us, []⟩ = pure (ps.zip us))
    (hbody : ∀ (A : Around) (outer : List Env) (s : Shared) (H : Hp) (vs : List V) (Q : VK) (E : XK), Room k (bcx P w K mg base N d A outer s H E).A → sp vs H Q E →
      ∃ t, PSs (bcx P w K mg base N d A outer s H E) d.body t ∧ t { nx := fun _ H' => Q .non H', rt := Q } (start N vs) H) :
    ∃ fd, PySem.W.keepIn K (.ref (He.fAd K d.at_)) = true ∧ Binds K fd ps [] ∧ FnOk P w K mg base CX0 (k + 1) (He.fAd K d.at_) fd ps sp ∧ ∀ (s : Shared) (us : List Value), us.length = ps.length → BindsTo s fd ⟨us, []⟩ (ps.zip us) := by
  obtain ⟨fd, F⟩ := fund_of T d hd hdf hkw
  exact ⟨fd, F.kp, F.bindsN hb, fnok_at d F S len hbody, fun s us hl => F.bindsA hb s us hl⟩
theorem good_mk (T : Tx P w K mg base) (d : He.DefD) (hd : d ∈ fn) {x : Str} (hx : mg x = some (.ref (He.ga K x))) (hat : d.at_ = (x, none)) (hdf : d.dfl = []) (hkw : d.kwd = []) {N ps : List Str} {k : Nat} {sp : Sp} (S : FnScope N ps d.scope) (len : ∀ vs H Q E, sp vs H Q E → vs.length = ps.length)
    (hb : ∀ (kV doc pm : Value) (an : Option Addr) (cdv ct : Value) (us : List Value), us.length = ps.length → bindArgs (PySem.W.fnOf d.name d.qual d.params d.body d.scope .none kV doc pm an cdv ct) ⟨us, []⟩ = pure (ps.zip us))
    (hbody : ∀ (A : Around) (outer : List Env) (s : Shared) (H : Hp) (vs : List V) (Q : VK) (E : XK), Room k (bcx P w K mg base N d A outer s H E).A → sp vs H Q E →
      ∃ t, PSs (bcx P w K mg base N d A outer s H E) d.body t ∧ t { nx := fun _ H' => Q .non H', rt := Q } (start N vs) H) :
    Good P w K mg base x (k + 1) ps sp := by
  obtain ⟨fd, kp, b, F, _⟩ := fnok_mk T d hd hdf hkw S len hb hbody
  have e : He.fAd K d.at_ = He.ga K x := by rw [hat]; rfl
  rw [e] at F kp
  exact ⟨_, fd, hx, kp, b, F⟩
theorem goodm_mk (T : Tx P w K mg base) (d : He.DefD) (hd : d ∈ fn) {m : Str} (hx : Meth K (He.ga K "Game") m (He.ma K (He.ga K "Game") m)) (hat : d.at_ = (("Game" : Str), some m)) (hdf : d.dfl = []) (hkw : d.kwd = []) {N ps : List Str} {k : Nat} {sp : Sp} (S : FnScope N ps d.scope) (len : ∀ vs H Q E, sp vs H Q E → vs.length = ps.length)
    (hb : ∀ (kV doc pm : Value) (an : Option Addr) (cdv ct : Value) (us : List Value), us.length = ps.length → bindArgs (PySem.W.fnOf d.name d.qual d.params d.body d.scope .none kV doc pm an cdv ct) ⟨us, []⟩ = pure (ps.zip us))
    (hbody : ∀ (A : Around) (outer : List Env) (s : Shared) (H : Hp) (vs : List V) (Q : VK) (E : XK), Room k (bcx P w K mg base N d A outer s H E).A → sp vs H Q E →
      ∃ t, PSs (bcx P w K mg base N d A outer s H E) d.body t ∧ t { nx := fun _ H' => Q .non H', rt := Q } (start N vs) H) :
    GoodM P w K mg base m (k + 1) ps sp := by
  obtain ⟨fd, kp, b, F, _⟩ := fnok_mk T d hd hdf hkw S len hb hbody
  have e : He.fAd K d.at_ = He.ma K (He.ga K "Game") m := by rw [hat]; rfl
  rw [e] at F
  exact ⟨_, fd, hx, b, F⟩
end


theorem init_mk {P : Program} {w : World} {K : PySem.W.Frag} {mg : Str → Option Value} {base : Heap} (T : Tx P w K mg base) (d : He.DefD) (hd : d ∈ fn) (hat : d.at_ = (("Game" : Str), some ("__init__" : Str))) (hdf : d.dfl = []) (hkw : d.kwd = []) {N ps : List Str} {k : Nat} {sp : Sp} (S : FnScope N ps d.scope) (len : ∀ vs H Q E, sp vs H Q E → vs.length = ps.length)
    (hb : ∀ (kV doc pm : Value) (an : Option Addr) (cdv ct : Value) (us : List Value), us.length = ps.length → bindArgs (PySem.W.fnOf d.name d.qual d.params d.body d.scope .none kV doc pm an cdv ct) ⟨us, []⟩ = pure (ps.zip us))
    (hbody : ∀ (A : Around) (outer : List Env) (s : Shared) (H : Hp) (vs : List V) (Q : VK) (E : XK), Room k (bcx P w K mg base N d A outer s H E).A → sp vs H Q E →
      ∃ t, PSs (bcx P w K mg base N d A outer s H E) d.body t ∧ t { nx := fun _ H' => Q .non H', rt := Q } (start N vs) H) :
    ∃ fd, Binds K fd ps [] ∧ FnOk P w K mg base CX0 (k + 1) (He.ma K (He.ga K "Game") "__init__") fd ps sp := by
  obtain ⟨fd, kp, b, F, _⟩ := fnok_mk T d hd hdf hkw S len hb hbody
  have e : He.fAd K d.at_ = He.ma K (He.ga K "Game") "__init__" := by rw [hat]; rfl
  rw [e] at F
  exact ⟨fd, b, F⟩
/-! ### rules that name K, P, w -/
section
variable {X : Cx}
theorem ix_tupK (K : PySem.W.Frag) (h : X.K = K) : IxR X (rIxT K) := by subst h; exact ix_tup
theorem ix_listK (K : PySem.W.Frag) (h : X.K = K) : IxR X (rIxL K) := by subst h; exact ix_list
def rLen (K : PySem.W.Frag) : List V → Hp → VK → Prop := fun xs H Q => ∃ p ys, xs = [.ref p] ∧ (SqL K H p ys ∨ SqT K H p ys) ∧ Q (.int (ys.length : Nat)) H
theorem call_lenK (K : PySem.W.Frag) (h : X.K = K) : CallR X (.builtin "len") (rLen K) := by subst h; exact call_len_seq
theorem op_in_seqK (K : PySem.W.Frag) (h : X.K = K) : OpR X (compareOp .In) (rIn K false) := by subst h; exact op_in_seq
theorem op_notIn_seqK (K : PySem.W.Frag) (h : X.K = K) : OpR X (compareOp .NotIn) (rIn K true) := by subst h; exact op_notIn_seq
theorem op_eqDK (K : PySem.W.Frag) (h : X.K = K) (hu : X.A.units + 64 < cLine) : OpR X (compareOp .Eq) (rEqD K) := by subst h; exact op_eqD hu
theorem op_neDK (K : PySem.W.Frag) (h : X.K = K) (hu : X.A.units + 64 < cLine) : OpR X (compareOp .NotEq) (rNeD K) := by subst h; exact op_neD hu
theorem op_inDK (K : PySem.W.Frag) (h : X.K = K) (hu : X.A.units + 65 < cLine) : OpR X (compareOp .In) (rInD K) := by subst h; exact op_inD hu
theorem op_notInDK (K : PySem.W.Frag) (h : X.K = K) (hu : X.A.units + 65 < cLine) : OpR X (compareOp .NotIn) (rNotInD K) := by subst h; exact op_notInD hu
theorem op_catAK (K : PySem.W.Frag) (h : X.K = K) : OpR X (binaryOp .Add) (rCatA K) := by subst h; exact op_catA
theorem sl_listK (K : PySem.W.Frag) (h : X.K = K) : SlR X (rSlL K) := by subst h; exact sl_list
theorem sl_tupAK (K : PySem.W.Frag) (h : X.K = K) : SlR X (rSlA K) := by subst h; exact sl_tupA
def rTupOf (K : PySem.W.Frag) : List V → Hp → VK → Prop := fun xs H Q => ∃ p ys, xs = [.ref p] ∧ ((SqL K H p ys ∧ ∀ l, H l = none → Q (.ref l) (upd H l (.tup ys))) ∨ (SqT K H p ys ∧ Q (.ref p) H))
theorem call_tupleK (K : PySem.W.Frag) (h : X.K = K) : CallR X (.type "tuple") (rTupOf K) := by subst h; exact call_tuple_of
def rLstOf (K : PySem.W.Frag) : List V → Hp → VK → Prop := fun xs H Q => ∃ p ys, xs = [.ref p] ∧ (SqL K H p ys ∨ SqT K H p ys) ∧ ∀ l, H l = none → Q (.ref l) (upd H l (.lst ys))
theorem call_listK (K : PySem.W.Frag) (h : X.K = K) : CallR X (.type "list") (rLstOf K) := by subst h; exact call_list_of
theorem cr_setK (K : PySem.W.Frag) (w : World) (h : X.K = K) (hw : X.w = w) (hc : X.calm = true) : CallR X (.type "set") (rSetI K w) := by subst h hw; exact cr_setI hc
theorem cr_sortedK (w : World) (hw : X.w = w) (hc : X.calm = true) : CallR X (.builtin "sorted") (rSortedSet w) := by subst hw; exact cr_sortedSet hc
theorem pi_tupK (K : PySem.W.Frag) (h : X.K = K) {tg l : Expr} {tl : TE} (hl : PE X l tl) : PI X tg l (iTup K tl) := by subst h; exact pi_tup hl
theorem pi_listK (K : PySem.W.Frag) (h : X.K = K) {tg l : Expr} {tl : TE} (hl : PE X l tl) : PI X tg l (iList K tl) := by subst h; exact pi_list hl
theorem pi_zipK (K : PySem.W.Frag) (h : X.K = K) {e e2 : Expr} {ta : TA} {p pos tpos : Pos} {elts : List Expr} {kk : Nat} (hg : Gl X "zip") (hm : X.mg "zip" = none) (ha : PA X [e, e2] ta)
    (hs : starEach [e, e2] X.env = (false, eval e X.env) :: starEach [e2] X.env := by rfl) (hpl : (backTo pos (starEach [e2] X.env)).any (·.1) = false := by rfl) : PI X (.Tuple elts kk tpos) (.Call (.Name "zip" p) [e, e2] [] pos) (RZ.iZipA K ta) := by
  subst h; exact RZ.pi_zipA hg hm ha hs hpl
theorem pi_enumK (K : PySem.W.Frag) (h : X.K = K) {e : Expr} {ta : TA} {p pos tpos : Pos} {elts : List Expr} {kk : Nat} (hg : Gl X "enumerate") (hm : X.mg "enumerate" = none) (ha : PA X [e] ta) (hs : starEach [e] X.env = [(false, eval e X.env)] := by rfl) :
    PI X (.Tuple elts kk tpos) (.Call (.Name "enumerate" p) [e] [] pos) (iEnum K ta) := by subst h; exact pi_enum hg hm ha hs
theorem pe_fldK (K : PySem.W.Frag) (h : X.K = K) {e : Expr} {f : Str} {pos : Pos} {ta : TE} (he : PE X e ta) (hb : attributeBase e f X.env (eval e X.env) = eval e X.env) : PE X (.Attribute e f pos) (tFld K ta f) := by subst h; exact pe_fld he hb
theorem pt_truthK (K : PySem.W.Frag) (h : X.K = K) {a : Expr} {ta : TE} (ha : PE X a ta) (he : ∀ whole, isTrue a X.env whole = (do let v ← whole; standAt a.pos; holding [v] (truthy v))) :
    PT X a (fun σ H Q => ta σ H fun x H' => ∃ k, TruV K x H' k ∧ Q k H') := by subst h; exact pt_truth ha he
section
variable {o i e f value : Expr} {pos pos' tpos apos cpos : Pos} {td ty tx tv : TE}
theorem pe_ngetK (P : Program) (w : World) (hP : X.prog = P) (hw : X.w = w) (hu : X.A.units + 10 < cLine) (ho : PE X o td) (hi : PE X i ty) (hs : NoSl i) : PE X (.Subscript o i pos) (tNGet td ty P w) := by subst hP hw; exact pe_nget hu ho hi hs
theorem pc_ninK (P : Program) (w : World) (hP : X.prog = P) (hw : X.w = w) (hu : X.A.units + 10 < cLine) (hi : PE X i ty) (ho : PE X o td) : PC X .In i o (tNIn ty td P w) := by subst hP hw; exact pc_nin hu hi ho
theorem pc_nnotK (P : Program) (w : World) (hP : X.prog = P) (hw : X.w = w) (hu : X.A.units + 10 < cLine) (hi : PE X i ty) (ho : PE X o td) : PC X .NotIn i o (tNNot ty td P w) := by subst hP hw; exact pc_nnot hu hi ho
theorem ps_nputK (P : Program) (w : World) (hP : X.prog = P) (hw : X.w = w) (hu : X.A.units + 10 < cLine) (ho : PE X o td) (hi : PE X i ty) (hv : PE X value tv) (hs : swapsWith value (some (.Subscript o i pos')) pos.line X.env = pure false) :
    PS X (.Assign [.Subscript o i pos'] value pos) (sNPut td ty tv P w) := by subst hP hw; exact ps_nput hu ho hi hv hs
theorem pe_nget1K (P : Program) (w : World) (hP : X.prog = P) (hw : X.w = w) (hu : X.A.units + 10 < cLine) (ho : PE X o td) (he : PE X e ty) (m : M1 X o "get" apos e cpos) : PE X (.Call (.Attribute o "get" apos) [e] [] cpos) (tNGet1 td ty P w) := by subst hP hw; exact pe_nget1 hu ho he m
theorem pe_nget2K (P : Program) (w : World) (hP : X.prog = P) (hw : X.w = w) (hu : X.A.units + 10 < cLine) (ho : PE X o td) (he : PE X e ty) (hf : PE X f tx) (m : M2 X o "get" apos e f cpos) : PE X (.Call (.Attribute o "get" apos) [e, f] [] cpos) (tNGet2 td ty tx P w) := by subst hP hw; exact pe_nget2 hu ho he hf m
theorem pe_nnewK (P : Program) (w : World) (hP : X.prog = P) (hw : X.w = w) : PE X (.Dict [] [] pos) (tNNew P w) := by subst hP hw; exact pe_nnew
theorem pe_noneK (P : Program) (w : World) (hP : X.prog = P) (hw : X.w = w) (hu : X.A.units + 10 < cLine) (he : PE X e ty) (hv : PE X value tv) : PE X (.Dict [some e] [value] pos) (tNOne ty tv P w) := by subst hP hw; exact pe_none hu he hv
theorem pe_bmK (K : PySem.W.Frag) (h : X.K = K) {es : List Expr} {to : TE} {t : TA} {name : Str} {T id : String} {r : V → List V → Hp → VK → Prop} (pa : PlainAttrs T) (slot : Slot T name id) (hty : typeOf (.builtin id) = pure (.type "method_descriptor")) (hm : MtR X id r) (ho : PE X o to) (ha : PA X (e :: es) t)
    (hbase : attributeBase o name X.env (eval o X.env) = eval o X.env := by rfl)
    (hfew : ((backTo cpos (starEach (e :: es) X.env)).all (fun x => !x.1) && (backToKw cpos (keywordEach [] X.env)).all (fun x => x.1.isSome) && decide ((e :: es).length + ([] : List Keyword).length + (if ([] : List Keyword).isEmpty then 0 else 1) < 30)) = true := by rfl)
    (hline : (apos.endLine == cpos.line) = true := by rfl) (he : starEach (e :: es) X.env = (false, eval e X.env) :: starEach es X.env := by rfl) (hpl : (backTo cpos (starEach es X.env)).any (·.1) = false := by rfl) :
    PE X (.Call (.Attribute o name apos) (e :: es) [] cpos) (tBM K T r to t) := by subst h; exact pe_bm pa slot hty hm ho ha hbase hfew hline he hpl
theorem ps_fldK (K : PySem.W.Frag) (h : X.K = K) {fl : Str} (ho : PE X o td) (hv : PE X value tv) (hs : swapsWith value (some (.Attribute o fl pos')) pos.line X.env = pure false) : PS X (.Assign [.Attribute o fl pos'] value pos) (sFld K td tv fl) := by subst h; exact ps_fld ho hv hs
end
end

/-- the tables of the code objects are good -/
def TabsOk (K : PySem.W.Frag) (H : Hp) : Prop := ∀ p ∈ tf, TabN 1 H (He.cT K p).2
theorem TabsOk.kp {K : PySem.W.Frag} {H H' : Hp} (t : TabsOk K H) (k : Kp H H') : TabsOk K H' := fun p hp => k.tab _ _ (t p hp)
section
variable {X : Cx}
/-- isinstance(x, T), T a built-in class -/
def rIsB (K : PySem.W.Frag) : List V → Hp → VK → Prop := fun xs H Q => ∃ x t T b, xs = [x, .ty T] ∧ TyX K H x (.type t) ∧ kitB t T = some b ∧ Q (.bl b) H
theorem call_isB (K : PySem.W.Frag) (hK : X.K = K) : CallR X (.builtin "isinstance") (rIsB K) := by
  subst hK
  intro pins s σ H xs us Q I r h
  obtain ⟨x, t, T, b, rfl, ty, kb, q⟩ := h
  exact call_isi pins s σ H _ us Q I r ⟨x, _, _, _, b, rfl, .ty T, ty, kit_ty kb, q⟩
theorem pe_ty {nm : Str} {T : String} {p : Pos} (hg : Gl X nm) (hm : X.mg nm = none) (hv : bootBuiltins nm = some (.type T)) (hn : nm ≠ "__name__" := by decide) (hd : (nm == ("__debug__" : Str)) = false := by decide) : PE X (.Name nm p) (tC (.ty T)) :=
  pe_bltn hg hm hv (show L2.RelV (.ty T) (.type T) from rfl) hn hd
end

theorem TabsOk.lo {K : PySem.W.Frag} {H : Hp} (t : TabsOk K H) {p : He.Defn} (hp : p ∈ tf) : TabN 0 H (He.cT K p).2 := by
  obtain ⟨ps, h1, h2, _⟩ := t p hp
  exact ⟨ps, h1, h2, fun _ _ _ => trivial⟩
theorem hu10 {k : Nat} {A : Around} (r : Room k A) : A.units + 10 < cLine := by have := r.un; omega
theorem hu65 {k : Nat} {A : Around} (r : Room k A) : A.units + 65 < cLine := by have := r.un; omega
def genScB (N ns : List Str) (sc scope : Scope) : Bool :=
  (match scope.kind with | .function => true | _ => false) && !scope.isCoroutine && decide (scope.names.lookup (".0" : Str) = some NameKind.local) && (scope.names.all fun y => decide (scope.names.lookup y.1 = some y.2)) &&
    (scope.names.all fun y => match y.2 with
      | .free => (match sc.names.lookup y.1 with | some .cell => true | some .free => true | _ => false)
      | .local => decide (y.1 ∉ N)
      | .cell => decide (y.1 ∉ N)
      | _ => true)
theorem genSc_by {N ns : List Str} {sc scope : Scope} (h : genScB N ns sc scope = true) : GenSc N ns sc scope := by
  unfold genScB at h
  simp only [Bool.and_eq_true, List.all_eq_true, decide_eq_true_eq, Bool.not_eq_true'] at h
  obtain ⟨⟨⟨⟨h1, h2⟩, h3⟩, h4⟩, h5⟩ := h
  refine ⟨?_, h2, h3, h4, fun y hy e => ?_, fun y hy e => ?_⟩
  · split at h1
    · assumption
    · cases h1
  · have q := h5 y hy
    rw [e] at q
    simp only at q
    split at q
    · rename_i z; exact .inl z
    · rename_i z; exact .inr z
    · cases q
  · have q := h5 y hy
    rcases e with e | e
    · rw [e] at q; simpa using q
    · rw [e] at q; simpa using q
theorem InfoN.kp {H H' : Hp} (k : Kp H H') : ∀ {n : Nat} {cv : Value}, InfoN n H cv → InfoN n H' cv
  | 0, _, _ => trivial
  | n + 1, _, ⟨c, P, e, hc, t⟩ => ⟨c, P, e, k.keep _ _ hc fun ps => codeH_ne ps, k.tab n P t⟩
/-- a generator expression, one clause: f tells the elements' truth -/
theorem gen_in {cd : Value} {bs : Heap} {n k : Nat} {g : TG} {te : Value → TE} {z : Bool} {σ : L2.St} {H1 : Hp} {Q : VK} {J : It} {c P : Addr} (len : Nat) (XI : Nat → V → Hp → Prop) (f : Nat → Bool) (hcode : cd = .ref c) (hcd : PySem.W.CodeHd bs c P ∨ H1 c = some (CodeH c P)) (ht : TabN n H1 P)
    (hgo : ∀ i H', i < len → Kp H1 H' → J.go i H' ∧ ∀ x H'', J.yld i H' x H'' → Kp H' H'' ∧ XI i x H'') (hstop : ∀ H', Kp H1 H' → J.stop len H')
    (turn : ∀ cv i x ys H', i < len → XI i x H' → Kp H1 H' → InfoN n H' cv → ys.length = k → ∀ C : L2.St → V → Hp → Prop, (∀ ys' H3, ys'.length = k → Kp H' H3 → C (σ ++ ys') (.bl (f i)) H3) → g x (σ ++ ys) H' fun σ2 H2 => te cv σ2 H2 fun v H3 => C σ2 v H3)
    (fin : ∀ b H', Kp H1 H' → (b = z ↔ ∀ j, j < len → f j = z) → Q (.bl b) H') :
    GenIn cd bs n k (fun cv J Qf W => GTurn J g (te cv) z Qf W) σ J H1 Q := by
  refine ⟨c, P, hcode, hcd, ht, fun cv H2 k2 info => ⟨fun i m σ' H' => i ≤ len ∧ m = len - i ∧ Kp H1 H' ∧ InfoN n H' cv ∧ (∃ ys, ys.length = k ∧ σ' = σ ++ ys) ∧ ∀ j, j < i → f j = z, len, ⟨Nat.zero_le _, rfl, k2, info, ⟨_, List.length_replicate, rfl⟩, fun j hj => by omega⟩, ?_⟩⟩
  rintro i m σ' H' ⟨hi, rfl, kp, inf, ⟨ys, hy, rfl⟩, hf⟩
  rcases Nat.lt_or_ge i len with hl | hl
  · refine .inr ⟨(hgo i H' hl kp).1, fun x H'' hyld => ?_⟩
    obtain ⟨kp2, xi⟩ := (hgo i H' hl kp).2 x H'' hyld
    refine turn cv i x ys H'' hl xi (kp.trans kp2) (inf.kp kp2) hy (fun σ2 v H3 => ∃ b, v = .bl b ∧ (b = z → ∃ m', m' < len - i ∧ (i + 1 ≤ len ∧ m' = len - (i + 1) ∧ Kp H1 H3 ∧ InfoN n H3 cv ∧ (∃ ys, ys.length = k ∧ σ2 = σ ++ ys) ∧ ∀ j, j < i + 1 → f j = z)) ∧ (b ≠ z → Q (.bl (!z)) H3)) fun ys' H3 hy' k3 => ?_
    have k13 := (kp.trans kp2).trans k3
    refine ⟨f i, rfl, fun e => ⟨_, (by omega : len - (i + 1) < len - i), hl, rfl, k13, (inf.kp kp2).kp k3, ⟨ys', hy', rfl⟩, fun j hj => ?_⟩, fun e => fin (!z) H3 k13 ⟨fun q => by (cases z <;> cases q), fun q => absurd (q i hl) e⟩⟩
    rcases Nat.lt_or_ge j i with h | h
    · exact hf j h
    · obtain rfl : j = i := by omega
      exact e
  · obtain rfl : i = len := by omega
    exact .inl ⟨hstop H' kp, fin z H' kp ⟨fun _ => hf, fun _ => rfl⟩⟩

/-- .. over a tuple -/
theorem gen_tup {K : PySem.W.Frag} {cd : Value} {bs : Heap} {n k : Nat} {g : TG} {te : Value → TE} {z : Bool} {σ : L2.St} {H1 : Hp} {Q : VK} {c P a : Addr} {xs : List V} (hT : H1 a = some (.tup xs)) (f : Nat → Bool) (hcode : cd = .ref c) (hcd : PySem.W.CodeHd bs c P ∨ H1 c = some (CodeH c P)) (ht : TabN n H1 P)
    (turn : ∀ cv i x ys H', xs[i]? = some x → Kp H1 H' → InfoN n H' cv → ys.length = k → ∀ C : L2.St → V → Hp → Prop, (∀ ys' H3, ys'.length = k → Kp H' H3 → C (σ ++ ys') (.bl (f i)) H3) → g x (σ ++ ys) H' fun σ2 H2 => te cv σ2 H2 fun v H3 => C σ2 v H3)
    (fin : ∀ b H', Kp H1 H' → (b = z ↔ ∀ j, j < xs.length → f j = z) → Q (.bl b) H') :
    GenIn cd bs n k (fun cv J Qf W => GTurn J g (te cv) z Qf W) σ (Itt K a) H1 Q := by
  refine gen_in xs.length (fun i x _ => xs[i]? = some x) f hcode hcd ht (fun i H' hi kp => ?_) (fun H' kp => ⟨xs, SqT.of (kp.tup hT), Nat.le_refl _⟩) (fun cv i x ys H' _ hx => turn cv i x ys H' hx) fin
  have h1 := kp.tup hT
  refine ⟨⟨xs, _, SqT.of h1, List.getElem?_eq_getElem hi⟩, fun x H'' hy => ?_⟩
  obtain ⟨e, q⟩ := hy
  exact ⟨by rw [e]; exact .refl _, q xs (SqT.of h1)⟩
/-- .. over a zip of two tuples -/
theorem gen_zip {K : PySem.W.Frag} {cd : Value} {bs : Heap} {n k : Nat} {g : TG} {te : Value → TE} {z : Bool} {σ : L2.St} {H1 : Hp} {Q : VK} {c P a b : Addr} {xs ys : List V} (hT : H1 a = some (.tup xs)) (hU : H1 b = some (.tup ys)) (len : Nat) (hl : len = min xs.length ys.length) (f : Nat → Bool) (hcode : cd = .ref c) (hcd : PySem.W.CodeHd bs c P ∨ H1 c = some (CodeH c P)) (ht : TabN n H1 P)
    (turn : ∀ cv i t x y zs H', xs[i]? = some x → ys[i]? = some y → H' t = some (.tup [x, y]) → Kp H1 H' → InfoN n H' cv → zs.length = k → ∀ C : L2.St → V → Hp → Prop, (∀ zs' H3, zs'.length = k → Kp H' H3 → C (σ ++ zs') (.bl (f i)) H3) → g (.ref t) (σ ++ zs) H' fun σ2 H2 => te cv σ2 H2 fun v H3 => C σ2 v H3)
    (fin : ∀ b H', Kp H1 H' → (b = z ↔ ∀ j, j < len → f j = z) → Q (.bl b) H') :
    GenIn cd bs n k (fun cv J Qf W => GTurn J g (te cv) z Qf W) σ (RZ.ItzT K a b) H1 Q := by
  refine gen_in len (fun i v H' => ∃ t x y, v = .ref t ∧ xs[i]? = some x ∧ ys[i]? = some y ∧ H' t = some (.tup [x, y])) f hcode hcd ht (fun i H' hi kp => ?_) (fun H' kp => ⟨xs, ys, SqT.of (kp.tup hT), SqT.of (kp.tup hU), by omega⟩)
    (fun cv i v zs H' _ ⟨t, x, y, e, h1, h2, h3⟩ => by rw [e]; exact turn cv i t x y zs H' h1 h2 h3) fin
  have h1 := kp.tup hT
  have h2 := kp.tup hU
  have i1 : i < xs.length := by omega
  have i2 : i < ys.length := by omega
  refine ⟨⟨xs, ys, _, _, SqT.of h1, SqT.of h2, List.getElem?_eq_getElem i1, List.getElem?_eq_getElem i2⟩, fun v H'' hy => ?_⟩
  obtain ⟨t, x, y, e, hn, eH, q1, q2⟩ := hy
  subst eH
  exact ⟨Kp.new (.refl _) hn, t, x, y, e, q1 xs (SqT.of h1), q2 ys (SqT.of h2), upd_same⟩

theorem sl_tail {K : PySem.W.Frag} {H : Hp} {a : Addr} {xs : List V} {C : VK} (hT : H a = some (.tup xs)) (h : ∀ b H', Kp H H' → H' b = some (.tup (xs.drop 1)) → C (.ref b) H') : rSlA K (.ref a) (some 1) none H C := by
  have e1 : HT.sIx xs.length 0 (some 1) = min 1 xs.length := HT.sIx_nat _ _ 1
  have e2 : HT.sIx xs.length xs.length none = xs.length := rfl
  refine ⟨a, xs, rfl, SqT.of hT, fun q => h a H (.refl _) ?_, fun q p hp => h p _ (Kp.new (.refl _) hp) ?_⟩
  · have : xs.length = 0 := by have := q.1; rw [e1] at this; omega
    have e : xs = [] := List.length_eq_zero_iff.mp this
    rw [e] at hT ⊢
    exact hT
  · rw [upd_same]
    unfold cutV
    rw [e1, e2]
    rcases Nat.lt_or_ge 0 xs.length with l | l
    · rw [show min 1 xs.length = 1 by omega, List.take_of_length_le (by rw [List.length_drop]; exact Nat.le_refl _)]
    · have e : xs = [] := List.length_eq_zero_iff.mp (by omega)
      rw [e]
      simp
theorem itT {p A B : Prop} [Decidable p] (h : p) (a : A) : if decide p = true then A else B := by rw [if_pos (decide_eq_true h)]; exact a
theorem itF {p A B : Prop} [Decidable p] (h : ¬ p) (b : B) : if decide p = true then A else B := by rw [if_neg (by rw [decide_eq_false h]; exact Bool.false_ne_true)]; exact b
theorem itNT {p A B : Prop} [Decidable p] (h : p) (b : B) : if (!decide p) = true then A else B := by rw [decide_eq_true h]; exact iteF b
theorem itNF {p A B : Prop} [Decidable p] (h : ¬ p) (a : A) : if (!decide p) = true then A else B := by rw [decide_eq_false h]; exact iteT a
theorem nums_flat (l : List Nat) : (nums l).all flatV = true := by
  unfold nums
  induction l with
  | nil => rfl
  | cons n l ih => rw [List.map_cons, List.all_cons, ih]; rfl
theorem inV_nums (n : Nat) (l : List Nat) : inV (VN n) (nums l) = decide (n ∈ l) := by
  unfold inV nums
  induction l with
  | nil => simp
  | cons m l ih =>
    rw [List.map_cons, List.any_cons, ih]
    have e : eqV (VN m) (VN n) = decide (n = m) := by
      have : eqV (VN m) (VN n) = ((m : Int) == (n : Int)) := by simp [eqV]
      rw [this]
      by_cases h : n = m
      · subst h; simp
      · rw [decide_eq_false h]; exact beq_eq_false_iff_ne.mpr (by omega)
    rw [e]
    simp [Bool.decide_or]
theorem rIn_nums {K : PySem.W.Frag} {H : Hp} {Q : VK} {n : Nat} {l : List Nat} {p : Addr} (h : SqL K H p (nums l) ∨ SqT K H p (nums l)) (q : Q (.bl (decide (n ∈ l))) H) : rIn K false (VN n) (.ref p) H Q :=
  ⟨p, nums l, rfl, h, rfl, nums_flat l, by rw [if_neg Bool.false_ne_true, inV_nums]; exact q⟩
theorem rNotIn_nums {K : PySem.W.Frag} {H : Hp} {Q : VK} {n : Nat} {l : List Nat} {p : Addr} (h : SqL K H p (nums l) ∨ SqT K H p (nums l)) (q : Q (.bl (!decide (n ∈ l))) H) : rIn K true (VN n) (.ref p) H Q :=
  ⟨p, nums l, rfl, h, rfl, nums_flat l, by rw [if_pos rfl, inV_nums]; exact q⟩
theorem tm_isLot : dIsLot.at_ ∈ tf := by simp [tf, dIsLot]
theorem tm_isRoute : dIsRoute.at_ ∈ tf := by simp [tf, dIsRoute]
theorem tm_isKind : dIsKind.at_ ∈ tf := by simp [tf, dIsKind]
theorem tm_needWorks : dNeedWorks.at_ ∈ tf := by simp [tf, dNeedWorks]
theorem tm_needStand : dNeedStand.at_ ∈ tf := by simp [tf, dNeedStand]
theorem tm_hasWants : dHasWants.at_ ∈ tf := by simp [tf, dHasWants]
theorem tm_isClean : dIsClean.at_ ∈ tf := by simp [tf, dIsClean]
theorem tm_isPlan : dIsPlan.at_ ∈ tf := by simp [tf, dIsPlan]
theorem tm_gReckon : dGReckon.at_ ∈ tf := by simp [tf, dGReckon]
theorem tm_gBeaten : dGBeaten.at_ ∈ tf := by simp [tf, dGBeaten]
section
variable {P : Program} {w : World} {K : PySem.W.Frag} {mg : Str → Option Value} {base : Heap}

/-! ### is_number -/
def spIsNumber : Sp := fun vs H Q _ => ∃ n lo hi : Int, vs = [.int n, .int lo, .int hi] ∧ lo ≤ n ∧ n ≤ hi ∧ Q (.bl true) H
theorem ok_isNumber (T : Tx P w K mg base) : Good P w K mg base "is_number" 1 ["value", "low", "high"] spIsNumber := by
  refine good_mk (N := ["value", "low", "high"]) T dIsNumber (by simp [fn]) T.gIsNumber rfl rfl rfl ⟨rfl, rfl, rfl, by decide +kernel, rfl, by decide +kernel, by decide +kernel⟩ (fun vs H Q E ⟨n, lo, hi, e, _⟩ => by rw [e]; rfl) (fun _ _ _ _ _ _ us hl => match us, hl with | [_, _, _], _ => rfl) ?_
  intro A outer s H vs Q E hr h
  obtain ⟨n, lo, hi, rfl, h1, h2, q⟩ := h
  refine ⟨_, pss_one (ps_ret (pe_and (pe_callB (call_isB K rfl) (by rfl) T.fIsinstance (by decide +kernel) (pa_cons (pv 0) (pa_cons (pe_ty (T := "int") (by rfl) T.fInt (by decide +kernel)) pa_nil)))
    (pe_and (pe_not (pe_callB (call_isB K rfl) (by rfl) T.fIsinstance (by decide +kernel) (pa_cons (pv 0) (pa_cons (pe_ty (T := "bool") (by rfl) T.fBool (by decide +kernel)) pa_nil))))
    (pe_one (pe_chain op_le op_le (pv 1) (pv 0) (pv 2)))))), ?_⟩
  refine ⟨_, rfl, _, "int", _, true, rfl, .base (.int _), by decide +kernel, true, rfl, iteT ?_⟩
  refine ⟨_, rfl, _, "int", _, false, rfl, .base (.int _), by decide +kernel, false, rfl, true, rfl, iteT ?_⟩
  refine ⟨_, rfl, _, rfl, _, _, rfl, rfl, true, congrArg V.bl (decide_eq_true h1), iteT ⟨_, rfl, _, _, rfl, rfl, ?_⟩⟩
  show Q (.bl (decide (n ≤ hi))) H
  rw [decide_eq_true h2]
  exact q
end
end Dw
end

section
set_option Elab.async false
set_option linter.all false
set_option maxRecDepth 100000
set_option maxHeartbeats 1000000
namespace Dw
open PySem PySem.Spec PyProof.Rows L2
variable {P : Program} {w : World} {K : PySem.W.Frag} {mg : Str → Option Value} {base : Heap}
theorem slot1 {σ : L2.St} {ys : L2.St} {i : Nat} {v : Option V} (h : i = σ.length) : (σ ++ v :: ys)[i]? = some v := by
  subst h
  simp
def spIsLot (K : PySem.W.Frag) : Sp := fun vs H Q _ => ∃ (v : V) (D : Nat) (l : Lot), vs = [v, VN D] ∧ LotV H v l ∧ OkLot D l ∧ TabsOk K H ∧ ∀ H', Kp H H' → Q (.bl true) H'
theorem ok_isLot (T : Tx P w K mg base) : Good P w K mg base "is_lot" 3 ["value", "many"] (spIsLot K) := by
  refine good_mk (k := 2) (N := ["value", "many"]) T dIsLot (by simp [fn]) T.gIsLot rfl rfl rfl ⟨rfl, rfl, rfl, by decide +kernel, rfl, by decide +kernel, by decide +kernel⟩ (fun vs H Q E ⟨v, D, l, e, _⟩ => by rw [e]; rfl) (fun _ _ _ _ _ _ us hl => match us, hl with | [_, _], _ => rfl) ?_
  intro A outer s H vs Q E hr h
  obtain ⟨v, D, l, rfl, ⟨a, rfl, ha⟩, hl, tb, q⟩ := h
  refine ⟨_, (pss_cons
    (ps_if (PW.pt (pw_or (pt_not (pt_val (pe_callB (call_isB K rfl) (by rfl) T.fIsinstance (by decide +kernel) (pa_cons (pv 0) (pa_cons (pe_ty (T := "tuple") (by rfl) T.fTuple (by decide +kernel)) pa_nil))))) (pw_or1 (pt_not (pt_val (pe_allG (cd := (.ref (He.codeOf K dIsLot.at_))) (base := base) (n := 0) (ns := ["part"]) "all" rfl hr (by rfl) T.fAll T.bm (genSc_by (N := ["value", "many"]) (sc := dIsLot.scope) (by decide +kernel)) rfl (pi_tupK K rfl (pv 0)) (fun cv1 _ _ _ _ _ _ _ hr1 => SegOk.one (pg_name (i := 2) (by decide +kernel : (["value", "many", "part"] : List Str).Nodup) rfl (Or.inl rfl)) (pe_callG (ok_isNumber T) hr1 (by decide) (by rfl) (pa_cons (pv 2) (pa_cons pe_int (pa_cons (pe_op op_sub (pv 1) pe_int) pa_nil))))))))))) (pss_one
    (ps_ret pe_bl)) pss_nil) (pss_one
    (ps_ret (pe_allG (cd := (.ref (He.codeOf K dIsLot.at_))) (base := base) (n := 0) (ns := ["one", "other"]) "all" rfl hr (by rfl) T.fAll T.bm (genSc_by (N := ["value", "many"]) (sc := dIsLot.scope) (by decide +kernel)) rfl (pi_zipK K rfl (by rfl) T.fZip (pa_cons (pv 0) (pa_cons (pe_slice (sl_tupAK K rfl) (pv 0) (po_some pe_int) po_none) pa_nil))) (fun cv2 _ _ _ _ _ _ _ hr2 => SegOk.one (g := gTup K 2 (gCons (gName 2) (gCons (gName 3) gNil))) (by refine pg_tup (by rfl) ?_; refine pgs_cons ?_ (pgs_cons ?_ pgs_nil); exact pg_name (i := 2) (by decide +kernel : (["value", "many", "one", "other"] : List Str).Nodup) rfl (Or.inl rfl); exact pg_name (i := 3) (by decide +kernel : (["value", "many", "one", "other"] : List Str).Nodup) rfl (Or.inl rfl)) (pe_cmpR op_lt (pv 2) (pv 3) (nomark _))))))), ?_⟩
  refine ⟨_, rfl, _, "tuple", _, true, rfl, .base (.tup ha), by decide +kernel, true, rfl, iteF ?_⟩
  refine ⟨_, rfl, a, rfl, ⟨_, SqT.of ha⟩, gen_tup ha (fun _ => true) rfl (.inl (T.hd dIsLot.at_ tm_isLot)) (tb.lo tm_isLot) (fun cv i x ys H' hx kp _ hy C hC => ?_) fun b H1 k1 hb => ?_⟩
  · obtain ⟨n, hn, rfl⟩ := nums_of hx
    have lt := hl.2 n (List.mem_of_getElem? hn)
    match ys, hy with
    | [y], _ =>
      refine ⟨_, rfl, _, rfl, _, _, rfl, rfl, ?_⟩
      exact ⟨n, 0, (D : Int) - 1, rfl, by omega, by omega, hC [some (VN n)] H' rfl (.refl _)⟩
  · obtain rfl : b = true := hb.mpr fun _ _ => rfl
    refine ⟨true, rfl, iteF ?_⟩
    refine ⟨_, rfl, _, rfl, 1, rfl, ?_⟩
    show tNoPart _ _ _
    unfold tNoPart
    refine sl_tail (k1.tup ha) fun b H2 k2 hb => ?_
    have k12 := k1.trans k2
    refine ⟨a, b, nums l, (nums l).drop 1, rfl, .inr ⟨SqT.of (k12.tup ha), SqT.of hb, gen_zip (k12.tup ha) hb _ rfl (fun _ => true) rfl (.inl (T.hd dIsLot.at_ tm_isLot)) ((tb.kp k12).lo tm_isLot) (fun cv i t x y zs H' hx hy ht kp _ hz C hC => ?_) fun b H3 k3 hb => ?_⟩⟩
    · obtain ⟨n, hn, rfl⟩ := nums_of hx
      rw [List.getElem?_drop] at hy
      obtain ⟨m, hm, rfl⟩ := nums_of hy
      have lt : n < m := by
        have := List.pairwise_iff_getElem.mp hl.1 i (1 + i) (List.getElem?_eq_some_iff.mp hn).1 (List.getElem?_eq_some_iff.mp hm).1 (by omega)
        rw [(List.getElem?_eq_some_iff.mp hn).2, (List.getElem?_eq_some_iff.mp hm).2] at this
        exact this
      match zs, hz with
      | [y1, y2], _ =>
        refine ⟨t, _, rfl, SqT.of ht, rfl, _, _, rfl, _, _, rfl, rfl, ?_⟩
        refine ⟨_, rfl, _, rfl, _, _, rfl, rfl, ?_⟩
        have e : (fun i j => V.bl (decide (i < j))) (n : Int) (m : Int) = .bl true := congrArg V.bl (decide_eq_true (by omega))
        rw [e]
        exact hC [some (VN n), some (VN m)] H' rfl (.refl _)
    · obtain rfl : b = true := hb.mpr fun _ _ => rfl
      exact q H3 (k12.trans k3)
end Dw
end

section
set_option Elab.async false
set_option linter.all false
set_option maxRecDepth 100000
set_option maxHeartbeats 1000000
namespace Dw
open PySem PySem.Spec PyProof.Rows L2
variable {P : Program} {w : World} {K : PySem.W.Frag} {mg : Str → Option Value} {base : Heap}
def spIsRoute (K : PySem.W.Frag) : Sp := fun vs H Q _ => ∃ (v : V) (D : Nat) (l : Route), vs = [v, VN D] ∧ LotV H v l ∧ (l ≠ [] ∧ l.length ≤ 3 ∧ ∀ x ∈ l, x < D) ∧ TabsOk K H ∧ ∀ H', Kp H H' → Q (.bl true) H'
theorem ok_isRoute (T : Tx P w K mg base) : Good P w K mg base "is_route" 3 ["value", "vats"] (spIsRoute K) := by
  refine good_mk (k := 2) (N := ["value", "vats"]) T dIsRoute (by simp [fn]) T.gIsRoute rfl rfl rfl ⟨rfl, rfl, rfl, by decide +kernel, rfl, by decide +kernel, by decide +kernel⟩ (fun vs H Q E ⟨v, D, l, e, _⟩ => by rw [e]; rfl) (fun _ _ _ _ _ _ us hl => match us, hl with | [_, _], _ => rfl) ?_
  intro A outer s H vs Q E hr h
  obtain ⟨v, D, l, rfl, ⟨a, rfl, ha⟩, ⟨h0, h3, hl⟩, tb, q⟩ := h
  obtain ⟨tk, hMostLong⟩ := T.iMostLong
  have l1 : 1 ≤ l.length := List.length_pos_iff.mpr h0
  refine ⟨_, (pss_cons
    (ps_if (PW.pt (pw_or (pt_not (pt_val (pe_callB (call_isB K rfl) (by rfl) T.fIsinstance (by decide +kernel) (pa_cons (pv 0) (pa_cons (pe_ty (T := "tuple") (by rfl) T.fTuple (by decide +kernel)) pa_nil))))) (pw_or1 (pt_not (pt_chain op_le op_le pe_int (pe_callB (call_lenK K rfl) (by rfl) T.fLen PySem.boot_len (pa_cons (pv 0) pa_nil)) (pe_glob (v := .int 6) (by rfl) hMostLong ⟨_, rfl⟩)))))) (pss_one
    (ps_ret pe_bl)) pss_nil) (pss_one
    (ps_ret (pe_allG (cd := (.ref (He.codeOf K dIsRoute.at_))) (base := base) (n := 0) (ns := ["vat"]) "all" rfl hr (by rfl) T.fAll T.bm (genSc_by (N := ["value", "vats"]) (sc := dIsRoute.scope) (by decide +kernel)) rfl (pi_tupK K rfl (pv 0)) (fun cv1 _ _ _ _ _ _ _ hr1 => SegOk.one (pg_name (i := 2) (by decide +kernel : (["value", "vats", "vat"] : List Str).Nodup) rfl (Or.inl rfl)) (pe_callG (ok_isNumber T) hr1 (by decide) (by rfl) (pa_cons (pv 2) (pa_cons pe_int (pa_cons (pe_op op_sub (pv 1) pe_int) pa_nil))))))))), ?_⟩
  refine ⟨_, rfl, _, "tuple", _, true, rfl, .base (.tup ha), by decide +kernel, true, rfl, iteF ?_⟩
  refine ⟨_, rfl, a, _, rfl, .inr (SqT.of ha), _, _, rfl, rfl, _, rfl, ?_⟩
  rw [nums_len]
  refine itT (by omega) ⟨_, _, rfl, rfl, _, rfl, itNT (by omega) ?_⟩
  refine ⟨_, rfl, a, rfl, ⟨_, SqT.of ha⟩, gen_tup ha (fun _ => true) rfl (.inl (T.hd dIsRoute.at_ tm_isRoute)) (tb.lo tm_isRoute) (fun cv i x ys H' hx kp _ hy C hC => ?_) fun b H1 k1 hb => ?_⟩
  · obtain ⟨n, hn, rfl⟩ := nums_of hx
    have lt := hl n (List.mem_of_getElem? hn)
    match ys, hy with
    | [y], _ =>
      refine ⟨_, rfl, _, rfl, _, _, rfl, rfl, ?_⟩
      exact ⟨n, 0, (D : Int) - 1, rfl, by omega, by omega, hC [some (VN n)] H' rfl (.refl _)⟩
  · obtain rfl : b = true := hb.mpr fun _ _ => rfl
    exact q H1 k1
def spIsKind (K : PySem.W.Frag) : Sp := fun vs H Q _ => ∃ (v : V) (D V : Nat) (kd : Kind), vs = [v, VN D, VN V] ∧ KindV H v kd ∧ OkKind V D kd ∧ TabsOk K H ∧ ∀ H', Kp H H' → Q (.bl true) H'
theorem ok_isKind (T : Tx P w K mg base) : Good P w K mg base "is_kind" 5 ["value", "dyes", "vats"] (spIsKind K) := by
  refine good_mk (k := 4) (N := ["value", "dyes", "vats", "routes"]) T dIsKind (by simp [fn]) T.gIsKind rfl rfl rfl ⟨rfl, rfl, rfl, by decide +kernel, rfl, by decide +kernel, by decide +kernel⟩ (fun vs H Q E ⟨v, D, V, l, e, _⟩ => by rw [e]; rfl) (fun _ _ _ _ _ _ us hl => match us, hl with | [_, _, _], _ => rfl) ?_
  intro A outer s H vs Q E hr h
  obtain ⟨v, D, V, kd, rfl, ⟨a, vw, vb, vr, rfl, ha, hw, hb, ⟨ar, vs, rfl, har, hrs⟩⟩, ok, tb, q⟩ := h
  obtain ⟨tk, hMostRoutes⟩ := T.iMostRoutes
  have l1 : 1 ≤ kd.routes.length := List.length_pos_iff.mpr ok.r0
  have l4 := ok.r4
  have lr := Paired.length hrs
  refine ⟨_, (pss_cons
    (ps_if (PW.pt (pw_or (pt_not (pt_val (pe_callB (call_isB K rfl) (by rfl) T.fIsinstance (by decide +kernel) (pa_cons (pv 0) (pa_cons (pe_ty (T := "tuple") (by rfl) T.fTuple (by decide +kernel)) pa_nil))))) (pw_or (pt_cmpR op_ne (pe_callB (call_lenK K rfl) (by rfl) T.fLen PySem.boot_len (pa_cons (pv 0) pa_nil)) pe_int (nomark _)) (pw_or (pt_not (pt_val (pe_callG (ok_isLot T) hr (by decide) (by rfl) (pa_cons (pe_ix (ix_tupK K rfl) (pv 0) pe_int (fun _ _ => rfl)) (pa_cons (pv 1) pa_nil))))) (pw_or1 (pt_not (pt_val (pe_callG (ok_isLot T) hr (by decide) (by rfl) (pa_cons (pe_ix (ix_tupK K rfl) (pv 0) pe_int (fun _ _ => rfl)) (pa_cons (pv 1) pa_nil)))))))))) (pss_one
    (ps_ret pe_bl)) pss_nil) (pss_cons
    (ps_set (i := 3) (by decide +kernel : (["value", "dyes", "vats", "routes"] : List Str).Nodup) rfl (Or.inl rfl) (pe_ix (ix_tupK K rfl) (pv 0) pe_int (fun _ _ => rfl))) (pss_cons
    (ps_if (PW.pt (pw_or (pt_not (pt_val (pe_callB (call_isB K rfl) (by rfl) T.fIsinstance (by decide +kernel) (pa_cons (pv 3) (pa_cons (pe_ty (T := "tuple") (by rfl) T.fTuple (by decide +kernel)) pa_nil))))) (pw_or1 (pt_not (pt_chain op_le op_le pe_int (pe_callB (call_lenK K rfl) (by rfl) T.fLen PySem.boot_len (pa_cons (pv 3) pa_nil)) (pe_glob (v := .int 8) (by rfl) hMostRoutes ⟨_, rfl⟩)))))) (pss_one
    (ps_ret pe_bl)) pss_nil) (pss_one
    (ps_ret (pe_allG (cd := (.ref (He.codeOf K dIsKind.at_))) (base := base) (n := 0) (ns := ["route"]) "all" rfl hr (by rfl) T.fAll T.bm (genSc_by (N := ["value", "dyes", "vats", "routes"]) (sc := dIsKind.scope) (by decide +kernel)) rfl (pi_tupK K rfl (pv 3)) (fun cv1 _ _ _ _ _ _ _ hr1 => SegOk.one (pg_name (i := 4) (by decide +kernel : (["value", "dyes", "vats", "routes", "route"] : List Str).Nodup) rfl (Or.inl rfl)) (pe_callG (ok_isRoute T) hr1 (by decide) (by rfl) (pa_cons (pv 4) (pa_cons (pv 2) pa_nil)))))))))), ?_⟩
  refine ⟨_, rfl, _, "tuple", _, true, rfl, .base (.tup ha), by decide +kernel, true, rfl, iteF ?_⟩
  refine ⟨_, rfl, a, _, rfl, .inr (SqT.of ha), rfl, _, rfl, itNT rfl ?_⟩
  refine ⟨_, rfl, a, _, _, _, rfl, rfl, SqT.of ha, rfl, _, rfl, vw, D, _, rfl, hw, ok.wants, tb, fun H1 k1 => ?_⟩
  refine ⟨true, rfl, iteF ⟨_, rfl, a, _, _, _, rfl, rfl, SqT.of (k1.tup ha), rfl, _, rfl, vb, D, _, rfl, hb.mono k1.ti, ok.bars, tb.kp k1, fun H2 k2 => ?_⟩⟩
  have k12 := k1.trans k2
  refine ⟨true, rfl, iteF ⟨_, rfl, a, _, _, _, rfl, rfl, SqT.of (k12.tup ha), rfl, ?_⟩⟩
  refine ⟨_, rfl, _, "tuple", _, true, rfl, .base (.tup (k12.tup har)), by decide +kernel, true, rfl, iteF ?_⟩
  refine ⟨_, rfl, ar, _, rfl, .inr (SqT.of (k12.tup har)), _, _, rfl, rfl, _, rfl, ?_⟩
  refine itT (by omega) ⟨_, _, rfl, rfl, _, rfl, itNT (by omega) ?_⟩
  refine ⟨_, rfl, ar, rfl, ⟨_, SqT.of (k12.tup har)⟩, gen_tup (k12.tup har) (fun _ => true) rfl (.inl (T.hd dIsKind.at_ tm_isKind)) ((tb.kp k12).lo tm_isKind) (fun cv i x ys H' hx kp _ hy C hC => ?_) fun b H1 k1 hb => ?_⟩
  · obtain ⟨r, hr, hR⟩ := Paired.at1 hrs hx
    match ys, hy with
    | [y], _ =>
      refine ⟨_, rfl, _, rfl, x, V, r, rfl, hR.mono (k12.trans kp).ti, ok.route r (List.mem_of_getElem? hr), tb.kp (k12.trans kp), fun H3 k3 => ?_⟩
      exact hC [some x] H3 rfl k3
  · obtain rfl : b = true := hb.mpr fun _ _ => rfl
    exact q _ (k12.trans k1)
end Dw
end

section
set_option Elab.async false
set_option linter.all false
set_option maxRecDepth 100000
set_option maxHeartbeats 1000000
namespace Dw
open PySem PySem.Spec PyProof.Rows L2
variable {P : Program} {w : World} {K : PySem.W.Frag} {mg : Str → Option Value} {base : Heap}
def spNeedWorks (K : PySem.W.Frag) : Sp := fun vs H Q _ => ∃ (v : V) (W : Works), vs = [v] ∧ WorksV H v W ∧ OkWorks W ∧ TabsOk K H ∧ ∀ H', Kp H H' → Q .non H'
theorem ok_needWorks (T : Tx P w K mg base) : Good P w K mg base "need_works" 7 ["value"] (spNeedWorks K) := by
  refine good_mk (k := 6) (N := ["value", "dyes", "vats", "kinds"]) T dNeedWorks (by simp [fn]) T.gNeedWorks rfl rfl rfl ⟨rfl, rfl, rfl, by decide +kernel, rfl, by decide +kernel, by decide +kernel⟩ (fun vs H Q E ⟨v, W, e, _⟩ => by rw [e]; rfl) (fun _ _ _ _ _ _ us hl => match us, hl with | [_], _ => rfl) ?_
  intro A outer s H vs Q E hr h
  obtain ⟨v, W, rfl, ⟨a, vv, vk, rfl, ha, ⟨av, vvs, rfl, hav, hvs⟩, ⟨ak, ks, rfl, hak, hks⟩⟩, ok, tb, q⟩ := h
  obtain ⟨t1, hMostDyes⟩ := T.iMostDyes
  obtain ⟨t2, hMostVats⟩ := T.iMostVats
  obtain ⟨t3, hMostKinds⟩ := T.iMostKinds
  have e1 := ok.d1
  have e2 := ok.d4
  have e3 := List.length_pos_iff.mpr ok.v1
  have e4 := ok.v4
  have e5 := List.length_pos_iff.mpr ok.k1
  have e6 := ok.k3
  have lv := Paired.length hvs
  have lk := Paired.length hks
  refine ⟨_, (pss_cons
    (ps_if (PW.pt (pw_or (pt_not (pt_val (pe_callB (call_isB K rfl) (by rfl) T.fIsinstance (by decide +kernel) (pa_cons (pv 0) (pa_cons (pe_ty (T := "tuple") (by rfl) T.fTuple (by decide +kernel)) pa_nil))))) (pw_or1 (pt_cmpR op_ne (pe_callB (call_lenK K rfl) (by rfl) T.fLen PySem.boot_len (pa_cons (pv 0) pa_nil)) pe_int (nomark _))))) (pss_one
    ps_never) pss_nil) (pss_cons
    (ps_asg (g := gTup K 3 (gCons (gName 1) (gCons (gName 2) (gCons (gName 3) gNil)))) (pv 0) (by refine pg_tup (by rfl) ?_; refine pgs_cons ?_ (pgs_cons ?_ (pgs_cons ?_ pgs_nil)); exact pg_name (i := 1) (by decide +kernel : (["value", "dyes", "vats", "kinds"] : List Str).Nodup) rfl (Or.inr rfl); exact pg_name (i := 2) (by decide +kernel : (["value", "dyes", "vats", "kinds"] : List Str).Nodup) rfl (Or.inr rfl); exact pg_name (i := 3) (by decide +kernel : (["value", "dyes", "vats", "kinds"] : List Str).Nodup) rfl (Or.inl rfl))) (pss_cons
    (ps_if (pt_not (pt_val (pe_callG (ok_isNumber T) hr (by decide) (by rfl) (pa_cons (pv 1) (pa_cons pe_int (pa_cons (pe_glob (v := .int 5) (by rfl) hMostDyes ⟨_, rfl⟩) pa_nil)))))) (pss_one
    ps_never) pss_nil) (pss_cons
    (ps_if (PW.pt (pw_or (pt_not (pt_val (pe_callB (call_isB K rfl) (by rfl) T.fIsinstance (by decide +kernel) (pa_cons (pv 2) (pa_cons (pe_ty (T := "tuple") (by rfl) T.fTuple (by decide +kernel)) pa_nil))))) (pw_or (pt_not (pt_chain op_le op_le pe_int (pe_callB (call_lenK K rfl) (by rfl) T.fLen PySem.boot_len (pa_cons (pv 2) pa_nil)) (pe_glob (v := .int 5) (by rfl) hMostVats ⟨_, rfl⟩))) (pw_or1 (pt_not (pt_val (pe_allG (cd := (.ref (He.codeOf K dNeedWorks.at_))) (base := base) (n := 0) (ns := ["own"]) "all" rfl hr (by rfl) T.fAll T.bm (genSc_by (N := ["value", "dyes", "vats", "kinds"]) (sc := dNeedWorks.scope) (by decide +kernel)) rfl (pi_tupK K rfl (pv 2)) (fun cv1 _ _ _ _ _ _ _ hr1 => SegOk.one (pg_name (i := 4) (by decide +kernel : (["value", "dyes", "vats", "kinds", "own"] : List Str).Nodup) rfl (Or.inl rfl)) (pe_callG (ok_isLot T) hr1 (by decide) (by rfl) (pa_cons (pv 4) (pa_cons (pv 1) pa_nil))))))))))) (pss_one
    ps_never) pss_nil) (pss_cons
    (ps_if (PW.pt (pw_or (pt_not (pt_val (pe_callB (call_isB K rfl) (by rfl) T.fIsinstance (by decide +kernel) (pa_cons (pv 3) (pa_cons (pe_ty (T := "tuple") (by rfl) T.fTuple (by decide +kernel)) pa_nil))))) (pw_or1 (pt_not (pt_chain op_le op_le pe_int (pe_callB (call_lenK K rfl) (by rfl) T.fLen PySem.boot_len (pa_cons (pv 3) pa_nil)) (pe_glob (v := .int 4) (by rfl) hMostKinds ⟨_, rfl⟩)))))) (pss_one
    ps_never) pss_nil) (pss_one
    (ps_if (pt_not (pt_val (pe_allG (cd := (.ref (He.codeOf K dNeedWorks.at_))) (base := base) (n := 0) (ns := ["kind"]) "all" rfl hr (by rfl) T.fAll T.bm (genSc_by (N := ["value", "dyes", "vats", "kinds"]) (sc := dNeedWorks.scope) (by decide +kernel)) rfl (pi_tupK K rfl (pv 3)) (fun cv2 _ _ _ _ _ _ _ hr2 => SegOk.one (pg_name (i := 4) (by decide +kernel : (["value", "dyes", "vats", "kinds", "kind"] : List Str).Nodup) rfl (Or.inl rfl)) (pe_callG (ok_isKind T) hr2 (by decide) (by rfl) (pa_cons (pv 4) (pa_cons (pv 1) (pa_cons (pe_callB (call_lenK K rfl) (by rfl) T.fLen PySem.boot_len (pa_cons (pv 2) pa_nil)) pa_nil)))))))) (pss_one
    ps_never) pss_nil))))))), ?_⟩
  refine ⟨_, rfl, _, "tuple", _, true, rfl, .base (.tup ha), by decide +kernel, true, rfl, iteF ?_⟩
  refine ⟨_, rfl, a, _, rfl, .inr (SqT.of ha), rfl, _, rfl, itNT rfl ?_⟩
  refine ⟨_, rfl, a, _, rfl, SqT.of ha, rfl, _, _, rfl, _, _, rfl, _, _, rfl, rfl, ?_⟩
  refine ⟨_, rfl, (W.dyes : Int), 1, 5, rfl, by omega, by omega, true, rfl, iteF ?_⟩
  refine ⟨_, rfl, _, "tuple", _, true, rfl, .base (.tup hav), by decide +kernel, true, rfl, iteF ?_⟩
  refine ⟨_, rfl, av, _, rfl, .inr (SqT.of hav), _, _, rfl, rfl, _, rfl, itT (by omega) ⟨_, _, rfl, rfl, _, rfl, itNT (by omega) ?_⟩⟩
  refine ⟨_, rfl, av, rfl, ⟨_, SqT.of hav⟩, gen_tup hav (fun _ => true) rfl (.inl (T.hd dNeedWorks.at_ tm_needWorks)) (tb.lo tm_needWorks) (fun cv i x ys H' hx kp _ hy C hC => ?_) fun b H1 k1 hb => ?_⟩
  · obtain ⟨l, hl, hR⟩ := Paired.at1 hvs hx
    match ys, hy with
    | [y], _ =>
      refine ⟨_, rfl, _, rfl, x, W.dyes, l, rfl, hR.mono kp.ti, ok.lots l (List.mem_of_getElem? hl), tb.kp kp, fun H3 k3 => hC [some x] H3 rfl k3⟩
  obtain rfl : b = true := hb.mpr fun _ _ => rfl
  refine ⟨true, rfl, iteF ?_⟩
  refine ⟨_, rfl, _, "tuple", _, true, rfl, .base (.tup (k1.tup hak)), by decide +kernel, true, rfl, iteF ?_⟩
  refine ⟨_, rfl, ak, _, rfl, .inr (SqT.of (k1.tup hak)), _, _, rfl, rfl, _, rfl, itT (by omega) ⟨_, _, rfl, rfl, _, rfl, itNT (by omega) ?_⟩⟩
  refine ⟨_, rfl, ak, rfl, ⟨_, SqT.of (k1.tup hak)⟩, gen_tup (k1.tup hak) (fun _ => true) rfl (.inl (T.hd dNeedWorks.at_ tm_needWorks)) ((tb.kp k1).lo tm_needWorks) (fun cv i x ys H' hx kp _ hy C hC => ?_) fun b H2 k2 hb => ?_⟩
  · obtain ⟨kd, hk, hR⟩ := Paired.at1 hks hx
    have k := k1.trans kp
    match ys, hy with
    | [y], _ =>
      refine ⟨_, rfl, _, rfl, _, rfl, av, _, rfl, .inr (SqT.of (k.tup hav)), x, W.dyes, W.vats.length, kd, by rw [lv]; rfl, hR.mono k.ti, ok.kind kd (List.mem_of_getElem? hk), tb.kp k, fun H3 k3 => hC [some x] H3 rfl k3⟩
  obtain rfl : b = true := hb.mpr fun _ _ => rfl
  refine ⟨true, rfl, iteF ?_⟩
  exact q H2 (k1.trans k2)

def spNeedStand (K : PySem.W.Frag) : Sp := fun vs H Q _ => ∃ (v u : V) (W : Works), vs = [v, u] ∧ WorksV H v W ∧ StandV H u W.vats ∧ OkWorks W ∧ TabsOk K H ∧ ∀ H', Kp H H' → Q .non H'
theorem ok_needStand (T : Tx P w K mg base) : Good P w K mg base "need_stand" 5 ["works", "value"] (spNeedStand K) := by
  refine good_mk (k := 4) (N := ["works", "value", "dyes", "vats", "_"]) T dNeedStand (by simp [fn]) T.gNeedStand rfl rfl rfl ⟨rfl, rfl, rfl, by decide +kernel, rfl, by decide +kernel, by decide +kernel⟩ (fun vs H Q E ⟨v, u, W, e, _⟩ => by rw [e]; rfl) (fun _ _ _ _ _ _ us hl => match us, hl with | [_, _], _ => rfl) ?_
  intro A outer s H vs Q E hr h
  obtain ⟨v, u, W, rfl, ⟨a, vv, vk, rfl, ha, ⟨av, vvs, rfl, hav, hvs⟩, ⟨ak, ks, rfl, hak, hks⟩⟩, ⟨au, us, rfl, hau, hus⟩, ok, tb, q⟩ := h
  have lv := Paired.length hvs
  have lu := Paired.length hus
  refine ⟨_, (pss_cons
    (ps_asg (g := gTup K 3 (gCons (gName 2) (gCons (gName 3) (gCons (gName 4) gNil)))) (pv 0) (by refine pg_tup (by rfl) ?_; refine pgs_cons ?_ (pgs_cons ?_ (pgs_cons ?_ pgs_nil)); exact pg_name (i := 2) (by decide +kernel : (["works", "value", "dyes", "vats", "_"] : List Str).Nodup) rfl (Or.inr rfl); exact pg_name (i := 3) (by decide +kernel : (["works", "value", "dyes", "vats", "_"] : List Str).Nodup) rfl (Or.inl rfl); exact pg_name (i := 4) (by decide +kernel : (["works", "value", "dyes", "vats", "_"] : List Str).Nodup) rfl (Or.inl rfl))) (pss_cons
    (ps_if (PW.pt (pw_or (pt_not (pt_val (pe_callB (call_isB K rfl) (by rfl) T.fIsinstance (by decide +kernel) (pa_cons (pv 1) (pa_cons (pe_ty (T := "tuple") (by rfl) T.fTuple (by decide +kernel)) pa_nil))))) (pw_or (pt_cmpR op_ne (pe_callB (call_lenK K rfl) (by rfl) T.fLen PySem.boot_len (pa_cons (pv 1) pa_nil)) (pe_callB (call_lenK K rfl) (by rfl) T.fLen PySem.boot_len (pa_cons (pv 3) pa_nil)) (nomark _)) (pw_or1 (pt_not (pt_val (pe_allG (cd := (.ref (He.codeOf K dNeedStand.at_))) (base := base) (n := 0) (ns := ["traces"]) "all" rfl hr (by rfl) T.fAll T.bm (genSc_by (N := ["works", "value", "dyes", "vats", "_"]) (sc := dNeedStand.scope) (by decide +kernel)) rfl (pi_tupK K rfl (pv 1)) (fun cv1 _ _ _ _ _ _ _ hr1 => SegOk.one (pg_name (i := 5) (by decide +kernel : (["works", "value", "dyes", "vats", "_", "traces"] : List Str).Nodup) rfl (Or.inl rfl)) (pe_callG (ok_isLot T) hr1 (by decide) (by rfl) (pa_cons (pv 5) (pa_cons (pv 2) pa_nil))))))))))) (pss_one
    ps_never) pss_nil) (pss_one
    (ps_if (pt_not (pt_val (pe_allG (cd := (.ref (He.codeOf K dNeedStand.at_))) (base := base) (n := 0) (ns := ["own", "traces", "dye"]) "all" rfl hr (by rfl) T.fAll T.bm (genSc_by (N := ["works", "value", "dyes", "vats", "_"]) (sc := dNeedStand.scope) (by decide +kernel)) rfl (pi_zipK K rfl (by rfl) T.fZip (pa_cons (pv 3) (pa_cons (pv 1) pa_nil))) (fun cv2 _ _ _ _ _ _ _ hr2 => SegOk.two (g := gTup K 2 (gCons (gName 5) (gCons (gName 6) gNil))) (by refine pg_tup (by rfl) ?_; refine pgs_cons ?_ (pgs_cons ?_ pgs_nil); exact pg_name (i := 5) (by decide +kernel : (["works", "value", "dyes", "vats", "_", "own", "traces", "dye"] : List Str).Nodup) rfl (Or.inl rfl); exact pg_name (i := 6) (by decide +kernel : (["works", "value", "dyes", "vats", "_", "own", "traces", "dye"] : List Str).Nodup) rfl (Or.inl rfl)) (pi_tupK K rfl (pv 5)) (pg_name (i := 7) (by decide +kernel : (["works", "value", "dyes", "vats", "_", "own", "traces", "dye"] : List Str).Nodup) rfl (Or.inl rfl)) (pe_cmpR (op_in_seqK K rfl) (pv 7) (pv 6) (by rfl)))))) (pss_one
    ps_never) pss_nil)))), ?_⟩
  refine ⟨_, rfl, a, _, rfl, SqT.of ha, rfl, _, _, rfl, _, _, rfl, _, _, rfl, rfl, ?_⟩
  refine ⟨_, rfl, _, "tuple", _, true, rfl, .base (.tup hau), by decide +kernel, true, rfl, iteF ?_⟩
  refine ⟨_, rfl, au, _, rfl, .inr (SqT.of hau), _, rfl, av, _, rfl, .inr (SqT.of hav), rfl, _, rfl, itNT (by rw [lu, lv]) ?_⟩
  refine ⟨_, rfl, au, rfl, ⟨_, SqT.of hau⟩, gen_tup hau (fun _ => true) rfl (.inl (T.hd dNeedStand.at_ tm_needStand)) (tb.lo tm_needStand) (fun cv i x ys H' hx kp _ hy C hC => ?_) fun b H1 k1 hb => ?_⟩
  · obtain ⟨l, hl, hR⟩ := Paired.at1 hus hx
    match ys, hy with
    | [y], _ =>
      refine ⟨_, rfl, _, rfl, x, W.dyes, l, rfl, hR.mono kp.ti, ok.lots l (List.mem_of_getElem? hl), tb.kp kp, fun H3 k3 => hC [some x] H3 rfl k3⟩
  obtain rfl : b = true := hb.mpr fun _ _ => rfl
  refine ⟨true, rfl, iteF ?_⟩
  refine ⟨_, rfl, _, rfl, av, au, vvs, us, rfl, .inr ⟨SqT.of (k1.tup hav), SqT.of (k1.tup hau), ?_⟩⟩
  have hl : ∀ i x y, vvs[i]? = some x → us[i]? = some y → ∃ l, LotV H x l ∧ LotV H y l := fun i x y hx hy => by
    obtain ⟨l, h1, h2⟩ := Paired.at1 hvs hx
    obtain ⟨m, h3, h4⟩ := Paired.at1 hus hy
    rw [h1] at h3
    cases h3
    exact ⟨l, h2, h4⟩
  refine ⟨_, _, rfl, .inl (T.hd dNeedStand.at_ tm_needStand), (tb.kp k1).lo tm_needStand, fun cv H2 k2 _ => ⟨fun i m σ' H' => i ≤ us.length ∧ m = 100 * (us.length - i) ∧ Kp H1 H' ∧ (∃ y1 y2 y3, σ' = [some (.ref a), some (.ref au), some (VN W.dyes), some (.ref av), some (.ref ak)] ++ [y1, y2, y3]), _, ⟨Nat.zero_le _, rfl, k2, none, none, none, rfl⟩, ?_⟩⟩
  rintro i m σ' H' ⟨hi, rfl, kp, y1, y2, y3, rfl⟩
  have hav' := (k1.trans kp).tup hav
  have hau' := (k1.trans kp).tup hau
  rcases Nat.lt_or_ge i us.length with hlt | hge
  · refine .inr ⟨⟨vvs, us, _, _, SqT.of hav', SqT.of hau', List.getElem?_eq_getElem (by omega), List.getElem?_eq_getElem hlt⟩, fun v H3 hy => ?_⟩
    obtain ⟨t, x, y, rfl, hn, rfl, q1, q2⟩ := hy
    have kn : Kp H' (upd H' t (.tup [x, y])) := Kp.new (.refl _) hn
    have k3 := (k1.trans kp).trans kn
    obtain ⟨l, hx, hy⟩ := hl i x y (q1 _ (SqT.of hav')) (q2 _ (SqT.of hau'))
    have ll : l.length ≤ 4 := by
      obtain ⟨m, h3, h4⟩ := Paired.at1 hus (q2 _ (SqT.of hau'))
      have : l = m := by
        obtain ⟨c, e1, e2⟩ := hy
        obtain ⟨d, e3, e4⟩ := h4
        rw [e1] at e3
        cases e3
        rw [e2] at e4
        have e5 : nums l = nums m := by
          have := Option.some.inj e4
          injection this
        exact nums_inj e5
      subst this
      have := okLot_len (ok.lots l (List.mem_of_getElem? h3))
      have := ok.d4
      omega
    obtain ⟨c, rfl, hc⟩ := hx.mono k3.ti
    obtain ⟨d, rfl, hd⟩ := hy.mono k3.ti
    refine ⟨t, _, rfl, SqT.of upd_same, rfl, _, _, rfl, _, _, rfl, rfl, ?_⟩
    refine ⟨_, rfl, c, rfl, ⟨_, SqT.of hc⟩, fun j m σ' H4 => j ≤ l.length ∧ m = 100 * (us.length - i) - 1 - j ∧ Kp (upd H' t (.tup [.ref c, .ref d])) H4 ∧ ∃ y3, σ' = [some (.ref a), some (.ref au), some (VN W.dyes), some (.ref av), some (.ref ak)] ++ [some (.ref c), some (.ref d), y3], _, by omega, ⟨Nat.zero_le _, rfl, .refl _, y3, rfl⟩, ?_⟩
    rintro j m σ' H4 ⟨hj, rfl, k4, z, rfl⟩
    have hc' := k4.tup hc
    have hd' := k4.tup hd
    rcases Nat.lt_or_ge j l.length with hl2 | hg2
    · refine .inr ⟨⟨_, _, SqT.of hc', List.getElem?_eq_getElem (by rw [nums_len]; exact hl2)⟩, fun y H5 hy => ?_⟩
      obtain ⟨e5, hy⟩ := hy
      subst e5
      obtain ⟨n, hn, rfl⟩ := nums_of (hy _ (SqT.of hc'))
      refine ⟨_, rfl, _, rfl, rIn_nums (.inr (SqT.of hd')) ?_⟩
      rw [decide_eq_true (List.mem_of_getElem? hn)]
      refine ⟨true, rfl, fun _ => ⟨_, ?_, hl2, rfl, k4, some (VN n), rfl⟩, fun z => absurd rfl z⟩
      omega
    · refine .inl ⟨⟨_, SqT.of hc', by rw [nums_len]; exact hg2⟩, 100 * (us.length - (i + 1)), by omega, by omega, rfl, (kp.trans kn).trans k4, some (.ref c), some (.ref d), z, rfl⟩
  · obtain rfl : i = us.length := by omega
    refine .inl ⟨⟨vvs, us, SqT.of hav', SqT.of hau', .inr (Nat.le_refl _)⟩, true, rfl, iteF ?_⟩
    exact q _ (k1.trans kp)
end Dw
end

section
set_option Elab.async false
set_option linter.all false
set_option maxRecDepth 100000
set_option maxHeartbeats 1000000
namespace Dw
open PySem PySem.Spec PyProof.Rows L2
variable {P : Program} {w : World} {K : PySem.W.Frag} {mg : Str → Option Value} {base : Heap}
theorem sorted_uni {ns : List Int} {l : List Nat} (h1 : ns.Pairwise (· < ·)) (h2 : ∀ k : Int, k ∈ ns ↔ k ∈ l.map fun (n : Nat) => (n : Int)) : ns.map V.int = nums (uni l) := by
  have nn : ∀ k ∈ ns, 0 ≤ k := fun k hk => by
    obtain ⟨n, _, e⟩ := List.mem_map.mp ((h2 k).mp hk)
    omega
  have e1 : ns.map Int.toNat = uni l := by
    refine asc_ext ?_ (uni_asc l) fun j => ?_
    · refine List.pairwise_map.mpr (List.Pairwise.imp_of_mem (fun ha hb hab => ?_) h1)
      have := nn _ ha
      have := nn _ hb
      omega
    · rw [uni_mem, List.mem_map]
      constructor
      · intro ⟨k, hk, e⟩
        obtain ⟨n, hn, e2⟩ := List.mem_map.mp ((h2 k).mp hk)
        have : n = j := by omega
        rw [← this]
        exact hn
      · intro hj
        exact ⟨(j : Int), (h2 _).mpr (List.mem_map.mpr ⟨j, hj, rfl⟩), by omega⟩
  rw [← e1]
  unfold nums
  rw [List.map_map]
  refine List.map_congr_left fun k hk => ?_
  show V.int k = V.int ((k.toNat : Nat) : Int)
  rw [Int.toNat_of_nonneg (nn k hk)]
theorem cat_nums {K : PySem.W.Frag} {H : Hp} {C : VK} {a b : Addr} {l m : List Nat} (ha : H a = some (.tup (nums l))) (hb : H b = some (.tup (nums m))) (hl : l.length + m.length < 64)
    (h : ∀ c H', Kp H H' → H' c = some (.tup (nums (l ++ m))) → C (.ref c) H') : rCatA K (.ref a) (.ref b) H C := by
  refine ⟨a, b, nums l, nums m, rfl, rfl, SqT.of ha, SqT.of hb, by rw [nums_len, nums_len, sizeLine_eq]; omega, fun e => h b H (.refl _) ?_, fun _ e => h a H (.refl _) ?_, fun _ _ p hp => h p _ (Kp.new (.refl _) hp) ?_⟩
  · have : l = [] := by cases l with | nil => rfl | cons _ _ => cases e
    rw [this]
    exact hb
  · have : m = [] := by cases m with | nil => rfl | cons _ _ => cases e
    rw [this, List.append_nil]
    exact ha
  · rw [upd_same]
    unfold nums
    rw [List.map_append]
theorem setO_not_tbl {w : World} {a : Addr} {S : Int → Bool} {n : Nat} (ps : Array Value) : SetO w a S n ≠ .tbl ps := fun z => by unfold SetO at z; cases z
/-- sorted(set(xs)) of nums at c -/
theorem set_sorted {K : PySem.W.Frag} {w : World} {H : Hp} {c : Addr} {l : List Nat} (hc : SqL K H c (nums l) ∨ SqT K H c (nums l)) (hl : l.length < 64) {C : VK} (h : ∀ p H', Kp H H' → H p = none → H' p = some (.lst (nums (uni l))) → C (.ref p) H') :
    rSetI K w [.ref c] H fun x H1 => rSortedSet w [x] H1 C := by
  refine ⟨c, l.map fun (n : Nat) => (n : Int), rfl, by rw [← nums_int]; exact hc, by rw [List.length_map]; omega, fun a n hn hle => ?_⟩
  rw [List.length_map] at hle
  refine ⟨a, _, n, rfl, upd_same, by omega, fun ns p h1 h2 _ hp => ?_⟩
  have k1 : Kp H (upd H a (SetO w a (fun j => decide (j ∈ l.map fun (n : Nat) => (n : Int))) n)) := Kp.new (.refl _) hn
  have hp0 : H p = none := k1.free hp fun ps e => by
    have : p ≠ a := fun z => by rw [z, hn] at e; cases e
    rw [upd_ne this, e] at hp
    cases hp
  refine h p _ (k1.trans (Kp.new (.refl _) hp)) hp0 ?_
  rw [upd_same, sorted_uni h1 fun k => by rw [h2 k]; exact decide_eq_true_iff]
theorem ixN_of {n j : Nat} (hj : j < n) : ixN n (j : Int) = some j := by
  unfold ixN
  rw [if_pos (by omega), if_pos (by omega)]
  simp
/-! ### joined -/
def spJoined : Sp := fun vs H Q _ => ∃ (a b : V) (l m : Lot), vs = [a, b] ∧ LotV H a l ∧ LotV H b m ∧ l.length + m.length < 64 ∧ ∀ v H', Kp H H' → LotV H' v (uni (l ++ m)) → Q v H'
theorem ok_joined (T : Tx P w K mg base) : Good P w K mg base "joined" 1 ["one", "other"] spJoined := by
  refine good_mk (k := 0) (N := ["one", "other"]) T dJoined (by simp [fn]) T.gJoined rfl rfl rfl ⟨rfl, rfl, rfl, by decide +kernel, rfl, by decide +kernel, by decide +kernel⟩ (fun vs H Q E ⟨a, b, l, m, e, _⟩ => by rw [e]; rfl) (fun _ _ _ _ _ _ us hl => match us, hl with | [_, _], _ => rfl) ?_
  intro A outer s H vs Q E hr h
  obtain ⟨a, b, l, m, rfl, ⟨a, rfl, ha⟩, ⟨b, rfl, hb⟩, hl, q⟩ := h
  refine ⟨_, (pss_one
    (ps_ret (pe_callTy (call_tupleK K rfl) (by rfl) T.fTuple (by decide +kernel) (pa_cons (pe_callB (cr_sortedK w rfl rfl) (by rfl) T.fSorted (by decide +kernel) (pa_cons (pe_callTy (cr_setK K w rfl rfl rfl) (by rfl) T.fSet (by decide +kernel) (pa_cons (pe_op (op_catAK K rfl) (pv 0) (pv 1)) pa_nil)) pa_nil)) pa_nil)))), ?_⟩
  refine ⟨_, rfl, _, rfl, cat_nums ha hb hl fun c H1 k1 hc => ?_⟩
  unfold tNil
  refine set_sorted (.inr (SqT.of hc)) (by rw [List.length_append]; exact hl) fun p H2 k2 _ hp => ?_
  refine ⟨p, _, rfl, .inl ⟨SqL.of hp, fun t ht => ?_⟩⟩
  exact q _ _ ((k1.trans k2).trans (Kp.new (.refl _) ht)) ⟨t, rfl, upd_same⟩
/-! ### behind -/
def PassV (H : Hp) (v : V) (r : Stand × Lot) : Prop := ∃ t a b, v = .ref t ∧ H t = some (.tup [a, b]) ∧ StandV H a r.1 ∧ LotV H b r.2
theorem PassV.mono {H H' : Hp} (t : Ti H H') {v : V} {r : Stand × Lot} (h : PassV H v r) : PassV H' v r := let ⟨x, a, b, e, q, q1, q2⟩ := h; ⟨x, a, b, e, t _ _ q, StandV.mono t q1, q2.mono t⟩
def spBehind : Sp := fun vs H Q _ => ∃ (a b : V) (V D : Nat) (st : Stand) (r : Route), vs = [a, b] ∧ StandV H a st ∧ LotV H b r ∧ OkStand V D st ∧ D ≤ 4 ∧ V ≤ 4 ∧ (∀ v ∈ r, v < V) ∧ ∀ v H', Kp H H' → PassV H' v (passL st [] r) → Q v H'
theorem ok_behind (T : Tx P w K mg base) : Good P w K mg base "behind" 2 ["stand", "route"] spBehind := by
  refine good_mk (k := 1) (N := ["stand", "route", "traces", "carried", "vat"]) T dBehind (by simp [fn]) T.gBehind rfl rfl rfl ⟨rfl, rfl, rfl, by decide +kernel, rfl, by decide +kernel, by decide +kernel⟩ (fun vs H Q E ⟨a, b, V, D, st, r, e, _⟩ => by rw [e]; rfl) (fun _ _ _ _ _ _ us hl => match us, hl with | [_, _], _ => rfl) ?_
  intro A outer s H vs Q E hr h
  obtain ⟨a, b, V, D, st, r, rfl, ⟨a, vs, rfl, ha, hvs⟩, ⟨b, rfl, hb⟩, ok, hD, hV, hr2, q⟩ := h
  refine ⟨_, (pss_cons
    (ps_par (i := 2) (j := 3) rfl (by decide +kernel : (["stand", "route", "traces", "carried", "vat"] : List Str).Nodup) rfl rfl (by decide) rfl rfl (pa_cons (pe_callTy (call_listK K rfl) (by rfl) T.fList (by decide +kernel) (pa_cons (pv 0) pa_nil)) (pa_cons (pe_tup pa_nil) pa_nil)) (by rfl)) (pss_cons
    (ps_for PassesOwn.never rfl (pi_tupK K rfl (pv 1)) (pg_name (i := 4) (by decide +kernel : (["stand", "route", "traces", "carried", "vat"] : List Str).Nodup) rfl (Or.inl rfl)) (pss_cons
    (ps_set (i := 3) (by decide +kernel : (["stand", "route", "traces", "carried", "vat"] : List Str).Nodup) rfl (Or.inl rfl) (pe_callG (ok_joined T) hr (by decide) (by rfl) (pa_cons (pv 3) (pa_cons (pe_ix (ix_listK K rfl) (pv 2) (pv 4) (fun _ _ => rfl)) pa_nil)))) (pss_one
    (ps_asg (pv 3) (pg_sub (pv 2) (pv 4) set_list))))) (pss_one
    (ps_ret (pe_tup (pa_cons (pe_callTy (call_tupleK K rfl) (by rfl) T.fTuple (by decide +kernel) (pa_cons (pv 2) pa_nil)) (pa_cons (pv 3) pa_nil))))))), ?_⟩
  refine ⟨_, rfl, a, _, rfl, .inr (SqT.of ha), fun L hL => ⟨Nat.zero_le _, fun t ht => ⟨_, _, rfl, ?_⟩⟩⟩
  have k1 : Kp H (upd (upd H L (.lst vs)) t (.tup [])) := (Kp.new (.refl _) hL).trans (Kp.new (.refl _) ht)
  have tL : t ≠ L := fun z => by rw [z, upd_same] at ht; cases ht
  refine ⟨_, rfl, b, rfl, ⟨_, SqT.of (k1.tup hb)⟩, for_tup (K := K) (a := b) (xs := nums r) (fun i σ H' => ∃ (tr : Stand) (c : Lot) (cv : L2.V) (us : List L2.V) (o : Option L2.V), σ = [some (.ref a), some (.ref b), some (.ref L), some cv, o] ∧ Kp H H' ∧ H' L = some (.lst us) ∧ Paired (LotV H') us tr ∧ LotV H' cv c ∧
    OkStand V D tr ∧ OkLot D c ∧ passL st [] r = passL tr c (r.drop i)) ?_ ?_ ?_ ?_⟩
  · refine ⟨st, [], .ref t, vs, none, rfl, k1, ?_, Paired.ti (fun v x hx => hx.mono k1.ti) hvs, ⟨t, rfl, upd_same⟩, ok, okLot_nil, by rw [List.drop_zero]⟩
    rw [upd_ne (Ne.symm tL), upd_same]
  · rintro i σ H' _ ⟨tr, c, cv, us, o, _, k, _⟩
    exact SqT.of (k.tup hb)
  · rintro i x σ H' hx ⟨tr, c, cv, us, o, rfl, k, hus, hP, hcv, oT, oC, e⟩
    obtain ⟨n, hn, rfl⟩ := nums_of hx
    have nV : n < V := hr2 n (List.mem_of_getElem? hn)
    have nt : n < tr.length := by rw [oT.1]; exact nV
    obtain ⟨u, hu, hU⟩ := Paired.at2 hP (List.getElem?_eq_getElem nt)
    have eg : tr.getD n [] = tr[n] := by rw [List.getD_eq_getElem?_getD, List.getElem?_eq_getElem nt]; rfl
    have l1 := okLot_len oC
    have l2 := okLot_len (oT.2 _ (List.getElem_mem nt))
    refine ⟨_, rfl, _, rfl, _, rfl, L, us, (n : Int), u, rfl, rfl, SqL.of hus, atI_nat hu, cv, u, c, tr[n], rfl, hcv, hU, by omega, fun v H2 k2 hv => ?_⟩
    have hL2 := k2.lst hus
    have lus : us.length = tr.length := Paired.length hP
    refine ⟨_, rfl, _, rfl, _, rfl, L, us, (n : Int), n, rfl, rfl, hL2, ixN_of (by omega), ?_⟩
    have hL0 : H L = none := hL
    have k3 : Kp H (upd H2 L (.lst (us.set n v))) := (k.trans k2).putL hL0 hL2
    have t3 : Ti H2 (upd H2 L (.lst (us.set n v))) := Ti.putL hL2
    refine ⟨tr.set n (uni (c ++ tr[n])), uni (c ++ tr[n]), v, us.set n v, some (VN n), rfl, k3, upd_same, ?_, hv.mono t3, ?_, ?_, ?_⟩
    · exact Paired.set1 (hv.mono t3) n (Paired.ti (fun v x hx => hx.mono (k2.ti.trans t3)) hP)
    · exact ⟨by rw [List.length_set]; exact oT.1, fun l hl => (List.mem_or_eq_of_mem_set hl).elim (oT.2 l) fun e => by
        rw [e]
        exact ⟨uni_asc _, fun x hx => by rw [uni_mem, List.mem_append] at hx; exact hx.elim (oC.2 x) ((oT.2 _ (List.getElem_mem nt)).2 x)⟩⟩
    · exact ⟨uni_asc _, fun x hx => by rw [uni_mem, List.mem_append] at hx; exact hx.elim (oC.2 x) ((oT.2 _ (List.getElem_mem nt)).2 x)⟩
    · have ir : i < r.length := (List.getElem?_eq_some_iff.mp hn).1
      have er : r.drop i = n :: r.drop (i + 1) := by
        rw [List.drop_eq_getElem_cons ir, (List.getElem?_eq_some_iff.mp hn).2]
      rw [e, er, passL, eg]
  · rintro σ H' ⟨tr, c, cv, us, o, rfl, k, hus, hP, hcv, oT, oC, e⟩
    rw [nums_len, List.drop_length, passL] at e
    refine ⟨_, rfl, L, us, rfl, .inl ⟨SqL.of hus, fun p hp => ⟨_, rfl, (by show 2 ≤ sizeLine; decide), fun t2 ht2 => ?_⟩⟩⟩
    have ka : Kp H' (upd H' p (.tup us)) := Kp.new (.refl _) hp
    have kb := ka.trans (Kp.new (.refl _) ht2 (o := .tup [.ref p, cv]))
    refine q _ _ (k.trans kb) ⟨t2, .ref p, cv, rfl, upd_same, ?_, ?_⟩
    · rw [e]
      refine ⟨p, us, rfl, ?_, Paired.ti (fun v x hx => hx.mono kb.ti) hP⟩
      exact (Kp.new (.refl _) ht2).tup upd_same
    · rw [e]
      exact hcv.mono kb.ti
end Dw
end

section
set_option Elab.async false
set_option linter.all false
set_option maxRecDepth 100000
set_option maxHeartbeats 1000000
namespace Dw
open PySem PySem.Spec PyProof.Rows L2
variable {P : Program} {w : World} {K : PySem.W.Frag} {mg : Str → Option Value} {base : Heap}
theorem getD_of {l : List Nat} {i n : Nat} (h : l[i]? = some n) : l.getD i 0 = n := by rw [List.getD_eq_getElem?_getD, h]; rfl
theorem all_at {l : List Nat} {g : Nat → Bool} {b : Bool} (h : b = true ↔ ∀ j, j < (nums l).length → g (l.getD j 0) = true) : b = l.all g := by
  rw [Bool.eq_iff_iff, h, List.all_eq_true]
  constructor
  · intro q x hx
    obtain ⟨i, hi⟩ := List.mem_iff_getElem?.mp hx
    have := q i (by rw [nums_len]; exact (List.getElem?_eq_some_iff.mp hi).1)
    rwa [getD_of hi] at this
  · intro q j hj
    rw [nums_len] at hj
    exact q _ (by rw [getD_of (List.getElem?_eq_getElem hj)]; exact List.getElem_mem hj)
theorem any_at {l : List Nat} {g : Nat → Bool} {b : Bool} (h : b = false ↔ ∀ j, j < (nums l).length → g (l.getD j 0) = false) : b = l.any g := by
  have e : (!b) = l.all fun x => !(g x) := all_at (g := fun x => !(g x)) (b := !b) (by
    rw [Bool.not_eq_true', h]
    exact ⟨fun q j hj => by rw [q j hj]; rfl, fun q j hj => by have := q j hj; simpa using this⟩)
  have e2 := congrArg (fun x => !x) e
  simp only [Bool.not_not] at e2
  rw [e2, List.not_all_eq_any_not]
  simp
/-- the scope of has_wants's outer generator expression -/
def scWants1 : Scope := { kind := .function, names := [(".0", .local), ("dye", .cell), ("route", .free), ("works", .free), ("any", .globalImplicit)], isGenerator := true, isCoroutine := false }
def spHasWants (K : PySem.W.Frag) : Sp := fun vs H Q _ => ∃ (v u : V) (k : Nat) (W : Works) (kd : Kind) (r : Route), vs = [v, VN k, u] ∧ WorksV H v W ∧ LotV H u r ∧ W.kinds[k]? = some kd ∧ (∀ x ∈ r, x < W.vats.length) ∧ TabsOk K H ∧ ∀ H', Kp H H' → Q (.bl (hasWants W kd r)) H'
theorem ok_hasWants (T : Tx P w K mg base) : Good P w K mg base "has_wants" 3 ["works", "kind", "route"] (spHasWants K) := by
  refine good_mk (k := 2) (N := ["works", "kind", "route", "wants"]) T dHasWants (by simp [fn]) T.gHasWants rfl rfl rfl ⟨rfl, rfl, rfl, by decide +kernel, rfl, by decide +kernel, by decide +kernel⟩ (fun vs H Q E ⟨v, u, k, W, kd, r, e, _⟩ => by rw [e]; rfl) (fun _ _ _ _ _ _ us hl => match us, hl with | [_, _, _], _ => rfl) ?_
  intro A outer s H vs Q E hr h
  obtain ⟨v, u, k, W, kd, r, rfl, ⟨a, vv, vk, rfl, ha, ⟨av, vvs, rfl, hav, hvs⟩, ⟨ak, ks, rfl, hak, hks⟩⟩, ⟨b, rfl, hb⟩, hk, hr2, tb, q⟩ := h
  obtain ⟨kv, hkv, ⟨c, vw, vb, vr, rfl, hc, ⟨aw, rfl, haw⟩, _, _⟩⟩ := Paired.at2 hks hk
  refine ⟨_, (pss_cons
    (ps_set (i := 3) (by decide +kernel : (["works", "kind", "route", "wants"] : List Str).Nodup) rfl (Or.inl rfl) (pe_ix (ix_tupK K rfl) (pe_ix (ix_tupK K rfl) (pe_ix (ix_tupK K rfl) (pv 0) pe_int (fun _ _ => rfl)) (pv 1) (fun _ _ => rfl)) pe_int (fun _ _ => rfl))) (pss_one
    (ps_ret (pe_allG (cd := (.ref (He.codeOf K dHasWants.at_))) (base := base) (n := 1) (ns := ["dye"]) "all" rfl hr (by rfl) T.fAll T.bm (genSc_by (N := ["works", "kind", "route", "wants"]) (sc := dHasWants.scope) (by decide +kernel)) rfl (pi_tupK K rfl (pv 3)) (fun cv1 _ _ _ _ _ _ _ hr1 => SegOk.one (pg_name (i := 4) (by decide +kernel : (["works", "kind", "route", "wants", "dye"] : List Str).Nodup) rfl (Or.inr rfl)) (pe_anyG (cd := cv1) (base := base) (n := 0) (ns := ["vat"]) "any" rfl hr1 (by rfl) T.fAny T.bm (genSc_by (N := ["works", "kind", "route", "wants", "dye"]) (sc := scWants1) (by decide +kernel)) rfl (pi_tupK K rfl (pv 2)) (fun cv2 _ _ _ _ _ _ _ hr2 => SegOk.one (pg_name (i := 5) (by decide +kernel : (["works", "kind", "route", "wants", "dye", "vat"] : List Str).Nodup) rfl (Or.inl rfl)) (pe_cmpR (op_in_seqK K rfl) (pv 4) (pe_ix (ix_tupK K rfl) (pe_ix (ix_tupK K rfl) (pv 0) pe_int (fun _ _ => rfl)) (pv 5) (fun _ _ => rfl)) (by rfl))))))))), ?_⟩
  refine ⟨_, rfl, a, _, 2, _, rfl, rfl, SqT.of ha, rfl, _, rfl, ak, ks, k, _, rfl, rfl, SqT.of hak, atI_nat hkv, c, _, 0, _, rfl, rfl, SqT.of hc, rfl, ?_⟩
  refine ⟨_, rfl, aw, rfl, ⟨_, SqT.of haw⟩, gen_tup haw (fun i => r.any fun v => decide (kd.wants.getD i 0 ∈ W.vats.getD v [])) rfl (.inl (T.hd dHasWants.at_ tm_hasWants)) (tb dHasWants.at_ tm_hasWants) (fun cv i x ys H' hx kp info hy C hC => ?_) fun b H1 k1 hb => ?_⟩
  · obtain ⟨n, hn, rfl⟩ := nums_of hx
    obtain ⟨cc, cP, rfl, hcc, hct⟩ := info
    match ys, hy with
    | [y], _ =>
      refine ⟨_, rfl, b, rfl, ⟨_, SqT.of (kp.tup hb)⟩, gen_tup (kp.tup hb) (fun j => decide (n ∈ W.vats.getD (r.getD j 0) [])) rfl (.inr hcc) hct (fun cv2 j x2 zs H2 hx2 kp2 _ hz C2 hC2 => ?_) fun b2 H3 k3 hb2 => ?_⟩
      · obtain ⟨m, hm, rfl⟩ := nums_of hx2
        have mV : m < W.vats.length := hr2 m (List.mem_of_getElem? hm)
        obtain ⟨lv, hlv, ⟨al, rfl, hal⟩⟩ := Paired.at2 hvs (List.getElem?_eq_getElem mV)
        have kk := kp.trans kp2
        match zs, hz with
        | [z], _ =>
          refine ⟨_, rfl, _, rfl, a, _, 1, _, rfl, rfl, SqT.of (kk.tup ha), rfl, _, rfl, av, vvs, m, _, rfl, rfl, SqT.of (kk.tup hav), atI_nat hlv, rIn_nums (.inr (SqT.of (kk.tup hal))) ?_⟩
          have e : decide (n ∈ W.vats[m]) = decide (n ∈ W.vats.getD (r.getD j 0) []) := by
            rw [getD_of hm, List.getD_eq_getElem?_getD, List.getElem?_eq_getElem mV]
            rfl
          rw [e]
          exact hC2 [some (VN m)] H2 rfl (.refl _)
      · have e := any_at (g := fun v => decide (n ∈ W.vats.getD v [])) hb2
        rw [e]
        have := hC [some (VN n)] H3 rfl k3
        rw [getD_of hn] at this
        exact this
  · have e := all_at (g := fun dye => r.any fun v => decide (dye ∈ W.vats.getD v [])) hb
    rw [e]
    exact q H1 k1
def spIsClean (K : PySem.W.Frag) : Sp := fun vs H Q _ => ∃ (v u : V) (k : Nat) (W : Works) (kd : Kind) (c : Lot), vs = [v, VN k, u] ∧ WorksV H v W ∧ LotV H u c ∧ W.kinds[k]? = some kd ∧ TabsOk K H ∧ ∀ H', Kp H H' → Q (.bl (isClean kd c)) H'
theorem ok_isClean (T : Tx P w K mg base) : Good P w K mg base "is_clean" 2 ["works", "kind", "carried"] (spIsClean K) := by
  refine good_mk (k := 1) (N := ["works", "kind", "carried"]) T dIsClean (by simp [fn]) T.gIsClean rfl rfl rfl ⟨rfl, rfl, rfl, by decide +kernel, rfl, by decide +kernel, by decide +kernel⟩ (fun vs H Q E ⟨v, u, k, W, kd, r, e, _⟩ => by rw [e]; rfl) (fun _ _ _ _ _ _ us hl => match us, hl with | [_, _, _], _ => rfl) ?_
  intro A outer s H vs Q E hr h
  obtain ⟨v, u, k, W, kd, l, rfl, ⟨a, vv, vk, rfl, ha, ⟨av, vvs, rfl, hav, hvs⟩, ⟨ak, ks, rfl, hak, hks⟩⟩, ⟨b, rfl, hb⟩, hk, tb, q⟩ := h
  obtain ⟨kv, hkv, ⟨c, vw, vb, vr, rfl, hc, _, ⟨aw, rfl, haw⟩, _⟩⟩ := Paired.at2 hks hk
  refine ⟨_, (pss_one
    (ps_ret (pe_not (pe_anyG (cd := (.ref (He.codeOf K dIsClean.at_))) (base := base) (n := 0) (ns := ["dye"]) "any" rfl hr (by rfl) T.fAny T.bm (genSc_by (N := ["works", "kind", "carried"]) (sc := dIsClean.scope) (by decide +kernel)) rfl (pi_tupK K rfl (pv 2)) (fun cv1 _ _ _ _ _ _ _ hr1 => SegOk.one (pg_name (i := 3) (by decide +kernel : (["works", "kind", "carried", "dye"] : List Str).Nodup) rfl (Or.inl rfl)) (pe_cmpR (op_in_seqK K rfl) (pv 3) (pe_ix (ix_tupK K rfl) (pe_ix (ix_tupK K rfl) (pe_ix (ix_tupK K rfl) (pv 0) pe_int (fun _ _ => rfl)) (pv 1) (fun _ _ => rfl)) pe_int (fun _ _ => rfl)) (by rfl))))))), ?_⟩
  refine ⟨_, rfl, b, rfl, ⟨_, SqT.of hb⟩, gen_tup hb (fun i => decide (l.getD i 0 ∈ kd.bars)) rfl (.inl (T.hd dIsClean.at_ tm_isClean)) (tb.lo tm_isClean) (fun cv i x ys H' hx kp info hy C hC => ?_) fun b H1 k1 hb => ?_⟩
  · obtain ⟨n, hn, rfl⟩ := nums_of hx
    match ys, hy with
    | [y], _ =>
      refine ⟨_, rfl, _, rfl, a, _, 2, _, rfl, rfl, SqT.of (kp.tup ha), rfl, _, rfl, ak, ks, k, _, rfl, rfl, SqT.of (kp.tup hak), atI_nat hkv, c, _, 1, _, rfl, rfl, SqT.of (kp.tup hc), rfl, rIn_nums (.inr (SqT.of (kp.tup haw))) ?_⟩
      have := hC [some (VN n)] H' rfl (.refl _)
      rw [getD_of hn] at this
      exact this
  · have e := any_at (g := fun dye => decide (dye ∈ kd.bars)) hb
    rw [e]
    exact ⟨_, rfl, q H1 k1⟩
/-! ### dyed -/
def spDyed (K : PySem.W.Frag) : Sp := fun vs H Q _ => ∃ (v u : V) (k n : Nat) (W : Works) (kd : Kind) (r : Route) (st : Stand), vs = [v, u, VN k, VN n] ∧ WorksV H v W ∧ StandV H u st ∧ OkWorks W ∧ OkStand W.vats.length W.dyes st ∧ W.kinds[k]? = some kd ∧ kd.routes[n]? = some r ∧ TabsOk K H ∧
  ∀ t x H', Kp H H' → H' t = some (.tup [x, .bl (goodR W kd st r)]) → StandV H' x (next st r) → Q (.ref t) H'
theorem ok_dyed (T : Tx P w K mg base) : Good P w K mg base "dyed" 4 ["works", "stand", "kind", "number"] (spDyed K) := by
  refine good_mk (k := 3) (N := ["works", "stand", "kind", "number", "route", "later", "carried"]) T dDyed (by simp [fn]) T.gDyed rfl rfl rfl ⟨rfl, rfl, rfl, by decide +kernel, rfl, by decide +kernel, by decide +kernel⟩ (fun vs H Q E ⟨v, u, k, n, W, kd, r, st, e, _⟩ => by rw [e]; rfl) (fun _ _ _ _ _ _ us hl => match us, hl with | [_, _, _, _], _ => rfl) ?_
  intro A outer s H vs Q E hr h
  obtain ⟨v, u, k, n, W, kd, r, st, rfl, hW, hst, ok, oks, hk, hn, tb, q⟩ := h
  obtain ⟨a, vv, vk, rfl, ha, ⟨av, vvs, rfl, hav, hvs⟩, ⟨ak, ks, rfl, hak, hks⟩⟩ := id hW
  obtain ⟨kv, hkv, ⟨c, vw, vb, vr, rfl, hc, _, _, ⟨ar, rs, rfl, har, hrs⟩⟩⟩ := Paired.at2 hks hk
  obtain ⟨rv, hrv, hR⟩ := Paired.at2 hrs hn
  have okd := ok.kind kd (List.mem_of_getElem? hk)
  have okr := okd.route r (List.mem_of_getElem? hn)
  refine ⟨_, (pss_cons
    (ps_set (i := 4) (by decide +kernel : (["works", "stand", "kind", "number", "route", "later", "carried"] : List Str).Nodup) rfl (Or.inl rfl) (pe_ix (ix_tupK K rfl) (pe_ix (ix_tupK K rfl) (pe_ix (ix_tupK K rfl) (pe_ix (ix_tupK K rfl) (pv 0) pe_int (fun _ _ => rfl)) (pv 2) (fun _ _ => rfl)) pe_int (fun _ _ => rfl)) (pv 3) (fun _ _ => rfl))) (pss_cons
    (ps_asg (g := gTup K 2 (gCons (gName 5) (gCons (gName 6) gNil))) (pe_callG (ok_behind T) hr (by decide) (by rfl) (pa_cons (pv 1) (pa_cons (pv 4) pa_nil))) (by refine pg_tup (by rfl) ?_; refine pgs_cons ?_ (pgs_cons ?_ pgs_nil); exact pg_name (i := 5) (by decide +kernel : (["works", "stand", "kind", "number", "route", "later", "carried"] : List Str).Nodup) rfl (Or.inl rfl); exact pg_name (i := 6) (by decide +kernel : (["works", "stand", "kind", "number", "route", "later", "carried"] : List Str).Nodup) rfl (Or.inl rfl))) (pss_one
    (ps_ret (pe_tup (pa_cons (pv 5) (pa_cons (pe_and (pe_callG (ok_hasWants T) hr (by decide) (by rfl) (pa_cons (pv 0) (pa_cons (pv 2) (pa_cons (pv 4) pa_nil)))) (pe_one (pe_callG (ok_isClean T) hr (by decide) (by rfl) (pa_cons (pv 0) (pa_cons (pv 2) (pa_cons (pv 6) pa_nil)))))) pa_nil))))))), ?_⟩
  refine ⟨_, rfl, a, _, 2, _, rfl, rfl, SqT.of ha, rfl, _, rfl, ak, ks, k, _, rfl, rfl, SqT.of hak, atI_nat hkv, c, _, 2, _, rfl, rfl, SqT.of hc, rfl, _, rfl, ar, rs, n, rv, rfl, rfl, SqT.of har, atI_nat hrv, ?_⟩
  refine ⟨_, rfl, _, rfl, u, rv, _, _, st, r, rfl, hst, hR, oks, ok.d4, ok.v4, okr.2.2, fun v H1 k1 hv => ?_⟩
  obtain ⟨t, x, y, rfl, ht, hx, hy⟩ := hv
  refine ⟨t, _, rfl, SqT.of ht, rfl, _, _, rfl, _, _, rfl, rfl, ?_⟩
  refine ⟨_, rfl, _, rfl, _, rfl, _, rfl, _, rv, k, W, kd, r, rfl, hW.mono k1.ti, hR.mono k1.ti, hk, okr.2.2, tb.kp k1, fun H2 k2 => ?_⟩
  have fin : ∀ b H3, Kp H2 H3 → b = goodR W kd st r → (b = b) → ∀ p, H3 p = none → Q (.ref p) (upd H3 p (.tup [x, .bl b])) := fun b H3 k3 e _ p hp => by
    have kn : Kp H3 (upd H3 p (.tup [x, .bl b])) := Kp.new (.refl _) hp
    refine q p x _ (((k1.trans k2).trans k3).trans kn) ?_ (StandV.mono ((k2.trans k3).trans kn).ti hx)
    rw [upd_same, e]
  refine ⟨_, rfl, ?_⟩
  cases hw : hasWants W kd r with
  | true =>
    refine iteT ⟨_, rfl, _, rfl, _, rfl, _, y, k, W, kd, _, rfl, hW.mono (k1.trans k2).ti, hy.mono k2.ti, hk, tb.kp (k1.trans k2), fun H3 k3 => ⟨(by show 2 ≤ sizeLine; decide), fun p hp => ?_⟩⟩
    exact fin _ H3 k3 (by unfold goodR; rw [hw]; rfl) rfl p hp
  | false =>
    refine iteF ⟨(by show 2 ≤ sizeLine; decide), fun p hp => ?_⟩
    exact fin _ H2 (.refl _) (by unfold goodR; rw [hw]; rfl) rfl p hp
end Dw
end

section
set_option Elab.async false
set_option linter.all false
set_option maxRecDepth 100000
set_option maxHeartbeats 1000000
/-! loops over any walk -/
namespace Dw
open PySem PySem.Spec PyProof.Rows L2
theorem lc_by {J : It} {g : TG} {tt : TT} {te : TE} {vs : List Nat} {σ : L2.St} {H1 : Hp} {D : Addr} {Qd : Hp → Prop} (len : Nat) (XI : Nat → V → Hp → Prop) (Pv : Nat → Hp → Prop) (h0 : Pv 0 (upd H1 D (.lst [])))
    (hgo : ∀ i H, i < len → Pv i H → J.go i H ∧ ∀ x H', J.yld i H x H' → XI i x H' ∧ Pv i H') (hstop : ∀ H, Pv len H → J.stop len H)
    (turn : ∀ i x H, i < len → XI i x H → Pv i H → g x (wipe σ vs) H fun σ2 H2 => wipe σ2 vs = wipe σ vs ∧ tt σ2 H2 fun b H3 => if b = true then te σ2 H3 fun y H4 => ∃ acc, H4 D = some (.lst acc) ∧ acc.length < sizeLine ∧ Pv (i + 1) (upd H4 D (.lst (acc ++ [y]))) else Pv (i + 1) H3)
    (fin : ∀ H, Pv len H → Qd H) :
    ∃ W : Nat → Nat → Hp → Prop, (∃ m, W 0 m (upd H1 D (.lst []))) ∧ ∀ i m H, W i m H → (J.stop i H ∧ Qd H) ∨ (J.go i H ∧ ∃ Nx : Hp → Prop, (∀ H', Nx H' → ∃ m', m' < m ∧ W (i + 1) m' H') ∧ ∀ x H', J.yld i H x H' → g x (wipe σ vs) H' fun σ2 H2 => wipe σ2 vs = wipe σ vs ∧ tt σ2 H2 fun b H3 =>
      if b = true then te σ2 H3 fun y H4 => ∃ acc, H4 D = some (.lst acc) ∧ acc.length < sizeLine ∧ Nx (upd H4 D (.lst (acc ++ [y]))) else Nx H3) := by
  refine ⟨fun i m H => i ≤ len ∧ m = len - i ∧ Pv i H, ⟨len, Nat.zero_le _, rfl, h0⟩, ?_⟩
  rintro i m H ⟨hi, rfl, hp⟩
  rcases Nat.lt_or_ge i len with hl | hl
  · refine .inr ⟨(hgo i H hl hp).1, Pv (i + 1), fun H' h => ⟨len - (i + 1), by omega, hl, rfl, h⟩, fun x H' hy => ?_⟩
    obtain ⟨hx, hp'⟩ := (hgo i H hl hp).2 x H' hy
    exact turn i x H' hl hx hp'
  · obtain rfl : i = len := by omega
    exact .inl ⟨hstop H hp, fin H hp⟩
theorem for_by {J : It} {g : TG} {tb : TS} {D : Ends} {σ : L2.St} {H1 : Hp} (len : Nat) (XI : Nat → V → Hp → Prop) (Pv : Nat → L2.St → Hp → Prop) (h0 : Pv 0 σ H1)
    (hgo : ∀ i σ H, i < len → Pv i σ H → J.go i H ∧ ∀ x H', J.yld i H x H' → XI i x H' ∧ Pv i σ H') (hstop : ∀ σ H, Pv len σ H → J.stop len H)
    (turn : ∀ i x σ H, i < len → XI i x H → Pv i σ H → g x σ H fun σ2 H2 => tb { nx := Pv (i + 1), rt := D.rt, bk := D.nx, ct := Pv (i + 1) } σ2 H2)
    (fin : ∀ σ H, Pv len σ H → D.nx σ H) :
    ∃ W : Nat → Nat → L2.St → Hp → Prop, (∃ m, W 0 m σ H1) ∧ ∀ i m σ H, W i m σ H → (J.stop i H ∧ D.nx σ H) ∨ (J.go i H ∧ ∃ N : L2.St → Hp → Prop, (∀ σ' H', N σ' H' → ∃ m', m' < m ∧ W (i + 1) m' σ' H') ∧ ∀ x H', J.yld i H x H' → g x σ H' fun σ2 H2 => tb { nx := N, rt := D.rt, bk := D.nx, ct := N } σ2 H2) := by
  refine ⟨fun i m σ H => i ≤ len ∧ m = len - i ∧ Pv i σ H, ⟨len, Nat.zero_le _, rfl, h0⟩, ?_⟩
  rintro i m σ H ⟨hi, rfl, hp⟩
  rcases Nat.lt_or_ge i len with hl | hl
  · refine .inr ⟨(hgo i σ H hl hp).1, Pv (i + 1), fun σ' H' h => ⟨len - (i + 1), by omega, hl, rfl, h⟩, fun x H' hy => ?_⟩
    obtain ⟨hx, hp'⟩ := (hgo i σ H hl hp).2 x H' hy
    exact turn i x σ H' hl hx hp'
  · obtain rfl : i = len := by omega
    exact .inl ⟨hstop σ H hp, fin σ H hp⟩
/-- what a turn over a zip of tuples hands out -/
theorem zip_go {K : PySem.W.Frag} {a b : Addr} {xs ys : List V} {H : Hp} {i : Nat} (ha : H a = some (.tup xs)) (hb : H b = some (.tup ys)) (h1 : i < xs.length) (h2 : i < ys.length) :
    (RZ.ItzT K a b).go i H ∧ ∀ v H', (RZ.ItzT K a b).yld i H v H' → ∃ t x y, v = .ref t ∧ xs[i]? = some x ∧ ys[i]? = some y ∧ H t = none ∧ H' = upd H t (.tup [x, y]) := by
  refine ⟨⟨xs, ys, _, _, SqT.of ha, SqT.of hb, List.getElem?_eq_getElem h1, List.getElem?_eq_getElem h2⟩, fun v H' hy => ?_⟩
  obtain ⟨t, x, y, e, hn, eH, q1, q2⟩ := hy
  exact ⟨t, x, y, e, q1 xs (SqT.of ha), q2 ys (SqT.of hb), hn, eH⟩
theorem zip_stop {K : PySem.W.Frag} {a b : Addr} {xs ys : List V} {H : Hp} {i : Nat} (ha : H a = some (.tup xs)) (hb : H b = some (.tup ys)) (h : xs.length ≤ i ∨ ys.length ≤ i) : (RZ.ItzT K a b).stop i H := ⟨xs, ys, SqT.of ha, SqT.of hb, h⟩
end Dw
end

section
set_option Elab.async false
set_option linter.all false
set_option maxRecDepth 100000
set_option maxHeartbeats 1000000
namespace Dw
open PySem PySem.Spec PyProof.Rows L2
variable {P : Program} {w : World} {K : PySem.W.Frag} {mg : Str → Option Value} {base : Heap}
def spIsPlan (K : PySem.W.Frag) : Sp := fun vs H Q _ => ∃ (v u : V) (W : Works) (p : Plan), vs = [v, u] ∧ WorksV H v W ∧ LotV H u p ∧ PlanOk W p ∧ TabsOk K H ∧ ∀ H', Kp H H' → Q (.bl true) H'
theorem ok_isPlan (T : Tx P w K mg base) : Good P w K mg base "is_plan" 3 ["works", "value"] (spIsPlan K) := by
  refine good_mk (k := 2) (N := ["works", "value"]) T dIsPlan (by simp [fn]) T.gIsPlan rfl rfl rfl ⟨rfl, rfl, rfl, by decide +kernel, rfl, by decide +kernel, by decide +kernel⟩ (fun vs H Q E ⟨v, u, W, p, e, _⟩ => by rw [e]; rfl) (fun _ _ _ _ _ _ us hl => match us, hl with | [_, _], _ => rfl) ?_
  intro A outer s H vs Q E hr h
  obtain ⟨v, u, W, p, rfl, ⟨a, vv, vk, rfl, ha, ⟨av, vvs, rfl, hav, hvs⟩, ⟨ak, ks, rfl, hak, hks⟩⟩, ⟨b, rfl, hb⟩, hp, tb, q⟩ := h
  have l1 := Paired.length hks
  have l2 := Paired.length hp
  refine ⟨_, (pss_cons
    (ps_if (PW.pt (pw_or (pt_not (pt_val (pe_callB (call_isB K rfl) (by rfl) T.fIsinstance (by decide +kernel) (pa_cons (pv 1) (pa_cons (pe_ty (T := "tuple") (by rfl) T.fTuple (by decide +kernel)) pa_nil))))) (pw_or1 (pt_cmpR op_ne (pe_callB (call_lenK K rfl) (by rfl) T.fLen PySem.boot_len (pa_cons (pv 1) pa_nil)) (pe_callB (call_lenK K rfl) (by rfl) T.fLen PySem.boot_len (pa_cons (pe_ix (ix_tupK K rfl) (pv 0) pe_int (fun _ _ => rfl)) pa_nil)) (nomark _))))) (pss_one
    (ps_ret pe_bl)) pss_nil) (pss_one
    (ps_ret (pe_allG (cd := (.ref (He.codeOf K dIsPlan.at_))) (base := base) (n := 0) (ns := ["number", "kind"]) "all" rfl hr (by rfl) T.fAll T.bm (genSc_by (N := ["works", "value"]) (sc := dIsPlan.scope) (by decide +kernel)) rfl (pi_zipK K rfl (by rfl) T.fZip (pa_cons (pv 1) (pa_cons (pe_ix (ix_tupK K rfl) (pv 0) pe_int (fun _ _ => rfl)) pa_nil))) (fun cv1 _ _ _ _ _ _ _ hr1 => SegOk.one (g := gTup K 2 (gCons (gName 2) (gCons (gName 3) gNil))) (by refine pg_tup (by rfl) ?_; refine pgs_cons ?_ (pgs_cons ?_ pgs_nil); exact pg_name (i := 2) (by decide +kernel : (["works", "value", "number", "kind"] : List Str).Nodup) rfl (Or.inl rfl); exact pg_name (i := 3) (by decide +kernel : (["works", "value", "number", "kind"] : List Str).Nodup) rfl (Or.inl rfl)) (pe_callG (ok_isNumber T) hr1 (by decide) (by rfl) (pa_cons (pv 2) (pa_cons pe_int (pa_cons (pe_op op_sub (pe_callB (call_lenK K rfl) (by rfl) T.fLen PySem.boot_len (pa_cons (pe_ix (ix_tupK K rfl) (pv 3) pe_int (fun _ _ => rfl)) pa_nil)) pe_int) pa_nil))))))))), ?_⟩
  refine ⟨_, rfl, _, "tuple", _, true, rfl, .base (.tup hb), by decide +kernel, true, rfl, iteF ?_⟩
  refine ⟨_, rfl, b, _, rfl, .inr (SqT.of hb), _, rfl, a, _, 2, _, rfl, rfl, SqT.of ha, rfl, ak, _, rfl, .inr (SqT.of hak), rfl, _, rfl, itNT (by rw [nums_len, l1, l2]) ?_⟩
  refine ⟨_, rfl, _, rfl, a, _, 2, _, rfl, rfl, SqT.of ha, rfl, b, ak, _, ks, rfl, .inr ⟨SqT.of hb, SqT.of hak, gen_zip hb hak _ rfl (fun _ => true) rfl (.inl (T.hd dIsPlan.at_ tm_isPlan)) (tb.lo tm_isPlan) (fun cv i t x y zs H' hx hy ht kp _ hz C hC => ?_) fun b H1 k1 hb => ?_⟩⟩
  · obtain ⟨n, hn, rfl⟩ := nums_of hx
    obtain ⟨kd, hk, ⟨c, vw, vb, vr, rfl, hc, _, _, ⟨ar, rs, rfl, har, hrs⟩⟩⟩ := Paired.at1 hks hy
    obtain ⟨kd', hk', lt⟩ := Paired.at1 hp hn
    rw [hk] at hk'
    cases hk'
    have lr := Paired.length hrs
    match zs, hz with
    | [z1, z2], _ =>
      refine ⟨t, _, rfl, SqT.of ht, rfl, _, _, rfl, _, _, rfl, rfl, ?_⟩
      refine ⟨_, rfl, _, rfl, c, _, 2, _, rfl, rfl, SqT.of (kp.tup hc), rfl, ar, _, rfl, .inr (SqT.of (kp.tup har)), _, _, rfl, rfl, ?_⟩
      exact ⟨(n : Int), 0, (rs.length : Int) - 1, rfl, by omega, by omega, hC [some (VN n), some (.ref c)] H' rfl (.refl _)⟩
  · obtain rfl : b = true := hb.mpr fun _ _ => rfl
    exact q H1 k1
def spNeedPlan (K : PySem.W.Frag) : Sp := fun vs H Q _ => ∃ (v u : V) (W : Works) (p : Plan), vs = [v, u] ∧ WorksV H v W ∧ LotV H u p ∧ PlanOk W p ∧ TabsOk K H ∧ ∀ H', Kp H H' → Q .non H'
theorem ok_needPlan (T : Tx P w K mg base) : Good P w K mg base "need_plan" 4 ["works", "value"] (spNeedPlan K) := by
  refine good_mk (k := 3) (N := ["works", "value"]) T dNeedPlan (by simp [fn]) T.gNeedPlan rfl rfl rfl ⟨rfl, rfl, rfl, by decide +kernel, rfl, by decide +kernel, by decide +kernel⟩ (fun vs H Q E ⟨v, u, W, p, e, _⟩ => by rw [e]; rfl) (fun _ _ _ _ _ _ us hl => match us, hl with | [_, _], _ => rfl) ?_
  intro A outer s H vs Q E hr h
  obtain ⟨v, u, W, p, rfl, hW, hu, hp, tb, q⟩ := h
  refine ⟨_, (pss_one
    (ps_if (pt_not (pt_val (pe_callG (ok_isPlan T) hr (by decide) (by rfl) (pa_cons (pv 0) (pa_cons (pv 1) pa_nil))))) (pss_one
    ps_never) pss_nil)), ?_⟩
  exact ⟨_, rfl, _, rfl, v, u, W, p, rfl, hW, hu, hp, tb, fun H1 k1 => ⟨true, rfl, iteF (q H1 k1)⟩⟩
/-! ### routes_of -/
def spRoutesOf : Sp := fun vs H Q _ => ∃ (v u : V) (W : Works) (p : Plan), vs = [v, u] ∧ WorksV H v W ∧ LotV H u p ∧ PlanOk W p ∧ OkWorks W ∧ ∀ a H', Kp H H' → LstV LotV H' a (routesOf W p) → Q (.ref a) H'
theorem zipWith_at {W : Works} {p : Plan} {i : Nat} {kd : Kind} {n : Nat} (h1 : W.kinds[i]? = some kd) (h2 : p[i]? = some n) : (routesOf W p)[i]? = some (routeOf kd n) := by
  unfold routesOf
  rw [List.getElem?_zipWith, h1, h2]
theorem routesOf_len {W : Works} {p : Plan} (hp : PlanOk W p) : (routesOf W p).length = W.kinds.length := by
  unfold routesOf
  rw [List.length_zipWith, Paired.length hp]
  omega
theorem take_snoc {α : Type} {l : List α} {i : Nat} {x : α} (h : l[i]? = some x) : l.take (i + 1) = l.take i ++ [x] := by
  rw [List.take_add_one, h]
  rfl
theorem ok_routesOf (T : Tx P w K mg base) : Good P w K mg base "routes_of" 1 ["works", "plan"] spRoutesOf := by
  refine good_mk (k := 0) (N := ["works", "plan", "kind", "number"]) T dRoutesOf (by simp [fn]) T.gRoutesOf rfl rfl rfl ⟨rfl, rfl, rfl, by decide +kernel, rfl, by decide +kernel, by decide +kernel⟩ (fun vs H Q E ⟨v, u, W, p, e, _⟩ => by rw [e]; rfl) (fun _ _ _ _ _ _ us hl => match us, hl with | [_, _], _ => rfl) ?_
  intro A outer s H vs Q E hr h
  obtain ⟨v, u, W, p, rfl, ⟨a, vv, vk, rfl, ha, ⟨av, vvs, rfl, hav, hvs⟩, ⟨ak, ks, rfl, hak, hks⟩⟩, ⟨b, rfl, hb⟩, hp, ok, q⟩ := h
  have l1 := Paired.length hks
  have l2 := Paired.length hp
  have l3 := ok.k3
  refine ⟨_, (pss_one
    (ps_ret (pe_lc (g := gTup K 2 (gCons (gName 2) (gCons (gName 3) gNil))) (own := [("kind", 2), ("number", 3)]) rfl (by decide +kernel : (["works", "plan", "kind", "number"] : List Str).Nodup) (pi_zipK K rfl (by rfl) T.fZip (pa_cons (pe_ix (ix_tupK K rfl) (pv 0) pe_int (fun _ _ => rfl)) (pa_cons (pv 1) pa_nil))) (blkOk_by (N := ["works", "plan", "kind", "number"]) (sc := dRoutesOf.scope) (by decide +kernel)) (fun _ _ _ _ _ => (by refine pg_tup (by rfl) ?_; refine pgs_cons ?_ (pgs_cons ?_ pgs_nil); exact pg_name (i := 2) (by decide +kernel : (["works", "plan", "kind", "number"] : List Str).Nodup) rfl (Or.inl rfl); exact pg_name (i := 3) (by decide +kernel : (["works", "plan", "kind", "number"] : List Str).Nodup) rfl (Or.inl rfl))) (fun _ _ _ _ _ => pts_nil) (fun _ _ _ _ _ => (pe_ix (ix_tupK K rfl) (pe_ix (ix_tupK K rfl) (pv 2) pe_int (fun _ _ => rfl)) (pv 3) (fun _ _ => rfl)))))), ?_⟩
  refine ⟨_, rfl, a, _, 2, _, rfl, rfl, SqT.of ha, rfl, _, rfl, ak, b, ks, _, rfl, .inr ⟨SqT.of hak, SqT.of hb, fun D hD => ?_⟩⟩
  refine lc_by ks.length (fun i x H' => ∃ t y n, x = .ref t ∧ ks[i]? = some y ∧ p[i]? = some n ∧ H' t = some (.tup [y, VN n])) (fun i H' => ∃ us, Kp H H' ∧ H' D = some (.lst us) ∧ Paired (LotV H') us ((routesOf W p).take i)) ?_ ?_ ?_ ?_ ?_
  · exact ⟨[], Kp.new (.refl _) hD, upd_same, by rw [List.take_zero]; exact .nil⟩
  · rintro i H' hi ⟨us, k, hD', hus⟩
    obtain ⟨go, yld⟩ := zip_go (K := K) (k.tup hak) (k.tup hb) hi (by rw [nums_len]; omega)
    refine ⟨go, fun x H'' hy => ?_⟩
    obtain ⟨t, y, z, rfl, h1, h2, hn, rfl⟩ := yld x H'' hy
    obtain ⟨n, hn', rfl⟩ := nums_of h2
    have kn : Kp H' (upd H' t (.tup [y, VN n])) := Kp.new (.refl _) hn
    exact ⟨⟨t, y, n, rfl, h1, hn', upd_same⟩, us, k.trans kn, kn.lst hD', Paired.ti (fun v x hx => hx.mono kn.ti) hus⟩
  · rintro H' ⟨us, k, hD', hus⟩
    exact zip_stop (k.tup hak) (k.tup hb) (.inl (Nat.le_refl _))
  · rintro i x H' hi ⟨t, y, n, rfl, h1, h2, ht⟩ ⟨us, k, hD', hus⟩
    obtain ⟨kd, hk, ⟨c, vw, vb, vr, rfl, hc, _, _, ⟨ar, rs, rfl, har, hrs⟩⟩⟩ := Paired.at1 hks h1
    obtain ⟨kd', hk', lt⟩ := Paired.at1 hp h2
    rw [hk] at hk'
    cases hk'
    obtain ⟨rv, hrv, hR⟩ := Paired.at2 hrs (List.getElem?_eq_getElem lt)
    refine ⟨t, _, rfl, SqT.of ht, rfl, _, _, rfl, _, _, rfl, rfl, ?_⟩
    refine ⟨rfl, ⟨_, rfl, c, _, 2, _, rfl, rfl, SqT.of (k.tup hc), rfl, _, rfl, ar, rs, n, rv, rfl, rfl, SqT.of (k.tup har), atI_nat hrv, us, hD', ?_, us ++ [rv], k.putL hD hD', upd_same, ?_⟩⟩
    · have := Paired.length hus
      rw [List.length_take] at this
      rw [sizeLine_eq]
      omega
    · have t1 : Ti H' (upd H' D (.lst (us ++ [rv]))) := Ti.putL hD'
      rw [take_snoc (zipWith_at hk h2)]
      refine Paired.snoc (Paired.ti (fun v x hx => hx.mono t1) hus) ?_
      have e : routeOf kd n = kd.routes[n] := by unfold routeOf; rw [List.getD_eq_getElem?_getD, List.getElem?_eq_getElem lt]; rfl
      rw [e]
      exact (hR.mono k.ti).mono t1
  · rintro H' ⟨us, k, hD', hus⟩
    refine q D H' k ⟨us, hD', ?_⟩
    rwa [List.take_of_length_le (by rw [routesOf_len hp]; omega)] at hus
end Dw
end

section
set_option Elab.async false
set_option linter.all false
set_option maxRecDepth 100000
set_option maxHeartbeats 1000000
namespace Dw
open PySem PySem.Spec PyProof.Rows L2
variable {P : Program} {w : World} {K : PySem.W.Frag} {mg : Str → Option Value} {base : Heap}
theorem LstV.kp {R : Hp → V → α → Prop} (hR : ∀ H H' v x, Kp H H' → R H v x → R H' v x) {H H' : Hp} {a : Addr} {xs : List α} (k : Kp H H') (h : LstV R H a xs) : LstV R H' a xs :=
  let ⟨vs, e, p⟩ := h; ⟨vs, k.lst e, Paired.ti (fun v x hx => hR H H' v x k hx) p⟩
theorem LstV.lots {H H' : Hp} {a : Addr} {xs : List Lot} (k : Kp H H') (h : LstV LotV H a xs) : LstV LotV H' a xs := h.kp (fun _ _ _ _ k h => h.mono k.ti) k
theorem LstV.stands {H H' : Hp} {a : Addr} {xs : List Stand} (k : Kp H H') (h : LstV StandV H a xs) : LstV StandV H' a xs := LstV.kp (R := StandV) (fun H H' v x k h => StandV.mono k.ti h) k h
def spClosed : Sp := fun vs H Q _ => ∃ (v : L2.V) (a : Addr) (V D : Nat) (st : Stand) (rs : List Route), vs = [v, .ref a] ∧ StandV H v st ∧ LstV LotV H a rs ∧ OkStand V D st ∧ D ≤ 4 ∧ V ≤ 4 ∧ (∀ r ∈ rs, ∀ v ∈ r, v < V) ∧
  ∀ v c H', Kp H H' → StandV H' v c → Reach rs st c → rs.foldl next c = c → Q v H'
theorem ok_closed (T : Tx P w K mg base) : Good P w K mg base "closed" 3 ["stand", "routes"] spClosed := by
  refine good_mk (k := 2) (N := ["stand", "routes", "later", "route"]) T dClosed (by simp [fn]) T.gClosed rfl rfl rfl ⟨rfl, rfl, rfl, by decide +kernel, rfl, by decide +kernel, by decide +kernel⟩ (fun vs H Q E ⟨v, a, V, D, st, rs, e, _⟩ => by rw [e]; rfl) (fun _ _ _ _ _ _ us hl => match us, hl with | [_, _], _ => rfl) ?_
  intro A outer s H vs Q E hr h
  obtain ⟨v0, a, V, D, st, rs, rfl, hst, ⟨us, ha, hus⟩, ok, hD, hV, hrv, q⟩ := h
  have lus := Paired.length hus
  refine ⟨_, (pss_one
    (ps_while PassesOwn.never (pt_val pe_bl) (pss_cons
    (ps_set (i := 2) (by decide +kernel : (["stand", "routes", "later", "route"] : List Str).Nodup) rfl (Or.inl rfl) (pv 0)) (pss_cons
    (ps_for PassesOwn.never rfl (pi_listK K rfl (pv 1)) (pg_name (i := 3) (by decide +kernel : (["stand", "routes", "later", "route"] : List Str).Nodup) rfl (Or.inl rfl)) (pss_one
    (ps_set (i := 2) (by decide +kernel : (["stand", "routes", "later", "route"] : List Str).Nodup) rfl (Or.inl rfl) (pe_ix (ix_tupK K rfl) (pe_callG (ok_behind T) hr (by decide) (by rfl) (pa_cons (pv 2) (pa_cons (pv 3) pa_nil))) pe_int (fun _ _ => rfl))))) (pss_cons
    (ps_if (pt_cmpR (op_eqDK K rfl (Room.units hr)) (pv 2) (pv 0) (nomark _)) (pss_one
    (ps_ret (pv 0))) pss_nil) (pss_one
    (ps_set (i := 0) (by decide +kernel : (["stand", "routes", "later", "route"] : List Str).Nodup) rfl (Or.inl rfl) (pv 2)))))))), ?_⟩
  refine ⟨fun m σ H' => ∃ sv c o2 o3, σ = [some sv, some (.ref a), o2, o3] ∧ Kp H H' ∧ StandV H' sv c ∧ Reach rs st c ∧ m = V * D - size c, ⟨_, v0, st, none, none, rfl, .refl _, hst, .here, rfl⟩, ?_⟩
  rintro m σ H1 ⟨sv, c, o2, o3, rfl, k1, hc, hr, rfl⟩
  have okc := hr.ok ok
  refine ⟨true, rfl, iteT ⟨fun σ' H' => ∃ m', m' < V * D - size c ∧ (∃ sv c o2 o3, σ' = [some sv, some (.ref a), o2, o3] ∧ Kp H H' ∧ StandV H' sv c ∧ Reach rs st c ∧ m' = V * D - size c), fun σ' H' h => h, ?_⟩⟩
  refine ⟨_, rfl, _, rfl, a, rfl, ⟨_, SqL.of (k1.lst ha)⟩, for_list (K := K) (a := a) (xs := us) (fun i σ H' => ∃ lv d o, σ = [some sv, some (.ref a), some lv, o] ∧ Kp H1 H' ∧ StandV H' lv d ∧ d = (rs.take i).foldl next c) ?_ ?_ ?_ ?_⟩
  · exact ⟨sv, c, o3, rfl, .refl _, hc, by rw [List.take_zero]; rfl⟩
  · rintro i σ H' _ ⟨lv, d, o, _, k, _⟩
    exact SqL.of ((k1.trans k).lst ha)
  · rintro i x σ H' hx ⟨lv, d, o, rfl, k, hd, ed⟩
    obtain ⟨r, hr1, hR⟩ := Paired.at1 hus hx
    have okd : OkStand V D d := by rw [ed]; exact sweep_ok _ okc
    refine ⟨_, rfl, _, rfl, lv, x, V, D, d, r, rfl, hd, hR.mono (k1.trans k).ti, okd, hD, hV, hrv r (List.mem_of_getElem? hr1), fun v H2 k2 hv => ?_⟩
    obtain ⟨t, x1, y1, rfl, ht, hx1, _⟩ := hv
    refine ⟨t, _, 0, _, rfl, rfl, SqT.of ht, rfl, x1, _, some x, rfl, k.trans k2, hx1, ?_⟩
    rw [take_snoc hr1, List.foldl_append, ← ed]
    rfl
  · rintro σ H2 ⟨lv, d, o, rfl, k2, hd, ed⟩
    rw [lus, List.take_length] at ed
    have hc2 := StandV.mono k2.ti hc
    refine ⟨_, rfl, _, rfl, _, _, StandV.dp hd, StandV.dp hc2, standD_shaped _, standD_shaped _, _, rfl, ?_⟩
    rw [standD_eqv]
    by_cases e : d = c
    · refine itT e ⟨_, rfl, ?_⟩
      exact q sv c H2 (k1.trans k2) hc2 hr (ed.symm.trans e)
    · refine itF e ⟨_, rfl, ?_⟩
      have okd : OkStand V D d := by rw [ed]; exact sweep_ok _ okc
      have up : LeS c d := by rw [ed]; exact sweep_up _ _
      have sz := size_lt okc.2 okd.2 up
      have lt : size c < size d := by
        rcases Nat.lt_or_ge (size c) (size d) with z | z
        · exact z
        · exact absurd (sz.2 z).symm e
      have top := size_le okd.2
      rw [okd.1] at top
      exact ⟨V * D - size d, by omega, lv, d, some lv, o, rfl, k1.trans k2, hd, by rw [ed]; exact sweep_reach _ (fun _ h => h) hr, rfl⟩

/-! ### is_fine -/
theorem plan_route_ok {W : Works} (ok : OkWorks W) {p : Plan} (hp : PlanOk W p) : ∀ r ∈ routesOf W p, ∀ v ∈ r, v < W.vats.length := fun r hr => by
  obtain ⟨kd, hk, h⟩ := List.mem_flatMap.mp (routesOf_sub hp r hr)
  exact ((ok.kind kd hk).route r h).2.2
theorem enum_go {K : PySem.W.Frag} {a : Addr} {xs : List L2.V} {H : Hp} {i : Nat} (ha : H a = some (.lst xs)) (h1 : i < xs.length) :
    (Ite K a).go i H ∧ ∀ v H', (Ite K a).yld i H v H' → ∃ t x, v = .ref t ∧ xs[i]? = some x ∧ H t = none ∧ H' = upd H t (.tup [.int (i : Nat), x]) := by
  refine ⟨⟨xs, _, SqL.of ha, List.getElem?_eq_getElem h1⟩, fun v H' hy => ?_⟩
  obtain ⟨t, x, e, hn, eH, q1⟩ := hy
  exact ⟨t, x, e, q1 xs (SqL.of ha), hn, eH⟩
def spIsFine (K : PySem.W.Frag) : Sp := fun vs H Q _ => ∃ (v u : L2.V) (W : Works) (p : Plan), vs = [v, u] ∧ WorksV H v W ∧ LotV H u p ∧ PlanOk W p ∧ OkWorks W ∧ TabsOk K H ∧ ∀ b H', Kp H H' → (b = true ↔ Fine W p) → Q (.bl b) H'
theorem ok_isFine (T : Tx P w K mg base) : Good P w K mg base "is_fine" 4 ["works", "plan"] (spIsFine K) := by
  refine good_mk (k := 3) (N := ["works", "plan", "routes", "stand", "kind", "route"]) T dIsFine (by simp [fn]) T.gIsFine rfl rfl rfl ⟨rfl, rfl, rfl, by decide +kernel, rfl, by decide +kernel, by decide +kernel⟩ (fun vs H Q E ⟨v, u, W, p, e, _⟩ => by rw [e]; rfl) (fun _ _ _ _ _ _ us hl => match us, hl with | [_, _], _ => rfl) ?_
  intro A outer s H vs Q E hr h
  obtain ⟨v, u, W, p, rfl, hW, hu, hp, ok, tb, q⟩ := h
  obtain ⟨a, vv, vk, rfl, ha, hsv, hkv⟩ := id hW
  refine ⟨_, (pss_cons
    (ps_set (i := 2) (by decide +kernel : (["works", "plan", "routes", "stand", "kind", "route"] : List Str).Nodup) rfl (Or.inl rfl) (pe_callG (ok_routesOf T) hr (by decide) (by rfl) (pa_cons (pv 0) (pa_cons (pv 1) pa_nil)))) (pss_cons
    (ps_set (i := 3) (by decide +kernel : (["works", "plan", "routes", "stand", "kind", "route"] : List Str).Nodup) rfl (Or.inl rfl) (pe_callG (ok_closed T) hr (by decide) (by rfl) (pa_cons (pe_ix (ix_tupK K rfl) (pv 0) pe_int (fun _ _ => rfl)) (pa_cons (pv 2) pa_nil)))) (pss_cons
    (ps_for (g := gTup K 2 (gCons (gName 4) (gCons (gName 5) gNil))) PassesOwn.never rfl (pi_enumK K rfl (by rfl) T.fEnumerate (pa_cons (pv 2) pa_nil)) (by refine pg_tup (by rfl) ?_; refine pgs_cons ?_ (pgs_cons ?_ pgs_nil); exact pg_name (i := 4) (by decide +kernel : (["works", "plan", "routes", "stand", "kind", "route"] : List Str).Nodup) rfl (Or.inl rfl); exact pg_name (i := 5) (by decide +kernel : (["works", "plan", "routes", "stand", "kind", "route"] : List Str).Nodup) rfl (Or.inl rfl)) (pss_one
    (ps_if (PW.pt (pw_or (pt_not (pt_val (pe_callG (ok_hasWants T) hr (by decide) (by rfl) (pa_cons (pv 0) (pa_cons (pv 4) (pa_cons (pv 5) pa_nil)))))) (pw_or1 (pt_not (pt_val (pe_callG (ok_isClean T) hr (by decide) (by rfl) (pa_cons (pv 0) (pa_cons (pv 4) (pa_cons (pe_ix (ix_tupK K rfl) (pe_callG (ok_behind T) hr (by decide) (by rfl) (pa_cons (pv 3) (pa_cons (pv 5) pa_nil))) pe_int (fun _ _ => rfl)) pa_nil))))))))) (pss_one
    (ps_ret pe_bl)) pss_nil))) (pss_one
    (ps_ret pe_bl))))), ?_⟩
  refine ⟨_, rfl, _, rfl, _, u, W, p, rfl, hW, hu, hp, ok, fun ar H1 k1 hrs => ?_⟩
  have hrv := plan_route_ok ok hp
  refine ⟨_, rfl, a, _, 1, _, rfl, rfl, SqT.of (k1.tup ha), rfl, _, rfl, vv, ar, _, W.dyes, W.vats, _, rfl, StandV.mono k1.ti hsv, hrs, ok.stand, ok.d4, ok.v4, hrv, fun sv c H2 k2 hc hr hf => ?_⟩
  have k12 := k1.trans k2
  have okc := hr.ok ok.stand
  obtain ⟨us, har, hus⟩ := hrs.lots k2
  have lus := Paired.length hus
  have lro := routesOf_len hp
  refine ⟨_, rfl, ar, us, rfl, SqL.of har, for_by us.length (fun i x H' => ∃ t y, x = .ref t ∧ us[i]? = some y ∧ H' t = some (.tup [VN i, y]))
    (fun i σ H' => ∃ o4 o5, σ = [some (.ref a), some u, some (.ref ar), some sv, o4, o5] ∧ Kp H2 H' ∧ ∀ j kd r, j < i → W.kinds[j]? = some kd → (routesOf W p)[j]? = some r → goodR W kd c r = true) ?_ ?_ ?_ ?_ ?_⟩
  · exact ⟨none, none, rfl, .refl _, fun j _ _ hj => by omega⟩
  · rintro i σ H' hi ⟨o4, o5, rfl, k, hg⟩
    obtain ⟨go, yld⟩ := enum_go (K := K) (k.lst har) hi
    refine ⟨go, fun x H'' hy => ?_⟩
    obtain ⟨t, y, rfl, h1, hn, rfl⟩ := yld x H'' hy
    have kn : Kp H' (upd H' t (.tup [.int (i : Nat), y])) := Kp.new (.refl _) hn
    exact ⟨⟨t, y, rfl, h1, upd_same⟩, o4, o5, rfl, k.trans kn, hg⟩
  · rintro σ H' ⟨o4, o5, rfl, k, hg⟩
    exact ⟨us, SqL.of (k.lst har), Nat.le_refl _⟩
  · rintro i x σ H' hi ⟨t, y, rfl, h1, ht⟩ ⟨o4, o5, rfl, k, hg⟩
    obtain ⟨r, hr1, hR⟩ := Paired.at1 hus h1
    have ik : i < W.kinds.length := by have := (List.getElem?_eq_some_iff.mp hr1).1; omega
    have hkd := List.getElem?_eq_getElem ik
    generalize W.kinds[i] = kd at hkd
    have k3 := k12.trans k
    have rv := hrv r (List.mem_of_getElem? hr1)
    have mem : (kd, r) ∈ List.zip W.kinds (routesOf W p) := by
      refine List.mem_of_getElem? (i := i) ?_
      rw [List.zip, List.getElem?_zipWith, hkd, hr1]
    have bad : ∀ H4, Kp H' H4 → goodR W kd c r = false → Q (.bl false) H4 := fun H4 k4 e => q false H4 (k3.trans k4) ⟨(fun z => nomatch z), fun z => by
      have := (fine_iff ok hr hf).mp z _ mem
      rw [e] at this
      exact this⟩
    refine ⟨t, _, rfl, SqT.of ht, rfl, _, _, rfl, _, _, rfl, rfl, ?_⟩
    refine ⟨_, rfl, _, rfl, _, rfl, _, y, i, W, kd, r, rfl, hW.mono k3.ti, hR.mono k.ti, hkd, rv, tb.kp k3, fun H4 k4 => ⟨_, rfl, ?_⟩⟩
    cases hw : hasWants W kd r with
    | false => exact iteT (iteT (bad H4 k4 (by unfold goodR; rw [hw]; rfl)))
    | true =>
      refine iteF ⟨_, rfl, _, rfl, _, rfl, _, rfl, sv, y, _, W.dyes, c, r, rfl, StandV.mono (k.trans k4).ti hc, hR.mono (k.trans k4).ti, okc, ok.d4, ok.v4, rv, fun v H5 k5 hv => ?_⟩
      obtain ⟨t2, x1, y1, rfl, ht2, _, hy1⟩ := hv
      have k45 := k4.trans k5
      refine ⟨t2, _, 1, _, rfl, rfl, SqT.of ht2, rfl, _, y1, i, W, kd, _, rfl, hW.mono (k3.trans k45).ti, hy1, hkd, tb.kp (k3.trans k45), fun H6 k6 => ⟨_, rfl, ?_⟩⟩
      have e : goodR W kd c r = isClean kd (passL c [] r).2 := by unfold goodR; rw [hw]; rfl
      cases hcl : isClean kd (passL c [] r).2 with
      | false => exact iteT (bad H6 (k45.trans k6) (by rw [e, hcl]))
      | true =>
        refine iteF ⟨_, _, rfl, k.trans (k45.trans k6), fun j kd' r' hj g1 g2 => ?_⟩
        rcases Nat.lt_or_ge j i with z | z
        · exact hg j kd' r' z g1 g2
        · obtain rfl : j = i := by omega
          rw [hkd] at g1
          rw [hr1] at g2
          cases g1
          cases g2
          rw [e, hcl]
  · rintro σ H' ⟨o4, o5, rfl, k, hg⟩
    refine q true H' (k12.trans k) ⟨fun _ => (fine_iff ok hr hf).mpr fun x hx => ?_, fun _ => rfl⟩
    obtain ⟨j, hj⟩ := List.mem_iff_getElem?.mp hx
    rw [List.zip, List.getElem?_zipWith] at hj
    cases e1 : W.kinds[j]? with
    | none => rw [e1] at hj; cases hj
    | some kd =>
      cases e2 : (routesOf W p)[j]? with
      | none => rw [e1, e2] at hj; cases hj
      | some r =>
        rw [e1, e2] at hj
        have := Option.some.inj hj
        rw [← this]
        have := (List.getElem?_eq_some_iff.mp e1).1
        exact hg j kd r (by omega) e1 e2
end Dw
end

section
set_option Elab.async false
set_option linter.all false
set_option maxRecDepth 100000
set_option maxHeartbeats 1000000
namespace Dw
open PySem PySem.Spec PyProof.Rows L2
variable {P : Program} {w : World} {K : PySem.W.Frag} {mg : Str → Option Value} {base : Heap}
def spIsGood (K : PySem.W.Frag) : Sp := spIsFine K
theorem ok_isGood (T : Tx P w K mg base) : Good P w K mg base "is_good" 8 ["works", "plan"] (spIsGood K) := by
  refine good_mk (k := 7) (N := ["works", "plan"]) T dIsGood (by simp [fn]) T.gIsGood rfl rfl rfl ⟨rfl, rfl, rfl, by decide +kernel, rfl, by decide +kernel, by decide +kernel⟩ (fun vs H Q E ⟨v, u, W, p, e, _⟩ => by rw [e]; rfl) (fun _ _ _ _ _ _ us hl => match us, hl with | [_, _], _ => rfl) ?_
  intro A outer s H vs Q E hr h
  obtain ⟨v, u, W, p, rfl, hW, hu, hp, ok, tb, q⟩ := h
  refine ⟨_, (pss_cons
    (ps_expr (pe_callG (ok_needWorks T) hr (by decide) (by rfl) (pa_cons (pv 0) pa_nil))) (pss_cons
    (ps_expr (pe_callG (ok_needPlan T) hr (by decide) (by rfl) (pa_cons (pv 0) (pa_cons (pv 1) pa_nil)))) (pss_one
    (ps_ret (pe_callG (ok_isFine T) hr (by decide) (by rfl) (pa_cons (pv 0) (pa_cons (pv 1) pa_nil))))))), ?_⟩
  refine ⟨_, rfl, _, W, rfl, hW, ok, tb, fun H1 k1 => ⟨_, rfl, _, rfl, _, _, W, p, rfl, hW.mono k1.ti, hu.mono k1.ti, hp, tb.kp k1, fun H2 k2 => ⟨_, rfl, _, rfl, _, _, W, p, rfl, hW.mono (k1.trans k2).ti, hu.mono (k1.trans k2).ti, hp, ok, tb.kp (k1.trans k2), fun b H3 k3 hb => ?_⟩⟩⟩
  exact q b H3 ((k1.trans k2).trans k3) hb
def spShowsPlan (K : PySem.W.Frag) : Sp := spIsFine K
theorem ok_showsPlan (T : Tx P w K mg base) : Good P w K mg base "shows_plan" 8 ["works", "value"] (spShowsPlan K) := by
  refine good_mk (k := 7) (N := ["works", "value"]) T dShowsPlan (by simp [fn]) T.gShowsPlan rfl rfl rfl ⟨rfl, rfl, rfl, by decide +kernel, rfl, by decide +kernel, by decide +kernel⟩ (fun vs H Q E ⟨v, u, W, p, e, _⟩ => by rw [e]; rfl) (fun _ _ _ _ _ _ us hl => match us, hl with | [_, _], _ => rfl) ?_
  intro A outer s H vs Q E hr h
  obtain ⟨v, u, W, p, rfl, hW, hu, hp, ok, tb, q⟩ := h
  refine ⟨_, (pss_cons
    (ps_expr (pe_callG (ok_needWorks T) hr (by decide) (by rfl) (pa_cons (pv 0) pa_nil))) (pss_one
    (ps_ret (pe_and (pe_callG (ok_isPlan T) hr (by decide) (by rfl) (pa_cons (pv 0) (pa_cons (pv 1) pa_nil))) (pe_one (pe_callG (ok_isFine T) hr (by decide) (by rfl) (pa_cons (pv 0) (pa_cons (pv 1) pa_nil)))))))), ?_⟩
  refine ⟨_, rfl, _, W, rfl, hW, ok, tb, fun H1 k1 => ⟨_, rfl, _, rfl, _, _, W, p, rfl, hW.mono k1.ti, hu.mono k1.ti, hp, tb.kp k1, fun H2 k2 => ⟨true, rfl, iteT ⟨_, rfl, _, rfl, _, _, W, p, rfl, hW.mono (k1.trans k2).ti, hu.mono (k1.trans k2).ti, hp, ok, tb.kp (k1.trans k2), fun b H3 k3 hb => ?_⟩⟩⟩⟩
  exact q b H3 ((k1.trans k2).trans k3) hb
/-! ### all_plans -/
theorem plans_le : ∀ (ks : List Kind) (acc : List Plan) (n : Nat), (∀ kd ∈ ks, kd.routes.length ≤ 4) → acc.length ≤ n → (ks.foldl longer acc).length ≤ n * 4 ^ ks.length
  | [], acc, n, _, h => by simpa using h
  | kd :: ks, acc, n, hk, h => by
    rw [List.foldl_cons]
    have h1 : (longer acc kd).length ≤ n * 4 := by
      rw [length_longer]
      exact Nat.mul_le_mul h (hk kd (List.mem_cons_self ..))
    have := plans_le ks (longer acc kd) (n * 4) (fun k h => hk k (List.mem_cons_of_mem _ h)) h1
    rw [List.length_cons, Nat.pow_succ, Nat.mul_comm (4 ^ ks.length) 4, ← Nat.mul_assoc]
    exact this
theorem plans64 {W : Works} (ok : OkWorks W) (i : Nat) : ((W.kinds.take i).foldl longer [[]]).length ≤ 64 := by
  have h := plans_le (W.kinds.take i) [[]] 1 (fun kd hk => (ok.kind kd (List.mem_of_mem_take hk)).r4) (Nat.le_refl _)
  have l : (W.kinds.take i).length ≤ 3 := by rw [List.length_take]; have := ok.k3; omega
  have : 4 ^ (W.kinds.take i).length ≤ 4 ^ 3 := Nat.pow_le_pow_right (by decide) l
  omega
theorem cat_one {K : PySem.W.Frag} {H : Hp} {C : VK} {a b : Addr} {p : Plan} {j : Nat} (ha : H a = some (.tup (nums p))) (hb : H b = some (.tup [VN j])) (hl : p.length + 1 ≤ sizeLine)
    (h : ∀ c H', Kp H H' → H' c = some (.tup (nums (p ++ [j]))) → C (.ref c) H') : rCatA K (.ref a) (.ref b) H C := by
  refine ⟨a, b, nums p, [VN j], rfl, rfl, SqT.of ha, SqT.of hb, by rw [nums_len]; exact hl, fun e => h b _ (.refl _) ?_, fun _ e => (by cases e), fun _ _ x hx => h x _ (Kp.new (.refl _) hx) ?_⟩
  · have : p = [] := by cases p with | nil => rfl | cons _ _ => cases e
    rw [this]
    exact hb
  · rw [upd_same]
    unfold nums
    rw [List.map_append]
    rfl
def spAllPlans : Sp := fun vs H Q _ => ∃ (v : L2.V) (W : Works), vs = [v] ∧ WorksV H v W ∧ OkWorks W ∧ ∀ a H', Kp H H' → LstV LotV H' a (plans W) → Q (.ref a) H'
theorem ok_allPlans (T : Tx P w K mg base) : Good P w K mg base "all_plans" 1 ["works"] spAllPlans := by
  refine good_mk (k := 0) (N := ["works", "found", "kind", "plan", "number"]) T dAllPlans (by simp [fn]) T.gAllPlans rfl rfl rfl ⟨rfl, rfl, rfl, by decide +kernel, rfl, by decide +kernel, by decide +kernel⟩ (fun vs H Q E ⟨v, W, e, _⟩ => by rw [e]; rfl) (fun _ _ _ _ _ _ us hl => match us, hl with | [_], _ => rfl) ?_
  intro A outer s H vs Q E hr h
  obtain ⟨v, W, rfl, ⟨a, vv, vk, rfl, ha, hsv, ⟨ak, ks, rfl, hak, hks⟩⟩, ok, q⟩ := h
  have lk := Paired.length hks
  refine ⟨_, (pss_cons
    (ps_set (i := 1) (by decide +kernel : (["works", "found", "kind", "plan", "number"] : List Str).Nodup) rfl (Or.inl rfl) (pe_lst (pa_cons (pe_tup pa_nil) pa_nil))) (pss_cons
    (ps_for PassesOwn.never rfl (pi_tupK K rfl (pe_ix (ix_tupK K rfl) (pv 0) pe_int (fun _ _ => rfl))) (pg_name (i := 2) (by decide +kernel : (["works", "found", "kind", "plan", "number"] : List Str).Nodup) rfl (Or.inr rfl)) (pss_one
    (ps_setLc2 (i := 1) (own := [("plan", 3), ("number", 4)]) (vs1 := [4]) rfl (by decide +kernel : (["works", "found", "kind", "plan", "number"] : List Str).Nodup) rfl rfl (sw_true rfl rfl rfl (by decide +kernel)) (pi_listK K rfl (pv 1)) (blkOk_by (N := ["works", "found", "kind", "plan", "number"]) (sc := dAllPlans.scope) (by decide +kernel)) (by decide) (fun _ _ _ _ _ => (pg_name (i := 3) (by decide +kernel : (["works", "found", "kind", "plan", "number"] : List Str).Nodup) rfl (Or.inl rfl))) (fun _ _ _ _ _ => pts_nil) (fun _ _ _ _ _ => (pi_range1 (by rfl) T.fRange (pa_cons (pe_callB (call_lenK K rfl) (by rfl) T.fLen PySem.boot_len (pa_cons (pe_ix (ix_tupK K rfl) (pv 2) pe_int (fun _ _ => rfl)) pa_nil)) pa_nil))) (fun _ _ _ _ _ => (pg_name (i := 4) (by decide +kernel : (["works", "found", "kind", "plan", "number"] : List Str).Nodup) rfl (Or.inl rfl))) (fun _ _ _ _ _ => pts_nil) (fun _ _ _ _ _ => (pe_op (op_catAK K rfl) (pv 3) (pe_tup (pa_cons (pv 4) pa_nil))))))) (pss_one
    (ps_ret (pv 1))))), ?_⟩
  refine ⟨Nat.zero_le _, fun t ht => ⟨(by show 1 ≤ sizeLine; decide), fun L hL => ?_⟩⟩
  have k1 : Kp H (upd (upd H t (.tup [])) L (.lst [.ref t])) := (Kp.new (.refl _) ht).trans (Kp.new (.refl _) hL)
  refine ⟨_, rfl, a, _, 2, _, rfl, rfl, SqT.of (k1.tup ha), rfl, ak, rfl, ⟨_, SqT.of (k1.tup hak)⟩, for_tup (K := K) (a := ak) (xs := ks) (fun i σ H' => ∃ fa us o2 o3 o4, σ = [some (.ref a), some (.ref fa), o2, o3, o4] ∧ Kp H H' ∧ H' fa = some (.lst us) ∧ Paired (LotV H') us ((W.kinds.take i).foldl longer [[]])) ?_ ?_ ?_ ?_⟩
  · refine ⟨L, _, none, none, none, rfl, k1, upd_same, .cons ⟨t, rfl, ?_⟩ .nil⟩
    exact (Kp.new (.refl _) hL).tup upd_same
  · rintro i σ H' _ ⟨fa, us, o2, o3, o4, _, k, _⟩
    exact SqT.of (k.tup hak)
  · rintro i x σ H1 hx ⟨fa, us, o2, o3, o4, rfl, k, hfa, hus⟩
    obtain ⟨kd, hk, ⟨c, vw, vb, vr, rfl, hc, _, _, ⟨ar, rs, rfl, har, hrs⟩⟩⟩ := Paired.at1 hks hx
    have r4 := (ok.kind kd (List.mem_of_getElem? hk)).r4
    have lr := Paired.length hrs
    have h64 := plans64 ok (i + 1)
    rw [take_snoc hk, List.foldl_append, List.foldl_cons, List.foldl_nil] at h64
    generalize hfs : (W.kinds.take i).foldl longer [[]] = fs at hus h64
    have lus := Paired.length hus
    have part : ∀ (i n : Nat) (p : Plan), fs[i]? = some p → n < kd.routes.length → ((fs.take i).flatMap (fun p => (List.range kd.routes.length).map fun n => p ++ [n])).length + n < 64 := by
      intro i n p hp hn
      have e1 := length_longer (fs.take i) kd
      unfold longer at e1
      rw [e1]
      rw [length_longer] at h64
      have il := (List.getElem?_eq_some_iff.mp hp).1
      rw [List.length_take, Nat.min_eq_left (by omega)]
      have : (i + 1) * kd.routes.length ≤ fs.length * kd.routes.length := Nat.mul_le_mul_right _ il
      rw [Nat.succ_mul] at this
      omega
    have hlen : ∀ p ∈ fs, p.length ≤ 3 := fun p hp => by
      rw [← hfs] at hp
      have := (mem_foldl_longer (W.kinds.take i) [] [[]] (fun p => by
        constructor
        · intro h; rw [List.mem_singleton.mp h]; exact .nil
        · intro h; cases h; simp) p).mp hp
      have e := Paired.length this
      rw [List.nil_append, List.length_take] at e
      have := ok.k3
      omega
    refine ⟨_, rfl, fa, rfl, ⟨_, SqL.of hfa⟩, fun D hD => ⟨fun i m H2 => i ≤ us.length ∧ m = us.length - i ∧ ∃ acc, Kp H1 H2 ∧ H2 D = some (.lst acc) ∧ Paired (LotV H2) acc ((fs.take i).flatMap (fun p => (List.range kd.routes.length).map fun n => p ++ [n])),
      ⟨_, Nat.zero_le _, rfl, [], Kp.new (.refl _) hD, upd_same, by rw [List.take_zero]; exact .nil⟩, ?_⟩⟩
    rintro i m H2 ⟨hi, rfl, acc, k2, hD', hacc⟩
    rcases Nat.lt_or_ge i us.length with hlt | hge
    · refine .inr ⟨⟨us, _, SqL.of (k2.lst hfa), List.getElem?_eq_getElem hlt⟩, fun H' => ∃ acc, Kp H1 H' ∧ H' D = some (.lst acc) ∧ Paired (LotV H') acc ((fs.take (i + 1)).flatMap (fun p => (List.range kd.routes.length).map fun n => p ++ [n])),
        fun H' h => ⟨us.length - (i + 1), by omega, hlt, rfl, h⟩, fun x H' hy => ?_⟩
      obtain ⟨rfl, hy⟩ := hy
      obtain ⟨p, hp, ⟨pa, rfl, hpa⟩⟩ := Paired.at1 hus (hy us (SqL.of (k2.lst hfa)))
      have k12 := k.trans k2
      refine ⟨rfl, _, rfl, c, _, 2, _, rfl, rfl, SqT.of (k12.tup hc), rfl, ar, rs, rfl, .inr (SqT.of (k12.tup har)), _, rfl, by omega, by omega, ?_⟩
      refine ⟨fun j m H3 => j ≤ rs.length ∧ m = rs.length - j ∧ ∃ acc, Kp H1 H3 ∧ H3 D = some (.lst acc) ∧ Paired (LotV H3) acc ((fs.take i).flatMap (fun p => (List.range kd.routes.length).map fun n => p ++ [n]) ++ (List.range j).map fun n => p ++ [n]),
        ⟨_, Nat.zero_le _, rfl, acc, k2, hD', by rw [List.range_zero, List.map_nil, List.append_nil]; exact hacc⟩, ?_⟩
      rintro j m H3 ⟨hj, rfl, acc3, k3, hD3, hacc3⟩
      rcases Nat.lt_or_ge j rs.length with hl2 | hg2
      · refine .inr ⟨(by show j < Int.toNat _; omega), fun H' => ∃ acc, Kp H1 H' ∧ H' D = some (.lst acc) ∧ Paired (LotV H') acc ((fs.take i).flatMap (fun p => (List.range kd.routes.length).map fun n => p ++ [n]) ++ (List.range (j + 1)).map fun n => p ++ [n]),
          fun H' h => ⟨rs.length - (j + 1), by omega, hl2, rfl, h⟩, fun x H' hy => ?_⟩
        obtain ⟨rfl, rfl⟩ := hy
        refine ⟨rfl, _, rfl, _, rfl, (by show 1 ≤ sizeLine; decide), fun t ht => ?_⟩
        have kt : Kp H' (upd H' t (.tup [.int (0 + (j : Int))])) := Kp.new (.refl _) ht
        have ej : (.int (0 + (j : Int)) : L2.V) = VN j := by rw [Int.zero_add]
        rw [ej] at kt ⊢
        have tn : (upd H' t (.tup [VN j])) t = some (.tup (nums [j])) := upd_same
        have pn := (k3.trans kt).tup hpa
        have sz : p.length + 1 ≤ sizeLine := by
          have e1 := hlen p (List.mem_of_getElem? hp)
          rw [sizeLine_eq]
          omega
        show rCatA K (.ref pa) (.ref t) (upd H' t (.tup [VN j])) _
        refine cat_one pn tn sz fun c H4 k4 hc4 => ?_
        have kk := kt.trans k4
        refine ⟨acc3, kk.lst hD3, ?_, acc3 ++ [.ref c], ?_, upd_same, ?_⟩
        · have l := Paired.length hacc3
          rw [List.length_append, List.length_map, List.length_range] at l
          have := part i j p hp (by omega)
          rw [sizeLine_eq]
          omega
        · exact (k3.trans kk).putL hD (kk.lst hD3)
        · have t1 : Ti H4 (upd H4 D (.lst (acc3 ++ [.ref c]))) := Ti.putL (kk.lst hD3)
          rw [List.range_succ, List.map_append, ← List.append_assoc]
          exact Paired.snoc (Paired.ti (fun v x hx => hx.mono (kk.ti.trans t1)) hacc3) ⟨c, rfl, t1 _ _ hc4⟩
      · obtain rfl : j = rs.length := by omega
        refine .inl ⟨(by show Int.toNat _ ≤ rs.length; omega), acc3, k3, hD3, ?_⟩
        rw [lr] at hacc3
        rw [take_snoc hp, List.flatMap_append, List.flatMap_singleton]
        exact hacc3
    · obtain rfl : i = us.length := by omega
      refine .inl ⟨⟨us, SqL.of (k2.lst hfa), Nat.le_refl _⟩, D, acc, _, _, _, rfl, k.trans k2, hD', ?_⟩
      rw [take_snoc hk, List.foldl_append, List.foldl_cons, List.foldl_nil, hfs]
      rw [lus, List.take_length] at hacc
      exact hacc
  · rintro σ H1 ⟨fa, us, o2, o3, o4, rfl, k, hfa, hus⟩
    rw [lk, List.take_length] at hus
    exact ⟨_, rfl, q fa H1 k ⟨us, hfa, hus⟩⟩
end Dw
end

section
set_option Elab.async false
set_option linter.all false
set_option maxRecDepth 100000
set_option maxHeartbeats 1000000
namespace Dw
open PySem PySem.Spec PyProof.Rows L2
variable {P : Program} {w : World} {K : PySem.W.Frag} {mg : Str → Option Value} {base : Heap}
open Classical in
noncomputable def fineB (W : Works) (p : Plan) : Bool := decide (Fine W p)
theorem fineB_iff {W : Works} {p : Plan} : fineB W p = true ↔ Fine W p := by unfold fineB; exact @decide_eq_true_iff _ (Classical.propDecidable _)
noncomputable def fines (W : Works) : List Plan := (plans W).filter (fineB W)
theorem plans_len {W : Works} (ok : OkWorks W) : (plans W).length ≤ 64 := by
  have := plans64 ok W.kinds.length
  rwa [List.take_length] at this
def spFinePlans (K : PySem.W.Frag) : Sp := fun vs H Q _ => ∃ (v : V) (W : Works), vs = [v] ∧ WorksV H v W ∧ OkWorks W ∧ TabsOk K H ∧ ∀ a H', Kp H H' → LstV LotV H' a (fines W) → Q (.ref a) H'
theorem ok_finePlans (T : Tx P w K mg base) : Good P w K mg base "fine_plans" 5 ["works"] (spFinePlans K) := by
  refine good_mk (k := 4) (N := ["works", "plan"]) T dFinePlans (by simp [fn]) T.gFinePlans rfl rfl rfl ⟨rfl, rfl, rfl, by decide +kernel, rfl, by decide +kernel, by decide +kernel⟩ (fun vs H Q E ⟨v, W, e, _⟩ => by rw [e]; rfl) (fun _ _ _ _ _ _ us hl => match us, hl with | [_], _ => rfl) ?_
  intro A outer s H vs Q E hr h
  obtain ⟨v, W, rfl, hW, ok, tb, q⟩ := h
  have l64 := plans_len ok
  refine ⟨_, (pss_one
    (ps_ret (pe_lc (own := [("plan", 1)]) rfl (by decide +kernel : (["works", "plan"] : List Str).Nodup) (pi_listK K rfl (pe_callG (ok_allPlans T) hr (by decide) (by rfl) (pa_cons (pv 0) pa_nil))) (blkOk_by (N := ["works", "plan"]) (sc := dFinePlans.scope) (by decide +kernel)) (fun _ _ _ _ _ => (pg_name (i := 1) (by decide +kernel : (["works", "plan"] : List Str).Nodup) rfl (Or.inl rfl))) (fun _ _ _ _ _ => pts_one (pt_val (pe_callG (ok_isFine T) hr (by decide) (by rfl) (pa_cons (pv 0) (pa_cons (pv 1) pa_nil))))) (fun _ _ _ _ _ => (pv 1))))), ?_⟩
  refine ⟨_, rfl, _, W, rfl, hW, ok, fun a H1 k1 ⟨us, ha, hus⟩ => ⟨a, rfl, ⟨_, SqL.of ha⟩, fun D hD => ?_⟩⟩
  have lus := Paired.length hus
  refine lc_list (xs := us) (fun i H' => ∃ acc, Kp H1 H' ∧ H' D = some (.lst acc) ∧ Paired (LotV H') acc (((plans W).take i).filter (fineB W))) ?_ ?_ ?_ ?_
  · exact ⟨[], Kp.new (.refl _) hD, upd_same, by rw [List.take_zero]; exact .nil⟩
  · rintro i H' _ ⟨acc, k, _⟩
    exact SqL.of (k.lst ha)
  · rintro i x H' hx ⟨acc, k, hD', hacc⟩
    obtain ⟨p, hp, hP⟩ := Paired.at1 hus hx
    have k2 := k1.trans k
    have okp := mem_plans.mp (List.mem_of_getElem? hp)
    refine ⟨rfl, _, rfl, _, rfl, v, x, W, p, rfl, hW.mono k2.ti, hP.mono k.ti, okp, ok, tb.kp k2, fun b H2 k3 hb => ⟨b, rfl, ?_⟩⟩
    have eb : b = fineB W p := by rw [Bool.eq_iff_iff, hb, fineB_iff]
    rw [take_snoc hp, List.filter_append]
    cases b with
    | true =>
      refine iteT ⟨x, rfl, acc, k3.lst hD', ?_, acc ++ [x], (k.trans k3).putL hD (k3.lst hD'), upd_same, ?_⟩
      · have := Paired.length hacc
        have l2 := List.length_filter_le (fineB W) ((plans W).take i)
        rw [List.length_take] at l2
        rw [sizeLine_eq]
        omega
      · have t1 : Ti H2 (upd H2 D (.lst (acc ++ [x]))) := Ti.putL (k3.lst hD')
        rw [show [p].filter (fineB W) = [p] by simp [List.filter_cons, ← eb]]
        exact Paired.snoc (Paired.ti (fun v x hx => hx.mono (k3.ti.trans t1)) hacc) (hP.mono ((k.trans k3).ti.trans t1))
    | false =>
      refine iteF ⟨acc, k.trans k3, k3.lst hD', ?_⟩
      rw [show [p].filter (fineB W) = [] by simp [List.filter_cons, ← eb], List.append_nil]
      exact Paired.ti (fun v x hx => hx.mono k3.ti) hacc
  · rintro H' ⟨acc, k, hD', hacc⟩
    rw [lus, List.take_length] at hacc
    exact q D H' (k1.trans k) ⟨acc, hD', hacc⟩
def spGoodPlans (K : PySem.W.Frag) : Sp := fun vs H Q _ => ∃ (v : V) (W : Works), vs = [v] ∧ WorksV H v W ∧ OkWorks W ∧ TabsOk K H ∧ ∀ v H', Kp H H' → TupV LotV H' v (fines W) → Q v H'
theorem ok_goodPlans (T : Tx P w K mg base) : Good P w K mg base "good_plans" 8 ["works"] (spGoodPlans K) := by
  refine good_mk (k := 7) (N := ["works"]) T dGoodPlans (by simp [fn]) T.gGoodPlans rfl rfl rfl ⟨rfl, rfl, rfl, by decide +kernel, rfl, by decide +kernel, by decide +kernel⟩ (fun vs H Q E ⟨v, W, e, _⟩ => by rw [e]; rfl) (fun _ _ _ _ _ _ us hl => match us, hl with | [_], _ => rfl) ?_
  intro A outer s H vs Q E hr h
  obtain ⟨v, W, rfl, hW, ok, tb, q⟩ := h
  refine ⟨_, (pss_cons
    (ps_expr (pe_callG (ok_needWorks T) hr (by decide) (by rfl) (pa_cons (pv 0) pa_nil))) (pss_one
    (ps_ret (pe_callTy (call_tupleK K rfl) (by rfl) T.fTuple (by decide +kernel) (pa_cons (pe_callG (ok_finePlans T) hr (by decide) (by rfl) (pa_cons (pv 0) pa_nil)) pa_nil))))), ?_⟩
  refine ⟨_, rfl, _, W, rfl, hW, ok, tb, fun H1 k1 => ⟨_, rfl, _, W, rfl, hW.mono k1.ti, ok, tb.kp k1, fun a H2 k2 ⟨us, ha, hus⟩ => ⟨a, us, rfl, .inl ⟨SqL.of ha, fun t ht => ?_⟩⟩⟩⟩
  have kn : Kp H2 (upd H2 t (.tup us)) := Kp.new (.refl _) ht
  exact q _ _ ((k1.trans k2).trans kn) ⟨t, us, rfl, upd_same, Paired.ti (fun v x hx => hx.mono kn.ti) hus⟩
def SomeV (H : Hp) (v : V) : List Plan → Prop
  | [] => v = .non
  | p :: _ => LotV H v p
theorem SomeV.mono {H H' : Hp} (t : Ti H H') {v : V} : ∀ {l : List Plan}, SomeV H v l → SomeV H' v l
  | [], h => h
  | _ :: _, h => LotV.mono t h
def spSomePlan (K : PySem.W.Frag) : Sp := fun vs H Q _ => ∃ (v : V) (W : Works), vs = [v] ∧ WorksV H v W ∧ OkWorks W ∧ TabsOk K H ∧ ∀ v H', Kp H H' → SomeV H' v (fines W) → Q v H'
theorem ok_somePlan (T : Tx P w K mg base) : Good P w K mg base "some_plan" 8 ["works"] (spSomePlan K) := by
  refine good_mk (k := 7) (N := ["works", "found"]) T dSomePlan (by simp [fn]) T.gSomePlan rfl rfl rfl ⟨rfl, rfl, rfl, by decide +kernel, rfl, by decide +kernel, by decide +kernel⟩ (fun vs H Q E ⟨v, W, e, _⟩ => by rw [e]; rfl) (fun _ _ _ _ _ _ us hl => match us, hl with | [_], _ => rfl) ?_
  intro A outer s H vs Q E hr h
  obtain ⟨v, W, rfl, hW, ok, tb, q⟩ := h
  refine ⟨_, (pss_cons
    (ps_expr (pe_callG (ok_needWorks T) hr (by decide) (by rfl) (pa_cons (pv 0) pa_nil))) (pss_cons
    (ps_set (i := 1) (by decide +kernel : (["works", "found"] : List Str).Nodup) rfl (Or.inl rfl) (pe_callG (ok_finePlans T) hr (by decide) (by rfl) (pa_cons (pv 0) pa_nil))) (pss_one
    (ps_ret (pe_ifExp (pt_truthK K rfl (pv 1) (by intro _; rfl)) (pe_ix (ix_listK K rfl) (pv 1) pe_int (fun _ _ => rfl)) pe_non))))), ?_⟩
  refine ⟨_, rfl, _, W, rfl, hW, ok, tb, fun H1 k1 => ⟨_, rfl, _, W, rfl, hW.mono k1.ti, ok, tb.kp k1, fun a H2 k2 ⟨us, ha, hus⟩ => ⟨_, rfl, !us.isEmpty, .inl ⟨us, SqL.of ha, rfl⟩, ?_⟩⟩⟩
  cases hf : fines W with
  | nil =>
    rw [hf] at hus
    cases hus
    exact iteF (q _ H2 (k1.trans k2) (by rw [hf]; rfl))
  | cons p ps =>
    rw [hf] at hus
    cases hus with
    | @cons x _ xs _ hx ht =>
      exact iteT ⟨_, rfl, a, _, 0, x, rfl, rfl, SqL.of ha, atI_nat (j := 0) rfl, q x H2 (k1.trans k2) (by rw [hf]; exact hx)⟩
end Dw
end

section
set_option Elab.async false
set_option linter.all false
set_option maxRecDepth 100000
set_option maxHeartbeats 1000000
namespace Dw
open PySem PySem.Spec PyProof.Rows L2
variable {P : Program} {w : World} {K : PySem.W.Frag} {mg : Str → Option Value} {base : Heap}
/-- the walk over the stands: what was found stands in a list and in a dict -/
structure Bfs (P : Program) (w : World) (W : Works) (H0 H : Hp) (L d : Addr) (fs : List Stand) : Prop where
  k : Kp H0 H
  l : LstV StandV H L fs
  dd : ∃ kvs, DictV P w H d kvs ∧ kvs.length = fs.length ∧ ∀ s, (valV kvs s).isSome = true ↔ s ∈ fs
  nd : fs.Nodup
  re : ∀ s ∈ fs, Reach (allRoutes W) W.vats s
theorem Bfs.kp {W : Works} {H0 H H' : Hp} {L d : Addr} {fs : List Stand} (b : Bfs P w W H0 H L d fs) (k : Kp H H') : Bfs P w W H0 H' L d fs :=
  ⟨b.k.trans k, b.l.stands k, let ⟨kvs, h, r⟩ := b.dd; ⟨kvs, h.kp k, r⟩, b.nd, b.re⟩
theorem Bfs.le {W : Works} {H0 H : Hp} {L d : Addr} {fs S : List Stand} (b : Bfs P w W H0 H L d fs) (h : ∀ s, Reach (allRoutes W) W.vats s → s ∈ S) : fs.length ≤ S.length := len_of_sub b.nd fun s hs => h s (b.re s hs)
theorem DictV.ne_lst {H : Hp} {d L : Addr} {kvs : List (Stand × V)} {us : List V} (h : DictV P w H d kvs) (l : H L = some (.lst us)) : d ≠ L := fun z => by
  obtain ⟨es, e, _⟩ := h
  rw [z, l] at e
  unfold DictO at e
  cases e
theorem DictV.none {H : Hp} {d : Addr} {kvs : List (Stand × V)} (h : DictV P w H d kvs) : H d ≠ Option.none := fun z => by
  obtain ⟨es, e, _⟩ := h
  rw [z] at e
  cases e
def spAllStands (K : PySem.W.Frag) : Sp := fun vs H Q _ => ∃ (v : V) (W : Works) (S : List Stand), vs = [v] ∧ WorksV H v W ∧ OkWorks W ∧ S.length ≤ 1000 ∧ (∀ s, Reach (allRoutes W) W.vats s → s ∈ S) ∧
  ∀ a fs H', Kp H H' → H a = none → LstV StandV H' a fs → fs.Nodup → (∀ s, s ∈ fs ↔ Reach (allRoutes W) W.vats s) → Q (.ref a) H'
theorem ok_allStands (T : Tx P w K mg base) : Good P w K mg base "all_stands" 3 ["works"] (spAllStands K) := by
  refine good_mk (k := 2) (N := ["works", "found", "at", "seen", "_", "routes", "route", "later"]) T dAllStands (by simp [fn]) T.gAllStands rfl rfl rfl ⟨rfl, rfl, rfl, by decide +kernel, rfl, by decide +kernel, by decide +kernel⟩ (fun vs H Q E ⟨v, W, S, e, _⟩ => by rw [e]; rfl) (fun _ _ _ _ _ _ us hl => match us, hl with | [_], _ => rfl) ?_
  intro A outer s H vs Q E hr h
  obtain ⟨v, W, S, rfl, hW, ok, hS, hRS, q⟩ := h
  obtain ⟨a, vv, vk, rfl, ha, ⟨av, vvs, rfl, hav, hvs⟩, ⟨ak, ks, rfl, hak, hks⟩⟩ := id hW
  obtain ⟨tk, hMostStands⟩ := T.iMostStands
  have lk := Paired.length hks
  refine ⟨_, (pss_cons
    (ps_par (i := 1) (j := 2) rfl (by decide +kernel : (["works", "found", "at", "seen", "_", "routes", "route", "later"] : List Str).Nodup) rfl rfl (by decide) rfl rfl (pa_cons (pe_lst (pa_cons (pe_ix (ix_tupK K rfl) (pv 0) pe_int (fun _ _ => rfl)) pa_nil)) (pa_cons pe_int pa_nil)) (by rfl)) (pss_cons
    (ps_set (i := 3) (by decide +kernel : (["works", "found", "at", "seen", "_", "routes", "route", "later"] : List Str).Nodup) rfl (Or.inl rfl) (pe_noneK P w rfl rfl (hu10 hr) (pe_ix (ix_tupK K rfl) (pv 0) pe_int (fun _ _ => rfl)) pe_bl)) (pss_cons
    (ps_while PassesOwn.never (pt_cmpR op_lt (pv 2) (pe_callB (call_lenK K rfl) (by rfl) T.fLen PySem.boot_len (pa_cons (pv 1) pa_nil)) (nomark _)) (pss_cons
    (ps_for (g := gTup K 3 (gCons (gName 4) (gCons (gName 4) (gCons (gName 5) gNil)))) PassesOwn.never rfl (pi_tupK K rfl (pe_ix (ix_tupK K rfl) (pv 0) pe_int (fun _ _ => rfl))) (by refine pg_tup (by rfl) ?_; refine pgs_cons ?_ (pgs_cons ?_ (pgs_cons ?_ pgs_nil)); exact pg_name (i := 4) (by decide +kernel : (["works", "found", "at", "seen", "_", "routes", "route", "later"] : List Str).Nodup) rfl (Or.inl rfl); exact pg_name (i := 4) (by decide +kernel : (["works", "found", "at", "seen", "_", "routes", "route", "later"] : List Str).Nodup) rfl (Or.inl rfl); exact pg_name (i := 5) (by decide +kernel : (["works", "found", "at", "seen", "_", "routes", "route", "later"] : List Str).Nodup) rfl (Or.inl rfl)) (pss_one
    (ps_for PassesOwn.never rfl (pi_tupK K rfl (pv 5)) (pg_name (i := 6) (by decide +kernel : (["works", "found", "at", "seen", "_", "routes", "route", "later"] : List Str).Nodup) rfl (Or.inl rfl)) (pss_cons
    (ps_set (i := 7) (by decide +kernel : (["works", "found", "at", "seen", "_", "routes", "route", "later"] : List Str).Nodup) rfl (Or.inl rfl) (pe_ix (ix_tupK K rfl) (pe_callG (ok_behind T) hr (by decide) (by rfl) (pa_cons (pe_ix (ix_listK K rfl) (pv 1) (pv 2) (fun _ _ => rfl)) (pa_cons (pv 6) pa_nil))) pe_int (fun _ _ => rfl))) (pss_one
    (ps_if (pt_cmp (pc_nnotK P w rfl rfl (hu10 hr) (pv 7) (pv 3)) (by rfl)) (pss_cons
    (ps_nputK P w rfl rfl (hu10 hr) (pv 3) (pv 7) pe_bl (by rfl)) (pss_cons
    (ps_expr (pe_bmK K rfl PySem.F.plainAttrs_list PySem.F.slot_list_append PySem.F.type_list_append mt_append (pv 1) (pa_cons (pv 7) pa_nil))) (pss_one
    (ps_if (pt_cmpR op_gt (pe_callB (call_lenK K rfl) (by rfl) T.fLen PySem.boot_len (pa_cons (pv 1) pa_nil)) (pe_glob (v := .int 5000) (by rfl) hMostStands ⟨_, rfl⟩) (nomark _)) (pss_one
    ps_never) pss_nil)))) pss_nil)))))) (pss_one
    (ps_aug (i := 2) (by decide +kernel : (["works", "found", "at", "seen", "_", "routes", "route", "later"] : List Str).Nodup) rfl (Or.inl rfl) pe_int ip_add)))) (pss_one
    (ps_ret (pv 1)))))), ?_⟩
  refine ⟨_, rfl, a, _, 1, _, rfl, rfl, SqT.of ha, rfl, (by show 1 ≤ sizeLine; decide), fun L hL => ⟨_, _, rfl, ?_⟩⟩
  have k1 : Kp H (upd H L (.lst [.ref av])) := Kp.new (.refl _) hL
  refine fun d hd => ⟨_, rfl, a, _, 1, _, rfl, rfl, SqT.of ((k1.trans (Kp.new (.refl _) hd)).tup ha), rfl, av, W.vats, .bl true, rfl, upd_same, ?_, fun hdv kput => ?_⟩
  · exact ⟨av, vvs, rfl, (k1.trans (Kp.new (.refl _) hd)).tup hav, Paired.ti (fun v x hx => hx.mono (k1.trans (Kp.new (.refl _) hd)).ti) hvs⟩
  have dL : d ≠ L := fun z => by rw [z, upd_same] at hd; cases hd
  have hd0 : H d = none := k1.free hd fun ps e => by
    rw [upd_ne dL, e] at hd
    cases hd
  have k2 := kput H (k1.trans (Kp.new (.refl _) hd)) hd0
  generalize hH2 : upd (upd (upd H L (.lst [.ref av])) d (DictO P w d [])) d (DictO P w d [(W.vats, av, .bl true)]) = H2 at hdv k2
  have b2 : Bfs P w W H H2 L d [W.vats] := by
    refine ⟨k2, ⟨[.ref av], ?_, .cons ⟨av, vvs, rfl, k2.tup hav, Paired.ti (fun v x hx => hx.mono k2.ti) hvs⟩ .nil⟩, ⟨_, hdv, rfl, fun s => ?_⟩, by simp, fun s hs => ?_⟩
    · rw [← hH2, upd_ne (Ne.symm dL), upd_ne (Ne.symm dL), upd_same]
    · by_cases e : W.vats = s
      · rw [valV_pos e]; simp [e]
      · rw [valV_neg e, valV_nil]; simp; exact fun z => e z.symm
    · rw [List.mem_singleton.mp hs]; exact .here
  refine ⟨fun m σ H' => ∃ (at_ : Nat) (fs : List Stand) (o4 o5 o6 o7 : Option V), σ = [some (.ref a), some (.ref L), some (VN at_), some (.ref d), o4, o5, o6, o7] ∧ Bfs P w W H H' L d fs ∧ W.vats ∈ fs ∧ at_ ≤ fs.length ∧ (∀ i s, i < at_ → fs[i]? = some s → ∀ r ∈ allRoutes W, next s r ∈ fs) ∧ m = S.length - at_,
    ⟨_, 0, [W.vats], none, none, none, none, rfl, b2, by simp, Nat.zero_le _, fun i _ hi => by omega, rfl⟩, ?_⟩
  rintro m σ H3 ⟨at_, fs, o4, o5, o6, o7, rfl, b3, h0, hat, hcl, rfl⟩
  have len3 := b3.le hRS
  obtain ⟨us, hus, hP⟩ := b3.l
  have lus := Paired.length hP
  refine ⟨_, rfl, _, rfl, L, us, rfl, .inl (SqL.of hus), _, _, rfl, rfl, _, rfl, ?_⟩
  by_cases hlt : at_ < fs.length
  · refine itT (by omega) ⟨fun σ' H' => ∃ m', m' < S.length - at_ ∧ (∃ (at_ : Nat) (fs : List Stand) (o4 o5 o6 o7 : Option V), σ' = [some (.ref a), some (.ref L), some (VN at_), some (.ref d), o4, o5, o6, o7] ∧ Bfs P w W H H' L d fs ∧ W.vats ∈ fs ∧ at_ ≤ fs.length ∧ (∀ i s, i < at_ → fs[i]? = some s → ∀ r ∈ allRoutes W, next s r ∈ fs) ∧ m' = S.length - at_), fun σ' H' h => h, ?_⟩
    have hs0 := List.getElem?_eq_getElem hlt
    generalize fs[at_] = s0 at hs0
    have re0 := b3.re s0 (List.mem_of_getElem? hs0)
    have ok0 := re0.ok ok.stand
    refine ⟨_, rfl, a, _, 2, _, rfl, rfl, SqT.of (b3.k.tup ha), rfl, ak, rfl, ⟨_, SqT.of (b3.k.tup hak)⟩, for_tup (K := K) (a := ak) (xs := ks) (fun i σ H' => ∃ ex o4 o5 o6 o7, σ = [some (.ref a), some (.ref L), some (VN at_), some (.ref d), o4, o5, o6, o7] ∧ Bfs P w W H H' L d (fs ++ ex) ∧ ∀ kd ∈ W.kinds.take i, ∀ r ∈ kd.routes, next s0 r ∈ fs ++ ex) ?_ ?_ ?_ ?_⟩
    · exact ⟨[], o4, o5, o6, o7, rfl, by rw [List.append_nil]; exact b3, by rw [List.take_zero]; intro kd hk; cases hk⟩
    · rintro i σ H' _ ⟨ex, o4, o5, o6, o7, _, b, _⟩
      exact SqT.of (b.k.tup hak)
    · rintro i x σ H4 hx ⟨ex, o4, o5, o6, o7, rfl, b4, hdone⟩
      obtain ⟨kd, hk, ⟨c, vw, vb, vr, rfl, hc, _, _, ⟨ar, rs, rfl, har, hrs⟩⟩⟩ := Paired.at1 hks hx
      have okd := ok.kind kd (List.mem_of_getElem? hk)
      refine ⟨c, _, rfl, SqT.of (b4.k.tup hc), rfl, _, _, rfl, _, _, rfl, _, _, rfl, rfl, ?_⟩
      refine ⟨_, rfl, ar, rfl, ⟨_, SqT.of (b4.k.tup har)⟩, for_tup (K := K) (a := ar) (xs := rs) (fun j σ H' => ∃ ex o6 o7, σ = [some (.ref a), some (.ref L), some (VN at_), some (.ref d), some vb, some (.ref ar), o6, o7] ∧ Bfs P w W H H' L d (fs ++ ex) ∧ (∀ kd ∈ W.kinds.take i, ∀ r ∈ kd.routes, next s0 r ∈ fs ++ ex) ∧ ∀ r ∈ kd.routes.take j, next s0 r ∈ fs ++ ex) ?_ ?_ ?_ ?_⟩
      · exact ⟨ex, o6, o7, rfl, b4, hdone, by rw [List.take_zero]; intro r hr; cases hr⟩
      · rintro j σ H' _ ⟨ex, o6, o7, _, b, _⟩
        exact SqT.of (b.k.tup har)
      · rintro j x σ H5 hx ⟨ex, o6, o7, rfl, b5, hdone, hdone2⟩
        obtain ⟨r, hr, hR⟩ := Paired.at1 hrs hx
        have mr : r ∈ kd.routes := List.mem_of_getElem? hr
        have ma : r ∈ allRoutes W := List.mem_flatMap.mpr ⟨kd, List.mem_of_getElem? hk, mr⟩
        obtain ⟨us5, hus5, hP5⟩ := b5.l
        have hs5 : (fs ++ ex)[at_]? = some s0 := by rw [List.getElem?_append_left hlt]; exact hs0
        obtain ⟨sv, hsv, hSV⟩ := Paired.at2 hP5 hs5
        refine ⟨_, rfl, _, rfl, L, us5, at_, sv, rfl, rfl, SqL.of hus5, atI_nat hsv, _, rfl, sv, x, _, W.dyes, s0, r, rfl, hSV, hR.mono b5.k.ti, ok0, ok.d4, ok.v4, (okd.route r mr).2.2, fun v H6 k6 hv => ?_⟩
        obtain ⟨t, x1, y1, rfl, ht, ⟨lb, lvs, rfl, hlb, hlvs⟩, _⟩ := hv
        have hx1 : StandV H6 (.ref lb) (next s0 r) := ⟨lb, lvs, rfl, hlb, hlvs⟩
        have b6 := b5.kp k6
        obtain ⟨kvs, hdv6, hkl, hkm⟩ := b6.dd
        refine ⟨t, _, 0, _, rfl, rfl, SqT.of ht, rfl, ?_⟩
        refine ⟨_, rfl, _, rfl, d, lb, kvs, next s0 r, rfl, rfl, hdv6, hx1, _, rfl, ?_⟩
        have len6 := b6.le hRS
        cases hv : (valV kvs (next s0 r)).isSome with
        | true =>
          refine iteF ⟨ex, some x, _, rfl, b6, hdone, fun r' hr' => ?_⟩
          rw [take_snoc hr, List.mem_append, List.mem_singleton] at hr'
          rcases hr' with z | z
          · exact hdone2 r' z
          · rw [z]; exact (hkm _).mp hv
        | false =>
          have notin : next s0 r ∉ fs ++ ex := fun z => by rw [(hkm _).mpr z] at hv; cases hv
          refine iteT ⟨_, rfl, _, rfl, d, lb, kvs, next s0 r, rfl, rfl, hdv6, hx1, by omega, fun o kput tput hdv7 => ?_⟩
          obtain ⟨us6, hus6, hP6⟩ := b6.l
          have l6 := Paired.length hP6
          have hL7 : upd H6 d o L = some (.lst us6) := by rw [upd_ne (Ne.symm dL)]; exact hus6
          have t8 : Ti (upd H6 d o) (upd (upd H6 d o) L (.lst (us6 ++ [.ref lb]))) := Ti.putL hL7
          refine ⟨_, rfl, .inl ⟨rfl, _, SqL.of hL7⟩, _, rfl, L, us6, .ref lb, rfl, rfl, hL7, by rw [sizeLine_eq]; omega, ?_⟩
          refine ⟨_, rfl, L, _, rfl, .inl (SqL.of upd_same), _, _, rfl, rfl, _, rfl, itF (by rw [List.length_append, List.length_singleton]; omega) ?_⟩
          have eA : fs ++ (ex ++ [next s0 r]) = (fs ++ ex) ++ [next s0 r] := (List.append_assoc _ _ _).symm
          have v0 : valV kvs (next s0 r) = Option.none := by cases z : valV kvs (next s0 r) with | none => rfl | some _ => rw [z] at hv; cases hv
          refine ⟨ex ++ [next s0 r], some x, _, rfl, ?_, fun kd' h1 r' h2 => ?_, fun r' hr' => ?_⟩
          · rw [eA]
            refine ⟨(kput H b6.k hd0).putL hL hL7, ⟨us6 ++ [.ref lb], upd_same, Paired.snoc (Paired.ti (fun v x hx => StandV.mono (tput.trans t8) hx) hP6) (StandV.mono (tput.trans t8) hx1)⟩,
              ⟨_, hdv7.mono t8 (fun es e => by rw [upd_ne dL]; exact e), ?_, fun s => ?_⟩, ?_, fun s hs => ?_⟩
            · rw [putK_new _ v0, List.length_append, List.length_append, hkl]; rfl
            · rw [valV_put, List.mem_append, List.mem_singleton]
              by_cases e : s = next s0 r
              · rw [if_pos e]; simp [e]
              · rw [if_neg e, hkm s]; simp [e]
            · rw [List.nodup_append]
              exact ⟨b6.nd, by simp, fun x hx y hy => by rw [List.mem_singleton.mp hy]; exact fun z => notin (z ▸ hx)⟩
            · rcases List.mem_append.mp hs with z | z
              · exact b6.re s z
              · rw [List.mem_singleton.mp z]; exact .step re0 ma
          · rw [eA]; exact List.mem_append_left _ (hdone kd' h1 r' h2)
          · rw [eA]
            rw [take_snoc hr, List.mem_append, List.mem_singleton] at hr'
            rcases hr' with z | z
            · exact List.mem_append_left _ (hdone2 r' z)
            · rw [z]; exact List.mem_append_right _ (List.mem_singleton.mpr rfl)
      · rintro σ H5 ⟨ex, o6, o7, rfl, b5, hdone, hdone2⟩
        refine ⟨ex, _, _, o6, o7, rfl, b5, fun kd' hk' => ?_⟩
        rw [take_snoc hk, List.mem_append, List.mem_singleton] at hk'
        rcases hk' with z | z
        · exact hdone kd' z
        · rw [z]
          rw [Paired.length hrs, List.take_length] at hdone2
          exact hdone2
    · rintro σ H4 ⟨ex, o4, o5, o6, o7, rfl, b4, hdone⟩
      rw [lk, List.take_length] at hdone
      have len4 := b4.le hRS
      rw [List.length_append] at len4
      refine ⟨_, rfl, _, _, rfl, rfl, S.length - (at_ + 1), by omega, at_ + 1, fs ++ ex, o4, o5, o6, o7, rfl, b4, List.mem_append_left _ h0, by rw [List.length_append]; omega, fun i s hi hs r hr => ?_, rfl⟩
      rcases Nat.lt_or_ge i at_ with z | z
      · rw [List.getElem?_append_left (by omega)] at hs
        exact List.mem_append_left _ (hcl i s z hs r hr)
      · obtain rfl : i = at_ := by omega
        rw [List.getElem?_append_left hlt, hs0] at hs
        cases hs
        obtain ⟨kd, hk, hr⟩ := List.mem_flatMap.mp hr
        exact hdone kd hk r hr
  · refine itF (by omega) ⟨_, rfl, q L fs H3 b3.k hL b3.l b3.nd fun s => ⟨b3.re s, fun hs => ?_⟩⟩
    induction hs with
    | here => exact h0
    | step _ hr ih =>
      obtain ⟨i, hi⟩ := List.mem_iff_getElem?.mp ih
      exact hcl i _ (by have := (List.getElem?_eq_some_iff.mp hi).1; omega) hi _ hr
end Dw
end

section
set_option Elab.async false
set_option linter.all false
set_option maxRecDepth 100000
set_option maxHeartbeats 1000000
namespace Dw
open PySem PySem.Spec PyProof.Rows L2
variable {P : Program} {w : World} {K : PySem.W.Frag} {mg : Str → Option Value} {base : Heap}
def OptV (H : Hp) (v : V) : Option Stand → Prop
  | none => v = .non
  | some st => StandV H v st
theorem OptV.mono {H H' : Hp} (t : Ti H H') {v : V} : ∀ {o : Option Stand}, OptV H v o → OptV H' v o
  | none, h => h
  | some _, h => StandV.mono t h
theorem LstV.opts {H H' : Hp} {a : Addr} {xs : List (Option Stand)} (k : Kp H H') (h : LstV OptV H a xs) : LstV OptV H' a xs := LstV.kp (R := OptV) (fun H H' v x k h => OptV.mono k.ti h) k h
/-- .. over a list -/
theorem gen_lst {K : PySem.W.Frag} {cd : Value} {bs : Heap} {n k : Nat} {g : TG} {te : Value → TE} {z : Bool} {σ : L2.St} {H1 : Hp} {Q : VK} {c P a : Addr} {xs : List V} (hT : H1 a = some (.lst xs)) (f : Nat → Bool) (hcode : cd = .ref c) (hcd : PySem.W.CodeHd bs c P ∨ H1 c = some (CodeH c P)) (ht : TabN n H1 P)
    (turn : ∀ cv i x ys H', xs[i]? = some x → Kp H1 H' → InfoN n H' cv → ys.length = k → ∀ C : L2.St → V → Hp → Prop, (∀ ys' H3, ys'.length = k → Kp H' H3 → C (σ ++ ys') (.bl (f i)) H3) → g x (σ ++ ys) H' fun σ2 H2 => te cv σ2 H2 fun v H3 => C σ2 v H3)
    (fin : ∀ b H', Kp H1 H' → (b = z ↔ ∀ j, j < xs.length → f j = z) → Q (.bl b) H') :
    GenIn cd bs n k (fun cv J Qf W => GTurn J g (te cv) z Qf W) σ (Itl K a) H1 Q := by
  refine gen_in xs.length (fun i x _ => xs[i]? = some x) f hcode hcd ht (fun i H' hi kp => ?_) (fun H' kp => ⟨xs, SqL.of (kp.lst hT), Nat.le_refl _⟩) (fun cv i x ys H' _ hx => turn cv i x ys H' hx) fin
  have h1 := kp.lst hT
  refine ⟨⟨xs, _, SqL.of h1, List.getElem?_eq_getElem hi⟩, fun x H'' hy => ?_⟩
  obtain ⟨e, q⟩ := hy
  exact ⟨by rw [e]; exact .refl _, q xs (SqL.of h1)⟩
/-! ### Game.beaten -/
def inKv (kvs : List (Stand × V)) : Option Stand → Bool
  | none => true
  | some s => (valV kvs s).isSome
theorem all_idx {α : Type} {l : List α} {g : α → Bool} {f : Nat → Bool} {b : Bool} (hf : ∀ i x, l[i]? = some x → f i = g x) (h : b = true ↔ ∀ j, j < l.length → f j = true) : b = l.all g := by
  rw [Bool.eq_iff_iff, h, List.all_eq_true]
  constructor
  · intro q x hx
    obtain ⟨i, hi⟩ := List.mem_iff_getElem?.mp hx
    rw [← hf i x hi]
    exact q i (List.getElem?_eq_some_iff.mp hi).1
  · intro q j hj
    rw [hf j _ (List.getElem?_eq_getElem hj)]
    exact q _ (List.getElem_mem hj)
theorem any_idx {α : Type} {l : List α} {g : α → Bool} {f : Nat → Bool} {b : Bool} (hf : ∀ i x, l[i]? = some x → f i = g x) (h : b = false ↔ ∀ j, j < l.length → f j = false) : b = l.any g := by
  rw [Bool.eq_iff_iff, ← Bool.not_eq_false, ← Bool.not_eq_false, not_congr_false h]
  refine not_congr ?_
  rw [List.any_eq_false]
  constructor
  · intro q x hx
    obtain ⟨i, hi⟩ := List.mem_iff_getElem?.mp hx
    rw [← hf i x hi, q i (List.getElem?_eq_some_iff.mp hi).1]
    exact Bool.false_ne_true
  · intro q j hj
    rw [hf j _ (List.getElem?_eq_getElem hj)]
    simpa using q _ (List.getElem_mem hj)
where
  not_congr_false {b : Bool} {p : Prop} (h : b = false ↔ p) : (¬ b = false) = ¬ p := propext (not_congr h)
/-- the attributes' names are no methods -/
structure SelfV (K : PySem.W.Frag) (H : Hp) (p : Addr) (fs : List (Str × V)) : Prop where
  at_ : ∃ dx, H p = some (.ins (He.ga K "Game") dx fs)
  nb : fs.lookup ("beaten" : Str) = none
  na : fs.lookup ("answers" : Str) = none
  nr : fs.lookup ("reckon" : Str) = none
theorem SelfV.kp {H H' : Hp} {p : Addr} {fs : List (Str × V)} (h : SelfV K H p fs) (k : Kp H H') : SelfV K H' p fs := ⟨let ⟨dx, e⟩ := h.at_; ⟨dx, k.ins e⟩, h.nb, h.na, h.nr⟩
def spBeaten (P : Program) (w : World) (K : PySem.W.Frag) : Sp := fun vs H Q _ => ∃ (v : V) (a d : Addr) (os : List (Option Stand)) (kvs : List (Stand × V)), vs = [v, .ref a, .ref d] ∧ LstV OptV H a os ∧ DictV P w H d kvs ∧ TabsOk K H ∧ ∀ H', Kp H H' → Q (.bl (os.all (inKv kvs))) H'
theorem ok_gBeaten (T : Tx P w K mg base) : GoodM P w K mg base "beaten" 2 ["self", "answers", "found"] (spBeaten P w K) := by
  refine goodm_mk (k := 1) (N := ["self", "answers", "found"]) T dGBeaten (by simp [fn]) T.mBeaten rfl rfl rfl ⟨rfl, rfl, rfl, by decide +kernel, rfl, by decide +kernel, by decide +kernel⟩ (fun vs H Q E ⟨v, a, d, os, kvs, e, _⟩ => by rw [e]; rfl) (fun _ _ _ _ _ _ us hl => match us, hl with | [_, _, _], _ => rfl) ?_
  intro A outer s H vs Q E hr h
  obtain ⟨v, a, d, os, kvs, rfl, ⟨us, ha, hus⟩, hd, tb, q⟩ := h
  have lus := Paired.length hus
  refine ⟨_, (pss_one
    (ps_ret (pe_allG (cd := (.ref (He.codeOf K dGBeaten.at_))) (base := base) (n := 0) (ns := ["later"]) "all" rfl hr (by rfl) T.fAll T.bm (genSc_by (N := ["self", "answers", "found"]) (sc := dGBeaten.scope) (by decide +kernel)) rfl (pi_listK K rfl (pv 1)) (fun cv1 _ _ _ _ _ _ _ hr1 => SegOk.one (pg_name (i := 3) (by decide +kernel : (["self", "answers", "found", "later"] : List Str).Nodup) rfl (Or.inl rfl)) (pe_or (pe_cmpR op_isN (pv 3) pe_non (nomark _)) (pe_one (pe_cmp (pc_ninK P w rfl rfl (hu10 hr1) (pv 3) (pv 2)) (by rfl)))))))), ?_⟩
  refine ⟨_, rfl, a, rfl, ⟨_, SqL.of ha⟩, gen_lst ha (fun i => match os[i]? with | some o => inKv kvs o | none => true) rfl (.inl (T.hd dGBeaten.at_ tm_gBeaten)) (tb.lo tm_gBeaten) (fun cv i x ys H' hx kp _ hy C hC => ?_) fun b H1 k1 hb => ?_⟩
  · obtain ⟨o, ho, hO⟩ := Paired.at1 hus hx
    rw [ho] at hC
    match ys, hy with
    | [y], _ =>
      refine ⟨_, rfl, rfl, ?_⟩
      cases o with
      | none =>
        obtain rfl : x = .non := hO
        exact ⟨true, rfl, iteT (hC [some .non] H' rfl (.refl _))⟩
      | some st =>
        obtain ⟨b, bs, rfl, hb, hbs⟩ := id hO
        refine ⟨false, rfl, iteF ⟨_, rfl, _, rfl, d, b, kvs, st, rfl, rfl, hd.kp kp, StandV.mono kp.ti hO, ?_⟩⟩
        exact hC [some (.ref b)] H' rfl (.refl _)
  · rw [lus] at hb
    have e := all_idx (l := os) (g := inKv kvs) (fun i x h => by rw [h]) hb
    rw [e]
    exact q H1 k1
/-! ### Game.answers -/
def ansOf (W : Works) (kd : Kind) (st : Stand) (r : Route) : Option Stand := if goodR W kd st r = true then some (next st r) else none
def spAnswers (K : PySem.W.Frag) : Sp := fun vs H Q _ => ∃ (p : Addr) (u wv : V) (k : Nat) (fs : List (Str × V)) (W : Works) (kd : Kind) (st : Stand), vs = [.ref p, u, VN k] ∧ SelfV K H p fs ∧ fs.lookup ("works" : Str) = some wv ∧ WorksV H wv W ∧ OkWorks W ∧ StandV H u st ∧ OkStand W.vats.length W.dyes st ∧ W.kinds[k]? = some kd ∧ TabsOk K H ∧
  ∀ a H', Kp H H' → H a = none → LstV OptV H' a (kd.routes.map (ansOf W kd st)) → Q (.ref a) H'
theorem ok_gAnswers (T : Tx P w K mg base) : GoodM P w K mg base "answers" 5 ["self", "stand", "kind"] (spAnswers K) := by
  refine goodm_mk (k := 4) (N := ["self", "stand", "kind", "found", "number", "later", "good"]) T dGAnswers (by simp [fn]) T.mAnswers rfl rfl rfl ⟨rfl, rfl, rfl, by decide +kernel, rfl, by decide +kernel, by decide +kernel⟩ (fun vs H Q E ⟨p, u, wv, k, fs, W, kd, st, e, _⟩ => by rw [e]; rfl) (fun _ _ _ _ _ _ us hl => match us, hl with | [_, _, _], _ => rfl) ?_
  intro A outer s H vs Q E hr h
  obtain ⟨p, u, wv, k, fs, W, kd, st, rfl, hself, hwl, hW, ok, hu, oks, hk, tb, q⟩ := h
  obtain ⟨a, vv, vk, rfl, ha, ⟨av, vvs, rfl, hav, hvs⟩, ⟨ak, ks, rfl, hak, hks⟩⟩ := id hW
  obtain ⟨kv, hkv, ⟨c, vw, vb, vr, rfl, hc, _, _, ⟨ar, rs, rfl, har, hrs⟩⟩⟩ := Paired.at2 hks hk
  have lrs := Paired.length hrs
  have r4 := (ok.kind kd (List.mem_of_getElem? hk)).r4
  obtain ⟨dx, hp⟩ := hself.at_
  refine ⟨_, (pss_cons
    (ps_set (i := 3) (by decide +kernel : (["self", "stand", "kind", "found", "number", "later", "good"] : List Str).Nodup) rfl (Or.inl rfl) (pe_lst pa_nil)) (pss_cons
    (ps_for PassesOwn.never rfl (pi_range1 (by rfl) T.fRange (pa_cons (pe_callB (call_lenK K rfl) (by rfl) T.fLen PySem.boot_len (pa_cons (pe_ix (ix_tupK K rfl) (pe_ix (ix_tupK K rfl) (pe_ix (ix_tupK K rfl) (pe_fldK K rfl (pv 0) rfl) pe_int (fun _ _ => rfl)) (pv 2) (fun _ _ => rfl)) pe_int (fun _ _ => rfl)) pa_nil)) pa_nil)) (pg_name (i := 4) (by decide +kernel : (["self", "stand", "kind", "found", "number", "later", "good"] : List Str).Nodup) rfl (Or.inl rfl)) (pss_cons
    (ps_asg (g := gTup K 2 (gCons (gName 5) (gCons (gName 6) gNil))) (pe_callG (ok_dyed T) hr (by decide) (by rfl) (pa_cons (pe_fldK K rfl (pv 0) rfl) (pa_cons (pv 1) (pa_cons (pv 2) (pa_cons (pv 4) pa_nil))))) (by refine pg_tup (by rfl) ?_; refine pgs_cons ?_ (pgs_cons ?_ pgs_nil); exact pg_name (i := 5) (by decide +kernel : (["self", "stand", "kind", "found", "number", "later", "good"] : List Str).Nodup) rfl (Or.inl rfl); exact pg_name (i := 6) (by decide +kernel : (["self", "stand", "kind", "found", "number", "later", "good"] : List Str).Nodup) rfl (Or.inl rfl))) (pss_one
    (ps_expr (pe_bmK K rfl PySem.F.plainAttrs_list PySem.F.slot_list_append PySem.F.type_list_append mt_append (pv 3) (pa_cons (pe_ifExp (pt_val (pv 6)) (pv 5) pe_non) pa_nil)))))) (pss_one
    (ps_ret (pv 3))))), ?_⟩
  refine ⟨Nat.zero_le _, fun L hL => ?_⟩
  have k1 : Kp H (upd H L (.lst [])) := Kp.new (.refl _) hL
  refine ⟨_, rfl, p, _, dx, fs, _, rfl, k1.ins hp, T.cls, T.nWorks, hwl, a, _, 2, _, rfl, rfl, SqT.of (k1.tup ha), rfl, _, rfl, ak, ks, k, _, rfl, rfl, SqT.of (k1.tup hak), atI_nat hkv, c, _, 2, _, rfl, rfl, SqT.of (k1.tup hc), rfl, ar, rs, rfl, .inr (SqT.of (k1.tup har)), _, rfl, by omega, by omega, ?_⟩
  refine for_range (fun i σ H' => ∃ us o4 o5 o6, σ = [some (.ref p), some u, some (VN k), some (.ref L), o4, o5, o6] ∧ Kp H H' ∧ H' L = some (.lst us) ∧ Paired (OptV H') us ((kd.routes.take i).map (ansOf W kd st))) ?_ ?_ ?_
  · exact ⟨[], none, none, none, rfl, k1, upd_same, by rw [List.take_zero]; exact .nil⟩
  · rintro i σ H1 hi ⟨us, o4, o5, o6, rfl, kk, hus, hP⟩
    have ei : (.int (0 + (i : Int)) : V) = VN i := by rw [Int.zero_add]
    rw [ei]
    have ir : i < kd.routes.length := by omega
    have hr1 := List.getElem?_eq_getElem ir
    generalize kd.routes[i] = r at hr1
    refine ⟨_, rfl, p, _, dx, fs, _, rfl, kk.ins hp, T.cls, T.nWorks, hwl, _, rfl, _, rfl, _, rfl, .ref a, u, k, i, W, kd, r, st, rfl, hW.mono kk.ti, StandV.mono kk.ti hu, ok, oks, hk, hr1, tb.kp kk, fun t x H2 k2 ht hx => ?_⟩
    have hL2 := k2.lst hus
    refine ⟨t, _, rfl, SqT.of ht, rfl, _, _, rfl, _, _, rfl, rfl, ?_⟩
    have fin : ∀ v, OptV H2 v (ansOf W kd st r) → (v = v) → ∃ us' o4 o5 o6, [some (.ref p), some u, some (VN k), some (.ref L), some (VN i), some x, some (.bl (goodR W kd st r))] = [some (.ref p), some u, some (VN k), some (.ref L), o4, o5, o6] ∧ Kp H (upd H2 L (.lst (us ++ [v]))) ∧ (upd H2 L (.lst (us ++ [v]))) L = some (.lst us') ∧ Paired (OptV (upd H2 L (.lst (us ++ [v])))) us' ((kd.routes.take (i + 1)).map (ansOf W kd st)) := fun v hv _ => by
      have t1 : Ti H2 (upd H2 L (.lst (us ++ [v]))) := Ti.putL hL2
      refine ⟨us ++ [v], _, _, _, rfl, (kk.trans k2).putL hL hL2, upd_same, ?_⟩
      rw [take_snoc hr1, List.map_append]
      exact Paired.snoc (Paired.ti (fun v x hx => OptV.mono (k2.ti.trans t1) hx) hP) (hv.mono t1)
    have lus := Paired.length hP
    rw [List.length_map, List.length_take] at lus
    refine ⟨_, rfl, .inl ⟨rfl, _, SqL.of hL2⟩, _, rfl, _, rfl, ?_⟩
    cases hg : goodR W kd st r with
    | true =>
      refine iteT ⟨_, rfl, L, us, x, rfl, rfl, hL2, by rw [sizeLine_eq]; omega, ?_⟩
      have := fin x (by unfold ansOf; rw [if_pos hg]; exact hx) rfl
      rw [hg] at this
      exact this
    | false =>
      refine iteF ⟨L, us, .non, rfl, rfl, hL2, by rw [sizeLine_eq]; omega, ?_⟩
      have := fin .non (by unfold ansOf; rw [if_neg (by rw [hg]; exact Bool.false_ne_true)]; rfl) rfl
      rw [hg] at this
      exact this
  · rintro σ H1 ⟨us, o4, o5, o6, rfl, kk, hus, hP⟩
    rw [show (((rs.length : Nat) : Int)).toNat = kd.routes.length by rw [lrs]; rfl, List.take_length] at hP
    exact ⟨_, rfl, q L H1 kk hL ⟨us, hus, hP⟩⟩
end Dw
end

section
set_option Elab.async false
set_option linter.all false
set_option maxRecDepth 100000
set_option maxHeartbeats 1000000
namespace Dw
open PySem PySem.Spec PyProof.Rows L2
variable {P : Program} {w : World} {K : PySem.W.Frag} {mg : Str → Option Value} {base : Heap}
/-- the keys of a table: no one twice, all in S -/
def KeysIn (S : List Stand) (kvs : List (Stand × V)) : Prop := (kvs.map (·.1)).Nodup ∧ ∀ s ∈ kvs.map (·.1), s ∈ S
theorem KeysIn.len {S : List Stand} {kvs : List (Stand × V)} (h : KeysIn S kvs) : kvs.length ≤ S.length := by
  have := len_of_sub h.1 h.2
  rwa [List.length_map] at this
theorem keys_isSome {kvs : List (Stand × V)} {k : Stand} : (valV kvs k).isSome = true ↔ k ∈ kvs.map (·.1) := by
  induction kvs with
  | nil => simp [valV_nil]
  | cons p r ih =>
    by_cases e : p.1 = k
    · rw [valV_pos e]; simp [e]
    · rw [valV_neg e, ih, List.map_cons, List.mem_cons]
      exact ⟨.inr, fun h => h.resolve_left fun z => e z.symm⟩
theorem KeysIn.put {S : List Stand} {kvs : List (Stand × V)} {k : Stand} {v : V} (h : KeysIn S kvs) (hk : k ∈ S) : KeysIn S (putK kvs k v) := by
  unfold putK
  rw [valV_any]
  by_cases q : (valV kvs k).isSome = true
  · rw [if_pos q]
    have e : (kvs.map fun kv => if kv.1 = k then (kv.1, v) else kv).map (·.1) = kvs.map (·.1) := by
      rw [List.map_map]
      refine List.map_congr_left fun kv _ => ?_
      simp only [Function.comp]
      split <;> rfl
    unfold KeysIn
    rw [e]
    exact h
  · rw [if_neg q]
    have nk : k ∉ kvs.map (·.1) := fun z => q (keys_isSome.mpr z)
    unfold KeysIn
    rw [List.map_append]
    refine ⟨List.nodup_append.mpr ⟨h.1, by simp, fun x hx y hy => ?_⟩, fun s hs => ?_⟩
    · have : y = k := by simpa using hy
      rw [this]
      exact fun z => nk (z ▸ hx)
    · rcases List.mem_append.mp hs with z | z
      · exact h.2 s z
      · have : s = k := by simpa using z
        rw [this]; exact hk
/-! ### ranks in a table -/
abbrev rkV (W : Works) (n : Nat) (s : Stand) : Option V := (rankTo W n s).map VN
/-- the table behind n rounds -/
structure RankT (P : Program) (w : World) (W : Works) (S : List Stand) (H : Hp) (d : Addr) (n : Nat) : Prop where
  ex : ∃ kvs, DictV P w H d kvs ∧ KeysIn S kvs ∧ ∀ s ∈ S, valV kvs s = rkV W n s
theorem RankT.kp {W : Works} {S : List Stand} {H H' : Hp} {d : Addr} {n : Nat} (h : RankT P w W S H d n) (k : Kp H H') : RankT P w W S H' d n := ⟨let ⟨kvs, a, r⟩ := h.ex; ⟨kvs, a.kp k, r⟩⟩
/-- some kind, all of whose answers are bad or lost -/
def stepB (W : Works) (n : Nat) (s : Stand) : Bool := W.kinds.any fun kd => kd.routes.all fun r => !(goodR W kd s r) || lostB W n (next s r)
theorem lostB_succ {W : Works} {n : Nat} {s : Stand} : lostB W (n + 1) s = (lostB W n s || stepB W n s) := rfl
def freshB (W : Works) (n : Nat) (s : Stand) : Bool := !(lostB W n s) && stepB W n s
theorem rank_next {W : Works} {n : Nat} {s : Stand} : rankTo W (n + 1) s = if freshB W n s = true then some (n + 1) else rankTo W n s := by
  rw [rankTo]
  cases e : rankTo W n s with
  | some m =>
    have l : lostB W n s = true := by rw [← rank_isSome, e]; rfl
    unfold freshB
    rw [l]
    rfl
  | none =>
    have l : lostB W n s = false := by rw [← rank_isSome, e]; rfl
    unfold freshB
    rw [lostB_succ, l]
    simp
/-- the answers of all kinds at a stand -/
abbrev waysOf (W : Works) (s : Stand) : List (List (Option Stand)) := W.kinds.map fun kd => kd.routes.map (ansOf W kd s)
def WayV (H : Hp) (v : V) (os : List (Option Stand)) : Prop := ∃ a, v = .ref a ∧ LstV OptV H a os
theorem LstV.ways {H H' : Hp} {a : Addr} {xs : List (List (Option Stand))} (k : Kp H H') (h : LstV WayV H a xs) : LstV WayV H' a xs :=
  LstV.kp (R := WayV) (fun H H' v x k ⟨a, e, h⟩ => ⟨a, e, h.opts k⟩) k h
theorem ways_any {W : Works} {S : List Stand} (hS : ∀ s ∈ S, ∀ kd ∈ W.kinds, ∀ r ∈ kd.routes, next s r ∈ S) {kvs : List (Stand × V)} {n : Nat} (hv : ∀ s ∈ S, valV kvs s = rkV W n s) {s : Stand} (hs : s ∈ S) : ((waysOf W s).any fun os => os.all (inKv kvs)) = stepB W n s := by
  unfold stepB waysOf
  rw [List.any_map]
  refine lost_stays.anyc fun kd hk => ?_
  simp only [Function.comp]
  rw [List.all_map]
  refine lost_stays.allc fun r hr => ?_
  simp only [Function.comp]
  unfold ansOf
  cases hg : goodR W kd s r with
  | true =>
    rw [if_pos rfl]
    show (valV kvs (next s r)).isSome = _
    rw [hv _ (hS s hs kd hk r hr), Option.isSome_map, rank_isSome]
    rfl
  | false =>
    rw [if_neg Bool.false_ne_true]
    rfl
/-- what __init__ has laid ahead of reckon -/
structure GameV (P : Program) (w : World) (K : PySem.W.Frag) (W : Works) (S : List Stand) (H : Hp) (p : Addr) (fs : List (Str × V)) : Prop where
  self : SelfV K H p fs
  st : ∃ a, fs.lookup ("stands" : Str) = some (.ref a) ∧ LstV StandV H a S
  wy : ∃ d wk, fs.lookup ("ways" : Str) = some (.ref d) ∧ DictV P w H d wk ∧ ∀ s ∈ S, ∃ a, valV wk s = some (.ref a) ∧ LstV WayV H a (waysOf W s)
theorem GameV.kp {W : Works} {S : List Stand} {H H' : Hp} {p : Addr} {fs : List (Str × V)} (h : GameV P w K W S H p fs) (k : Kp H H') : GameV P w K W S H' p fs :=
  ⟨h.self.kp k, let ⟨a, e, l⟩ := h.st; ⟨a, e, l.stands k⟩, let ⟨d, wk, e, dv, r⟩ := h.wy; ⟨d, wk, e, dv.kp k, fun s hs => let ⟨a, q, l⟩ := r s hs; ⟨a, q, l.ways k⟩⟩⟩
def spReckon (P : Program) (w : World) (K : PySem.W.Frag) : Sp := fun vs H Q _ => ∃ (p : Addr) (fs : List (Str × V)) (W : Works) (S : List Stand), vs = [.ref p] ∧ GameV P w K W S H p fs ∧ S.Nodup ∧ S.length ≤ 1000 ∧ (∀ s ∈ S, ∀ kd ∈ W.kinds, ∀ r ∈ kd.routes, next s r ∈ S) ∧ TabsOk K H ∧
  ∀ d n H', Kp H H' → H d = none → RankT P w W S H' d n → (∀ s ∈ S, lostB W (n + 1) s = lostB W n s) → Q (.ref d) H'
theorem ok_gReckon (T : Tx P w K mg base) : GoodM P w K mg base "reckon" 4 ["self"] (spReckon P w K) := by
  refine goodm_mk (k := 3) (N := ["self", "found", "changed", "orders", "fresh", "stand"]) T dGReckon (by simp [fn]) T.mReckon rfl rfl rfl ⟨rfl, rfl, rfl, by decide +kernel, rfl, by decide +kernel, by decide +kernel⟩ (fun vs H Q E ⟨p, fs, W, S, e, _⟩ => by rw [e]; rfl) (fun _ _ _ _ _ _ us hl => match us, hl with | [_], _ => rfl) ?_
  intro A outer s H vs Q E hr h
  obtain ⟨p, fs, W, S, rfl, gm, nd, l1000, hS, tb, q⟩ := h
  refine ⟨_, (pss_cons
    (ps_asg (g := gTup K 3 (gCons (gName 1) (gCons (gName 2) (gCons (gName 3) gNil)))) (pe_tup (pa_cons (pe_nnewK P w rfl rfl) (pa_cons pe_bl (pa_cons pe_int pa_nil)))) (by refine pg_tup (by rfl) ?_; refine pgs_cons ?_ (pgs_cons ?_ (pgs_cons ?_ pgs_nil)); exact pg_name (i := 1) (by decide +kernel : (["self", "found", "changed", "orders", "fresh", "stand"] : List Str).Nodup) rfl (Or.inr rfl); exact pg_name (i := 2) (by decide +kernel : (["self", "found", "changed", "orders", "fresh", "stand"] : List Str).Nodup) rfl (Or.inl rfl); exact pg_name (i := 3) (by decide +kernel : (["self", "found", "changed", "orders", "fresh", "stand"] : List Str).Nodup) rfl (Or.inl rfl))) (pss_cons
    (ps_while PassesOwn.never (pt_val (pv 2)) (pss_cons
    (ps_par (i := 2) (j := 3) rfl (by decide +kernel : (["self", "found", "changed", "orders", "fresh", "stand"] : List Str).Nodup) rfl rfl (by decide) rfl rfl (pa_cons pe_bl (pa_cons (pe_op op_add (pv 3) pe_int) pa_nil)) (by rfl)) (pss_cons
    (ps_set (i := 4) (by decide +kernel : (["self", "found", "changed", "orders", "fresh", "stand"] : List Str).Nodup) rfl (Or.inl rfl) (pe_lst pa_nil)) (pss_cons
    (ps_for PassesOwn.never rfl (pi_listK K rfl (pe_fldK K rfl (pv 0) rfl)) (pg_name (i := 5) (by decide +kernel : (["self", "found", "changed", "orders", "fresh", "stand"] : List Str).Nodup) rfl (Or.inl rfl)) (pss_one
    (ps_if (PW.pt (pw_and (pt_cmp (pc_nnotK P w rfl rfl (hu10 hr) (pv 5) (pv 1)) (by rfl)) (pw_and1 (pt_val (pe_anyG (cd := (.ref (He.codeOf K dGReckon.at_))) (base := base) (n := 0) (ns := ["answers"]) "any" rfl hr (by rfl) T.fAny T.bm (genSc_by (N := ["self", "found", "changed", "orders", "fresh", "stand"]) (sc := dGReckon.scope) (by decide +kernel)) rfl (pi_listK K rfl (pe_ngetK P w rfl rfl (hu10 hr) (pe_fldK K rfl (pv 0) rfl) (pv 5) (fun _ _ => rfl))) (fun cv1 _ _ _ _ _ _ _ hr1 => SegOk.one (pg_name (i := 6) (by decide +kernel : (["self", "found", "changed", "orders", "fresh", "stand", "answers"] : List Str).Nodup) rfl (Or.inl rfl)) (pe_methG K rfl (ok_gBeaten T) T.cls (pv 0) hr1 (by decide) (pa_cons (pv 6) (pa_cons (pv 1) pa_nil))))))))) (pss_one
    (ps_expr (pe_bmK K rfl PySem.F.plainAttrs_list PySem.F.slot_list_append PySem.F.type_list_append mt_append (pv 4) (pa_cons (pv 5) pa_nil)))) pss_nil))) (pss_one
    (ps_for PassesOwn.never rfl (pi_listK K rfl (pv 4)) (pg_name (i := 5) (by decide +kernel : (["self", "found", "changed", "orders", "fresh", "stand"] : List Str).Nodup) rfl (Or.inl rfl)) (pss_cons
    (ps_nputK P w rfl rfl (hu10 hr) (pv 1) (pv 5) (pv 3) (by rfl)) (pss_one
    (ps_set (i := 2) (by decide +kernel : (["self", "found", "changed", "orders", "fresh", "stand"] : List Str).Nodup) rfl (Or.inl rfl) pe_bl))))))))) (pss_one
    (ps_ret (pv 1))))), ?_⟩
  refine fun d hd hdv => ⟨(by show 3 ≤ sizeLine; decide), fun t ht => ⟨t, _, rfl, SqT.of upd_same, rfl, _, _, rfl, _, _, rfl, _, _, rfl, rfl, ?_⟩⟩
  have k1 : Kp H (upd H d (DictO P w d [])) := Kp.new (.refl _) hd
  have k2 : Kp H (upd (upd H d (DictO P w d [])) t (.tup [.ref d, .bl true, .int 0])) := k1.trans (Kp.new (.refl _) ht)
  refine ⟨fun m σ H' => ∃ (n : Nat) (ch : Bool) (o4 o5 : Option V), σ = [some (.ref p), some (.ref d), some (.bl ch), some (VN n), o4, o5] ∧ Kp H H' ∧ RankT P w W S H' d n ∧ (ch = false → ∃ n', n = n' + 1 ∧ ∀ s ∈ S, lostB W (n' + 1) s = lostB W n' s) ∧ m = 2 * (S.length - countL W S n) + (if ch = true then 1 else 0),
    ⟨_, 0, true, none, none, rfl, k2, ⟨[], hdv.kp (Kp.new (.refl _) ht), ⟨by simp, fun s hs => by cases hs⟩, fun s _ => rfl⟩, (fun z => nomatch z), rfl⟩, ?_⟩
  rintro m σ H1 ⟨n, ch, o4, o5, rfl, kk, rk, hch, rfl⟩
  refine ⟨_, rfl, ch, rfl, ?_⟩
  cases ch with
  | false =>
    refine iteF ?_
    obtain ⟨n', rfl, hfix⟩ := hch rfl
    refine ⟨_, rfl, q d n' H1 kk hd ?_ hfix⟩
    obtain ⟨kvs, a1, a2, a3⟩ := rk.ex
    exact ⟨kvs, a1, a2, fun s hs => by rw [a3 s hs]; unfold rkV; rw [rank_stays hS hfix s hs 1]⟩
  | true =>
    refine iteT ⟨fun σ' H' => ∃ m', m' < 2 * (S.length - countL W S n) + (if true = true then 1 else 0) ∧ (∃ (n : Nat) (ch : Bool) (o4 o5 : Option V), σ' = [some (.ref p), some (.ref d), some (.bl ch), some (VN n), o4, o5] ∧ Kp H H' ∧ RankT P w W S H' d n ∧ (ch = false → ∃ n', n = n' + 1 ∧ ∀ s ∈ S, lostB W (n' + 1) s = lostB W n' s) ∧ m' = 2 * (S.length - countL W S n) + (if ch = true then 1 else 0)), fun σ' H' h => h, ?_⟩
    have en : (.int ((n : Int) + 1) : V) = VN (n + 1) := rfl
    refine ⟨_, rfl, _, _, rfl, rfl, _, _, rfl, Nat.zero_le _, fun L hL => ?_⟩
    obtain ⟨kvs, hdv1, hkeys, hval⟩ := rk.ex
    have g1 := gm.kp kk
    obtain ⟨sa, hsl, us, hsa, hus⟩ := g1.st
    have lus := Paired.length hus
    obtain ⟨dx, hp⟩ := g1.self.at_
    have kL : Kp H1 (upd H1 L (.lst [])) := Kp.new (.refl _) hL
    refine ⟨_, rfl, p, _, dx, fs, _, rfl, kL.ins hp, T.cls, T.nStands, hsl, sa, rfl, ⟨_, SqL.of (kL.lst hsa)⟩, for_list (K := K) (a := sa) (xs := us) (fun i σ H' => ∃ fr o5, σ = [some (.ref p), some (.ref d), some (.bl false), some (VN (n + 1)), some (.ref L), o5] ∧ Kp H1 H' ∧ H' L = some (.lst fr) ∧ Paired (StandV H') fr ((S.take i).filter (freshB W n))) ?_ ?_ ?_ ?_⟩
    · exact ⟨[], o5, rfl, kL, upd_same, by rw [List.take_zero]; exact .nil⟩
    · rintro i σ H' _ ⟨fr, o5, _, k, _⟩
      exact SqL.of (k.lst hsa)
    · rintro i x σ H2 hx ⟨fr, o5, rfl, k, hfr, hPf⟩
      obtain ⟨s, hs, hSt⟩ := Paired.at1 hus hx
      obtain ⟨sb, sbs, rfl, hsb, hsbs⟩ := id hSt
      have mS := List.mem_of_getElem? hs
      have lfr := Paired.length hPf
      have lf2 := List.length_filter_le (freshB W n) (S.take i)
      rw [List.length_take] at lf2
      refine ⟨_, rfl, _, rfl, d, sb, kvs, s, rfl, rfl, hdv1.kp k, StandV.mono k.ti hSt, _, rfl, ?_⟩
      have ev : (valV kvs s).isSome = lostB W n s := by rw [hval s mS, Option.isSome_map, rank_isSome]
      rw [ev]
      have skip : ∀ H3, Kp H2 H3 → freshB W n s = false → ∃ fr o5, [some (.ref p), some (.ref d), some (.bl false), some (VN (n + 1)), some (.ref L), some (.ref sb)] = [some (.ref p), some (.ref d), some (.bl false), some (VN (n + 1)), some (.ref L), o5] ∧ Kp H1 H3 ∧ H3 L = some (.lst fr) ∧ Paired (StandV H3) fr ((S.take (i + 1)).filter (freshB W n)) := fun H3 k3 e => by
        refine ⟨fr, _, rfl, k.trans k3, k3.lst hfr, ?_⟩
        rw [take_snoc hs, List.filter_append, show [s].filter (freshB W n) = [] by simp [List.filter_cons, e], List.append_nil]
        exact Paired.ti (fun v x hx => StandV.mono k3.ti hx) hPf
      cases hl : lostB W n s with
      | true => exact iteF (iteF (skip H2 (.refl _) (by unfold freshB; rw [hl]; rfl)))
      | false =>
        have g2 := g1.kp k
        obtain ⟨wd, wk, hwl, hwd, hwy⟩ := g2.wy
        obtain ⟨wa, hwa, ws, hws, hPw⟩ := hwy s mS
        have lws := Paired.length hPw
        refine iteT ⟨_, rfl, p, _, dx, fs, _, rfl, k.ins hp, T.cls, T.nWays, hwl, _, rfl, wd, sb, wk, s, _, rfl, rfl, hwd, StandV.mono k.ti hSt, hwa, wa, rfl, ⟨_, SqL.of hws⟩, ?_⟩
        refine gen_lst hws (fun i => match (waysOf W s)[i]? with | some os => os.all (inKv kvs) | none => false) rfl (.inl (T.hd dGReckon.at_ tm_gReckon)) ((tb.kp (kk.trans k)).lo tm_gReckon) (fun cv i x ys H' hx kp _ hy C hC => ?_) fun b H3 k3 hb => ?_
        · obtain ⟨os, ho, ⟨oa, rfl, hO⟩⟩ := Paired.at1 hPw hx
          rw [ho] at hC
          match ys, hy with
          | [y], _ =>
            refine ⟨_, rfl, p, dx, fs, rfl, (k.trans kp).ins hp, g1.self.nb, _, rfl, _, rfl, _, oa, d, os, kvs, rfl, hO.opts kp, hdv1.kp (k.trans kp), tb.kp (kk.trans (k.trans kp)), fun H3 k3 => ?_⟩
            exact hC [some (.ref oa)] H3 rfl k3
        · rw [lws] at hb
          have e := any_idx (l := waysOf W s) (g := fun os => os.all (inKv kvs)) (fun i x h => by rw [h]) hb
          rw [ways_any hS hval mS] at e
          have ef : freshB W n s = b := by unfold freshB; rw [hl, e]; rfl
          refine ⟨b, rfl, ?_⟩
          cases b with
          | false => exact iteF (skip H3 k3 ef)
          | true =>
            have hL3 := k3.lst hfr
            have t1 : Ti H3 (upd H3 L (.lst (fr ++ [.ref sb]))) := Ti.putL hL3
            refine iteT ⟨_, rfl, .inl ⟨rfl, _, SqL.of hL3⟩, _, rfl, L, fr, .ref sb, rfl, rfl, hL3, by rw [sizeLine_eq]; omega, ?_⟩
            refine ⟨fr ++ [.ref sb], _, rfl, (k.trans k3).putL hL hL3, upd_same, ?_⟩
            rw [take_snoc hs, List.filter_append, show [s].filter (freshB W n) = [s] by simp [List.filter_cons, ef]]
            exact Paired.snoc (Paired.ti (fun v x hx => StandV.mono (k3.ti.trans t1) hx) hPf) (StandV.mono (k.ti.trans (k3.ti.trans t1)) hSt)
    · rintro σ H2 ⟨fr, o5, rfl, k, hfr, hPf⟩
      rw [lus, List.take_length] at hPf
      generalize hF : S.filter (freshB W n) = F at hPf
      have memF : ∀ s, s ∈ F ↔ s ∈ S ∧ freshB W n s = true := fun s => by rw [← hF, List.mem_filter]
      have lfr := Paired.length hPf
      have lF : F.length ≤ S.length := by rw [← hF]; exact List.length_filter_le _ _
      have hdv2 := hdv1.kp k
      have dL : d ≠ L := hdv2.ne_lst hfr
      refine ⟨_, rfl, L, rfl, ⟨_, SqL.of hfr⟩, for_list (K := K) (a := L) (xs := fr) (fun i σ H' => ∃ o5 kvs', σ = [some (.ref p), some (.ref d), some (.bl (decide (0 < i))), some (VN (n + 1)), some (.ref L), o5] ∧ Kp H H' ∧ DictV P w H' d kvs' ∧ KeysIn S kvs' ∧ (∀ s ∈ S, valV kvs' s = if s ∈ F.take i then some (VN (n + 1)) else valV kvs s) ∧ H' L = some (.lst fr) ∧ Paired (StandV H') fr F) ?_ ?_ ?_ ?_⟩
      · exact ⟨o5, kvs, rfl, kk.trans k, hdv2, hkeys, fun s _ => by rw [List.take_zero, if_neg (by simp)], hfr, hPf⟩
      · rintro i σ H' _ ⟨o5, kvs', _, _, _, _, _, h, _⟩
        exact SqL.of h
      · rintro i x σ H3 hx ⟨o5, kvs', rfl, k3, hdv3, hk3, hv3, hfr3, hP3⟩
        obtain ⟨s, hs, hSt⟩ := Paired.at1 hP3 hx
        obtain ⟨sb, sbs, rfl, hsb, hsbs⟩ := id hSt
        have mS := ((memF s).mp (List.mem_of_getElem? hs)).1
        have lk3 := hk3.len
        refine ⟨_, rfl, _, rfl, _, rfl, d, sb, kvs', s, rfl, rfl, hdv3, hSt, by omega, fun o kput tput hdv4 => ?_⟩
        refine ⟨some (.ref sb), putK kvs' s (VN (n + 1)), ?_, kput H k3 hd, hdv4, hk3.put mS, fun j hj => ?_, by rw [upd_ne (Ne.symm dL)]; exact hfr3, Paired.ti (fun v x hx => StandV.mono tput hx) hP3⟩
        · rw [decide_eq_true (Nat.succ_pos i)]
          rfl
        · rw [valV_put, take_snoc hs, hv3 j hj]
          by_cases e : j = s
          · rw [if_pos e, if_pos (List.mem_append_right _ (List.mem_singleton.mpr e))]
          · rw [if_neg e]
            by_cases z : j ∈ F.take i
            · rw [if_pos z, if_pos (List.mem_append_left _ z)]
            · rw [if_neg z, if_neg (fun y => (List.mem_append.mp y).elim z fun y => e (List.mem_singleton.mp y))]
      · rintro σ H3 ⟨o5, kvs', rfl, k3, hdv3, hk3, hv3, hfr3, hP3⟩
        rw [lfr, List.take_length] at hv3
        rw [lfr]
        have up := count_up (W := W) (S := S) (n := n)
        have top := count_le (W := W) (S := S) (n := n + 1)
        have fl : ∀ s ∈ S, freshB W n s = false → lostB W (n + 1) s = lostB W n s := fun s _ e => by
          unfold freshB at e
          rw [lostB_succ]
          cases h1 : lostB W n s with
          | true => rfl
          | false => rw [h1] at e; simpa using e
        refine ⟨2 * (S.length - countL W S (n + 1)) + (if decide (0 < F.length) = true then 1 else 0), ?_, n + 1, decide (0 < F.length), _, _, rfl, k3, ⟨kvs', hdv3, hk3, fun s hs => ?_⟩, fun z => ⟨n, rfl, fun s hs => fl s hs ?_⟩, rfl⟩
        · rw [if_pos rfl]
          by_cases e : 0 < F.length
          · rw [if_pos (decide_eq_true e)]
            have : countL W S n < countL W S (n + 1) := by
              rcases Nat.lt_or_ge (countL W S n) (countL W S (n + 1)) with z | z
              · exact z
              · exfalso
                have hm := (memF F[0]).mp (List.getElem_mem e)
                have h1 := up.2 z _ hm.1
                have h2 := hm.2
                unfold freshB at h2
                rw [lostB_succ] at h1
                rw [Bool.and_eq_true, Bool.not_eq_true'] at h2
                rw [h2.1, h2.2] at h1
                cases h1
            omega
          · rw [if_neg (by rw [decide_eq_false e]; exact Bool.false_ne_true)]
            omega
        · rw [hv3 s hs, hval s hs]
          unfold rkV
          rw [rank_next]
          by_cases e : freshB W n s = true
          · rw [if_pos ((memF s).mpr ⟨hs, e⟩), if_pos e]; rfl
          · rw [if_neg (fun z => e ((memF s).mp z).2), if_neg e]
        · cases e : freshB W n s with
          | false => rfl
          | true =>
            have := List.length_pos_of_mem ((memF s).mpr ⟨hs, e⟩)
            rw [decide_eq_true this] at z
            cases z
end Dw
end

section
set_option Elab.async false
set_option linter.all false
set_option maxRecDepth 100000
set_option maxHeartbeats 1000000
namespace Dw
open PySem PySem.Spec PyProof.Rows L2
variable {P : Program} {w : World} {K : PySem.W.Frag} {mg : Str → Option Value} {base : Heap}
/-- lists and tuples stay -/
structure Lt (H H' : Hp) : Prop where
  ti : Ti H H'
  li : ∀ b xs, H b = some (.lst xs) → H' b = some (.lst xs)
theorem Kp.lt {H H' : Hp} (k : Kp H H') : Lt H H' := ⟨k.ti, fun _ _ h => k.lst h⟩
theorem Lt.trans {H H1 H2 : Hp} (a : Lt H H1) (b : Lt H1 H2) : Lt H H2 := ⟨a.ti.trans b.ti, fun _ _ h => b.li _ _ (a.li _ _ h)⟩
theorem Lt.ins {H : Hp} {p C dx : Addr} {fs : List (Str × V)} {o : HO} (h : H p = some (.ins C dx fs)) : Lt H (upd H p o) :=
  ⟨Ti.put fun xs e => (by rw [h] at e; cases e), fun b xs e => by
    have : b ≠ p := fun z => by rw [z, h] at e; cases e
    rw [upd_ne this]; exact e⟩
theorem Lt.dict {H : Hp} {d : Addr} {kvs : List (Stand × V)} {o : HO} (h : DictV P w H d kvs) : Lt H (upd H d o) :=
  ⟨Ti.put fun xs e => by obtain ⟨es, q, _⟩ := h; rw [q] at e; exact dictO_not_tup (Option.some.inj e), fun b xs e => by rw [upd_ne (Ne.symm (h.ne_lst e))]; exact e⟩
theorem LstV.lt {R : Hp → V → α → Prop} {H H' : Hp} {a : Addr} {xs : List α} (t : Lt H H') (hR : ∀ v x, R H v x → R H' v x) (h : LstV R H a xs) : LstV R H' a xs := let ⟨vs, e, p⟩ := h; ⟨vs, t.li _ _ e, Paired.ti hR p⟩
theorem WayV.lt {H H' : Hp} {v : V} {os : List (Option Stand)} (t : Lt H H') (h : WayV H v os) : WayV H' v os := let ⟨a, e, l⟩ := h; ⟨a, e, LstV.lt t (fun _ _ h => OptV.mono t.ti h) l⟩
theorem LstV.waysL {H H' : Hp} {a : Addr} {xs : List (List (Option Stand))} (t : Lt H H') (h : LstV WayV H a xs) : LstV WayV H' a xs := LstV.lt t (fun _ _ h => h.lt t) h
theorem LstV.standsL {H H' : Hp} {a : Addr} {xs : List Stand} (t : Lt H H') (h : LstV StandV H a xs) : LstV StandV H' a xs := LstV.lt t (fun _ _ h => StandV.mono t.ti h) h
theorem Kp.putI {H0 H : Hp} {p C dx : Addr} {fs : List (Str × V)} {o : HO} (k : Kp H0 H) (h0 : H0 p = none) (h : H p = some (.ins C dx fs)) : Kp H0 (upd H p o) :=
  k.put h0 h (fun ps e => by cases e) fun c z => by unfold CodeH at z; cases z
theorem DictV.putI {H : Hp} {p C dx d : Addr} {fs : List (Str × V)} {o : HO} {kvs : List (Stand × V)} (q : DictV P w H d kvs) (h : H p = some (.ins C dx fs)) : DictV P w (upd H p o) d kvs :=
  q.mono (Lt.ins h).ti fun es e => by
    have : d ≠ p := fun z => by rw [z, h] at e; unfold DictO at e; cases e
    rw [upd_ne this]; exact e
theorem pf1 {x : V} : putF ("works" : Str) x [] = [(("works" : Str), x)] := rfl
theorem pf2 {x y : V} : putF ("stands" : Str) y [(("works" : Str), x)] = [(("works" : Str), x), (("stands" : Str), y)] := rfl
theorem pf3 {x y z : V} : putF ("ways" : Str) z [(("works" : Str), x), (("stands" : Str), y)] = [(("works" : Str), x), (("stands" : Str), y), (("ways" : Str), z)] := rfl
theorem pf4 {x y z u : V} : putF ("within" : Str) u [(("works" : Str), x), (("stands" : Str), y), (("ways" : Str), z)] = [(("works" : Str), x), (("stands" : Str), y), (("ways" : Str), z), (("within" : Str), u)] := rfl
theorem pf5 {x y z u v : V} : putF ("sizes" : Str) v [(("works" : Str), x), (("stands" : Str), y), (("ways" : Str), z), (("within" : Str), u)] = [(("works" : Str), x), (("stands" : Str), y), (("ways" : Str), z), (("within" : Str), u), (("sizes" : Str), v)] := rfl
/-- the game behind its making -/
structure MadeV (P : Program) (w : World) (K : PySem.W.Frag) (W : Works) (H : Hp) (p : Addr) : Prop where
  ex : ∃ dx fs wd yd wk S n, H p = some (.ins (He.ga K "Game") dx fs) ∧ fs.lookup ("within" : Str) = some (.ref wd) ∧ fs.lookup ("ways" : Str) = some (.ref yd) ∧ DictV P w H yd wk ∧ (∀ s ∈ S, (valV wk s).isSome = true) ∧ RankT P w W S H wd n ∧ W.vats ∈ S ∧
    (∀ s ∈ S, ∀ kd ∈ W.kinds, ∀ r ∈ kd.routes, next s r ∈ S) ∧ ∀ s ∈ S, lostB W (n + 1) s = lostB W n s
def spInit (P : Program) (w : World) (K : PySem.W.Frag) : Sp := fun vs H Q _ => ∃ (p dx : Addr) (v : V) (H0 : Hp) (W : Works) (S : List Stand), vs = [.ref p, v] ∧ Kp H0 H ∧ H0 p = none ∧ H p = some (.ins (He.ga K "Game") dx []) ∧ WorksV H0 v W ∧ OkWorks W ∧ S.length ≤ 1000 ∧ (∀ s, Reach (allRoutes W) W.vats s → s ∈ S) ∧ TabsOk K H0 ∧
  ∀ H', Kp H0 H' → MadeV P w K W H' p → Q .non H'
theorem ok_gInit (T : Tx P w K mg base) : ∃ fd, Binds K fd ["self", "works"] [] ∧ FnOk P w K mg base CX0 6 (He.ma K (He.ga K "Game") "__init__") fd ["self", "works"] (spInit P w K) := by
  refine init_mk (k := 5) (N := ["self", "works", "stand", "kind"]) T dGInit (by simp [fn]) rfl rfl rfl ⟨rfl, rfl, rfl, by decide +kernel, rfl, by decide +kernel, by decide +kernel⟩ (fun vs H Q E ⟨p, dx, v, H0, W, S, e, _⟩ => by rw [e]; rfl) (fun _ _ _ _ _ _ us hl => match us, hl with | [_, _], _ => rfl) ?_
  intro A outer s H vs Q E hr h
  obtain ⟨p, dx, v, H0, W, S, rfl, k0, hp0, hp, hW, ok, hS, hRS, tb, q⟩ := h
  obtain ⟨a, vv, vk, rfl, ha, ⟨av, vvs, rfl, hav, hvs⟩, ⟨ak, ks, rfl, hak, hks⟩⟩ := id hW
  have lks := Paired.length hks
  have k3 := ok.k3
  refine ⟨_, (pss_cons
    (ps_fldK K rfl (pv 0) (pv 1) rfl) (pss_cons
    (ps_fldK K rfl (pv 0) (pe_callG (ok_allStands T) hr (by decide) (by rfl) (pa_cons (pv 1) pa_nil)) rfl) (pss_cons
    (ps_fldK K rfl (pv 0) (pe_nnewK P w rfl rfl) rfl) (pss_cons
    (ps_for PassesOwn.never rfl (pi_listK K rfl (pe_fldK K rfl (pv 0) rfl)) (pg_name (i := 2) (by decide +kernel : (["self", "works", "stand", "kind"] : List Str).Nodup) rfl (Or.inr rfl)) (pss_one
    (ps_nputK P w rfl rfl (hu10 hr) (pe_fldK K rfl (pv 0) rfl) (pv 2) (pe_lc (own := [("kind", 3)]) rfl (by decide +kernel : (["self", "works", "stand", "kind"] : List Str).Nodup) (pi_range1 (by rfl) T.fRange (pa_cons (pe_callB (call_lenK K rfl) (by rfl) T.fLen PySem.boot_len (pa_cons (pe_ix (ix_tupK K rfl) (pv 1) pe_int (fun _ _ => rfl)) pa_nil)) pa_nil)) (blkOk_by (N := ["self", "works", "stand", "kind"]) (sc := dGInit.scope) (by decide +kernel)) (fun _ _ _ _ _ => (pg_name (i := 3) (by decide +kernel : (["self", "works", "stand", "kind"] : List Str).Nodup) rfl (Or.inl rfl))) (fun _ _ _ _ _ => pts_nil) (fun _ _ _ _ _ => (pe_methG K rfl (ok_gAnswers T) T.cls (pv 0) hr (by decide) (pa_cons (pv 2) (pa_cons (pv 3) pa_nil))))) (by rfl)))) (pss_cons
    (ps_fldK K rfl (pv 0) (pe_methG0 K rfl (ok_gReckon T) T.cls (pv 0) hr (by decide)) rfl) (pss_one
    (ps_fldK K rfl (pv 0) (pe_nnewK P w rfl rfl) rfl))))))), ?_⟩
  -- self.works
  refine ⟨_, rfl, _, rfl, p, _, dx, _, rfl, hp, T.cls, T.nWorks, (by show 0 < 1000; decide), ?_⟩
  rw [pf1]
  have ka := k0.putI (o := .ins (He.ga K "Game") dx [("works", .ref a)]) hp0 hp
  generalize hH1 : upd H p (.ins (He.ga K "Game") dx [("works", .ref a)]) = H1 at ka
  have hp1 : H1 p = some (.ins (He.ga K "Game") dx [("works", .ref a)]) := by rw [← hH1, upd_same]
  -- self.stands
  refine ⟨_, rfl, _, W, S, rfl, hW.mono ka.ti, ok, hS, hRS, fun sa Ss H2 k2 hsa0 hls nd hmem => ?_⟩
  have hp2 := k2.ins hp1
  refine ⟨_, rfl, p, _, dx, _, rfl, hp2, T.cls, T.nStands, (by show 1 < 1000; decide), ?_⟩
  rw [pf2]
  have kb := (ka.trans k2).putI (o := .ins (He.ga K "Game") dx [("works", .ref a), ("stands", .ref sa)]) hp0 hp2
  have ls3 := hls.standsL (Lt.ins (o := .ins (He.ga K "Game") dx [("works", .ref a), ("stands", .ref sa)]) hp2)
  generalize hH3 : upd H2 p (.ins (He.ga K "Game") dx [("works", .ref a), ("stands", .ref sa)]) = H3 at kb ls3
  have hp3 : H3 p = some (.ins (He.ga K "Game") dx [("works", .ref a), ("stands", .ref sa)]) := by rw [← hH3, upd_same]
  -- self.ways
  refine fun wd hwd hdv => ?_
  have kn : Kp H3 (upd H3 wd (DictO P w wd [])) := Kp.new (.refl _) hwd
  have hwd0 : H0 wd = none := kb.dom wd hwd
  have hp4 := kn.ins hp3
  refine ⟨_, rfl, p, _, dx, _, rfl, hp4, T.cls, T.nWays, (by show 2 < 1000; decide), ?_⟩
  rw [pf3]
  have kc := (kb.trans kn).putI (o := .ins (He.ga K "Game") dx [("works", .ref a), ("stands", .ref sa), ("ways", .ref wd)]) hp0 hp4
  have ls5 := (ls3.stands kn).standsL (Lt.ins (o := .ins (He.ga K "Game") dx [("works", .ref a), ("stands", .ref sa), ("ways", .ref wd)]) hp4)
  have hdv5 := hdv.putI (o := .ins (He.ga K "Game") dx [("works", .ref a), ("stands", .ref sa), ("ways", .ref wd)]) hp4
  generalize hH5 : upd (upd H3 wd (DictO P w wd [])) p (.ins (He.ga K "Game") dx [("works", .ref a), ("stands", .ref sa), ("ways", .ref wd)]) = H5 at kc ls5 hdv5
  have hp5 : H5 p = some (.ins (He.ga K "Game") dx [("works", .ref a), ("stands", .ref sa), ("ways", .ref wd)]) := by rw [← hH5, upd_same]
  obtain ⟨us, hsa5, hus5⟩ := ls5
  have lus := Paired.length hus5
  have lSs : Ss.length ≤ 1000 := Nat.le_trans (len_of_sub nd fun s hs => hRS s ((hmem s).mp hs)) hS
  refine ⟨_, rfl, p, _, dx, _, _, rfl, hp5, T.cls, T.nStands, rfl, sa, rfl, ⟨_, SqL.of hsa5⟩, for_list (K := K) (a := sa) (xs := us) (fun i σ H' => ∃ o2 o3 wk, σ = [some (.ref p), some (.ref a), o2, o3] ∧ Kp H0 H' ∧ H' p = some (.ins (He.ga K "Game") dx [("works", .ref a), ("stands", .ref sa), ("ways", .ref wd)]) ∧
    H' sa = some (.lst us) ∧ Paired (StandV H') us Ss ∧ DictV P w H' wd wk ∧ KeysIn Ss wk ∧ ∀ s ∈ Ss.take i, ∃ la, valV wk s = some (.ref la) ∧ LstV WayV H' la (waysOf W s)) ?_ ?_ ?_ ?_⟩
  · exact ⟨none, none, [], rfl, kc, hp5, hsa5, hus5, hdv5, ⟨by simp, fun s hs => (by cases hs)⟩, by rw [List.take_zero]; intro s hs; cases hs⟩
  · rintro i σ H' _ ⟨o2, o3, wk, _, _, _, h, _⟩
    exact SqL.of h
  · rintro i x σ H6 hx ⟨o2, o3, wk, rfl, k6, hp6, hsa6, hP6, hdv6, hkeys, hways⟩
    obtain ⟨s, hs, hSt⟩ := Paired.at1 hP6 hx
    obtain ⟨sb, sbs, rfl, hsb, hsbs⟩ := id hSt
    have mS := List.mem_of_getElem? hs
    have oks := ((hmem s).mp mS).ok ok.stand
    refine ⟨_, rfl, a, _, 2, _, rfl, rfl, SqT.of (k6.tup ha), rfl, ak, ks, rfl, .inr (SqT.of (k6.tup hak)), _, rfl, by omega, by omega, fun D hD => ?_⟩
    refine lc_range (fun j H' => ∃ acc, Kp H6 H' ∧ H' D = some (.lst acc) ∧ Paired (fun v os => WayV H' v os ∧ v ≠ .ref D) acc ((waysOf W s).take j)) ?_ ?_ ?_
    · exact ⟨[], Kp.new (.refl _) hD, upd_same, by rw [List.take_zero]; exact .nil⟩
    · rintro j H7 hj ⟨acc, k7, hD7, hacc⟩
      have ej : (.int (0 + (j : Int)) : V) = VN j := by rw [Int.zero_add]
      rw [ej]
      have jk : j < W.kinds.length := by omega
      have hkd := List.getElem?_eq_getElem jk
      generalize W.kinds[j] = kd at hkd
      have lacc := Paired.length hacc
      rw [List.length_take] at lacc
      refine ⟨rfl, _, rfl, p, dx, _, rfl, k7.ins hp6, rfl, _, rfl, _, rfl, p, .ref sb, .ref a, j, _, W, kd, s, rfl, ⟨⟨dx, k7.ins hp6⟩, rfl, rfl, rfl⟩, rfl, hW.mono (k6.trans k7).ti, ok, StandV.mono k7.ti hSt, oks, hkd, tb.kp (k6.trans k7), fun la H8 k8 hla0 hla => ?_⟩
      have tD : Ti H8 (upd H8 D (.lst (acc ++ [.ref la]))) := Ti.putL (k8.lst hD7)
      have way : ∀ {v os}, WayV H8 v os → v ≠ .ref D → WayV (upd H8 D (.lst (acc ++ [.ref la]))) v os := fun {v os} h nv => by
        obtain ⟨b, rfl, us, hb, hus⟩ := h
        have : b ≠ D := fun z => nv (by rw [z])
        exact ⟨b, rfl, us, by rw [upd_ne this]; exact hb, Paired.ti (fun v x hx => OptV.mono tD hx) hus⟩
      have nla : (.ref la : V) ≠ .ref D := fun z => by
        have : la = D := V.ref.inj z
        rw [this, hD7] at hla0
        cases hla0
      have hw : (waysOf W s)[j]? = some (kd.routes.map (ansOf W kd s)) := by unfold waysOf; rw [List.getElem?_map, hkd]; rfl
      refine ⟨acc, k8.lst hD7, by rw [sizeLine_eq]; omega, acc ++ [.ref la], (k7.trans k8).putL hD (k8.lst hD7), upd_same, ?_⟩
      rw [take_snoc hw]
      exact Paired.snoc (L2.Paired.mapP hacc fun v os h => ⟨way (h.1.lt k8.lt) h.2, h.2⟩) ⟨way ⟨la, rfl, hla⟩ nla, nla⟩
    · rintro H7 ⟨acc, k7, hD7, hacc⟩
      rw [show (((ks.length : Nat) : Int)).toNat = (waysOf W s).length by unfold waysOf; rw [List.length_map, lks]; rfl, List.take_length] at hacc
      have hp7 := k7.ins hp6
      have hdv7 := hdv6.kp k7
      have lkeys := hkeys.len
      have hSt7 := StandV.mono k7.ti hSt
      refine ⟨_, rfl, p, _, dx, _, _, rfl, hp7, T.cls, T.nWays, rfl, _, rfl, wd, sb, wk, s, rfl, rfl, hdv7, hSt7, by omega, fun o kput tput hdv8 => ?_⟩
      have lt8 : Lt H7 (upd H7 wd o) := Lt.dict hdv7
      have pw : p ≠ wd := fun z => by
        obtain ⟨es, e, _⟩ := hdv7
        rw [← z, hp7] at e
        unfold DictO at e
        cases e
      have hway : LstV WayV (upd H7 wd o) D (waysOf W s) := LstV.waysL lt8 ⟨acc, hD7, L2.Paired.mapP hacc fun v os h => h.1⟩
      refine ⟨_, _, putK wk s (.ref D), rfl, kput H0 (k6.trans k7) hwd0, by rw [upd_ne pw]; exact hp7, lt8.li _ _ (k7.lst hsa6), Paired.ti (fun v x hx => StandV.mono (k7.ti.trans lt8.ti) hx) hP6, hdv8, hkeys.put mS, fun s' hs' => ?_⟩
      rw [valV_put]
      by_cases e : s' = s
      · rw [if_pos e, e]
        exact ⟨D, rfl, hway⟩
      · rw [if_neg e]
        rw [take_snoc hs, List.mem_append, List.mem_singleton] at hs'
        obtain ⟨la, h1, h2⟩ := hways s' (hs'.resolve_right e)
        exact ⟨la, h1, LstV.waysL (k7.lt.trans lt8) h2⟩
  · rintro σ H6 ⟨o2, o3, wk, rfl, k6, hp6, hsa6, hP6, hdv6, hkeys, hways⟩
    rw [lus, List.take_length] at hways
    have closed : ∀ s ∈ Ss, ∀ kd ∈ W.kinds, ∀ r ∈ kd.routes, next s r ∈ Ss := fun s hs kd hk r hr => (hmem _).mpr (.step ((hmem s).mp hs) (List.mem_flatMap.mpr ⟨kd, hk, hr⟩))
    -- self.within
    refine ⟨_, rfl, p, dx, _, rfl, hp6, rfl, p, _, W, Ss, rfl, ⟨⟨⟨dx, hp6⟩, rfl, rfl, rfl⟩, ⟨sa, rfl, us, hsa6, hP6⟩, ⟨wd, wk, rfl, hdv6, hways⟩⟩, nd, lSs, closed, tb.kp k6, fun rd n H7 k7 _ rk hfix => ?_⟩
    have hp7 := k7.ins hp6
    have hdv7 := hdv6.kp k7
    refine ⟨_, rfl, p, _, dx, _, rfl, hp7, T.cls, T.nWithin, (by show 3 < 1000; decide), ?_⟩
    rw [pf4]
    have k8 := (k6.trans k7).putI (o := .ins (He.ga K "Game") dx [("works", .ref a), ("stands", .ref sa), ("ways", .ref wd), ("within", .ref rd)]) hp0 hp7
    have hdv8 := hdv7.putI (o := .ins (He.ga K "Game") dx [("works", .ref a), ("stands", .ref sa), ("ways", .ref wd), ("within", .ref rd)]) hp7
    have rk8 : RankT P w W Ss _ rd n := ⟨let ⟨kvs, a1, r⟩ := rk.ex; ⟨kvs, a1.putI (o := .ins (He.ga K "Game") dx [("works", .ref a), ("stands", .ref sa), ("ways", .ref wd), ("within", .ref rd)]) hp7, r⟩⟩
    generalize hH8 : upd H7 p (.ins (He.ga K "Game") dx [("works", .ref a), ("stands", .ref sa), ("ways", .ref wd), ("within", .ref rd)]) = H8 at k8 hdv8 rk8
    have hp8 : H8 p = some (.ins (He.ga K "Game") dx [("works", .ref a), ("stands", .ref sa), ("ways", .ref wd), ("within", .ref rd)]) := by rw [← hH8, upd_same]
    -- self.sizes
    refine fun zd hzd _ => ?_
    have kn9 : Kp H8 (upd H8 zd (DictO P w zd [])) := Kp.new (.refl _) hzd
    have hp9 := kn9.ins hp8
    refine ⟨_, rfl, p, _, dx, _, rfl, hp9, T.cls, T.nSizes, (by show 4 < 1000; decide), ?_⟩
    rw [pf5]
    refine q _ ((k8.trans kn9).putI hp0 hp9) ⟨dx, _, rd, wd, wk, Ss, n, upd_same, rfl, rfl, (hdv8.kp kn9).putI hp9, fun s hs => ?_, ⟨?_⟩, (hmem _).mpr .here, closed, hfix⟩
    · obtain ⟨la, h1, _⟩ := hways s hs
      rw [h1]
      rfl
    · obtain ⟨kvs, a1, r⟩ := (rk8.kp kn9).ex
      exact ⟨kvs, a1.putI hp9, r⟩
end Dw
end

section
set_option Elab.async false
set_option linter.all false
set_option maxRecDepth 100000
set_option maxHeartbeats 1000000
namespace Dw
open PySem PySem.Spec PyProof.Rows L2
variable {P : Program} {w : World} {K : PySem.W.Frag} {mg : Str → Option Value} {base : Heap}
def spNeedCome (P : Program) (w : World) (K : PySem.W.Frag) : Sp := fun vs H Q _ => ∃ (p : Addr) (u : V) (W : Works), vs = [.ref p, u] ∧ MadeV P w K W H p ∧ StandV H u W.vats ∧ Q .non H
theorem ok_needCome (T : Tx P w K mg base) : Good P w K mg base "need_come" 1 ["game", "stand"] (spNeedCome P w K) := by
  refine good_mk (k := 0) (N := ["game", "stand"]) T dNeedCome (by simp [fn]) T.gNeedCome rfl rfl rfl ⟨rfl, rfl, rfl, by decide +kernel, rfl, by decide +kernel, by decide +kernel⟩ (fun vs H Q E ⟨p, u, W, e, _⟩ => by rw [e]; rfl) (fun _ _ _ _ _ _ us hl => match us, hl with | [_, _], _ => rfl) ?_
  intro A outer s H vs Q E hr h
  obtain ⟨p, u, W, rfl, hm, hu, q⟩ := h
  obtain ⟨dx, fs, wd, yd, wk, S, n, hp, h1, h2, hdv, hwk, rk, hv, hcl, hfix⟩ := hm.ex
  obtain ⟨b, bs, rfl, hb, hbs⟩ := id hu
  refine ⟨_, (pss_one
    (ps_if (pt_cmp (pc_nnotK P w rfl rfl (hu10 hr) (pv 1) (pe_fldK K rfl (pv 0) rfl)) (by rfl)) (pss_one
    ps_never) pss_nil)), ?_⟩
  refine ⟨_, rfl, _, rfl, p, _, dx, fs, _, rfl, hp, T.cls, T.nWays, h2, yd, b, wk, _, rfl, rfl, hdv, hu, _, rfl, ?_⟩
  rw [hwk _ hv]
  exact iteF q
def spLostWithin (K : PySem.W.Frag) : Sp := fun vs H Q _ => ∃ (v u : V) (W : Works) (S : List Stand), vs = [v, u] ∧ WorksV H v W ∧ StandV H u W.vats ∧ OkWorks W ∧ S.length ≤ 1000 ∧ (∀ s, Reach (allRoutes W) W.vats s → s ∈ S) ∧ TabsOk K H ∧
  ∀ (n : Nat) (S' : List Stand) (H' : Hp), Kp H H' → W.vats ∈ S' → (∀ s ∈ S', ∀ kd ∈ W.kinds, ∀ r ∈ kd.routes, next s r ∈ S') → (∀ s ∈ S', lostB W (n + 1) s = lostB W n s) → Q ((rkV W n W.vats).getD .non) H'
theorem ok_lostWithin (T : Tx P w K mg base) : Good P w K mg base "lost_within" 8 ["works", "stand"] (spLostWithin K) := by
  refine good_mk (k := 7) (N := ["works", "stand", "game"]) T dLostWithin (by simp [fn]) T.gLostWithin rfl rfl rfl ⟨rfl, rfl, rfl, by decide +kernel, rfl, by decide +kernel, by decide +kernel⟩ (fun vs H Q E ⟨v, u, W, S, e, _⟩ => by rw [e]; rfl) (fun _ _ _ _ _ _ us hl => match us, hl with | [_, _], _ => rfl) ?_
  intro A outer s H vs Q E hr h
  obtain ⟨v, u, W, S, rfl, hW, hu, ok, hS, hRS, tb, q⟩ := h
  refine ⟨_, (pss_cons
    (ps_expr (pe_callG (ok_needWorks T) hr (by decide) (by rfl) (pa_cons (pv 0) pa_nil))) (pss_cons
    (ps_expr (pe_callG (ok_needStand T) hr (by decide) (by rfl) (pa_cons (pv 0) (pa_cons (pv 1) pa_nil)))) (pss_cons
    (ps_set (i := 2) (by decide +kernel : (["works", "stand", "game"] : List Str).Nodup) rfl (Or.inl rfl) (pe_makeG K rfl (ok_gInit T) T.mkr hr (by decide) (by rfl) T.gGame (pa_cons (pv 0) pa_nil))) (pss_cons
    (ps_expr (pe_callG (ok_needCome T) hr (by decide) (by rfl) (pa_cons (pv 2) (pa_cons (pv 1) pa_nil)))) (pss_one
    (ps_ret (pe_nget1K P w rfl rfl (hu10 hr) (pe_fldK K rfl (pv 2) rfl) (pv 1) ⟨rfl, rfl, rfl, rfl⟩))))))), ?_⟩
  refine ⟨_, rfl, v, W, rfl, hW, ok, tb, fun H1 k1 => ⟨_, rfl, _, rfl, v, u, W, rfl, hW.mono k1.ti, StandV.mono k1.ti hu, ok, tb.kp k1, fun H2 k2 => ⟨_, rfl, fun p dx hp hdx ne => ?_⟩⟩⟩
  have k12 := k1.trans k2
  have kn : Kp H2 (upd (upd H2 dx (.own p)) p (.ins (He.ga K "Game") dx [])) := by
    refine (Kp.new (.refl _) hdx).trans (Kp.new (.refl _) ?_)
    rw [upd_ne (Ne.symm ne)]
    exact hp
  refine ⟨p, dx, v, H2, W, S, rfl, kn, hp, upd_same, hW.mono k12.ti, ok, hS, hRS, tb.kp k12, fun H3 k3 hm => ⟨rfl, ?_⟩⟩
  have hu3 := StandV.mono (k12.trans k3).ti hu
  refine ⟨_, rfl, _, rfl, p, u, W, rfl, hm, hu3, ?_⟩
  obtain ⟨dx2, fs, wd, yd, wk, S', n, hp3, h1, h2, hdv, hwk, rk, hv, hcl, hfix⟩ := hm.ex
  obtain ⟨kvs, a1, a2, a3⟩ := rk.ex
  obtain ⟨b, bs, rfl, hb, hbs⟩ := id hu3
  refine ⟨_, rfl, p, _, dx2, fs, _, rfl, hp3, T.cls, T.nWithin, h1, wd, kvs, rfl, a1, _, rfl, b, W.vats, rfl, a1, hu3, ?_⟩
  rw [a3 _ hv]
  exact q n S' H3 (k12.trans k3) hv hcl hfix
end Dw
end

section
set_option Elab.async false
set_option linter.all false
set_option maxRecDepth 100000
set_option maxHeartbeats 1000000
namespace Dw
open PySem PySem.Spec PyProof.Rows L2
variable {P : Program} {w : World} {K : PySem.W.Frag} {mg : Str → Option Value} {base : Heap}
/-- all but the list at a stays -/
structure KpX (a : Addr) (H H' : Hp) : Prop where
  keep : ∀ b o, b ≠ a → H b = some o → (∀ ps, o ≠ .tbl ps) → H' b = some o
  tab : ∀ n P, TabN n H P → TabN n H' P
  dom : ∀ b, H' b = none → H b = none
theorem Kp.x {a : Addr} {H H' : Hp} (k : Kp H H') : KpX a H H' := ⟨fun b o _ => k.keep b o, k.tab, k.dom⟩
theorem KpX.refl (a : Addr) (H : Hp) : KpX a H H := (Kp.refl H).x
theorem KpX.trans {a : Addr} {H H1 H2 : Hp} (k : KpX a H H1) (j : KpX a H1 H2) : KpX a H H2 := ⟨fun b o n e t => j.keep b o n (k.keep b o n e t) t, fun n P h => j.tab n P (k.tab n P h), fun b h => k.dom b (j.dom b h)⟩
theorem KpX.kp {a : Addr} {H0 H H' : Hp} (k : Kp H0 H) (h0 : H0 a = none) (j : KpX a H H') : Kp H0 H' :=
  ⟨fun b o e t => j.keep b o (fun z => by rw [z, h0] at e; cases e) (k.keep b o e t) t, fun n P h => j.tab n P (k.tab n P h), fun b h => k.dom b (j.dom b h)⟩
theorem KpX.put {a : Addr} {H H' : Hp} {xs : List V} {o : HO} (k : KpX a H H') (h : H' a = some (.lst xs)) (hn : H a ≠ none) : KpX a H (upd H' a o) where
  keep := fun b u n e t => by rw [upd_ne n]; exact k.keep b u n e t
  tab := fun n P t => tabN_of (fun b ps e => by
      have : b ≠ a := fun z => by rw [z, h] at e; cases e
      rw [upd_ne this]; exact e) (fun c P e => by
      have : c ≠ a := fun z => by rw [z, h] at e; exact lst_ne_code (Option.some.inj e)
      rw [upd_ne this]; exact e) (k.tab n P t)
  dom := fun b e => by
    by_cases z : b = a
    · rw [z, upd_same] at e; cases e
    · rw [upd_ne z] at e; exact k.dom b e
theorem KpX.putL {a : Addr} {H H' : Hp} {p : Addr} {xs : List V} {o : HO} (k : KpX a H H') (h0 : H p = none) (h : H' p = some (.lst xs)) : KpX a H (upd H' p o) where
  keep := fun b u n e t => by
    have : b ≠ p := fun z => by rw [z, h0] at e; cases e
    rw [upd_ne this]; exact k.keep b u n e t
  tab := fun n P t => tabN_of (fun b ps e => by
      have : b ≠ p := fun z => by rw [z, h] at e; cases e
      rw [upd_ne this]; exact e) (fun c P e => by
      have : c ≠ p := fun z => by rw [z, h] at e; exact lst_ne_code (Option.some.inj e)
      rw [upd_ne this]; exact e) (k.tab n P t)
  dom := fun b e => by
    by_cases z : b = p
    · rw [z]; exact h0
    · rw [upd_ne z] at e; exact k.dom b e
theorem KpX.new {a : Addr} {H H' : Hp} {p : Addr} {o : HO} (k : KpX a H H') (h : H' p = none) : KpX a H (upd H' p o) := k.trans (Kp.new (.refl _) h).x
theorem KpX.lst {a : Addr} {H H' : Hp} (k : KpX a H H') {b : Addr} {xs : List V} (n : b ≠ a) (h : H b = some (.lst xs)) : H' b = some (.lst xs) := k.keep _ _ n h fun _ e => by cases e
/-- the law's row: the script, and three numbers -/
def RowAt (H : Hp) (a sc : Addr) : Prop := ∃ (i : Nat) (x m : Int), H a = some (.lst [.ref sc, VN i, .int x, .int m])
structure RowV (K : PySem.W.Frag) (H : Hp) (a sc : Addr) : Prop where
  at_ : RowAt H a sc
  sq : ∃ ns : List Int, SqL K H sc (ns.map V.int) ∧ (sc ≠ a ∨ ∀ H' : Hp, SqL K H' sc (ns.map V.int))
theorem sqL_upd {H : Hp} {a b : Addr} {o : HO} {xs : List V} (n : b ≠ a ∨ ∀ H' : Hp, SqL K H' b xs) (h : SqL K H b xs) : SqL K (upd H a o) b xs := by
  rcases n with n | n
  rotate_left
  · exact n _
  rcases h with h | h
  · rcases h with h | ⟨u, h⟩
    · exact .inl (.inl (by rw [upd_ne n]; exact h))
    · exact .inl (.inr ⟨u, by rw [upd_ne n]; exact h⟩)
  · exact .inr h
theorem KpX.sq {a : Addr} {H H' : Hp} (k : KpX a H H') {b : Addr} {xs : List V} (n : b ≠ a ∨ ∀ H' : Hp, SqL K H' b xs) (h : SqL K H b xs) : SqL K H' b xs := by
  rcases n with n | n
  rotate_left
  · exact n _
  rcases h with h | h
  · rcases h with h | ⟨u, h⟩
    · exact .inl (.inl (k.keep _ _ n h fun ps z => by cases z))
    · exact .inl (.inr ⟨u, k.keep _ _ n h fun ps z => by cases z⟩)
  · exact .inr h
/-- behind a step that keeps the row's list's shape -/
theorem RowV.to {H H' : Hp} {a sc : Addr} (h : RowV K H a sc) (k : KpX a H H') (r : RowAt H' a sc) : RowV K H' a sc := ⟨r, let ⟨ns, q, n⟩ := h.sq; ⟨ns, k.sq n q, n⟩⟩
theorem RowAt.ne {H : Hp} {a sc D : Addr} (h : RowAt H a sc) (hD : H D = none) : D ≠ a := fun z => by
  obtain ⟨i, x, m, e⟩ := h
  rw [z, e] at hD
  cases hD
theorem RowAt.upd {H : Hp} {a sc D : Addr} {o : HO} (h : RowAt H a sc) (n : D ≠ a) : RowAt (upd H D o) a sc := let ⟨i, x, m, e⟩ := h; ⟨i, x, m, by rw [upd_ne (Ne.symm n)]; exact e⟩
theorem KpX.ti {a sc : Addr} {H H' : Hp} (k : KpX a H H') (h : RowAt H a sc) : Ti H H' := fun b xs e => by
  obtain ⟨_, _, _, hl⟩ := h
  refine k.keep b _ (fun z => ?_) e fun _ z => by cases z
  rw [z, hl] at e
  cases e
theorem mod_nat {c : Int} {m : Nat} (h : 0 < m) : ∃ n : Nat, n < m ∧ c % (m : Int) = n := by
  have h1 := Int.emod_nonneg c (show (m : Int) ≠ 0 by omega)
  have h2 := Int.emod_lt_of_pos c (show (0 : Int) < m by omega)
  exact ⟨(c % (m : Int)).toNat, by omega, by omega⟩
/-! ### _law_taken -/
def spTaken (K : PySem.W.Frag) : Sp := fun vs H Q _ => ∃ (a sc : Addr) (ns : List Int) (i m : Nat) (x y : Int), vs = [.ref a, VN m] ∧ 0 < m ∧ m ≤ 1000 ∧ H a = some (.lst [.ref sc, VN i, .int x, .int y]) ∧ SqL K H sc (ns.map V.int) ∧ (sc ≠ a ∨ ∀ H' : Hp, SqL K H' sc (ns.map V.int)) ∧
  ∀ (n j : Nat) (x y : Int), n < m → Q (VN n) (upd H a (.lst [.ref sc, VN j, .int x, .int y]))
theorem ok_lawTaken0 (T : Tx P w K mg base) : Good P w K mg base "_law_taken" 1 ["_law_row", "_law_many"] (spTaken K) := by
  refine good_mk (k := 0) (N := ["_law_row", "_law_many", "_law_found", "_law_cell"]) T dLawTaken (by simp [fn]) T.gLawTaken rfl rfl rfl ⟨rfl, rfl, rfl, by decide +kernel, rfl, by decide +kernel, by decide +kernel⟩ (fun vs H Q E ⟨a, sc, ns, i, m, x, y, e, _⟩ => by rw [e]; rfl) (fun _ _ _ _ _ _ us hl => match us, hl with | [_, _], _ => rfl) ?_
  intro A outer s H vs Q E hr h
  obtain ⟨a, sc, ns, i, m, x, y, rfl, hm, hm2, ha, hs, nsc, q⟩ := h
  have cd : CDivW y (m : Int) := ⟨by omega, by
    have : ((m : Int)).natAbs < 2 ^ 10 := by omega
    exact Nat.lt_of_lt_of_le (PySem.Flt.log2_lt_of (by decide) this) (by decide)⟩
  refine ⟨_, (pss_cons
    (ps_if (pt_cmpR op_gt (pe_ix (ix_listK K rfl) (pv 0) pe_int (fun _ _ => rfl)) pe_int (nomark _)) (pss_cons
    (ps_set (i := 2) (by decide +kernel : (["_law_row", "_law_many", "_law_found", "_law_cell"] : List Str).Nodup) rfl (Or.inl rfl) (pe_op op_mod (pe_callTy call_int1 (by rfl) T.fInt (by decide +kernel) (pa_cons (pe_ix (ix_listK K rfl) (pv 0) pe_int (fun _ _ => rfl)) pa_nil)) (pv 1))) (pss_cons
    (ps_asg (pe_op op_fdivW (pe_ix (ix_listK K rfl) (pv 0) pe_int (fun _ _ => rfl)) (pv 1)) (pg_sub (pv 0) pe_int set_list)) (pss_one
    (ps_ret (pv 2))))) pss_nil) (pss_cons
    (ps_asg (pe_op op_add (pe_ix (ix_listK K rfl) (pv 0) pe_int (fun _ _ => rfl)) pe_int) (pg_sub (pv 0) pe_int set_list)) (pss_cons
    (ps_if (pt_cmpR op_gt (pe_ix (ix_listK K rfl) (pv 0) pe_int (fun _ _ => rfl)) (pe_callB (call_lenK K rfl) (by rfl) T.fLen PySem.boot_len (pa_cons (pe_ix (ix_listK K rfl) (pv 0) pe_int (fun _ _ => rfl)) pa_nil)) (nomark _)) (pss_cons
    (ps_asg (pe_op op_mod (pe_callTy call_int1 (by rfl) T.fInt (by decide +kernel) (pa_cons (pe_op op_add (pe_op op_mul (pe_ix (ix_listK K rfl) (pv 0) pe_int (fun _ _ => rfl)) pe_int) pe_int) pa_nil)) pe_int) (pg_sub (pv 0) pe_int set_list)) (pss_one
    (ps_ret (pe_op op_mod (pe_callTy call_int1 (by rfl) T.fInt (by decide +kernel) (pa_cons (pe_op op_fdivW (pe_ix (ix_listK K rfl) (pv 0) pe_int (fun _ _ => rfl)) pe_int) pa_nil)) (pv 1))))) pss_nil) (pss_cons
    (ps_set (i := 3) (by decide +kernel : (["_law_row", "_law_many", "_law_found", "_law_cell"] : List Str).Nodup) rfl (Or.inl rfl) (pe_ix (ix_listK K rfl) (pe_ix (ix_listK K rfl) (pv 0) pe_int (fun _ _ => rfl)) (pe_op op_sub (pe_ix (ix_listK K rfl) (pv 0) pe_int (fun _ _ => rfl)) pe_int) (fun _ _ => rfl))) (pss_cons
    (ps_asg (pe_op op_mod (pe_callTy call_int1 (by rfl) T.fInt (by decide +kernel) (pa_cons (pe_op op_add (pe_op op_add (pe_op op_mul (pe_ix (ix_listK K rfl) (pv 0) pe_int (fun _ _ => rfl)) pe_int) (pv 3)) pe_int) pa_nil)) pe_int) (pg_sub (pv 0) pe_int set_list)) (pss_cons
    (ps_if (pt_cmpR op_ge (pv 3) (pe_op op_pow pe_int pe_int) (nomark _)) (pss_one
    (ps_asg (pe_op op_fdivW (pv 3) (pv 1)) (pg_sub (pv 0) pe_int set_list))) pss_nil) (pss_one
    (ps_ret (pe_op op_mod (pe_callTy call_int1 (by rfl) T.fInt (by decide +kernel) (pa_cons (pv 3) pa_nil)) (pv 1)))))))))), ?_⟩
  refine ⟨_, rfl, a, _, 3, _, rfl, rfl, SqL.of ha, rfl, _, _, rfl, rfl, _, rfl, ?_⟩
  obtain ⟨n0, hn0, en0⟩ := mod_nat (c := y) hm
  have pm : (0 : Int) < m := by omega
  have at3 : ixN 4 3 = some 3 := by decide
  have at2 : ixN 4 2 = some 2 := by decide
  have at1 : ixN 4 1 = some 1 := by decide
  by_cases h3 : 0 < y
  · refine itT h3 ⟨_, rfl, a, _, 3, _, rfl, rfl, SqL.of ha, rfl, .inl ⟨_, rfl, _, rfl, _, _, rfl, rfl, pm, ?_⟩⟩
    refine ⟨_, rfl, a, _, 3, _, rfl, rfl, SqL.of ha, rfl, _, rfl, _, _, rfl, rfl, cd, _, rfl, a, _, 3, 3, rfl, rfl, ha, at3, _, rfl, ?_⟩
    show Q (.int (y % (m : Int))) _
    rw [en0]
    exact q n0 i x _ hn0
  · refine itF h3 ?_
    refine ⟨_, rfl, a, _, 1, _, rfl, rfl, SqL.of ha, rfl, _, _, rfl, rfl, _, rfl, a, _, 1, 1, rfl, rfl, ha, at1, ?_⟩
    refine ⟨_, rfl, a, _, 1, _, rfl, rfl, SqL.of upd_same, rfl, _, rfl, a, _, 0, _, rfl, rfl, SqL.of upd_same, rfl, sc, _, rfl, .inl (sqL_upd nsc hs), _, _, rfl, rfl, _, rfl, ?_⟩
    rw [List.length_map]
    by_cases h4 : (ns.length : Int) < (i : Int) + 1
    · refine itT h4 ?_
      refine ⟨_, rfl, a, _, 2, _, rfl, rfl, SqL.of upd_same, rfl, _, _, rfl, rfl, .inr ⟨by decide, by decide⟩, _, _, rfl, rfl, .inl ⟨_, rfl, _, _, rfl, rfl, (by show (0 : Int) < 2147483647; decide), _, rfl, a, _, 2, 2, rfl, rfl, upd_same, at2, ?_⟩⟩
      refine ⟨_, rfl, a, _, 2, _, rfl, rfl, SqL.of upd_same, rfl, _, _, rfl, rfl, ⟨by decide, by decide +kernel⟩, .inl ⟨_, rfl, _, rfl, _, _, rfl, rfl, pm, ?_⟩⟩
      obtain ⟨n1, hn1, en1⟩ := mod_nat (c := (x * 48271 + 11) % 2147483647 / 7) hm
      show Q (.int ((x * 48271 + 11) % 2147483647 / 7 % (m : Int))) _
      rw [en1, upd_upd]
      exact q n1 (i + 1) _ y hn1
    · refine itF h4 ?_
      have li : i < ns.length := by omega
      have hc : (ns.map V.int)[i]? = some (.int ns[i]) := by rw [List.getElem?_map, List.getElem?_eq_getElem li]; rfl
      generalize ns[i] = c at hc
      have cd2 : CDivW c (m : Int) := ⟨cd.1, cd.2⟩
      refine ⟨_, rfl, a, _, 0, _, rfl, rfl, SqL.of upd_same, rfl, _, rfl, a, _, 1, _, rfl, rfl, SqL.of upd_same, rfl, _, _, rfl, rfl, sc, _, _, _, rfl, rfl, sqL_upd nsc hs, (by rw [show (i : Int) + 1 - 1 = (i : Int) by omega]; exact atI_nat hc), ?_⟩
      refine ⟨_, rfl, a, _, 2, _, rfl, rfl, SqL.of upd_same, rfl, _, _, rfl, rfl, .inr ⟨by decide, by decide⟩, _, rfl, _, _, rfl, rfl, _, _, rfl, rfl, .inl ⟨_, rfl, _, _, rfl, rfl, (by show (0 : Int) < 2147483647; decide), _, rfl, a, _, 2, 2, rfl, rfl, upd_same, at2, ?_⟩⟩
      refine ⟨_, rfl, _, _, rfl, rfl, ⟨by decide, by decide, by decide +kernel⟩, _, _, rfl, rfl, _, rfl, ?_⟩
      obtain ⟨n1, hn1, en1⟩ := mod_nat (c := c) hm
      by_cases h5 : (10 : Int) ^ ((18 : Int).toNat) ≤ c
      · refine itT h5 ?_
        refine ⟨_, rfl, _, rfl, _, _, rfl, rfl, cd2, _, rfl, a, _, 3, 3, rfl, rfl, upd_same, at3, ?_⟩
        refine ⟨_, rfl, .inl ⟨_, rfl, _, rfl, _, _, rfl, rfl, pm, ?_⟩⟩
        show Q (.int (c % (m : Int))) _
        rw [en1, upd_upd, upd_upd]
        exact q n1 (i + 1) _ _ hn1
      · refine itF h5 ?_
        refine ⟨_, rfl, .inl ⟨_, rfl, _, rfl, _, _, rfl, rfl, pm, ?_⟩⟩
        show Q (.int (c % (m : Int))) _
        rw [en1, upd_upd]
        exact q n1 (i + 1) _ _ hn1
theorem taken_of {H : Hp} {a sc : Addr} {m : Nat} {Q : VK} {E : XK} (h : RowV K H a sc) (h1 : 0 < m) (h2 : m ≤ 1000) (q : ∀ n H', n < m → KpX a H H' → RowV K H' a sc → (∀ b, b ≠ a → H' b = H b) → Q (VN n) H') : spTaken K [.ref a, VN m] H Q E := by
  obtain ⟨i, x, y, ha⟩ := h.at_
  obtain ⟨ns, hs, hne⟩ := h.sq
  refine ⟨a, sc, ns, i, m, x, y, rfl, h1, h2, ha, hs, hne, fun n j x y hn => ?_⟩
  have k : KpX a H (upd H a (.lst [.ref sc, VN j, .int x, .int y])) := (KpX.refl a H).put ha (by rw [ha]; exact fun z => by cases z)
  exact q n _ hn k (h.to k ⟨j, x, y, upd_same⟩) fun b hb => upd_ne hb
def spTakenR (K : PySem.W.Frag) : Sp := fun vs H Q _ => ∃ (a sc : Addr) (m : Nat), vs = [.ref a, VN m] ∧ 0 < m ∧ m ≤ 1000 ∧ RowV K H a sc ∧ ∀ n H', n < m → KpX a H H' → RowV K H' a sc → (∀ b, b ≠ a → H' b = H b) → Q (VN n) H'
theorem Good.imp {x : Str} {k : Nat} {ps : List Str} {sp sp' : Sp} (g : Good P w K mg base x k ps sp) (h : ∀ vs H Q E, sp' vs H Q E → sp vs H Q E) : Good P w K mg base x k ps sp' :=
  let ⟨f, fd, a, b, c, F⟩ := g; ⟨f, fd, a, b, c, F.imp h⟩
theorem ok_lawTaken (T : Tx P w K mg base) : Good P w K mg base "_law_taken" 1 ["_law_row", "_law_many"] (spTakenR K) :=
  (ok_lawTaken0 T).imp fun vs H Q E ⟨a, sc, m, e, h1, h2, row, q⟩ => by rw [e]; exact taken_of row h1 h2 q
/-! ### _law_dyes -/
def spDyes (K : PySem.W.Frag) : Sp := fun vs H Q _ => ∃ (a sc : Addr) (D m : Nat), vs = [.ref a, VN D, VN m] ∧ 0 < m ∧ m ≤ 1000 ∧ D ≤ 10 ∧ RowV K H a sc ∧ ∀ v l H', KpX a H H' → RowV K H' a sc → LotV H' v l → OkLot D l → Q v H'
theorem ok_lawDyes (T : Tx P w K mg base) : Good P w K mg base "_law_dyes" 2 ["_law_row", "_law_dyes_here", "_law_many"] (spDyes K) := by
  refine good_mk (k := 1) (N := ["_law_row", "_law_dyes_here", "_law_many", "_law_dye"]) T dLawDyes (by simp [fn]) T.gLawDyes rfl rfl rfl ⟨rfl, rfl, rfl, by decide +kernel, rfl, by decide +kernel, by decide +kernel⟩ (fun vs H Q E ⟨a, sc, D, m, e, _⟩ => by rw [e]; rfl) (fun _ _ _ _ _ _ us hl => match us, hl with | [_, _, _], _ => rfl) ?_
  intro A outer s H vs Q E hr h
  obtain ⟨a, sc, n, m, rfl, hm, hm2, hn, row, q⟩ := h
  refine ⟨_, (pss_one
    (ps_ret (pe_callTy (call_tupleK K rfl) (by rfl) T.fTuple (by decide +kernel) (pa_cons (pe_lc (own := [("_law_dye", 3)]) rfl (by decide +kernel : (["_law_row", "_law_dyes_here", "_law_many", "_law_dye"] : List Str).Nodup) (pi_range1 (by rfl) T.fRange (pa_cons (pv 1) pa_nil)) (blkOk_by (N := ["_law_row", "_law_dyes_here", "_law_many", "_law_dye"]) (sc := dLawDyes.scope) (by decide +kernel)) (fun _ _ _ _ _ => (pg_name (i := 3) (by decide +kernel : (["_law_row", "_law_dyes_here", "_law_many", "_law_dye"] : List Str).Nodup) rfl (Or.inl rfl))) (fun _ _ _ _ _ => pts_one (pt_cmpR op_eq (pe_callG (ok_lawTaken T) hr (by decide) (by rfl) (pa_cons (pv 0) (pa_cons (pv 2) pa_nil))) pe_int (nomark _))) (fun _ _ _ _ _ => (pv 3))) pa_nil)))), ?_⟩
  refine ⟨_, rfl, _, rfl, by omega, by omega, fun D hD => ?_⟩
  have nD := row.at_.ne hD
  refine lc_range (fun i H' => ∃ l, KpX a H H' ∧ RowAt H' a sc ∧ H' D = some (.lst (nums l)) ∧ Asc l ∧ ∀ x ∈ l, x < i) ?_ ?_ ?_
  · exact ⟨[], (KpX.refl a H).new hD, row.at_.upd nD, upd_same, List.Pairwise.nil, fun x hx => by cases hx⟩
  · rintro i H1 hi ⟨l, k, r1, hD1, hA, hB⟩
    have ei : (.int (0 + (i : Int)) : V) = VN i := by rw [Int.zero_add]
    rw [ei]
    have ll : l.length ≤ i := okLot_len ⟨hA, hB⟩
    have i10 : i < n := by omega
    refine ⟨rfl, _, rfl, _, rfl, a, sc, m, rfl, hm, hm2, row.to k r1, fun t H2 ht k2 row2 same => ⟨rfl, _, rfl, ?_⟩⟩
    have hD2 : H2 D = some (.lst (nums l)) := by rw [same D nD]; exact hD1
    refine ite2 (fun _ => ⟨_, rfl, nums l, hD2, by rw [nums_len, sizeLine_eq]; omega, l ++ [i], (k.trans k2).putL hD hD2, row2.at_.upd nD, ?_, ?_, fun x hx => ?_⟩) fun _ => ⟨l, k.trans k2, row2.at_, hD2, hA, fun x hx => Nat.lt_succ_of_lt (hB x hx)⟩
    · rw [upd_same]
      unfold nums
      rw [List.map_append]
      rfl
    · exact List.pairwise_append.mpr ⟨hA, List.pairwise_singleton _ _, fun x hx y hy => by rw [List.mem_singleton.mp hy]; exact hB x hx⟩
    · rcases List.mem_append.mp hx with z | z
      · exact Nat.lt_succ_of_lt (hB x z)
      · rw [List.mem_singleton.mp z]; exact Nat.lt_succ_self _
  · rintro H1 ⟨l, k, r1, hD1, hA, hB⟩
    refine ⟨D, _, rfl, .inl ⟨SqL.of hD1, fun t ht => ?_⟩⟩
    have k2 := k.new (o := .tup (nums l)) ht
    exact q _ l _ k2 (row.to k2 (r1.upd (r1.ne ht))) ⟨t, rfl, upd_same⟩ ⟨hA, fun x hx => by have := hB x hx; omega⟩
end Dw
end

section
set_option Elab.async false
set_option linter.all false
set_option maxRecDepth 100000
set_option maxHeartbeats 4000000
namespace Dw
open PySem PySem.Spec PyProof.Rows L2
variable {P : Program} {w : World} {K : PySem.W.Frag} {mg : Str → Option Value} {base : Heap}
/-- the works under way: the row, the vats, the kinds that are made -/
structure LW (H H' : Hp) (a sc ow Lk : Addr) (V D : Nat) (own : List Lot) (kds : List Kind) : Prop where
  k : KpX a H H'
  r : RowAt H' a sc
  own : StandV H' (.ref ow) own
  ks : LstV KindV H' Lk kds
  ok : ∀ kd ∈ kds, OkKind V D kd
  n : Lk ≠ a
  h0 : H Lk = none
theorem LW.step {H H' H2 : Hp} {a sc ow Lk : Addr} {V D : Nat} {own : List Lot} {kds : List Kind} (x : LW H H' a sc ow Lk V D own kds) (k : KpX a H' H2) (r : RowAt H2 a sc) : LW H H2 a sc ow Lk V D own kds :=
  have t := k.ti x.r
  ⟨x.k.trans k, r, StandV.mono t x.own, let ⟨vs, e, p⟩ := x.ks; ⟨vs, k.lst x.n e, Paired.ti (fun v x hx => KindV.mono t hx) p⟩, x.ok, x.n, x.h0⟩
/-- a list of one's own is laid or changed -/
theorem LW.putL {H H' : Hp} {a sc ow Lk L : Addr} {V D : Nat} {own : List Lot} {kds : List Kind} {xs : List L2.V} {o : HO} (x : LW H H' a sc ow Lk V D own kds) (hL0 : H L = none) (hL : H' L = some (.lst xs)) (n : L ≠ a) (n2 : L ≠ Lk) : LW H (upd H' L o) a sc ow Lk V D own kds :=
  have t : Ti H' (upd H' L o) := Ti.putL hL
  ⟨x.k.putL hL0 hL, x.r.upd n, StandV.mono t x.own, let ⟨vs, e, p⟩ := x.ks; ⟨vs, by rw [upd_ne (Ne.symm n2)]; exact e, Paired.ti (fun v x hx => KindV.mono t hx) p⟩, x.ok, x.n, x.h0⟩
theorem LW.new {H H' : Hp} {a sc ow Lk p : Addr} {V D : Nat} {own : List Lot} {kds : List Kind} {o : HO} (x : LW H H' a sc ow Lk V D own kds) (hp : H' p = none) : LW H (upd H' p o) a sc ow Lk V D own kds :=
  x.step ((KpX.refl a H').new hp) (x.r.upd (x.r.ne hp))
theorem okLot_filter {D : Nat} {l : Lot} (h : OkLot D l) (p : Nat → Bool) : OkLot D (l.filter p) := ⟨h.1.filter _, fun x hx => h.2 x (List.mem_filter.mp hx).1⟩
def spLawWorks (K : PySem.W.Frag) : Sp := fun vs H Q _ => ∃ (a sc : Addr), vs = [.ref a] ∧ RowV K H a sc ∧ ∀ v W H', KpX a H H' → WorksV H' v W → OkWorks W → Q v H'
theorem ok_lawWorks (T : Tx P w K mg base) : Good P w K mg base "_law_works" 3 ["_law_row"] (spLawWorks K) := by
  refine good_mk (k := 2) (N := ["_law_row", "_law_dyes_here", "_law_vats", "_law_own", "_law_vat", "_law_kinds", "_law_kind", "_law_routes", "_law_turn", "_law_step", "_law_wants", "_law_owns", "_law_dye"]) T dLawWorks (by simp [fn]) T.gLawWorks rfl rfl rfl ⟨rfl, rfl, rfl, by decide +kernel, rfl, by decide +kernel, by decide +kernel⟩ (fun vs H Q E ⟨a, sc, e, _⟩ => by rw [e]; rfl) (fun _ _ _ _ _ _ us hl => match us, hl with | [_], _ => rfl) ?_
  intro A outer s H vs Q E hr h
  obtain ⟨a, sc, rfl, row, q⟩ := h
  refine ⟨_, (pss_cons
    (ps_asg (g := gTup K 2 (gCons (gName 1) (gCons (gName 2) gNil))) (pe_tup (pa_cons (pe_op op_add pe_int (pe_callG (ok_lawTaken T) hr (by decide) (by rfl) (pa_cons (pv 0) (pa_cons pe_int pa_nil)))) (pa_cons (pe_op op_add pe_int (pe_callG (ok_lawTaken T) hr (by decide) (by rfl) (pa_cons (pv 0) (pa_cons pe_int pa_nil)))) pa_nil))) (by refine pg_tup (by rfl) ?_; refine pgs_cons ?_ (pgs_cons ?_ pgs_nil); exact pg_name (i := 1) (by decide +kernel : (["_law_row", "_law_dyes_here", "_law_vats", "_law_own", "_law_vat", "_law_kinds", "_law_kind", "_law_routes", "_law_turn", "_law_step", "_law_wants", "_law_owns", "_law_dye"] : List Str).Nodup) rfl (Or.inr rfl); exact pg_name (i := 2) (by decide +kernel : (["_law_row", "_law_dyes_here", "_law_vats", "_law_own", "_law_vat", "_law_kinds", "_law_kind", "_law_routes", "_law_turn", "_law_step", "_law_wants", "_law_owns", "_law_dye"] : List Str).Nodup) rfl (Or.inr rfl))) (pss_cons
    (ps_set (i := 3) (by decide +kernel : (["_law_row", "_law_dyes_here", "_law_vats", "_law_own", "_law_vat", "_law_kinds", "_law_kind", "_law_routes", "_law_turn", "_law_step", "_law_wants", "_law_owns", "_law_dye"] : List Str).Nodup) rfl (Or.inl rfl) (pe_callTy (call_tupleK K rfl) (by rfl) T.fTuple (by decide +kernel) (pa_cons (pe_lc (own := [("_law_vat", 4)]) rfl (by decide +kernel : (["_law_row", "_law_dyes_here", "_law_vats", "_law_own", "_law_vat", "_law_kinds", "_law_kind", "_law_routes", "_law_turn", "_law_step", "_law_wants", "_law_owns", "_law_dye"] : List Str).Nodup) (pi_range1 (by rfl) T.fRange (pa_cons (pv 2) pa_nil)) (blkOk_by (N := ["_law_row", "_law_dyes_here", "_law_vats", "_law_own", "_law_vat", "_law_kinds", "_law_kind", "_law_routes", "_law_turn", "_law_step", "_law_wants", "_law_owns", "_law_dye"]) (sc := dLawWorks.scope) (by decide +kernel)) (fun _ _ _ _ _ => (pg_name (i := 4) (by decide +kernel : (["_law_row", "_law_dyes_here", "_law_vats", "_law_own", "_law_vat", "_law_kinds", "_law_kind", "_law_routes", "_law_turn", "_law_step", "_law_wants", "_law_owns", "_law_dye"] : List Str).Nodup) rfl (Or.inl rfl))) (fun _ _ _ _ _ => pts_nil) (fun _ _ _ _ _ => (pe_callG (ok_lawDyes T) hr (by decide) (by rfl) (pa_cons (pv 0) (pa_cons (pv 1) (pa_cons pe_int pa_nil)))))) pa_nil))) (pss_cons
    (ps_set (i := 5) (by decide +kernel : (["_law_row", "_law_dyes_here", "_law_vats", "_law_own", "_law_vat", "_law_kinds", "_law_kind", "_law_routes", "_law_turn", "_law_step", "_law_wants", "_law_owns", "_law_dye"] : List Str).Nodup) rfl (Or.inl rfl) (pe_lst pa_nil)) (pss_cons
    (ps_for PassesOwn.never rfl (pi_range1 (by rfl) T.fRange (pa_cons (pe_op op_add pe_int (pe_callG (ok_lawTaken T) hr (by decide) (by rfl) (pa_cons (pv 0) (pa_cons pe_int pa_nil)))) pa_nil)) (pg_name (i := 6) (by decide +kernel : (["_law_row", "_law_dyes_here", "_law_vats", "_law_own", "_law_vat", "_law_kinds", "_law_kind", "_law_routes", "_law_turn", "_law_step", "_law_wants", "_law_owns", "_law_dye"] : List Str).Nodup) rfl (Or.inl rfl)) (pss_cons
    (ps_set (i := 7) (by decide +kernel : (["_law_row", "_law_dyes_here", "_law_vats", "_law_own", "_law_vat", "_law_kinds", "_law_kind", "_law_routes", "_law_turn", "_law_step", "_law_wants", "_law_owns", "_law_dye"] : List Str).Nodup) rfl (Or.inl rfl) (pe_lst pa_nil)) (pss_cons
    (ps_for PassesOwn.never rfl (pi_range1 (by rfl) T.fRange (pa_cons (pe_op op_add pe_int (pe_callG (ok_lawTaken T) hr (by decide) (by rfl) (pa_cons (pv 0) (pa_cons pe_int pa_nil)))) pa_nil)) (pg_name (i := 8) (by decide +kernel : (["_law_row", "_law_dyes_here", "_law_vats", "_law_own", "_law_vat", "_law_kinds", "_law_kind", "_law_routes", "_law_turn", "_law_step", "_law_wants", "_law_owns", "_law_dye"] : List Str).Nodup) rfl (Or.inl rfl)) (pss_one
    (ps_expr (pe_bmK K rfl PySem.F.plainAttrs_list PySem.F.slot_list_append PySem.F.type_list_append mt_append (pv 7) (pa_cons (pe_callTy (call_tupleK K rfl) (by rfl) T.fTuple (by decide +kernel) (pa_cons (pe_lc (own := [("_law_step", 9)]) rfl (by decide +kernel : (["_law_row", "_law_dyes_here", "_law_vats", "_law_own", "_law_vat", "_law_kinds", "_law_kind", "_law_routes", "_law_turn", "_law_step", "_law_wants", "_law_owns", "_law_dye"] : List Str).Nodup) (pi_range1 (by rfl) T.fRange (pa_cons (pe_op op_add pe_int (pe_callG (ok_lawTaken T) hr (by decide) (by rfl) (pa_cons (pv 0) (pa_cons pe_int pa_nil)))) pa_nil)) (blkOk_by (N := ["_law_row", "_law_dyes_here", "_law_vats", "_law_own", "_law_vat", "_law_kinds", "_law_kind", "_law_routes", "_law_turn", "_law_step", "_law_wants", "_law_owns", "_law_dye"]) (sc := dLawWorks.scope) (by decide +kernel)) (fun _ _ _ _ _ => (pg_name (i := 9) (by decide +kernel : (["_law_row", "_law_dyes_here", "_law_vats", "_law_own", "_law_vat", "_law_kinds", "_law_kind", "_law_routes", "_law_turn", "_law_step", "_law_wants", "_law_owns", "_law_dye"] : List Str).Nodup) rfl (Or.inl rfl))) (fun _ _ _ _ _ => pts_nil) (fun _ _ _ _ _ => (pe_callG (ok_lawTaken T) hr (by decide) (by rfl) (pa_cons (pv 0) (pa_cons (pv 2) pa_nil))))) pa_nil)) pa_nil))))) (pss_cons
    (ps_set (i := 10) (by decide +kernel : (["_law_row", "_law_dyes_here", "_law_vats", "_law_own", "_law_vat", "_law_kinds", "_law_kind", "_law_routes", "_law_turn", "_law_step", "_law_wants", "_law_owns", "_law_dye"] : List Str).Nodup) rfl (Or.inl rfl) (pe_callG (ok_lawDyes T) hr (by decide) (by rfl) (pa_cons (pv 0) (pa_cons (pv 1) (pa_cons pe_int pa_nil))))) (pss_cons
    (ps_if (pt_cmpR op_eq (pe_callG (ok_lawTaken T) hr (by decide) (by rfl) (pa_cons (pv 0) (pa_cons pe_int pa_nil))) pe_int (nomark _)) (pss_cons
    (ps_set (i := 11) (by decide +kernel : (["_law_row", "_law_dyes_here", "_law_vats", "_law_own", "_law_vat", "_law_kinds", "_law_kind", "_law_routes", "_law_turn", "_law_step", "_law_wants", "_law_owns", "_law_dye"] : List Str).Nodup) rfl (Or.inr rfl) (pe_lst pa_nil)) (pss_cons
    (ps_for PassesOwn.never rfl (pi_tupK K rfl (pe_ix (ix_listK K rfl) (pv 7) pe_int (fun _ _ => rfl))) (pg_name (i := 4) (by decide +kernel : (["_law_row", "_law_dyes_here", "_law_vats", "_law_own", "_law_vat", "_law_kinds", "_law_kind", "_law_routes", "_law_turn", "_law_step", "_law_wants", "_law_owns", "_law_dye"] : List Str).Nodup) rfl (Or.inl rfl)) (pss_one
    (ps_set (i := 11) (by decide +kernel : (["_law_row", "_law_dyes_here", "_law_vats", "_law_own", "_law_vat", "_law_kinds", "_law_kind", "_law_routes", "_law_turn", "_law_step", "_law_wants", "_law_owns", "_law_dye"] : List Str).Nodup) rfl (Or.inr rfl) (pe_op op_cat (pv 11) (pe_callTy (call_listK K rfl) (by rfl) T.fList (by decide +kernel) (pa_cons (pe_ix (ix_tupK K rfl) (pv 3) (pv 4) (fun _ _ => rfl)) pa_nil)))))) (pss_one
    (ps_set (i := 10) (by decide +kernel : (["_law_row", "_law_dyes_here", "_law_vats", "_law_own", "_law_vat", "_law_kinds", "_law_kind", "_law_routes", "_law_turn", "_law_step", "_law_wants", "_law_owns", "_law_dye"] : List Str).Nodup) rfl (Or.inl rfl) (pe_callTy (call_tupleK K rfl) (by rfl) T.fTuple (by decide +kernel) (pa_cons (pe_lc (own := [("_law_dye", 12)]) rfl (by decide +kernel : (["_law_row", "_law_dyes_here", "_law_vats", "_law_own", "_law_vat", "_law_kinds", "_law_kind", "_law_routes", "_law_turn", "_law_step", "_law_wants", "_law_owns", "_law_dye"] : List Str).Nodup) (pi_tupK K rfl (pv 10)) (blkOk_by (N := ["_law_row", "_law_dyes_here", "_law_vats", "_law_own", "_law_vat", "_law_kinds", "_law_kind", "_law_routes", "_law_turn", "_law_step", "_law_wants", "_law_owns", "_law_dye"]) (sc := dLawWorks.scope) (by decide +kernel)) (fun _ _ _ _ _ => (pg_name (i := 12) (by decide +kernel : (["_law_row", "_law_dyes_here", "_law_vats", "_law_own", "_law_vat", "_law_kinds", "_law_kind", "_law_routes", "_law_turn", "_law_step", "_law_wants", "_law_owns", "_law_dye"] : List Str).Nodup) rfl (Or.inl rfl))) (fun _ _ _ _ _ => pts_one (pt_cmpR (op_in_seqK K rfl) (pv 12) (pv 11) (by rfl))) (fun _ _ _ _ _ => (pv 12))) pa_nil)))))) pss_nil) (pss_one
    (ps_expr (pe_bmK K rfl PySem.F.plainAttrs_list PySem.F.slot_list_append PySem.F.type_list_append mt_append (pv 5) (pa_cons (pe_tup (pa_cons (pv 10) (pa_cons (pe_callG (ok_lawDyes T) hr (by decide) (by rfl) (pa_cons (pv 0) (pa_cons (pv 1) (pa_cons pe_int pa_nil)))) (pa_cons (pe_callTy (call_tupleK K rfl) (by rfl) T.fTuple (by decide +kernel) (pa_cons (pv 7) pa_nil)) pa_nil)))) pa_nil))))))))) (pss_one
    (ps_ret (pe_tup (pa_cons (pv 1) (pa_cons (pv 3) (pa_cons (pe_callTy (call_tupleK K rfl) (by rfl) T.fTuple (by decide +kernel) (pa_cons (pv 5) pa_nil)) pa_nil)))))))))), ?_⟩
  refine ⟨_, rfl, a, sc, 4, rfl, by decide, by decide, row, fun n1 H1 hn1 k1 row1 _ => ⟨_, _, rfl, rfl, _, rfl, a, sc, 4, rfl, by decide, by decide, row1, fun n2 H2 hn2 k2 row2 _ => ⟨_, _, rfl, rfl, (by show 2 ≤ sizeLine; decide), fun t ht => ?_⟩⟩⟩
  refine ⟨t, _, rfl, SqT.of upd_same, rfl, _, _, rfl, _, _, rfl, rfl, ?_⟩
  have k3 := (k1.trans k2).new (o := .tup [.int (1 + (n1 : Int)), .int (1 + (n2 : Int))]) ht
  have r3 : RowAt (upd H2 t (.tup [.int (1 + (n1 : Int)), .int (1 + (n2 : Int))])) a sc := row2.at_.upd (row2.at_.ne ht)
  generalize hH3 : upd H2 t (.tup [.int (1 + (n1 : Int)), .int (1 + (n2 : Int))]) = H3 at k3 r3
  have hD : 1 ≤ 1 + n1 ∧ 1 + n1 ≤ 4 := by omega
  have hV : 1 ≤ 1 + n2 ∧ 1 + n2 ≤ 4 := by omega
  -- _law_own
  refine ⟨_, rfl, _, rfl, by omega, by omega, fun L hL => ?_⟩
  have nL := r3.ne hL
  refine lc_range (fun i H' => ∃ acc ls, KpX a H3 H' ∧ RowAt H' a sc ∧ H' L = some (.lst acc) ∧ Paired (LotV H') acc ls ∧ (∀ l ∈ ls, OkLot (1 + n1) l) ∧ ls.length = i) ?_ ?_ ?_
  · exact ⟨[], [], (KpX.refl a H3).new hL, r3.upd nL, upd_same, .nil, (fun l hl => by cases hl), rfl⟩
  · rintro i H4 hi ⟨acc, ls, k4, r4, hL4, hacc, hls, hlen⟩
    refine ⟨rfl, _, rfl, _, rfl, a, sc, (1 + n1), 2, rfl, by decide, by decide, by omega, row.to (k3.trans k4) r4, fun v l H5 k5 row5 hv hl => ?_⟩
    have hL5 := k5.lst nL hL4
    have t5 := k5.ti r4
    have t6 : Ti H5 (upd H5 L (.lst (acc ++ [v]))) := Ti.putL hL5
    have lacc := Paired.length hacc
    refine ⟨acc, hL5, by rw [sizeLine_eq]; omega, acc ++ [v], ls ++ [l], (k4.trans k5).putL hL hL5, row5.at_.upd nL, upd_same, Paired.snoc (Paired.ti (fun v x hx => hx.mono (t5.trans t6)) hacc) (hv.mono t6), fun m hm => ?_, by rw [List.length_append, hlen]; rfl⟩
    rcases List.mem_append.mp hm with z | z
    · exact hls m z
    · rw [List.mem_singleton.mp z]; exact hl
  rintro H4 ⟨acc, own, k4, r4, hL4, hacc, hown, hlen⟩
  have lown : own.length = (1 + n2) := by rw [hlen]; show Int.toNat (((1 + n2) : Nat) : Int) = (1 + n2); omega
  refine ⟨L, acc, rfl, .inl ⟨SqL.of hL4, fun ow how => ?_⟩⟩
  have k5 := (k3.trans k4).new (o := .tup acc) how
  have r5 : RowAt (upd H4 ow (.tup acc)) a sc := r4.upd (r4.ne how)
  have hw5 : StandV (upd H4 ow (.tup acc)) (.ref ow) own := ⟨ow, acc, rfl, upd_same, Paired.ti (fun v x hx => hx.mono (Ti.new how)) hacc⟩
  generalize upd H4 ow (.tup acc) = H5 at k5 r5 hw5
  -- _law_kinds
  refine ⟨Nat.zero_le _, fun Lk hLk => ?_⟩
  have nLk := r5.ne hLk
  have x6 : LW H (upd H5 Lk (.lst [])) a sc ow Lk (1 + n2) (1 + n1) own [] := ⟨k5.new hLk, r5.upd nLk, StandV.mono (Ti.new hLk) hw5, ⟨[], upd_same, .nil⟩, (fun kd hk => by cases hk), nLk, k5.dom _ hLk⟩
  generalize upd H5 Lk (.lst []) = H6 at x6
  refine ⟨_, rfl, a, sc, 3, rfl, by decide, by decide, row.to x6.k x6.r, fun n3 H7 hn3 k7 row7 _ => ⟨_, _, rfl, rfl, _, rfl, by omega, by omega, ?_⟩⟩
  have x7 := x6.step k7 row7.at_
  refine for_range (lo := 0) (fun i σ H' => ∃ kds o4 o6 o7 o8 o9 o10 o11 o12, σ = [some (.ref a), some (VN (1 + n1)), some (VN (1 + n2)), some (.ref ow), o4, some (.ref Lk), o6, o7, o8, o9, o10, o11, o12] ∧ LW H H' a sc ow Lk (1 + n2) (1 + n1) own kds ∧ kds.length = i) ?_ ?_ ?_
  · exact ⟨[], none, none, none, none, none, none, none, none, rfl, x7, rfl⟩
  · rintro i σ H8 hi ⟨kds, o4, o6, o7, o8, o9, o10, o11, o12, rfl, x8, hkl⟩
    refine ⟨Nat.zero_le _, fun Lr hLr => ?_⟩
    have nLr : Lr ≠ a := x8.r.ne hLr
    have x9 := x8.new (o := .lst []) hLr
    have hLr0 : H Lr = none := x8.k.dom _ hLr
    have nLk : Lr ≠ Lk := fun z => by
      obtain ⟨vs, e, _⟩ := x8.ks
      rw [z, e] at hLr
      cases hLr
    have hLr9 : upd H8 Lr (.lst []) Lr = some (.lst []) := upd_same
    generalize upd H8 Lr (.lst []) = H9 at x9 hLr9
    -- _law_routes
    refine ⟨_, rfl, a, sc, 4, rfl, by decide, by decide, row.to x9.k x9.r, fun n4 HA hn4 kA rowA sameA => ⟨_, _, rfl, rfl, _, rfl, by omega, by omega, ?_⟩⟩
    have xA := x9.step kA rowA.at_
    have hLrA : HA Lr = some (.lst []) := kA.lst nLr hLr9
    refine for_range (lo := 0) (fun j σ H' => ∃ rvs rs o4 o8 o9 o10 o11 o12, σ = [some (.ref a), some (VN (1 + n1)), some (VN (1 + n2)), some (.ref ow), o4, some (.ref Lk), some (.int (0 + (i : Int))), some (.ref Lr), o8, o9, o10, o11, o12] ∧ LW H H' a sc ow Lk (1 + n2) (1 + n1) own kds ∧
      H' Lr = some (.lst rvs) ∧ Paired (LotV H') rvs rs ∧ (∀ r ∈ rs, r ≠ [] ∧ r.length ≤ 3 ∧ ∀ v ∈ r, v < 1 + n2) ∧ rs.length = j) ?_ ?_ ?_
    · exact ⟨[], [], o4, o8, o9, o10, o11, o12, rfl, xA, hLrA, .nil, (fun r hr => by cases hr), rfl⟩
    · rintro j σ HB hj ⟨rvs, rs, o4, o8, o9, o10, o11, o12, rfl, xB, hLrB, hPr, hrs, hrl⟩
      refine ⟨_, rfl, .inl ⟨rfl, _, SqL.of hLrB⟩, _, rfl, a, sc, 3, rfl, by decide, by decide, row.to xB.k xB.r, fun n5 HC hn5 kC rowC sameC => ⟨_, _, rfl, rfl, _, rfl, by omega, by omega, fun L3 hL3 => ?_⟩⟩
      have xC := xB.step kC rowC.at_
      have nL3 := rowC.at_.ne hL3
      have hLrC := kC.lst nLr hLrB
      have tC := kC.ti xB.r
      have nL3r : Lr ≠ L3 := fun z => by rw [← z, hLrC] at hL3; cases hL3
      refine lc_range (fun m H' => ∃ l, KpX a HC H' ∧ RowAt H' a sc ∧ H' L3 = some (.lst (nums l)) ∧ (∀ v ∈ l, v < 1 + n2) ∧ l.length = m) ?_ ?_ ?_
      · exact ⟨[], (KpX.refl a HC).new hL3, rowC.at_.upd nL3, upd_same, (fun v hv => by cases hv), rfl⟩
      · rintro m HD hm ⟨l, kD, rD, hLD, hlv, hll⟩
        refine ⟨rfl, _, rfl, _, rfl, a, sc, 1 + n2, rfl, by omega, by omega, rowC.to kD rD, fun v HE hv kE rowE sameE => ?_⟩
        have hLE : HE L3 = some (.lst (nums l)) := by rw [sameE L3 nL3]; exact hLD
        refine ⟨nums l, hLE, by rw [nums_len, sizeLine_eq]; omega, l ++ [v], (kD.trans kE).putL hL3 hLE, rowE.at_.upd nL3, ?_, fun u hu => ?_, by rw [List.length_append, hll]; rfl⟩
        · rw [upd_same]
          unfold nums
          rw [List.map_append]
          rfl
        · rcases List.mem_append.mp hu with z | z
          · exact hlv u z
          · rw [List.mem_singleton.mp z]; exact hv
      rintro HD ⟨l, kD, rD, hLD, hlv, hll⟩
      have ll : l.length = 1 + n5 := by rw [hll]; show Int.toNat (1 + (n5 : Int)) = _; omega
      have tD := kD.ti rowC.at_
      have hLrD := kD.lst nLr hLrC
      refine ⟨L3, _, rfl, .inl ⟨SqL.of hLD, fun tp htp => ?_⟩⟩
      have xD := (xC.step kD rD).new (o := .tup (nums l)) htp
      have nr : Lr ≠ tp := fun z => by rw [← z, hLrD] at htp; cases htp
      have hLrE : upd HD tp (.tup (nums l)) Lr = some (.lst rvs) := by rw [upd_ne nr]; exact hLrD
      have lrv := Paired.length hPr
      refine ⟨Lr, rvs, .ref tp, rfl, rfl, hLrE, by rw [sizeLine_eq]; omega, rvs ++ [.ref tp], rs ++ [l], _, _, _, _, _, _, rfl, xD.putL hLr0 hLrE nLr nLk, upd_same, ?_, fun r hr => ?_, by rw [List.length_append, hrl]; rfl⟩
      · have tE : Ti (upd HD tp (.tup (nums l))) (upd (upd HD tp (.tup (nums l))) Lr (.lst (rvs ++ [.ref tp]))) := Ti.putL hLrE
        exact Paired.snoc (Paired.ti (fun v x hx => hx.mono ((tC.trans tD).trans ((Ti.new htp).trans tE))) hPr) ⟨tp, rfl, tE _ _ upd_same⟩
      · rcases List.mem_append.mp hr with z | z
        · exact hrs r z
        · rw [List.mem_singleton.mp z]
          exact ⟨fun z => by rw [z, List.length_nil] at ll; omega, by omega, hlv⟩
    rintro σ HB ⟨rvs, rs, o4, o8, o9, o10, o11, o12, rfl, xB, hLrB, hPr, hrs, hrl⟩
    have lrs : rs.length = 1 + n4 := by rw [hrl]; show Int.toNat (1 + (n4 : Int) - 0) = _; omega
    -- _law_wants
    refine ⟨_, rfl, _, rfl, a, sc, 1 + n1, 5, rfl, by decide, by decide, by omega, row.to xB.k xB.r, fun wv wl HC kC rowC hwv hwl => ?_⟩
    have xC := xB.step kC rowC.at_
    have hLrC := kC.lst nLr hLrB
    have tC := kC.ti xB.r
    refine ⟨_, rfl, a, sc, 2, rfl, by decide, by decide, rowC, fun n6 HD hn6 kD rowD sameD => ⟨rfl, _, rfl, ?_⟩⟩
    have xD := xC.step kD rowD.at_
    have hLrD := kD.lst nLr hLrC
    have tD := kD.ti rowC.at_
    -- the kind is laid: what is asked of the heap there
    have fin : ∀ (HE HF : Hp) (bv wv : V) (bl wl : Lot) (t t2 : Addr), LW H HE a sc ow Lk (1 + n2) (1 + n1) own kds → Ti HB HE → HE Lr = some (.lst rvs) → HE t = none → HF = upd HE t (.tup rvs) → HF t2 = none → LotV HE wv wl → OkLot (1 + n1) wl → LotV HE bv bl → OkLot (1 + n1) bl →
        ∃ vs, upd HF t2 (.tup [wv, bv, .ref t]) Lk = some (.lst vs) ∧ vs.length < sizeLine ∧ LW H (upd (upd HF t2 (.tup [wv, bv, .ref t])) Lk (.lst (vs ++ [.ref t2]))) a sc ow Lk (1 + n2) (1 + n1) own (kds ++ [⟨wl, bl, rs⟩]) := by
      intro HE HF bv wv bl wl t t2 xE tE hLrE ht eF ht2 hwv hwl hbv hbl
      have xF := (xE.new (o := .tup rvs) ht)
      rw [← eF] at xF
      have xG := xF.new (o := .tup [wv, bv, .ref t]) ht2
      obtain ⟨vs, hvs, hP⟩ := xG.ks
      have lvs := Paired.length hP
      have t1 : Ti HE HF := by rw [eF]; exact Ti.new ht
      have t2' : Ti HF (upd HF t2 (.tup [wv, bv, .ref t])) := Ti.new ht2
      have t3 : Ti (upd HF t2 (.tup [wv, bv, .ref t])) (upd (upd HF t2 (.tup [wv, bv, .ref t])) Lk (.lst (vs ++ [.ref t2]))) := Ti.putL hvs
      have tt := (t1.trans t2').trans t3
      refine ⟨vs, hvs, by rw [sizeLine_eq]; omega, xG.k.putL xG.h0 hvs, xG.r.upd xG.n, StandV.mono t3 xG.own, ⟨vs ++ [.ref t2], upd_same, Paired.snoc (Paired.ti (fun v x hx => KindV.mono t3 hx) hP) ?_⟩, fun kd hk => ?_, xG.n, xG.h0⟩
      · refine ⟨t2, wv, bv, .ref t, rfl, t3 _ _ upd_same, hwv.mono tt, hbv.mono tt, t, rvs, rfl, (t2'.trans t3) _ _ (by rw [eF]; exact upd_same), Paired.ti (fun v x hx => hx.mono (tE.trans tt)) hPr⟩
      · rcases List.mem_append.mp hk with z | z
        · exact xG.ok kd z
        · rw [List.mem_singleton.mp z]
          exact ⟨hwl, hbl, fun z => by have z : rs = [] := z; rw [z, List.length_nil] at lrs; omega, (by show rs.length ≤ 4; omega), hrs⟩
    refine ite2 (fun _ => ?_) fun _ => ?_
    · refine ⟨Nat.zero_le _, fun Lo hLo => ?_⟩
      have x1 := xD.new (o := .lst []) hLo
      have kO : Kp HD (upd HD Lo (.lst [])) := Kp.new (.refl _) hLo
      have hr0 : rs[0]? = some rs[0] := List.getElem?_eq_getElem (by omega)
      generalize rs[0] = r0 at hr0
      obtain ⟨rv0, hrv0, ⟨a0, rfl, ha0⟩⟩ := Paired.at2 hPr hr0
      have okr0 := hrs r0 (List.mem_of_getElem? hr0)
      have ha0D := (tC.trans tD) _ _ ha0
      refine ⟨_, rfl, Lr, rvs, 0, _, rfl, rfl, SqL.of (kO.lst hLrD), atI_nat (j := 0) hrv0, a0, rfl, ⟨_, SqT.of (kO.tup ha0D)⟩, for_tup (K := K) (a := a0) (xs := nums r0) (fun m σ H' => ∃ lo ol o4 o12, σ = [some (.ref a), some (VN (1 + n1)), some (VN (1 + n2)), some (.ref ow), o4, some (.ref Lk), some (.int (0 + (i : Int))), some (.ref Lr), o8, o9, some wv, some (.ref lo), o12] ∧
        LW H H' a sc ow Lk (1 + n2) (1 + n1) own kds ∧ Kp HD H' ∧ H' lo = some (.lst (nums ol)) ∧ ol.length ≤ 4 * m) ?_ ?_ ?_ ?_⟩
      · exact ⟨Lo, [], o4, o12, rfl, x1, kO, upd_same, Nat.zero_le _⟩
      · rintro m σ H' _ ⟨lo, ol, o4, o12, _, _, k, _⟩
        exact SqT.of (k.tup ha0D)
      · rintro m x σ HE hx ⟨lo, ol, o4, o12, rfl, xE, kE, hlo, hol⟩
        obtain ⟨v, hv, rfl⟩ := nums_of hx
        have vV := okr0.2.2 v (List.mem_of_getElem? hv)
        have mm : m < 3 := by have := (List.getElem?_eq_some_iff.mp hv).1; have := okr0.2.1; omega
        obtain ⟨w0, wvs, ew0, how, hvv⟩ := xE.own
        cases ew0
        obtain ⟨lv, hlv, ⟨al, rfl, hal⟩⟩ := Paired.at2 hvv (List.getElem?_eq_getElem (show v < own.length by omega))
        have l4 := okLot_len (hown own[v] (List.getElem_mem _))
        refine ⟨_, rfl, _, rfl, _, rfl, ow, wvs, v, _, rfl, rfl, SqT.of how, atI_nat hlv, al, _, rfl, .inr (SqT.of hal), fun l2 hl2 => ⟨lo, l2, nums ol, nums own[v], rfl, rfl, ?_, upd_same, by rw [nums_len, nums_len, sizeLine_eq]; omega, fun p hp => ?_⟩⟩
        · rw [upd_ne (ne_of_none hlo hl2)]
          exact hlo
        · refine ⟨p, ol ++ own[v], _, _, rfl, (xE.new hl2).new hp, kE.trans ((Kp.new (.refl _) hl2).trans (Kp.new (.refl _) hp)), ?_, by rw [List.length_append]; omega⟩
          rw [upd_same]
          unfold nums
          rw [List.map_append]
      · rintro σ HE ⟨lo, ol, o4, o12, rfl, xE, kE, hlo, hol⟩
        obtain ⟨wa, rfl, hwa⟩ := hwv
        have hwaE := kE.tup (tD _ _ hwa)
        refine ⟨_, rfl, wa, rfl, ⟨_, SqT.of hwaE⟩, fun L5 hL5 => ?_⟩
        refine lc_tup (xs := nums wl) (fun m H' => Kp HE H' ∧ H' L5 = some (.lst (nums ((wl.take m).filter fun x => decide (x ∈ ol))))) ?_ ?_ ?_ ?_
        · exact ⟨Kp.new (.refl _) hL5, by rw [upd_same]; rfl⟩
        · rintro m H' _ ⟨k, _⟩
          exact SqT.of (k.tup hwaE)
        · rintro m x HF hx ⟨kF, hL5F⟩
          obtain ⟨d, hd, rfl⟩ := nums_of hx
          refine ⟨rfl, _, rfl, _, rfl, rIn_nums (.inl (SqL.of (kF.lst hlo))) ⟨_, rfl, ?_⟩⟩
          rw [take_snoc hd, List.filter_append]
          have lf : ((wl.take m).filter fun x => decide (x ∈ ol)).length ≤ 1000 := by
            have := List.length_filter_le (fun x => decide (x ∈ ol)) (wl.take m)
            rw [List.length_take] at this
            have := okLot_len hwl
            omega
          refine ite2 (fun e => ⟨_, rfl, _, hL5F, by rw [nums_len, sizeLine_eq]; omega, kF.putL hL5 hL5F, ?_⟩) fun e => ⟨kF, ?_⟩
          · rw [upd_same, show [d].filter (fun x => decide (x ∈ ol)) = [d] by simp [List.filter_cons, of_decide_eq_true e]]
            unfold nums
            rw [List.map_append]
            rfl
          · rw [show [d].filter (fun x => decide (x ∈ ol)) = [] by simp [List.filter_cons]; exact fun z => e (decide_eq_true z), List.append_nil]
            exact hL5F
        rintro HF ⟨kF, hL5F⟩
        rw [nums_len, List.take_length] at hL5F
        refine ⟨L5, _, rfl, .inl ⟨SqL.of hL5F, fun tw htw => ?_⟩⟩
        have kG : Kp HE (upd HF tw (.tup (nums (wl.filter fun x => decide (x ∈ ol))))) := kF.trans (Kp.new (.refl _) htw)
        have kDG := kE.trans kG
        have rG : RowAt (upd HF tw (.tup (nums (wl.filter fun x => decide (x ∈ ol))))) a sc := by
          obtain ⟨i0, x0, m0, e⟩ := xE.r
          exact ⟨i0, x0, m0, kG.lst e⟩
        have xG := xE.step kG.x rG
        have hwG : LotV (upd HF tw (.tup (nums (wl.filter fun x => decide (x ∈ ol))))) (.ref tw) (wl.filter fun x => decide (x ∈ ol)) := ⟨tw, rfl, upd_same⟩
        have hLrG := kDG.lst hLrD
        generalize upd HF tw (.tup (nums (wl.filter fun x => decide (x ∈ ol)))) = HG at kDG rG xG hwG hLrG
        obtain ⟨vsG, hvsG, _⟩ := xG.ks
        refine ⟨_, rfl, .inl ⟨rfl, vsG, SqL.of hvsG⟩, _, rfl, _, rfl, _, rfl, a, sc, 1 + n1, 3, rfl, by decide, by decide, by omega, row.to xG.k xG.r, fun bv bl HI kI rowI hbv hbl => ⟨_, rfl, Lr, rvs, rfl, .inl ⟨SqL.of (kI.lst nLr hLrG), fun t ht => ⟨(by show 3 ≤ sizeLine; decide), fun t2 ht2 => ?_⟩⟩⟩⟩
        have tI := kI.ti rG
        obtain ⟨vs, h1, h2, h3⟩ := fin HI _ bv _ bl _ t t2 (xG.step kI rowI.at_) ((tC.trans tD).trans (kDG.ti.trans tI)) (kI.lst nLr hLrG) ht rfl ht2 (hwG.mono tI) (okLot_filter hwl _) hbv hbl
        exact ⟨Lk, vs, .ref t2, rfl, rfl, h1, h2, _, _, _, _, _, _, _, _, _, rfl, h3, by rw [List.length_append, hkl]; rfl⟩
    · obtain ⟨vsD, hvsD, _⟩ := xD.ks
      refine ⟨_, rfl, .inl ⟨rfl, vsD, SqL.of hvsD⟩, _, rfl, _, rfl, _, rfl, a, sc, 1 + n1, 3, rfl, by decide, by decide, by omega, rowD, fun bv bl HE kE rowE hbv hbl => ⟨_, rfl, Lr, rvs, rfl, .inl ⟨SqL.of (kE.lst nLr hLrD), fun t ht => ⟨(by show 3 ≤ sizeLine; decide), fun t2 ht2 => ?_⟩⟩⟩⟩
      have tE := kE.ti rowD.at_
      obtain ⟨vs, h1, h2, h3⟩ := fin HE _ bv wv bl wl t t2 (xD.step kE rowE.at_) ((tC.trans tD).trans tE) (kE.lst nLr hLrD) ht rfl ht2 (hwv.mono (tD.trans tE)) hwl hbv hbl
      exact ⟨Lk, vs, .ref t2, rfl, rfl, h1, h2, _, _, _, _, _, _, _, _, _, rfl, h3, by rw [List.length_append, hkl]; rfl⟩
  · rintro σ H8 ⟨kds, o4, o6, o7, o8, o9, o10, o11, o12, rfl, x8, hkl⟩
    obtain ⟨vs, hvs, hP⟩ := x8.ks
    refine ⟨_, rfl, _, rfl, _, rfl, Lk, vs, rfl, .inl ⟨SqL.of hvs, fun t ht => ⟨(by show 3 ≤ sizeLine; decide), fun t2 ht2 => ?_⟩⟩⟩
    have x9 := (x8.new (o := .tup vs) ht).new (o := .tup [VN (1 + n1), .ref ow, .ref t]) ht2
    have lk : kds.length = 1 + n3 := by rw [hkl]; show Int.toNat (1 + (n3 : Int) - 0) = _; omega
    refine q _ ⟨(1 + n1), own, kds⟩ _ x9.k ⟨t2, .ref ow, .ref t, rfl, upd_same, x9.own, t, vs, rfl, ?_, ?_⟩ ⟨hD.1, hD.2, ?_, ?_, hown, ?_, ?_, fun kd hk => ?_⟩
    · rw [upd_ne (ne_of_none upd_same ht2), upd_same]
    · exact Paired.ti (fun v x hx => KindV.mono ((Ti.new ht).trans (Ti.new ht2)) hx) hP
    · intro z; have z : own = [] := z; rw [z, List.length_nil] at lown; omega
    · show own.length ≤ 4; omega
    · intro z; have z : kds = [] := z; rw [z, List.length_nil] at lk; omega
    · show kds.length ≤ 3; omega
    · have := x9.ok kd hk
      rw [← lown] at this
      exact this
end Dw
end

section
set_option Elab.async false
set_option linter.all false
set_option maxRecDepth 100000
set_option maxHeartbeats 1000000
namespace Dw
open PySem PySem.Spec PyProof.Rows L2
variable {P : Program} {w : World} {K : PySem.W.Frag} {mg : Str → Option Value} {base : Heap}
/-- a list of numbers, not the one at L -/
def LnV (L : Addr) (H : Hp) (v : V) (l : Lot) : Prop := ∃ a, v = .ref a ∧ H a = some (.lst (nums l)) ∧ a ≠ L
theorem LnV.kp {L : Addr} {H H' : Hp} {v : V} {l : Lot} (k : Kp H H') (h : LnV L H v l) : LnV L H' v l := let ⟨a, e, q, n⟩ := h; ⟨a, e, k.lst q, n⟩
theorem LnV.upd {L : Addr} {H : Hp} {v : V} {l : Lot} {o : HO} (h : LnV L H v l) : LnV L (upd H L o) v l := let ⟨a, e, q, n⟩ := h; ⟨a, e, by rw [upd_ne n]; exact q, n⟩
theorem ok_lawPass (T : Tx P w K mg base) : Good P w K mg base "_law_pass" 1 ["_law_stand", "_law_route"] spBehind := by
  refine good_mk (k := 0) (N := ["_law_stand", "_law_route", "_law_traces", "_law_carried", "_law_lot", "_law_vat"]) T dLawPass (by simp [fn]) T.gLawPass rfl rfl rfl ⟨rfl, rfl, rfl, by decide +kernel, rfl, by decide +kernel, by decide +kernel⟩ (fun vs H Q E ⟨a, b, V, D, st, r, e, _⟩ => by rw [e]; rfl) (fun _ _ _ _ _ _ us hl => match us, hl with | [_, _], _ => rfl) ?_
  intro A outer s H vs Q E hr h
  obtain ⟨a, b, V, D, st, r, rfl, ⟨a, vs, rfl, ha, hvs⟩, ⟨b, rfl, hb⟩, ok, hD, hV, hr2, q⟩ := h
  have lvs := Paired.length hvs
  have lst := ok.1
  refine ⟨_, (pss_cons
    (ps_par (i := 2) (j := 3) rfl (by decide +kernel : (["_law_stand", "_law_route", "_law_traces", "_law_carried", "_law_lot", "_law_vat"] : List Str).Nodup) rfl rfl (by decide) rfl rfl (pa_cons (pe_lc (own := [("_law_lot", 4)]) rfl (by decide +kernel : (["_law_stand", "_law_route", "_law_traces", "_law_carried", "_law_lot", "_law_vat"] : List Str).Nodup) (pi_tupK K rfl (pv 0)) (blkOk_by (N := ["_law_stand", "_law_route", "_law_traces", "_law_carried", "_law_lot", "_law_vat"]) (sc := dLawPass.scope) (by decide +kernel)) (fun _ _ _ _ _ => (pg_name (i := 4) (by decide +kernel : (["_law_stand", "_law_route", "_law_traces", "_law_carried", "_law_lot", "_law_vat"] : List Str).Nodup) rfl (Or.inl rfl))) (fun _ _ _ _ _ => pts_nil) (fun _ _ _ _ _ => (pe_callTy (call_listK K rfl) (by rfl) T.fList (by decide +kernel) (pa_cons (pv 4) pa_nil)))) (pa_cons (pe_lst pa_nil) pa_nil)) (by rfl)) (pss_cons
    (ps_for PassesOwn.never rfl (pi_tupK K rfl (pv 1)) (pg_name (i := 5) (by decide +kernel : (["_law_stand", "_law_route", "_law_traces", "_law_carried", "_law_lot", "_law_vat"] : List Str).Nodup) rfl (Or.inl rfl)) (pss_cons
    (ps_set (i := 3) (by decide +kernel : (["_law_stand", "_law_route", "_law_traces", "_law_carried", "_law_lot", "_law_vat"] : List Str).Nodup) rfl (Or.inl rfl) (pe_callB (cr_sortedK w rfl rfl) (by rfl) T.fSorted (by decide +kernel) (pa_cons (pe_callTy (cr_setK K w rfl rfl rfl) (by rfl) T.fSet (by decide +kernel) (pa_cons (pe_op op_cat (pv 3) (pe_ix (ix_listK K rfl) (pv 2) (pv 5) (fun _ _ => rfl))) pa_nil)) pa_nil))) (pss_one
    (ps_asg (pe_callTy (call_listK K rfl) (by rfl) T.fList (by decide +kernel) (pa_cons (pv 3) pa_nil)) (pg_sub (pv 2) (pv 5) set_list))))) (pss_one
    (ps_ret (pe_tup (pa_cons (pe_callTy (call_tupleK K rfl) (by rfl) T.fTuple (by decide +kernel) (pa_cons (pe_lc (own := [("_law_lot", 4)]) rfl (by decide +kernel : (["_law_stand", "_law_route", "_law_traces", "_law_carried", "_law_lot", "_law_vat"] : List Str).Nodup) (pi_listK K rfl (pv 2)) (blkOk_by (N := ["_law_stand", "_law_route", "_law_traces", "_law_carried", "_law_lot", "_law_vat"]) (sc := dLawPass.scope) (by decide +kernel)) (fun _ _ _ _ _ => (pg_name (i := 4) (by decide +kernel : (["_law_stand", "_law_route", "_law_traces", "_law_carried", "_law_lot", "_law_vat"] : List Str).Nodup) rfl (Or.inl rfl))) (fun _ _ _ _ _ => pts_nil) (fun _ _ _ _ _ => (pe_callTy (call_tupleK K rfl) (by rfl) T.fTuple (by decide +kernel) (pa_cons (pv 4) pa_nil)))) pa_nil)) (pa_cons (pe_callTy (call_tupleK K rfl) (by rfl) T.fTuple (by decide +kernel) (pa_cons (pv 3) pa_nil)) pa_nil))))))), ?_⟩
  refine ⟨_, rfl, a, rfl, ⟨_, SqT.of ha⟩, fun L hL => ?_⟩
  refine lc_tup (xs := vs) (fun i H' => ∃ acc, Kp H H' ∧ H' L = some (.lst acc) ∧ Paired (LnV L H') acc (st.take i)) ?_ ?_ ?_ ?_
  · exact ⟨[], Kp.new (.refl _) hL, upd_same, by rw [List.take_zero]; exact .nil⟩
  · rintro i H' _ ⟨acc, k, _⟩
    exact SqT.of (k.tup ha)
  · rintro i x H1 hx ⟨acc, k, hL1, hacc⟩
    obtain ⟨l, hl, ⟨al, rfl, hal⟩⟩ := Paired.at1 hvs hx
    have lacc := Paired.length hacc
    rw [List.length_take] at lacc
    refine ⟨rfl, _, rfl, al, _, rfl, .inr (SqT.of (k.tup hal)), fun c hc => ?_⟩
    have kc : Kp H1 (upd H1 c (.lst (nums l))) := Kp.new (.refl _) hc
    have cL : c ≠ L := fun z => by rw [z, hL1] at hc; cases hc
    refine ⟨acc, kc.lst hL1, by rw [sizeLine_eq]; omega, acc ++ [.ref c], (k.trans kc).putL hL (kc.lst hL1), upd_same, ?_⟩
    rw [take_snoc hl]
    exact Paired.snoc (L2.Paired.mapP hacc fun v l h => (h.kp kc).upd) ⟨c, rfl, by rw [upd_ne cL, upd_same], cL⟩
  rintro H1 ⟨us, k1, hL1, hus⟩
  rw [lvs, List.take_length] at hus
  refine ⟨Nat.zero_le _, fun C hC => ⟨_, _, rfl, ?_⟩⟩
  have kC : Kp H1 (upd H1 C (.lst [])) := Kp.new (.refl _) hC
  have CL : C ≠ L := fun z => by rw [z, hL1] at hC; cases hC
  refine ⟨_, rfl, b, rfl, ⟨_, SqT.of ((k1.trans kC).tup hb)⟩, for_tup (K := K) (a := b) (xs := nums r) (fun i σ H' => ∃ (tr : Stand) (c : Lot) (cv : L2.V) (us : List L2.V) (o4 o : Option L2.V), σ = [some (.ref a), some (.ref b), some (.ref L), some cv, o4, o] ∧ Kp H H' ∧ H' L = some (.lst us) ∧ Paired (LnV L H') us tr ∧ LnV L H' cv c ∧
    OkStand V D tr ∧ OkLot D c ∧ passL st [] r = passL tr c (r.drop i)) ?_ ?_ ?_ ?_⟩
  · exact ⟨st, [], .ref C, us, none, none, rfl, k1.trans kC, kC.lst hL1, L2.Paired.mapP hus fun v l h => h.kp kC, ⟨C, rfl, upd_same, CL⟩, ok, okLot_nil, by rw [List.drop_zero]⟩
  · rintro i σ H' _ ⟨tr, c, cv, us, o4, o, _, k, _⟩
    exact SqT.of (k.tup hb)
  · rintro i x σ H' hx ⟨tr, c, cv, us, o4, o, rfl, k, hus, hP, ⟨ca, rfl, hca, cn⟩, oT, oC, e⟩
    obtain ⟨n, hn, rfl⟩ := nums_of hx
    have nV : n < V := hr2 n (List.mem_of_getElem? hn)
    have nt : n < tr.length := by rw [oT.1]; exact nV
    obtain ⟨u, hu, ⟨ua, rfl, hua, un⟩⟩ := Paired.at2 hP (List.getElem?_eq_getElem nt)
    have eg : tr.getD n [] = tr[n] := by rw [List.getD_eq_getElem?_getD, List.getElem?_eq_getElem nt]; rfl
    have l1 := okLot_len oC
    have l2 := okLot_len (oT.2 _ (List.getElem_mem nt))
    refine ⟨_, rfl, _, rfl, _, rfl, L, us, (n : Int), _, rfl, rfl, SqL.of hus, atI_nat hu, ca, ua, _, _, rfl, rfl, hca, hua, by rw [nums_len, nums_len, sizeLine_eq]; omega, fun p hp => ?_⟩
    have kp : Kp H' (upd H' p (.lst (nums c ++ nums tr[n]))) := Kp.new (.refl _) hp
    have hp1 : upd H' p (.lst (nums c ++ nums tr[n])) p = some (.lst (nums (c ++ tr[n]))) := by
      rw [upd_same]
      unfold nums
      rw [List.map_append]
    unfold tNil
    refine set_sorted (.inl (SqL.of hp1)) (by rw [List.length_append]; omega) fun s H2 k2 hs0 hs => ?_
    have k02 := kp.trans k2
    have hL2 := k02.lst hus
    have sL : s ≠ L := fun z => by rw [z, kp.lst hus] at hs0; cases hs0
    refine ⟨_, rfl, s, _, rfl, .inl (SqL.of hs), fun t ht => ?_⟩
    have kt : Kp H2 (upd H2 t (.lst (nums (uni (c ++ tr[n]))))) := Kp.new (.refl _) ht
    have tL : t ≠ L := fun z => by rw [z, hL2] at ht; cases ht
    have hL3 := kt.lst hL2
    have k3 := k02.trans kt
    have lus : us.length = tr.length := Paired.length hP
    refine ⟨_, rfl, _, rfl, L, us, (n : Int), n, rfl, rfl, hL3, ixN_of (by omega), ?_⟩
    refine ⟨tr.set n (uni (c ++ tr[n])), uni (c ++ tr[n]), .ref s, us.set n (.ref t), o4, some (VN n), rfl, (k.trans k3).putL hL hL3, upd_same, ?_, ⟨s, rfl, by rw [upd_ne sL]; exact kt.lst hs, sL⟩, ?_, ?_, ?_⟩
    · exact Paired.set1 ⟨t, rfl, by rw [upd_ne tL, upd_same], tL⟩ n (L2.Paired.mapP hP fun v l h => (h.kp k3).upd)
    · exact ⟨by rw [List.length_set]; exact oT.1, fun l hl => (List.mem_or_eq_of_mem_set hl).elim (oT.2 l) fun e => by
        rw [e]
        exact ⟨uni_asc _, fun x hx => by rw [uni_mem, List.mem_append] at hx; exact hx.elim (oC.2 x) ((oT.2 _ (List.getElem_mem nt)).2 x)⟩⟩
    · exact ⟨uni_asc _, fun x hx => by rw [uni_mem, List.mem_append] at hx; exact hx.elim (oC.2 x) ((oT.2 _ (List.getElem_mem nt)).2 x)⟩
    · have ir : i < r.length := (List.getElem?_eq_some_iff.mp hn).1
      have er : r.drop i = n :: r.drop (i + 1) := by
        rw [List.drop_eq_getElem_cons ir, (List.getElem?_eq_some_iff.mp hn).2]
      rw [e, er, passL, eg]
  · rintro σ H' ⟨tr, c, cv, us, o4, o, rfl, k, hus, hP, ⟨ca, rfl, hca, cn⟩, oT, oC, e⟩
    rw [nums_len, List.drop_length, passL] at e
    have lus := Paired.length hP
    have ltr := oT.1
    refine ⟨_, rfl, L, rfl, ⟨_, SqL.of hus⟩, fun L2 hL2 => ?_⟩
    refine lc_list (xs := us) (fun i H2 => ∃ acc, Kp H' H2 ∧ H2 L2 = some (.lst acc) ∧ Paired (LotV H2) acc (tr.take i)) ?_ ?_ ?_ ?_
    · exact ⟨[], Kp.new (.refl _) hL2, upd_same, by rw [List.take_zero]; exact .nil⟩
    · rintro i H2 _ ⟨acc, k2, _⟩
      exact SqL.of (k2.lst hus)
    · rintro i x H2 hx ⟨acc, k2, hA, hacc⟩
      obtain ⟨l, hl, ⟨al, rfl, hal, _⟩⟩ := Paired.at1 hP hx
      have lacc := Paired.length hacc
      rw [List.length_take] at lacc
      refine ⟨rfl, _, rfl, al, _, rfl, .inl ⟨SqL.of (k2.lst hal), fun t ht => ?_⟩⟩
      have kt : Kp H2 (upd H2 t (.tup (nums l))) := Kp.new (.refl _) ht
      have hA2 := kt.lst hA
      have t2 : Ti (upd H2 t (.tup (nums l))) (upd (upd H2 t (.tup (nums l))) L2 (.lst (acc ++ [.ref t]))) := Ti.putL hA2
      refine ⟨acc, hA2, by rw [sizeLine_eq]; omega, acc ++ [.ref t], (k2.trans kt).putL hL2 hA2, upd_same, ?_⟩
      rw [take_snoc hl]
      exact Paired.snoc (Paired.ti (fun v x hx => hx.mono (kt.ti.trans t2)) hacc) ⟨t, rfl, t2 _ _ upd_same⟩
    rintro H2 ⟨acc, k2, hA, hacc⟩
    rw [lus, List.take_length] at hacc
    refine ⟨L2, acc, rfl, .inl ⟨SqL.of hA, fun t ht => ⟨_, rfl, ca, nums c, rfl, .inl ⟨?_, fun t2 ht2 => ⟨(by show 2 ≤ sizeLine; decide), fun t3 ht3 => ?_⟩⟩⟩⟩⟩
    · exact SqL.of ((Kp.new (.refl _) ht).lst (k2.lst hca))
    · have ka : Kp H2 (upd H2 t (.tup acc)) := Kp.new (.refl _) ht
      have kb : Kp (upd H2 t (.tup acc)) (upd (upd H2 t (.tup acc)) t2 (.tup (nums c))) := Kp.new (.refl _) ht2
      have kc := Kp.new (.refl _) ht3 (o := .tup [.ref t, .ref t2])
      refine q _ _ (k.trans (k2.trans (ka.trans (kb.trans kc)))) ⟨t3, .ref t, .ref t2, rfl, upd_same, ?_, ?_⟩
      · rw [e]
        exact ⟨t, acc, rfl, (kb.trans kc).tup upd_same, Paired.ti (fun v x hx => hx.mono (ka.trans (kb.trans kc)).ti) hacc⟩
      · rw [e]
        exact ⟨t2, rfl, kc.tup upd_same⟩
end Dw
end

section
set_option Elab.async false
set_option linter.all false
set_option maxRecDepth 100000
set_option maxHeartbeats 1000000
namespace Dw
open PySem PySem.Spec PyProof.Rows L2
variable {P : Program} {w : World} {K : PySem.W.Frag} {mg : Str → Option Value} {base : Heap}
/-! ### _law_good -/
theorem numsL_dp {H : Hp} {a : Addr} {l : List Nat} (h : H a = some (.lst (nums l))) : Dp K H (.ref a) (.list (l.map fun (n : Nat) => .int (n : Int))) := .lst (SqL.of h) (dpAll_nums l)
theorem numsL_shaped (l : List Nat) : SeqAt.shaped (.list (l.map fun (n : Nat) => PyData.int (n : Int))) = true := listD_shaped (d := 0) (fun _ => rfl) (fun _ => Nat.le_refl _) (by decide) l
theorem numsL_eqv (l m : List Nat) : PyData.eqv (.list (l.map fun (n : Nat) => PyData.int (n : Int))) (.list (m.map fun (n : Nat) => PyData.int (n : Int))) = decide (l = m) := by
  simp only [PyData.eqv]
  exact eqvAll_of intD_eqv l m
theorem good_law {W : Works} {kd : Kind} {st : Stand} {r : Route} {ol : List Nat} (ho : ∀ d, d ∈ ol ↔ ∃ v ∈ r, d ∈ W.vats.getD v []) :
    decide ((kd.wants.filter fun x => !decide (x ∈ ol)) ++ ((passL st [] r).2.filter fun x => decide (x ∈ kd.bars)) = []) = goodR W kd st r := by
  rw [Bool.eq_iff_iff, decide_eq_true_iff, List.append_eq_nil_iff, List.filter_eq_nil_iff, List.filter_eq_nil_iff]
  unfold goodR hasWants isClean
  rw [Bool.and_eq_true, List.all_eq_true, Bool.not_eq_true', List.any_eq_false]
  refine and_congr (forall_congr' fun d => imp_congr Iff.rfl ?_) Iff.rfl
  rw [List.any_eq_true]
  simp only [Bool.not_eq_true', decide_eq_false_iff_not, Classical.not_not, decide_eq_true_iff]
  exact ho d
def spLawGood : Sp := fun vs H Q _ => ∃ (v u : V) (k n : Nat) (W : Works) (kd : Kind) (r : Route) (st : Stand), vs = [v, u, VN k, VN n] ∧ WorksV H v W ∧ StandV H u st ∧ OkWorks W ∧ OkStand W.vats.length W.dyes st ∧ W.kinds[k]? = some kd ∧ kd.routes[n]? = some r ∧ ∀ H', Kp H H' → Q (.bl (goodR W kd st r)) H'
theorem ok_lawGood (T : Tx P w K mg base) : Good P w K mg base "_law_good" 2 ["_law_works_here", "_law_stand", "_law_kind", "_law_number"] spLawGood := by
  refine good_mk (k := 1) (N := ["_law_works_here", "_law_stand", "_law_kind", "_law_number", "_law_wants", "_law_bars", "_law_routes", "_law_owns", "_law_vat", "_law_carried", "_law_dye"]) T dLawGood (by simp [fn]) T.gLawGood rfl rfl rfl ⟨rfl, rfl, rfl, by decide +kernel, rfl, by decide +kernel, by decide +kernel⟩ (fun vs H Q E ⟨v, u, k, n, W, kd, r, st, e, _⟩ => by rw [e]; rfl) (fun _ _ _ _ _ _ us hl => match us, hl with | [_, _, _, _], _ => rfl) ?_
  intro A outer s H vs Q E hr h
  obtain ⟨v, u, k, n, W, kd, r, st, rfl, hW, hst, ok, oks, hk, hn, q⟩ := h
  obtain ⟨a, vv, vk, rfl, ha, ⟨av, vvs, rfl, hav, hvs⟩, ⟨ak, ks, rfl, hak, hks⟩⟩ := id hW
  obtain ⟨kv, hkv, ⟨c, vw, vb, vr, rfl, hc, ⟨aw, rfl, haw⟩, ⟨ab, rfl, hab⟩, ⟨ar, rs, rfl, har, hrs⟩⟩⟩ := Paired.at2 hks hk
  obtain ⟨rv, hrv, ⟨arr, rfl, harr⟩⟩ := Paired.at2 hrs hn
  have okd := ok.kind kd (List.mem_of_getElem? hk)
  have okr := okd.route r (List.mem_of_getElem? hn)
  have d4 := ok.d4
  have lvs := Paired.length hvs
  refine ⟨_, (pss_cons
    (ps_asg (g := gTup K 3 (gCons (gName 4) (gCons (gName 5) (gCons (gName 6) gNil)))) (pe_ix (ix_tupK K rfl) (pe_ix (ix_tupK K rfl) (pv 0) pe_int (fun _ _ => rfl)) (pv 2) (fun _ _ => rfl)) (by refine pg_tup (by rfl) ?_; refine pgs_cons ?_ (pgs_cons ?_ (pgs_cons ?_ pgs_nil)); exact pg_name (i := 4) (by decide +kernel : (["_law_works_here", "_law_stand", "_law_kind", "_law_number", "_law_wants", "_law_bars", "_law_routes", "_law_owns", "_law_vat", "_law_carried", "_law_dye"] : List Str).Nodup) rfl (Or.inl rfl); exact pg_name (i := 5) (by decide +kernel : (["_law_works_here", "_law_stand", "_law_kind", "_law_number", "_law_wants", "_law_bars", "_law_routes", "_law_owns", "_law_vat", "_law_carried", "_law_dye"] : List Str).Nodup) rfl (Or.inr rfl); exact pg_name (i := 6) (by decide +kernel : (["_law_works_here", "_law_stand", "_law_kind", "_law_number", "_law_wants", "_law_bars", "_law_routes", "_law_owns", "_law_vat", "_law_carried", "_law_dye"] : List Str).Nodup) rfl (Or.inl rfl))) (pss_cons
    (ps_set (i := 7) (by decide +kernel : (["_law_works_here", "_law_stand", "_law_kind", "_law_number", "_law_wants", "_law_bars", "_law_routes", "_law_owns", "_law_vat", "_law_carried", "_law_dye"] : List Str).Nodup) rfl (Or.inr rfl) (pe_lst pa_nil)) (pss_cons
    (ps_for PassesOwn.never rfl (pi_tupK K rfl (pe_ix (ix_tupK K rfl) (pv 6) (pv 3) (fun _ _ => rfl))) (pg_name (i := 8) (by decide +kernel : (["_law_works_here", "_law_stand", "_law_kind", "_law_number", "_law_wants", "_law_bars", "_law_routes", "_law_owns", "_law_vat", "_law_carried", "_law_dye"] : List Str).Nodup) rfl (Or.inl rfl)) (pss_one
    (ps_set (i := 7) (by decide +kernel : (["_law_works_here", "_law_stand", "_law_kind", "_law_number", "_law_wants", "_law_bars", "_law_routes", "_law_owns", "_law_vat", "_law_carried", "_law_dye"] : List Str).Nodup) rfl (Or.inr rfl) (pe_op op_cat (pv 7) (pe_callTy (call_listK K rfl) (by rfl) T.fList (by decide +kernel) (pa_cons (pe_ix (ix_tupK K rfl) (pe_ix (ix_tupK K rfl) (pv 0) pe_int (fun _ _ => rfl)) (pv 8) (fun _ _ => rfl)) pa_nil)))))) (pss_cons
    (ps_set (i := 9) (by decide +kernel : (["_law_works_here", "_law_stand", "_law_kind", "_law_number", "_law_wants", "_law_bars", "_law_routes", "_law_owns", "_law_vat", "_law_carried", "_law_dye"] : List Str).Nodup) rfl (Or.inl rfl) (pe_ix (ix_tupK K rfl) (pe_callG (ok_lawPass T) hr (by decide) (by rfl) (pa_cons (pv 1) (pa_cons (pe_ix (ix_tupK K rfl) (pv 6) (pv 3) (fun _ _ => rfl)) pa_nil))) pe_int (fun _ _ => rfl))) (pss_one
    (ps_ret (pe_cmpR (op_eqDK K rfl (Room.units hr)) (pe_op op_cat (pe_lc (own := [("_law_dye", 10)]) rfl (by decide +kernel : (["_law_works_here", "_law_stand", "_law_kind", "_law_number", "_law_wants", "_law_bars", "_law_routes", "_law_owns", "_law_vat", "_law_carried", "_law_dye"] : List Str).Nodup) (pi_tupK K rfl (pv 4)) (blkOk_by (N := ["_law_works_here", "_law_stand", "_law_kind", "_law_number", "_law_wants", "_law_bars", "_law_routes", "_law_owns", "_law_vat", "_law_carried", "_law_dye"]) (sc := dLawGood.scope) (by decide +kernel)) (fun _ _ _ _ _ => (pg_name (i := 10) (by decide +kernel : (["_law_works_here", "_law_stand", "_law_kind", "_law_number", "_law_wants", "_law_bars", "_law_routes", "_law_owns", "_law_vat", "_law_carried", "_law_dye"] : List Str).Nodup) rfl (Or.inl rfl))) (fun _ _ _ _ _ => pts_one (pt_cmpR (op_notIn_seqK K rfl) (pv 10) (pv 7) (by rfl))) (fun _ _ _ _ _ => (pv 10))) (pe_lc (own := [("_law_dye", 10)]) rfl (by decide +kernel : (["_law_works_here", "_law_stand", "_law_kind", "_law_number", "_law_wants", "_law_bars", "_law_routes", "_law_owns", "_law_vat", "_law_carried", "_law_dye"] : List Str).Nodup) (pi_tupK K rfl (pv 9)) (blkOk_by (N := ["_law_works_here", "_law_stand", "_law_kind", "_law_number", "_law_wants", "_law_bars", "_law_routes", "_law_owns", "_law_vat", "_law_carried", "_law_dye"]) (sc := dLawGood.scope) (by decide +kernel)) (fun _ _ _ _ _ => (pg_name (i := 10) (by decide +kernel : (["_law_works_here", "_law_stand", "_law_kind", "_law_number", "_law_wants", "_law_bars", "_law_routes", "_law_owns", "_law_vat", "_law_carried", "_law_dye"] : List Str).Nodup) rfl (Or.inl rfl))) (fun _ _ _ _ _ => pts_one (pt_cmpR (op_in_seqK K rfl) (pv 10) (pv 5) (by rfl))) (fun _ _ _ _ _ => (pv 10)))) (pe_lst pa_nil) (nomark _)))))))), ?_⟩
  refine ⟨_, rfl, a, _, 2, _, rfl, rfl, SqT.of ha, rfl, _, rfl, ak, ks, k, _, rfl, rfl, SqT.of hak, atI_nat hkv, c, _, rfl, SqT.of hc, rfl, _, _, rfl, _, _, rfl, _, _, rfl, rfl, ?_⟩
  refine ⟨Nat.zero_le _, fun Lo hLo => ?_⟩
  have kO : Kp H (upd H Lo (.lst [])) := Kp.new (.refl _) hLo
  refine ⟨_, rfl, _, rfl, ar, rs, n, _, rfl, rfl, SqT.of (kO.tup har), atI_nat hrv, arr, rfl, ⟨_, SqT.of (kO.tup harr)⟩, for_tup (K := K) (a := arr) (xs := nums r) (fun m σ H' => ∃ lo ol o8, σ = [some (.ref a), some u, some (VN k), some (VN n), some (.ref aw), some (.ref ab), some (.ref ar), some (.ref lo), o8, none, none] ∧ Kp H H' ∧ H' lo = some (.lst (nums ol)) ∧ ol.length ≤ 4 * m ∧ ∀ d, d ∈ ol ↔ ∃ v ∈ r.take m, d ∈ W.vats.getD v []) ?_ ?_ ?_ ?_⟩
  · exact ⟨Lo, [], none, rfl, kO, upd_same, Nat.zero_le _, fun d => by simp⟩
  · rintro m σ H' _ ⟨lo, ol, o8, _, k, _⟩
    exact SqT.of (k.tup harr)
  · rintro m x σ HE hx ⟨lo, ol, o8, rfl, kE, hlo, hol, hmem⟩
    obtain ⟨v, hv, rfl⟩ := nums_of hx
    have vV := okr.2.2 v (List.mem_of_getElem? hv)
    have mm : m < 3 := by have := (List.getElem?_eq_some_iff.mp hv).1; have := okr.2.1; omega
    obtain ⟨lv, hlv, ⟨al, rfl, hal⟩⟩ := Paired.at2 hvs (List.getElem?_eq_getElem vV)
    have l4 := okLot_len (ok.lots W.vats[v] (List.getElem_mem _))
    refine ⟨_, rfl, _, rfl, a, _, 1, _, rfl, rfl, SqT.of (kE.tup ha), rfl, _, rfl, av, vvs, v, _, rfl, rfl, SqT.of (kE.tup hav), atI_nat hlv, al, _, rfl, .inr (SqT.of (kE.tup hal)), fun l2 hl2 => ⟨lo, l2, nums ol, nums W.vats[v], rfl, rfl, ?_, upd_same, by rw [nums_len, nums_len, sizeLine_eq]; omega, fun p hp => ?_⟩⟩
    · rw [upd_ne (ne_of_none hlo hl2)]
      exact hlo
    · refine ⟨p, ol ++ W.vats[v], _, rfl, kE.trans ((Kp.new (.refl _) hl2).trans (Kp.new (.refl _) hp)), ?_, by rw [List.length_append]; omega, fun d => ?_⟩
      · rw [upd_same]
        unfold nums
        rw [List.map_append]
      · have e : W.vats.getD v [] = W.vats[v] := by rw [List.getD_eq_getElem?_getD, List.getElem?_eq_getElem vV]; rfl
        rw [take_snoc hv, List.mem_append, hmem d, ← e]
        constructor
        · rintro (⟨x, hx, h⟩ | h)
          · exact ⟨x, List.mem_append_left _ hx, h⟩
          · exact ⟨v, List.mem_append_right _ (List.mem_singleton.mpr rfl), h⟩
        · rintro ⟨x, hx, h⟩
          rcases List.mem_append.mp hx with z | z
          · exact .inl ⟨x, z, h⟩
          · rw [List.mem_singleton.mp z] at h
            exact .inr h
  · rintro σ HE ⟨lo, ol, o8, rfl, kE, hlo, hol, hmem⟩
    rw [nums_len, List.take_length] at hmem
    refine ⟨_, rfl, _, rfl, _, rfl, ar, rs, n, _, rfl, rfl, SqT.of (kE.tup har), atI_nat hrv, u, _, _, W.dyes, st, r, rfl, StandV.mono kE.ti hst, ⟨arr, rfl, kE.tup harr⟩, oks, ok.d4, ok.v4, okr.2.2, fun v H1 k1 hv => ?_⟩
    obtain ⟨t, x1, y1, rfl, ht, hx1, ⟨ac, rfl, hac⟩⟩ := hv
    have okc := (pass_ok r oks okLot_nil).2
    have lcar := okLot_len okc
    refine ⟨t, _, 1, _, rfl, rfl, SqT.of ht, rfl, ?_⟩
    have kE1 := kE.trans k1
    -- the wants that are not owned
    refine ⟨_, rfl, aw, rfl, ⟨_, SqT.of (kE1.tup haw)⟩, fun L1 hL1 => ?_⟩
    refine lc_tup (xs := nums kd.wants) (fun m H' => Kp H1 H' ∧ H' L1 = some (.lst (nums ((kd.wants.take m).filter fun x => !decide (x ∈ ol))))) ?_ ?_ ?_ ?_
    · exact ⟨Kp.new (.refl _) hL1, by rw [upd_same]; rfl⟩
    · rintro m H' _ ⟨k, _⟩
      exact SqT.of (k.tup (kE1.tup haw))
    · rintro m x HF hx ⟨kF, hLF⟩
      obtain ⟨d, hd, rfl⟩ := nums_of hx
      refine ⟨rfl, _, rfl, _, rfl, rNotIn_nums (.inl (SqL.of (kF.lst (k1.lst hlo)))) ⟨_, rfl, ?_⟩⟩
      rw [take_snoc hd, List.filter_append]
      have lf : ((kd.wants.take m).filter fun x => !decide (x ∈ ol)).length ≤ 1000 := by
        have := List.length_filter_le (fun x => !decide (x ∈ ol)) (kd.wants.take m)
        rw [List.length_take] at this
        have := okLot_len okd.wants
        omega
      refine ite2 (fun e => ⟨_, rfl, _, hLF, by rw [nums_len, sizeLine_eq]; omega, kF.putL hL1 hLF, ?_⟩) fun e => ⟨kF, ?_⟩
      · rw [upd_same, show [d].filter (fun x => !decide (x ∈ ol)) = [d] by rw [List.filter_cons, if_pos e]; rfl]
        unfold nums
        rw [List.map_append]
        rfl
      · rw [show [d].filter (fun x => !decide (x ∈ ol)) = [] by rw [List.filter_cons, if_neg e]; rfl, List.append_nil]
        exact hLF
    rintro HF ⟨kF, hLF⟩
    rw [nums_len, List.take_length] at hLF
    have kEF := kE1.trans kF
    -- what is carried and barred
    refine ⟨_, rfl, ac, rfl, ⟨_, SqT.of (kF.tup hac)⟩, fun L2 hL2 => ?_⟩
    refine lc_tup (xs := nums (passL st [] r).2) (fun m H' => Kp HF H' ∧ H' L2 = some (.lst (nums (((passL st [] r).2.take m).filter fun x => decide (x ∈ kd.bars))))) ?_ ?_ ?_ ?_
    · exact ⟨Kp.new (.refl _) hL2, by rw [upd_same]; rfl⟩
    · rintro m H' _ ⟨k, _⟩
      exact SqT.of (k.tup (kF.tup hac))
    · rintro m x HG hx ⟨kG, hLG⟩
      obtain ⟨d, hd, rfl⟩ := nums_of hx
      refine ⟨rfl, _, rfl, _, rfl, rIn_nums (.inr (SqT.of ((kEF.trans kG).tup hab))) ⟨_, rfl, ?_⟩⟩
      rw [take_snoc hd, List.filter_append]
      have lf : (((passL st [] r).2.take m).filter fun x => decide (x ∈ kd.bars)).length ≤ 1000 := by
        have := List.length_filter_le (fun x => decide (x ∈ kd.bars)) ((passL st [] r).2.take m)
        rw [List.length_take] at this
        omega
      refine ite2 (fun e => ⟨_, rfl, _, hLG, by rw [nums_len, sizeLine_eq]; omega, kG.putL hL2 hLG, ?_⟩) fun e => ⟨kG, ?_⟩
      · rw [upd_same, show [d].filter (fun x => decide (x ∈ kd.bars)) = [d] by rw [List.filter_cons, if_pos e]; rfl]
        unfold nums
        rw [List.map_append]
        rfl
      · rw [show [d].filter (fun x => decide (x ∈ kd.bars)) = [] by rw [List.filter_cons, if_neg e]; rfl, List.append_nil]
        exact hLG
    rintro HG ⟨kG, hLG⟩
    rw [nums_len, List.take_length] at hLG
    have lf1 := List.length_filter_le (fun x => !decide (x ∈ ol)) kd.wants
    have lf2 := List.length_filter_le (fun x => decide (x ∈ kd.bars)) (passL st [] r).2
    have lw := okLot_len okd.wants
    refine ⟨L1, L2, _, _, rfl, rfl, kG.lst hLF, hLG, by rw [nums_len, nums_len, sizeLine_eq]; omega, fun p hp => ⟨Nat.zero_le _, fun p2 hp2 => ?_⟩⟩
    have hpp : (upd (upd HG p (.lst (nums (kd.wants.filter fun x => !decide (x ∈ ol)) ++ nums ((passL st [] r).2.filter fun x => decide (x ∈ kd.bars))))) p2 (.lst [])) p = some (.lst (nums ((kd.wants.filter fun x => !decide (x ∈ ol)) ++ ((passL st [] r).2.filter fun x => decide (x ∈ kd.bars))))) := by
      rw [upd_ne (ne_of_none upd_same hp2), upd_same]
      unfold nums
      rw [List.map_append]
    refine ⟨_, _, numsL_dp hpp, numsL_dp (l := []) upd_same, numsL_shaped _, numsL_shaped [], ?_⟩
    rw [numsL_eqv, good_law hmem]
    exact q _ ((kEF.trans kG).trans ((Kp.new (.refl _) hp).trans (Kp.new (.refl _) hp2)))
end Dw
end

section
set_option Elab.async false
set_option linter.all false
set_option maxRecDepth 100000
set_option maxHeartbeats 1000000
namespace Dw
open PySem PySem.Spec PyProof.Rows L2
variable {P : Program} {w : World} {K : PySem.W.Frag} {mg : Str → Option Value} {base : Heap}
/-- one level of the walk: found at L, the new ones at G -/
structure Lv (W : Works) (rs : List Route) (H0 H : Hp) (L G : Addr) (fs lo : List Stand) : Prop where
  k : Kp H0 H
  l : LstV StandV H L (fs ++ lo)
  g : LstV StandV H G lo
  nd : (fs ++ lo).Nodup
  re : ∀ s ∈ fs ++ lo, Reach rs W.vats s
  hL : H0 L = none
  hG : H0 G = none
  ne : L ≠ G
theorem Lv.kp {W : Works} {rs : List Route} {H0 H H' : Hp} {L G : Addr} {fs lo : List Stand} (x : Lv W rs H0 H L G fs lo) (k : Kp H H') : Lv W rs H0 H' L G fs lo := ⟨x.k.trans k, x.l.stands k, x.g.stands k, x.nd, x.re, x.hL, x.hG, x.ne⟩
theorem Lv.add {W : Works} {rs : List Route} {H0 H : Hp} {L G : Addr} {fs lo : List Stand} {v : V} {st : Stand} (x : Lv W rs H0 H L G fs lo) (hv : StandV H v st) (hn : st ∉ fs ++ lo) (hr : Reach rs W.vats st) {us gs : List V} (hus : H L = some (.lst us)) (hgs : H G = some (.lst gs)) :
    Lv W rs H0 (upd (upd H L (.lst (us ++ [v]))) G (.lst (gs ++ [v]))) L G fs (lo ++ [st]) := by
  have hg1 : (upd H L (.lst (us ++ [v]))) G = some (.lst gs) := by rw [upd_ne (Ne.symm x.ne)]; exact hgs
  have t1 : Ti H (upd H L (.lst (us ++ [v]))) := Ti.putL hus
  have t2 : Ti (upd H L (.lst (us ++ [v]))) (upd (upd H L (.lst (us ++ [v]))) G (.lst (gs ++ [v]))) := Ti.putL hg1
  obtain ⟨us', h1, h2⟩ := x.l
  rw [hus] at h1
  cases h1
  obtain ⟨gs', h3, h4⟩ := x.g
  rw [hgs] at h3
  cases h3
  refine ⟨(x.k.putL x.hL hus).putL x.hG hg1, ⟨us ++ [v], by rw [upd_ne x.ne, upd_same], ?_⟩, ⟨gs ++ [v], upd_same, ?_⟩, ?_, fun s hs => ?_, x.hL, x.hG, x.ne⟩
  · rw [← List.append_assoc]
    exact Paired.snoc (Paired.ti (fun v x hx => StandV.mono (t1.trans t2) hx) h2) (StandV.mono (t1.trans t2) hv)
  · exact Paired.snoc (Paired.ti (fun v x hx => StandV.mono (t1.trans t2) hx) h4) (StandV.mono (t1.trans t2) hv)
  · rw [← List.append_assoc, List.nodup_append]
    exact ⟨x.nd, by simp, fun a ha b hb => by rw [List.mem_singleton.mp hb]; exact fun z => hn (z ▸ ha)⟩
  · rw [← List.append_assoc] at hs
    rcases List.mem_append.mp hs with z | z
    · exact x.re s z
    · rw [List.mem_singleton.mp z]; exact hr
theorem stands_dp {H : Hp} {a : Addr} {fs : List Stand} (h : LstV StandV H a fs) : Dp K H (.ref a) (.list (fs.map standD)) := LstV.dp h fun v x hx => StandV.dp hx
theorem stands_shaped (fs : List Stand) : SeqAt.shaped (.list (fs.map standD)) = true := listD_shaped standD_lay standD_depth (by decide) fs
theorem any_standD {fs : List Stand} {st : Stand} : ((fs.map standD).any fun z => PyData.eqv z (standD st)) = decide (st ∈ fs) := by
  induction fs with
  | nil => simp
  | cons s fs ih =>
    rw [List.map_cons, List.any_cons, ih, standD_eqv]
    by_cases e : s = st
    · subst e; simp
    · simp [e, Ne.symm e]
def spLawStands : Sp := fun vs H Q _ => ∃ (v : V) (W : Works), vs = [v, VN 150] ∧ WorksV H v W ∧ OkWorks W ∧ (∀ H', Kp H H' → Q .non H') ∧
  ∀ a fs H', Kp H H' → LstV StandV H' a fs → fs.Nodup → (∀ s, s ∈ fs ↔ Reach (allRoutes W) W.vats s) → fs.length ≤ 150 → Q (.ref a) H'
theorem ok_lawStands (T : Tx P w K mg base) : Good P w K mg base "_law_stands" 2 ["_law_works_here", "_law_most"] spLawStands := by
  refine good_mk (k := 1) (N := ["_law_works_here", "_law_most", "_law_found", "_law_last", "_law_longer", "_law_stand", "_law_wants", "_law_bars", "_law_routes", "_law_route", "_law_later"]) T dLawStands (by simp [fn]) T.gLawStands rfl rfl rfl ⟨rfl, rfl, rfl, by decide +kernel, rfl, by decide +kernel, by decide +kernel⟩ (fun vs H Q E ⟨v, W, e, _⟩ => by rw [e]; rfl) (fun _ _ _ _ _ _ us hl => match us, hl with | [_, _], _ => rfl) ?_
  intro A outer s H vs Q E hr h
  obtain ⟨v, W, rfl, hW, ok, q0, q1⟩ := h
  obtain ⟨a, vv, vk, rfl, ha, ⟨av, vvs, rfl, hav, hvs⟩, ⟨ak, ks, rfl, hak, hks⟩⟩ := id hW
  have lks := Paired.length hks
  have k3 := ok.k3
  refine ⟨_, (pss_cons
    (ps_par (i := 2) (j := 3) rfl (by decide +kernel : (["_law_works_here", "_law_most", "_law_found", "_law_last", "_law_longer", "_law_stand", "_law_wants", "_law_bars", "_law_routes", "_law_route", "_law_later"] : List Str).Nodup) rfl rfl (by decide) rfl rfl (pa_cons (pe_lst (pa_cons (pe_ix (ix_tupK K rfl) (pv 0) pe_int (fun _ _ => rfl)) pa_nil)) (pa_cons (pe_lst (pa_cons (pe_ix (ix_tupK K rfl) (pv 0) pe_int (fun _ _ => rfl)) pa_nil)) pa_nil)) (by rfl)) (pss_cons
    (ps_while PassesOwn.never (pt_cmpR (op_neDK K rfl (Room.units hr)) (pv 3) (pe_lst pa_nil) (nomark _)) (pss_cons
    (ps_set (i := 4) (by decide +kernel : (["_law_works_here", "_law_most", "_law_found", "_law_last", "_law_longer", "_law_stand", "_law_wants", "_law_bars", "_law_routes", "_law_route", "_law_later"] : List Str).Nodup) rfl (Or.inl rfl) (pe_lst pa_nil)) (pss_cons
    (ps_for PassesOwn.never rfl (pi_listK K rfl (pv 3)) (pg_name (i := 5) (by decide +kernel : (["_law_works_here", "_law_most", "_law_found", "_law_last", "_law_longer", "_law_stand", "_law_wants", "_law_bars", "_law_routes", "_law_route", "_law_later"] : List Str).Nodup) rfl (Or.inl rfl)) (pss_one
    (ps_for (g := gTup K 3 (gCons (gName 6) (gCons (gName 7) (gCons (gName 8) gNil)))) PassesOwn.never rfl (pi_tupK K rfl (pe_ix (ix_tupK K rfl) (pv 0) pe_int (fun _ _ => rfl))) (by refine pg_tup (by rfl) ?_; refine pgs_cons ?_ (pgs_cons ?_ (pgs_cons ?_ pgs_nil)); exact pg_name (i := 6) (by decide +kernel : (["_law_works_here", "_law_most", "_law_found", "_law_last", "_law_longer", "_law_stand", "_law_wants", "_law_bars", "_law_routes", "_law_route", "_law_later"] : List Str).Nodup) rfl (Or.inl rfl); exact pg_name (i := 7) (by decide +kernel : (["_law_works_here", "_law_most", "_law_found", "_law_last", "_law_longer", "_law_stand", "_law_wants", "_law_bars", "_law_routes", "_law_route", "_law_later"] : List Str).Nodup) rfl (Or.inl rfl); exact pg_name (i := 8) (by decide +kernel : (["_law_works_here", "_law_most", "_law_found", "_law_last", "_law_longer", "_law_stand", "_law_wants", "_law_bars", "_law_routes", "_law_route", "_law_later"] : List Str).Nodup) rfl (Or.inl rfl)) (pss_one
    (ps_for PassesOwn.never rfl (pi_tupK K rfl (pv 8)) (pg_name (i := 9) (by decide +kernel : (["_law_works_here", "_law_most", "_law_found", "_law_last", "_law_longer", "_law_stand", "_law_wants", "_law_bars", "_law_routes", "_law_route", "_law_later"] : List Str).Nodup) rfl (Or.inl rfl)) (pss_cons
    (ps_set (i := 10) (by decide +kernel : (["_law_works_here", "_law_most", "_law_found", "_law_last", "_law_longer", "_law_stand", "_law_wants", "_law_bars", "_law_routes", "_law_route", "_law_later"] : List Str).Nodup) rfl (Or.inl rfl) (pe_ix (ix_tupK K rfl) (pe_callG (ok_lawPass T) hr (by decide) (by rfl) (pa_cons (pv 5) (pa_cons (pv 9) pa_nil))) pe_int (fun _ _ => rfl))) (pss_one
    (ps_if (pt_cmpR (op_notInDK K rfl (hu65 hr)) (pv 10) (pv 2) (by rfl)) (pss_cons
    (ps_expr (pe_bmK K rfl PySem.F.plainAttrs_list PySem.F.slot_list_append PySem.F.type_list_append mt_append (pv 2) (pa_cons (pv 10) pa_nil))) (pss_one
    (ps_expr (pe_bmK K rfl PySem.F.plainAttrs_list PySem.F.slot_list_append PySem.F.type_list_append mt_append (pv 4) (pa_cons (pv 10) pa_nil))))) pss_nil)))))))) (pss_cons
    (ps_if (pt_cmpR op_gt (pe_callB (call_lenK K rfl) (by rfl) T.fLen PySem.boot_len (pa_cons (pv 2) pa_nil)) (pv 1) (nomark _)) (pss_one
    (ps_ret pe_non)) pss_nil) (pss_one
    (ps_set (i := 3) (by decide +kernel : (["_law_works_here", "_law_most", "_law_found", "_law_last", "_law_longer", "_law_stand", "_law_wants", "_law_bars", "_law_routes", "_law_route", "_law_later"] : List Str).Nodup) rfl (Or.inl rfl) (pv 4))))))) (pss_one
    (ps_ret (pv 2))))), ?_⟩
  refine ⟨_, rfl, a, _, 1, _, rfl, rfl, SqT.of ha, rfl, (by show 1 ≤ sizeLine; decide), fun L hL => ⟨_, rfl, a, [VN W.dyes, .ref av, .ref ak], 1, .ref av, rfl, rfl, ?_⟩⟩
  have kL : Kp H (upd H L (.lst [.ref av])) := Kp.new (.refl _) hL
  refine ⟨SqT.of (kL.tup ha), rfl, (by show 1 ≤ sizeLine; decide), fun G hG => ⟨_, _, rfl, ?_⟩⟩
  have kG : Kp (upd H L (.lst [.ref av])) (upd (upd H L (.lst [.ref av])) G (.lst [.ref av])) := Kp.new (.refl _) hG
  have LG : L ≠ G := ne_of_none upd_same hG
  have k2 := kL.trans kG
  have hav2 : StandV (upd (upd H L (.lst [.ref av])) G (.lst [.ref av])) (.ref av) W.vats := ⟨av, vvs, rfl, k2.tup hav, Paired.ti (fun v x hx => hx.mono k2.ti) hvs⟩
  refine ⟨fun m σ H' => ∃ (fs ls : List Stand) (G : Addr) (o4 o5 o6 o7 o8 o9 o10 : Option V), σ = [some (.ref a), some (VN 150), some (.ref L), some (.ref G), o4, o5, o6, o7, o8, o9, o10] ∧ Kp H H' ∧ LstV StandV H' L fs ∧ LstV StandV H' G ls ∧ fs.Nodup ∧ (∀ s ∈ fs, Reach (allRoutes W) W.vats s) ∧ W.vats ∈ fs ∧
      (∀ s ∈ fs, s ∈ ls ∨ ∀ r ∈ allRoutes W, next s r ∈ fs) ∧ (∀ s ∈ ls, s ∈ fs) ∧ fs.length ≤ 150 ∧ ls.length ≤ 150 ∧ L ≠ G ∧ m = 2 * (150 - fs.length) + (if ls = [] then 0 else 1),
    ⟨_, [W.vats], [W.vats], G, none, none, none, none, none, none, none, rfl, k2, ⟨[.ref av], by rw [upd_ne LG, upd_same], .cons hav2 .nil⟩, ⟨[.ref av], upd_same, .cons hav2 .nil⟩, by simp, (fun s hs => by rw [List.mem_singleton.mp hs]; exact .here), by simp, fun s hs => .inl hs, fun s hs => hs, by simp, by simp, LG, rfl⟩, ?_⟩
  rintro m σ H3 ⟨fs, ls, G, o4, o5, o6, o7, o8, o9, o10, rfl, k3', hls, hlg, nd, re, h0, hcl, hsub, len150, lls, nLG, rfl⟩
  refine ⟨_, rfl, Nat.zero_le _, fun E1 hE1 => ⟨_, _, stands_dp (hlg.stands (Kp.new (.refl _) hE1)), ?_, stands_shaped _, stands_shaped [], _, rfl, ?_⟩⟩
  · exact .lst (SqL.of upd_same) .nil
  have kE : Kp H3 (upd H3 E1 (.lst [])) := Kp.new (.refl _) hE1
  have ene : PyData.eqv (.list (ls.map standD)) (.list (([] : List Stand).map standD)) = decide (ls = []) := by
    simp only [PyData.eqv]
    exact eqvAll_of standD_eqv ls []
  rw [ene]
  have k4 := k3'.trans kE
  have hls4 := hls.stands kE
  have hlg4 := hlg.stands kE
  generalize upd H3 E1 (.lst []) = H4 at kE k4 hls4 hlg4
  by_cases e : ls = []
  · refine itNT e ⟨_, rfl, q1 L fs H4 k4 hls4 nd (fun s => ⟨re s, fun hs => ?_⟩) len150⟩
    have hcl' : ∀ s ∈ fs, ∀ r ∈ allRoutes W, next s r ∈ fs := fun s hs => (hcl s hs).resolve_left (by rw [e]; exact fun z => by cases z)
    induction hs with
    | here => exact h0
    | step _ hr ih => exact hcl' _ ih _ hr
  · refine itNF e ⟨fun σ' H' => ∃ m', m' < 2 * (150 - fs.length) + (if ls = [] then 0 else 1) ∧ (∃ (fs ls : List Stand) (G : Addr) (o4 o5 o6 o7 o8 o9 o10 : Option V), σ' = [some (.ref a), some (VN 150), some (.ref L), some (.ref G), o4, o5, o6, o7, o8, o9, o10] ∧ Kp H H' ∧ LstV StandV H' L fs ∧ LstV StandV H' G ls ∧ fs.Nodup ∧ (∀ s ∈ fs, Reach (allRoutes W) W.vats s) ∧ W.vats ∈ fs ∧
      (∀ s ∈ fs, s ∈ ls ∨ ∀ r ∈ allRoutes W, next s r ∈ fs) ∧ (∀ s ∈ ls, s ∈ fs) ∧ fs.length ≤ 150 ∧ ls.length ≤ 150 ∧ L ≠ G ∧ m' = 2 * (150 - fs.length) + (if ls = [] then 0 else 1)), fun σ' H' h => h, ?_⟩
    refine ⟨Nat.zero_le _, fun G2 hG2 => ?_⟩
    obtain ⟨gs, hgs, hPg⟩ := hlg4
    have lgs := Paired.length hPg
    have LG2 : L ≠ G2 := fun z => by obtain ⟨us, hus, _⟩ := hls4; rw [← z, hus] at hG2; cases hG2
    have kG2 : Kp H4 (upd H4 G2 (.lst [])) := Kp.new (.refl _) hG2
    have x5 : Lv W (allRoutes W) H (upd H4 G2 (.lst [])) L G2 fs [] := ⟨k4.trans kG2, by rw [List.append_nil]; exact hls4.stands kG2, ⟨[], upd_same, .nil⟩, by rw [List.append_nil]; exact nd, by rw [List.append_nil]; exact re, hL, k4.dom _ hG2, LG2⟩
    have GG2 : G ≠ G2 := ne_of_none hgs hG2
    have hgs5 := kG2.lst hgs
    have hPg5 : Paired (StandV (upd H4 G2 (.lst []))) gs ls := Paired.ti (fun v x hx => StandV.mono kG2.ti hx) hPg
    generalize upd H4 G2 (.lst []) = H5 at kG2 x5 hgs5 hPg5
    refine ⟨_, rfl, G, rfl, ⟨_, SqL.of hgs5⟩, for_list (K := K) (a := G) (xs := gs) (fun i σ H' => ∃ (lo : List Stand) (o5 o6 o7 o8 o9 o10 : Option V), σ = [some (.ref a), some (VN 150), some (.ref L), some (.ref G), some (.ref G2), o5, o6, o7, o8, o9, o10] ∧ Lv W (allRoutes W) H H' L G2 fs lo ∧ H' G = some (.lst gs) ∧ Paired (StandV H') gs ls ∧ lo.length ≤ 12 * i ∧ ∀ s ∈ ls.take i, ∀ r ∈ allRoutes W, next s r ∈ fs ++ lo) ?_ ?_ ?_ ?_⟩
    · exact ⟨[], o5, o6, o7, o8, o9, o10, rfl, x5, hgs5, hPg5, Nat.zero_le _, by rw [List.take_zero]; intro s hs; cases hs⟩
    · rintro i σ H' _ ⟨lo, _, _, _, _, _, _, _, _, h, _⟩
      exact SqL.of h
    · rintro i x σ H6 hx ⟨lo, o5, o6, o7, o8, o9, o10, rfl, x6, hg6, hP6, hlo, hdone⟩
      obtain ⟨s0, hs0, hS0⟩ := Paired.at1 hP6 hx
      have il := (List.getElem?_eq_some_iff.mp hs0).1
      have re0 := re s0 (hsub s0 (List.mem_of_getElem? hs0))
      have ok0 := re0.ok ok.stand
      refine ⟨_, rfl, a, _, 2, _, rfl, rfl, SqT.of (x6.k.tup ha), rfl, ak, rfl, ⟨_, SqT.of (x6.k.tup hak)⟩, for_tup (K := K) (a := ak) (xs := ks) (fun k σ H' => ∃ (lo : List Stand) (o6 o7 o8 o9 o10 : Option V), σ = [some (.ref a), some (VN 150), some (.ref L), some (.ref G), some (.ref G2), some x, o6, o7, o8, o9, o10] ∧ Lv W (allRoutes W) H H' L G2 fs lo ∧ H' G = some (.lst gs) ∧ Paired (StandV H') gs ls ∧ StandV H' x s0 ∧ lo.length ≤ 12 * i + 4 * k ∧ (∀ s ∈ ls.take i, ∀ r ∈ allRoutes W, next s r ∈ fs ++ lo) ∧ ∀ kd ∈ W.kinds.take k, ∀ r ∈ kd.routes, next s0 r ∈ fs ++ lo) ?_ ?_ ?_ ?_⟩
      · exact ⟨lo, o6, o7, o8, o9, o10, rfl, x6, hg6, hP6, hS0, hlo, hdone, by rw [List.take_zero]; intro s hs; cases hs⟩
      · rintro k σ H' _ ⟨lo, _, _, _, _, _, _, x, _⟩
        exact SqT.of (x.k.tup hak)
      · rintro k y σ H7 hy ⟨lo, o6, o7, o8, o9, o10, rfl, x7, hg7, hP7, hS7, hlo7, hdone, hkd⟩
        obtain ⟨kd, hk, ⟨c, vw, vb, vr, rfl, hc, _, _, ⟨ar, rs, rfl, har, hrs⟩⟩⟩ := Paired.at1 hks hy
        have okd := ok.kind kd (List.mem_of_getElem? hk)
        have kl := (List.getElem?_eq_some_iff.mp hk).1
        refine ⟨c, _, rfl, SqT.of (x7.k.tup hc), rfl, _, _, rfl, _, _, rfl, _, _, rfl, rfl, ?_⟩
        refine ⟨_, rfl, ar, rfl, ⟨_, SqT.of (x7.k.tup har)⟩, for_tup (K := K) (a := ar) (xs := rs) (fun j σ H' => ∃ (lo : List Stand) (o9 o10 : Option V), σ = [some (.ref a), some (VN 150), some (.ref L), some (.ref G), some (.ref G2), some x, some vw, some vb, some (.ref ar), o9, o10] ∧ Lv W (allRoutes W) H H' L G2 fs lo ∧ H' G = some (.lst gs) ∧ Paired (StandV H') gs ls ∧ StandV H' x s0 ∧ lo.length ≤ 12 * i + 4 * k + j ∧ (∀ s ∈ ls.take i, ∀ r ∈ allRoutes W, next s r ∈ fs ++ lo) ∧ (∀ kd ∈ W.kinds.take k, ∀ r ∈ kd.routes, next s0 r ∈ fs ++ lo) ∧ ∀ r ∈ kd.routes.take j, next s0 r ∈ fs ++ lo) ?_ ?_ ?_ ?_⟩
        · exact ⟨lo, o9, o10, rfl, x7, hg7, hP7, hS7, hlo7, hdone, hkd, by rw [List.take_zero]; intro s hs; cases hs⟩
        · rintro j σ H' _ ⟨lo, _, _, _, x, _⟩
          exact SqT.of (x.k.tup har)
        · rintro j z σ H8 hz ⟨lo, o9, o10, rfl, x8, hg8, hP8, hS8, hlo8, hdone, hkd, hrd⟩
          obtain ⟨r, hr, hR⟩ := Paired.at1 hrs hz
          have mr : r ∈ kd.routes := List.mem_of_getElem? hr
          have jl := (List.getElem?_eq_some_iff.mp hr).1
          have r4 := okd.r4
          have ma : r ∈ allRoutes W := List.mem_flatMap.mpr ⟨kd, List.mem_of_getElem? hk, mr⟩
          refine ⟨_, rfl, _, rfl, x, z, _, W.dyes, s0, r, rfl, hS8, hR.mono x8.k.ti, ok0, ok.d4, ok.v4, (okd.route r mr).2.2, fun v H9 k9 hv => ?_⟩
          obtain ⟨t, x1, y1, rfl, ht, hx1, _⟩ := hv
          have x9 := x8.kp k9
          refine ⟨t, _, 0, _, rfl, rfl, SqT.of ht, rfl, _, rfl, _, rfl, _, _, StandV.dp hx1, stands_dp x9.l, standD_shaped _, stands_shaped _, _, rfl, ?_⟩
          rw [any_standD]
          have hP9 : Paired (StandV H9) gs ls := Paired.ti (fun v x hx => StandV.mono k9.ti hx) hP8
          by_cases mem : next s0 r ∈ fs ++ lo
          · refine itNT mem ⟨lo, some z, _, rfl, x9, k9.lst hg8, hP9, StandV.mono k9.ti hS8, by omega, hdone, hkd, fun r' hr' => ?_⟩
            rw [take_snoc hr, List.mem_append, List.mem_singleton] at hr'
            rcases hr' with q | q
            · exact hrd r' q
            · rw [q]; exact mem
          · refine itNF mem ?_
            obtain ⟨us, hus, hPu⟩ := x9.l
            obtain ⟨gs2, hgs2, hPg2⟩ := x9.g
            have lus := Paired.length hPu
            have lg2 := Paired.length hPg2
            rw [List.length_append] at lus
            have hg1 : (upd H9 L (.lst (us ++ [x1]))) G2 = some (.lst gs2) := by rw [upd_ne (Ne.symm x9.ne)]; exact hgs2
            have xA := x9.add hx1 mem (.step re0 ma) hus hgs2
            have tA : Ti H9 (upd (upd H9 L (.lst (us ++ [x1]))) G2 (.lst (gs2 ++ [x1]))) := (Ti.putL hus).trans (Ti.putL hg1)
            have more : ∀ s, s ∈ fs ++ lo → s ∈ fs ++ (lo ++ [next s0 r]) := fun s hs => by rw [← List.append_assoc]; exact List.mem_append_left _ hs
            refine ⟨_, rfl, .inl ⟨rfl, us, SqL.of hus⟩, _, rfl, L, us, x1, rfl, rfl, hus, by rw [sizeLine_eq]; omega, _, rfl, .inl ⟨rfl, gs2, SqL.of hg1⟩, _, rfl, G2, gs2, x1, rfl, rfl, hg1, by rw [sizeLine_eq]; omega, ?_⟩
            refine ⟨lo ++ [next s0 r], some z, _, rfl, xA, by rw [upd_ne GG2, upd_ne (Ne.symm nLG)]; exact k9.lst hg8, Paired.ti (fun v x hx => StandV.mono tA hx) hP9, StandV.mono (k9.ti.trans tA) hS8, by rw [List.length_append, List.length_singleton]; omega,
              fun s hs r hr => more _ (hdone s hs r hr), fun kd hk r hr => more _ (hkd kd hk r hr), fun r' hr' => ?_⟩
            rw [take_snoc hr, List.mem_append, List.mem_singleton] at hr'
            rcases hr' with q | q
            · exact more _ (hrd r' q)
            · rw [q, ← List.append_assoc]; exact List.mem_append_right _ (List.mem_singleton.mpr rfl)
        · rintro σ H8 ⟨lo, o9, o10, rfl, x8, hg8, hP8, hS8, hlo8, hdone, hkd, hrd⟩
          have lrs := Paired.length hrs
          have r4 := okd.r4
          rw [lrs, List.take_length] at hrd
          refine ⟨lo, _, _, _, o9, o10, rfl, x8, hg8, hP8, hS8, by omega, hdone, fun kd' hk' => ?_⟩
          rw [take_snoc hk, List.mem_append, List.mem_singleton] at hk'
          rcases hk' with q | q
          · exact hkd kd' q
          · rw [q]; exact hrd
      · rintro σ H7 ⟨lo, o6, o7, o8, o9, o10, rfl, x7, hg7, hP7, hS7, hlo7, hdone, hkd⟩
        rw [lks, List.take_length] at hkd
        refine ⟨lo, some x, o6, o7, o8, o9, o10, rfl, x7, hg7, hP7, by omega, fun s hs => ?_⟩
        rw [take_snoc hs0, List.mem_append, List.mem_singleton] at hs
        rcases hs with q | q
        · exact hdone s q
        · rw [q]
          intro r hr
          obtain ⟨kd, hk, hr⟩ := List.mem_flatMap.mp hr
          exact hkd kd hk r hr
    · rintro σ H6 ⟨lo, o5, o6, o7, o8, o9, o10, rfl, x6, hg6, hP6, hlo, hdone⟩
      rw [lgs, List.take_length] at hdone
      obtain ⟨us, hus, hPu⟩ := id x6.l
      have lus := Paired.length hPu
      refine ⟨_, rfl, L, us, rfl, .inl (SqL.of hus), _, rfl, _, _, rfl, rfl, _, rfl, ?_⟩
      by_cases big : (150 : Int) < (us.length : Int)
      · exact itT big (q0 H6 x6.k)
      · refine itF big ⟨_, rfl, ?_⟩
        rw [List.length_append] at lus
        have e2 : (fs ++ lo).length = fs.length + lo.length := List.length_append
        refine ⟨2 * (150 - (fs ++ lo).length) + (if lo = [] then 0 else 1), ?_, fs ++ lo, lo, G2, _, _, _, _, _, _, _, rfl, x6.k, x6.l, x6.g, x6.nd, x6.re, List.mem_append_left _ h0, fun s hs => ?_, fun s hs => List.mem_append_right _ hs, by omega, by omega, x6.ne, rfl⟩
        · rw [if_neg e]
          by_cases el : lo = []
          · rw [if_pos el, el, List.append_nil]; omega
          · have := List.length_pos_iff.mpr el
            rw [if_neg el]; omega
        · rcases List.mem_append.mp hs with q | q
          · right
            intro r hr
            rcases hcl s q with z | z
            · exact hdone s z r hr
            · exact List.mem_append_left _ (z r hr)
          · exact .inl q
end Dw
end

section
set_option Elab.async false
set_option linter.all false
set_option maxRecDepth 100000
set_option maxHeartbeats 1000000
namespace Dw
open PySem PySem.Spec PyProof.Rows L2
variable {P : Program} {w : World} {K : PySem.W.Frag} {mg : Str → Option Value} {base : Heap}
theorem ok_lawPlans (T : Tx P w K mg base) : Good P w K mg base "_law_plans" 1 ["_law_works_here"] spAllPlans := by
  refine good_mk (k := 0) (N := ["_law_works_here", "_law_found", "_law_wants", "_law_bars", "_law_routes", "_law_longer", "_law_plan", "_law_number"]) T dLawPlans (by simp [fn]) T.gLawPlans rfl rfl rfl ⟨rfl, rfl, rfl, by decide +kernel, rfl, by decide +kernel, by decide +kernel⟩ (fun vs H Q E ⟨v, W, e, _⟩ => by rw [e]; rfl) (fun _ _ _ _ _ _ us hl => match us, hl with | [_], _ => rfl) ?_
  intro A outer s H vs Q E hr h
  obtain ⟨v, W, rfl, ⟨a, vv, vk, rfl, ha, hsv, ⟨ak, ks, rfl, hak, hks⟩⟩, ok, q⟩ := h
  have lk := Paired.length hks
  refine ⟨_, (pss_cons
    (ps_set (i := 1) (by decide +kernel : (["_law_works_here", "_law_found", "_law_wants", "_law_bars", "_law_routes", "_law_longer", "_law_plan", "_law_number"] : List Str).Nodup) rfl (Or.inl rfl) (pe_lst (pa_cons (pe_tup pa_nil) pa_nil))) (pss_cons
    (ps_for (g := gTup K 3 (gCons (gName 2) (gCons (gName 3) (gCons (gName 4) gNil)))) PassesOwn.never rfl (pi_tupK K rfl (pe_ix (ix_tupK K rfl) (pv 0) pe_int (fun _ _ => rfl))) (by refine pg_tup (by rfl) ?_; refine pgs_cons ?_ (pgs_cons ?_ (pgs_cons ?_ pgs_nil)); exact pg_name (i := 2) (by decide +kernel : (["_law_works_here", "_law_found", "_law_wants", "_law_bars", "_law_routes", "_law_longer", "_law_plan", "_law_number"] : List Str).Nodup) rfl (Or.inl rfl); exact pg_name (i := 3) (by decide +kernel : (["_law_works_here", "_law_found", "_law_wants", "_law_bars", "_law_routes", "_law_longer", "_law_plan", "_law_number"] : List Str).Nodup) rfl (Or.inl rfl); exact pg_name (i := 4) (by decide +kernel : (["_law_works_here", "_law_found", "_law_wants", "_law_bars", "_law_routes", "_law_longer", "_law_plan", "_law_number"] : List Str).Nodup) rfl (Or.inl rfl)) (pss_cons
    (ps_set (i := 5) (by decide +kernel : (["_law_works_here", "_law_found", "_law_wants", "_law_bars", "_law_routes", "_law_longer", "_law_plan", "_law_number"] : List Str).Nodup) rfl (Or.inl rfl) (pe_lst pa_nil)) (pss_cons
    (ps_for PassesOwn.never rfl (pi_listK K rfl (pv 1)) (pg_name (i := 6) (by decide +kernel : (["_law_works_here", "_law_found", "_law_wants", "_law_bars", "_law_routes", "_law_longer", "_law_plan", "_law_number"] : List Str).Nodup) rfl (Or.inr rfl)) (pss_one
    (ps_set (i := 5) (by decide +kernel : (["_law_works_here", "_law_found", "_law_wants", "_law_bars", "_law_routes", "_law_longer", "_law_plan", "_law_number"] : List Str).Nodup) rfl (Or.inl rfl) (pe_op op_cat (pv 5) (pe_lc (own := [("_law_number", 7)]) rfl (by decide +kernel : (["_law_works_here", "_law_found", "_law_wants", "_law_bars", "_law_routes", "_law_longer", "_law_plan", "_law_number"] : List Str).Nodup) (pi_range1 (by rfl) T.fRange (pa_cons (pe_callB (call_lenK K rfl) (by rfl) T.fLen PySem.boot_len (pa_cons (pv 4) pa_nil)) pa_nil)) (blkOk_by (N := ["_law_works_here", "_law_found", "_law_wants", "_law_bars", "_law_routes", "_law_longer", "_law_plan", "_law_number"]) (sc := dLawPlans.scope) (by decide +kernel)) (fun _ _ _ _ _ => (pg_name (i := 7) (by decide +kernel : (["_law_works_here", "_law_found", "_law_wants", "_law_bars", "_law_routes", "_law_longer", "_law_plan", "_law_number"] : List Str).Nodup) rfl (Or.inl rfl))) (fun _ _ _ _ _ => pts_nil) (fun _ _ _ _ _ => (pe_op (op_catAK K rfl) (pv 6) (pe_tup (pa_cons (pv 7) pa_nil))))))))) (pss_one
    (ps_set (i := 1) (by decide +kernel : (["_law_works_here", "_law_found", "_law_wants", "_law_bars", "_law_routes", "_law_longer", "_law_plan", "_law_number"] : List Str).Nodup) rfl (Or.inl rfl) (pv 5)))))) (pss_one
    (ps_ret (pv 1))))), ?_⟩
  refine ⟨Nat.zero_le _, fun t ht => ⟨(by show 1 ≤ sizeLine; decide), fun L hL => ?_⟩⟩
  have k1 : Kp H (upd (upd H t (.tup [])) L (.lst [.ref t])) := (Kp.new (.refl _) ht).trans (Kp.new (.refl _) hL)
  refine ⟨_, rfl, a, _, 2, _, rfl, rfl, SqT.of (k1.tup ha), rfl, ak, rfl, ⟨_, SqT.of (k1.tup hak)⟩, for_tup (K := K) (a := ak) (xs := ks) (fun i σ H' => ∃ fa us o2 o3 o4 o5 o6 o7, σ = [some (.ref a), some (.ref fa), o2, o3, o4, o5, o6, o7] ∧ Kp H H' ∧ H' fa = some (.lst us) ∧ Paired (LotV H') us ((W.kinds.take i).foldl longer [[]])) ?_ ?_ ?_ ?_⟩
  · refine ⟨L, _, none, none, none, none, none, none, rfl, k1, upd_same, .cons ⟨t, rfl, ?_⟩ .nil⟩
    exact (Kp.new (.refl _) hL).tup upd_same
  · rintro i σ H' _ ⟨fa, us, o2, o3, o4, o5, o6, o7, _, k, _⟩
    exact SqT.of (k.tup hak)
  · rintro i x σ H1 hx ⟨fa, us, o2, o3, o4, o5, o6, o7, rfl, k, hfa, hus⟩
    obtain ⟨kd, hk, ⟨c, vw, vb, vr, rfl, hc, _, _, ⟨ar, rs, rfl, har, hrs⟩⟩⟩ := Paired.at1 hks hx
    have r4 := (ok.kind kd (List.mem_of_getElem? hk)).r4
    have lr := Paired.length hrs
    have h64 := plans64 ok (i + 1)
    rw [take_snoc hk, List.foldl_append, List.foldl_cons, List.foldl_nil] at h64
    have hlen3 : ∀ p ∈ (W.kinds.take i).foldl longer [[]], p.length ≤ 3 := fun p hp => by
      have := (mem_foldl_longer (W.kinds.take i) [] [[]] (fun p => by
        constructor
        · intro h; rw [List.mem_singleton.mp h]; exact .nil
        · intro h; cases h; simp) p).mp hp
      have e := Paired.length this
      rw [List.nil_append, List.length_take] at e
      have := ok.k3
      omega
    generalize hfs : (W.kinds.take i).foldl longer [[]] = fs at hus h64 hlen3
    have lus := Paired.length hus
    refine ⟨c, _, rfl, SqT.of (k.tup hc), rfl, _, _, rfl, _, _, rfl, _, _, rfl, rfl, Nat.zero_le _, fun G hG => ?_⟩
    have kG : Kp H1 (upd H1 G (.lst [])) := Kp.new (.refl _) hG
    refine ⟨_, rfl, fa, rfl, ⟨_, SqL.of (kG.lst hfa)⟩, for_list (K := K) (a := fa) (xs := us) (fun m σ H' => ∃ ga gs o6 o7, σ = [some (.ref a), some (.ref fa), some vw, some vb, some (.ref ar), some (.ref ga), o6, o7] ∧ Kp H1 H' ∧ H' ga = some (.lst gs) ∧ Paired (LotV H') gs ((fs.take m).flatMap fun p => (List.range kd.routes.length).map fun n => p ++ [n])) ?_ ?_ ?_ ?_⟩
    · exact ⟨G, [], o6, o7, rfl, kG, upd_same, by rw [List.take_zero]; exact .nil⟩
    · rintro m σ H' _ ⟨ga, gs, o6, o7, _, k, _⟩
      exact SqL.of (k.lst hfa)
    · rintro m x σ H2 hx ⟨ga, gs, o6, o7, rfl, k2, hga, hgs⟩
      obtain ⟨p, hp, ⟨pa, rfl, hpa⟩⟩ := Paired.at1 hus hx
      have lgs := Paired.length hgs
      have e1 := length_longer (fs.take m) kd
      unfold longer at e1
      rw [e1, List.length_take] at lgs
      have l1 : (min m fs.length) * kd.routes.length ≤ fs.length * kd.routes.length := Nat.mul_le_mul_right _ (Nat.min_le_right _ _)
      rw [length_longer] at h64
      have p3 := hlen3 p (List.mem_of_getElem? hp)
      have k12 := k.trans k2
      refine ⟨_, rfl, _, rfl, ar, rs, rfl, .inr (SqT.of (k12.tup har)), _, rfl, by omega, by omega, fun D hD => ?_⟩
      refine lc_range (fun j H' => ∃ acc, Kp H2 H' ∧ H' D = some (.lst acc) ∧ Paired (LotV H') acc ((List.range j).map fun n => p ++ [n])) ?_ ?_ ?_
      · exact ⟨[], Kp.new (.refl _) hD, upd_same, by rw [List.range_zero]; exact .nil⟩
      · rintro j H3 hj ⟨acc, k3, hD3, hacc⟩
        have ej : (.int (0 + (j : Int)) : V) = VN j := by rw [Int.zero_add]
        rw [ej]
        have lacc := Paired.length hacc
        rw [List.length_map, List.length_range] at lacc
        refine ⟨rfl, _, rfl, _, rfl, (by show 1 ≤ sizeLine; decide), fun t ht => ?_⟩
        have kt : Kp H3 (upd H3 t (.tup [VN j])) := Kp.new (.refl _) ht
        show rCatA K (.ref pa) (.ref t) (upd H3 t (.tup [VN j])) _
        refine cat_one ((k2.trans (k3.trans kt)).tup hpa) upd_same (by rw [sizeLine_eq]; omega) fun cc H4 k4 hc4 => ?_
        have kk := kt.trans k4
        have t1 : Ti H4 (upd H4 D (.lst (acc ++ [.ref cc]))) := Ti.putL (kk.lst hD3)
        refine ⟨acc, kk.lst hD3, by rw [sizeLine_eq]; omega, acc ++ [.ref cc], (k3.trans kk).putL hD (kk.lst hD3), upd_same, ?_⟩
        rw [List.range_succ, List.map_append]
        exact Paired.snoc (Paired.ti (fun v x hx => hx.mono (kk.ti.trans t1)) hacc) ⟨cc, rfl, t1 _ _ hc4⟩
      · rintro H3 ⟨acc, k3, hD3, hacc⟩
        rw [show (((rs.length : Nat) : Int)).toNat = kd.routes.length by rw [lr]; rfl] at hacc
        have lacc := Paired.length hacc
        rw [List.length_map, List.length_range] at lacc
        refine ⟨ga, D, gs, acc, rfl, rfl, k3.lst hga, hD3, by rw [sizeLine_eq]; omega, fun g2 hg2 => ?_⟩
        have kn : Kp H3 (upd H3 g2 (.lst (gs ++ acc))) := Kp.new (.refl _) hg2
        refine ⟨g2, gs ++ acc, _, _, rfl, k2.trans (k3.trans kn), upd_same, ?_⟩
        rw [take_snoc hp, List.flatMap_append, List.flatMap_singleton]
        exact Paired.app (Paired.ti (fun v x hx => hx.mono (k3.trans kn).ti) hgs) (Paired.ti (fun v x hx => hx.mono kn.ti) hacc)
    · rintro σ H2 ⟨ga, gs, o6, o7, rfl, k2, hga, hgs⟩
      rw [lus, List.take_length] at hgs
      refine ⟨_, rfl, ga, gs, _, _, _, _, _, _, rfl, k.trans k2, hga, ?_⟩
      rw [take_snoc hk, List.foldl_append, List.foldl_cons, List.foldl_nil, hfs]
      exact hgs
  · rintro σ H1 ⟨fa, us, o2, o3, o4, o5, o6, o7, rfl, k, hfa, hus⟩
    rw [lk, List.take_length] at hus
    exact ⟨_, rfl, q fa H1 k ⟨us, hfa, hus⟩⟩
/-! ### _law_fine -/
def spLawFine : Sp := fun vs H Q _ => ∃ (v u : V) (W : Works) (p : Plan) (S : List Stand), vs = [v, u] ∧ WorksV H v W ∧ LotV H u p ∧ PlanOk W p ∧ OkWorks W ∧ S.length ≤ 1000 ∧ (∀ s, Reach (allRoutes W) W.vats s → s ∈ S) ∧ ∀ b H', Kp H H' → (b = true ↔ Fine W p) → Q (.bl b) H'
theorem ok_lawFine (T : Tx P w K mg base) : Good P w K mg base "_law_fine" 3 ["_law_works_here", "_law_plan"] spLawFine := by
  refine good_mk (k := 2) (N := ["_law_works_here", "_law_plan", "_law_found", "_law_last", "_law_longer", "_law_stand", "_law_kind", "_law_later"]) T dLawFine (by simp [fn]) T.gLawFine rfl rfl rfl ⟨rfl, rfl, rfl, by decide +kernel, rfl, by decide +kernel, by decide +kernel⟩ (fun vs H Q E ⟨v, u, W, p, S, e, _⟩ => by rw [e]; rfl) (fun _ _ _ _ _ _ us hl => match us, hl with | [_, _], _ => rfl) ?_
  intro A outer s H vs Q E hr h
  obtain ⟨v, u, W, p, S, rfl, hW, ⟨pa, rfl, hpa⟩, hp, ok, hS, hRS, q⟩ := h
  obtain ⟨a, vv, vk, rfl, ha, ⟨av, vvs, rfl, hav, hvs⟩, ⟨ak, ks, rfl, hak, hks⟩⟩ := id hW
  have lks := Paired.length hks
  have k3 := ok.k3
  have lp := Paired.length hp
  have lro := routesOf_len hp
  have hRS2 : ∀ s, Reach (routesOf W p) W.vats s → s ∈ S := fun s hs => hRS s (hs.mono (routesOf_sub hp))
  refine ⟨_, (pss_cons
    (ps_par (i := 2) (j := 3) rfl (by decide +kernel : (["_law_works_here", "_law_plan", "_law_found", "_law_last", "_law_longer", "_law_stand", "_law_kind", "_law_later"] : List Str).Nodup) rfl rfl (by decide) rfl rfl (pa_cons (pe_lst (pa_cons (pe_ix (ix_tupK K rfl) (pv 0) pe_int (fun _ _ => rfl)) pa_nil)) (pa_cons (pe_lst (pa_cons (pe_ix (ix_tupK K rfl) (pv 0) pe_int (fun _ _ => rfl)) pa_nil)) pa_nil)) (by rfl)) (pss_cons
    (ps_while PassesOwn.never (pt_cmpR (op_neDK K rfl (Room.units hr)) (pv 3) (pe_lst pa_nil) (nomark _)) (pss_cons
    (ps_set (i := 4) (by decide +kernel : (["_law_works_here", "_law_plan", "_law_found", "_law_last", "_law_longer", "_law_stand", "_law_kind", "_law_later"] : List Str).Nodup) rfl (Or.inl rfl) (pe_lst pa_nil)) (pss_cons
    (ps_for PassesOwn.never rfl (pi_listK K rfl (pv 3)) (pg_name (i := 5) (by decide +kernel : (["_law_works_here", "_law_plan", "_law_found", "_law_last", "_law_longer", "_law_stand", "_law_kind", "_law_later"] : List Str).Nodup) rfl (Or.inl rfl)) (pss_one
    (ps_for PassesOwn.never rfl (pi_range1 (by rfl) T.fRange (pa_cons (pe_callB (call_lenK K rfl) (by rfl) T.fLen PySem.boot_len (pa_cons (pv 1) pa_nil)) pa_nil)) (pg_name (i := 6) (by decide +kernel : (["_law_works_here", "_law_plan", "_law_found", "_law_last", "_law_longer", "_law_stand", "_law_kind", "_law_later"] : List Str).Nodup) rfl (Or.inl rfl)) (pss_cons
    (ps_if (pt_not (pt_val (pe_callG (ok_lawGood T) hr (by decide) (by rfl) (pa_cons (pv 0) (pa_cons (pv 5) (pa_cons (pv 6) (pa_cons (pe_ix (ix_tupK K rfl) (pv 1) (pv 6) (fun _ _ => rfl)) pa_nil))))))) (pss_one
    (ps_ret pe_bl)) pss_nil) (pss_cons
    (ps_set (i := 7) (by decide +kernel : (["_law_works_here", "_law_plan", "_law_found", "_law_last", "_law_longer", "_law_stand", "_law_kind", "_law_later"] : List Str).Nodup) rfl (Or.inl rfl) (pe_ix (ix_tupK K rfl) (pe_callG (ok_lawPass T) hr (by decide) (by rfl) (pa_cons (pv 5) (pa_cons (pe_ix (ix_tupK K rfl) (pe_ix (ix_tupK K rfl) (pe_ix (ix_tupK K rfl) (pe_ix (ix_tupK K rfl) (pv 0) pe_int (fun _ _ => rfl)) (pv 6) (fun _ _ => rfl)) pe_int (fun _ _ => rfl)) (pe_ix (ix_tupK K rfl) (pv 1) (pv 6) (fun _ _ => rfl)) (fun _ _ => rfl)) pa_nil))) pe_int (fun _ _ => rfl))) (pss_one
    (ps_if (pt_cmpR (op_notInDK K rfl (hu65 hr)) (pv 7) (pv 2) (by rfl)) (pss_cons
    (ps_expr (pe_bmK K rfl PySem.F.plainAttrs_list PySem.F.slot_list_append PySem.F.type_list_append mt_append (pv 2) (pa_cons (pv 7) pa_nil))) (pss_one
    (ps_expr (pe_bmK K rfl PySem.F.plainAttrs_list PySem.F.slot_list_append PySem.F.type_list_append mt_append (pv 4) (pa_cons (pv 7) pa_nil))))) pss_nil))))))) (pss_one
    (ps_set (i := 3) (by decide +kernel : (["_law_works_here", "_law_plan", "_law_found", "_law_last", "_law_longer", "_law_stand", "_law_kind", "_law_later"] : List Str).Nodup) rfl (Or.inl rfl) (pv 4)))))) (pss_one
    (ps_ret pe_bl)))), ?_⟩
  refine ⟨_, rfl, a, _, 1, _, rfl, rfl, SqT.of ha, rfl, (by show 1 ≤ sizeLine; decide), fun L hL => ⟨_, rfl, a, [VN W.dyes, .ref av, .ref ak], 1, .ref av, rfl, rfl, ?_⟩⟩
  have kL : Kp H (upd H L (.lst [.ref av])) := Kp.new (.refl _) hL
  refine ⟨SqT.of (kL.tup ha), rfl, (by show 1 ≤ sizeLine; decide), fun G hG => ⟨_, _, rfl, ?_⟩⟩
  have kG : Kp (upd H L (.lst [.ref av])) (upd (upd H L (.lst [.ref av])) G (.lst [.ref av])) := Kp.new (.refl _) hG
  have LG : L ≠ G := ne_of_none upd_same hG
  have k2 := kL.trans kG
  have hav2 : StandV (upd (upd H L (.lst [.ref av])) G (.lst [.ref av])) (.ref av) W.vats := ⟨av, vvs, rfl, k2.tup hav, Paired.ti (fun v x hx => hx.mono k2.ti) hvs⟩
  refine ⟨fun m σ H' => ∃ (fs ls : List Stand) (G : Addr) (o4 o5 o6 o7 : Option V), σ = [some (.ref a), some (.ref pa), some (.ref L), some (.ref G), o4, o5, o6, o7] ∧ Kp H H' ∧ LstV StandV H' L fs ∧ LstV StandV H' G ls ∧ fs.Nodup ∧ (∀ s ∈ fs, Reach (routesOf W p) W.vats s) ∧ W.vats ∈ fs ∧
      (∀ s ∈ fs, s ∈ ls ∨ ∀ x ∈ List.zip W.kinds (routesOf W p), goodR W x.1 s x.2 = true ∧ next s x.2 ∈ fs) ∧ (∀ s ∈ ls, s ∈ fs) ∧ L ≠ G ∧ ls.length ≤ fs.length ∧ m = 2 * (S.length - fs.length) + (if ls = [] then 0 else 1),
    ⟨_, [W.vats], [W.vats], G, none, none, none, none, rfl, k2, ⟨[.ref av], by rw [upd_ne LG, upd_same], .cons hav2 .nil⟩, ⟨[.ref av], upd_same, .cons hav2 .nil⟩, by simp, (fun s hs => by rw [List.mem_singleton.mp hs]; exact .here), by simp, fun s hs => .inl hs, fun s hs => hs, LG, Nat.le_refl _, rfl⟩, ?_⟩
  rintro m σ H3 ⟨fs, ls, G, o4, o5, o6, o7, rfl, k3', hls, hlg, nd, re, h0, hcl, hsub, nLG, lle, rfl⟩
  have lfS := len_of_sub nd fun s hs => hRS2 s (re s hs)
  refine ⟨_, rfl, Nat.zero_le _, fun E1 hE1 => ⟨_, _, stands_dp (hlg.stands (Kp.new (.refl _) hE1)), ?_, stands_shaped _, stands_shaped [], _, rfl, ?_⟩⟩
  · exact .lst (SqL.of upd_same) .nil
  have kE : Kp H3 (upd H3 E1 (.lst [])) := Kp.new (.refl _) hE1
  have ene : PyData.eqv (.list (ls.map standD)) (.list (([] : List Stand).map standD)) = decide (ls = []) := by
    simp only [PyData.eqv]
    exact eqvAll_of standD_eqv ls []
  rw [ene]
  have k4 := k3'.trans kE
  have hls4 := hls.stands kE
  have hlg4 := hlg.stands kE
  generalize upd H3 E1 (.lst []) = H4 at kE k4 hls4 hlg4
  by_cases e : ls = []
  · refine itNT e (q true H4 k4 ⟨fun _ => fun s hs => ?_, fun _ => rfl⟩)
    have hcl' : ∀ s ∈ fs, ∀ x ∈ List.zip W.kinds (routesOf W p), goodR W x.1 s x.2 = true ∧ next s x.2 ∈ fs := fun s hs => (hcl s hs).resolve_left (by rw [e]; exact fun z => by cases z)
    have mem : s ∈ fs := by
      induction hs with
      | here => exact h0
      | step _ hr ih =>
        obtain ⟨kd, hk⟩ := zip_mem_right lro _ hr
        exact (hcl' _ ih _ hk).2
    exact fun x hx => (hcl' s mem x hx).1
  · refine itNF e ⟨fun σ' H' => ∃ m', m' < 2 * (S.length - fs.length) + (if ls = [] then 0 else 1) ∧ (∃ (fs ls : List Stand) (G : Addr) (o4 o5 o6 o7 : Option V), σ' = [some (.ref a), some (.ref pa), some (.ref L), some (.ref G), o4, o5, o6, o7] ∧ Kp H H' ∧ LstV StandV H' L fs ∧ LstV StandV H' G ls ∧ fs.Nodup ∧ (∀ s ∈ fs, Reach (routesOf W p) W.vats s) ∧ W.vats ∈ fs ∧
      (∀ s ∈ fs, s ∈ ls ∨ ∀ x ∈ List.zip W.kinds (routesOf W p), goodR W x.1 s x.2 = true ∧ next s x.2 ∈ fs) ∧ (∀ s ∈ ls, s ∈ fs) ∧ L ≠ G ∧ ls.length ≤ fs.length ∧ m' = 2 * (S.length - fs.length) + (if ls = [] then 0 else 1)), fun σ' H' h => h, ?_⟩
    refine ⟨Nat.zero_le _, fun G2 hG2 => ?_⟩
    obtain ⟨gs, hgs, hPg⟩ := hlg4
    have lgs := Paired.length hPg
    have LG2 : L ≠ G2 := fun z => by obtain ⟨us, hus, _⟩ := hls4; rw [← z, hus] at hG2; cases hG2
    have kG2 : Kp H4 (upd H4 G2 (.lst [])) := Kp.new (.refl _) hG2
    have x5 : Lv W (routesOf W p) H (upd H4 G2 (.lst [])) L G2 fs [] := ⟨k4.trans kG2, by rw [List.append_nil]; exact hls4.stands kG2, ⟨[], upd_same, .nil⟩, by rw [List.append_nil]; exact nd, by rw [List.append_nil]; exact re, hL, k4.dom _ hG2, LG2⟩
    have GG2 : G ≠ G2 := ne_of_none hgs hG2
    have hgs5 := kG2.lst hgs
    have hPg5 : Paired (StandV (upd H4 G2 (.lst []))) gs ls := Paired.ti (fun v x hx => StandV.mono kG2.ti hx) hPg
    generalize upd H4 G2 (.lst []) = H5 at kG2 x5 hgs5 hPg5
    refine ⟨_, rfl, G, rfl, ⟨_, SqL.of hgs5⟩, for_list (K := K) (a := G) (xs := gs) (fun i σ H' => ∃ (lo : List Stand) (o5 o6 o7 : Option V), σ = [some (.ref a), some (.ref pa), some (.ref L), some (.ref G), some (.ref G2), o5, o6, o7] ∧ Lv W (routesOf W p) H H' L G2 fs lo ∧ H' G = some (.lst gs) ∧ Paired (StandV H') gs ls ∧ ∀ s ∈ ls.take i, ∀ x ∈ List.zip W.kinds (routesOf W p), goodR W x.1 s x.2 = true ∧ next s x.2 ∈ fs ++ lo) ?_ ?_ ?_ ?_⟩
    · exact ⟨[], o5, o6, o7, rfl, x5, hgs5, hPg5, by rw [List.take_zero]; intro s hs; cases hs⟩
    · rintro i σ H' _ ⟨lo, _, _, _, _, _, h, _⟩
      exact SqL.of h
    · rintro i x σ H6 hx ⟨lo, o5, o6, o7, rfl, x6, hg6, hP6, hdone⟩
      obtain ⟨s0, hs0, hS0⟩ := Paired.at1 hP6 hx
      have re0 := re s0 (hsub s0 (List.mem_of_getElem? hs0))
      have ok0 := re0.ok ok.stand
      refine ⟨_, rfl, pa, _, rfl, .inr (SqT.of (x6.k.tup hpa)), _, rfl, by rw [nums_len]; omega, by rw [nums_len]; omega, ?_⟩
      refine for_range (lo := 0) (fun k σ H' => ∃ (lo : List Stand) (o6 o7 : Option V), σ = [some (.ref a), some (.ref pa), some (.ref L), some (.ref G), some (.ref G2), some x, o6, o7] ∧ Lv W (routesOf W p) H H' L G2 fs lo ∧ H' G = some (.lst gs) ∧ Paired (StandV H') gs ls ∧ StandV H' x s0 ∧ (∀ s ∈ ls.take i, ∀ x ∈ List.zip W.kinds (routesOf W p), goodR W x.1 s x.2 = true ∧ next s x.2 ∈ fs ++ lo) ∧ ∀ x ∈ (List.zip W.kinds (routesOf W p)).take k, goodR W x.1 s0 x.2 = true ∧ next s0 x.2 ∈ fs ++ lo) ?_ ?_ ?_
      · exact ⟨lo, o6, o7, rfl, x6, hg6, hP6, hS0, hdone, by rw [List.take_zero]; intro s hs; cases hs⟩
      · rintro k σ H7 hk7 ⟨lo, o6, o7, rfl, x7, hg7, hP7, hS7, hdone, hkd⟩
        have ek : (.int (0 + (k : Int)) : V) = VN k := by rw [Int.zero_add]
        rw [ek]
        have kp : k < p.length := by rw [nums_len] at hk7; omega
        have hn := List.getElem?_eq_getElem kp
        generalize p[k] = n at hn
        obtain ⟨kd, hk, lt⟩ := Paired.at1 hp hn
        have hr0 := List.getElem?_eq_getElem lt
        have er : routeOf kd n = kd.routes[n] := by unfold routeOf; rw [List.getD_eq_getElem?_getD, hr0]; rfl
        have hz := zipWith_at hk hn
        rw [er] at hz
        generalize kd.routes[n] = r at hr0 hz
        have hzz : (List.zip W.kinds (routesOf W p))[k]? = some (kd, r) := by rw [List.zip, List.getElem?_zipWith, hk, hz]
        have mr : r ∈ routesOf W p := List.mem_of_getElem? hz
        have okd := ok.kind kd (List.mem_of_getElem? hk)
        have okr := okd.route r (List.mem_of_getElem? hr0)
        obtain ⟨kv, hkv, ⟨c, vw, vb, vr, rfl, hc, _, _, ⟨ar, rs, rfl, har, hrs⟩⟩⟩ := Paired.at2 hks hk
        obtain ⟨rv, hrv, hR⟩ := Paired.at2 hrs hr0
        have hpn : (nums p)[k]? = some (VN n) := nums_at hn
        refine ⟨_, rfl, _, rfl, _, rfl, _, rfl, _, rfl, pa, _, k, _, rfl, rfl, SqT.of (x7.k.tup hpa), atI_nat hpn, _, x, k, n, W, kd, r, s0, rfl, hW.mono x7.k.ti, hS7, ok, ok0, hk, hr0, fun H8 k8 => ⟨_, rfl, ?_⟩⟩
        have x8 := x7.kp k8
        cases hg : goodR W kd s0 r with
        | false =>
          refine iteT (q false H8 x8.k ⟨(fun z => nomatch z), fun z => ?_⟩)
          have := z s0 re0 (kd, r) (List.mem_of_getElem? hzz)
          rw [show goodR W (kd, r).1 s0 (kd, r).2 = goodR W kd s0 r from rfl, hg] at this
          exact this
        | true =>
          refine iteF ⟨_, rfl, _, rfl, a, _, 2, _, rfl, rfl, SqT.of (x8.k.tup ha), rfl, _, rfl, ak, ks, k, _, rfl, rfl, SqT.of (x8.k.tup hak), atI_nat hkv, c, _, 2, _, rfl, rfl, SqT.of (x8.k.tup hc), rfl, _, rfl, _, rfl, pa, _, k, _, rfl, rfl, SqT.of (x8.k.tup hpa), atI_nat hpn, ar, rs, n, rv, rfl, rfl, SqT.of (x8.k.tup har), atI_nat hrv,
            x, rv, _, W.dyes, s0, r, rfl, StandV.mono k8.ti hS7, hR.mono x8.k.ti, ok0, ok.d4, ok.v4, okr.2.2, fun v H9 k9 hv => ?_⟩
          obtain ⟨t, x1, y1, rfl, ht, hx1, _⟩ := hv
          have x9 := x8.kp k9
          have k89 := k8.trans k9
          refine ⟨t, _, 0, _, rfl, rfl, SqT.of ht, rfl, _, rfl, _, rfl, _, _, StandV.dp hx1, stands_dp x9.l, standD_shaped _, stands_shaped _, _, rfl, ?_⟩
          rw [any_standD]
          have hP9 : Paired (StandV H9) gs ls := Paired.ti (fun v x hx => StandV.mono k89.ti hx) hP7
          by_cases mem : next s0 r ∈ fs ++ lo
          · refine itNT mem ⟨lo, _, _, rfl, x9, k89.lst hg7, hP9, StandV.mono k89.ti hS7, hdone, fun y hy => ?_⟩
            rw [take_snoc hzz, List.mem_append, List.mem_singleton] at hy
            rcases hy with q | q
            · exact hkd y q
            · rw [q]; exact ⟨hg, mem⟩
          · refine itNF mem ?_
            obtain ⟨us, hus, hPu⟩ := x9.l
            obtain ⟨gs2, hgs2, hPg2⟩ := x9.g
            have lus := Paired.length hPu
            have lg2 := Paired.length hPg2
            have lS := len_of_sub x9.nd fun s hs => hRS2 s (x9.re s hs)
            have lS2 : lo.length ≤ (fs ++ lo).length := by rw [List.length_append]; omega
            have hg1 : (upd H9 L (.lst (us ++ [x1]))) G2 = some (.lst gs2) := by rw [upd_ne (Ne.symm x9.ne)]; exact hgs2
            have xA := x9.add hx1 mem (.step re0 mr) hus hgs2
            have tA : Ti H9 (upd (upd H9 L (.lst (us ++ [x1]))) G2 (.lst (gs2 ++ [x1]))) := (Ti.putL hus).trans (Ti.putL hg1)
            have more : ∀ s, s ∈ fs ++ lo → s ∈ fs ++ (lo ++ [next s0 r]) := fun s hs => by rw [← List.append_assoc]; exact List.mem_append_left _ hs
            refine ⟨_, rfl, .inl ⟨rfl, us, SqL.of hus⟩, _, rfl, L, us, x1, rfl, rfl, hus, by rw [sizeLine_eq]; omega, _, rfl, .inl ⟨rfl, gs2, SqL.of hg1⟩, _, rfl, G2, gs2, x1, rfl, rfl, hg1, by rw [sizeLine_eq]; omega, ?_⟩
            refine ⟨lo ++ [next s0 r], _, _, rfl, xA, by rw [upd_ne GG2, upd_ne (Ne.symm nLG)]; exact k89.lst hg7, Paired.ti (fun v x hx => StandV.mono tA hx) hP9, StandV.mono (k89.ti.trans tA) hS7,
              fun s hs y hy => ⟨(hdone s hs y hy).1, more _ (hdone s hs y hy).2⟩, fun y hy => ?_⟩
            rw [take_snoc hzz, List.mem_append, List.mem_singleton] at hy
            rcases hy with q | q
            · exact ⟨(hkd y q).1, more _ (hkd y q).2⟩
            · rw [q]
              refine ⟨hg, ?_⟩
              rw [← List.append_assoc]
              exact List.mem_append_right _ (List.mem_singleton.mpr rfl)
      · rintro σ H7 ⟨lo, o6, o7, rfl, x7, hg7, hP7, hS7, hdone, hkd⟩
        have lz : (List.zip W.kinds (routesOf W p)).length = p.length := by rw [List.length_zip, lro, lp]; omega
        rw [List.take_of_length_le (by rw [lz, nums_len]; omega)] at hkd
        refine ⟨lo, some x, o6, o7, rfl, x7, hg7, hP7, fun s hs => ?_⟩
        rw [take_snoc hs0, List.mem_append, List.mem_singleton] at hs
        rcases hs with q | q
        · exact hdone s q
        · rw [q]; exact hkd
    · rintro σ H6 ⟨lo, o5, o6, o7, rfl, x6, hg6, hP6, hdone⟩
      rw [lgs, List.take_length] at hdone
      have e2 : (fs ++ lo).length = fs.length + lo.length := List.length_append
      have lS := len_of_sub x6.nd fun s hs => hRS2 s (x6.re s hs)
      refine ⟨_, rfl, 2 * (S.length - (fs ++ lo).length) + (if lo = [] then 0 else 1), ?_, fs ++ lo, lo, G2, _, _, _, _, rfl, x6.k, x6.l, x6.g, x6.nd, x6.re, List.mem_append_left _ h0, fun s hs => ?_, fun s hs => List.mem_append_right _ hs, x6.ne, by omega, rfl⟩
      · rw [if_neg e]
        by_cases el : lo = []
        · rw [if_pos el, el, List.append_nil]; omega
        · have := List.length_pos_iff.mpr el
          rw [if_neg el]; omega
      · rcases List.mem_append.mp hs with q | q
        · right
          intro y hy
          rcases hcl s q with z | z
          · exact hdone s z y hy
          · exact ⟨(z y hy).1, List.mem_append_left _ (z y hy).2⟩
        · exact .inl q
end Dw
end

section
set_option Elab.async false
set_option linter.all false
set_option maxRecDepth 100000
set_option maxHeartbeats 1000000
namespace Dw
open PySem PySem.Spec PyProof.Rows L2
variable {P : Program} {w : World} {K : PySem.W.Frag} {mg : Str → Option Value} {base : Heap}
def ansB (W : Works) (n : Nat) (kd : Kind) (s : Stand) (r : Route) : Bool := !(goodR W kd s r) || lostB W n (next s r)
theorem stepB_iff {W : Works} {n : Nat} {s : Stand} : stepB W n s = true ↔ ∃ kd ∈ W.kinds, ∀ r ∈ kd.routes, ansB W n kd s r = true := by
  unfold stepB
  rw [List.any_eq_true]
  exact ⟨fun ⟨kd, h1, h2⟩ => ⟨kd, h1, List.all_eq_true.mp h2⟩, fun ⟨kd, h1, h2⟩ => ⟨kd, h1, List.all_eq_true.mpr h2⟩⟩
def spLawWithin (P : Program) (w : World) : Sp := fun vs H Q _ => ∃ (v : V) (sa : Addr) (W : Works) (S : List Stand), vs = [v, .ref sa] ∧ WorksV H v W ∧ LstV StandV H sa S ∧ OkWorks W ∧ S.length ≤ 1000 ∧ (∀ s ∈ S, Reach (allRoutes W) W.vats s) ∧ (∀ s ∈ S, ∀ kd ∈ W.kinds, ∀ r ∈ kd.routes, next s r ∈ S) ∧
  ∀ d H', Kp H H' → RankT P w W S H' d (S.length + 1) → Q (.ref d) H'
theorem ok_lawWithin (T : Tx P w K mg base) : Good P w K mg base "_law_within" 3 ["_law_works_here", "_law_stands_here"] (spLawWithin P w) := by
  refine good_mk (k := 2) (N := ["_law_works_here", "_law_stands_here", "_law_found", "_law_orders", "_law_fresh", "_law_stand", "_law_kind", "_law_left", "_law_number", "_law_later"]) T dLawWithin (by simp [fn]) T.gLawWithin rfl rfl rfl ⟨rfl, rfl, rfl, by decide +kernel, rfl, by decide +kernel, by decide +kernel⟩ (fun vs H Q E ⟨v, sa, W, S, e, _⟩ => by rw [e]; rfl) (fun _ _ _ _ _ _ us hl => match us, hl with | [_, _], _ => rfl) ?_
  intro A outer s H vs Q E hr h
  obtain ⟨v, sa, W, S, rfl, hW, ⟨us, hsa, hus⟩, ok, l1000, hRe, hS, q⟩ := h
  obtain ⟨a, vv, vk, rfl, ha, ⟨av, vvs, rfl, hav, hvs⟩, ⟨ak, ks, rfl, hak, hks⟩⟩ := id hW
  have lks := Paired.length hks
  have lus := Paired.length hus
  have k3 := ok.k3
  refine ⟨_, (pss_cons
    (ps_set (i := 2) (by decide +kernel : (["_law_works_here", "_law_stands_here", "_law_found", "_law_orders", "_law_fresh", "_law_stand", "_law_kind", "_law_left", "_law_number", "_law_later"] : List Str).Nodup) rfl (Or.inl rfl) (pe_nnewK P w rfl rfl)) (pss_cons
    (ps_for PassesOwn.never rfl (pi_range2 (by rfl) T.fRange (pa_cons pe_int (pa_cons (pe_op op_add (pe_callB (call_lenK K rfl) (by rfl) T.fLen PySem.boot_len (pa_cons (pv 1) pa_nil)) pe_int) pa_nil))) (pg_name (i := 3) (by decide +kernel : (["_law_works_here", "_law_stands_here", "_law_found", "_law_orders", "_law_fresh", "_law_stand", "_law_kind", "_law_left", "_law_number", "_law_later"] : List Str).Nodup) rfl (Or.inl rfl)) (pss_cons
    (ps_set (i := 4) (by decide +kernel : (["_law_works_here", "_law_stands_here", "_law_found", "_law_orders", "_law_fresh", "_law_stand", "_law_kind", "_law_left", "_law_number", "_law_later"] : List Str).Nodup) rfl (Or.inl rfl) (pe_lst pa_nil)) (pss_cons
    (ps_for PassesOwn.never rfl (pi_listK K rfl (pv 1)) (pg_name (i := 5) (by decide +kernel : (["_law_works_here", "_law_stands_here", "_law_found", "_law_orders", "_law_fresh", "_law_stand", "_law_kind", "_law_left", "_law_number", "_law_later"] : List Str).Nodup) rfl (Or.inl rfl)) (pss_one
    (ps_for PassesOwn.never rfl (pi_range1 (by rfl) T.fRange (pa_cons (pe_callB (call_lenK K rfl) (by rfl) T.fLen PySem.boot_len (pa_cons (pe_ix (ix_tupK K rfl) (pv 0) pe_int (fun _ _ => rfl)) pa_nil)) pa_nil)) (pg_name (i := 6) (by decide +kernel : (["_law_works_here", "_law_stands_here", "_law_found", "_law_orders", "_law_fresh", "_law_stand", "_law_kind", "_law_left", "_law_number", "_law_later"] : List Str).Nodup) rfl (Or.inl rfl)) (pss_cons
    (ps_set (i := 7) (by decide +kernel : (["_law_works_here", "_law_stands_here", "_law_found", "_law_orders", "_law_fresh", "_law_stand", "_law_kind", "_law_left", "_law_number", "_law_later"] : List Str).Nodup) rfl (Or.inl rfl) pe_int) (pss_cons
    (ps_for PassesOwn.never rfl (pi_range1 (by rfl) T.fRange (pa_cons (pe_callB (call_lenK K rfl) (by rfl) T.fLen PySem.boot_len (pa_cons (pe_ix (ix_tupK K rfl) (pe_ix (ix_tupK K rfl) (pe_ix (ix_tupK K rfl) (pv 0) pe_int (fun _ _ => rfl)) (pv 6) (fun _ _ => rfl)) pe_int (fun _ _ => rfl)) pa_nil)) pa_nil)) (pg_name (i := 8) (by decide +kernel : (["_law_works_here", "_law_stands_here", "_law_found", "_law_orders", "_law_fresh", "_law_stand", "_law_kind", "_law_left", "_law_number", "_law_later"] : List Str).Nodup) rfl (Or.inl rfl)) (pss_one
    (ps_if (pt_val (pe_callG (ok_lawGood T) hr (by decide) (by rfl) (pa_cons (pv 0) (pa_cons (pv 5) (pa_cons (pv 6) (pa_cons (pv 8) pa_nil)))))) (pss_cons
    (ps_set (i := 9) (by decide +kernel : (["_law_works_here", "_law_stands_here", "_law_found", "_law_orders", "_law_fresh", "_law_stand", "_law_kind", "_law_left", "_law_number", "_law_later"] : List Str).Nodup) rfl (Or.inl rfl) (pe_ix (ix_tupK K rfl) (pe_callG (ok_lawPass T) hr (by decide) (by rfl) (pa_cons (pv 5) (pa_cons (pe_ix (ix_tupK K rfl) (pe_ix (ix_tupK K rfl) (pe_ix (ix_tupK K rfl) (pe_ix (ix_tupK K rfl) (pv 0) pe_int (fun _ _ => rfl)) (pv 6) (fun _ _ => rfl)) pe_int (fun _ _ => rfl)) (pv 8) (fun _ _ => rfl)) pa_nil))) pe_int (fun _ _ => rfl))) (pss_one
    (ps_set (i := 7) (by decide +kernel : (["_law_works_here", "_law_stands_here", "_law_found", "_law_orders", "_law_fresh", "_law_stand", "_law_kind", "_law_left", "_law_number", "_law_later"] : List Str).Nodup) rfl (Or.inl rfl) (pe_op op_add (pv 7) (pe_callTy call_int1 (by rfl) T.fInt (by decide +kernel) (pa_cons (pe_cmp (pc_nnotK P w rfl rfl (hu10 hr) (pv 9) (pv 2)) (by rfl)) pa_nil)))))) pss_nil))) (pss_one
    (ps_if (PW.pt (pw_and (pt_cmpR op_eq (pv 7) pe_int (nomark _)) (pw_and1 (pt_cmp (pc_nnotK P w rfl rfl (hu10 hr) (pv 5) (pv 2)) (by rfl))))) (pss_one
    (ps_expr (pe_bmK K rfl PySem.F.plainAttrs_list PySem.F.slot_list_append PySem.F.type_list_append mt_append (pv 4) (pa_cons (pv 5) pa_nil)))) pss_nil))))))) (pss_one
    (ps_for PassesOwn.never rfl (pi_listK K rfl (pv 4)) (pg_name (i := 5) (by decide +kernel : (["_law_works_here", "_law_stands_here", "_law_found", "_law_orders", "_law_fresh", "_law_stand", "_law_kind", "_law_left", "_law_number", "_law_later"] : List Str).Nodup) rfl (Or.inl rfl)) (pss_one
    (ps_nputK P w rfl rfl (hu10 hr) (pv 2) (pv 5) (pv 3) (by rfl)))))))) (pss_one
    (ps_ret (pv 2))))), ?_⟩
  refine fun d hd hdv => ?_
  have kd0 : Kp H (upd H d (DictO P w d [])) := Kp.new (.refl _) hd
  refine ⟨_, rfl, sa, us, rfl, .inl (SqL.of (kd0.lst hsa)), _, _, rfl, rfl, _, _, rfl, ⟨by omega, by omega, by omega, by omega⟩, ?_⟩
  refine for_range (fun n σ H' => ∃ o3 o4 o5 o6 o7 o8 o9, σ = [some (.ref a), some (.ref sa), some (.ref d), o3, o4, o5, o6, o7, o8, o9] ∧ Kp H H' ∧ RankT P w W S H' d n) ?_ ?_ ?_
  · exact ⟨none, none, none, none, none, none, none, rfl, kd0, ⟨[], hdv, ⟨by simp, fun s hs => (by cases hs)⟩, fun s _ => rfl⟩⟩
  · rintro n σ H1 hn ⟨o3, o4, o5, o6, o7, o8, o9, rfl, kk, rk⟩
    have en : (.int (1 + (n : Int)) : V) = VN (1 + n) := rfl
    obtain ⟨kvs, hdv1, hkeys, hval⟩ := rk.ex
    refine ⟨Nat.zero_le _, fun L hL => ?_⟩
    have kL : Kp H1 (upd H1 L (.lst [])) := Kp.new (.refl _) hL
    refine ⟨_, rfl, sa, rfl, ⟨_, SqL.of ((kk.trans kL).lst hsa)⟩, for_list (K := K) (a := sa) (xs := us) (fun i σ H' => ∃ fr F o5 o6 o7 o8 o9, σ = [some (.ref a), some (.ref sa), some (.ref d), some (VN (1 + n)), some (.ref L), o5, o6, o7, o8, o9] ∧ Kp H1 H' ∧ H' L = some (.lst fr) ∧ Paired (StandV H') fr F ∧ F.length ≤ 3 * i ∧ ∀ t, t ∈ F ↔ t ∈ S.take i ∧ freshB W n t = true) ?_ ?_ ?_ ?_⟩
    · exact ⟨[], [], o5, o6, o7, o8, o9, rfl, kL, upd_same, .nil, Nat.zero_le _, fun t => by simp⟩
    · rintro i σ H' _ ⟨fr, F, _, _, _, _, _, _, k, _⟩
      exact SqL.of ((kk.trans k).lst hsa)
    · rintro i x σ H2 hx ⟨fr, F, o5, o6, o7, o8, o9, rfl, k, hfr, hPf, hFl, hF⟩
      obtain ⟨s, hs, hSt0⟩ := Paired.at1 hus hx
      obtain ⟨sb, sbs, rfl, hsb, hsbs⟩ := id hSt0
      have mS := List.mem_of_getElem? hs
      have oks := (hRe s mS).ok ok.stand
      have il := (List.getElem?_eq_some_iff.mp hs).1
      have k2 := kk.trans k
      refine ⟨_, rfl, a, _, 2, _, rfl, rfl, SqT.of (k2.tup ha), rfl, ak, ks, rfl, .inr (SqT.of (k2.tup hak)), _, rfl, by omega, by omega, ?_⟩
      refine for_range (lo := 0) (fun m σ H' => ∃ fr F o6 o7 o8 o9, σ = [some (.ref a), some (.ref sa), some (.ref d), some (VN (1 + n)), some (.ref L), some (.ref sb), o6, o7, o8, o9] ∧ Kp H1 H' ∧ H' L = some (.lst fr) ∧ Paired (StandV H') fr F ∧ F.length ≤ 3 * i + m ∧ ∀ t, t ∈ F ↔ (t ∈ S.take i ∧ freshB W n t = true) ∨ (t = s ∧ lostB W n s = false ∧ ∃ kd ∈ W.kinds.take m, ∀ r ∈ kd.routes, ansB W n kd s r = true)) ?_ ?_ ?_
      · exact ⟨fr, F, o6, o7, o8, o9, rfl, k, hfr, hPf, hFl, fun t => by rw [hF t, List.take_zero]; simp⟩
      · rintro m σ H3 hm ⟨fr, F, o6, o7, o8, o9, rfl, k, hfr, hPf, hFl, hF⟩
        have em : (.int (0 + (m : Int)) : V) = VN m := by rw [Int.zero_add]
        rw [em]
        have mk : m < W.kinds.length := by omega
        have hkd := List.getElem?_eq_getElem mk
        generalize W.kinds[m] = kd at hkd
        obtain ⟨kv, hkv, ⟨c, vw, vb, vr, rfl, hc, _, _, ⟨ar, rs, rfl, har, hrs⟩⟩⟩ := Paired.at2 hks hkd
        have lrs := Paired.length hrs
        have okd := ok.kind kd (List.mem_of_getElem? hkd)
        have r4 := okd.r4
        have k3 := kk.trans k
        refine ⟨_, rfl, a, _, 2, _, rfl, rfl, SqT.of (k3.tup ha), rfl, _, rfl, ak, ks, m, _, rfl, rfl, SqT.of (k3.tup hak), atI_nat hkv, c, _, 2, _, rfl, rfl, SqT.of (k3.tup hc), rfl, ar, rs, rfl, .inr (SqT.of (k3.tup har)), _, rfl, by omega, by omega, ?_⟩
        refine for_range (lo := 0) (fun j σ H' => ∃ (l : Nat) (o8 o9 : Option V), σ = [some (.ref a), some (.ref sa), some (.ref d), some (VN (1 + n)), some (.ref L), some (.ref sb), some (VN m), some (VN l), o8, o9] ∧ Kp H3 H' ∧ (l = 0 ↔ ∀ r ∈ kd.routes.take j, ansB W n kd s r = true)) ?_ ?_ ?_
        · exact ⟨0, o8, o9, rfl, .refl _, by rw [List.take_zero]; simp⟩
        · rintro j σ H4 hj ⟨l, o8, o9, rfl, k4, hl⟩
          have ej : (.int (0 + (j : Int)) : V) = VN j := by rw [Int.zero_add]
          rw [ej]
          have jk : j < kd.routes.length := by omega
          have hr1 := List.getElem?_eq_getElem jk
          generalize kd.routes[j] = r at hr1
          obtain ⟨rv, hrv, hR⟩ := Paired.at2 hrs hr1
          have okr := okd.route r (List.mem_of_getElem? hr1)
          have k14 := k.trans k4
          have kA := kk.trans k14
          have hSt4 := StandV.mono kA.ti hSt0
          refine ⟨_, rfl, _, rfl, _, rfl, _, rfl, _, .ref sb, m, j, W, kd, r, s, rfl, hW.mono kA.ti, hSt4, ok, oks, hkd, hr1, fun H5 k5 => ⟨_, rfl, ?_⟩⟩
          have kB := kA.trans k5
          cases hg : goodR W kd s r with
          | false =>
            refine iteF ⟨l, _, _, rfl, k4.trans k5, ?_⟩
            rw [hl, take_snoc hr1]
            have : ansB W n kd s r = true := by unfold ansB; rw [hg]; rfl
            constructor
            · intro h r' hr'
              rcases List.mem_append.mp hr' with z | z
              · exact h r' z
              · rw [List.mem_singleton.mp z]; exact this
            · intro h r' hr'
              exact h r' (List.mem_append_left _ hr')
          | true =>
            refine iteT ⟨_, rfl, _, rfl, a, _, 2, _, rfl, rfl, SqT.of (kB.tup ha), rfl, _, rfl, ak, ks, m, _, rfl, rfl, SqT.of (kB.tup hak), atI_nat hkv, c, _, 2, _, rfl, rfl, SqT.of (kB.tup hc), rfl, _, rfl, ar, rs, j, rv, rfl, rfl, SqT.of (kB.tup har), atI_nat hrv,
              .ref sb, rv, _, W.dyes, s, r, rfl, StandV.mono kB.ti hSt0, hR.mono kB.ti, oks, ok.d4, ok.v4, okr.2.2, fun v H6 k6 hv => ?_⟩
            obtain ⟨t, x1, y1, rfl, ht, ⟨lb, lvs, rfl, hlb, hlvs⟩, _⟩ := hv
            have hx1 : StandV H6 (.ref lb) (next s r) := ⟨lb, lvs, rfl, hlb, hlvs⟩
            have mN := hS s mS kd (List.mem_of_getElem? hkd) r (List.mem_of_getElem? hr1)
            have ev : (valV kvs (next s r)).isSome = lostB W n (next s r) := by rw [hval _ mN, Option.isSome_map, rank_isSome]
            refine ⟨t, _, 0, _, rfl, rfl, SqT.of ht, rfl, _, rfl, _, rfl, _, rfl, d, lb, kvs, next s r, rfl, rfl, hdv1.kp (k14.trans (k5.trans k6)), hx1, .inr ⟨_, rfl, _, _, rfl, rfl, ?_⟩⟩
            rw [ev]
            have ea : ansB W n kd s r = lostB W n (next s r) := by unfold ansB; rw [hg]; rfl
            cases hlo : lostB W n (next s r) with
            | true =>
              refine ⟨l, _, _, rfl, k4.trans (k5.trans k6), ?_⟩
              rw [hl, take_snoc hr1]
              constructor
              · intro h r' hr'
                rcases List.mem_append.mp hr' with z | z
                · exact h r' z
                · rw [List.mem_singleton.mp z, ea, hlo]
              · intro h r' hr'
                exact h r' (List.mem_append_left _ hr')
            | false =>
              refine ⟨l + 1, _, _, rfl, k4.trans (k5.trans k6), ⟨fun z => by omega, fun h => ?_⟩⟩
              have := h r (by rw [take_snoc hr1]; exact List.mem_append_right _ (List.mem_singleton.mpr rfl))
              rw [ea, hlo] at this
              cases this
        · rintro σ H4 ⟨l, o8, o9, rfl, k4, hl⟩
          rw [show Int.toNat ((rs.length : Nat) : Int) = kd.routes.length by rw [lrs]; rfl, List.take_length] at hl
          have k14 := k.trans k4
          have hfr4 := k4.lst hfr
          have hP4 : Paired (StandV H4) fr F := Paired.ti (fun v x hx => StandV.mono k4.ti hx) hPf
          have evs : (valV kvs s).isSome = lostB W n s := by rw [hval s mS, Option.isSome_map, rank_isSome]
          -- nothing is laid
          have skip : ∀ H5, Kp H4 H5 → (lostB W n s = true ∨ ¬ ∀ r ∈ kd.routes, ansB W n kd s r = true) → ∃ fr F o6 o7 o8' o9', [some (.ref a), some (.ref sa), some (.ref d), some (VN (1 + n)), some (.ref L), some (.ref sb), some (VN m), some (VN l), o8, o9] = [some (.ref a), some (.ref sa), some (.ref d), some (VN (1 + n)), some (.ref L), some (.ref sb), o6, o7, o8', o9'] ∧ Kp H1 H5 ∧ H5 L = some (.lst fr) ∧ Paired (StandV H5) fr F ∧ F.length ≤ 3 * i + (m + 1) ∧
              ∀ t, t ∈ F ↔ (t ∈ S.take i ∧ freshB W n t = true) ∨ (t = s ∧ lostB W n s = false ∧ ∃ kd ∈ W.kinds.take (m + 1), ∀ r ∈ kd.routes, ansB W n kd s r = true) := fun H5 k5 hno => by
            refine ⟨fr, F, _, _, _, _, rfl, k14.trans k5, k5.lst hfr4, Paired.ti (fun v x hx => StandV.mono k5.ti hx) hP4, by omega, fun t => ?_⟩
            rw [hF t, take_snoc hkd]
            refine or_congr Iff.rfl (and_congr Iff.rfl ⟨fun ⟨h1, kd', h2, h3⟩ => ⟨h1, kd', List.mem_append_left _ h2, h3⟩, fun ⟨h1, kd', h2, h3⟩ => ⟨h1, ?_⟩⟩)
            rcases List.mem_append.mp h2 with z | z
            · exact ⟨kd', z, h3⟩
            · rw [List.mem_singleton.mp z] at h3
              rcases hno with y | y
              · rw [h1] at y; cases y
              · exact absurd h3 y
          refine ⟨_, rfl, rfl, _, rfl, ?_⟩
          refine ite2 (fun e0 => ?_) fun e0 => ?_
          · have l0 : l = 0 := by
              have := V.int.inj (of_decide_eq_true e0)
              omega
            have all := hl.mp l0
            refine ⟨_, rfl, _, rfl, d, sb, kvs, s, rfl, rfl, hdv1.kp k14, StandV.mono (kk.trans k14).ti hSt0, _, rfl, ?_⟩
            rw [evs]
            refine ite2 (fun hb => ?_) fun hb => skip H4 (.refl _) (.inl (by simpa using hb))
            · have hls : lostB W n s = false := by simpa using hb
              have lfr := Paired.length hPf
              have t1 : Ti H4 (upd H4 L (.lst (fr ++ [.ref sb]))) := Ti.putL hfr4
              refine ⟨_, rfl, .inl ⟨rfl, _, SqL.of hfr4⟩, _, rfl, L, fr, .ref sb, rfl, rfl, hfr4, by rw [sizeLine_eq]; omega, ?_⟩
              refine ⟨fr ++ [.ref sb], F ++ [s], _, _, _, _, rfl, k14.putL hL hfr4, upd_same, Paired.snoc (Paired.ti (fun v x hx => StandV.mono t1 hx) hP4) (StandV.mono ((kk.trans k14).ti.trans t1) hSt0), by rw [List.length_append, List.length_singleton]; omega, fun t => ?_⟩
              rw [List.mem_append, List.mem_singleton, hF t, take_snoc hkd]
              constructor
              · rintro ((h | ⟨h1, h2, kd', h3, h4⟩) | h)
                · exact .inl h
                · exact .inr ⟨h1, hls, kd', List.mem_append_left _ h3, h4⟩
                · exact .inr ⟨h, hls, kd, List.mem_append_right _ (List.mem_singleton.mpr rfl), all⟩
              · rintro (h | ⟨h1, _⟩)
                · exact .inl (.inl h)
                · exact .inr h1
          · refine iteF (skip H4 (.refl _) (.inr fun z => e0 ?_))
            have : l = 0 := hl.mpr z
            rw [this]
            rfl
      · rintro σ H3 ⟨fr, F, o6, o7, o8, o9, rfl, k, hfr, hPf, hFl, hF⟩
        rw [show Int.toNat ((ks.length : Nat) : Int) = W.kinds.length by rw [lks]; rfl] at hF hFl
        rw [List.take_length] at hF
        refine ⟨fr, F, _, _, _, _, _, rfl, k, hfr, hPf, by omega, fun t => ?_⟩
        rw [hF t, take_snoc hs, List.mem_append, List.mem_singleton]
        have es : freshB W n s = true ↔ lostB W n s = false ∧ ∃ kd ∈ W.kinds, ∀ r ∈ kd.routes, ansB W n kd s r = true := by
          unfold freshB
          rw [Bool.and_eq_true, Bool.not_eq_true', stepB_iff]
        constructor
        · rintro (⟨h1, h2⟩ | ⟨h1, h2⟩)
          · exact ⟨.inl h1, h2⟩
          · rw [h1]; exact ⟨.inr rfl, es.mpr h2⟩
        · rintro ⟨h1 | h1, h2⟩
          · exact .inl ⟨h1, h2⟩
          · rw [h1] at h2; exact .inr ⟨h1, es.mp h2⟩
    · rintro σ H2 ⟨fr, F, o5, o6, o7, o8, o9, rfl, k, hfr, hPf, hFl, hF⟩
      rw [lus, List.take_length] at hF
      have lfr := Paired.length hPf
      have hdv2 := hdv1.kp k
      have dL : d ≠ L := hdv2.ne_lst hfr
      refine ⟨_, rfl, L, rfl, ⟨_, SqL.of hfr⟩, for_list (K := K) (a := L) (xs := fr) (fun i σ H' => ∃ o5 kvs', σ = [some (.ref a), some (.ref sa), some (.ref d), some (VN (1 + n)), some (.ref L), o5, o6, o7, o8, o9] ∧ Kp H H' ∧ DictV P w H' d kvs' ∧ KeysIn S kvs' ∧ (∀ s ∈ S, valV kvs' s = if s ∈ F.take i then some (VN (1 + n)) else valV kvs s) ∧ H' L = some (.lst fr) ∧ Paired (StandV H') fr F) ?_ ?_ ?_ ?_⟩
      · exact ⟨o5, kvs, rfl, kk.trans k, hdv2, hkeys, fun s _ => by rw [List.take_zero, if_neg (by simp)], hfr, hPf⟩
      · rintro i σ H' _ ⟨o5, kvs', _, _, _, _, _, h, _⟩
        exact SqL.of h
      · rintro i x σ H3 hx ⟨o5, kvs', rfl, k3, hdv3, hk3, hv3, hfr3, hP3⟩
        obtain ⟨s, hs, hSt⟩ := Paired.at1 hP3 hx
        obtain ⟨sb, sbs, rfl, hsb, hsbs⟩ := id hSt
        have mS := ((hF s).mp (List.mem_of_getElem? hs)).1
        have lk3 := hk3.len
        refine ⟨_, rfl, _, rfl, _, rfl, d, sb, kvs', s, rfl, rfl, hdv3, hSt, by omega, fun o kput tput hdv4 => ?_⟩
        refine ⟨some (.ref sb), putK kvs' s (VN (1 + n)), rfl, kput H k3 hd, hdv4, hk3.put mS, fun j hj => ?_, by rw [upd_ne (Ne.symm dL)]; exact hfr3, Paired.ti (fun v x hx => StandV.mono tput hx) hP3⟩
        rw [valV_put, take_snoc hs, hv3 j hj]
        by_cases e : j = s
        · rw [if_pos e, if_pos (List.mem_append_right _ (List.mem_singleton.mpr e))]
        · rw [if_neg e]
          by_cases z : j ∈ F.take i
          · rw [if_pos z, if_pos (List.mem_append_left _ z)]
          · rw [if_neg z, if_neg (fun y => (List.mem_append.mp y).elim z fun y => e (List.mem_singleton.mp y))]
      · rintro σ H3 ⟨o5, kvs', rfl, k3, hdv3, hk3, hv3, hfr3, hP3⟩
        rw [lfr, List.take_length] at hv3
        refine ⟨_, _, _, _, _, _, _, rfl, k3, ⟨kvs', hdv3, hk3, fun s hs => ?_⟩⟩
        rw [hv3 s hs, hval s hs]
        unfold rkV
        rw [rank_next]
        by_cases e : freshB W n s = true
        · rw [if_pos ((hF s).mpr ⟨hs, e⟩), if_pos e, Nat.add_comm]; rfl
        · rw [if_neg (fun z => e ((hF s).mp z).2), if_neg e]
  · rintro σ H1 ⟨o3, o4, o5, o6, o7, o8, o9, rfl, kk, rk⟩
    have e : Int.toNat ((us.length : Nat) + 2 - 1 : Int) = S.length + 1 := by omega
    refine ⟨_, rfl, q d H1 kk ?_⟩
    rw [← e]
    exact rk
end Dw
end

section
set_option Elab.async false
set_option linter.all false
set_option maxRecDepth 100000
set_option maxHeartbeats 1000000
namespace Dw
open PySem PySem.Spec PyProof.Rows L2
variable {P : Program} {w : World} {K : PySem.W.Frag} {mg : Str → Option Value} {base : Heap}
theorem ix_seqK {X : Cx} (K : PySem.W.Frag) (h : X.K = K) : IxR X (rIx K) := by subst h; exact ix_seq
/-- isinstance(x, (tuple, list)) -/
def rIsBT (K : PySem.W.Frag) : List V → Hp → VK → Prop := fun xs H Q => ∃ x tp t b1 b2, xs = [x, .ref tp] ∧ H tp = some (.tup [.ty "tuple", .ty "list"]) ∧ TyX K H x (.type t) ∧ kitB t "tuple" = some b1 ∧ kitB t "list" = some b2 ∧ Q (.bl (b1 || b2)) H
theorem call_isBT {X : Cx} (K : PySem.W.Frag) (hK : X.K = K) : CallR X (.builtin "isinstance") (rIsBT K) := by
  subst hK
  intro pins s σ H xs us Q I r h
  obtain ⟨x, tp, t, b1, b2, rfl, ht, ty, k1, k2, q⟩ := h
  refine call_isiT pins s σ H _ us Q I r ⟨x, tp, _, _, [.type "tuple", .type "list"], b1 || b2, rfl, ht, .cons (.ty _) (.cons (.ty _) .nil), ty, ?_, q⟩
  exact kitAny_cons (kit_ty k1) (fun e => by rw [e, Bool.false_or]; exact kitAny_cons (kit_ty k2) (fun e => by rw [e]; exact kitAny_nil) fun e => e) fun e => by rw [e]; rfl
/-- alike scalars -/
inductive Al0 : V → Prop where
  | non : Al0 .non
  | int (i : Int) : Al0 (.int i)
  | bl (b : Bool) : Al0 (.bl b)
/-- alike, n deep -/
inductive Al (H : Hp) : Nat → V → V → Prop where
  | sc {n : Nat} {x : V} (h : Al0 x) : Al H n x x
  | tup {n : Nat} {a b : Addr} {xs ys : List V} (ha : H a = some (.tup xs)) (hb : H b = some (.tup ys)) (hl : xs.length = ys.length) (hz : xs.length ≤ 100000) (h : ∀ (i : Nat) (x y : V), xs[i]? = some x → ys[i]? = some y → Al H n x y) : Al H (n + 1) (.ref a) (.ref b)
  | lst {n : Nat} {a b : Addr} {xs ys : List V} (ha : H a = some (.lst xs)) (hb : H b = some (.lst ys)) (hl : xs.length = ys.length) (hz : xs.length ≤ 100000) (h : ∀ (i : Nat) (x y : V), xs[i]? = some x → ys[i]? = some y → Al H n x y) : Al H (n + 1) (.ref a) (.ref b)
theorem Al.kp {H H' : Hp} (k : Kp H H') {n : Nat} {x y : V} (h : Al H n x y) : Al H' n x y := by
  induction h with
  | sc h => exact .sc h
  | tup ha hb hl hz _ ih => exact .tup (k.tup ha) (k.tup hb) hl hz ih
  | lst ha hb hl hz _ ih => exact .lst (k.lst ha) (k.lst hb) hl hz ih
def spAlike (n : Nat) : Sp := fun vs H Q _ => ∃ x y, vs = [x, y] ∧ Al H n x y ∧ ∀ H', Kp H H' → Q (.bl true) H'
theorem alike0 (T : Tx P w K mg base) : Good P w K mg base "_law_alike" 1 ["_law_found", "_law_due"] (spAlike 0) := by
  refine good_mk (k := 0) (N := ["_law_found", "_law_due", "_law_k"]) T dLawAlike (by simp [fn]) T.gLawAlike rfl rfl rfl ⟨rfl, rfl, rfl, by decide +kernel, rfl, by decide +kernel, by decide +kernel⟩ (fun vs H Q E ⟨x, y, e, _⟩ => by rw [e]; rfl) (fun _ _ _ _ _ _ us hl => match us, hl with | [_, _], _ => rfl) ?_
  intro A outer s H vs Q E hr h
  obtain ⟨x, y, rfl, hal, q⟩ := h
  refine ⟨_, (pss_cons
    (ps_if (pt_val (pe_callB (call_isBT K rfl) (by rfl) T.fIsinstance (by decide +kernel) (pa_cons (pv 1) (pa_cons (pe_tup (pa_cons (pe_ty (T := "tuple") (by rfl) T.fTuple (by decide +kernel)) (pa_cons (pe_ty (T := "list") (by rfl) T.fList (by decide +kernel)) pa_nil))) pa_nil)))) pss_never pss_nil) (pss_cons
    (ps_if (PW.pt (pw_or (pt_cmpR op_isN (pv 1) pe_non (nomark _)) (pw_or1 (pt_val (pe_callB (call_isB K rfl) (by rfl) T.fIsinstance (by decide +kernel) (pa_cons (pv 1) (pa_cons (pe_ty (T := "str") (by rfl) T.fStr (by decide +kernel)) pa_nil))))))) (pss_one
    (ps_ret (pe_and (pe_cmpR op_eq (pv 0) (pv 1) (nomark _)) (pe_one (pe_cmpR op_eq (pe_callB (call_isB K rfl) (by rfl) T.fIsinstance (by decide +kernel) (pa_cons (pv 0) (pa_cons (pe_ty (T := "str") (by rfl) T.fStr (by decide +kernel)) pa_nil))) (pe_callB (call_isB K rfl) (by rfl) T.fIsinstance (by decide +kernel) (pa_cons (pv 1) (pa_cons (pe_ty (T := "str") (by rfl) T.fStr (by decide +kernel)) pa_nil))) (nomark _)))))) pss_nil) (pss_one
    (ps_ret (pe_and (pe_callB (call_isB K rfl) (by rfl) T.fIsinstance (by decide +kernel) (pa_cons (pv 0) (pa_cons (pe_ty (T := "int") (by rfl) T.fInt (by decide +kernel)) pa_nil))) (pe_and (pe_cmpR op_eq (pe_callB (call_isB K rfl) (by rfl) T.fIsinstance (by decide +kernel) (pa_cons (pv 0) (pa_cons (pe_ty (T := "bool") (by rfl) T.fBool (by decide +kernel)) pa_nil))) (pe_callB (call_isB K rfl) (by rfl) T.fIsinstance (by decide +kernel) (pa_cons (pv 1) (pa_cons (pe_ty (T := "bool") (by rfl) T.fBool (by decide +kernel)) pa_nil))) (nomark _)) (pe_one (pe_cmpR op_eq (pv 0) (pv 1) (nomark _))))))))), ?_⟩
  cases hal with
  | sc hx =>
    have kt : ∀ tp : Addr, H tp = none → Kp H (upd H tp (.tup [.ty "tuple", .ty "list"])) := fun tp h => Kp.new (.refl _) h
    cases hx with
    | non =>
      refine ⟨_, rfl, (by show 2 ≤ sizeLine; decide), fun tp htp => ⟨_, tp, "NoneType", false, false, rfl, upd_same, .base .non, by decide +kernel, by decide +kernel, _, rfl, iteF ?_⟩⟩
      refine ⟨_, rfl, rfl, _, rfl, itT rfl (iteT ⟨_, rfl, _, rfl, rfl, _, rfl, itT rfl ⟨_, rfl, _, "NoneType", "str", false, rfl, .base .non, by decide +kernel, _, rfl, _, "NoneType", "str", false, rfl, .base .non, by decide +kernel, rfl, ?_⟩⟩)⟩
      show Q (.bl (decide ((.bl false : V) = .bl false))) _
      rw [decide_eq_true rfl]
      exact q _ (kt tp htp)
    | int i =>
      refine ⟨_, rfl, (by show 2 ≤ sizeLine; decide), fun tp htp => ⟨_, tp, "int", false, false, rfl, upd_same, .base (.int i), by decide +kernel, by decide +kernel, _, rfl, iteF ?_⟩⟩
      refine ⟨_, rfl, rfl, _, rfl, itF (by intro z; cases z) ⟨_, rfl, _, "int", "str", false, rfl, .base (.int i), by decide +kernel, _, rfl, iteF ?_⟩⟩
      refine ⟨_, rfl, _, "int", "int", true, rfl, .base (.int i), by decide +kernel, _, rfl, iteT ⟨_, rfl, _, "int", "bool", false, rfl, .base (.int i), by decide +kernel, _, rfl, _, "int", "bool", false, rfl, .base (.int i), by decide +kernel, rfl, _, rfl, itT rfl ⟨_, rfl, _, rfl, rfl, ?_⟩⟩⟩
      show Q (.bl (decide ((.int i : V) = .int i))) _
      rw [decide_eq_true rfl]
      exact q _ (kt tp htp)
    | bl b =>
      refine ⟨_, rfl, (by show 2 ≤ sizeLine; decide), fun tp htp => ⟨_, tp, "bool", false, false, rfl, upd_same, .base (.bl b), by decide +kernel, by decide +kernel, _, rfl, iteF ?_⟩⟩
      refine ⟨_, rfl, rfl, _, rfl, itF (by intro z; cases z) ⟨_, rfl, _, "bool", "str", false, rfl, .base (.bl b), by decide +kernel, _, rfl, iteF ?_⟩⟩
      refine ⟨_, rfl, _, "bool", "int", true, rfl, .base (.bl b), by decide +kernel, _, rfl, iteT ⟨_, rfl, _, "bool", "bool", true, rfl, .base (.bl b), by decide +kernel, _, rfl, _, "bool", "bool", true, rfl, .base (.bl b), by decide +kernel, rfl, _, rfl, itT rfl ⟨_, rfl, _, rfl, rfl, ?_⟩⟩⟩
      show Q (.bl (decide ((.bl b : V) = .bl b))) _
      rw [decide_eq_true rfl]
      exact q _ (kt tp htp)

theorem alikeS (T : Tx P w K mg base) {n : Nat} (ih : Good P w K mg base "_law_alike" (n + 1) ["_law_found", "_law_due"] (spAlike n)) : Good P w K mg base "_law_alike" (n + 2) ["_law_found", "_law_due"] (spAlike (n + 1)) := by
  refine good_mk (k := n + 1) (N := ["_law_found", "_law_due", "_law_k"]) T dLawAlike (by simp [fn]) T.gLawAlike rfl rfl rfl ⟨rfl, rfl, rfl, by decide +kernel, rfl, by decide +kernel, by decide +kernel⟩ (fun vs H Q E ⟨x, y, e, _⟩ => by rw [e]; rfl) (fun _ _ _ _ _ _ us hl => match us, hl with | [_, _], _ => rfl) ?_
  intro A outer s H vs Q E hr h
  obtain ⟨x, y, rfl, hal, q⟩ := h
  refine ⟨_, (pss_cons
    (ps_if (pt_val (pe_callB (call_isBT K rfl) (by rfl) T.fIsinstance (by decide +kernel) (pa_cons (pv 1) (pa_cons (pe_tup (pa_cons (pe_ty (T := "tuple") (by rfl) T.fTuple (by decide +kernel)) (pa_cons (pe_ty (T := "list") (by rfl) T.fList (by decide +kernel)) pa_nil))) pa_nil)))) (pss_cons
    (ps_if (PW.pt (pw_or (pt_not (pt_val (pe_callB (call_isBT K rfl) (by rfl) T.fIsinstance (by decide +kernel) (pa_cons (pv 0) (pa_cons (pe_tup (pa_cons (pe_ty (T := "tuple") (by rfl) T.fTuple (by decide +kernel)) (pa_cons (pe_ty (T := "list") (by rfl) T.fList (by decide +kernel)) pa_nil))) pa_nil))))) (pw_or1 (pt_cmpR op_ne (pe_callB (call_isB K rfl) (by rfl) T.fIsinstance (by decide +kernel) (pa_cons (pv 0) (pa_cons (pe_ty (T := "list") (by rfl) T.fList (by decide +kernel)) pa_nil))) (pe_callB (call_isB K rfl) (by rfl) T.fIsinstance (by decide +kernel) (pa_cons (pv 1) (pa_cons (pe_ty (T := "list") (by rfl) T.fList (by decide +kernel)) pa_nil))) (nomark _))))) (pss_one
    (ps_ret pe_bl)) pss_nil) (pss_cons
    (ps_if (pt_cmpR op_ne (pe_callB (call_lenK K rfl) (by rfl) T.fLen PySem.boot_len (pa_cons (pv 0) pa_nil)) (pe_callB (call_lenK K rfl) (by rfl) T.fLen PySem.boot_len (pa_cons (pv 1) pa_nil)) (nomark _)) (pss_one
    (ps_ret pe_bl)) pss_nil) (pss_one
    (ps_ret (pe_cmpR (op_eqDK K rfl (Room.units hr)) (pe_lc (own := [("_law_k", 2)]) rfl (by decide +kernel : (["_law_found", "_law_due", "_law_k"] : List Str).Nodup) (pi_range1 (by rfl) T.fRange (pa_cons (pe_callB (call_lenK K rfl) (by rfl) T.fLen PySem.boot_len (pa_cons (pv 1) pa_nil)) pa_nil)) (blkOk_by (N := ["_law_found", "_law_due", "_law_k"]) (sc := dLawAlike.scope) (by decide +kernel)) (fun _ _ _ _ _ => (pg_name (i := 2) (by decide +kernel : (["_law_found", "_law_due", "_law_k"] : List Str).Nodup) rfl (Or.inl rfl))) (fun _ _ _ _ _ => pts_one (pt_not (pt_val (pe_callG ih hr (Nat.le_refl _) (by rfl) (pa_cons (pe_ix (ix_seqK K rfl) (pv 0) (pv 2) (fun _ _ => rfl)) (pa_cons (pe_ix (ix_seqK K rfl) (pv 1) (pv 2) (fun _ _ => rfl)) pa_nil)))))) (fun _ _ _ _ _ => (pv 2))) (pe_lst pa_nil) (nomark _)))))) pss_nil) (pss_cons
    (ps_if (PW.pt (pw_or (pt_cmpR op_isN (pv 1) pe_non (nomark _)) (pw_or1 (pt_val (pe_callB (call_isB K rfl) (by rfl) T.fIsinstance (by decide +kernel) (pa_cons (pv 1) (pa_cons (pe_ty (T := "str") (by rfl) T.fStr (by decide +kernel)) pa_nil))))))) (pss_one
    (ps_ret (pe_and (pe_cmpR op_eq (pv 0) (pv 1) (nomark _)) (pe_one (pe_cmpR op_eq (pe_callB (call_isB K rfl) (by rfl) T.fIsinstance (by decide +kernel) (pa_cons (pv 0) (pa_cons (pe_ty (T := "str") (by rfl) T.fStr (by decide +kernel)) pa_nil))) (pe_callB (call_isB K rfl) (by rfl) T.fIsinstance (by decide +kernel) (pa_cons (pv 1) (pa_cons (pe_ty (T := "str") (by rfl) T.fStr (by decide +kernel)) pa_nil))) (nomark _)))))) pss_nil) (pss_one
    (ps_ret (pe_and (pe_callB (call_isB K rfl) (by rfl) T.fIsinstance (by decide +kernel) (pa_cons (pv 0) (pa_cons (pe_ty (T := "int") (by rfl) T.fInt (by decide +kernel)) pa_nil))) (pe_and (pe_cmpR op_eq (pe_callB (call_isB K rfl) (by rfl) T.fIsinstance (by decide +kernel) (pa_cons (pv 0) (pa_cons (pe_ty (T := "bool") (by rfl) T.fBool (by decide +kernel)) pa_nil))) (pe_callB (call_isB K rfl) (by rfl) T.fIsinstance (by decide +kernel) (pa_cons (pv 1) (pa_cons (pe_ty (T := "bool") (by rfl) T.fBool (by decide +kernel)) pa_nil))) (nomark _)) (pe_one (pe_cmpR op_eq (pv 0) (pv 1) (nomark _))))))))), ?_⟩
  have kt : ∀ tp : Addr, H tp = none → Kp H (upd H tp (.tup [.ty "tuple", .ty "list"])) := fun tp h => Kp.new (.refl _) h
  cases hal with
  | sc hx =>
    have kt : ∀ tp : Addr, H tp = none → Kp H (upd H tp (.tup [.ty "tuple", .ty "list"])) := fun tp h => Kp.new (.refl _) h
    cases hx with
    | non =>
      refine ⟨_, rfl, (by show 2 ≤ sizeLine; decide), fun tp htp => ⟨_, tp, "NoneType", false, false, rfl, upd_same, .base .non, by decide +kernel, by decide +kernel, _, rfl, iteF ?_⟩⟩
      refine ⟨_, rfl, rfl, _, rfl, itT rfl (iteT ⟨_, rfl, _, rfl, rfl, _, rfl, itT rfl ⟨_, rfl, _, "NoneType", "str", false, rfl, .base .non, by decide +kernel, _, rfl, _, "NoneType", "str", false, rfl, .base .non, by decide +kernel, rfl, ?_⟩⟩)⟩
      show Q (.bl (decide ((.bl false : V) = .bl false))) _
      rw [decide_eq_true rfl]
      exact q _ (kt tp htp)
    | int i =>
      refine ⟨_, rfl, (by show 2 ≤ sizeLine; decide), fun tp htp => ⟨_, tp, "int", false, false, rfl, upd_same, .base (.int i), by decide +kernel, by decide +kernel, _, rfl, iteF ?_⟩⟩
      refine ⟨_, rfl, rfl, _, rfl, itF (by intro z; cases z) ⟨_, rfl, _, "int", "str", false, rfl, .base (.int i), by decide +kernel, _, rfl, iteF ?_⟩⟩
      refine ⟨_, rfl, _, "int", "int", true, rfl, .base (.int i), by decide +kernel, _, rfl, iteT ⟨_, rfl, _, "int", "bool", false, rfl, .base (.int i), by decide +kernel, _, rfl, _, "int", "bool", false, rfl, .base (.int i), by decide +kernel, rfl, _, rfl, itT rfl ⟨_, rfl, _, rfl, rfl, ?_⟩⟩⟩
      show Q (.bl (decide ((.int i : V) = .int i))) _
      rw [decide_eq_true rfl]
      exact q _ (kt tp htp)
    | bl b =>
      refine ⟨_, rfl, (by show 2 ≤ sizeLine; decide), fun tp htp => ⟨_, tp, "bool", false, false, rfl, upd_same, .base (.bl b), by decide +kernel, by decide +kernel, _, rfl, iteF ?_⟩⟩
      refine ⟨_, rfl, rfl, _, rfl, itF (by intro z; cases z) ⟨_, rfl, _, "bool", "str", false, rfl, .base (.bl b), by decide +kernel, _, rfl, iteF ?_⟩⟩
      refine ⟨_, rfl, _, "bool", "int", true, rfl, .base (.bl b), by decide +kernel, _, rfl, iteT ⟨_, rfl, _, "bool", "bool", true, rfl, .base (.bl b), by decide +kernel, _, rfl, _, "bool", "bool", true, rfl, .base (.bl b), by decide +kernel, rfl, _, rfl, itT rfl ⟨_, rfl, _, rfl, rfl, ?_⟩⟩⟩
      show Q (.bl (decide ((.bl b : V) = .bl b))) _
      rw [decide_eq_true rfl]
      exact q _ (kt tp htp)
  | @tup _ a b xs ys ha hb hl hz h =>
      refine ⟨_, rfl, (by show 2 ≤ sizeLine; decide), fun tp htp => ⟨_, tp, "tuple", true, false, rfl, upd_same, .base (.tup ((kt tp htp).tup hb)), by decide +kernel, by decide +kernel, _, rfl, iteT ?_⟩⟩
      have k1 := kt tp htp
      refine ⟨_, rfl, (by show 2 ≤ sizeLine; decide), fun tq htq => ⟨_, tq, "tuple", true, false, rfl, upd_same, .base (.tup ((k1.trans (Kp.new (.refl _) htq)).tup ha)), by decide +kernel, by decide +kernel, _, rfl, iteF ?_⟩⟩
      have k2 := k1.trans (Kp.new (.refl _) htq (o := .tup [.ty "tuple", .ty "list"]))
      generalize upd (upd H tp (.tup [.ty "tuple", .ty "list"])) tq (.tup [.ty "tuple", .ty "list"]) = H2 at k2
      refine ⟨_, rfl, _, "tuple", "list", false, rfl, .base (.tup (k2.tup ha)), by decide +kernel, _, rfl, _, "tuple", "list", false, rfl, .base (.tup (k2.tup hb)), by decide +kernel, rfl, _, rfl, itNT rfl ?_⟩
      refine ⟨_, rfl, a, xs, rfl, .inr (SqT.of (k2.tup ha)), _, rfl, b, ys, rfl, .inr (SqT.of (k2.tup hb)), rfl, _, rfl, itNT (by rw [hl]) ?_⟩
      refine ⟨_, rfl, b, ys, rfl, .inr (SqT.of (k2.tup hb)), _, rfl, by omega, by omega, fun D hD => ?_⟩
      refine lc_range (fun i H' => Kp H2 H' ∧ H' D = some (.lst [])) ?_ ?_ ?_
      · exact ⟨Kp.new (.refl _) hD, upd_same⟩
      · rintro i H3 hi ⟨k3, hD3⟩
        have ei : (.int (0 + (i : Int)) : V) = VN i := by rw [Int.zero_add]
        rw [ei]
        have iy : i < ys.length := by omega
        have hx := List.getElem?_eq_getElem (show i < xs.length by omega)
        have hy := List.getElem?_eq_getElem iy
        have k23 := k2.trans k3
        refine ⟨rfl, _, rfl, _, rfl, .inr (.inl ⟨a, xs, i, _, rfl, rfl, SqT.of (k23.tup ha), atI_nat hx, _, rfl, _, rfl, .inr (.inl ⟨b, ys, i, _, rfl, rfl, SqT.of (k23.tup hb), atI_nat hy, _, _, rfl, (h i _ _ hx hy).kp k23, fun H4 k4 => ⟨_, rfl, ⟨k3.trans k4, k4.lst hD3⟩⟩⟩)⟩)⟩
      · rintro H3 ⟨k3, hD3⟩
        refine ⟨Nat.zero_le _, fun E1 hE1 => ?_⟩
        have kE : Kp H3 (upd H3 E1 (.lst [])) := Kp.new (.refl _) hE1
        refine ⟨_, _, numsL_dp (l := []) (kE.lst hD3), numsL_dp (l := []) upd_same, numsL_shaped [], numsL_shaped [], ?_⟩
        rw [numsL_eqv, decide_eq_true rfl]
        exact q _ (k2.trans (k3.trans kE))
  | @lst _ a b xs ys ha hb hl hz h =>
      refine ⟨_, rfl, (by show 2 ≤ sizeLine; decide), fun tp htp => ⟨_, tp, "list", false, true, rfl, upd_same, .base (.lst ((kt tp htp).lst hb)), by decide +kernel, by decide +kernel, _, rfl, iteT ?_⟩⟩
      have k1 := kt tp htp
      refine ⟨_, rfl, (by show 2 ≤ sizeLine; decide), fun tq htq => ⟨_, tq, "list", false, true, rfl, upd_same, .base (.lst ((k1.trans (Kp.new (.refl _) htq)).lst ha)), by decide +kernel, by decide +kernel, _, rfl, iteF ?_⟩⟩
      have k2 := k1.trans (Kp.new (.refl _) htq (o := .tup [.ty "tuple", .ty "list"]))
      generalize upd (upd H tp (.tup [.ty "tuple", .ty "list"])) tq (.tup [.ty "tuple", .ty "list"]) = H2 at k2
      refine ⟨_, rfl, _, "list", "list", true, rfl, .base (.lst (k2.lst ha)), by decide +kernel, _, rfl, _, "list", "list", true, rfl, .base (.lst (k2.lst hb)), by decide +kernel, rfl, _, rfl, itNT rfl ?_⟩
      refine ⟨_, rfl, a, xs, rfl, .inl (SqL.of (k2.lst ha)), _, rfl, b, ys, rfl, .inl (SqL.of (k2.lst hb)), rfl, _, rfl, itNT (by rw [hl]) ?_⟩
      refine ⟨_, rfl, b, ys, rfl, .inl (SqL.of (k2.lst hb)), _, rfl, by omega, by omega, fun D hD => ?_⟩
      refine lc_range (fun i H' => Kp H2 H' ∧ H' D = some (.lst [])) ?_ ?_ ?_
      · exact ⟨Kp.new (.refl _) hD, upd_same⟩
      · rintro i H3 hi ⟨k3, hD3⟩
        have ei : (.int (0 + (i : Int)) : V) = VN i := by rw [Int.zero_add]
        rw [ei]
        have iy : i < ys.length := by omega
        have hx := List.getElem?_eq_getElem (show i < xs.length by omega)
        have hy := List.getElem?_eq_getElem iy
        have k23 := k2.trans k3
        refine ⟨rfl, _, rfl, _, rfl, .inl ⟨a, xs, i, _, rfl, rfl, SqL.of (k23.lst ha), atI_nat hx, _, rfl, _, rfl, .inl ⟨b, ys, i, _, rfl, rfl, SqL.of (k23.lst hb), atI_nat hy, _, _, rfl, (h i _ _ hx hy).kp k23, fun H4 k4 => ⟨_, rfl, ⟨k3.trans k4, k4.lst hD3⟩⟩⟩⟩⟩
      · rintro H3 ⟨k3, hD3⟩
        refine ⟨Nat.zero_le _, fun E1 hE1 => ?_⟩
        have kE : Kp H3 (upd H3 E1 (.lst [])) := Kp.new (.refl _) hE1
        refine ⟨_, _, numsL_dp (l := []) (kE.lst hD3), numsL_dp (l := []) upd_same, numsL_shaped [], numsL_shaped [], ?_⟩
        rw [numsL_eqv, decide_eq_true rfl]
        exact q _ (k2.trans (k3.trans kE))

theorem ok_lawAlike (T : Tx P w K mg base) : Good P w K mg base "_law_alike" 5 ["_law_found", "_law_due"] (spAlike 4) := alikeS T (alikeS T (alikeS T (alikeS T (alike0 T))))
end Dw
end

section
set_option Elab.async false
set_option linter.all false
set_option maxRecDepth 100000
set_option maxHeartbeats 2000000
namespace Dw
open PySem PySem.Spec PyProof.Rows L2
variable {P : Program} {w : World} {K : PySem.W.Frag} {mg : Str → Option Value} {base : Heap}
theorem al_lot {H : Hp} {v u : V} {l : Lot} {n : Nat} (hl : l.length ≤ 1000) (h1 : LotV H v l) (h2 : LotV H u l) : Al H (n + 1) v u := by
  obtain ⟨a, rfl, ha⟩ := h1
  obtain ⟨b, rfl, hb⟩ := h2
  refine .tup ha hb rfl (by rw [nums_len]; omega) fun i x y hx hy => ?_
  rw [hx] at hy
  cases hy
  obtain ⟨m, _, rfl⟩ := nums_of hx
  exact .sc (.int _)
theorem al_tup {H : Hp} {v u : V} {ls : List Lot} {n : Nat} (hl : ls.length ≤ 1000) (hs : ∀ l ∈ ls, l.length ≤ 1000) (h1 : TupV LotV H v ls) (h2 : TupV LotV H u ls) : Al H (n + 2) v u := by
  obtain ⟨a, xs, rfl, ha, hx⟩ := h1
  obtain ⟨b, ys, rfl, hb, hy⟩ := h2
  have l1 := Paired.length hx
  have l2 := Paired.length hy
  refine .tup ha hb (by omega) (by omega) fun i x y h1 h2 => ?_
  obtain ⟨l, e1, r1⟩ := Paired.at1 hx h1
  obtain ⟨m, e2, r2⟩ := Paired.at1 hy h2
  rw [e1] at e2
  cases e2
  exact al_lot (hs l (List.mem_of_getElem? e1)) r1 r2
theorem lots_dp {H : Hp} {a : Addr} {fs : List Lot} (h : LstV LotV H a fs) : Dp K H (.ref a) (.list (fs.map natsD)) := LstV.dp h fun v x hx => LotV.dp hx
theorem lots_shaped (fs : List Lot) : SeqAt.shaped (.list (fs.map natsD)) = true := listD_shaped natsD_lay natsD_depth (by decide) fs
theorem any_natsD {fs : List Lot} {l : Lot} : ((fs.map natsD).any fun z => PyData.eqv z (natsD l)) = decide (l ∈ fs) := by
  induction fs with
  | nil => simp
  | cons s fs ih =>
    rw [List.map_cons, List.any_cons, ih, natsD_eqv]
    by_cases e : s = l
    · subst e; simp
    · simp [e, Ne.symm e]
theorem lots_ne (fs : List Lot) : PyData.eqv (.list (fs.map natsD)) (.list (([] : List Lot).map natsD)) = decide (fs = []) := by
  simp only [PyData.eqv]
  exact eqvAll_of natsD_eqv fs []
theorem plan_len {W : Works} (ok : OkWorks W) {p : Plan} (h : p ∈ plans W) : p.length ≤ 3 := by
  have := Paired.length (mem_plans.mp h)
  have := ok.k3
  omega
theorem fines_len {W : Works} (ok : OkWorks W) : (fines W).length ≤ 64 := Nat.le_trans (List.length_filter_le _ _) (plans_len ok)
theorem mem_fines {W : Works} {p : Plan} : p ∈ fines W ↔ PlanOk W p ∧ Fine W p := by
  unfold fines
  rw [List.mem_filter, mem_plans, fineB_iff]
theorem law_tail (T : Tx P w K mg base) {A : Around} {outer : List Env} {s : Shared} {H0 : Hp} {E : XK} (hr : Room 8 (bcx P w K mg base ["_law_script", "_law_row", "_law_works_here", "_law_stands_here", "_law_fine_here", "_law_plan", "_law_within_here", "_law_found"] dLaw A outer s H0 E).A) :
    ∃ t, PSs (bcx P w K mg base ["_law_script", "_law_row", "_law_works_here", "_law_stands_here", "_law_fine_here", "_law_plan", "_law_within_here", "_law_found"] dLaw A outer s H0 E) (dLaw.body.drop 12) t ∧ ∀ (D : Ends) (σ : L2.St) (H : Hp) (o0 o1 o3 o5 o6 o7 : Option V) (wv : V) (W : Works) (fd : Addr), σ = [o0, o1, some wv, o3, some (.ref fd), o5, o6, o7] → WorksV H wv W → OkWorks W → LstV LotV H fd (fines W) → TabsOk K H →
      (∀ H', D.rt (.bl true) H') → t D σ H := by
  refine ⟨_, (pss_cons
    (ps_for PassesOwn.never rfl (pi_listK K rfl (pe_slice (sl_listK K rfl) (pe_callG (ok_lawPlans T) hr (by decide) (by rfl) (pa_cons (pv 2) pa_nil)) po_none (po_some pe_int))) (pg_name (i := 5) (by decide +kernel : (["_law_script", "_law_row", "_law_works_here", "_law_stands_here", "_law_fine_here", "_law_plan", "_law_within_here", "_law_found"] : List Str).Nodup) rfl (Or.inl rfl)) (pss_one
    (ps_if (pt_not (pt_val (pe_callG (ok_lawAlike T) hr (by decide) (by rfl) (pa_cons (pe_lst (pa_cons (pe_callG (ok_isGood T) hr (by decide) (by rfl) (pa_cons (pv 2) (pa_cons (pv 5) pa_nil))) (pa_cons (pe_callG (ok_showsPlan T) hr (by decide) (by rfl) (pa_cons (pv 2) (pa_cons (pv 5) pa_nil))) pa_nil))) (pa_cons (pe_op op_rep (pe_lst (pa_cons (pe_cmpR (op_inDK K rfl (hu65 hr)) (pv 5) (pv 4) (by rfl)) pa_nil)) pe_int) pa_nil))))) (pss_one
    (ps_ret pe_bl)) pss_nil))) (pss_one
    (ps_ret pe_bl))), ?_⟩
  rintro D σ H o0 o1 o3 o5 o6 o7 wv W fd rfl hW ok hfd tb q
  refine ⟨_, rfl, wv, W, rfl, hW, ok, fun pa H1 k1 ⟨us, hpa, hus⟩ => ⟨40, rfl, pa, us, rfl, SqL.of hpa, fun p hp => ⟨p, rfl, ⟨_, SqL.of upd_same⟩, ?_⟩⟩⟩
  have k2 : Kp H (upd H1 p (.lst (cutV us none (some 40)))) := k1.trans (Kp.new (.refl _) hp)
  have hus2 : Paired (LotV (upd H1 p (.lst (cutV us none (some 40))))) us (plans W) := Paired.ti (fun v x hx => hx.mono (Ti.new hp)) hus
  have hp2 : upd H1 p (.lst (cutV us none (some 40))) p = some (.lst (cutV us none (some 40))) := upd_same
  generalize upd H1 p (.lst (cutV us none (some 40))) = H2 at k2 hus2 hp2
  refine for_list (K := K) (a := p) (xs := cutV us none (some 40)) (fun i σ H' => ∃ o5, σ = [o0, o1, some wv, o3, some (.ref fd), o5, o6, o7] ∧ Kp H2 H') ?_ ?_ ?_ ?_
  · exact ⟨o5, rfl, .refl _⟩
  · rintro i σ H' _ ⟨o5, _, k⟩
    exact SqL.of (k.lst hp2)
  · rintro i x σ H3 hx ⟨o5, rfl, k3⟩
    have mx : x ∈ us := List.mem_of_mem_drop (List.mem_of_mem_take (List.mem_of_getElem? hx))
    obtain ⟨j, hj⟩ := List.mem_iff_getElem?.mp mx
    obtain ⟨pl, hpl, hP⟩ := Paired.at1 hus2 hj
    have mpl := List.mem_of_getElem? hpl
    have okp := mem_plans.mp mpl
    have ka := k2.trans k3
    refine ⟨_, rfl, _, rfl, wv, x, W, pl, rfl, hW.mono ka.ti, hP.mono k3.ti, okp, ok, tb.kp ka, fun b1 H4 k4 hb1 => ?_⟩
    have kb := ka.trans k4
    refine ⟨_, rfl, _, rfl, wv, x, W, pl, rfl, hW.mono kb.ti, hP.mono (k3.trans k4).ti, okp, ok, tb.kp kb, fun b2 H5 k5 hb2 => ⟨(by show 2 ≤ sizeLine; decide), fun L hL => ?_⟩⟩
    have kL : Kp H5 (upd H5 L (.lst [.bl b1, .bl b2])) := Kp.new (.refl _) hL
    have kc := (kb.trans k5).trans kL
    refine ⟨_, rfl, _, rfl, _, _, LotV.dp (hP.mono (((k3.trans k4).trans k5).trans kL).ti), lots_dp (hfd.lots kc), natsD_shaped _, lots_shaped _, (by show 1 ≤ sizeLine; decide), fun M hM => ?_⟩
    have kM : Kp (upd H5 L (.lst [.bl b1, .bl b2])) (upd (upd H5 L (.lst [.bl b1, .bl b2])) M (.lst [.bl (((fines W).map natsD).any fun z => PyData.eqv z (natsD pl))])) := Kp.new (.refl _) hM
    refine ⟨M, 2, _, rfl, rfl, upd_same, by decide, by decide, (by show 1 * 2 ≤ sizeLine; decide), fun R hR => ?_⟩
    have kR := Kp.new (.refl _) hR (o := .lst (List.replicate (Int.toNat 2) [(.bl (((fines W).map natsD).any fun z => PyData.eqv z (natsD pl)) : V)]).flatten)
    have e1 : b1 = decide (pl ∈ fines W) := by rw [Bool.eq_iff_iff, hb1, decide_eq_true_iff, mem_fines]; exact ⟨fun h => ⟨okp, h⟩, fun h => h.2⟩
    have e2 : b2 = decide (pl ∈ fines W) := by rw [Bool.eq_iff_iff, hb2, decide_eq_true_iff, mem_fines]; exact ⟨fun h => ⟨okp, h⟩, fun h => h.2⟩
    refine ⟨.ref L, .ref R, rfl, .lst (n := 3) ((kM.trans kR).lst upd_same) upd_same rfl (by show 2 ≤ 100000; decide) fun i x y h1 h2 => ?_, fun H6 k6 => ⟨_, rfl, iteF ⟨_, rfl, ((k3.trans k4).trans k5).trans (kL.trans (kM.trans (kR.trans k6)))⟩⟩⟩
    rw [any_natsD, ← e1] at h2
    rw [e2, ← e1] at h1
    have h2 : [(.bl b1 : V), .bl b1][i]? = some y := h2
    rw [h1] at h2
    cases h2
    match i, h1 with
    | 0, h1 => cases h1; exact .sc (.bl _)
    | 1, h1 => cases h1; exact .sc (.bl _)
    | i + 2, h1 => simp at h1
  · rintro σ H3 ⟨o5, rfl, k3⟩
    exact q H3

theorem ifexp_some {H : Hp} {σ : L2.St} {Q : VK} {c : Bool} {l : List Plan} {D : Addr} {us : List V} (hs : σ[4]? = some (some (.ref D))) (h : H D = some (.lst us)) (hus : Paired (LotV H) us l) (hc : c = !decide (l = [])) (hQ : ∀ v, SomeV H v l → Q v H) :
    if c = true then tOp (rIxL K) (tVar 4) (tC (.int 0)) σ H Q else tC .non σ H Q := by
  subst hc
  cases l with
  | nil => exact iteF (hQ .non rfl)
  | cons p ps =>
    cases hus with
    | @cons x _ xs _ hx ht => exact iteT ⟨_, hs, D, _, 0, x, rfl, rfl, SqL.of h, atI_nat (j := 0) rfl, hQ x hx⟩
theorem al_some {H : Hp} {v u : V} {l : List Plan} (hl : ∀ p ∈ l, p.length ≤ 1000) (h1 : SomeV H v l) (h2 : SomeV H u l) : Al H 4 v u := by
  cases l with
  | nil =>
    obtain rfl : v = .non := h1
    obtain rfl : u = .non := h2
    exact .sc .non
  | cons p ps => exact al_lot (hl p (List.mem_cons_self ..)) h1 h2
def spLaw (K : PySem.W.Frag) : Sp := fun vs H Q _ => ∃ (sc : Addr) (ns : List Int), vs = [.ref sc] ∧ SqL K H sc (ns.map V.int) ∧ TabsOk K H ∧ ∀ H', Q (.bl true) H'
theorem law_ok (T : Tx P w K mg base) {fd : FuncData} (F : FunD K dLaw.name dLaw.qual dLaw.params dLaw.body dLaw.scope [] [] (He.fAd K dLaw.at_) fd) : FnOk P w K mg base CX0 9 (He.fAd K dLaw.at_) fd ["_law_script"] (spLaw K) :=
  fnok_at (k := 8) (N := ["_law_script", "_law_row", "_law_works_here", "_law_stands_here", "_law_fine_here", "_law_plan", "_law_within_here", "_law_found"]) (sp := spLaw K) (ps := ["_law_script"]) dLaw F ⟨rfl, rfl, rfl, by decide +kernel, rfl, by decide +kernel, by decide +kernel⟩ (fun vs H Q E ⟨sc, ns, e, _⟩ => by rw [e]; rfl) (by
    intro A outer s H vs Q E hr h
    obtain ⟨sc, ns, rfl, hsc, tb, q⟩ := h
    obtain ⟨tt, ht, hq⟩ := law_tail T hr
    refine ⟨_, (pss_cons
    (ps_set (i := 1) (by decide +kernel : (["_law_script", "_law_row", "_law_works_here", "_law_stands_here", "_law_fine_here", "_law_plan", "_law_within_here", "_law_found"] : List Str).Nodup) rfl (Or.inl rfl) (pe_lst (pa_cons (pv 0) (pa_cons pe_int (pa_cons pe_int (pa_cons pe_int pa_nil)))))) (pss_cons
    (ps_set (i := 2) (by decide +kernel : (["_law_script", "_law_row", "_law_works_here", "_law_stands_here", "_law_fine_here", "_law_plan", "_law_within_here", "_law_found"] : List Str).Nodup) rfl (Or.inr rfl) (pe_callG (ok_lawWorks T) hr (by decide) (by rfl) (pa_cons (pv 1) pa_nil))) (pss_cons
    (ps_set (i := 3) (by decide +kernel : (["_law_script", "_law_row", "_law_works_here", "_law_stands_here", "_law_fine_here", "_law_plan", "_law_within_here", "_law_found"] : List Str).Nodup) rfl (Or.inl rfl) (pe_callG (ok_lawStands T) hr (by decide) (by rfl) (pa_cons (pv 2) (pa_cons pe_int pa_nil)))) (pss_cons
    (ps_if (pt_cmpR op_isN (pv 3) pe_non (nomark _)) (pss_one
    (ps_ret pe_bl)) pss_nil) (pss_cons
    (ps_setLc (i := 4) (own := [("_law_plan", 5)]) rfl (by decide +kernel : (["_law_script", "_law_row", "_law_works_here", "_law_stands_here", "_law_fine_here", "_law_plan", "_law_within_here", "_law_found"] : List Str).Nodup) rfl rfl (sw_true rfl rfl rfl (by decide +kernel)) (pi_listK K rfl (pe_callG (ok_lawPlans T) hr (by decide) (by rfl) (pa_cons (pv 2) pa_nil))) (blkOk_by (N := ["_law_script", "_law_row", "_law_works_here", "_law_stands_here", "_law_fine_here", "_law_plan", "_law_within_here", "_law_found"]) (sc := dLaw.scope) (by decide +kernel)) (fun _ _ _ _ _ => (pg_name (i := 5) (by decide +kernel : (["_law_script", "_law_row", "_law_works_here", "_law_stands_here", "_law_fine_here", "_law_plan", "_law_within_here", "_law_found"] : List Str).Nodup) rfl (Or.inl rfl))) (fun _ _ _ _ _ => pts_one (pt_val (pe_callG (ok_lawFine T) hr (by decide) (by rfl) (pa_cons (pv 2) (pa_cons (pv 5) pa_nil))))) (fun _ _ _ _ _ => (pv 5))) (pss_cons
    (ps_if (pt_not (pt_val (pe_callG (ok_lawAlike T) hr (by decide) (by rfl) (pa_cons (pe_callG (ok_goodPlans T) hr (by decide) (by rfl) (pa_cons (pv 2) pa_nil)) (pa_cons (pe_callTy (call_tupleK K rfl) (by rfl) T.fTuple (by decide +kernel) (pa_cons (pv 4) pa_nil)) pa_nil))))) (pss_one
    (ps_ret pe_bl)) pss_nil) (pss_cons
    (ps_if (pt_not (pt_val (pe_callG (ok_lawAlike T) hr (by decide) (by rfl) (pa_cons (pe_callG (ok_somePlan T) hr (by decide) (by rfl) (pa_cons (pv 2) pa_nil)) (pa_cons (pe_ifExp (pt_cmpR (op_neDK K rfl (Room.units hr)) (pv 4) (pe_lst pa_nil) (nomark _)) (pe_ix (ix_listK K rfl) (pv 4) pe_int (fun _ _ => rfl)) pe_non) pa_nil))))) (pss_one
    (ps_ret pe_bl)) pss_nil) (pss_cons
    (ps_set (i := 6) (by decide +kernel : (["_law_script", "_law_row", "_law_works_here", "_law_stands_here", "_law_fine_here", "_law_plan", "_law_within_here", "_law_found"] : List Str).Nodup) rfl (Or.inl rfl) (pe_callG (ok_lawWithin T) hr (by decide) (by rfl) (pa_cons (pv 2) (pa_cons (pv 3) pa_nil)))) (pss_cons
    (ps_set (i := 7) (by decide +kernel : (["_law_script", "_law_row", "_law_works_here", "_law_stands_here", "_law_fine_here", "_law_plan", "_law_within_here", "_law_found"] : List Str).Nodup) rfl (Or.inl rfl) (pe_callG (ok_lostWithin T) hr (by decide) (by rfl) (pa_cons (pv 2) (pa_cons (pe_ix (ix_tupK K rfl) (pv 2) pe_int (fun _ _ => rfl)) pa_nil)))) (pss_cons
    (ps_if (pt_not (pt_val (pe_callG (ok_lawAlike T) hr (by decide) (by rfl) (pa_cons (pv 7) (pa_cons (pe_nget2K P w rfl rfl (hu10 hr) (pv 6) (pe_ix (ix_tupK K rfl) (pv 2) pe_int (fun _ _ => rfl)) pe_non ⟨rfl, rfl, rfl, rfl⟩) pa_nil))))) (pss_one
    (ps_ret pe_bl)) pss_nil) (pss_cons
    (ps_if (pt_cmpR op_ne (pe_cmpR op_isN (pv 7) pe_non (nomark _)) (pe_cmpR (op_neDK K rfl (Room.units hr)) (pv 4) (pe_lst pa_nil) (nomark _)) (nomark _)) (pss_one
    (ps_ret pe_bl)) pss_nil) (pss_cons
    (ps_if (PW.pt (pw_and (pt_cmpR op_notN (pv 7) pe_non (nomark _)) (pw_and1 (pt_cmpR op_gt (pv 7) (pe_op op_mul (pe_op op_add (pe_op op_mul (pe_callB (call_lenK K rfl) (by rfl) T.fLen PySem.boot_len (pa_cons (pe_ix (ix_tupK K rfl) (pv 2) pe_int (fun _ _ => rfl)) pa_nil)) (pe_ix (ix_tupK K rfl) (pv 2) pe_int (fun _ _ => rfl))) pe_int) (pe_callB (call_lenK K rfl) (by rfl) T.fLen PySem.boot_len (pa_cons (pe_ix (ix_tupK K rfl) (pv 2) pe_int (fun _ _ => rfl)) pa_nil))) (nomark _))))) (pss_one
    (ps_ret pe_bl)) pss_nil) ht)))))))))))), ?_⟩
    -- _law_row
    refine ⟨_, rfl, (by show 4 ≤ sizeLine; decide), fun a ha => ?_⟩
    have ka : Kp H (upd H a (.lst [.ref sc, .int 0, .int 2000, .int 0])) := Kp.new (.refl _) ha
    have row : RowV K (upd H a (.lst [.ref sc, .int 0, .int 2000, .int 0])) a sc := by
      refine ⟨⟨0, 2000, 0, upd_same⟩, ns, ?_, ?_⟩
      · rcases hsc with h | h
        · rcases h with h | ⟨u, h⟩
          · exact .inl (.inl (by rw [upd_ne (ne_of_none h ha)]; exact h))
          · exact .inl (.inr ⟨u, by rw [upd_ne (ne_of_none h ha)]; exact h⟩)
        · exact .inr h
      · rcases hsc with h | h
        · rcases h with h | ⟨u, h⟩
          · exact .inl (ne_of_none h ha)
          · exact .inl (ne_of_none h ha)
        · exact .inr fun H' => .inr h
    -- _law_works_here
    refine ⟨_, rfl, a, sc, rfl, row, fun wv W H2 k2x hW ok => ?_⟩
    have k2 : Kp H H2 := KpX.kp ka ha k2x
    -- _law_stands_here
    refine ⟨_, rfl, wv, W, rfl, hW, ok, fun H3 k3 => ⟨_, rfl, rfl, _, rfl, itT rfl (q _)⟩, fun sa S H3 k3 hls nd hmem l150 => ?_⟩
    have k13 := k2.trans k3
    have hRS : ∀ s, Reach (allRoutes W) W.vats s → s ∈ S := fun s h => (hmem s).mpr h
    have hS : ∀ s ∈ S, ∀ kd ∈ W.kinds, ∀ r ∈ kd.routes, next s r ∈ S := fun s hs kd hk r hr => (hmem _).mpr (.step ((hmem s).mp hs) (List.mem_flatMap.mpr ⟨kd, hk, hr⟩))
    have hW3 := hW.mono k3.ti
    refine ⟨_, rfl, rfl, _, rfl, itF (by intro z; cases z) ?_⟩
    -- _law_fine_here
    refine ⟨_, rfl, wv, W, rfl, hW3, ok, fun pa H4 k4 ⟨us, hpa, hus⟩ => ⟨pa, rfl, ⟨_, SqL.of hpa⟩, fun D hD => ?_⟩⟩
    have lus := Paired.length hus
    have l64 := plans_len ok
    have k14 := k13.trans k4
    refine lc_list (xs := us) (fun i H' => ∃ acc, Kp H4 H' ∧ H' D = some (.lst acc) ∧ Paired (LotV H') acc (((plans W).take i).filter (fineB W))) ?_ ?_ ?_ ?_
    · exact ⟨[], Kp.new (.refl _) hD, upd_same, by rw [List.take_zero]; exact .nil⟩
    · rintro i H' _ ⟨acc, k, _⟩
      exact SqL.of (k.lst hpa)
    · rintro i x H' hx ⟨acc, k, hD', hacc⟩
      obtain ⟨p, hp, hP⟩ := Paired.at1 hus hx
      have kk := (k4.trans k)
      have okp := mem_plans.mp (List.mem_of_getElem? hp)
      refine ⟨rfl, _, rfl, _, rfl, wv, x, W, p, S, rfl, hW3.mono kk.ti, hP.mono k.ti, okp, ok, by omega, hRS, fun b H5 k5 hb => ⟨b, rfl, ?_⟩⟩
      have eb : b = fineB W p := by rw [Bool.eq_iff_iff, hb, fineB_iff]
      rw [take_snoc hp, List.filter_append]
      cases b with
      | true =>
        refine iteT ⟨x, rfl, acc, k5.lst hD', ?_, acc ++ [x], (k.trans k5).putL hD (k5.lst hD'), upd_same, ?_⟩
        · have := Paired.length hacc
          have l2 := List.length_filter_le (fineB W) ((plans W).take i)
          rw [List.length_take] at l2
          rw [sizeLine_eq]
          omega
        · have t1 : Ti H5 (upd H5 D (.lst (acc ++ [x]))) := Ti.putL (k5.lst hD')
          rw [show [p].filter (fineB W) = [p] by simp [List.filter_cons, ← eb]]
          exact Paired.snoc (Paired.ti (fun v x hx => hx.mono (k5.ti.trans t1)) hacc) (hP.mono ((k.trans k5).ti.trans t1))
      | false =>
        refine iteF ⟨acc, k.trans k5, k5.lst hD', ?_⟩
        rw [show [p].filter (fineB W) = [] by simp [List.filter_cons, ← eb], List.append_nil]
        exact Paired.ti (fun v x hx => hx.mono k5.ti) hacc
    rintro H5 ⟨acc, k5, hD5, hacc⟩
    rw [lus, List.take_length] at hacc
    have hfd : LstV LotV H5 D (fines W) := ⟨acc, hD5, hacc⟩
    have k15 := k14.trans k5
    have hW5 := hW3.mono (k4.trans k5).ti
    have f64 := fines_len ok
    have fl : ∀ p ∈ fines W, p.length ≤ 1000 := fun p hp => by
      have := plan_len ok (List.mem_filter.mp hp).1
      omega
    -- good_plans
    refine ⟨_, rfl, wv, W, rfl, hW5, ok, tb.kp k15, fun gv H6 k6 hgv => ?_⟩
    refine ⟨_, rfl, D, acc, rfl, .inl ⟨SqL.of (k6.lst hD5), fun t ht => ?_⟩⟩
    have kt : Kp H6 (upd H6 t (.tup acc)) := Kp.new (.refl _) ht
    refine ⟨gv, .ref t, rfl, al_tup (n := 2) (by omega) fl (TupV.mono (fun v x hx => hx.mono kt.ti) kt.ti hgv) ⟨t, acc, rfl, upd_same, Paired.ti (fun v x hx => hx.mono (k6.trans kt).ti) hacc⟩, fun H7 k7 => ⟨_, rfl, iteF ?_⟩⟩
    have k57 := (k6.trans kt).trans k7
    -- some_plan
    refine ⟨_, rfl, wv, W, rfl, hW5.mono k57.ti, ok, tb.kp (k15.trans k57), fun sv H8 k8 hsv => ?_⟩
    have k58 := k57.trans k8
    refine ⟨_, rfl, Nat.zero_le _, fun E1 hE1 => ?_⟩
    have kE : Kp H8 (upd H8 E1 (.lst [])) := Kp.new (.refl _) hE1
    have k59 := k58.trans kE
    have dE : Dp K (upd H8 E1 (.lst [])) (.ref E1) (.list (([] : List Lot).map natsD)) := .lst (SqL.of upd_same) .nil
    refine ⟨_, _, lots_dp (hfd.lots k59), dE, lots_shaped _, lots_shaped [], _, rfl, ?_⟩
    rw [lots_ne]
    generalize upd H8 E1 (.lst []) = H9 at kE k59
    refine ifexp_some (l := fines W) rfl (k59.lst hD5) (Paired.ti (fun v x hx => hx.mono k59.ti) hacc) rfl fun uv huv => ?_
    refine ⟨sv, uv, rfl, al_some fl (hsv.mono kE.ti) huv, fun HA kA => ⟨_, rfl, iteF ?_⟩⟩
    have k5A := k59.trans kA
    have k1A := k15.trans k5A
    have hWA := hW5.mono k5A.ti
    have hlsA := hls.stands ((k4.trans k5).trans k5A)
    -- _law_within_here
    refine ⟨_, rfl, _, rfl, wv, sa, W, S, rfl, hWA, hlsA, ok, by omega, fun s hs => (hmem s).mp hs, hS, fun d HB kB rk => ?_⟩
    obtain ⟨aw, vv, vk, rfl, haw, hvv, hvk⟩ := id hWA
    have hWB := hWA.mono kB.ti
    -- lost_within
    refine ⟨_, rfl, _, rfl, aw, _, 1, _, rfl, rfl, SqT.of (kB.tup haw), rfl, .ref aw, vv, W, S, rfl, hWB, StandV.mono kB.ti hvv, ok, by omega, hRS, tb.kp (k1A.trans kB), fun n S' HC kC hv hcl hfix => ?_⟩
    have hWC := hWB.mono kC.ti
    have kBC := kB.trans kC
    have rkC := rk.kp kC
    obtain ⟨kvs, hdv, hkeys, hval⟩ := rkC.ex
    have same : rankTo W n W.vats = rankTo W (S.length + 1) W.vats := rank_same hcl hS hfix W.vats hv (hRS _ .here)
    have hvC := StandV.mono kBC.ti hvv
    obtain ⟨vb, vbs, rfl, hvb, hvbs⟩ := id hvC
    -- alike of both ranks
    refine ⟨_, rfl, _, rfl, d, kvs, rfl, hdv, _, rfl, aw, _, 1, _, rfl, rfl, SqT.of (kBC.tup haw), rfl, vb, W.vats, rfl, hdv, hvC, ?_⟩
    rw [hval _ (hRS _ .here)]
    unfold rkV
    rw [← same]
    have al : Al HC 4 (((rankTo W n W.vats).map VN).getD .non) (((rankTo W n W.vats).map VN).getD .non) := by
      cases rankTo W n W.vats with
      | none => exact .sc .non
      | some m => exact .sc (.int _)
    refine ⟨_, _, rfl, al, fun HD kD => ⟨_, rfl, iteF ?_⟩⟩
    have k5D := k5A.trans (kBC.trans kD)
    -- is None, unlike fine plans
    refine ⟨_, rfl, rfl, _, rfl, Nat.zero_le _, fun E2 hE2 => ?_⟩
    have kE2 : Kp HD (upd HD E2 (.lst [])) := Kp.new (.refl _) hE2
    have k5E := k5D.trans kE2
    have dE2 : Dp K (upd HD E2 (.lst [])) (.ref E2) (.list (([] : List Lot).map natsD)) := .lst (SqL.of upd_same) .nil
    refine ⟨_, _, lots_dp (hfd.lots k5E), dE2, lots_shaped _, lots_shaped [], ?_⟩
    rw [lots_ne]
    generalize upd HD E2 (.lst []) = HE at kE2 k5E
    have iff1 : rankTo W n W.vats = none ↔ fines W ≠ [] := by
      rw [rank_none_iff ok hcl hv hfix]
      constructor
      · rintro ⟨p, hp⟩ z
        have := mem_fines.mpr hp
        rw [z] at this
        cases this
      · intro z
        obtain ⟨p, hp⟩ := List.exists_mem_of_ne_nil _ z
        exact ⟨p, mem_fines.mp hp⟩
    refine ⟨rfl, _, rfl, itNT ?_ ?_⟩
    · cases hrk : rankTo W n W.vats with
      | none =>
        rw [decide_eq_false (iff1.mp hrk)]
        rfl
      | some m =>
        have : fines W = [] := by
          refine Classical.byContradiction fun z => ?_
          rw [iff1.mpr z] at hrk
          cases hrk
        rw [decide_eq_true this]
        rfl
    -- the bound
    have k5F := k5E
    have hWE := hW5.mono k5E.ti
    have hfE := hfd.lots k5E
    have tbE := tb.kp (k15.trans k5E)
    obtain ⟨ak, ks, rfl, hak, hks⟩ := hvk
    have kAE := kBC.trans (kD.trans kE2)
    have lvs := Paired.length hvbs
    have lks := Paired.length hks
    have v4 := ok.v4
    have k3' := ok.k3
    refine ⟨_, rfl, rfl, _, rfl, ?_⟩
    cases hrk : rankTo W n W.vats with
    | none => exact itNT rfl (iteF (hq _ _ HE _ _ _ _ _ _ _ W D rfl hWE ok hfE tbE fun H' => q H'))
    | some m =>
      have bd := rank_bound ok hrk
      refine itNF (by intro z; cases z) ?_
      refine ⟨_, rfl, _, rfl, aw, _, 1, _, rfl, rfl, SqT.of (kAE.tup haw), rfl, vb, vbs, rfl, .inr (SqT.of ((kD.trans kE2).tup hvb)), _, rfl, aw, _, 0, _, rfl, rfl, SqT.of (kAE.tup haw), rfl, _, _, rfl, rfl, .inl ⟨by omega, by omega⟩, _, _, rfl, rfl,
        _, rfl, aw, _, 2, _, rfl, rfl, SqT.of (kAE.tup haw), rfl, ak, ks, rfl, .inr (SqT.of (kAE.tup hak)), _, _, rfl, rfl, .inr ⟨by omega, by omega⟩, _, _, rfl, rfl, _, rfl, itF ?_ (hq _ _ HE _ _ _ _ _ _ _ W D rfl hWE ok hfE tbE fun H' => q H')⟩
      rw [lvs, lks]
      have bz : (m : Int) ≤ ((W.vats.length : Int) * (W.dyes : Int) + 1) * (W.kinds.length : Int) := by exact_mod_cast bd
      omega)
theorem law_binds {fd : FuncData} (F : FunD K dLaw.name dLaw.qual dLaw.params dLaw.body dLaw.scope [] [] (He.fAd K dLaw.at_) fd) (s : Shared) (u : Value) : BindsTo s fd ⟨[u], []⟩ [("_law_script", u)] :=
  F.bindsA (ps := ["_law_script"]) (fun _ _ _ _ _ _ us hl => match us, hl with | [_], _ => rfl) s [u] rfl
end Dw
end

section
set_option Elab.async false
set_option linter.all false
set_option maxRecDepth 100000
set_option maxHeartbeats 1000000
namespace Dw
open PySem PySem.Spec PyProof.Rows L2
theorem tab_empty {n : Nat} {H : Hp} {P : Addr} (h : H P = some (.tbl #[])) : TabN n H P := ⟨#[], h, trivial, fun pos cv q => by simp [codeAmong] at q⟩
theorem law_at {P : Program} {w : World} {K : PySem.W.Frag} {mg : Str → Option Value} {fa : Addr} {h : Heap} (l : PySem.W.OpenLaw) (hl : l.prog = P) (KX : K.In h) (c : He.SaysX Dw.fa fn [] tf (fun _ => true) w h K) (G : h.Ns mainGlobals mg) (hmg : mg ("law" : Str) = some (.ref fa)) :
    LamX.LawAtS l w K CX0 60 63 "_law_script" mg fa h := by
  subst hl
  have says := c.t.d
  obtain ⟨fd, F⟩ := says.defs (d := dLaw) (by simp [fn])
  have F : FunD K dLaw.name dLaw.qual dLaw.params dLaw.body dLaw.scope [] [] (He.fAd K dLaw.at_) fd := F
  have efa : fa = He.fAd K dLaw.at_ := by
    have e1 : mg ("law" : Str) = some (.ref (He.ga K "law")) := He.glo_ok KX G (says.facts (f := .glo "law") (by simp [Dw.fa]))
    rw [hmg] at e1
    exact Value.ref.inj (Option.some.inj e1)
  refine ⟨fd, tf.map (He.cT K), spLaw K, ?_, ?_, ?_, law_binds F, ?_, ?_⟩
  · intro p hp
    obtain ⟨q, hq, rfl⟩ := List.mem_map.mp hp
    exact c.empty q hq
  · intro p hp
    obtain ⟨q, hq, rfl⟩ := List.mem_map.mp hp
    exact c.out q hq
  · intro p hp
    obtain ⟨q, hq, rfl⟩ := List.mem_map.mp hp
    exact PySem.W.codeHd_of_K KX (c.hd q hq)
  · intro H a ns _ _ hT hs
    exact ⟨a, ns, rfl, hs, fun p hp => tab_empty (hT _ (List.mem_map.mpr ⟨p, hp, rfl⟩)), fun _ => rfl⟩
  · intro base kin hns hT
    have hd : ∀ p ∈ tf, PySem.W.CodeHd base (He.cT K p).1 (He.cT K p).2 := fun p hp => (hT _ (List.mem_map.mpr ⟨p, hp, rfl⟩)).code
    have bm : BMain base mg := bmain_of (hT _ (List.mem_map.mpr ⟨dIsLot.at_, tm_isLot, rfl⟩)).bm
    rw [efa]
    exact (law_ok ⟨kin, hns, says, hd, bm⟩ F).mono (by decide)
end Dw
end

set_option Elab.async false
set_option linter.all false
set_option maxRecDepth 100000
set_option maxHeartbeats 0
open PySem PySem.W PySem.Calls PyProof.Rows
theorem PySem.Challenge.cw_dyeworks_k00_whole_law_holds : PySem.Challenge.rw_dyeworks_k00_whole_law.Holds := by
  w_on; o_law
  refine HandSHeadRun.head_any (r := OpenLaw.row PySem.Challenge.rw_dyeworks_k00_whole_law) (q := view (OpenLaw.row PySem.Challenge.rw_dyeworks_k00_whole_law).prog [53]) (H := Dw.hk) (ob := Dw.ob) (M := 20000) (loose := Dw.loose) (d := HandSHeadRun.topDef (OpenLaw.row PySem.Challenge.rw_dyeworks_k00_whole_law).prog 53) (kwd := []) Dw.ob_eq
    (by kernel_rfl) (fun s => by kernel_rfl) Dw.run (by kernel_rfl) (by kernel_rfl) (by kernel_rfl) (by rfl) (by first | assumption | decide +kernel) (by decide +kernel) ⟨rfl, rfl, rfl, rfl, rfl, by decide +kernel⟩ ?hw ?hc
  case hw => w_witness2
  case hc =>
    refine LamX.walk_ofTsE (l := PySem.Challenge.rw_dyeworks_k00_whole_law) (n := 63) (k := 60) (x := "_law_script") (CX := fun _ => L2.CX0) rfl (by decide) (by kernel_rfl) ⟨rfl, by decide, by decide⟩ ?F (fun _ _ _ _ _ z => z)
    intro w mg fa h Y G hmg0
    obtain ⟨K, KX, c⟩ := Y
    have hmg : mg ("law" : PySem.Str) = some (.ref fa) := by
      have e : (HandSHeadRun.topDef (OpenLaw.row PySem.Challenge.rw_dyeworks_k00_whole_law).prog 53).name = ("law" : PySem.Str) := by kernel_rfl
      rw [← e]
      exact hmg0
    refine ⟨K, KX, ?_⟩
    exact Dw.law_at (P := (OpenLaw.row PySem.Challenge.rw_dyeworks_k00_whole_law).prog) PySem.Challenge.rw_dyeworks_k00_whole_law rfl KX c G hmg
