import PyProof.Rows.All
import Wide.All
import OpenK.AllK
import Wide.FinOn
import HandS.ForMost
import HandS.AnyAll
import HandS.GenOver
import KE.KDictDisplayH
import HandS.Strs
import HandS.SetFor
import HandS.Zip
import HandS.Lambda
import HandS.IsInst
import HandS.TupAny
import HandS.Deep
import HandS.Conv
import PySem.Challenge.RW_dyeworks_k07_whole_washes
import HandS.TupSets
import KE.SortData
import HandS.Head0
import HandS.Head1
import HandS.Head2
import HandS.HeadEnd
import HandS.HeadHook1
import HandS.HeadHook2
import HandS.HeadHook3
import HandS.HeadHook4
import HandS.HeadWalk
/-! part DwGen -/
set_option Elab.async false
set_option linter.all false
set_option maxRecDepth 100000
set_option maxHeartbeats 4000000
/-! all(..), any(..) of a generator expression whose element may call defs of the program, may hold another generator expression, may change what is tracked -/
namespace Dw
open PySem PySem.Spec PyProof.Rows L2 GenW

section
variable {M : Model} {A : Around} {E : Value → Shared → Prop} {s : Shared}
/-- the frame of a generator expression is made, its cells too; the walked thing stands at «.0» -/
theorem frameMade {scope : Scope} {globals : Addr} {closure : List (Str × Addr)} {it : Value} {qual : Str} {code : Value} {builtins : Addr} {Q : Env → Shared → Prop}
    (hk : scope.kind = .function) (h0 : scope.names.lookup (".0" : Str) = some NameKind.local)
    (h : ∀ h' tk, h'.Ns s.heap.objs.size (fun y => if y = (".0" : Str) then some it else none) →
      Heap.SameBut s.heap.objs.size (pushCells (s.heap.push { cls := .type "frame", data := .dict #[] }) scope.names) h' →
      Q (newEnv scope s.heap.objs.size globals (cellsFrom (s.heap.objs.size + 1) scope.names closure) qual none code none builtins) { s with heap := h', toks := tk }) :
    wpAny M A (newFunctionEnv scope globals closure [((".0" : Str), it)] qual none code none builtins) Q E s := by
  simp only [newFunctionEnv, Option.isSome_none, Bool.false_eq_true, if_false]
  refine wpAny_bind (wpAny_alloc ?_)
  refine wpAny_bind (wpAny_layCells _ (fun n k c => by first | rfl | (cases hkc : k == NameKind.cell <;> simp [hkc])) scope.names closure _ _ ?_)
  rw [show ({ s with heap := s.heap.push { cls := .type "frame", data := .dict #[] } } : Shared).heap.objs.size = s.heap.objs.size + 1 from Heap.size_push ..]
  have hns : (pushCells (s.heap.push { cls := .type "frame", data := .dict #[] }) scope.names).Ns s.heap.objs.size fun _ => none :=
    (Heap.Ns.new s.heap (.type "frame")).keeps (pushCells_keeps _ _)
  rw [List.forIn_cons]
  refine wpAny_bind (wpAny_bind (wpAny_bind (wpAny_storeName_local (env := newEnv scope s.heap.objs.size globals (cellsFrom (s.heap.objs.size + 1) scope.names closure) qual none code none builtins) h0 hns (fun h' hn' hs' => ?_) (by show (scope.kind == .class || (scope.kind == .module && _)) = false; rw [hk]; rfl))))
  refine wpAny_pure ?_
  dsimp only
  rw [List.forIn_nil]
  exact wpAny_pure (wpAny_pure (h h' _ hn' hs'))
end

/-- a code object c, its table at P: of the base, or made on the way -/
def Cod (base : Heap) (H : Hp) (c P : Addr) : Prop := PySem.W.CodeHd base c P ∨ H c = some (.ext fun h => PySem.W.CodeHd h c P)
/-- the builtins that the module's globals name -/
def BltB (base : Heap) (mg : Str → Option Value) : Prop :=
  ∃ bm o, mg (Str.ofString "__builtins__") = some (.ref bm) ∧ bm ≠ builtinsNs ∧ base.get? bm = some o ∧ o.cls = .type "module" ∧ o.dict = some builtinsNs ∧ o.data = .plain
/-- behind the making (or finding) of the code of the generator expression at gpos -/
def Grown (H H' : Hp) (P : Addr) (gpos : Pos) (code : Value) : Prop :=
  (H' = H ∧ ∃ ps, H P = some (.tbl ps) ∧ codeAmong gpos ps.toList = some code) ∨
  ∃ (ps : Array Value) (c' P' : Addr), H P = some (.tbl ps) ∧ codeAmong gpos ps.toList = none ∧ code = .ref c' ∧ H c' = none ∧ H P' = none ∧ c' ≠ P' ∧
    H' = upd (upd (upd H P (.tbl (ps ++ #[rawInt gpos.line, rawInt gpos.col, .ref c']))) c' (.ext fun h => PySem.W.CodeHd h c' P')) P' (.tbl #[])

section
variable {X : Cx} {pins : List (Addr × Obj)} {σ : L2.St} {H : Hp} {s : Shared}
theorem codeHd_at {h h' : Heap} {c P : Addr} (x : PySem.W.CodeHd h c P) (k : ∀ o, h.get? c = some o → h'.get? c = some o) : PySem.W.CodeHd h' c P := by
  obtain ⟨o, vs, file, tf, flags, tg, inF, text, tt, h1, r⟩ := x
  exact ⟨o, vs, file, tf, flags, tg, inF, text, tt, k o h1, r⟩
theorem Cod.hd {c P : Addr} (C : Cod X.base H c P) (I : Inv X pins σ H s) : PySem.W.CodeHd s.heap c P := by
  rcases C with C | C
  · exact C.keeps I.bk
  · exact (I.hok c _ C).1
/-- a code object and its table are made, the table at P has grown -/
theorem inv_code {P c' P' : Addr} {ps more : Array Value} {h' : Heap} {tk : Nat} (I : Inv X pins σ H s) (hP : H P = some (.tbl ps)) (k : Heap.ExtBut P s.heap h')
    (hm : h'.get? P = some { cls := .none, data := .fields (ps ++ more) }) (c1 : s.heap.objs.size ≤ c') (p1 : s.heap.objs.size ≤ P') (ne : c' ≠ P')
    (cd : PySem.W.CodeHd h' c' P') (tp : h'.get? P' = some { cls := .none, data := .fields #[] }) :
    Inv X pins σ (upd (upd (upd H P (.tbl (ps ++ more))) c' (.ext fun h => PySem.W.CodeHd h c' P')) P' (.tbl #[])) { s with heap := h', toks := tk } := by
  have ltP : P < s.heap.objs.size := I.hok.lt hP
  have cP : c' ≠ P := Nat.ne_of_gt (Nat.lt_of_lt_of_le ltP c1)
  have pP : P' ≠ P := Nat.ne_of_gt (Nat.lt_of_lt_of_le ltP p1)
  have hc0 : H c' = none := I.hok.fresh c1
  have hp0 : H P' = none := I.hok.fresh p1
  have at_ : ∀ b, b ≠ P → b ≠ c' → b ≠ P' → (upd (upd (upd H P (.tbl (ps ++ more))) c' (.ext fun h => PySem.W.CodeHd h c' P')) P' (.tbl #[])) b = H b := fun b h1 h2 h3 => by
    rw [upd_ne h3, upd_ne h2, upd_ne h1]
  have old : ∀ b u, H b = some u → b ≠ c' ∧ b ≠ P' := fun b u e => ⟨ne_of_none e hc0, ne_of_none e hp0⟩
  have lt2 : ∀ b o, s.heap.get? b = some o → b ≠ c' ∧ b ≠ P' := fun b o e => ⟨Nat.ne_of_lt (Nat.lt_of_lt_of_le (Heap.lt_size e) c1), Nat.ne_of_lt (Nat.lt_of_lt_of_le (Heap.lt_size e) p1)⟩
  have nN : ∀ b, H b = none → b ≠ P := fun b e z => by
    rw [z, hP] at e
    cases e
  have nP : ∀ b u, H b = some u → (∀ q, u ≠ .tbl q) → b ≠ P := fun b u e q z => by
    rw [z, hP] at e
    exact q ps (Option.some.inj e).symm
  refine I.un ⟨fun b o e n _ _ => k b o (nN b n) e, fun b o e n _ _ => ⟨o.slots, k b o (nN b n) e⟩, fun b o e n _ => ?_, fun b o e _ => ?_, fun b xs e => ?_, fun b o u e => ?_, fun b qs e => ?_⟩ fun b u e => ?_
  · rw [at_ b (nN b n) (lt2 b o e).1 (lt2 b o e).2]
    exact n
  · by_cases hb : b = P
    · rw [hb]
      exact ⟨_, hm⟩
    · exact ⟨o, k b o hb e⟩
  · rw [at_ b (nP b _ e fun q z => by cases z) (old b _ e).1 (old b _ e).2]
    exact e
  · rw [at_ b (nP b _ e fun q z => by cases z) (old b _ e).1 (old b _ e).2]
    exact e
  · by_cases hb : b = P
    · rw [hb, hP] at e
      cases e
      rw [hb, upd_ne pP.symm, upd_ne cP.symm, upd_same]
      exact ⟨more, rfl⟩
    · rw [at_ b hb (old b _ e).1 (old b _ e).2, e]
      exact ⟨#[], by simp⟩
  · by_cases h1 : b = P'
    · rw [h1, upd_same] at e
      cases e
      rw [h1]
      exact tp
    rw [upd_ne h1] at e
    by_cases h2 : b = c'
    · rw [h2, upd_same] at e
      cases e
      rw [h2]
      obtain ⟨o, vs, file, tf, flags, tg, inF, text, tt, g1, _⟩ := id cd
      exact ⟨cd, ⟨o, g1⟩, fun a1 a2 x y => codeHd_at x y⟩
    rw [upd_ne h2] at e
    by_cases h3 : b = P
    · rw [h3, upd_same] at e
      cases e
      rw [h3]
      exact hm
    rw [upd_ne h3] at e
    refine (I.hok b u e).stay (fun d v hd q => k d v ?_ q) (fun d q => ?_) fun d xs q => ?_
    · rcases hd with z | z
      · rw [z]
        exact h3
      · exact nP d _ z fun q z => by cases z
    · rw [at_ d (nP d _ q fun q z => by cases z) (old d _ q).1 (old d _ q).2]
      exact q
    · rw [at_ d (nP d _ q fun q z => by cases z) (old d _ q).1 (old d _ q).2]
      exact q
/-- the code of a generator expression -/
theorem gen_code {c P : Addr} {gpos : Pos} {qn : Str} {scope : Scope} {Q : Value → Shared → Prop} {E : Value → Shared → Prop} (hcode : X.env.code = .ref c) (C : Cod X.base H c P) (T : GxR.TabG H P) (I : Inv X pins σ H s)
    (h : ∀ code s' H', Inv X pins σ H' s' → Grown H H' P gpos code → Q code s') : wpAny (model X.prog X.w) X.A (genexprCode X.env gpos qn scope) Q E s := by
  have cd := C.hd I
  obtain ⟨ps, hP, ht⟩ := T
  have hPs : s.heap.get? P = some { cls := .none, data := .fields ps } := I.hok P _ hP
  cases hf : codeAmong gpos ps.toList with
  | none =>
    refine wpAny_genexprCodeX hcode (cd.code hPs ht) (cd.tab hPs) hf fun c' h' tk hx hge hlt hco' _ htab' ⟨P', hp1, hp2, hp3⟩ => ?_
    have cd' : PySem.W.CodeHd h' c' P' := PySem.W.CodeHd.of hp2 hp3
    have ne : c' ≠ P' := by
      obtain ⟨o, vs, file, tf, flags, tg, inF, text, tt, _, _, _, _, _, _, _, _, _, n⟩ := cd'
      exact n
    exact h _ _ _ (inv_code I hP hx htab'.2 hge hp1 ne cd' hp3.2) (.inr ⟨ps, c', P', hP, hf, rfl, I.hok.fresh hge, I.hok.fresh hp1, ne, rfl⟩)
  | some cv =>
    exact wpAny_genexprCode_hit hcode (cd.code hPs ht) hf (h _ _ _ I (.inl ⟨rfl, ps, hP, hf⟩))
end

/-! ### the context of a generator expression's frame -/
abbrev genX (X : Cx) (s : Shared) (H : Hp) (scope : Scope) (cenv : Env) (Ag : Around) (fp : List Addr) (pn : List (Addr × Obj)) : Cx :=
  { X with A := Ag, s_0 := s, H_0 := H, env := cenv, outer := X.stack, stack := cenv :: X.stack, ex := fp, fn := fun x => scope.names.lookup x == some .cell, pn := pn, xe := fun _ _ => False }
/-- the environment of such a frame at L -/
abbrev genV (X : Cx) (scope : Scope) (L : Addr) (cl : List (Str × Addr)) (code : Value) : Env := newEnv scope L X.env.globals cl (X.env.qual ++ "<genexpr>.") none code none builtinsNs
section
variable {X : Cx} {pins : List (Addr × Obj)} {σ : L2.St} {H : Hp} {s : Shared}
/-- a captured name in the scope as a comprehension would hold it -/
theorem free_kept {sc : Scope} {y : Str} : ∀ {names : List (Str × NameKind)}, names.lookup y = some .free →
    (names.map fun (n, k) => if (k == NameKind.free && sc.kind == .function && sc.names.lookup n == some .cell) then (n, NameKind.cell) else (n, k)).lookup y = some .cell ∨
    (names.map fun (n, k) => if (k == NameKind.free && sc.kind == .function && sc.names.lookup n == some .cell) then (n, NameKind.cell) else (n, k)).lookup y = some .free
  | [], h => by simp at h
  | (n, k) :: r, h => by
    rw [List.map_cons]
    by_cases q : (k == NameKind.free && sc.kind == .function && sc.names.lookup n == some .cell) = true
    · simp only [if_pos q]
      rw [List.lookup_cons] at h ⊢
      cases e : y == n with
      | true => exact .inl rfl
      | false => rw [e] at h; exact free_kept h
    · simp only [if_neg q]
      rw [List.lookup_cons] at h ⊢
      cases e : y == n with
      | true => rw [e] at h; exact .inr h
      | false => rw [e] at h; exact free_kept h
/-- the frame of a generator expression stands, nothing of it has run: out of what holds at a comprehension's block there -/
theorem gen_start {scope : Scope} {own : List (Str × Nat)} {fp : List Addr} {code : Value} {Ag : Around} {h' : Heap} {tk : Nat} {mm : Str → Option Value} (I : Inv X pins σ H s) (ok : BlkOk X.N X.env.scope scope own) (hN : X.N.Nodup) (hfp : ∀ b ∈ fp, FpOk X pins H b ∧ b < s.heap.objs.size)
    (hAh : X.calm = true → Ag.handled = none) (hAf : Ag.frames = some (genV X scope s.heap.objs.size (cellsFrom (s.heap.objs.size + 1) scope.names (cloFrom X.env.cells scope.names [])) code :: X.stack))
    (hn : h'.Ns s.heap.objs.size mm) (hs : Heap.SameBut s.heap.objs.size (pushCells (s.heap.push { cls := .type "frame", data := .dict #[] }) scope.names) h') :
    Inv (genX X s H scope (genV X scope s.heap.objs.size (cellsFrom (s.heap.objs.size + 1) scope.names (cloFrom X.env.cells scope.names [])) code) Ag fp []) [] (wipe σ (own.map (·.2))) H { s with heap := h', toks := tk } := by
  have B := block_start I ok hN hfp
  have kp : ∀ b o, s.heap.get? b = some o → h'.get? b = some o := fun b o e =>
    (hs.2 b (Nat.ne_of_lt (Heap.lt_size e))).trans (pushCells_keeps _ _ _ _ (Heap.get?_push_of_some _ e))
  have vis : ∀ y, scope.names.lookup y = some .free → (relS scope X.env.scope).names.lookup y = some .cell ∨ (relS scope X.env.scope).names.lookup y = some .free := fun y e => free_kept e
  -- the cells: those of the def, and new ones
  have cells : ∀ y c, (cellsFrom (s.heap.objs.size + 1) scope.names (cloFrom X.env.cells scope.names [])).lookup y = some c → ∃ v, h'.IsCell c v ∧ ∀ u, (pushCells (s.heap.push { cls := .type "dict", data := .dict #[] }) scope.names).IsCell c (some u) → v = some u := fun y c e => by
    have hm := PySem.mem_of_lookup e
    have e9 := e
    rw [← Heap.size_push s.heap { cls := .type "frame", data := .dict #[] }] at hm
    rcases cells_mem hm with q | ⟨q0, q1, q2⟩
    · rcases cloFrom_mem q with q | ⟨q1, q2⟩
      · cases q
      · have : ∃ c1, X.env.cells.lookup y = some c1 := by
          rcases ok.free _ q1 rfl with k | k
          · exact I.ok.has _ (.inl k)
          · exact I.ok.has _ (.inr k)
        obtain ⟨c1, hc1⟩ := this
        rw [hc1] at q2
        have q3 : c = c1 := q2
        subst q3
        obtain ⟨v, o, ho, hd⟩ := I.cell _ _ hc1
        refine ⟨v, ⟨o, kp _ _ ho, hd⟩, fun u ⟨o2, ho2, hd2⟩ => ?_⟩
        rw [pushCells_keeps scope.names _ _ _ (Heap.get?_push_of_some { cls := .type "dict", data := .dict #[] } ho)] at ho2
        cases ho2
        rw [hd] at hd2
        cases hd2
        rfl
    · rw [Heap.size_push] at q1
      refine ⟨none, q2.sameBut hs (Nat.ne_of_gt q1), fun u q4 => ?_⟩
      have hm2 := PySem.mem_of_lookup e9
      rw [← Heap.size_push s.heap { cls := .type "dict", data := .dict #[] }] at hm2
      rcases cells_mem hm2 with q | ⟨_, _, ⟨o2, g1, g2⟩⟩
      · rcases cloFrom_mem q with q | ⟨w1, _⟩
        · cases q
        · have g1 := ok.uniq _ q0
          have g2 := ok.uniq _ w1
          rw [show scope.names.lookup y = some NameKind.cell from g1] at g2
          cases g2
      · obtain ⟨o3, g3, g4⟩ := q4
        rw [g1] at g3
        cases g3
        rw [g2] at g4
        cases g4
  refine ⟨⟨I.ok.mod, ok.kind, I.ok.glob, rfl, Nat.le_refl _, B.ok.inj, fun y hy => ?_, B.ok.cab, hAh, hAf, .inr ⟨rfl, rfl⟩, B.ok.exf, I.bs, B.ok.bsz, B.ok.noex, B.ok.exfs, B.ok.funs, B.ok.frf⟩, rfl, I.bare, Un.kept kp, ⟨mm, hn, fun i y av e1 e2 e3 => ?_⟩, fun y c e => ?_, B.free, B.freeC, fun p hp => by simp at hp, I.hok.kept kp, B.len⟩
  · rcases hy with e | e
    · exact B.ok.has y (.inl (lookup_relS_keep (by decide) e))
    · exact B.ok.has y (vis y e)
  · -- a slot that is not wiped is no name of the block's own
    have fr : scope.names.lookup y = some .free := by
      have no : ∀ k', scope.names.lookup y = some k' → (k' = .local ∨ k' = .cell) → False := fun k' e hh => by
        rcases ok.own (y, k') (PySem.mem_of_lookup e) hh with q | q
        · obtain ⟨p, hp, py⟩ := List.mem_map.mp q
          refine (wipe_some e2).2 (List.mem_map.mpr ⟨p, hp, nodup_ix hN (ok.ix p hp) ?_⟩)
          rw [show p.1 = y from py]
          exact e1
        · exact q (List.mem_of_getElem? e1)
      rcases e3 with e3 | e3 | e3
      · exact (no _ e3 (.inl rfl)).elim
      · exact (no _ e3 (.inr rfl)).elim
      · exact e3
    obtain ⟨m, _, hl⟩ := B.loc
    obtain ⟨u, r, q⟩ := hl i y av e1 e2 (.inr (vis y fr))
    refine ⟨u, r, .inr ⟨.inr fr, ?_⟩⟩
    rcases q with ⟨k, _⟩ | ⟨_, c, e, z⟩
    · rcases vis y fr with k' | k' <;> rw [show (relS scope X.env.scope).names.lookup y = some .local from k] at k' <;> cases k'
    · obtain ⟨v, g1, g2⟩ := cells y c e
      have g3 := g2 u z
      subst g3
      exact ⟨c, e, g1⟩
  · obtain ⟨v, g1, _⟩ := cells y c e
    exact ⟨v, g1⟩

/-- the state's generators are other ones, a pin more in the context -/
theorem gen_pinned {scope : Scope} {cenv : Env} {Ag : Around} {fp : List Addr} {s1 : Shared} {h' : Heap} {G : Array GenState} {tk : Nat} {a : Addr} {go : Obj} (I : Inv (genX X s H scope cenv Ag fp []) [] σ H s1) (k : ∀ b u, s1.heap.get? b = some u → h'.get? b = some u) (hG : AllBare G)
    (ha : h'.get? a = some go) (h1 : s1.heap.objs.size ≤ a) (h2 : ∀ v, go.data ≠ .cell v) :
    Inv (genX X s H scope cenv Ag fp [(a, go)]) [] σ H { s1 with gens := G, heap := h', toks := tk } := by
  have J : Inv (genX X s H scope cenv Ag fp []) [] σ H { s1 with gens := G, heap := h', toks := tk } :=
    I.call' (s' := { s1 with gens := G, heap := h', toks := tk }) (ch := []) rfl (Un.kept k) (I.hok.kept k) hG fun b z => by simp at z
  refine ⟨⟨J.ok.mod, J.ok.kind, J.ok.glob, J.ok.blt, J.ok.above, J.ok.inj, J.ok.has, J.ok.cab, J.ok.hd, J.ok.frames, J.ok.stk, J.ok.exf, J.ok.bs, J.ok.bsz, J.ok.noex, J.ok.exfs, J.ok.funs, J.ok.frf⟩, J.os, J.bare, J.base, J.loc, J.cell, J.free, J.freeC, fun p hp => ?_, J.hok, J.len⟩
  have e : p = (a, go) := by simpa using hp
  subst e
  exact ⟨ha, I.hok.fresh h1, Nat.ne_of_gt (Nat.lt_of_lt_of_le I.lt h1), I.nofs h1, h2⟩
end
end Dw

/-! part DwGen2 -/
set_option Elab.async false
set_option linter.all false
set_option maxRecDepth 100000
set_option maxHeartbeats 4000000
namespace Dw
open PySem PySem.Spec PyProof.Rows L2 GenW

/-- behind the generator's frame -/
theorem over_frame {A : Around} {elt : Expr} {cs : List Comprehension} {sc : Scope} {p : Pos} {it acc : Value} {env : Env} :
    (A.over (.compLoop (.GeneratorExp elt cs sc p) 0 it acc env) []).handled = A.handled ∧ (A.over (.compLoop (.GeneratorExp elt cs sc p) 0 it acc env) []).depth = A.depth + 1 ∧
    (A.over (.compLoop (.GeneratorExp elt cs sc p) 0 it acc env) []).frames = A.frames.map (env :: ·) ∧ (A.over (.compLoop (.GeneratorExp elt cs sc p) 0 it acc env) []).units = A.units + 3 := by
  refine ⟨rfl, rfl, ?_, rfl⟩
  show pushEnvs [env] (pushEnvs [] A.frames) = _
  rw [pushEnvs_eq, pushEnvs_eq]
  cases A.frames <;> rfl
theorem over_start {A : Around} {elt : Expr} {cs : List Comprehension} {sc : Scope} {p : Pos} {it acc : Value} {env : Env} :
    A.over (.compStart (.GeneratorExp elt cs sc p) 0 it acc env) [] = A.over (.compLoop (.GeneratorExp elt cs sc p) 0 it acc env) [] := rfl

section
variable {X : Cx}
/-- the turns of all (stp: false), any (stp: true): it ends at the first item that is stp -/
def AAq (stp : Bool) (J : It) (g : TG) (te : TE) (vs : List Nat) (σ : L2.St) (Q : VK) (H2 : Hp) : Prop := ∃ W : Nat → Nat → Hp → Prop, (∃ m, W 0 m H2) ∧ ∀ i m H, W i m H →
    (J.stop i H ∧ Q (.bl (!stp)) H) ∨ (J.go i H ∧ ∃ Nx : Hp → Prop, (∀ H', Nx H' → ∃ m', m' < m ∧ W (i + 1) m' H') ∧ ∀ x H', J.yld i H x H' → g x (wipe σ vs) H' fun σ2 H3 => wipe σ2 vs = wipe σ vs ∧
      te σ2 H3 fun y H4 => ∃ b, y = .bl b ∧ if b = stp then Q (.bl stp) H4 else Nx H4)
/-- .. of the element te over what wi walks -/
def tAA (stp : Bool) (base : Heap) (cd : Value) (gpos : Pos) (wi : TI) (g : TG) (te : Value → TE) (vs : List Nat) : TE := fun σ H Q => wi σ H fun J H1 => ∃ c P, cd = .ref c ∧ Cod base H1 c P ∧ GxR.TabG H1 P ∧
  ∀ code H2, Grown H1 H2 P gpos code → AAq stp J g (te code) vs σ Q H2

/-- the end, and what is handed out -/
def endAA (Xg : Cx) (stp : Bool) (Q : VK) : GenEnd := fun _ _ r s => r = .ok .next ∧ ∃ σ H, Inv Xg [] σ H s ∧ Q (.bl (!stp)) H
def outAA (Xg : Cx) (stp : Bool) (Q : VK) : Protocol := fun _ s₀ v s kap => s₀.gens.size ≤ s.gens.size ∧ ∃ b, v = .bool b ∧ (∃ pins σ H, Inv Xg pins σ H s ∧ (b = stp → Q (.bl stp) H)) ∧
  (b ≠ stp → ∀ s' : Shared, s'.heap = s.heap → s'.os = s.os → AllBare s'.gens → kap (.send .none) s')

theorem inv_gens {pins : List (Addr × Obj)} {σ : L2.St} {H : Hp} {s s' : Shared} (I : Inv X pins σ H s) (h1 : s'.heap = s.heap) (h2 : s'.os = s.os) (h3 : AllBare s'.gens) : Inv X pins σ H s' :=
  I.call' (ch := []) h2 (by rw [h1]; exact Un.refl) (by rw [h1]; exact I.hok) h3 fun b z => by simp at z

theorem seg_aa {stp : Bool} {elt tg iter : Expr} {scope : Scope} {gpos : Pos} {cenv : Env} {fp : List Addr} {it : Addr} {tn : Nat → Heap → Prop} {J : It} {s4 : Shared} {H2 : Hp} {pn : List (Addr × Obj)} {g : TG} {te : TE} {σ : L2.St} {vs : List Nat} {Q : VK} {W : Nat → Nat → Hp → Prop}
    (hc : X.calm = true) (T : Turn X.prog X.w X.K tg J fp it tn) (hpn : ∀ p ∈ pn, ∀ b ∈ fp, p.1 ≠ b) (hco : cenv.scope.isCoroutine = false)
    (pg : PG (genX X s4 H2 scope cenv (X.A.in1.in1.over (.compLoop (.GeneratorExp elt [⟨tg, iter, [], 0⟩] scope gpos) 0 (.ref it) .none cenv) []) fp pn) tg g)
    (pe : PE (genX X s4 H2 scope cenv (X.A.in1.in1.over (.compLoop (.GeneratorExp elt [⟨tg, iter, [], 0⟩] scope gpos) 0 (.ref it) .none cenv) []) fp pn) elt te)
    (turn : ∀ i m H, W i m H → (J.stop i H ∧ Q (.bl (!stp)) H) ∨ (J.go i H ∧ ∃ Nx : Hp → Prop, (∀ H', Nx H' → ∃ m', m' < m ∧ W (i + 1) m' H') ∧ ∀ x H', J.yld i H x H' → g x (wipe σ vs) H' fun σ2 H3 => wipe σ2 vs = wipe σ vs ∧
      te σ2 H3 fun y H4 => ∃ b, y = .bl b ∧ if b = stp then Q (.bl stp) H4 else Nx H4)) :
    ∀ (m n i : Nat) (s₀ s : Shared) (H : Hp), m < n → s₀.gens.size ≤ s.gens.size →
      Inv (genX X s4 H2 scope cenv (X.A.in1.in1.over (.compLoop (.GeneratorExp elt [⟨tg, iter, [], 0⟩] scope gpos) 0 (.ref it) .none cenv) []) fp pn) [] (wipe σ vs) H s → tn i s.heap → (∀ b ∈ fp, H b = none) → W i m H →
      Seg (model X.prog X.w) X.A.in1.in1 (endAA (genX X s4 H2 scope cenv (X.A.in1.in1.over (.compLoop (.GeneratorExp elt [⟨tg, iter, [], 0⟩] scope gpos) 0 (.ref it) .none cenv) []) fp pn) stp Q)
        (outAA (genX X s4 H2 scope cenv (X.A.in1.in1.over (.compLoop (.GeneratorExp elt [⟨tg, iter, [], 0⟩] scope gpos) 0 (.ref it) .none cenv) []) fp pn) stp Q) n s₀
        (.compLoop (.GeneratorExp elt [⟨tg, iter, [], 0⟩] scope gpos) 0 (.ref it) .none cenv) ((model X.prog X.w).den (.compLoop (.GeneratorExp elt [⟨tg, iter, [], 0⟩] scope gpos) 0 (.ref it) .none cenv)) [] s := by
  generalize hXg : genX X s4 H2 scope cenv (X.A.in1.in1.over (.compLoop (.GeneratorExp elt [⟨tg, iter, [], 0⟩] scope gpos) 0 (.ref it) .none cenv) []) fp pn = Xg at pg pe ⊢
  have hA : X.A.in1.in1.over (.compLoop (.GeneratorExp elt [⟨tg, iter, [], 0⟩] scope gpos) 0 (.ref it) .none cenv) [] = Xg.A := by rw [← hXg]
  have hP : X.prog = Xg.prog := by rw [← hXg]
  have hw : X.w = Xg.w := by rw [← hXg]
  have hK : X.K = Xg.K := by rw [← hXg]
  have hcg : Xg.calm = true := by rw [← hXg]; exact hc
  have hE : Xg.env = cenv := by rw [← hXg]
  have hx : Xg.ex = fp := by rw [← hXg]
  have hpn2 : Xg.pn = pn := by rw [← hXg]
  have hxe : Xg.xe = fun _ _ => False := by rw [← hXg]
  have pgr := pg.run
  have per := pe.run
  rw [hxe, hE] at pgr per
  rw [hP, hw, hK] at T
  rw [hP, hw]
  have stat : ∀ {σ' : L2.St} {H' : Hp} {s' : Shared}, Inv Xg [] σ' H' s' → (∀ b ∈ fp, H' b = none) → ∀ b ∈ fp, FpOk Xg [] H' b := fun {σ' H' s'} I' hn b hb => by
    have e1 := I'.ok.exf b (by rw [hx]; exact hb)
    refine ⟨hn b hb, e1.1, I'.ok.exfs b (by rw [hx]; exact hb), .inl (by rw [hx]; exact hb), fun x c e => e1.2 x c e, fun p hp => ?_⟩
    rw [hpn2, List.append_nil] at hp
    exact hpn p hp b hb
  intro m
  induction m using Nat.strongRecOn with
  | ind m ih =>
    intro n i s₀ s H hmn z0 I st nfp w0
    show Seg _ X.A.in1.in1 _ _ n s₀ _ ((compTurn (.GeneratorExp elt [⟨tg, iter, [], 0⟩] scope gpos) 0 (.ref it) .none cenv).onRaise (leaving cenv)) [] s
    rw [compTurn_gen, Sem.onRaise_eq_wrap]
    refine seg_bind_wrap (wpAny_standAt ?_)
    rcases turn i m H w0 with ⟨stop, qq⟩ | ⟨go, Nx, hNx, step⟩
    · have td := T.done Xg rfl rfl rfl hcg i [] s _ H (fun _ _ => False) I (stat I nfp) st stop
      refine seg_bind_wrap ?_
      rw [hA]
      refine thnF td fun r s6 ⟨hr, I6⟩ => ?_
      subst hr
      exact seg_end (.ok .next) ⟨rfl, _, _, I6, qq⟩
    · have ti := T.item Xg rfl rfl rfl hcg i [] s _ H (fun _ _ => False) I (stat I nfp) st go
      refine seg_bind_wrap ?_
      rw [hA]
      refine wpAny_gsz z0 (thnF ti fun r s6 ⟨u, hr, h6⟩ z6 => ?_)
      subst hr
      refine seg_bind_wrap ?_
      rw [hA]
      refine wpAny_gsz z6 (thnF h6 fun _ s7 ⟨x, H7, I7, r7, y7, st7, n7⟩ z7 => ?_)
      have I7' := I7.pinned (stat I7 n7) (T.obj _ _ st7)
      refine seg_bind_wrap ?_
      rw [hA]
      refine wpAny_gsz z7 (thnF (pgr _ s7 _ H7 x u _ I7' r7 (step x H7 y7)) fun _ s8 ⟨σ8, H8, I8, hw8, q8⟩ z8 => ?_)
      refine seg_bind_wrap (wpAny_tests_nil ?_)
      simp only [if_true]
      have hy : ∀ v, yieldOut cenv v = yieldValue v := fun v => by simp only [yieldOut, hco, Bool.false_eq_true, if_false]
      simp only [hy]
      rw [Sem.bind_eq_wrap', Sem.bind_eq_wrap', Sem.wrap_wrap, Sem.wrap_wrap]
      refine seg_wrap ?_
      rw [hA]
      refine wpAny_gsz z8 (thnF (per _ s8 σ8 H8 _ I8 q8) fun y s9 ⟨yv, H9, I9, r9, b, eb, q9⟩ z9 => ?_)
      subst eb
      have ey : y = .bool b := r9
      subst ey
      obtain ⟨k, rfl⟩ : ∃ k, n = k + 1 := ⟨n - 1, by omega⟩
      refine seg_at (seg_yield rfl rfl rfl ⟨z9, b, rfl, ⟨_, _, _, I9, fun e => by rw [if_pos e] at q9; exact q9⟩, fun hne s' g1 g2 g3 => ?_⟩)
      rw [if_neg hne] at q9
      obtain ⟨m', hm', w'⟩ := hNx H9 q9
      have I10 := inv_gens I9 g1 g2 g3
      refine seg_again rfl (ih m' hm' k (i + 1) s' s' H9 (by omega) (Nat.le_refl _) ((I10.unpinned (pins := [])).weak ?_ fun j v e => ?_) ?_ (fun b hb => ?_) w')
      · rw [← hw8, wipe_length]
      · rw [← hw8] at e
        exact (wipe_some e).1
      · refine T.keep _ _ _ st7 fun b hb o e => ?_
        exact (I10.pin (b, o) (List.mem_append_right _ (List.mem_append_right _ (mem_pinsAt hb e)))).1
      · obtain ⟨o, e, _⟩ := T.obj _ _ st7 b hb
        exact (I10.pin (b, o) (List.mem_append_right _ (List.mem_append_right _ (mem_pinsAt hb e)))).2.1
end
end Dw

/-! part DwGen3 -/
set_option Elab.async false
set_option linter.all false
set_option maxRecDepth 100000
set_option maxHeartbeats 4000000
namespace Dw
open PySem PySem.Spec PyProof.Rows L2 GenW

/-- the generator at a, of the number gi, can be asked for its next item -/
def Rdy (X Xg : Cx) (stp : Bool) (Q : VK) (a : Addr) (gi n : Nat) (s : Shared) : Prop :=
  s.heap.IsGen a gi ∧ s.heap.NoLimit ∧ AllBare s.gens ∧ ∃ gs, s.gens[gi]? = some gs ∧
    ∀ s' : Shared, s'.heap = s.heap → s'.os = s.os → AllBare s'.gens → gs.Goes (model X.prog X.w) X.A.in1.in1 (endAA Xg stp Q) (outAA Xg stp Q) n (.send .none) s'
/-- from the generator's context back -/
def Back (X Xg : Cx) (pins : List (Addr × Obj)) (σ : L2.St) : Prop := ∀ pins' σ' H' s1, Inv Xg pins' σ' H' s1 → ∀ s' : Shared,
  (∀ b o, s1.heap.get? b = some o → s'.heap.get? b = some o) → s'.os = s1.os → AllBare s'.gens → Inv X pins σ H' s'
theorem bare_set {G : Array GenState} {g : Nat} {x : GenState} (h : AllBare G) (hx : x.bare = true) : AllBare (G.setIfInBounds g x) := by
  intro y hy
  rcases Array.mem_or_eq_of_mem_setIfInBounds hy with z | z
  · exact h y z
  · rw [z]; exact hx
section
variable {X Xg : Cx} {pins : List (Addr × Obj)} {σ : L2.St} {Q : VK} {a : Addr} {gi : Nat}
/-- one item more -/
theorem next_aa {stp : Bool} {n : Nat} {s : Shared} {A : Around} {E : Value → Shared → Prop} {R : Option Value → Shared → Prop} (hA : A.in1 = X.A.in1.in1) (hh : A.handled = none) (hroom : A.depth < recursionLimit) (hg : ∀ pins σ H s, Inv Xg pins σ H s → s.heap.IsGen a gi)
    (r : Rdy X Xg stp Q a gi n s)
    (hend : ∀ σ' H' s1, Inv Xg [] σ' H' s1 → Q (.bl (!stp)) H' → ∀ s' : Shared, (∀ b o, s1.heap.get? b = some o → s'.heap.get? b = some o) → s'.os = s1.os → AllBare s'.gens → R none s')
    (hstop : ∀ pins' σ' H' s1, Inv Xg pins' σ' H' s1 → Q (.bl stp) H' → ∀ s' : Shared, (∀ b o, s1.heap.get? b = some o → s'.heap.get? b = some o) → s'.os = s1.os → AllBare s'.gens → R (some (.bool stp)) s')
    (hgo : ∀ m s', n = m + 1 → Rdy X Xg stp Q a gi m s' → R (some (.bool (!stp))) s') :
    wpAny (model X.prog X.w) A (pyNext (.ref a)) R E s := by
  obtain ⟨h1, h2, h3, gs, h4, h5⟩ := r
  have hgo1 := h5 (s.setGen gi .running) rfl rfl (bare_set h3 rfl)
  rw [← hA] at hgo1
  refine wpAny_pyNext_genexpQ (P := fun _ _ s => ∃ σ H, Inv Xg [] σ H s ∧ Q (.bl (!stp)) H) hh h2 hroom h1 h4 hgo1 (fun v s1 gs' hb hy => ?_) fun s1 hp h' hk => ?_
  · obtain ⟨hz, b, rfl, ⟨pins', σ', H', I, hs⟩, hn⟩ := hy
    by_cases hbs : b = stp
    · subst hbs
      exact hstop pins' σ' H' s1 I (hs rfl) _ (fun _ _ e => e) rfl (bare_set I.bare hb)
    · have eb : b = !stp := by cases b <;> cases stp <;> simp_all
      subst eb
      have hn := hn hbs
      cases n with
      | zero => exact (hn s1 rfl rfl I.bare).elim
      | succ m =>
        have lt : gi < s1.gens.size := by
          have q1 : gi < s.gens.size := (Array.getElem?_eq_some_iff.mp h4).1
          rw [setGen_size] at hz
          omega
        refine hgo m _ rfl ⟨hg pins' σ' H' s1 I, I.nolimit, bare_set I.bare hb, gs', ?_, fun s' e1 e2 e3 => ?_⟩
        · show (s1.gens.setIfInBounds gi gs')[gi]? = some gs'
          rw [Array.getElem?_setIfInBounds_self, if_pos lt]
        · have := hn s' e1 e2 e3
          rw [hA] at this
          exact this
  · obtain ⟨σ', H', I, q⟩ := hp
    exact hend σ' H' s1 I q _ (fun b o e => hk b o e) rfl (bare_set I.bare rfl)
/-- all(..) asks on -/
theorem loop_all (hr : Room 1 X.A) (hg : ∀ pins σ H s, Inv Xg pins σ H s → s.heap.IsGen a gi) (bk : Back X Xg pins σ) {E : Value → Shared → Prop} : ∀ (n : Nat) (s : Shared), Rdy X Xg false Q a gi n s →
    codeAny (model X.prog X.w) X.A (.builtin "all.loop" ⟨[.ref a], []⟩) (fun r s' => match r with | .ok (.ret v) => EP X pins σ Q v s' | .ok _ => False | .error e => E e s') s := by
  intro n
  induction n with
  | zero =>
    intro s r
    refine codeAny_builtin F.entry_all_loop ?_
    rw [Around.under_plainId F.plain_all_loop _]
    show wpAny _ X.A.in1 (pyNext (.ref a) >>= _) _ _ s
    refine wpAny_bind (next_aa rfl hr.hd (by have := hr.dp; show X.A.depth < _; omega) hg r (fun σ' H' s1 I q s' k1 k2 k3 => ?_) (fun pins' σ' H' s1 I q s' k1 k2 k3 => ?_) fun m s' e _ => by omega)
    · exact wpAny_bind (wpAny_rule (wpAny_pure ⟨.bl true, H', bk _ _ _ _ I s' k1 k2 k3, rfl, q⟩))
    · refine wpAny_bind (wpAny_holding (wpAny_truthy_bool (wpAny_bind (wpAny_letGo ?_))))
      simp only [Bool.false_eq_true, if_false, if_true]
      exact wpAny_bind (wpAny_rule (wpAny_pure ⟨.bl false, H', bk _ _ _ _ I s' k1 k2 k3, rfl, q⟩))
  | succ n ih =>
    intro s r
    refine codeAny_builtin F.entry_all_loop ?_
    rw [Around.under_plainId F.plain_all_loop _]
    show wpAny _ X.A.in1 (pyNext (.ref a) >>= _) _ _ s
    refine wpAny_bind (next_aa rfl hr.hd (by have := hr.dp; show X.A.depth < _; omega) hg r (fun σ' H' s1 I q s' k1 k2 k3 => ?_) (fun pins' σ' H' s1 I q s' k1 k2 k3 => ?_) fun m s' e r' => ?_)
    · exact wpAny_bind (wpAny_rule (wpAny_pure ⟨.bl true, H', bk _ _ _ _ I s' k1 k2 k3, rfl, q⟩))
    · refine wpAny_bind (wpAny_holding (wpAny_truthy_bool (wpAny_bind (wpAny_letGo ?_))))
      simp only [Bool.false_eq_true, if_false, if_true]
      exact wpAny_bind (wpAny_rule (wpAny_pure ⟨.bl false, H', bk _ _ _ _ I s' k1 k2 k3, rfl, q⟩))
    · have em : m = n := by omega
      subst em
      refine wpAny_bind (wpAny_holding (wpAny_truthy_bool (wpAny_bind (wpAny_letGo ?_))))
      simp only [Bool.not_false, Bool.not_true, Bool.false_eq_true, if_false, if_true]
      exact wpAny_pure ⟨plainId_quiet F.plain_all_loop _, ih s' r'⟩
/-- any(..) asks on -/
theorem loop_any (hr : Room 1 X.A) (hg : ∀ pins σ H s, Inv Xg pins σ H s → s.heap.IsGen a gi) (bk : Back X Xg pins σ) {E : Value → Shared → Prop} : ∀ (n : Nat) (s : Shared), Rdy X Xg true Q a gi n s →
    codeAny (model X.prog X.w) X.A (.builtin "any.loop" ⟨[.ref a], []⟩) (fun r s' => match r with | .ok (.ret v) => EP X pins σ Q v s' | .ok _ => False | .error e => E e s') s := by
  intro n
  induction n with
  | zero =>
    intro s r
    refine codeAny_builtin F.entry_any_loop ?_
    rw [Around.under_plainId F.plain_any_loop _]
    show wpAny _ X.A.in1 (pyNext (.ref a) >>= _) _ _ s
    refine wpAny_bind (next_aa rfl hr.hd (by have := hr.dp; show X.A.depth < _; omega) hg r (fun σ' H' s1 I q s' k1 k2 k3 => ?_) (fun pins' σ' H' s1 I q s' k1 k2 k3 => ?_) fun m s' e _ => by omega)
    · exact wpAny_bind (wpAny_rule (wpAny_pure ⟨.bl false, H', bk _ _ _ _ I s' k1 k2 k3, rfl, q⟩))
    · refine wpAny_bind (wpAny_holding (wpAny_truthy_bool (wpAny_bind (wpAny_letGo ?_))))
      simp only [Bool.false_eq_true, if_false, if_true]
      exact wpAny_bind (wpAny_rule (wpAny_pure ⟨.bl true, H', bk _ _ _ _ I s' k1 k2 k3, rfl, q⟩))
  | succ n ih =>
    intro s r
    refine codeAny_builtin F.entry_any_loop ?_
    rw [Around.under_plainId F.plain_any_loop _]
    show wpAny _ X.A.in1 (pyNext (.ref a) >>= _) _ _ s
    refine wpAny_bind (next_aa rfl hr.hd (by have := hr.dp; show X.A.depth < _; omega) hg r (fun σ' H' s1 I q s' k1 k2 k3 => ?_) (fun pins' σ' H' s1 I q s' k1 k2 k3 => ?_) fun m s' e r' => ?_)
    · exact wpAny_bind (wpAny_rule (wpAny_pure ⟨.bl false, H', bk _ _ _ _ I s' k1 k2 k3, rfl, q⟩))
    · refine wpAny_bind (wpAny_holding (wpAny_truthy_bool (wpAny_bind (wpAny_letGo ?_))))
      simp only [Bool.false_eq_true, if_false, if_true]
      exact wpAny_bind (wpAny_rule (wpAny_pure ⟨.bl true, H', bk _ _ _ _ I s' k1 k2 k3, rfl, q⟩))
    · have em : m = n := by omega
      subst em
      refine wpAny_bind (wpAny_holding (wpAny_truthy_bool (wpAny_bind (wpAny_letGo ?_))))
      simp only [Bool.not_false, Bool.not_true, Bool.false_eq_true, if_false, if_true]
      exact wpAny_pure ⟨plainId_quiet F.plain_any_loop _, ih s' r'⟩
end
end Dw

/-! part DwGen4 -/
set_option Elab.async false
set_option linter.all false
set_option maxRecDepth 100000
set_option maxHeartbeats 4000000
namespace Dw
open PySem PySem.Spec PyProof.Rows L2 GenW

section
variable {M : Model} {A : Around} {R : GenEnd} {Y : Protocol} {P : Program} {w : World} {n : Nat} {s₀ s : Shared}
/-- the generator's first steps -/
theorem seg_begin {elt tg iter : Expr} {scope : Scope} {gpos : Pos} {it : Value} {cenv : Env} (self : ∀ (A' : Around) (Q : Value → Shared → Prop) (E : Value → Shared → Prop), Q it s → wpAny (model P w) A' (pyIter it) Q E s)
    (loop : Seg (model P w) A R Y n s₀ (.compLoop (.GeneratorExp elt [⟨tg, iter, [], 0⟩] scope gpos) 0 it .none cenv) ((model P w).den (.compLoop (.GeneratorExp elt [⟨tg, iter, [], 0⟩] scope gpos) 0 it .none cenv)) [] s) :
    Seg (model P w) A R Y n s₀ (.compStart (.GeneratorExp elt [⟨tg, iter, [], 0⟩] scope gpos) 0 it .none cenv) ((model P w).den (.compStart (.GeneratorExp elt [⟨tg, iter, [], 0⟩] scope gpos) 0 it .none cenv)) [] s := by
  show Seg _ A _ _ _ s₀ _ ((compStart (.GeneratorExp elt [⟨tg, iter, [], 0⟩] scope gpos) 0 it .none cenv).onRaise (leaving cenv)) [] s
  unfold compStart
  rw [Sem.onRaise_eq_wrap]
  show Seg _ A _ _ _ s₀ _ ((ask >>= _).wrap _ _ _ _) [] s
  refine seg_bind_wrap (wpAny_askSetting ?_)
  split
  · exact seg_again rfl loop
  · refine seg_bind_wrap (wpAny_rule ?_)
    show Seg _ A _ _ _ s₀ _ ((standAt iter.pos >>= _).wrap _ _ _ _) [] s
    exact seg_bind_wrap (wpAny_standAt (seg_bind_wrap (self _ _ _ (seg_again rfl loop))))
end

section
variable {X : Cx} {pins : List (Addr × Obj)} {σ : L2.St} {H : Hp} {s : Shared}
theorem room_gen {k : Nat} {A : Around} {c : Code} (hr : Room (k + 1) A) (h1 : (A.in1.in1.over c []).handled = A.handled) (h2 : (A.in1.in1.over c []).depth = A.depth + 1) (h3 : (A.in1.in1.over c []).units = A.units + 5) : Room k (A.in1.in1.over c []) := by
  refine ⟨h1.trans hr.hd, ?_, ?_⟩
  · have := hr.dp
    rw [h2]; omega
  · have := hr.un
    rw [h3]; omega
theorem gen_aa {stp : Bool} {elt tg iter : Expr} {scope : Scope} {own : List (Str × Nat)} {gpos : Pos} {wi : TI} {g : TG} {te : Value → TE} {k : Nat} {Q : VK}
    (hc : X.calm = true) (hN : X.N.Nodup) (hr : Room (k + 1) X.A) (hB : BltB X.base X.mg) (hi : PI X tg iter wi) (ok : BlkOk X.N X.env.scope scope own) (hco : scope.isCoroutine = false) (h0 : scope.names.lookup (".0" : Str) = some NameKind.local)
    (hg : ∀ (s : Shared) (H : Hp) (L : Addr) (cl : List (Str × Addr)) (code : Value) (Ag : Around) (fp : List Addr) (pn : List (Addr × Obj)), PG (genX X s H scope (genV X scope L cl code) Ag fp pn) tg g)
    (he : ∀ (s : Shared) (H : Hp) (L : Addr) (cl : List (Str × Addr)) (code : Value) (Ag : Around) (fp : List Addr) (pn : List (Addr × Obj)), Room k Ag → PE (genX X s H scope (genV X scope L cl code) Ag fp pn) elt (te code))
    (hs : ∀ v, genFold iter X.env v = pure v) (I : Inv X pins σ H s) (h : tAA stp X.base X.env.code gpos wi g te (own.map (·.2)) σ H Q) :
    wpAny (model X.prog X.w) X.A (eval (.GeneratorExp elt [⟨tg, iter, [], 0⟩] scope gpos) X.env)
      (fun v s5 => ∃ a gi n Xg, v = .ref a ∧ Rdy X Xg stp Q a gi n s5 ∧ (∀ pins σ H s, Inv Xg pins σ H s → s.heap.IsGen a gi) ∧ Back X Xg pins σ) X.xe s := by
  have hfree : ∀ y ∈ scope.names, y.2 = .free → ∃ c, X.env.cells.lookup y.1 = some c := fun y hy e => by
    rcases ok.free y hy e with z | z
    · exact I.ok.has _ (.inl z)
    · exact I.ok.has _ (.inr z)
  rw [eval_GeneratorExp1 _ _ _ _ _ _ _ hco, closure_ok hfree]
  refine wpAny_bind (thn (hi.run pins s σ H _ I h) fun v s1 h1 => ?_)
  refine wpAny_bind (wpAny_standAt (wpAny_bind (wpAny_of_eq (hs v) ?_)))
  refine wpAny_bind (wpAny_holding (thn h1 fun itv s2 h2 => ?_))
  obtain ⟨it, fp, tn, J, H1, e, I2, T, st2, f2, c, P, hcd, C, hT, q⟩ := h2
  subst e
  refine wpAny_bind (wpAny_enterFrame I2.nolimit hr.depth (wpAny_bind (wpAny_pure ?_)))
  have I2' := I2.pinned f2 (T.obj _ _ st2)
  refine wpAny_bind (gen_code hcd C hT I2' fun code s3 H3 I3' G => ?_)
  have I3 : Inv X pins σ H3 s3 := I3'.unpinned
  have pinned : ∀ b ∈ fp, ∀ o, s2.heap.get? b = some o → s3.heap.get? b = some o ∧ H3 b = none := fun b hb o e =>
    let z := I3'.pin (b, o) (List.mem_append_right _ (List.mem_append_right _ (mem_pinsAt hb e)))
    ⟨z.1, z.2.1⟩
  have f3 : ∀ b ∈ fp, FpOk X pins H3 b ∧ b < s3.heap.objs.size := fun b hb => by
    obtain ⟨o, e, _⟩ := T.obj _ _ st2 b hb
    obtain ⟨e1, e2⟩ := pinned b hb o e
    exact ⟨⟨e2, (f2 b hb).2⟩, Heap.lt_size e1⟩
  have st3 : tn 0 s3.heap := T.keep _ _ _ st2 fun b hb o e => (pinned b hb o e).1
  obtain ⟨W, ⟨m0, w0⟩, turn⟩ := q code H3 G
  obtain ⟨bm, ob, b1, b2, b3, b4, b5, b6⟩ := hB
  refine wpAny_bind (wpAny_builtinsFor (m := X.mg) (by rw [I.ok.glob]; exact I.mod.glob.keeps I3.bk) b1 b2 (I3.bk _ _ b3) b4 b5 b6 ?_)
  refine wpAny_bind (frameMade ok.kind h0 fun h4 tk4 hn4 hs4 => ?_)
  simp only [newGenerator, newFields]
  refine wpAny_bind (wpAny_newGen (wpAny_bind (wpAny_mkText (wpAny_bind (wpAny_mkText (wpAny_newObj_type ?_ (by size_fits)))))))
  -- the context
  have ov := over_frame (A := X.A.in1.in1) (elt := elt) (cs := [⟨tg, iter, [], 0⟩]) (sc := scope) (p := gpos) (it := .ref it) (acc := .none) (env := genV X scope s3.heap.objs.size (cellsFrom (s3.heap.objs.size + 1) scope.names (cloFrom X.env.cells scope.names [])) code)
  have I4 := gen_start (tk := tk4) (code := code) (Ag := X.A.in1.in1.over (.compLoop (.GeneratorExp elt [⟨tg, iter, [], 0⟩] scope gpos) 0 (.ref it) .none (genV X scope s3.heap.objs.size (cellsFrom (s3.heap.objs.size + 1) scope.names (cloFrom X.env.cells scope.names [])) code)) []) I3 ok hN f3
    (fun _ => ov.1.trans hr.hd) (by rw [ov.2.2.1]; show X.A.frames.map _ = _; rw [I.ok.frames]; rfl) hn4 hs4
  have hroom : Room k (X.A.in1.in1.over (.compLoop (.GeneratorExp elt [⟨tg, iter, [], 0⟩] scope gpos) 0 (.ref it) .none (genV X scope s3.heap.objs.size (cellsFrom (s3.heap.objs.size + 1) scope.names (cloFrom X.env.cells scope.names [])) code)) []) :=
    room_gen hr ov.1 ov.2.1 ov.2.2.2
  generalize hgo : ({ cls := .type "generator", data := .fields #[.int s3.gens.size 0, .str "<genexpr>" (tk4), .str (X.env.qual ++ "<genexpr>") (tk4 + 1)] } : Obj) = go
  have hsz4 : s3.heap.objs.size < h4.objs.size := hn4.lt
  have kp4 : ∀ b o, s3.heap.get? b = some o → h4.get? b = some o := fun b o e => (hs4.2 b (Nat.ne_of_lt (Heap.lt_size e))).trans (pushCells_keeps _ _ _ _ (Heap.get?_push_of_some _ e))
  have fin : ∀ (G5 : Array GenState) (tk5 : Nat), G5 = s3.gens.push (.fresh (.compStart (.GeneratorExp elt [⟨tg, iter, [], 0⟩] scope gpos) 0 (.ref it) .none (genV X scope s3.heap.objs.size (cellsFrom (s3.heap.objs.size + 1) scope.names (cloFrom X.env.cells scope.names [])) code))) →
      ∃ a gi n Xg, Value.ref h4.objs.size = .ref a ∧ Rdy X Xg stp Q a gi n { s3 with gens := G5, toks := tk5, heap := h4.push go } ∧ (∀ pins σ H s, Inv Xg pins σ H s → s.heap.IsGen a gi) ∧ Back X Xg pins σ := by
    intro G5 tk5 hG5
    have bare5 : AllBare G5 := by
      rw [hG5]
      exact AllBare.push I3.bare rfl
    have hga : (h4.push go).get? h4.objs.size = some go := Heap.get?_push_size _ (by rw [← hgo]; rfl)
    have isg : ∀ h : Heap, h.get? h4.objs.size = some go → h.IsGen h4.objs.size s3.gens.size := fun h e => by
      subst hgo
      exact ⟨_, _, _, e, rfl, rfl, rfl⟩
    have I5 := gen_pinned (s1 := { s3 with heap := h4, toks := tk4 }) (G := G5) (tk := tk5) (h' := h4.push go) (a := h4.objs.size) (go := go) I4 (fun b u e => Heap.get?_push_of_some _ e) bare5 hga (Nat.le_refl _) (fun v z => by rw [← hgo] at z; cases z)
    have hpn : ∀ p ∈ [(h4.objs.size, go)], ∀ b ∈ fp, p.1 ≠ b := fun p hp b hb => by
      have e : p = (h4.objs.size, go) := by simpa using hp
      subst e
      exact Nat.ne_of_gt (Nat.lt_trans (f3 b hb).2 hsz4)
    have nfp : ∀ b ∈ fp, H3 b = none := fun b hb => (f3 b hb).1.1
    have st5 : tn 0 (h4.push go) := T.keep _ _ _ st3 fun b _ o e => Heap.get?_push_of_some _ (kp4 b o e)
    refine ⟨h4.objs.size, s3.gens.size, m0 + 1, (genX X s3 H3 scope (genV X scope s3.heap.objs.size (cellsFrom (s3.heap.objs.size + 1) scope.names (cloFrom X.env.cells scope.names [])) code) (X.A.in1.in1.over (.compLoop (.GeneratorExp elt [⟨tg, iter, [], 0⟩] scope gpos) 0 (.ref it) .none (genV X scope s3.heap.objs.size (cellsFrom (s3.heap.objs.size + 1) scope.names (cloFrom X.env.cells scope.names [])) code)) []) fp [(h4.objs.size, go)]), rfl,
      ⟨isg _ hga, I5.nolimit, bare5, .fresh (.compStart (.GeneratorExp elt [⟨tg, iter, [], 0⟩] scope gpos) 0 (.ref it) .none (genV X scope s3.heap.objs.size (cellsFrom (s3.heap.objs.size + 1) scope.names (cloFrom X.env.cells scope.names [])) code)), ?_, fun s' e1 e2 e3 => ⟨rfl, ?_⟩⟩, fun pins σ H s J => ?_, ?_⟩
    · rw [hG5]
      exact Array.getElem?_push_size ..
    · have I6 := inv_gens (s' := s') I5 e1 e2 e3
      have st6 : tn 0 s'.heap := by rw [e1]; exact st5
      refine seg_begin (fun A' Q' E' hq => T.self A' 0 s' Q' E' st6 hq) ?_
      exact seg_aa hc T hpn hco (hg _ _ _ _ _ _ _ _) (he _ _ _ _ _ _ _ _ hroom) turn m0 (m0 + 1) 0 s' s' H3 (Nat.lt_succ_self _) (Nat.le_refl _) I6 st6 nfp w0
    · exact isg _ (J.pin (h4.objs.size, go) (List.mem_append_left _ (List.mem_singleton.mpr rfl))).1
    · intro pins' σ' H' s1 J s' k1 k2 k3
      refine I3.call' (ch := fp) (k2.trans J.os) (J.base.trans (Un.kept k1)) (J.hok.kept k1) k3 fun b hb => ?_
      obtain ⟨_, g1, _, g3, g4, g5⟩ := (f3 b hb).1
      exact ⟨g3, g1, g4, g5⟩
  rw [← hgo] at fin
  exact fin _ _ rfl
end
end Dw

/-! part DwGen5 -/
set_option Elab.async false
set_option linter.all false
set_option maxRecDepth 100000
set_option maxHeartbeats 4000000
namespace Dw
open PySem PySem.Spec PyProof.Rows L2 GenW

section
variable {X : Cx}
/-- all(elt for tg in iter) -/
theorem pe_allG {elt tg iter : Expr} {scope : Scope} {own : List (Str × Nat)} {gpos p pos : Pos} {wi : TI} {g : TG} {te : Value → TE} {k : Nat}
    (hc : X.calm = true) (hN : X.N.Nodup) (hr : Room (k + 1) X.A) (hB : BltB X.base X.mg) (hgl : Gl X "all") (hm : X.mg "all" = none) (hi : PI X tg iter wi) (ok : BlkOk X.N X.env.scope scope own)
    (hg : ∀ (s : Shared) (H : Hp) (L : Addr) (cl : List (Str × Addr)) (code : Value) (Ag : Around) (fp : List Addr) (pn : List (Addr × Obj)), PG (genX X s H scope (genV X scope L cl code) Ag fp pn) tg g)
    (he : ∀ (s : Shared) (H : Hp) (L : Addr) (cl : List (Str × Addr)) (code : Value) (Ag : Around) (fp : List Addr) (pn : List (Addr × Obj)), Room k Ag → PE (genX X s H scope (genV X scope L cl code) Ag fp pn) elt (te code))
    (hco : scope.isCoroutine = false := by rfl) (h0 : scope.names.lookup (".0" : Str) = some NameKind.local := by rfl) (hs : ∀ v, genFold iter X.env v = pure v := by intro _; rfl)
    (hse : starEach [.GeneratorExp elt [⟨tg, iter, [], 0⟩] scope gpos] X.env = (false, eval (.GeneratorExp elt [⟨tg, iter, [], 0⟩] scope gpos) X.env) :: starEach [] X.env := by rfl) :
    PE X (.Call (.Name "all" p) [.GeneratorExp elt [⟨tg, iter, [], 0⟩] scope gpos] [] pos) (tAA false X.base X.env.code gpos wi g te (own.map (·.2))) := by
  refine ⟨fun pins s σ H Q I h => ?_⟩
  refine wpAny_Call_Name_kw (ld_blt I hgl hm (show bootBuiltins "all" = some (.builtin "all") by decide +kernel) ?_)
  refine PyProof.Rows.callWith_builtin1 ?_ hse (by rfl)
  rw [hse]
  show wpAny _ _ (spliced ((false, eval (.GeneratorExp elt [⟨tg, iter, [], 0⟩] scope gpos) X.env) :: backTo pos (starEach [] X.env))) _ _ s
  refine Calls.spliced_cons (thn (gen_aa hc hN hr hB hi ok hco h0 hg he hs I h) fun v s5 ⟨a, gi, n, Xg, e, r, hgen, bk⟩ => ?_)
  subst e
  refine Calls.spliced_nil ?_
  refine call_function_tree F.kind_all F.plain_all F.entry_all (F.args_all1 _) ?_
  unfold Builtin.«all»
  refine wpAny_bind (m := oneArg "all" _) (wpAny_pure ?_)
  refine wpAny_bind (wpAny_pyIter_gen r.1 ?_)
  exact wpAny_pure ⟨plainId_quiet F.plain_all_loop _, loop_all (hr.mono (by omega)) hgen bk n s5 r⟩
/-- any(elt for tg in iter) -/
theorem pe_anyG {elt tg iter : Expr} {scope : Scope} {own : List (Str × Nat)} {gpos p pos : Pos} {wi : TI} {g : TG} {te : Value → TE} {k : Nat}
    (hc : X.calm = true) (hN : X.N.Nodup) (hr : Room (k + 1) X.A) (hB : BltB X.base X.mg) (hgl : Gl X "any") (hm : X.mg "any" = none) (hi : PI X tg iter wi) (ok : BlkOk X.N X.env.scope scope own)
    (hg : ∀ (s : Shared) (H : Hp) (L : Addr) (cl : List (Str × Addr)) (code : Value) (Ag : Around) (fp : List Addr) (pn : List (Addr × Obj)), PG (genX X s H scope (genV X scope L cl code) Ag fp pn) tg g)
    (he : ∀ (s : Shared) (H : Hp) (L : Addr) (cl : List (Str × Addr)) (code : Value) (Ag : Around) (fp : List Addr) (pn : List (Addr × Obj)), Room k Ag → PE (genX X s H scope (genV X scope L cl code) Ag fp pn) elt (te code))
    (hco : scope.isCoroutine = false := by rfl) (h0 : scope.names.lookup (".0" : Str) = some NameKind.local := by rfl) (hs : ∀ v, genFold iter X.env v = pure v := by intro _; rfl)
    (hse : starEach [.GeneratorExp elt [⟨tg, iter, [], 0⟩] scope gpos] X.env = (false, eval (.GeneratorExp elt [⟨tg, iter, [], 0⟩] scope gpos) X.env) :: starEach [] X.env := by rfl) :
    PE X (.Call (.Name "any" p) [.GeneratorExp elt [⟨tg, iter, [], 0⟩] scope gpos] [] pos) (tAA true X.base X.env.code gpos wi g te (own.map (·.2))) := by
  refine ⟨fun pins s σ H Q I h => ?_⟩
  refine wpAny_Call_Name_kw (ld_blt I hgl hm (show bootBuiltins "any" = some (.builtin "any") by decide +kernel) ?_)
  refine PyProof.Rows.callWith_builtin1 ?_ hse (by rfl)
  rw [hse]
  show wpAny _ _ (spliced ((false, eval (.GeneratorExp elt [⟨tg, iter, [], 0⟩] scope gpos) X.env) :: backTo pos (starEach [] X.env))) _ _ s
  refine Calls.spliced_cons (thn (gen_aa hc hN hr hB hi ok hco h0 hg he hs I h) fun v s5 ⟨a, gi, n, Xg, e, r, hgen, bk⟩ => ?_)
  subst e
  refine Calls.spliced_nil ?_
  refine call_function_tree F.kind_any F.plain_any F.entry_any (F.args_any1 _) ?_
  unfold Builtin.«any»
  refine wpAny_bind (m := oneArg "any" _) (wpAny_pure ?_)
  refine wpAny_bind (wpAny_pyIter_gen r.1 ?_)
  exact wpAny_pure ⟨plainId_quiet F.plain_any_loop _, loop_any (hr.mono (by omega)) hgen bk n s5 r⟩
end
end Dw

/-! part DwDict -/
set_option Elab.async false
set_option linter.all false
set_option maxRecDepth 100000
set_option maxHeartbeats 4000000
/-! lots (tuples of ints), stands (tuples of lots), dicts whose keys are stands -/
namespace Dw
open PySem PySem.Spec PyProof.Rows L2

abbrev Lot := List Int
abbrev Stand := List Lot
/-- v is a tuple of the ints xs -/
def IsL (H : Hp) (v : V) (xs : Lot) : Prop := ∃ a, v = .ref a ∧ H a = some (.tup (xs.map V.int))
/-- v is a tuple of such tuples -/
def IsS (H : Hp) (v : V) (s : Stand) : Prop := ∃ a ps, v = .ref a ∧ H a = some (.tup ps) ∧ Paired (IsL H) ps s
/-- the tuples stay -/
def KT (H H' : Hp) : Prop := ∀ a xs, H a = some (.tup xs) → H' a = some (.tup xs)
theorem KT.refl (H : Hp) : KT H H := fun _ _ h => h
theorem KT.trans {H H1 H2 : Hp} (a : KT H H1) (b : KT H1 H2) : KT H H2 := fun c xs h => b c xs (a c xs h)
theorem IsL.keep {H H' : Hp} {v : V} {xs : Lot} (h : IsL H v xs) (k : KT H H') : IsL H' v xs := by
  obtain ⟨a, e, h⟩ := h
  exact ⟨a, e, k a _ h⟩
theorem IsS.keep {H H' : Hp} {v : V} {s : Stand} (h : IsS H v s) (k : KT H H') : IsS H' v s := by
  obtain ⟨a, ps, e, h, p⟩ := h
  exact ⟨a, ps, e, k a _ h, Paired.mapP p fun _ _ q => q.keep k⟩

def kL (xs : Lot) : NestedKey := .tup (xs.map .num)
def kS (s : Stand) : NestedKey := .tup (s.map kL)
theorem num_inj : ∀ {xs ys : List Int}, xs.map NestedKey.num = ys.map NestedKey.num → xs = ys
  | [], [], _ => rfl
  | [], _ :: _, h => by simp at h
  | _ :: _, [], h => by simp at h
  | x :: xs, y :: ys, h => by
    simp only [List.map_cons, List.cons.injEq, NestedKey.num.injEq] at h
    rw [h.1, num_inj h.2]
theorem kL_inj {xs ys : Lot} (h : kL xs = kL ys) : xs = ys := by
  unfold kL at h
  injection h with h
  exact num_inj h
theorem kS_inj {s t : Stand} (h : kS s = kS t) : s = t := by
  unfold kS at h
  injection h with h
  have : ∀ {a b : List Lot}, a.map kL = b.map kL → a = b := by
    intro a
    induction a with
    | nil => intro b h; cases b <;> simp_all
    | cons x a ih =>
      intro b h
      cases b with
      | nil => simp at h
      | cons y b =>
        simp only [List.map_cons, List.cons.injEq] at h
        rw [kL_inj h.1, ih h.2]
  exact this h
theorem nums_depth : ∀ xs : List Int, NestedKey.depthAll (xs.map .num) = 0
  | [] => rfl
  | x :: xs => by
    simp only [List.map_cons, NestedKey.depthAll, NestedKey.depth, nums_depth xs]
    rfl
theorem kL_depth (xs : Lot) : (kL xs).depth = 1 := by
  unfold kL
  simp only [NestedKey.depth, nums_depth]
theorem lots_depth : ∀ s : Stand, NestedKey.depthAll (s.map kL) ≤ 1
  | [] => Nat.zero_le _
  | x :: s => by
    have := lots_depth s
    simp only [List.map_cons, NestedKey.depthAll, kL_depth]
    omega
theorem kS_depth (s : Stand) : (kS s).depth ≤ 2 := by
  have := lots_depth s
  unfold kS
  simp only [NestedKey.depth]
  omega

section
variable {X : Cx} {pins : List (Addr × Obj)} {σ : L2.St} {H : Hp} {s : Shared}
theorem ints_nested {h : Heap} : ∀ {xs : List Int} {us : List Value}, Vals (xs.map V.int) us → NestedAll h (xs.map .num) us
  | [], _, .nil => .nil
  | x :: xs, _, .cons r t => by
    obtain ⟨tk, rfl⟩ := r
    exact .cons (.int x tk) (ints_nested t)
theorem IsL.nested {v : V} {u : Value} {xs : Lot} (I : Inv X pins σ H s) (h : IsL H v xs) (r : RelV v u) : NestedIs s.heap (kL xs) u := by
  obtain ⟨a, rfl, h⟩ := h
  cases r
  obtain ⟨its, rv, ⟨o, ho, hc, n, hd⟩, _⟩ := I.tuple (SqT.of h)
  exact .tup ho hc hd (by simpa using ints_nested rv)
theorem lots_nested (I : Inv X pins σ H s) : ∀ {ps : List V} {t : Stand} {us : List Value}, Paired (IsL H) ps t → Vals ps us → NestedAll s.heap (t.map kL) us
  | _, _, _, .nil, .nil => .nil
  | _, _, _, .cons p q, .cons r w => .cons (p.nested I r) (lots_nested I q w)
theorem IsS.nested {v : V} {u : Value} {t : Stand} (I : Inv X pins σ H s) (h : IsS H v t) (r : RelV v u) : NestedIs s.heap (kS t) u := by
  obtain ⟨a, ps, rfl, h, p⟩ := h
  cases r
  obtain ⟨its, rv, ⟨o, ho, hc, n, hd⟩, _⟩ := I.tuple (SqT.of h)
  exact .tup ho hc hd (by simpa using lots_nested I p rv)
theorem IsS.key {a : Addr} {t : Stand} (I : Inv X pins σ H s) (h : IsS H (.ref a) t) : (nestedKind X.prog X.w).is s.heap (kS t) a :=
  ⟨h.nested I rfl, Nat.le_trans (kS_depth t) (by decide)⟩
end

/-! ### dicts -/
abbrev Ent := Stand × Addr × V
def entR (x : Ent) (y : NestedKey × Addr × Value) : Prop := y.1 = kS x.1 ∧ y.2.1 = x.2.1 ∧ RelV x.2.2 y.2.2
def dictO (P : Program) (w : World) (d : Addr) (xs : List Ent) : HO := .ext fun h => ∃ o es ep ys, h.get? d = some o ∧ o.ExactDict ∧ o.data = .dict es ep ∧ Paired entR xs ys ∧ es.toList = ys.map (entryOfKey (nestedKind P w)) ∧ (ys.map (·.1)).Nodup
def lkS (xs : List Ent) (t : Stand) : Option V := (xs.find? fun x => decide (x.1 = t)).map (·.2.2)
/-- the dict at d gives f, it has at most n entries -/
structure DS (P : Program) (w : World) (H : Hp) (d : Addr) (f : Stand → Option V) (n : Nat) : Prop where
  ex : ∃ xs, H d = some (dictO P w d xs) ∧ (∀ x ∈ xs, IsS H (.ref x.2.1) x.1) ∧ (∀ t, lkS xs t = f t) ∧ xs.length ≤ n
  sm : (d == sysModules) = false
  nc : ∀ P2, H d ≠ some (.ext fun h => PySem.W.CodeHd h d P2)
theorem DS.keep {P : Program} {w : World} {H H' : Hp} {d : Addr} {f : Stand → Option V} {n : Nat} (D : DS P w H d f n) (k : KT H H') (hd : ∀ o, H d = some o → H' d = some o) : DS P w H' d f n := by
  obtain ⟨xs, h1, h2, h3⟩ := D.ex
  exact ⟨⟨xs, hd _ h1, fun x hx => (h2 x hx).keep k, h3⟩, D.sm, fun P2 z => D.nc P2 (by rw [h1, ← z, hd _ h1])⟩
theorem DS.there {P : Program} {w : World} {H : Hp} {d : Addr} {f : Stand → Option V} {n : Nat} (D : DS P w H d f n) : ∃ o, H d = some o ∧ ∀ xs, o ≠ .tup xs := by
  obtain ⟨xs, h1, _⟩ := D.ex
  exact ⟨_, h1, fun xs z => by cases z⟩

theorem find_R : ∀ {xs : List Ent} {ys : List (NestedKey × Addr × Value)} (t : Stand), Paired entR xs ys → (lkS xs t = none ∧ atKey ys (kS t) = none) ∨ ∃ v p, lkS xs t = some v ∧ atKey ys (kS t) = some p ∧ RelV v p.2
  | _, _, t, .nil => .inl ⟨rfl, rfl⟩
  | x :: xs, y :: ys, t, .cons r q => by
    by_cases e : x.1 = t
    · refine .inr ⟨x.2.2, y.2, ?_, ?_, r.2.2⟩
      · simp [lkS, e]
      · simp [atKey, r.1, e]
    · have e2 : ¬ y.1 = kS t := fun z => e (kS_inj (r.1.symm.trans z))
      have ih := find_R t q
      have a1 : lkS (x :: xs) t = lkS xs t := by simp [lkS, e]
      have a2 : atKey (y :: ys) (kS t) = atKey ys (kS t) := by simp [atKey, e2]
      rw [a1, a2]
      exact ih
/-- behind a store -/
def putS (xs : List Ent) (t : Stand) (a : Addr) (v : V) : List Ent := if (lkS xs t).isSome then xs.map (fun x => if x.1 = t then (x.1, x.2.1, v) else x) else xs ++ [(t, a, v)]
theorem putS_len (xs : List Ent) (t : Stand) (a : Addr) (v : V) : (putS xs t a v).length ≤ xs.length + 1 := by
  unfold putS
  split
  · rw [List.length_map]
    omega
  · rw [List.length_append]
    exact Nat.le_refl _
theorem lkS_map (t u : Stand) (v : V) : ∀ xs : List Ent, lkS (xs.map fun x => if x.1 = t then (x.1, x.2.1, v) else x) u = if u = t then (lkS xs t).map (fun _ => v) else lkS xs u
  | [] => by simp [lkS]
  | x :: xs => by
    have ih := lkS_map t u v xs
    unfold lkS at ih ⊢
    rw [List.map_cons]
    by_cases h1 : x.1 = t
    · rw [if_pos h1]
      by_cases h2 : u = t
      · simp [h1, h2]
      · have h3 : ¬ x.1 = u := fun z => h2 (z.symm.trans h1)
        rw [List.find?_cons_of_neg (by simpa using h3), ih, if_neg h2, if_neg h2, List.find?_cons_of_neg (by simpa using h3)]
    · rw [if_neg h1]
      by_cases h3 : x.1 = u
      · have h2 : ¬ u = t := fun z => h1 (h3.trans z)
        rw [List.find?_cons_of_pos (by simpa using h3), if_neg h2, List.find?_cons_of_pos (by simpa using h3)]
      · rw [List.find?_cons_of_neg (by simpa using h3), ih]
        have g1 : (x :: xs).find? (fun x : Ent => decide (x.1 = t)) = xs.find? fun x => decide (x.1 = t) := by simp [h1]
        have g2 : (x :: xs).find? (fun x : Ent => decide (x.1 = u)) = xs.find? fun x => decide (x.1 = u) := by simp [h3]
        rw [g1, g2]
theorem lkS_put (xs : List Ent) (t u : Stand) (a : Addr) (v : V) : lkS (putS xs t a v) u = if u = t then some v else lkS xs u := by
  unfold putS
  cases h : lkS xs t with
  | some z =>
    rw [Option.isSome_some, if_pos rfl, lkS_map, h]
    rfl
  | none =>
    rw [Option.isSome_none, if_neg (by decide)]
    by_cases h2 : u = t
    · rw [if_pos h2, h2]
      unfold lkS at h ⊢
      rw [List.find?_append]
      rw [Option.map_eq_none_iff] at h
      rw [h]
      simp
    · rw [if_neg h2]
      unfold lkS
      rw [List.find?_append]
      have h3 : ¬ t = u := fun z => h2 z.symm
      cases xs.find? (fun x => decide (x.1 = u)) <;> simp [h3]
theorem putS_R {xs : List Ent} {ys : List (NestedKey × Addr × Value)} (t : Stand) (a : Addr) {v : V} {u : Value} (rv : RelV v u) (q : Paired entR xs ys) : Paired entR (putS xs t a v) (storedH ys (kS t) a u) := by
  have mp : ∀ {xs : List Ent} {ys : List (NestedKey × Addr × Value)}, Paired entR xs ys → Paired entR (xs.map fun x => if x.1 = t then (x.1, x.2.1, v) else x) (ys.map (putAt (kS t) u)) := by
    intro xs ys q
    induction q with
    | nil => exact .nil
    | @cons x y xs ys r q ih =>
      refine .cons ?_ ih
      by_cases e : x.1 = t
      · have e2 : y.1 = kS t := by rw [r.1, e]
        simp only [putAt, if_pos e, if_pos e2]
        exact ⟨r.1, r.2.1, rv⟩
      · have e2 : ¬ y.1 = kS t := fun z => e (kS_inj (r.1.symm.trans z))
        simp only [putAt, if_neg e, if_neg e2]
        exact r
  have ap : ∀ {xs : List Ent} {ys : List (NestedKey × Addr × Value)}, Paired entR xs ys → Paired entR (xs ++ [(t, a, v)]) (ys ++ [(kS t, a, u)]) := by
    intro xs ys q
    induction q with
    | nil => exact .cons ⟨rfl, rfl, rv⟩ .nil
    | cons r q ih => exact .cons r ih
  rcases find_R t q with ⟨h1, h2⟩ | ⟨v', p, h1, h2, _⟩
  · rw [storedH_new h2]
    unfold putS
    rw [h1, Option.isSome_none, if_neg (by decide)]
    exact ap q
  · rw [storedH_old h2]
    unfold putS
    rw [h1, Option.isSome_some, if_pos rfl]
    exact mp q

section
variable {X : Cx} {pins : List (Addr × Obj)} {σ : L2.St} {H : Hp} {s : Shared} {d : Addr} {f : Stand → Option V} {n : Nat} {A : Around} {E : Value → Shared → Prop} {y : V} {u : Value} {t : Stand}
theorem dictO_new {P : Program} {w : World} {H : Hp} {h : Heap} {xs : List Ent} {ys : List (NestedKey × Addr × Value)} (q : Paired entR xs ys) {o : Obj} {es : Array DictEntry} {ep : Nat} (h1 : h.get? d = some o) (h2 : o.ExactDict) (h3 : o.data = .dict es ep)
    (h4 : es.toList = ys.map (entryOfKey (nestedKind P w))) (h5 : (ys.map (·.1)).Nodup) : ObjOk P w H h d (dictO P w d xs) := by
  refine ⟨⟨o, es, ep, ys, h1, h2, h3, q, h4, h5⟩, ⟨o, h1⟩, fun a b ⟨o', es', ep', ys', g1, r⟩ k => ⟨o', es', ep', ys', k _ g1, r⟩⟩
/-- the dict in the heap -/
theorem dictO_nc {xs : List Ent} (I : Inv X pins σ H s) (h : H d = some (dictO X.prog X.w d xs)) : ∀ P2, H d ≠ some (.ext fun h => PySem.W.CodeHd h d P2) := fun P2 z => by
  obtain ⟨o, es, ep, ys, h1, _, h2, _⟩ := (I.hok d _ h).1
  obtain ⟨oc, vs, file, tf, flags, tg, inF, text, tt, g1, _, g2, _⟩ := (I.hok d _ z).1
  rw [h1] at g1
  cases g1
  rw [h2] at g2
  cases g2
theorem DS.heap (I : Inv X pins σ H s) (D : DS X.prog X.w H d f n) : ∃ xs ys, H d = some (dictO X.prog X.w d xs) ∧ (∀ x ∈ xs, IsS H (.ref x.2.1) x.1) ∧ (∀ t, lkS xs t = f t) ∧ xs.length ≤ n ∧ Paired entR xs ys ∧ s.heap.DictOfH (nestedKind X.prog X.w) d ys := by
  obtain ⟨xs, h1, h2, h3, h4⟩ := D.ex
  obtain ⟨⟨o, es, ep, ys, g1, g2, g3, g4, g5, g6⟩, _⟩ := I.hok d _ h1
  refine ⟨xs, ys, h1, h2, h3, h4, g4, o, es, ep, g1, g2, g3, g5, ?_, g6⟩
  have all : ∀ {xs : List Ent} {ys : List (NestedKey × Addr × Value)}, Paired entR xs ys → (∀ x ∈ xs, IsS H (.ref x.2.1) x.1) → ∀ y ∈ ys, (nestedKind X.prog X.w).is s.heap y.1 y.2.1 := by
    intro xs ys q
    induction q with
    | nil => intro _ y hy; cases hy
    | @cons x y xs ys r q ih =>
      intro hx z hz
      rcases List.mem_cons.mp hz with e | hz
      · subst e
        have := (hx x List.mem_cons_self).key I
        rw [r.1, r.2.1]
        exact this
      · exact ih (fun x hx' => hx x (List.mem_cons_of_mem _ hx')) z hz
  exact all g4 h2
theorem room8 {A : Around} (hu : A.units + 64 < cLine) : (nestedKind X.prog X.w).room A.in1 := by
  show A.units + 1 + 8 < cLine
  omega
/-- y in d -/
theorem s_in {Q : Value → Shared → Prop} (hu : A.units + 64 < cLine) (I : Inv X pins σ H s) (D : DS X.prog X.w H d f n) (hk : IsS H y t) (ry : RelV y u) (h : ∀ s', Inv X pins σ H s' → Q (.bool (f t).isSome) s') :
    wpAny (model X.prog X.w) A (compareOp .In u (.ref d)) Q E s := by
  obtain ⟨xs, ys, h1, h2, h3, h4, h5, h6⟩ := D.heap I
  obtain ⟨a, ps, rfl, _⟩ := id hk
  cases ry
  refine wpAny_in_heap (room8 hu) (hk.key I) D.sm h6 ?_
  have e : (atKey ys (kS t)).isSome = (f t).isSome := by
    rw [← h3]
    rcases find_R t h5 with ⟨g1, g2⟩ | ⟨v, p, g1, g2, _⟩ <;> rw [g1, g2] <;> rfl
  rw [e]
  exact h _ (I.tok _)
theorem s_notIn {Q : Value → Shared → Prop} (hu : A.units + 64 < cLine) (I : Inv X pins σ H s) (D : DS X.prog X.w H d f n) (hk : IsS H y t) (ry : RelV y u) (h : ∀ s', Inv X pins σ H s' → Q (.bool (!(f t).isSome)) s') :
    wpAny (model X.prog X.w) A (compareOp .NotIn u (.ref d)) Q E s := by
  obtain ⟨xs, ys, h1, h2, h3, h4, h5, h6⟩ := D.heap I
  obtain ⟨a, ps, rfl, _⟩ := id hk
  cases ry
  refine wpAny_notIn_heap (room8 hu) (hk.key I) D.sm h6 ?_
  have e : (atKey ys (kS t)).isSome = (f t).isSome := by
    rw [← h3]
    rcases find_R t h5 with ⟨g1, g2⟩ | ⟨v, p, g1, g2, _⟩ <;> rw [g1, g2] <;> rfl
  rw [e]
  exact h _ (I.tok _)
/-- d[y], there -/
theorem s_getItem {v : V} {Q : Value → Shared → Prop} (hu : A.units + 64 < cLine) (I : Inv X pins σ H s) (D : DS X.prog X.w H d f n) (hk : IsS H y t) (ry : RelV y u) (hv : f t = some v) (h : ∀ w' s', Inv X pins σ H s' → RelV v w' → Q w' s') :
    wpAny (model X.prog X.w) A (getItem (.ref d) u) Q E s := by
  obtain ⟨xs, ys, h1, h2, h3, h4, h5, h6⟩ := D.heap I
  obtain ⟨a, ps, rfl, _⟩ := id hk
  cases ry
  rcases find_R t h5 with ⟨g1, g2⟩ | ⟨v', p, g1, g2, g3⟩
  · rw [h3, hv] at g1
    cases g1
  · rw [h3, hv] at g1
    cases g1
    exact wpAny_getItem_heap (room8 hu) (hk.key I) h6 g2 (h _ _ (I.tok _) g3)
/-- d.get(y), d.get(y, x) -/
theorem s_get1 {Q : Value → Shared → Prop} (hu : A.units + 64 < cLine) (I : Inv X pins σ H s) (D : DS X.prog X.w H d f n) (hk : IsS H y t) (ry : RelV y u) (h : ∀ w' s', Inv X pins σ H s' → RelV ((f t).getD .non) w' → Q w' s') :
    wpAny (model X.prog X.w) A (call (.builtin "dict.get") [.ref d, u]) Q E s := by
  obtain ⟨xs, ys, h1, h2, h3, h4, h5, h6⟩ := D.heap I
  obtain ⟨a, ps, rfl, _⟩ := id hk
  cases ry
  refine get_keyed (knd := nestedKind X.prog X.w) (room8 hu) (hk.key I) D.sm ⟨ys, h6, rfl⟩ (h _ _ (I.tok _) ?_)
  rw [valueAt_pairsH, ← h3]
  rcases find_R t h5 with ⟨g1, g2⟩ | ⟨v', p, g1, g2, g3⟩
  · rw [g1, g2]
    rfl
  · rw [g1, g2]
    exact g3
theorem s_get2 {z : V} {r : Value} {Q : Value → Shared → Prop} (hu : A.units + 64 < cLine) (I : Inv X pins σ H s) (D : DS X.prog X.w H d f n) (hk : IsS H y t) (ry : RelV y u) (rz : RelV z r) (h : ∀ w' s', Inv X pins σ H s' → RelV ((f t).getD z) w' → Q w' s') :
    wpAny (model X.prog X.w) A (call (.builtin "dict.get") [.ref d, u, r]) Q E s := by
  obtain ⟨xs, ys, h1, h2, h3, h4, h5, h6⟩ := D.heap I
  obtain ⟨a, ps, rfl, _⟩ := id hk
  cases ry
  refine getOr_keyed (knd := nestedKind X.prog X.w) (room8 hu) (hk.key I) D.sm ⟨ys, h6, rfl⟩ (h _ _ (I.tok _) ?_)
  rw [valueAt_pairsH, ← h3]
  rcases find_R t h5 with ⟨g1, g2⟩ | ⟨v', p, g1, g2, g3⟩
  · rw [g1, g2]
    exact rz
  · rw [g1, g2]
    exact g3
/-- d[y] = v -/
theorem s_setItem {v : V} {r : Value} {Q : Unit → Shared → Prop} (hu : A.units + 64 < cLine) (I : Inv X pins σ H s) (D : DS X.prog X.w H d f n) (hn : n ≤ sizeLine) (hk : IsS H y t) (ry : RelV y u) (rv : RelV v r)
    (h : ∀ H' s', Inv X pins σ H' s' → (∀ b, b ≠ d → H' b = H b) → DS X.prog X.w H' d (fun q => if q = t then some v else f q) (n + 1) → Q () s') : wpAny (model X.prog X.w) A (setItem (.ref d) u r) Q E s := by
  obtain ⟨xs, ys, h1, h2, h3, h4, h5, h6⟩ := D.heap I
  obtain ⟨a, ps, rfl, _⟩ := id hk
  cases ry
  have hl : ys.length ≤ sizeLine := by
    have e := Paired.length h5
    omega
  refine wpAny_setItem_heap (hsz := hl) (room8 hu) (hk.key I) h6 fun h' hm' hs => ?_
  obtain ⟨o, es, ep, q1, q2, q3, q4, q5, q6⟩ := hm'
  have kt : KT H (upd H d (dictO X.prog X.w d (putS xs t a v))) := fun c zs e => by
    rw [upd_ne (ne_of e h1 (by intro z; cases z))]
    exact e
  have J := d_write (t' := s.toks + (nestedKind X.prog X.w).draws (kS t)) I (by rw [h1]; exact True.intro) hs ⟨o, q1⟩ (dictO_new (w := X.w) (P := X.prog) (H := upd H d (dictO X.prog X.w d (putS xs t a v))) (putS_R t a rv h5) q1 q2 q3 q4 q6)
  refine h _ _ J (fun b hb => upd_ne hb) ⟨⟨putS xs t a v, upd_same, fun x hx => ?_, fun q => ?_, Nat.le_trans (putS_len _ _ _ _) (Nat.succ_le_succ h4)⟩, D.sm, dictO_nc J upd_same⟩
  · unfold putS at hx
    split at hx
    · obtain ⟨z, hz, e⟩ := List.mem_map.mp hx
      by_cases c : z.1 = t
      · rw [if_pos c] at e
        rw [← e]
        exact (h2 z hz).keep kt
      · rw [if_neg c] at e
        rw [← e]
        exact (h2 z hz).keep kt
    · rcases List.mem_append.mp hx with hx | hx
      · exact (h2 x hx).keep kt
      · rw [List.mem_singleton.mp hx]
        exact hk.keep kt
  · rw [lkS_put, h3]
end

/-! ### readings and rules -/
section
variable {X : Cx} {o i e fe value : Expr} {pos pos' apos cpos : Pos} {td ty tv tx : TE}
def rDSIn (P : Program) (w : World) : R2 := fun x y H Q => ∃ t d f n, IsS H x t ∧ y = .ref d ∧ DS P w H d f n ∧ Q (.bl (f t).isSome) H
def rDSNotIn (P : Program) (w : World) : R2 := fun x y H Q => ∃ t d f n, IsS H x t ∧ y = .ref d ∧ DS P w H d f n ∧ Q (.bl (!(f t).isSome)) H
theorem op_inDS (hu : X.A.units + 64 < cLine) : OpR X (compareOp .In) (rDSIn X.prog X.w) := by
  intro pins s σ H x y v u Q I rx ry h
  obtain ⟨t, d, f, n, hk, rfl, D, q⟩ := h
  cases ry
  exact s_in hu I D hk rx fun s' I' => ⟨.bl _, H, I', rfl, q⟩
theorem op_notInDS (hu : X.A.units + 64 < cLine) : OpR X (compareOp .NotIn) (rDSNotIn X.prog X.w) := by
  intro pins s σ H x y v u Q I rx ry h
  obtain ⟨t, d, f, n, hk, rfl, D, q⟩ := h
  cases ry
  exact s_notIn hu I D hk rx fun s' I' => ⟨.bl _, H, I', rfl, q⟩
/-- d[y] -/
def tDSGet (P : Program) (w : World) (td ty : TE) : TE := fun σ H Q => td σ H fun x H1 => ty σ H1 fun y H2 => ∃ t d f n v, x = .ref d ∧ IsS H2 y t ∧ DS P w H2 d f n ∧ f t = some v ∧ Q v H2
theorem pe_dsget (hu : X.A.units + 64 < cLine) (ho : PE X o td) (hi : PE X i ty) (hs : NoSl i) : PE X (.Subscript o i pos) (tDSGet X.prog X.w td ty) := by
  refine ⟨fun pins s σ H Q I h => ?_⟩
  refine subD_of PySem.F.slot_dict_getitem.lookup hs (thn (ho.run pins s σ H _ I h) fun u s1 ⟨x, H1, I1, rx, q1⟩ => thn (hi.run pins s1 σ H1 _ I1 q1) fun iv s2 ⟨y, H2, I2, ry, t, d, f, n, v, ex, hk, D, hv, q2⟩ => ?_)
  subst ex
  obtain rfl : u = Value.ref d := rx
  obtain ⟨xs, ys, _, _, _, _, _, hm⟩ := D.heap I2
  exact ⟨hm.typeIs, s_getItem hu I2 D hk ry hv fun w' s3 I3 rw' => ⟨v, H2, I3, rw', q2⟩⟩
/-- d[y] = v -/
def sDSPut (P : Program) (w : World) (td ty tv : TE) : TS := fun D σ H => tv σ H fun v H1 => td σ H1 fun x H2 => ty σ H2 fun y H3 => ∃ t d f n, x = .ref d ∧ IsS H3 y t ∧ DS P w H3 d f n ∧ n ≤ sizeLine ∧
  ∀ H4, (∀ b, b ≠ d → H4 b = H3 b) → DS P w H4 d (fun q => if q = t then some v else f q) (n + 1) → D.nx σ H4
theorem ps_dsput (hu : X.A.units + 64 < cLine) (ho : PE X o td) (hi : PE X i ty) (hv : PE X value tv) (hs : swapsWith value (some (.Subscript o i pos')) pos.line X.env = pure false := by rfl) :
    PS X (.Assign [.Subscript o i pos'] value pos) (sDSPut X.prog X.w td ty tv) := by
  refine ⟨fun pins s σ H D I h => ?_⟩
  refine wpAny_Assign_Subscript (thn (hv.run pins s σ H _ I h) fun r s1 ⟨v, H1, I1, rv, q1⟩ => thn (ho.run pins s1 σ H1 _ I1 q1) fun u s2 ⟨x, H2, I2, rx, q2⟩ => thn (hi.run pins s2 σ H2 _ I2 q2) fun iv s3 ⟨y, H3, I3, ry, t, d, f, n, ex, hk, DD, hn, q3⟩ => ?_) hs
  subst ex
  obtain rfl : u = Value.ref d := rx
  exact s_setItem hu I3 DD hn hk ry rv fun H4 s4 I4 e1 e2 => ⟨σ, H4, I4, q3 H4 e1 e2⟩
/-- a dict there -/
def IsDS (P : Program) (w : World) (H : Hp) (d : Addr) : Prop := ∃ f n, DS P w H d f n
/-- d.get(y), d.get(y, x) -/
def tDSGet1 (P : Program) (w : World) (td ty : TE) : TE := fun σ H Q => td σ H fun x H1 => ∃ d, x = .ref d ∧ IsDS P w H1 d ∧ ty σ H1 fun y H2 => ∃ t f n, IsS H2 y t ∧ DS P w H2 d f n ∧ Q ((f t).getD .non) H2
def tDSGet2 (P : Program) (w : World) (td ty tx : TE) : TE := fun σ H Q => td σ H fun x H1 => ∃ d, x = .ref d ∧ IsDS P w H1 d ∧ ty σ H1 fun y H2 => tx σ H2 fun z H3 => ∃ t f n, IsS H3 y t ∧ DS P w H3 d f n ∧ Q ((f t).getD z) H3
theorem isDS_at {pins : List (Addr × Obj)} {σ : L2.St} {H : Hp} {s : Shared} {d : Addr} (I : Inv X pins σ H s) (D : IsDS X.prog X.w H d) : s.TypeIs (.ref d) "dict" ∧ ∀ b, Value.ref d = .ref b → ∃ ob, s.heap.get? b = some ob ∧ ob.dict = none := by
  obtain ⟨f, n, D⟩ := D
  obtain ⟨xs, ys, _, _, _, _, _, hm⟩ := D.heap I
  refine ⟨hm.typeIs, fun b q => ?_⟩
  cases q
  obtain ⟨ob, _, _, h1, h2, _⟩ := hm
  exact ⟨ob, h1, h2.2.1⟩
theorem pe_dsget1 (hu : X.A.units + 64 < cLine) (ho : PE X o td) (he : PE X e ty) (m : M1 X o "get" apos e cpos) : PE X (.Call (.Attribute o "get" apos) [e] [] cpos) (tDSGet1 X.prog X.w td ty) := by
  refine ⟨fun pins s σ H Q I h => ?_⟩
  refine wpAny_Call_method m.base m.few m.line PySem.F.plainAttrs_dict PySem.F.slot_dict_get PySem.F.type_dict_get (thn (ho.run pins s σ H _ I h) fun u s1 ⟨x, H1, I1, rx, d, ex, D, q1⟩ => ?_)
  subst ex
  obtain rfl : u = Value.ref d := rx
  obtain ⟨t1, t2⟩ := isDS_at I1 D
  refine ⟨t1, t2, ?_⟩
  rw [m.trees]
  refine Calls.callWith_builtin rfl (Calls.evalArgs_plain (Calls.spliced_cons (thn (he.run pins s1 σ H1 _ I1 q1) fun iv s2 ⟨y, H2, I2, ry, t, f, n, hk, D2, q2⟩ => Calls.spliced_nil ?_)))
  exact s_get1 hu I2 D2 hk ry fun w' s3 I3 rw' => ⟨_, H2, I3, rw', q2⟩
theorem pe_dsget2 (hu : X.A.units + 64 < cLine) (ho : PE X o td) (he : PE X e ty) (hf : PE X fe tx) (m : M2 X o "get" apos e fe cpos) : PE X (.Call (.Attribute o "get" apos) [e, fe] [] cpos) (tDSGet2 X.prog X.w td ty tx) := by
  refine ⟨fun pins s σ H Q I h => ?_⟩
  refine wpAny_Call_method m.base m.few m.line PySem.F.plainAttrs_dict PySem.F.slot_dict_get PySem.F.type_dict_get (thn (ho.run pins s σ H _ I h) fun u s1 ⟨x, H1, I1, rx, d, ex, D, q1⟩ => ?_)
  subst ex
  obtain rfl : u = Value.ref d := rx
  obtain ⟨t1, t2⟩ := isDS_at I1 D
  refine ⟨t1, t2, ?_⟩
  rw [m.trees]
  refine Calls.callWith_builtin rfl (Calls.evalArgs_plain (Calls.spliced_cons (thn (he.run pins s1 σ H1 _ I1 q1) fun iv s2 ⟨y, H2, I2, ry, q2⟩ =>
    Calls.spliced_cons (thn (hf.run pins s2 σ H2 _ I2 q2) fun fv s3 ⟨z, H3, I3, rz, t, f, n, hk, D3, q3⟩ => Calls.spliced_nil ?_))))
  exact s_get2 hu I3 D3 hk ry rz fun w' s4 I4 rw' => ⟨_, H3, I4, rw', q3⟩
/-- {} -/
def tDSNew (P : Program) (w : World) : TE := fun _ H Q => ∀ d H', H d = none → (∀ b, b ≠ d → H' b = H b) → DS P w H' d (fun _ => none) 0 → Q (.ref d) H'
theorem ds_empty {pins : List (Addr × Obj)} {σ : L2.St} {H : Hp} {s : Shared} (I : Inv X pins σ H s) :
    Inv X pins σ (upd H s.heap.objs.size (dictO X.prog X.w s.heap.objs.size [])) { s with heap := s.heap.push { cls := .type "dict", data := .dict #[] }, toks := s.toks } ∧ DS X.prog X.w (upd H s.heap.objs.size (dictO X.prog X.w s.heap.objs.size [])) s.heap.objs.size (fun _ => none) 0 := by
  obtain ⟨o, es, ep, h1, h2, h3, h4, h5, h6⟩ := Heap.DictOfH.new (knd := nestedKind X.prog X.w) s.heap
  have J := I.laid (t' := s.toks) (fun _ _ q => Heap.get?_push_of_some _ q) (Nat.le_refl _) (dictO_new (w := X.w) (P := X.prog) (H := upd H s.heap.objs.size (dictO X.prog X.w s.heap.objs.size [])) .nil h1 h2 h3 h4 h6)
  refine ⟨J, ⟨[], upd_same, (fun x hx => by cases hx), fun t => rfl, Nat.le_refl _⟩, ?_, dictO_nc J upd_same⟩
  exact beq_eq_false_iff_ne.mpr (Nat.ne_of_gt I.big)
theorem pe_dsnew : PE X (.Dict [] [] pos) (tDSNew X.prog X.w) := by
  refine ⟨fun pins s σ H Q I h => ?_⟩
  obtain ⟨J, D⟩ := ds_empty I
  exact wpAny_Dict_empty ⟨.ref s.heap.objs.size, _, J, rfl, h _ _ (I.hok.fresh (Nat.le_refl _)) (fun b hb => upd_ne hb) D⟩
/-- {k: v} -/
def tDSOne (P : Program) (w : World) (tk tv : TE) : TE := fun σ H Q => ∀ d H0, H d = none → (∀ b, b ≠ d → H0 b = H b) → DS P w H0 d (fun _ => none) 0 → tk σ H0 fun y H1 => tv σ H1 fun v H2 => ∃ t, IsS H2 y t ∧ DS P w H2 d (fun _ => none) 0 ∧
  ∀ H3, (∀ b, b ≠ d → H3 b = H2 b) → DS P w H3 d (fun q => if q = t then some v else none) 1 → Q (.ref d) H3
theorem pe_dsone {k v : Expr} {tk tv : TE} (hu : X.A.units + 64 < cLine) (hk : PE X k tk) (hv : PE X v tv) : PE X (.Dict [some k] [v] pos) (tDSOne X.prog X.w tk tv) := by
  refine ⟨fun pins s σ H Q I h => ?_⟩
  obtain ⟨J, D⟩ := ds_empty I
  have q0 := h _ _ (I.hok.fresh (Nat.le_refl _)) (fun b hb => upd_ne hb) D
  rw [arm_eval_Dict, zip_pairTrees [some k] [v] X.env pos rfl rfl, dictDisplay_pairs (pairTrees [some k] [v] X.env pos) (by intro z; cases z) (by show 1 < 17; decide)]
  refine wpAny_bind (wpAny_standAt (wpAny_bind (wpAny_subDictH (knd := nestedKind X.prog X.w) (Q := fun d s' => wpAny (model X.prog X.w) X.A (pure (Value.ref d)) (EP X pins σ Q) X.xe s') (by show X.A.units + 8 < cLine; omega) (by show 1 ≤ 15; decide) ?_)))
  refine pairTrees_cons_walk (thn (hk.run pins _ σ _ _ J q0) fun u s1 ⟨y, H1, I1, ry, q1⟩ => thn (hv.run pins s1 σ H1 _ I1 q1) fun r s2 ⟨vv, H2, I2, rv, t, hkey, D2, q2⟩ => pairTrees_nil_walk ?_)
  obtain ⟨xs, ys, h1, h2, h3, h4, h5, h6⟩ := D2.heap I2
  have e1 : xs = [] := List.length_eq_zero_iff.mp (Nat.le_zero.mp h4)
  subst e1
  cases h5
  obtain ⟨a, ps, rfl, _⟩ := id hkey
  cases ry
  refine ⟨[(kS t, a, r)], ⟨rfl, rfl, hkey.key I2, trivial⟩, h6, fun h' tok hm hs => wpAny_pure ?_⟩
  obtain ⟨o, es, ep, g1, g2, g3, g4, g5, g6⟩ := hm
  have kt : KT H2 (upd H2 s.heap.objs.size (dictO X.prog X.w s.heap.objs.size [(t, a, vv)])) := fun c zs e => by
    rw [upd_ne (ne_of e h1 (by intro z; cases z))]
    exact e
  have J2 := d_write (t' := tok) I2 (by rw [h1]; exact True.intro) hs ⟨o, g1⟩ (dictO_new (w := X.w) (P := X.prog) (H := upd H2 s.heap.objs.size (dictO X.prog X.w s.heap.objs.size [(t, a, vv)])) (.cons ⟨rfl, rfl, rv⟩ .nil) g1 g2 g3 g4 g6)
  refine ⟨.ref s.heap.objs.size, _, J2, rfl, q2 _ (fun b hb => upd_ne hb) ⟨⟨_, upd_same, fun x hx => ?_, fun q => ?_, Nat.le_refl _⟩, D2.sm, dictO_nc J2 upd_same⟩⟩
  · rw [List.mem_singleton.mp hx]
    exact hkey.keep kt
  · by_cases e : q = t
    · rw [if_pos e, e]
      simp [lkS]
    · have e2 : ¬ t = q := fun z => e z.symm
      rw [if_neg e]
      simp [lkS, e2]
end
end Dw

/-! part DwSet -/
set_option Elab.async false
set_option linter.all false
set_option maxRecDepth 100000
set_option maxHeartbeats 4000000
/-! set(xs) of a list, by an invariant of one's own; sets of ints -/
namespace Dw
open PySem PySem.Spec PyProof.Rows L2

abbrev set0 (w : World) : Obj := { cls := .type "set", dict := none, data := .set #[] 0 (.fresh 0 0 (!w.params.followText "set-order")) }
section
variable {P : Program} {w : World} {A : Around} {E : Value → Shared → Prop} {s : Shared}
/-- the walked things are added one by one: Gd i, what holds of the heap behind i of them -/
theorem upd_any {I S : Addr} {fp wr : List Addr} {G : Array GenState → Array GenState → Prop} {n : Nat} {Pv : Nat → Value → Prop} {St : Nat → Shared → Prop} {R : Result → Shared → Prop} (W : WalksS P w A.in1 I fp wr G n Pv St) (out : S ∉ fp) (Gd : Nat → Heap → Prop)
    (stay : ∀ i h h', Gd i h → (∀ b o, b ∉ wr → h.get? b = some o → h'.get? b = some o) → Gd i h')
    (add : ∀ i v (s : Shared) (Q : Bool → Shared → Prop) (E : Value → Shared → Prop), i < n → Pv i v → Gd i s.heap → (∀ h' tk b, s.toks ≤ tk → Heap.SameBut S s.heap h' → Gd (i + 1) h' → Q b { s with heap := h', toks := tk }) → wpAny (model P w) A.in1 (setAdd S v) Q E s) :
    ∀ (left i : Nat) (s : Shared), n - i = left → i ≤ n → St i s → Gd i s.heap → (∀ s', Moved (S :: wr) G s s' → Gd n s'.heap → R (.ok (.ret .none)) s') → codeAny (model P w) A (.builtin "set.update.loop" ⟨[.ref S, .ref I], []⟩) R s := by
  have nw : ∀ b, b ∈ wr → b ∈ S :: wr := fun b q => List.mem_cons_of_mem _ q
  intro left
  induction left with
  | zero =>
    intro i s e hi st g fin
    obtain rfl : i = n := Nat.le_antisymm hi (by omega)
    refine codeAny_builtin F.entry_set_update_loop ?_
    rw [Around.under_plainId F.plain_set_update_loop _]
    show wpAny _ _ (pyNext (.ref I) >>= _) _ _ _
    exact wpAny_bind (W.done s _ _ st fun s' m => wpAny_pure (fin s' (m.mono nw) (stay _ _ _ g m.heap)))
  | succ left go =>
    intro i s e hi st g fin
    have lt : i < n := by omega
    refine codeAny_builtin F.entry_set_update_loop ?_
    rw [Around.under_plainId F.plain_set_update_loop _]
    show wpAny _ _ (pyNext (.ref I) >>= _) _ _ _
    refine wpAny_bind (W.item i s _ _ lt st fun v s1 hv st1 m => ?_)
    show wpAny _ _ (holding [v] (setAdd S v) >>= _) _ _ _
    refine wpAny_bind (wpAny_holding (add i v s1 _ _ lt hv (stay _ _ _ g m.heap) fun h2 tk b ht sb g2 => ?_))
    refine wpAny_pure ⟨plainId_quiet F.plain_set_update_loop _, go (i + 1) _ (by omega) lt (W.frame _ s1 _ _ st1 ht fun b q o z => (sb.2 b fun y => out (y ▸ q)).trans z) g2 fun s3 m3 g3 => ?_⟩
    exact fin s3 (Moved.trans W.gtrans ((m.mono nw).then_heap ht fun b o q z => (sb.2 b fun y => q (y ▸ List.mem_cons_self)).trans z) m3) g3

set_option maxHeartbeats 8000000 in
/-- set(xs), xs a list: Gd i tells of the set's object behind i items -/
theorem call_set_lst {l : Addr} {its : Array Value} {Q : Value → Shared → Prop} (Gd : Nat → Heap → Prop) (hd : A.handled = none) (hl : s.heap.IsList l its)
    (g0 : ∀ h, h.get? s.heap.objs.size = some (set0 w) → Gd 0 h) (stay : ∀ i h h', Gd i h → (∀ o, h.get? s.heap.objs.size = some o → h'.get? s.heap.objs.size = some o) → Gd i h')
    (add : ∀ (B : Around) i v (s1 : Shared) (Q : Bool → Shared → Prop) (E : Value → Shared → Prop), B.units ≤ A.units + 8 → its[i]? = some v → (∀ b o, s.heap.get? b = some o → s1.heap.get? b = some o) → Gd i s1.heap →
      (∀ h' tk b, s1.toks ≤ tk → Heap.SameBut s.heap.objs.size s1.heap h' → Gd (i + 1) h' → Q b { s1 with heap := h', toks := tk }) → wpAny (model P w) B (setAdd s.heap.objs.size v) Q E s1)
    (h : ∀ h' tk, Gd its.size h' → (∀ b o, s.heap.get? b = some o → h'.get? b = some o) → Q (.ref s.heap.objs.size) { s with heap := h', toks := tk }) :
    wpAny (model P w) A (call (.type "set") [.ref l]) Q E s := by
  obtain ⟨c, tl, chain⟩ := F.called_set.mro
  have made := F.called_set.made
  have below := F.called_set.sub
  refine wpAny_call (codeAny_of_tree ?_)
  show wpAny _ _ (callAny (.type "set") _) _ _ _
  refine wpAny_pure ⟨Code.quiet_builtin _ (by decide +kernel), codeAny_builtin F.entry_type_call ?_⟩
  rw [Around.under_plain (weight_type_call_type "set" [.ref l] []) rfl]
  have t1 := F.called_set.notType
  have t2 := F.called_set.canCreate
  have t3 := F.typeCall_set_1 (.ref l)
  repeat (any_goals (first | assumption | wp_step))
  refine codeAny_mono (code_set_led1 (.ref l) (E := E) (Q₁ := fun u s1 => u = .ref s.heap.objs.size ∧ s1 = { s with heap := s.heap.push (set0 w) }) ⟨rfl, rfl⟩) fun r s1 hr => ?_
  cases r with
  | error e => exact hr
  | ok fl => cases fl with
    | next => exact hr.elim
    | brk => exact hr.elim
    | cont => exact hr.elim
    | ret u =>
      obtain ⟨rfl, rfl⟩ := hr
      have hS : (s.heap.push (set0 w)).get? s.heap.objs.size = some (set0 w) := Heap.get?_push_size _ rfl
      have tS : Shared.TypeIs { s with heap := s.heap.push (set0 w) } (.ref s.heap.objs.size) "set" := ⟨_, hS, rfl⟩
      have i1 := F.called_set.init.lookup
      have i2 := F.called_set.init.bind (.ref s.heap.objs.size)
      repeat (any_goals (first | assumption | wp_step))
      refine codeAny_mono (codeAny_call_builtin (R := wants (fun r s2 => r = .none ∧ ∃ h' tk, s2 = { s with heap := h', toks := tk } ∧ Gd its.size h' ∧ (∀ b o, s.heap.get? b = some o → h'.get? b = some o)) E)
        F.called_set.init.plain F.entry_set_init (check_set_init_1 tS ?_)) fun r2 s2 hr2 => ?_
      · obtain ⟨⟨oc, od, dt, os⟩, ho, hc, nl, hdt⟩ := id hl
        dsimp only at hc hdt
        subst hc hdt
        have ho1 : (s.heap.push (set0 w)).get? l = some { cls := .type "list", dict := od, data := .seq its nl, slots := os } := Heap.get?_push_of_some _ ho
        have b1 := F.sub_list_set
        have b2 := F.sub_list_frozenset
        have ne : (Value.type "list" == Value.type "dict") = false := by decide
        have hl1 : (s.heap.push (set0 w)).IsList l its := ⟨_, ho1, rfl, nl, rfl⟩
        unfold Builtin.«set.__init__» noKeywords Builtin.Frozenset.updateFrom
        generalize hPI : pyIter = PI
        wp_walk
        subst hPI
        refine wpAny_pyIter_list hl1 (wpAny_bind (wpAny_runValue ?_))
        have lS : l < s.heap.objs.size := Heap.lt_size ho
        have sz1 : (s.heap.push (set0 w)).objs.size = s.heap.objs.size + 1 := Heap.size_push ..
        have nI : l ≠ (s.heap.push (set0 w)).objs.size := by
          rw [sz1]
          exact Nat.ne_of_lt (Nat.lt_succ_of_lt lS)
        have nS : s.heap.objs.size ∉ [(s.heap.push (set0 w)).objs.size, l] := by
          rw [sz1]
          simp only [List.mem_cons, List.not_mem_nil, or_false, not_or]
          exact ⟨Nat.ne_of_lt (Nat.lt_succ_self _), Nat.ne_of_gt lS⟩
        have old : ∀ {b o}, s.heap.get? b = some o → b ≠ (s.heap.push (set0 w)).objs.size := fun {b o} e => by
          rw [sz1]
          exact Nat.ne_of_lt (Nat.lt_succ_of_lt (Heap.lt_size e))
        have nh : A.in1.in1.in1.handled = none := by simp [hd]
        refine upd_any ((Walks.list nh _ l nI its).toS) nS (fun i h' => Gd i h' ∧ ∀ b o, s.heap.get? b = some o → h'.get? b = some o) (fun i h1 h2 g k => ⟨stay _ _ _ g.1 fun o e => k _ o (by rw [List.mem_singleton, sz1]; exact Nat.ne_of_lt (Nat.lt_succ_self _)) e, fun b o e => k b o (by rw [List.mem_singleton]; exact old e) (g.2 b o e)⟩)
          (fun i v s1 Q1 E1 hi hv g hq => add _ i v s1 Q1 E1 (by simp [Around.in1, Around.under]) hv g.2 g.1 fun h' tk b ht sb g2 => hq h' tk b ht sb ⟨g2, fun b o e => (sb.2 b (Nat.ne_of_lt (Heap.lt_size e))).trans (g.2 b o e)⟩)
          (its.size - 0) 0 _ (by omega) (Nat.zero_le _) ⟨⟨_, Heap.get?_push_size _ rfl, rfl, rfl⟩, hl1.push _⟩ ⟨g0 _ (Heap.get?_push_of_some _ hS), fun b o e => Heap.get?_push_of_some _ (Heap.get?_push_of_some _ e)⟩ fun s' m g => ?_
        · obtain ⟨h', gn, dr, tk, os'⟩ := s'
          have e1 : gn = s.gens := m.gens
          have e2 : dr = s.drawn := m.drawn
          have e3 : os' = s.os := m.os
          subst e1 e2 e3
          show wpAny _ _ _ _ _ _
          exact wpAny_pure (wpAny_pure ⟨rfl, h', tk, rfl, g⟩)
      · cases r2 with
        | error e => exact hr2
        | ok fl2 => cases fl2 with
          | next => exact hr2.elim
          | brk => exact hr2.elim
          | cont => exact hr2.elim
          | ret u =>
            obtain ⟨rfl, h', tk, rfl, g, k⟩ := hr2
            repeat (any_goals (first | assumption | wp_step))
            exact h _ _ g k
end
end Dw

/-! part DwBase -/
set_option Elab.async false
set_option linter.all false
set_option maxRecDepth 100000
set_option maxHeartbeats 4000000
/-! what stays of a heap; walks with known items; defs of the text -/
namespace Dw
open PySem PySem.Spec PyProof.Rows L2 GenW

/-! ### tables -/
/-- the table at P, each code in it known with its own table -/
def Tb (H : Hp) (P : Addr) : Prop := ∃ ps : Array Value, H P = some (.tbl ps) ∧ TriplesOk ps.toList ∧ ∀ pos cv, codeAmong pos ps.toList = some cv → ∃ c P2, cv = .ref c ∧ H c = some (.ext fun h => PySem.W.CodeHd h c P2) ∧ GxR.TabG H P2
theorem Tb.tabG {H : Hp} {P : Addr} (t : Tb H P) : GxR.TabG H P := by
  obtain ⟨ps, h1, h2, _⟩ := t
  exact ⟨ps, h1, h2⟩
theorem Tb.nil {H : Hp} {P : Addr} (h : H P = some (.tbl #[])) : Tb H P := ⟨#[], h, True.intro, fun pos cv z => by simp [codeAmong] at z⟩
/-- all but the tables stays; tables stay tables -/
structure Kp (H H' : Hp) : Prop where
  ob : ∀ a o, H a = some o → (∀ ps, o ≠ .tbl ps) → H' a = some o
  nn : ∀ a, H' a = none → H a = none
  tg : ∀ P, GxR.TabG H P → GxR.TabG H' P
  tb : ∀ P, Tb H P → Tb H' P
theorem Kp.refl (H : Hp) : Kp H H := ⟨fun _ _ h _ => h, fun _ h => h, fun _ h => h, fun _ h => h⟩
theorem Kp.trans {H H1 H2 : Hp} (a : Kp H H1) (b : Kp H1 H2) : Kp H H2 := ⟨fun c o h n => b.ob c o (a.ob c o h n) n, fun c h => a.nn c (b.nn c h), fun P h => b.tg P (a.tg P h), fun P h => b.tb P (a.tb P h)⟩
theorem Kp.kt {H H' : Hp} (a : Kp H H') : KT H H' := fun c xs h => a.ob c _ h fun ps z => by cases z
theorem Kp.lst {H H' : Hp} (k : Kp H H') {a : Addr} {xs : List V} (h : H a = some (.lst xs)) : H' a = some (.lst xs) := k.ob a _ h fun ps z => by cases z
theorem Kp.tup {H H' : Hp} (k : Kp H H') {a : Addr} {xs : List V} (h : H a = some (.tup xs)) : H' a = some (.tup xs) := k.ob a _ h fun ps z => by cases z
theorem Kp.ins {H H' : Hp} (k : Kp H H') {a C d : Addr} {fs} (h : H a = some (.ins C d fs)) : H' a = some (.ins C d fs) := k.ob a _ h fun ps z => by cases z
theorem Kp.ds {P : Program} {w : World} {H H' : Hp} (k : Kp H H') {d : Addr} {f : Stand → Option V} {n : Nat} (D : DS P w H d f n) : DS P w H' d f n := by
  obtain ⟨o, h1, h2⟩ := D.there
  obtain ⟨xs, h3, _⟩ := id D.ex
  refine D.keep k.kt fun o h => k.ob d o h fun ps z => ?_
  rw [h3, z] at h
  cases h
/-- no table, no code -/
def Pl (H : Hp) (l : Addr) : Prop := (∀ ps, H l ≠ some (.tbl ps)) ∧ ∀ P2, H l ≠ some (.ext fun h => PySem.W.CodeHd h l P2)
theorem Pl.free {H : Hp} {l : Addr} (h : H l = none) : Pl H l := ⟨fun ps z => (by rw [h] at z; cases z), fun P z => (by rw [h] at z; cases z)⟩
theorem Pl.lst {H : Hp} {l : Addr} {xs} (h : H l = some (.lst xs)) : Pl H l := ⟨fun ps z => (by rw [h] at z; cases z), fun P z => (by rw [h] at z; cases z)⟩
theorem Pl.ins {H : Hp} {l C d : Addr} {fs} (h : H l = some (.ins C d fs)) : Pl H l := ⟨fun ps z => (by rw [h] at z; cases z), fun P z => (by rw [h] at z; cases z)⟩
theorem Pl.ds {P : Program} {w : World} {H : Hp} {d : Addr} {f : Stand → Option V} {n : Nat} (D : DS P w H d f n) : Pl H d := by
  obtain ⟨xs, h1, _⟩ := id D.ex
  exact ⟨fun ps z => (by rw [h1] at z; cases z), D.nc⟩
theorem Kp.but {H0 H H' : Hp} {d : Addr} (k : Kp H0 H) (e : ∀ b, b ≠ d → H' b = H b) (n : H0 d = none) (p : Pl H d) (t : H' d ≠ none) : Kp H0 H' := by
  have tg : ∀ P, GxR.TabG H P → GxR.TabG H' P := fun P ⟨ps, h1, h2⟩ => ⟨ps, (e P fun z => p.1 ps (z ▸ h1)).trans h1, h2⟩
  refine ⟨fun a o h q => ?_, fun a h => k.nn a ?_, fun P h => tg P (k.tg P h), fun P h => ?_⟩
  · rw [e a (ne_of_none h n)]
    exact k.ob a o h q
  · rw [← e a fun z => t (z ▸ h)]
    exact h
  · obtain ⟨ps, h1, h2, h3⟩ := k.tb P h
    refine ⟨ps, (e P fun z => p.1 ps (z ▸ h1)).trans h1, h2, fun pos cv q => ?_⟩
    obtain ⟨c, P2, e1, e2, e3⟩ := h3 pos cv q
    refine ⟨c, P2, e1, (e c fun z => ?_).trans e2, tg P2 e3⟩
    subst z
    exact p.2 P2 e2
theorem Kp.add {H0 H : Hp} {d : Addr} {o : HO} (k : Kp H0 H) (h : H d = none) : Kp H0 (upd H d o) :=
  k.but (fun b hb => upd_ne hb) (k.nn d h) (.free h) (by rw [upd_same]; intro z; cases z)
theorem Kp.put {H0 H : Hp} {d : Addr} {o : HO} {xs : List V} (k : Kp H0 H) (n : H0 d = none) (h : H d = some (.lst xs)) : Kp H0 (upd H d o) :=
  k.but (fun b hb => upd_ne hb) n (.lst h) (by rw [upd_same]; intro z; cases z)
theorem Kp.dsput {P : Program} {w : World} {H0 H H' : Hp} {d : Addr} {f g : Stand → Option V} {n m : Nat} (k : Kp H0 H) (n0 : H0 d = none) (D : DS P w H d f n) (e : ∀ b, b ≠ d → H' b = H b) (D' : DS P w H' d g m) : Kp H0 H' :=
  k.but e n0 (.ds D) (by obtain ⟨xs, h1, _⟩ := id D'.ex; rw [h1]; intro z; cases z)
theorem Kp.same {H H' : Hp} (s : Same H H') : Kp H H' := by
  have tg : ∀ P, GxR.TabG H P → GxR.TabG H' P := fun P ⟨ps, h1, h2⟩ => ⟨ps, s _ _ h1, h2⟩
  refine ⟨fun a o h _ => s a o h, fun a h => s.free h, tg, fun P ⟨ps, h1, h2, h3⟩ => ⟨ps, s _ _ h1, h2, fun pos cv q => ?_⟩⟩
  obtain ⟨c, P2, e1, e2, e3⟩ := h3 pos cv q
  exact ⟨c, P2, e1, s _ _ e2, tg P2 e3⟩
/-- behind the making of a code -/
theorem Grown.kp {H H' : Hp} {P : Addr} {gpos : Pos} {code : Value} (g : Grown H H' P gpos code) (t : GxR.TabG H P) : Kp H H' := by
  rcases g with ⟨rfl, _⟩ | ⟨ps, c', P', h1, h2, rfl, h3, h4, ne, rfl⟩
  · exact .refl _
  · obtain ⟨ps', t1, t2⟩ := t
    rw [h1] at t1
    cases t1
    have cP : c' ≠ P := fun z => by rw [z, h1] at h3; cases h3
    have pP : P' ≠ P := fun z => by rw [z, h1] at h4; cases h4
    have far : ∀ b, b ≠ P → b ≠ c' → b ≠ P' → (upd (upd (upd H P (.tbl (ps ++ #[rawInt gpos.line, rawInt gpos.col, .ref c']))) c' (.ext fun h => PySem.W.CodeHd h c' P')) P' (.tbl #[])) b = H b := fun b x y z => by
      rw [upd_ne z, upd_ne y, upd_ne x]
    have atP : (upd (upd (upd H P (.tbl (ps ++ #[rawInt gpos.line, rawInt gpos.col, .ref c']))) c' (.ext fun h => PySem.W.CodeHd h c' P')) P' (.tbl #[])) P = some (.tbl (ps ++ #[rawInt gpos.line, rawInt gpos.col, .ref c'])) := by
      rw [upd_ne pP.symm, upd_ne cP.symm, upd_same]
    have atc : (upd (upd (upd H P (.tbl (ps ++ #[rawInt gpos.line, rawInt gpos.col, .ref c']))) c' (.ext fun h => PySem.W.CodeHd h c' P')) P' (.tbl #[])) c' = some (.ext fun h => PySem.W.CodeHd h c' P') := by
      rw [upd_ne ne, upd_same]
    have trip : TriplesOk (ps ++ #[rawInt gpos.line, rawInt gpos.col, .ref c']).toList := by
      rw [Array.toList_append]
      exact TriplesOk_snoc _ _ _ _ t2
    have ob : ∀ a o, H a = some o → (∀ ps, o ≠ .tbl ps) → (upd (upd (upd H P (.tbl (ps ++ #[rawInt gpos.line, rawInt gpos.col, .ref c']))) c' (.ext fun h => PySem.W.CodeHd h c' P')) P' (.tbl #[])) a = some o := fun a o h q => by
      rw [far a (fun z => by rw [z, h1] at h; exact q _ (Option.some.inj h).symm) (ne_of_none h h3) (ne_of_none h h4)]
      exact h
    have tg : ∀ Q, GxR.TabG H Q → GxR.TabG (upd (upd (upd H P (.tbl (ps ++ #[rawInt gpos.line, rawInt gpos.col, .ref c']))) c' (.ext fun h => PySem.W.CodeHd h c' P')) P' (.tbl #[])) Q := fun Q ⟨qs, q1, q2⟩ => by
      by_cases z : Q = P
      · exact ⟨_, z ▸ atP, trip⟩
      · exact ⟨qs, (far Q z (ne_of_none q1 h3) (ne_of_none q1 h4)).trans q1, q2⟩
    refine ⟨ob, fun a h => ?_, tg, fun Q ⟨qs, q1, q2, q3⟩ => ?_⟩
    · by_cases z : a = P
      · rw [z, atP] at h; cases h
      by_cases z1 : a = c'
      · rw [z1, atc] at h; cases h
      by_cases z2 : a = P'
      · rw [z2, upd_same] at h; cases h
      rw [far a z z1 z2] at h
      exact h
    · have old : ∀ {cv : Value}, (∃ c P2, cv = .ref c ∧ H c = some (.ext fun h => PySem.W.CodeHd h c P2) ∧ GxR.TabG H P2) → ∃ c P2, cv = .ref c ∧ (upd (upd (upd H P (.tbl (ps ++ #[rawInt gpos.line, rawInt gpos.col, .ref c']))) c' (.ext fun h => PySem.W.CodeHd h c' P')) P' (.tbl #[])) c = some (.ext fun h => PySem.W.CodeHd h c P2) ∧ GxR.TabG (upd (upd (upd H P (.tbl (ps ++ #[rawInt gpos.line, rawInt gpos.col, .ref c']))) c' (.ext fun h => PySem.W.CodeHd h c' P')) P' (.tbl #[])) P2 := fun {cv} ⟨c, P2, e1, e2, e3⟩ => ⟨c, P2, e1, ob c _ e2 (fun ps z => by cases z), tg P2 e3⟩
      by_cases z : Q = P
      · subst z
        rw [h1] at q1
        cases q1
        refine ⟨_, atP, trip, fun pos cv e => ?_⟩
        rw [Array.toList_append] at e
        rcases LamX.among_app _ q2 e with e | e
        · exact old (q3 pos cv e)
        · exact ⟨c', P', e, atc, #[], upd_same, True.intro⟩
      · exact ⟨qs, (far Q z (ne_of_none q1 h3) (ne_of_none q1 h4)).trans q1, q2, fun pos cv e => old (q3 pos cv e)⟩
/-- the code itself -/
theorem Grown.cod {H H' : Hp} {P : Addr} {gpos : Pos} {code : Value} (g : Grown H H' P gpos code) (t : Tb H P) : ∃ c P2, code = .ref c ∧ H' c = some (.ext fun h => PySem.W.CodeHd h c P2) ∧ GxR.TabG H' P2 := by
  rcases g with ⟨rfl, ps, h1, h2⟩ | ⟨ps, c', P', h1, h2, rfl, h3, h4, ne, rfl⟩
  · obtain ⟨qs, q1, q2, q3⟩ := t
    rw [h1] at q1
    cases q1
    exact q3 _ _ h2
  · exact ⟨c', P', rfl, by rw [upd_ne ne, upd_same], #[], upd_same, True.intro⟩

/-! ### walks with known items -/
/-- n turns; it: what a turn hands out -/
structure Wlk (J : It) (n : Nat) (Ok : Hp → Prop) (it : Nat → Hp → V → Hp → Prop) : Prop where
  go : ∀ i H, i < n → Ok H → J.go i H
  stop : ∀ H, Ok H → J.stop n H
  yld : ∀ i H x H', i < n → Ok H → J.yld i H x H' → it i H x H'
theorem wl_tup {K : PySem.W.Frag} {a : Addr} {xs : List V} : Wlk (Itt K a) xs.length (fun H => SqT K H a xs) (fun i H x H' => H' = H ∧ xs[i]? = some x) :=
  ⟨fun i H h q => ⟨xs, xs[i], q, by simp [h]⟩, fun H q => ⟨xs, q, Nat.le_refl _⟩, fun i H x H' h q ⟨e, y⟩ => ⟨e, y xs q⟩⟩
theorem wl_list {K : PySem.W.Frag} {a : Addr} {xs : List V} : Wlk (Itl K a) xs.length (fun H => SqL K H a xs) (fun i H x H' => H' = H ∧ xs[i]? = some x) :=
  ⟨fun i H h q => ⟨xs, xs[i], q, by simp [h]⟩, fun H q => ⟨xs, q, Nat.le_refl _⟩, fun i H x H' h q ⟨e, y⟩ => ⟨e, y xs q⟩⟩
theorem wl_rng {lo : Int} {n : Nat} : Wlk (Itr lo n) n (fun _ => True) (fun i H x H' => H' = H ∧ x = .int (lo + i)) :=
  ⟨fun i H h q => h, fun H q => Nat.le_refl _, fun i H x H' h q y => y⟩
theorem wl_zipT {K : PySem.W.Frag} {a b : Addr} {xs ys : List V} {n : Nat} (hn : n = min xs.length ys.length) : Wlk (RZ.ItzT K a b) n (fun H => SqT K H a xs ∧ SqT K H b ys)
    (fun i H v H' => ∃ T x y, v = .ref T ∧ H T = none ∧ H' = upd H T (.tup [x, y]) ∧ xs[i]? = some x ∧ ys[i]? = some y) := by
  subst hn
  refine ⟨fun i H h q => ⟨xs, ys, xs[i]'(by omega), ys[i]'(by omega), q.1, q.2, by simp, by simp⟩, fun H q => ⟨xs, ys, q.1, q.2, by omega⟩, ?_⟩
  rintro i H v H' h q ⟨T, x, y, e1, e2, e3, e4, e5⟩
  exact ⟨T, x, y, e1, e2, e3, e4 _ q.1, e5 _ q.2⟩
theorem wl_enum {K : PySem.W.Frag} {a : Addr} {xs : List V} : Wlk (Ite K a) xs.length (fun H => SqL K H a xs) (fun i H v H' => ∃ T x, v = .ref T ∧ H T = none ∧ H' = upd H T (.tup [.int (i : Nat), x]) ∧ xs[i]? = some x) := by
  refine ⟨fun i H h q => ⟨xs, xs[i], q, by simp [h]⟩, fun H q => ⟨xs, q, Nat.le_refl _⟩, ?_⟩
  rintro i H v H' h q ⟨T, x, e1, e2, e3, e4⟩
  exact ⟨T, x, e1, e2, e3, e4 _ q⟩
section
variable {J : It} {n : Nat} {Ok : Hp → Prop} {it : Nat → Hp → V → Hp → Prop} {g : TG} {σ : L2.St} {H1 : Hp}
/-- for -/
theorem for_wlk {tb : TS} {D : Ends} (w : Wlk J n Ok it) (Pv : Nat → L2.St → Hp → Prop) (h0 : Pv 0 σ H1) (ok : ∀ i σ H, i ≤ n → Pv i σ H → Ok H)
    (hs : ∀ i x σ H H', i < n → Pv i σ H → it i H x H' → g x σ H' fun σ2 H2 => tb { D with nx := Pv (i + 1), ct := Pv (i + 1), bk := D.nx } σ2 H2) (hd : ∀ σ H, Pv n σ H → D.nx σ H) :
    ∃ W : Nat → Nat → L2.St → Hp → Prop, (∃ m, W 0 m σ H1) ∧ ∀ i m σ H, W i m σ H →
      (J.stop i H ∧ D.nx σ H) ∨ (J.go i H ∧ ∃ N : L2.St → Hp → Prop, (∀ σ' H', N σ' H' → ∃ m', m' < m ∧ W (i + 1) m' σ' H') ∧ ∀ x H', J.yld i H x H' → g x σ H' fun σ2 H2 => tb { D with nx := N, ct := N, bk := D.nx } σ2 H2) := by
  refine ⟨fun i m σ H => m = n - i ∧ i ≤ n ∧ Pv i σ H, ⟨n, rfl, Nat.zero_le _, h0⟩, ?_⟩
  rintro i m σ H ⟨rfl, hi, p⟩
  have q := ok i σ H hi p
  by_cases lt : i < n
  · exact .inr ⟨w.go i H lt q, Pv (i + 1), fun σ' H' p' => ⟨n - (i + 1), by omega, rfl, lt, p'⟩, fun x H' y => hs i x σ H H' lt p (w.yld i H x H' lt q y)⟩
  · obtain rfl : i = n := by omega
    exact .inl ⟨w.stop H q, hd σ H p⟩
/-- all (stp = false), any (stp = true): pb i, the i-th answer -/
theorem aa_wlk {stp : Bool} {te : TE} {vs : List Nat} {Q : VK} {H2 : Hp} (w : Wlk J n Ok it) (Iv : Nat → Hp → Prop) (pb : Nat → Bool) (r : Bool) (h0 : Iv 0 H2) (ok : ∀ i H, Iv i H → Ok H)
    (hs : ∀ i H x H' (G : VK), i < n → Iv i H → it i H x H' → (∀ H4, Iv (i + 1) H4 → G (.bl (pb i)) H4) → g x (wipe σ vs) H' fun σ2 H3 => wipe σ2 vs = wipe σ vs ∧ te σ2 H3 G)
    (r1 : (∀ i, i < n → pb i = !stp) → r = !stp) (r2 : ∀ i, i < n → pb i = stp → r = stp) (hd : ∀ i H, Iv i H → Q (.bl r) H) : AAq stp J g te vs σ Q H2 := by
  refine ⟨fun i m H => m = n - i ∧ i ≤ n ∧ (∀ j, j < i → pb j = !stp) ∧ Iv i H, ⟨n, rfl, Nat.zero_le _, (fun j h => absurd h (Nat.not_lt_zero _)), h0⟩, ?_⟩
  rintro i m H ⟨rfl, hi, hp, p⟩
  have q := ok i H p
  by_cases lt : i < n
  · refine .inr ⟨w.go i H lt q, fun H' => (∀ j, j < i + 1 → pb j = !stp) ∧ Iv (i + 1) H', fun H' p' => ⟨n - (i + 1), by omega, rfl, lt, p'⟩, fun x H' y => ?_⟩
    refine hs i H x H' _ lt p (w.yld i H x H' lt q y) fun H4 z => ⟨pb i, rfl, ?_⟩
    by_cases e : pb i = stp
    · rw [if_pos e, ← r2 i lt e]
      exact hd _ _ z
    · rw [if_neg e]
      refine ⟨fun j hj => ?_, z⟩
      by_cases ej : j = i
      · rw [ej]
        cases stp <;> cases h : pb i <;> simp_all
      · exact hp j (by omega)
  · obtain rfl : i = n := by omega
    refine .inl ⟨w.stop H q, ?_⟩
    rw [← r1 hp]
    exact hd _ _ p
/-- a comprehension of one for -/
theorem lc_wlk {tt : TT} {te : TE} {vs : List Nat} {D : Addr} {Qd : Hp → Prop} (w : Wlk J n Ok it) (Pv : Nat → Hp → Prop) (h0 : Pv 0 (upd H1 D (.lst []))) (ok : ∀ i H, i ≤ n → Pv i H → Ok H)
    (hs : ∀ i x H H', i < n → Pv i H → it i H x H' → g x (wipe σ vs) H' fun σ2 H2 => wipe σ2 vs = wipe σ vs ∧ tt σ2 H2 fun b H3 =>
      if b = true then te σ2 H3 fun y H4 => ∃ acc, H4 D = some (.lst acc) ∧ acc.length < sizeLine ∧ Pv (i + 1) (upd H4 D (.lst (acc ++ [y]))) else Pv (i + 1) H3) (hd : ∀ H, Pv n H → Qd H) :
    ∃ W : Nat → Nat → Hp → Prop, (∃ m, W 0 m (upd H1 D (.lst []))) ∧ ∀ i m H, W i m H →
      (J.stop i H ∧ Qd H) ∨ (J.go i H ∧ ∃ Nx : Hp → Prop, (∀ H', Nx H' → ∃ m', m' < m ∧ W (i + 1) m' H') ∧ ∀ x H', J.yld i H x H' → g x (wipe σ vs) H' fun σ2 H2 => wipe σ2 vs = wipe σ vs ∧ tt σ2 H2 fun b H3 =>
        if b = true then te σ2 H3 fun y H4 => ∃ acc, H4 D = some (.lst acc) ∧ acc.length < sizeLine ∧ Nx (upd H4 D (.lst (acc ++ [y]))) else Nx H3) := by
  refine ⟨fun i m H => m = n - i ∧ i ≤ n ∧ Pv i H, ⟨n, rfl, Nat.zero_le _, h0⟩, ?_⟩
  rintro i m H ⟨rfl, hi, p⟩
  have q := ok i H hi p
  by_cases lt : i < n
  · exact .inr ⟨w.go i H lt q, Pv (i + 1), fun H' p' => ⟨n - (i + 1), by omega, rfl, lt, p'⟩, fun x H' y => hs i x H H' lt p (w.yld i H x H' lt q y)⟩
  · obtain rfl : i = n := by omega
    exact .inl ⟨w.stop H q, hd H p⟩
end
end Dw

/-! part DwInts -/
set_option Elab.async false
set_option linter.all false
set_option maxRecDepth 100000
set_option maxHeartbeats 4000000
/-! sorted(set(xs)) of ints -/
namespace Dw
open PySem PySem.Spec PyProof.Rows L2

/-! ### the rising list of the same members -/
def ins (x : Int) : List Int → List Int
  | [] => [x]
  | y :: r => if x < y then x :: y :: r else if x = y then y :: r else y :: ins x r
def srt (xs : List Int) : List Int := xs.foldr ins []
def Ris (xs : List Int) : Prop := xs.Pairwise (· < ·)
theorem mem_ins {x z : Int} : ∀ {l : List Int}, z ∈ ins x l ↔ z = x ∨ z ∈ l
  | [] => by simp [ins]
  | y :: r => by
    have ih := mem_ins (x := x) (z := z) (l := r)
    unfold ins
    by_cases h : x < y
    · rw [if_pos h]; simp
    · rw [if_neg h]
      by_cases e : x = y
      · rw [if_pos e, e]; simp
      · rw [if_neg e, List.mem_cons, ih, List.mem_cons]
        constructor <;> (intro q; rcases q with q | q | q <;> simp [q])
theorem ris_ins {x : Int} : ∀ {l : List Int}, Ris l → Ris (ins x l)
  | [], _ => List.pairwise_singleton _ _
  | y :: r, h => by
    obtain ⟨h1, h2⟩ := List.pairwise_cons.mp h
    unfold ins
    by_cases c : x < y
    · rw [if_pos c]
      refine List.pairwise_cons.mpr ⟨fun z hz => ?_, h⟩
      rcases List.mem_cons.mp hz with e | e
      · rw [e]; exact c
      · exact Int.lt_trans c (h1 z e)
    · rw [if_neg c]
      by_cases e : x = y
      · rw [if_pos e]; exact h
      · rw [if_neg e]
        refine List.pairwise_cons.mpr ⟨fun z hz => ?_, ris_ins h2⟩
        rcases mem_ins.mp hz with q | q
        · rw [q]; omega
        · exact h1 z q
theorem ris_srt : ∀ xs : List Int, Ris (srt xs)
  | [] => List.Pairwise.nil
  | x :: r => ris_ins (ris_srt r)
theorem mem_srt {z : Int} : ∀ {xs : List Int}, z ∈ srt xs ↔ z ∈ xs
  | [] => Iff.rfl
  | x :: r => by
    show z ∈ ins x (srt r) ↔ _
    rw [mem_ins, mem_srt (xs := r), List.mem_cons]
theorem ris_ext : ∀ {xs ys : List Int}, Ris xs → Ris ys → (∀ z, z ∈ xs ↔ z ∈ ys) → xs = ys
  | [], [], _, _, _ => rfl
  | [], y :: r, _, _, h => by simpa using (h y).2 List.mem_cons_self
  | x :: r, [], _, _, h => by simpa using (h x).1 List.mem_cons_self
  | x :: r, y :: t, h1, h2, h => by
    obtain ⟨a1, a2⟩ := List.pairwise_cons.mp h1
    obtain ⟨b1, b2⟩ := List.pairwise_cons.mp h2
    have e : x = y := by
      rcases List.mem_cons.mp ((h x).1 List.mem_cons_self) with q | q
      · exact q
      · rcases List.mem_cons.mp ((h y).2 List.mem_cons_self) with p | p
        · exact p.symm
        · have := b1 x q; have := a1 y p; omega
    subst e
    congr 1
    refine ris_ext a2 b2 fun z => ⟨fun q => ?_, fun q => ?_⟩
    · rcases List.mem_cons.mp ((h z).1 (List.mem_cons_of_mem _ q)) with p | p
      · have := a1 z q; omega
      · exact p
    · rcases List.mem_cons.mp ((h z).2 (List.mem_cons_of_mem _ q)) with p | p
      · have := b1 z q; omega
      · exact p
theorem srt_of {xs ns : List Int} (h : Ris ns) (m : ∀ z, z ∈ ns ↔ z ∈ xs) : ns = srt xs := ris_ext h (ris_srt xs) fun z => (m z).trans mem_srt.symm

section
variable {P : Program} {w : World} {A : Around} {E : Value → Shared → Prop} {s : Shared}
/-- set(xs), xs a list of ints -/
theorem set_ints {l : Addr} {its : Array Value} (ns : List Int) {Q : Value → Shared → Prop} (hd : A.handled = none) (hl : s.heap.IsList l its) (hi : IntsAre its.toList ns) (hb : ns.length + 1 < scanBound)
    (h : ∀ (h' : Heap) (tk c : Nat), SetR w h' s.heap.objs.size (fun j => decide (j ∈ ns)) c → c ≤ ns.length → (∀ b o, s.heap.get? b = some o → h'.get? b = some o) → Q (.ref s.heap.objs.size) { s with heap := h', toks := tk }) :
    wpAny (model P w) A (call (.type "set") [.ref l]) Q E s := by
  have sz : its.size = ns.length := by
    have q := IntsAre.length hi
    rw [Array.length_toList] at q
    exact q
  refine call_set_lst (fun i h => ∃ c, c ≤ i ∧ SetR w h s.heap.objs.size (fun j => decide (j ∈ ns.take i)) c) hd hl (fun h q => ⟨0, Nat.le_refl _, setR_new_at q⟩) (fun i h h' ⟨c, z, R⟩ k => ⟨c, z, R.at k⟩) (fun B i v s1 Q1 E1 _ hv _ ⟨c, z, R⟩ q => ?_) fun h' tk ⟨c, z, R⟩ k => ?_
  · have lt : i < ns.length := by rw [← sz]; exact (Array.getElem?_eq_some_iff.mp hv).1
    obtain ⟨t, rfl⟩ := PyProof.Rows.IntsAre.int_at hi i v (by rw [Array.getElem?_toList]; exact hv)
    have en : ns.getD i 0 = ns[i] := by rw [List.getD_eq_getElem?_getD, List.getElem?_eq_getElem lt] <;> rfl
    rw [en]
    unfold setAdd
    refine wpAny_holding (wpAny_bind ((intKind P w).pyHash (k := ns[i]) (intKind_is _ _ _ _) ?_))
    refine setR_add_hashed (s := { s1 with toks := s1.toks + 1 }) R (by omega) fun h' sb R2 => ?_
    refine q h' _ _ (Nat.le_succ _) sb ⟨_, ?_, R2.congr fun j => ?_⟩
    · split <;> omega
    · have e : ns.take (i + 1) = ns.take i ++ [ns[i]] := by
        rw [List.take_add_one, List.getElem?_eq_getElem lt] <;> rfl
      rw [e, ← Bool.decide_or]
      exact decide_eq_decide.mpr (by rw [List.mem_append, List.mem_singleton])
  · rw [sz] at z R
    exact h h' tk c (R.congr fun j => by rw [List.take_of_length_le (Nat.le_refl _)]) z k
end

section
variable {X : Cx}
def rSetI (K : PySem.W.Frag) (w : World) : List V → Hp → VK → Prop := fun vs H Q => ∃ (p : Addr) (ns : List Int), vs = [.ref p] ∧ (SqL K H p (ns.map V.int) ∨ SqT K H p (ns.map V.int)) ∧ ns.length < 64 ∧
  ∀ S c, H S = none → c ≤ ns.length → Q (.ref S) (upd H S (SetO w S (fun j => decide (j ∈ ns)) c))
theorem cr_setI (hc : X.calm = true) : CallR X (.type "set") (rSetI X.K X.w) := by
  intro pins s σ H vs us Q I r h
  obtain ⟨p, ns, rfl, hq, hl, q⟩ := h
  rw [Vals.ref1 r]
  have fin : ∀ (h' : Heap) (tk c : Nat), SetR X.w h' s.heap.objs.size (fun j => decide (j ∈ ns)) c → c ≤ ns.length → (∀ b o, s.heap.get? b = some o → h'.get? b = some o) → EP X pins σ Q (.ref s.heap.objs.size) { s with heap := h', toks := tk } := fun h' tk c R z k =>
    ⟨.ref _, _, I.laid (t' := tk) k (Nat.le_refl _) (setO_new R), rfl, q _ _ (I.hok.fresh (Nat.le_refl _)) z⟩
  rcases hq with hq | hq
  · obtain ⟨its, rv, pl, hz⟩ := I.list hq
    exact set_ints ns (I.ok.hd hc) pl.isList (by simpa using ints_of_vals rv) (by unfold scanBound; omega) fin
  · obtain ⟨its, rv, pt, hz⟩ := I.tuple hq
    exact call_set_tupI ns (I.ok.hd hc) (show s.heap.IsTuple p its.toArray from pt) (by simpa using ints_of_vals rv) (by unfold scanBound; omega) fin
/-- the question of sorted(set(xs)) -/
theorem srt_ans {K : PySem.W.Frag} {w : World} {H : Hp} {Q : VK} {p : Addr} {ns : List Int} (hq : SqL K H p (ns.map V.int) ∨ SqT K H p (ns.map V.int)) (hl : ns.length < 64)
    (q : ∀ H2 r, Same H H2 → H r = none → H2 r = some (.lst ((srt ns).map V.int)) → Q (.ref r) H2) : rSetI K w [.ref p] H fun x H2 => rSortedSet w [x] H2 Q := by
  refine ⟨p, ns, rfl, hq, hl, fun S c hS hc => ⟨S, _, c, rfl, upd_same, by omega, fun ks r h1 h2 h3 h4 => ?_⟩⟩
  have e : ks = srt ns := srt_of h1 fun z => (h2 z).trans decide_eq_true_iff
  subst e
  have rS : r ≠ S := fun z => by rw [z, upd_same] at h4; cases h4
  rw [upd_ne rS] at h4
  refine q _ r (fun b o e => ?_) h4 upd_same
  rw [upd_ne (ne_of_none e h4), upd_ne (ne_of_none e hS)]
  exact e
end
end Dw

/-! part DwDef -/
set_option Elab.async false
set_option linter.all false
set_option maxRecDepth 100000
set_option maxHeartbeats 4000000
/-! defs of the text, short rules -/
namespace Dw
open PySem PySem.Spec PyProof.Rows L2 GenW

theorem iteT' {c : Bool} {A B : Prop} (h : c = true) (a : A) : if c = true then A else B := by
  rw [if_pos h]
  exact a
theorem iteF' {c : Bool} {A B : Prop} (h : c = false) (b : B) : if c = true then A else B := by
  rw [h]
  exact iteF b
abbrev st (i : Nat) : Stmt := PySem.Challenge.pw_dyeworks_k07_whole_washes.main.body.getD i (.Pass ⟨0, 0, 0, 0⟩)
/-- a def of the text stands at a name -/
def DefAt (K : PySem.W.Frag) (mg : Str → Option Value) (x : Str) (s : Stmt) : Prop := ∃ f fd, Fun K x x s f fd ∧ mg x = some (.ref f)
/-- a def (or method) whose code is known -/
structure FunC (K : PySem.W.Frag) (x qual : Str) (s : Stmt) (f : Addr) (fd : FuncData) (c : Addr) : Prop where
  ex : ∃ (oc : Value) (od : Option Addr) (kV doc pm : Value) (an : Option Addr) (ct : Value) (osl : Array (Option Value)),
    fd = PySem.W.fnOf x qual (defArgs s) (defBody s) (defScope s) .none kV doc pm an (.ref c) ct ∧ K.lookup f = some ⟨oc, od, .func fd, osl⟩ ∧ PySem.W.codeIn K (.ref c) qual = true
  kp : PySem.W.keepIn K (.ref f) = true
theorem FunC.fn {K : PySem.W.Frag} {x qual : Str} {s : Stmt} {f : Addr} {fd : FuncData} {c : Addr} (F : FunC K x qual s f fd c) : Fun K x qual s f fd := by
  obtain ⟨oc, od, kV, doc, pm, an, ct, osl, h1, h2, h3⟩ := F.ex
  exact ⟨⟨oc, od, kV, doc, pm, an, _, ct, osl, h1, h2, h3⟩, F.kp⟩
/-- .. with a table of codes at P -/
def DefAtC (K : PySem.W.Frag) (mg : Str → Option Value) (base : Heap) (x : Str) (s : Stmt) (P : Addr) : Prop := ∃ f fd c, FunC K x x s f fd c ∧ mg x = some (.ref f) ∧ PySem.W.CodeHd base c P
/-- what a caller has of a def -/
def Df (P : Program) (w : World) (K : PySem.W.Frag) (mg : Str → Option Value) (base : Heap) (x : Str) (k : Nat) (ps : List Str) (sp : Sp) : Prop :=
  ∃ f fd, FnOk P w K mg base CX0 k f fd ps sp ∧ mg x = some (.ref f) ∧ PySem.W.keepIn K (.ref f) = true ∧ Binds K fd ps []
section
variable {P : Program} {w : World} {K : PySem.W.Frag} {mg : Str → Option Value} {base : Heap}
theorem DefAt.df {x : Str} {s : Stmt} {N ps : List Str} {k : Nat} {sp : Sp} (D : DefAt K mg x s) (S : FnScope N ps (defScope s)) (len : ∀ vs H Q E, sp vs H Q E → vs.length = ps.length)
    (hb : ∀ (kV doc pm : Value) (an : Option Addr) (cdv ct : Value) (us : List Value), us.length = ps.length → bindArgs (PySem.W.fnOf x x (defArgs s) (defBody s) (defScope s) .none kV doc pm an cdv ct) ⟨us, []⟩ = pure (ps.zip us))
    (body : ∀ (f : Addr) (cdv : Value) (A : Around) (outer : List Env) (sh : Shared) (H : Hp) (vs : List V) (Q : VK) (E : XK), Room k (A.deeper (envOfC x (defScope s) sh.heap.objs.size f cdv)) → sp vs H Q E →
      ∃ t, PSs (cxOf CX0 P w K mg base N x (defScope s) f cdv A outer sh H E).nox (defBody s) t ∧ t { nx := fun _ H' => Q .non H', rt := Q } (start N vs) H) : Df P w K mg base x (k + 1) ps sp := by
  obtain ⟨f, fd, F, hm⟩ := D
  exact ⟨f, fd, F.ok S len (body f), hm, F.kp, F.binds hb⟩
theorem DefAtC.df {x : Str} {s : Stmt} {T : Addr} {N ps : List Str} {k : Nat} {sp : Sp} (D : DefAtC K mg base x s T) (S : FnScope N ps (defScope s)) (len : ∀ vs H Q E, sp vs H Q E → vs.length = ps.length)
    (hb : ∀ (kV doc pm : Value) (an : Option Addr) (cdv ct : Value) (us : List Value), us.length = ps.length → bindArgs (PySem.W.fnOf x x (defArgs s) (defBody s) (defScope s) .none kV doc pm an cdv ct) ⟨us, []⟩ = pure (ps.zip us))
    (body : ∀ (f c : Addr) (A : Around) (outer : List Env) (sh : Shared) (H : Hp) (vs : List V) (Q : VK) (E : XK), PySem.W.CodeHd base c T → Room k (A.deeper (envOfC x (defScope s) sh.heap.objs.size f (.ref c))) → sp vs H Q E →
      ∃ t, PSs (cxOf CX0 P w K mg base N x (defScope s) f (.ref c) A outer sh H E).nox (defBody s) t ∧ t { nx := fun _ H' => Q .non H', rt := Q } (start N vs) H) : Df P w K mg base x (k + 1) ps sp := by
  obtain ⟨f, fd, c, F, hm, hc⟩ := D
  refine ⟨f, fd, ?_, hm, F.kp, F.fn.binds hb⟩
  obtain ⟨oc, od, kV, doc, pm, an, ct, osl, rfl, lk, hcd⟩ := F.ex
  refine fn_of lk hcd S len fun A outer sh H vs Q E hr hsp => ?_
  obtain ⟨t, h, q⟩ := body f c A outer sh H vs Q E hc hr hsp
  exact ⟨t, h.nox, q⟩
/-- a method whose code is known -/
theorem FunC.okC {x qual : Str} {s : Stmt} {f c : Addr} {fd : FuncData} {N ps : List Str} {k : Nat} {sp : Sp} (F : FunC K x qual s f fd c) (S : FnScope N ps (defScope s)) (len : ∀ vs H Q E, sp vs H Q E → vs.length = ps.length)
    (body : ∀ (A : Around) (outer : List Env) (sh : Shared) (H : Hp) (vs : List V) (Q : VK) (E : XK), Room k (A.deeper (envOfC qual (defScope s) sh.heap.objs.size f (.ref c))) → sp vs H Q E →
      ∃ t, PSs (cxOf CX0 P w K mg base N qual (defScope s) f (.ref c) A outer sh H E).nox (defBody s) t ∧ t { nx := fun _ H' => Q .non H', rt := Q } (start N vs) H) : FnOk P w K mg base CX0 (k + 1) f fd ps sp := by
  obtain ⟨oc, od, kV, doc, pm, an, ct, osl, rfl, lk, hcd⟩ := F.ex
  refine fn_of lk hcd S len fun A outer sh H vs Q E hr hsp => ?_
  obtain ⟨t, h, q⟩ := body A outer sh H vs Q E hr hsp
  exact ⟨t, h.nox, q⟩
end
/-- the built-ins' names stand for them still -/
structure Nm (mg : Str → Option Value) : Prop where
  isinstance : mg "isinstance" = none
  len : mg "len" = none
  all : mg "all" = none
  any : mg "any" = none
  zip : mg "zip" = none
  sorted : mg "sorted" = none
  set : mg "set" = none
  list : mg "list" = none
  tuple : mg "tuple" = none
  range : mg "range" = none
  enumerate : mg "enumerate" = none
  int : mg "int" = none
  bool : mg "bool" = none
  str : mg "str" = none
  max : mg "max" = none
/-- a constant of the module -/
def Cst (mg : Str → Option Value) (x : Str) (v : V) : Prop := ∃ u, mg x = some u ∧ RelV v u
structure Cs (mg : Str → Option Value) : Prop where
  dyes : Cst mg "MOST_DYES" (.int 5)
  vats : Cst mg "MOST_VATS" (.int 5)
  kinds : Cst mg "MOST_KINDS" (.int 4)
  routes : Cst mg "MOST_ROUTES" (.int 8)
  long : Cst mg "MOST_LONG" (.int 6)
  stands : Cst mg "MOST_STANDS" (.int 5000)
  endless : Cst mg "ENDLESS" (.str "endless")

section
variable {X : Cx} {x : Str} {p pos : Pos} {e a : Expr} {es : List Expr} {t : TA} {te : TE} {k : Nat} {ps : List Str} {sp : Sp}
theorem pe_df (D : Df X.prog X.w X.K X.mg X.base x k ps sp) (hr : Room k X.A) (hg : Gl X x) (ha : PA X (e :: es) t) (hdb : (x == ("__debug__" : Str)) = false := by decide)
    (he : starEach (e :: es) X.env = (false, eval e X.env) :: starEach es X.env := by rfl) (hpl : (backTo pos (starEach es X.env)).any (·.1) = false := by rfl) : PE X (.Call (.Name x p) (e :: es) [] pos) (tCall sp [] E0 t) := by
  obtain ⟨f, fd, F, hm, hk, hb⟩ := D
  exact pe_call F hr hg hm hk hb .nil pass0 ha hdb he hpl
theorem pe_cst {v : V} (c : Cst X.mg x v) (hg : Gl X x) (hdb : (x == ("__debug__" : Str)) = false := by decide) : PE X (.Name x pos) (tC v) := by
  obtain ⟨u, hm, r⟩ := c
  exact pe_glob hg hm r hdb
abbrev rLen (K : PySem.W.Frag) : List V → Hp → VK → Prop := fun xs H Q => ∃ p ys, xs = [.ref p] ∧ (SqL K H p ys ∨ SqT K H p ys) ∧ Q (.int ys.length) H
abbrev rList (K : PySem.W.Frag) : List V → Hp → VK → Prop := fun xs H Q => ∃ p ys, xs = [.ref p] ∧ (SqL K H p ys ∨ SqT K H p ys) ∧ ∀ l, H l = none → Q (.ref l) (upd H l (.lst ys))
abbrev rTuple (K : PySem.W.Frag) : List V → Hp → VK → Prop := fun xs H Q => ∃ p ys, xs = [.ref p] ∧ ((SqL K H p ys ∧ ∀ l, H l = none → Q (.ref l) (upd H l (.tup ys))) ∨ (SqT K H p ys ∧ Q (.ref p) H))
theorem pe_len (hm : X.mg "len" = none) (ha : PE X a te) (hg : Gl X "len" := by rfl) (he : starEach [a] X.env = (false, eval a X.env) :: starEach [] X.env := by rfl) (hpl : (backTo pos (starEach [] X.env)).any (·.1) = false := by rfl) :
    PE X (.Call (.Name "len" p) [a] [] pos) (tCB (rLen X.K) (tCons te tNil)) := pe_callB call_len_seq hg hm PySem.boot_len (pa_cons ha pa_nil he) (by decide) (by decide) he hpl
theorem pe_list (hm : X.mg "list" = none) (ha : PE X a te) (hg : Gl X "list" := by rfl) (he : starEach [a] X.env = (false, eval a X.env) :: starEach [] X.env := by rfl) (hpl : (backTo pos (starEach [] X.env)).any (·.1) = false := by rfl) :
    PE X (.Call (.Name "list" p) [a] [] pos) (tCB (rList X.K) (tCons te tNil)) := pe_callTy call_list_of hg hm boot_list (pa_cons ha pa_nil he) (by decide) (by decide) he hpl
theorem pe_tupl (hm : X.mg "tuple" = none) (ha : PE X a te) (hg : Gl X "tuple" := by rfl) (he : starEach [a] X.env = (false, eval a X.env) :: starEach [] X.env := by rfl) (hpl : (backTo pos (starEach [] X.env)).any (·.1) = false := by rfl) :
    PE X (.Call (.Name "tuple" p) [a] [] pos) (tCB (rTuple X.K) (tCons te tNil)) := pe_callTy call_tuple_of hg hm boot_tuple (pa_cons ha pa_nil he) (by decide) (by decide) he hpl
/-- isinstance(a, T), T a built-in type -/
abbrev rIs (K : PySem.W.Frag) (T : String) : V → Hp → VK → Prop := fun x H Q => ∃ t b, TyX K H x (.type t) ∧ kitB t T = some b ∧ Q (.bl b) H
def tIs (K : PySem.W.Frag) (T : String) (te : TE) : TE := fun σ H Q => te σ H fun x H1 => rIs K T x H1 Q
theorem pe_isi {T : Str} {p2 : Pos} {n : String} (hm : X.mg "isinstance" = none) (hm2 : X.mg T = none) (ha : PE X a te) (hT : bootBuiltins T = some (.type n)) (hg : Gl X "isinstance" := by rfl) (hg2 : Gl X T := by rfl) (hn : T ≠ "__name__" := by decide) (hdb : (T == ("__debug__" : Str)) = false := by decide)
    (he : starEach [a, .Name T p2] X.env = (false, eval a X.env) :: starEach [.Name T p2] X.env := by rfl) (he2 : starEach [.Name T p2] X.env = (false, eval (.Name T p2) X.env) :: starEach [] X.env := by rfl) (hpl : (backTo pos (starEach [.Name T p2] X.env)).any (·.1) = false := by rfl) :
    PE X (.Call (.Name "isinstance" p) [a, .Name T p2] [] pos) (tIs X.K n te) := by
  refine ⟨fun pins s σ H Q I h => ?_⟩
  refine wpAny_Call_Name_kw (ld_blt I hg hm boot_isinstance ?_)
  refine PyProof.Rows.callWith_builtin1 ?_ he hpl
  rw [he]
  refine Calls.spliced_cons (thn (ha.run pins s σ H _ I h) fun u s1 ⟨x, H1, I1, r1, t, b, ty, k, q⟩ => ?_)
  rw [he2]
  refine Calls.spliced_cons (ld_blt I1 hg2 hm2 hT (Calls.spliced_nil ?_) hn hdb)
  exact call_isi pins s1 σ H1 [x, .ty n] [u, .type n] Q I1 (.cons r1 (.cons rfl .nil)) ⟨x, .ty n, _, _, b, rfl, .ty n, ty, kit_ty k, q⟩
/-- sorted(set(a)) -/
def tSrt (K : PySem.W.Frag) (te : TE) : TE := fun σ H Q => te σ H fun x H1 => ∃ p ns, x = .ref p ∧ (SqL K H1 p (ns.map V.int) ∨ SqT K H1 p (ns.map V.int)) ∧ ns.length < 64 ∧
  ∀ H2 r, Same H1 H2 → H1 r = none → H2 r = some (.lst ((srt ns).map V.int)) → Q (.ref r) H2
theorem pe_srt {p2 q2 : Pos} (hc : X.calm = true) (hm : X.mg "sorted" = none) (hm2 : X.mg "set" = none) (ha : PE X a te) (hg : Gl X "sorted" := by rfl) (hg2 : Gl X "set" := by rfl)
    (he : starEach [.Call (.Name "set" p2) [a] [] q2] X.env = (false, eval (.Call (.Name "set" p2) [a] [] q2) X.env) :: starEach [] X.env := by rfl) (hpl : (backTo pos (starEach [] X.env)).any (·.1) = false := by rfl)
    (he2 : starEach [a] X.env = (false, eval a X.env) :: starEach [] X.env := by rfl) (hpl2 : (backTo q2 (starEach [] X.env)).any (·.1) = false := by rfl) :
    PE X (.Call (.Name "sorted" p) [.Call (.Name "set" p2) [a] [] q2] [] pos) (tSrt X.K te) := by
  refine ⟨fun pins s σ H Q I h => ?_⟩
  refine wpAny_Call_Name_kw (ld_blt I hg hm boot_sorted ?_)
  refine PyProof.Rows.callWith_builtin1 ?_ he hpl
  rw [he]
  refine Calls.spliced_cons (wpAny_Call_Name_kw (ld_blt I hg2 hm2 boot_set ?_))
  refine PyProof.Rows.callWith_type1 ?_ he2 hpl2
  rw [he2]
  refine Calls.spliced_cons (thn (ha.run pins s σ H _ I h) fun u s1 ⟨x, H1, I1, r1, q⟩ => Calls.spliced_nil ?_)
  obtain ⟨l, ns, rfl, hq, hl, q⟩ := q
  refine thn (cr_setI hc pins s1 σ H1 [.ref l] [u] _ I1 (.cons r1 .nil) (srt_ans hq hl q)) fun v s2 ⟨y, H2, I2, r2, q2⟩ => Calls.spliced_nil ?_
  exact cr_sortedSet hc pins s2 σ H2 [y] [v] Q I2 (.cons r2 .nil) q2
/-- t[1:] -/
theorem tail_ans {K : PySem.W.Frag} {H : Hp} {Q : VK} {a : Addr} {xs : List V} (h : H a = some (.tup xs)) (q : ∀ b H', Same H H' → H' b = some (.tup (xs.drop 1)) → Q (.ref b) H') : rSlA K (.ref a) (some 1) none H Q := by
  have e1 : HT.sIx xs.length 0 (some 1) = min 1 xs.length := HT.sIx_nat _ _ 1
  refine ⟨a, xs, rfl, SqT.of h, fun z => ?_, fun z p hp => ?_⟩
  · rw [e1] at z
    have e : xs = [] := List.length_eq_zero_iff.mp (by omega)
    subst e
    exact q a H (.refl H) h
  · refine q p _ (fun b o e => by rw [upd_ne (ne_of_none e hp)]; exact e) ?_
    rw [upd_same]
    unfold cutV
    rw [e1]
    have e2 : HT.sIx xs.length xs.length none = xs.length := rfl
    rw [e2] at z ⊢
    rw [e1] at z
    have : min 1 xs.length = 1 := by omega
    rw [this, List.take_of_length_le (by rw [List.length_drop] <;> omega)]
def rTl : V → Option Int → Option Int → Hp → VK → Prop := fun x lo hi H Q => lo = some 1 ∧ hi = none ∧ ∃ a xs, x = .ref a ∧ H a = some (.tup xs) ∧ ∀ b H', Same H H' → H' b = some (.tup (xs.drop 1)) → Q (.ref b) H'
theorem sl_tl : SlR X rTl := by
  intro pins s σ H x v vl vu lo hi sl Q I rx hs pl pu h
  obtain ⟨rfl, rfl, a, xs, rfl, ha, q⟩ := h
  exact sl_tupA pins s σ H _ v vl vu _ _ sl Q I rx hs pl pu (tail_ans ha q)
/-! ### the same, K named (for the blocks of comprehensions) -/
theorem ixT (K : PySem.W.Frag) (h : X.K = K := by rfl) : IxR X (rIxT K) := h ▸ ix_tup
theorem ixL (K : PySem.W.Frag) (h : X.K = K := by rfl) : IxR X (rIxL K) := h ▸ ix_list
theorem pe_lenK (K : PySem.W.Frag) (hm : X.mg "len" = none) (ha : PE X a te) (h : X.K = K := by rfl) (hg : Gl X "len" := by rfl) (he : starEach [a] X.env = (false, eval a X.env) :: starEach [] X.env := by rfl) (hpl : (backTo pos (starEach [] X.env)).any (·.1) = false := by rfl) :
    PE X (.Call (.Name "len" p) [a] [] pos) (tCB (rLen K) (tCons te tNil)) := h ▸ pe_len hm ha hg he hpl
theorem pe_listK (K : PySem.W.Frag) (hm : X.mg "list" = none) (ha : PE X a te) (h : X.K = K := by rfl) (hg : Gl X "list" := by rfl) (he : starEach [a] X.env = (false, eval a X.env) :: starEach [] X.env := by rfl) (hpl : (backTo pos (starEach [] X.env)).any (·.1) = false := by rfl) :
    PE X (.Call (.Name "list" p) [a] [] pos) (tCB (rList K) (tCons te tNil)) := h ▸ pe_list hm ha hg he hpl
theorem pe_tuplK (K : PySem.W.Frag) (hm : X.mg "tuple" = none) (ha : PE X a te) (h : X.K = K := by rfl) (hg : Gl X "tuple" := by rfl) (he : starEach [a] X.env = (false, eval a X.env) :: starEach [] X.env := by rfl) (hpl : (backTo pos (starEach [] X.env)).any (·.1) = false := by rfl) :
    PE X (.Call (.Name "tuple" p) [a] [] pos) (tCB (rTuple K) (tCons te tNil)) := h ▸ pe_tupl hm ha hg he hpl
end
end Dw

/-! part DwA -/
set_option Elab.async false
set_option linter.all false
set_option maxRecDepth 100000
set_option maxHeartbeats 4000000
/-! is_number .. need_works -/
namespace Dw
open PySem PySem.Spec PyProof.Rows L2 GenW

/-! ### works -/
structure Kind where
  wants : Lot
  bars : Lot
  routes : List Lot
structure Works where
  dyes : Int
  vats : Stand
  kinds : List Kind
def LotOk (m : Int) (xs : Lot) : Prop := Ris xs ∧ ∀ z ∈ xs, 0 ≤ z ∧ z < m
def RouteOk (n : Nat) (xs : Lot) : Prop := (1 ≤ xs.length ∧ xs.length ≤ 3) ∧ ∀ z ∈ xs, 0 ≤ z ∧ z < n
structure KindOk (m : Int) (n : Nat) (k : Kind) : Prop where
  wants : LotOk m k.wants
  bars : LotOk m k.bars
  few : 1 ≤ k.routes.length ∧ k.routes.length ≤ 4
  routes : ∀ r ∈ k.routes, RouteOk n r
structure WOk (W : Works) : Prop where
  dyes : 1 ≤ W.dyes ∧ W.dyes ≤ 4
  few : 1 ≤ W.vats.length ∧ W.vats.length ≤ 4
  vats : ∀ l ∈ W.vats, LotOk W.dyes l
  kfew : 1 ≤ W.kinds.length ∧ W.kinds.length ≤ 3
  kinds : ∀ k ∈ W.kinds, KindOk W.dyes W.vats.length k
def IsK (H : Hp) (v : V) (k : Kind) : Prop := ∃ a x y z, v = .ref a ∧ H a = some (.tup [x, y, z]) ∧ IsL H x k.wants ∧ IsL H y k.bars ∧ IsS H z k.routes
def IsW (H : Hp) (v : V) (W : Works) : Prop := ∃ a y b ks, v = .ref a ∧ H a = some (.tup [.int W.dyes, y, .ref b]) ∧ IsS H y W.vats ∧ H b = some (.tup ks) ∧ Paired (IsK H) ks W.kinds
theorem IsK.keep {H H' : Hp} {v : V} {k : Kind} (h : IsK H v k) (t : KT H H') : IsK H' v k := by
  obtain ⟨a, x, y, z, e, h1, h2, h3, h4⟩ := h
  exact ⟨a, x, y, z, e, t a _ h1, h2.keep t, h3.keep t, h4.keep t⟩
theorem IsW.keep {H H' : Hp} {v : V} {W : Works} (h : IsW H v W) (t : KT H H') : IsW H' v W := by
  obtain ⟨a, y, b, ks, e, h1, h2, h3, h4⟩ := h
  exact ⟨a, y, b, ks, e, t a _ h1, h2.keep t, t b _ h3, Paired.mapP h4 fun _ _ q => q.keep t⟩
theorem pr_get {α β : Type} {R : α → β → Prop} : ∀ {xs : List α} {ys : List β}, Paired R xs ys → ∀ {i : Nat} {x : α}, xs[i]? = some x → ∃ y, ys[i]? = some y ∧ R x y
  | _, _, .nil, i, x, h => by simp at h
  | _, _, .cons r t, 0, x, h => by
    simp only [List.getElem?_cons_zero, Option.some.injEq] at h
    subst h
    exact ⟨_, rfl, r⟩
  | _, _, .cons r t, i + 1, x, h => by
    simp only [List.getElem?_cons_succ] at h ⊢
    exact pr_get t h
theorem pr_get2 {α β : Type} {R : α → β → Prop} : ∀ {xs : List α} {ys : List β}, Paired R xs ys → ∀ {i : Nat} {y : β}, ys[i]? = some y → ∃ x, xs[i]? = some x ∧ R x y
  | _, _, .nil, i, x, h => by simp at h
  | _, _, .cons r t, 0, x, h => by
    simp only [List.getElem?_cons_zero, Option.some.injEq] at h
    subst h
    exact ⟨_, rfl, r⟩
  | _, _, .cons r t, i + 1, x, h => by
    simp only [List.getElem?_cons_succ] at h ⊢
    exact pr_get2 t h
theorem map_get {α β : Type} {f : α → β} {xs : List α} {i : Nat} {y : β} (h : (xs.map f)[i]? = some y) : ∃ x, xs[i]? = some x ∧ y = f x := by
  rw [List.getElem?_map] at h
  cases e : xs[i]? with
  | none => rw [e] at h; cases h
  | some x => rw [e] at h; exact ⟨x, rfl, (Option.some.inj h).symm⟩
theorem mem_at {α : Type} {xs : List α} {i : Nat} {x : α} (h : xs[i]? = some x) : x ∈ xs := List.mem_of_getElem? h

theorem ris_at {xs : List Int} (h : Ris xs) {i : Nat} {x y : Int} (e1 : xs[i]? = some x) (e2 : xs[i + 1]? = some y) : x < y := by
  obtain ⟨h1, rfl⟩ := List.getElem?_eq_some_iff.mp e1
  obtain ⟨h2, rfl⟩ := List.getElem?_eq_some_iff.mp e2
  exact List.pairwise_iff_getElem.mp h i (i + 1) h1 h2 (Nat.lt_succ_self i)
/-! ### promises -/
def spNum : Sp := fun vs H Q _ => ∃ v lo hi : Int, vs = [.int v, .int lo, .int hi] ∧ lo ≤ v ∧ v ≤ hi ∧ Q (.bl true) H
def spRoute (T : Addr) : Sp := fun vs H Q _ => ∃ v xs n, vs = [v, .int (n : Nat)] ∧ IsL H v xs ∧ RouteOk n xs ∧ Tb H T ∧ ∀ H', Kp H H' → Q (.bl true) H'
def spLot (T : Addr) : Sp := fun vs H Q _ => ∃ v xs m, vs = [v, .int m] ∧ IsL H v xs ∧ LotOk m xs ∧ Tb H T ∧ ∀ H', Kp H H' → Q (.bl true) H'

section
variable {P : Program} {w : World} {K : PySem.W.Frag} {mg : Str → Option Value} {base : Heap}
theorem sc13 : FnScope ["value", "low", "high"] ["value", "low", "high"] (defScope (st 13)) := ⟨rfl, rfl, rfl, by decide +kernel, rfl, by decide +kernel, by decide +kernel⟩
theorem d_num (D : DefAt K mg "is_number" (st 13)) (N : Nm mg) : Df P w K mg base "is_number" 1 ["value", "low", "high"] spNum := by
  refine D.df sc13 (fun vs H Q E h => ?_) (fun _ _ _ _ _ _ us hl => match us, hl with | [_, _, _], _ => rfl) (fun f cdv A outer s H vs Q E hr h => ?_)
  · obtain ⟨v, lo, hi, rfl, _⟩ := h
    rfl
  · obtain ⟨v, lo, hi, rfl, h1, h2, q⟩ := h
    refine ⟨_, pss_one (ps_ret (pe_and (pe_isi N.isinstance N.int (pv 0) boot_int) (pe_and (pe_not (pe_isi N.isinstance N.bool (pv 0) (show bootBuiltins "bool" = some (.type "bool") by decide +kernel))) (pe_one (pe_chain op_le op_le (pv 1) (pv 0) (pv 2)))))), ?_⟩
    refine ⟨_, rfl, _, true, .base (.int v), (by decide +kernel), true, rfl, iteT ⟨_, rfl, _, false, .base (.int v), (by decide +kernel), _, rfl, _, rfl, iteT ?_⟩⟩
    refine ⟨_, rfl, _, rfl, _, _, rfl, rfl, _, rfl, ?_⟩
    rw [if_pos (decide_eq_true h1)]
    refine ⟨_, rfl, _, _, rfl, rfl, ?_⟩
    show Q (.bl (decide (v ≤ hi))) H
    rw [decide_eq_true h2]
    exact q

abbrev n15 : List Str := ["value", "many", "part", "one", "other"]
theorem sc15 : FnScope n15 ["value", "many"] (defScope (st 15)) := ⟨rfl, rfl, rfl, by decide +kernel, rfl, by decide +kernel, by decide +kernel⟩
theorem d_lot {T : Addr} (D : DefAtC K mg base "is_lot" (st 15) T) (N : Nm mg) (B : BltB base mg) (Dn : Df P w K mg base "is_number" 1 ["value", "low", "high"] spNum) : Df P w K mg base "is_lot" 3 ["value", "many"] (spLot T) := by
  refine D.df sc15 (fun vs H Q E h => ?_) (fun _ _ _ _ _ _ us hl => match us, hl with | [_, _], _ => rfl) (fun f c A outer s H vs Q E hcode hr h => ?_)
  · obtain ⟨v, xs, m, rfl, _⟩ := h
    rfl
  · obtain ⟨v, xs, m, rfl, hv, ok, tb, q⟩ := h
    refine ⟨_, pss_cons (ps_if (pw_or (pt_not (pt_val (pe_isi N.isinstance N.tuple (pv 0) boot_tuple))) (pw_or1 (pt_not (pt_val (pe_allG (own := [("part", 2)]) (g := gName 2) rfl sc15.nd hr B (by rfl) N.all (pi_tup (pv 0)) (blkOk_by (N := n15) (sc := defScope (st 15)) (by decide +kernel))
        (fun _ _ _ _ _ _ _ _ => pg_name (i := 2) sc15.nd rfl (Or.inl rfl)) (fun _ _ _ _ _ _ _ _ hr1 => pe_df Dn hr1 (by rfl) (pa_cons (pv 2) (pa_cons pe_int (pa_cons (pe_op op_sub (pv 1) pe_int) pa_nil))))))))).pt (pss_one (ps_ret pe_bl)) pss_nil)
      (pss_one (ps_ret (pe_allG (k := 0) (own := [("one", 3), ("other", 4)]) (g := gTup K 2 (gCons (gName 3) (gCons (gName 4) gNil))) rfl sc15.nd (hr.mono (by decide)) B (by rfl) N.all (RZ.pi_zipA (by rfl) N.zip (pa_cons (pv 0) (pa_cons (pe_slice sl_tl (pv 0) (po_some pe_int) po_none) pa_nil))) (blkOk_by (N := n15) (sc := defScope (st 15)) (by decide +kernel))
        (fun _ _ _ _ _ _ _ _ => pg_tup rfl (pgs_cons (pg_name (i := 3) sc15.nd rfl (Or.inl rfl)) (pgs_cons (pg_name (i := 4) sc15.nd rfl (Or.inl rfl)) pgs_nil))) (fun _ _ _ _ _ _ _ _ _ => pe_cmpR op_lt (pv 3) (pv 4) (nomark _))))), ?_⟩
    obtain ⟨a, rfl, ha⟩ := id hv
    refine ⟨_, rfl, _, true, .base (.tup ha), (by decide +kernel), true, rfl, iteF ?_⟩
    -- all parts are numbers
    refine ⟨_, rfl, a, rfl, ⟨_, SqT.of ha⟩, c, T, rfl, .inl hcode, tb.tabG, fun code H2 gr => aa_wlk (stp := false) wl_tup (fun _ H' => Kp H H') (fun _ => true) true (gr.kp tb.tabG) (fun i H' k => SqT.of (k.tup ha)) ?_ (fun _ => rfl) (fun i _ z => nomatch z) fun i H3 k3 => ⟨true, rfl, iteF ?_⟩⟩
    · rintro i H1 x H' G hi k1 ⟨rfl, hx⟩ fin
      obtain ⟨z, hz, rfl⟩ := map_get hx
      have b := ok.2 z (mem_at hz)
      exact ⟨rfl, _, rfl, _, rfl, _, _, rfl, rfl, z, 0, m - 1, rfl, b.1, by omega, fin _ k1⟩
    · -- in order
      have ha3 := k3.tup ha
      refine ⟨_, rfl, _, rfl, 1, rfl, rfl, rfl, a, _, rfl, ha3, fun b H4 sm hb => ⟨a, b, _, _, rfl, .inr ⟨SqT.of (sm _ _ ha3), SqT.of hb, c, T, rfl, .inl hcode, (k3.trans (.same sm)).tg _ tb.tabG, fun code H5 gr => ?_⟩⟩⟩
      have k4 := k3.trans (.same sm)
      have k5 := (gr.kp (k4.tg _ tb.tabG))
      refine aa_wlk (stp := false) (wl_zipT rfl) (fun _ H' => Kp H4 H') (fun _ => true) true k5 (fun i H' k => ⟨SqT.of (k.tup (sm _ _ ha3)), SqT.of (k.tup hb)⟩) ?_ (fun _ => rfl) (fun i _ z => nomatch z) fun i H6 k6 => q _ (k4.trans k6)
      rintro i H1 x H' G hi k1 ⟨t, u, v, rfl, ht, rfl, hu, hv⟩ fin
      obtain ⟨u, hu', rfl⟩ := map_get hu
      rw [List.getElem?_drop, Nat.add_comm] at hv
      obtain ⟨v, hv', rfl⟩ := map_get hv
      refine ⟨t, _, rfl, SqT.of upd_same, rfl, _, _, rfl, _, _, rfl, rfl, rfl, _, rfl, _, rfl, u, v, rfl, rfl, ?_⟩
      show G (.bl (decide (u < v))) _
      rw [decide_eq_true (ris_at ok.1 hu' hv')]
      exact fin _ (k1.add ht)

abbrev n16 : List Str := ["value", "vats", "vat"]
theorem sc16 : FnScope n16 ["value", "vats"] (defScope (st 16)) := ⟨rfl, rfl, rfl, by decide +kernel, rfl, by decide +kernel, by decide +kernel⟩
theorem d_route {T : Addr} (D : DefAtC K mg base "is_route" (st 16) T) (N : Nm mg) (C : Cs mg) (B : BltB base mg) (Dn : Df P w K mg base "is_number" 1 ["value", "low", "high"] spNum) : Df P w K mg base "is_route" 3 ["value", "vats"] (spRoute T) := by
  refine D.df sc16 (fun vs H Q E h => ?_) (fun _ _ _ _ _ _ us hl => match us, hl with | [_, _], _ => rfl) (fun f c A outer s H vs Q E hcode hr h => ?_)
  · obtain ⟨v, xs, m, rfl, _⟩ := h
    rfl
  · obtain ⟨v, xs, n, rfl, hv, ok, tb, q⟩ := h
    refine ⟨_, pss_cons (ps_if (pw_or (pt_not (pt_val (pe_isi N.isinstance N.tuple (pv 0) boot_tuple))) (pw_or1 (pt_not (pt_chain op_le op_le pe_int (pe_len N.len (pv 0)) (pe_cst C.long (by rfl)))))).pt (pss_one (ps_ret pe_bl)) pss_nil)
      (pss_one (ps_ret (pe_allG (own := [("vat", 2)]) (g := gName 2) rfl sc16.nd hr B (by rfl) N.all (pi_tup (pv 0)) (blkOk_by (N := n16) (sc := defScope (st 16)) (by decide +kernel))
        (fun _ _ _ _ _ _ _ _ => pg_name (i := 2) sc16.nd rfl (Or.inl rfl)) (fun _ _ _ _ _ _ _ _ hr1 => pe_df Dn hr1 (by rfl) (pa_cons (pv 2) (pa_cons pe_int (pa_cons (pe_op op_sub (pv 1) pe_int) pa_nil))))))), ?_⟩
    obtain ⟨a, rfl, ha⟩ := id hv
    have hl := ok.1
    refine ⟨_, rfl, _, true, .base (.tup ha), (by decide +kernel), true, rfl, iteF ⟨_, rfl, a, _, rfl, .inr (SqT.of ha), _, _, rfl, rfl, _, rfl, ?_⟩⟩
    refine iteT' (decide_eq_true (by rw [List.length_map] <;> omega)) ⟨_, _, rfl, rfl, _, rfl, ?_⟩
    refine iteF' ?_ ?_
    · show (!decide (((xs.map V.int).length : Int) ≤ 6)) = false
      rw [decide_eq_true (by rw [List.length_map] <;> omega)] <;> rfl
    refine ⟨_, rfl, a, rfl, ⟨_, SqT.of ha⟩, c, T, rfl, .inl hcode, tb.tabG, fun code H2 gr => ?_⟩
    refine aa_wlk (stp := false) wl_tup (fun _ H' => Kp H H') (fun _ => true) true (gr.kp tb.tabG) (fun i H' k => SqT.of (k.tup ha)) ?_ (fun _ => rfl) (fun i _ z => nomatch z) fun i H3 k3 => q _ k3
    rintro i H1 x H' G hi k1 ⟨rfl, hx⟩ fin
    obtain ⟨z, hz, rfl⟩ := map_get hx
    have b := ok.2 z (mem_at hz)
    exact ⟨rfl, _, rfl, _, rfl, _, _, rfl, rfl, z, 0, (n : Int) - 1, rfl, b.1, by omega, fin _ k1⟩

def spKind (T1 T2 T3 : Addr) : Sp := fun vs H Q _ => ∃ v k m n, vs = [v, .int m, .int (n : Nat)] ∧ IsK H v k ∧ KindOk m n k ∧ (Tb H T1 ∧ Tb H T2 ∧ Tb H T3) ∧ ∀ H', Kp H H' → Q (.bl true) H'
abbrev n17 : List Str := ["value", "dyes", "vats", "routes", "route"]
theorem sc17 : FnScope n17 ["value", "dyes", "vats"] (defScope (st 17)) := ⟨rfl, rfl, rfl, by decide +kernel, rfl, by decide +kernel, by decide +kernel⟩
theorem d_kind {T1 T2 T : Addr} (D : DefAtC K mg base "is_kind" (st 17) T) (N : Nm mg) (C : Cs mg) (B : BltB base mg) (Dl : Df P w K mg base "is_lot" 3 ["value", "many"] (spLot T1)) (Dr : Df P w K mg base "is_route" 3 ["value", "vats"] (spRoute T2)) :
    Df P w K mg base "is_kind" 5 ["value", "dyes", "vats"] (spKind T1 T2 T) := by
  refine D.df sc17 (fun vs H Q E h => ?_) (fun _ _ _ _ _ _ us hl => match us, hl with | [_, _, _], _ => rfl) (fun f c A outer s H vs Q E hcode hr h => ?_)
  · obtain ⟨v, k, m, n, rfl, _⟩ := h
    rfl
  · obtain ⟨v, k, m, n, rfl, hv, ok, tb, q⟩ := h
    have hr3 : Room 3 _ := hr.mono (by decide)
    refine ⟨_, pss_cons (ps_if (pw_or (pt_not (pt_val (pe_isi N.isinstance N.tuple (pv 0) boot_tuple))) (pw_or (pt_cmpR op_ne (pe_len N.len (pv 0)) pe_int (nomark _))
        (pw_or (pt_not (pt_val (pe_df Dl hr3 (by rfl) (pa_cons (pe_ix ix_tup (pv 0) pe_int (fun _ _ => rfl)) (pa_cons (pv 1) pa_nil))))) (pw_or1 (pt_not (pt_val (pe_df Dl hr3 (by rfl) (pa_cons (pe_ix ix_tup (pv 0) pe_int (fun _ _ => rfl)) (pa_cons (pv 1) pa_nil))))))))).pt (pss_one (ps_ret pe_bl)) pss_nil)
      (pss_cons (ps_set (i := 3) sc17.nd rfl (Or.inl rfl) (pe_ix ix_tup (pv 0) pe_int (fun _ _ => rfl)))
      (pss_cons (ps_if (pw_or (pt_not (pt_val (pe_isi N.isinstance N.tuple (pv 3) boot_tuple))) (pw_or1 (pt_not (pt_chain op_le op_le pe_int (pe_len N.len (pv 3)) (pe_cst C.routes (by rfl)))))).pt (pss_one (ps_ret pe_bl)) pss_nil)
      (pss_one (ps_ret (pe_allG (own := [("route", 4)]) (g := gName 4) rfl sc17.nd hr B (by rfl) N.all (pi_tup (pv 3)) (blkOk_by (N := n17) (sc := defScope (st 17)) (by decide +kernel))
        (fun _ _ _ _ _ _ _ _ => pg_name (i := 4) sc17.nd rfl (Or.inl rfl)) (fun _ _ _ _ _ _ _ _ hr1 => pe_df Dr hr1 (by rfl) (pa_cons (pv 4) (pa_cons (pv 2) pa_nil)))))))), ?_⟩
    obtain ⟨a, x, y, z, rfl, ha, hx, hy, hz⟩ := id hv
    refine ⟨_, rfl, _, true, .base (.tup ha), (by decide +kernel), true, rfl, iteF ⟨_, rfl, a, _, rfl, .inr (SqT.of ha), rfl, _, rfl, iteF ?_⟩⟩
    refine ⟨_, rfl, a, _, _, _, rfl, rfl, SqT.of ha, atI_nat rfl, _, rfl, x, _, m, rfl, hx, ok.wants, tb.1, fun H1 k1 => ⟨true, rfl, iteF ?_⟩⟩
    refine ⟨_, rfl, a, _, _, _, rfl, rfl, SqT.of (k1.tup ha), atI_nat rfl, _, rfl, y, _, m, rfl, hy.keep k1.kt, ok.bars, k1.tb _ tb.1, fun H2 k2 => ⟨true, rfl, iteF ?_⟩⟩
    have k12 := k1.trans k2
    refine ⟨_, rfl, a, _, _, _, rfl, rfl, SqT.of (k12.tup ha), atI_nat rfl, ?_⟩
    obtain ⟨b, ps, rfl, hb, pr⟩ := hz.keep k12.kt
    have hl : ps.length = k.routes.length := Paired.length pr
    have few := ok.few
    refine ⟨_, rfl, _, true, .base (.tup hb), (by decide +kernel), true, rfl, iteF ⟨_, rfl, b, _, rfl, .inr (SqT.of hb), _, _, rfl, rfl, _, rfl, ?_⟩⟩
    refine iteT' (decide_eq_true (by omega)) ⟨_, _, rfl, rfl, _, rfl, ?_⟩
    refine iteF' ?_ ?_
    · show (!decide ((ps.length : Int) ≤ 8)) = false
      rw [decide_eq_true (by omega)] <;> rfl
    have t2 := k12.tb _ tb.2.2
    refine ⟨_, rfl, b, rfl, ⟨_, SqT.of hb⟩, c, T, rfl, .inl hcode, t2.tabG, fun code H3 gr => ?_⟩
    refine aa_wlk (stp := false) wl_tup (fun _ H' => Kp H2 H') (fun _ => true) true (gr.kp t2.tabG) (fun i H' k => SqT.of (k.tup hb)) ?_ (fun _ => rfl) (fun i _ z => nomatch z) fun i H3 k3 => q _ (k12.trans k3)
    rintro i H1 x H' G hi k3 ⟨rfl, hx⟩ fin
    obtain ⟨r, hr, ir⟩ := pr_get pr hx
    exact ⟨rfl, _, rfl, _, rfl, _, r, n, rfl, ir.keep k3.kt, ok.routes r (mem_at hr), k3.tb _ (k12.tb _ tb.2.1), fun H5 k5 => fin _ (k3.trans k5)⟩
end
end Dw

/-! part DwB -/
set_option Elab.async false
set_option linter.all false
set_option maxRecDepth 100000
set_option maxHeartbeats 4000000
/-! need_number, need_works, joined, behind -/
namespace Dw
open PySem PySem.Spec PyProof.Rows L2 GenW
def spNeedN : Sp := fun vs H Q _ => ∃ v lo hi : Int, vs = [.int v, .int lo, .int hi] ∧ lo ≤ v ∧ v ≤ hi ∧ Q .non H
/-- the tables of is_lot, is_route, is_kind, need_works -/
structure T4 where
  a : Addr
  b : Addr
  c : Addr
  d : Addr
def T4.ok (T : T4) (H : Hp) : Prop := Tb H T.a ∧ Tb H T.b ∧ Tb H T.c ∧ Tb H T.d
theorem T4.ok.kp {T : T4} {H H' : Hp} (t : T.ok H) (k : Kp H H') : T.ok H' := ⟨k.tb _ t.1, k.tb _ t.2.1, k.tb _ t.2.2.1, k.tb _ t.2.2.2⟩
def spNeedW (T : T4) : Sp := fun vs H Q _ => ∃ v W, vs = [v] ∧ IsW H v W ∧ WOk W ∧ T.ok H ∧ ∀ H', Kp H H' → Q .non H'
section
variable {P : Program} {w : World} {K : PySem.W.Frag} {mg : Str → Option Value} {base : Heap}
theorem sc14 : FnScope ["value", "low", "high"] ["value", "low", "high"] (defScope (st 14)) := ⟨rfl, rfl, rfl, by decide +kernel, rfl, by decide +kernel, by decide +kernel⟩
theorem d_needN (D : DefAt K mg "need_number" (st 14)) (N : Nm mg) (Dn : Df P w K mg base "is_number" 1 ["value", "low", "high"] spNum) : Df P w K mg base "need_number" 2 ["value", "low", "high"] spNeedN := by
  refine D.df sc14 (fun vs H Q E h => ?_) (fun _ _ _ _ _ _ us hl => match us, hl with | [_, _, _], _ => rfl) (fun f cdv A outer s H vs Q E hr h => ?_)
  · obtain ⟨v, lo, hi, rfl, _⟩ := h
    rfl
  · obtain ⟨v, lo, hi, rfl, h1, h2, q⟩ := h
    refine ⟨_, pss_one (ps_if (pt_not (pt_val (pe_df Dn hr (by rfl) (pa_cons (pv 0) (pa_cons (pv 1) (pa_cons (pv 2) pa_nil)))))) pss_never pss_nil), ?_⟩
    exact ⟨_, rfl, _, rfl, _, rfl, v, lo, hi, rfl, h1, h2, true, rfl, iteF q⟩
abbrev n18 : List Str := ["value", "dyes", "vats", "kinds", "own", "kind"]
theorem sc18 : FnScope n18 ["value"] (defScope (st 18)) := ⟨rfl, rfl, rfl, by decide +kernel, rfl, by decide +kernel, by decide +kernel⟩
theorem d_needW {T : T4} (D : DefAtC K mg base "need_works" (st 18) T.d) (N : Nm mg) (C : Cs mg) (B : BltB base mg) (Dn : Df P w K mg base "is_number" 1 ["value", "low", "high"] spNum) (Dl : Df P w K mg base "is_lot" 3 ["value", "many"] (spLot T.a))
    (Dk : Df P w K mg base "is_kind" 5 ["value", "dyes", "vats"] (spKind T.a T.b T.c)) : Df P w K mg base "need_works" 7 ["value"] (spNeedW T) := by
  refine D.df sc18 (fun vs H Q E h => ?_) (fun _ _ _ _ _ _ us hl => match us, hl with | [_], _ => rfl) (fun f c A outer s H vs Q E hcode hr h => ?_)
  · obtain ⟨v, W, rfl, _⟩ := h
    rfl
  · obtain ⟨v, W, rfl, hv, ok, tb, q⟩ := h
    have hr1 : Room 1 _ := hr.mono (by decide)
    have hr4 : Room 4 _ := hr.mono (by decide)
    refine ⟨_, pss_cons (ps_if (pw_or (pt_not (pt_val (pe_isi N.isinstance N.tuple (pv 0) boot_tuple))) (pw_or1 (pt_cmpR op_ne (pe_len N.len (pv 0)) pe_int (nomark _)))).pt pss_never pss_nil)
      (pss_cons (ps_asg (pv 0) (pg_tup rfl (pgs_cons (pg_name (i := 1) sc18.nd rfl (Or.inr rfl)) (pgs_cons (pg_name (i := 2) sc18.nd rfl (Or.inr rfl)) (pgs_cons (pg_name (i := 3) sc18.nd rfl (Or.inl rfl)) pgs_nil)))))
      (pss_cons (ps_if (pt_not (pt_val (pe_df Dn hr1 (by rfl) (pa_cons (pv 1) (pa_cons pe_int (pa_cons (pe_cst C.dyes (by rfl)) pa_nil)))))) pss_never pss_nil)
      (pss_cons (ps_if (pw_or (pt_not (pt_val (pe_isi N.isinstance N.tuple (pv 2) boot_tuple))) (pw_or (pt_not (pt_chain op_le op_le pe_int (pe_len N.len (pv 2)) (pe_cst C.vats (by rfl)))) (pw_or1 (pt_not (pt_val
        (pe_allG (own := [("own", 4)]) (g := gName 4) rfl sc18.nd hr4 B (by rfl) N.all (pi_tup (pv 2)) (blkOk_by (N := n18) (sc := defScope (st 18)) (by decide +kernel))
          (fun _ _ _ _ _ _ _ _ => pg_name (i := 4) sc18.nd rfl (Or.inl rfl)) (fun _ _ _ _ _ _ _ _ hr1 => pe_df Dl hr1 (by rfl) (pa_cons (pv 4) (pa_cons (pv 1) pa_nil))))))))).pt pss_never pss_nil)
      (pss_cons (ps_if (pw_or (pt_not (pt_val (pe_isi N.isinstance N.tuple (pv 3) boot_tuple))) (pw_or1 (pt_not (pt_chain op_le op_le pe_int (pe_len N.len (pv 3)) (pe_cst C.kinds (by rfl)))))).pt pss_never pss_nil)
      (pss_one (ps_if (pt_not (pt_val (pe_allG (own := [("kind", 5)]) (g := gName 5) rfl sc18.nd hr B (by rfl) N.all (pi_tup (pv 3)) (blkOk_by (N := n18) (sc := defScope (st 18)) (by decide +kernel))
          (fun _ _ _ _ _ _ _ _ => pg_name (i := 5) sc18.nd rfl (Or.inl rfl)) (fun _ _ _ _ _ _ _ _ hr1 => pe_df Dk hr1 (by rfl) (pa_cons (pv 5) (pa_cons (pv 1) (pa_cons (pe_lenK K N.len (pv 2)) pa_nil))))))) pss_never pss_nil)))))), ?_⟩
    obtain ⟨a, y, b, ks, rfl, ha, hy, hb, pr⟩ := id hv
    obtain ⟨v, ls, rfl, hv2, pl⟩ := id hy
    have l1 : ls.length = W.vats.length := Paired.length pl
    have l2 : ks.length = W.kinds.length := Paired.length pr
    have f1 := ok.few
    have f2 := ok.kfew
    have f3 := ok.dyes
    refine ⟨_, rfl, _, true, .base (.tup ha), (by decide +kernel), true, rfl, iteF ⟨_, rfl, a, _, rfl, .inr (SqT.of ha), rfl, _, rfl, iteF ?_⟩⟩
    refine ⟨_, rfl, a, _, rfl, SqT.of ha, rfl, _, _, rfl, _, _, rfl, _, _, rfl, rfl, ?_⟩
    refine ⟨_, rfl, W.dyes, 1, 5, rfl, f3.1, by omega, true, rfl, iteF ?_⟩
    refine ⟨_, rfl, _, true, .base (.tup hv2), (by decide +kernel), true, rfl, iteF ⟨_, rfl, v, _, rfl, .inr (SqT.of hv2), _, _, rfl, rfl, _, rfl, ?_⟩⟩
    refine iteT' (decide_eq_true (by omega)) ⟨_, _, rfl, rfl, _, rfl, ?_⟩
    refine iteF' ?_ ?_
    · show (!decide ((ls.length : Int) ≤ 5)) = false
      rw [decide_eq_true (by omega)] <;> rfl
    refine ⟨_, rfl, v, rfl, ⟨_, SqT.of hv2⟩, c, T.d, rfl, .inl hcode, tb.2.2.2.tabG, fun code H2 gr => ?_⟩
    refine aa_wlk (stp := false) wl_tup (fun _ H' => Kp H H') (fun _ => true) true (gr.kp tb.2.2.2.tabG) (fun i H' k => SqT.of (k.tup hv2)) ?_ (fun _ => rfl) (fun i _ z => nomatch z) fun i H3 k3 => ⟨true, rfl, iteF ?_⟩
    · rintro i H1 x H' G hi k3 ⟨rfl, hx⟩ fin
      obtain ⟨l, hl, il⟩ := pr_get pl hx
      exact ⟨rfl, _, rfl, _, rfl, _, l, W.dyes, rfl, il.keep k3.kt, ok.vats l (mem_at hl), k3.tb _ tb.1, fun H5 k5 => fin _ (k3.trans k5)⟩
    · refine ⟨_, rfl, _, true, .base (.tup (k3.tup hb)), (by decide +kernel), true, rfl, iteF ⟨_, rfl, b, _, rfl, .inr (SqT.of (k3.tup hb)), _, _, rfl, rfl, _, rfl, ?_⟩⟩
      refine iteT' (decide_eq_true (by omega)) ⟨_, _, rfl, rfl, _, rfl, ?_⟩
      refine iteF' ?_ ?_
      · show (!decide ((ks.length : Int) ≤ 4)) = false
        rw [decide_eq_true (by omega)] <;> rfl
      have t3 := tb.kp k3
      refine ⟨_, rfl, b, rfl, ⟨_, SqT.of (k3.tup hb)⟩, c, T.d, rfl, .inl hcode, t3.2.2.2.tabG, fun code H2 gr => ?_⟩
      refine aa_wlk (stp := false) wl_tup (fun _ H' => Kp H H') (fun _ => true) true (k3.trans (gr.kp t3.2.2.2.tabG)) (fun i H' k => SqT.of (k.tup hb)) ?_ (fun _ => rfl) (fun i _ z => nomatch z) fun i H3 k3 => ⟨true, rfl, iteF (q _ k3)⟩
      rintro i H1 x H' G hi k3 ⟨rfl, hx⟩ fin
      obtain ⟨k, hk, ik⟩ := pr_get pr hx
      refine ⟨rfl, _, rfl, _, rfl, _, rfl, v, _, rfl, .inr (SqT.of (k3.tup hv2)), _, k, W.dyes, W.vats.length, ?_, ik.keep k3.kt, ok.kinds k (mem_at hk), ⟨k3.tb _ tb.1, k3.tb _ tb.2.1, k3.tb _ tb.2.2.1⟩, fun H5 k5 => fin _ (k3.trans k5)⟩
      rw [l1]
      rfl
end
end Dw

/-! part DwC -/
set_option Elab.async false
set_option linter.all false
set_option maxRecDepth 100000
set_option maxHeartbeats 4000000
/-! joined, behind -/
namespace Dw
open PySem PySem.Spec PyProof.Rows L2 GenW
/-! ### one order -/
def beh1 (t : Stand × Lot) (v : Int) : Stand × Lot := (t.1.set v.toNat (srt (t.2 ++ t.1.getD v.toNat [])), srt (t.2 ++ t.1.getD v.toNat []))
def beh (s : Stand) (r : Lot) : Stand × Lot := r.foldl beh1 (s, [])
/-- lots of the dyes below m -/
def SOk (m : Int) (s : Stand) : Prop := ∀ l ∈ s, LotOk m l
def PosOk (n : Nat) (r : Lot) : Prop := ∀ z ∈ r, 0 ≤ z ∧ z < n
theorem ris_len : ∀ {xs : List Int} {a m : Int}, Ris xs → (∀ z ∈ xs, a ≤ z ∧ z < m) → xs.length ≤ (m - a).toNat
  | [], a, m, _, _ => Nat.zero_le _
  | x :: r, a, m, h, b => by
    obtain ⟨h1, h2⟩ := List.pairwise_cons.mp h
    have b0 := b x List.mem_cons_self
    have ih := ris_len (a := x + 1) (m := m) h2 fun z hz => ⟨h1 z hz, (b z (List.mem_cons_of_mem _ hz)).2⟩
    rw [List.length_cons]
    omega
theorem LotOk.len {m : Int} {xs : Lot} (h : LotOk m xs) : xs.length ≤ m.toNat := by
  have := ris_len h.1 h.2
  simpa using this
theorem LotOk.nil (m : Int) : LotOk m [] := ⟨List.Pairwise.nil, fun z h => nomatch h⟩
theorem LotOk.srt {m : Int} {xs ys : Lot} (h : LotOk m xs) (h2 : LotOk m ys) : LotOk m (srt (xs ++ ys)) := ⟨ris_srt _, fun z hz => by
  rcases List.mem_append.mp (mem_srt.mp hz) with q | q
  · exact h.2 z q
  · exact h2.2 z q⟩
theorem SOk.getD {m : Int} {s : Stand} (h : SOk m s) (i : Nat) : LotOk m (s.getD i []) := by
  rw [List.getD_eq_getElem?_getD]
  cases e : s[i]? with
  | none => exact .nil m
  | some l => exact h l (mem_at e)
theorem SOk.set {m : Int} {s : Stand} {l : Lot} (h : SOk m s) (hl : LotOk m l) (i : Nat) : SOk m (s.set i l) := fun z hz => by
  rcases List.mem_or_eq_of_mem_set hz with q | q
  · exact h z q
  · rw [q]; exact hl
theorem beh1_ok {m : Int} {t : Stand × Lot} (h : SOk m t.1) (h2 : LotOk m t.2) (v : Int) : SOk m (beh1 t v).1 ∧ LotOk m (beh1 t v).2 ∧ (beh1 t v).1.length = t.1.length :=
  ⟨h.set (h2.srt (h.getD _)) _, h2.srt (h.getD _), List.length_set ..⟩
theorem behF_ok {m : Int} : ∀ {r : Lot} {t : Stand × Lot}, SOk m t.1 → LotOk m t.2 → SOk m (r.foldl beh1 t).1 ∧ LotOk m (r.foldl beh1 t).2 ∧ (r.foldl beh1 t).1.length = t.1.length
  | [], t, h, h2 => ⟨h, h2, rfl⟩
  | v :: r, t, h, h2 => by
    obtain ⟨a, b, c⟩ := beh1_ok h h2 v
    obtain ⟨a', b', c'⟩ := behF_ok (r := r) a b
    exact ⟨a', b', c'.trans c⟩
theorem beh_ok {m : Int} {s : Stand} (h : SOk m s) (r : Lot) : SOk m (beh s r).1 ∧ LotOk m (beh s r).2 ∧ (beh s r).1.length = s.length := behF_ok h (.nil m)
/-! ### rules -/
/-- t + u -/
def rCt : R2 := fun x y H Q => ∃ a b xs ys, x = .ref a ∧ y = .ref b ∧ H a = some (.tup xs) ∧ H b = some (.tup ys) ∧ xs.length + ys.length ≤ sizeLine ∧ ∀ c H', Same H H' → H' c = some (.tup (xs ++ ys)) → Q (.ref c) H'
theorem op_ct {X : Cx} : OpR X (binaryOp .Add) rCt := by
  intro pins s σ H x y v u Q I rx ry h
  obtain ⟨a, b, xs, ys, rfl, rfl, ha, hb, hz, q⟩ := h
  refine op_catA pins s σ H _ _ v u Q I rx ry ⟨a, b, xs, ys, rfl, rfl, SqT.of ha, SqT.of hb, hz, fun e => ?_, fun _ e => ?_, fun _ _ p hp => ?_⟩
  · exact q b H (.refl H) (by rw [e]; exact hb)
  · exact q a H (.refl H) (by rw [e, List.append_nil]; exact ha)
  · exact q p _ (fun c o e => by rw [upd_ne (ne_of_none e hp)]; exact e) upd_same
def spJoined : Sp := fun vs H Q _ => ∃ u v xs ys, vs = [u, v] ∧ IsL H u xs ∧ IsL H v ys ∧ xs.length + ys.length < 64 ∧ ∀ H' r, Kp H H' → IsL H' r (srt (xs ++ ys)) → Q r H'
/-- a pair: a stand, a lot -/
def IsP (H : Hp) (v : V) (p : Stand × Lot) : Prop := ∃ a x y, v = .ref a ∧ H a = some (.tup [x, y]) ∧ IsS H x p.1 ∧ IsL H y p.2
def spBeh : Sp := fun vs H Q _ => ∃ u v s r m, vs = [u, v] ∧ IsS H u s ∧ IsL H v r ∧ SOk m s ∧ m ≤ 4 ∧ PosOk s.length r ∧ ∀ H' p, Kp H H' → IsP H' p (beh s r) → Q p H'
theorem pr_set {R : V → Lot → Prop} : ∀ {xs : List V} {ys : List Lot}, Paired R xs ys → ∀ {x : V} {y : Lot}, R x y → ∀ i, Paired R (xs.set i x) (ys.set i y)
  | _, _, .nil, _, _, _, _ => .nil
  | _, _, .cons _ t, _, _, q, 0 => .cons q t
  | _, _, .cons r t, _, _, q, i + 1 => .cons r (pr_set t q i)
theorem ixN_at {n : Nat} {i : Int} (h : 0 ≤ i) (h2 : i < n) : ixN n i = some i.toNat := by
  unfold ixN
  rw [if_pos h, if_pos h2]
theorem atI_at {α : Type} {xs : List α} {i : Int} {v : α} (h : 0 ≤ i) (e : xs[i.toNat]? = some v) : atI xs i = some v := by
  have : i = (i.toNat : Int) := (Int.toNat_of_nonneg h).symm
  rw [this]
  exact atI_nat e
section
variable {P : Program} {w : World} {K : PySem.W.Frag} {mg : Str → Option Value} {base : Heap}
theorem sc19 : FnScope ["one", "other"] ["one", "other"] (defScope (st 19)) := ⟨rfl, rfl, rfl, by decide +kernel, rfl, by decide +kernel, by decide +kernel⟩
theorem d_joined (D : DefAt K mg "joined" (st 19)) (N : Nm mg) : Df P w K mg base "joined" 1 ["one", "other"] spJoined := by
  refine D.df sc19 (fun vs H Q E h => ?_) (fun _ _ _ _ _ _ us hl => match us, hl with | [_, _], _ => rfl) (fun f cdv A outer s H vs Q E hr h => ?_)
  · obtain ⟨u, v, xs, ys, rfl, _⟩ := h
    rfl
  · obtain ⟨u, v, xs, ys, rfl, hu, hv, hl, q⟩ := h
    refine ⟨_, pss_one (ps_ret (pe_tupl N.tuple (pe_srt rfl N.sorted N.set (pe_op op_ct (pv 0) (pv 1))))), ?_⟩
    obtain ⟨a, rfl, ha⟩ := hu
    obtain ⟨b, rfl, hb⟩ := hv
    refine ⟨_, rfl, _, rfl, a, b, _, _, rfl, rfl, ha, hb, by rw [List.length_map, List.length_map, sizeLine_eq]; omega, fun c H1 s1 hc => ⟨c, xs ++ ys, rfl, .inr (SqT.of (by rw [List.map_append]; exact hc)), by rw [List.length_append]; exact hl, fun H2 r s2 nr hr => ?_⟩⟩
    exact ⟨r, _, rfl, .inl ⟨SqL.of hr, fun l nl => q _ _ ((Kp.same (s1.trans s2)).add nl) ⟨l, rfl, upd_same⟩⟩⟩
abbrev n20 : List Str := ["stand", "route", "traces", "carried", "vat"]
theorem sc20 : FnScope n20 ["stand", "route"] (defScope (st 20)) := ⟨rfl, rfl, rfl, by decide +kernel, rfl, by decide +kernel, by decide +kernel⟩
theorem d_beh (D : DefAt K mg "behind" (st 20)) (N : Nm mg) (Dj : Df P w K mg base "joined" 1 ["one", "other"] spJoined) : Df P w K mg base "behind" 2 ["stand", "route"] spBeh := by
  refine D.df sc20 (fun vs H Q E h => ?_) (fun _ _ _ _ _ _ us hl => match us, hl with | [_, _], _ => rfl) (fun f cdv A outer sh H vs Q E hr h => ?_)
  · obtain ⟨u, v, s, r, m, rfl, _⟩ := h
    rfl
  · obtain ⟨u, v, s, r, m, rfl, hu, hv, ok, hm, ps, q⟩ := h
    refine ⟨_, pss_cons (ps_par (i := 2) (j := 3) rfl sc20.nd rfl rfl (by decide) rfl rfl (pa_cons (pe_list N.list (pv 0)) (pa_cons (pe_tup pa_nil) pa_nil)) (by rfl))
      (pss_cons (ps_for PassesOwn.never rfl (pi_tup (pv 1)) (pg_name (i := 4) sc20.nd rfl (Or.inl rfl))
        (pss_cons (ps_set (i := 3) sc20.nd rfl (Or.inl rfl) (pe_df Dj hr (by rfl) (pa_cons (pv 3) (pa_cons (pe_ix ix_list (pv 2) (pv 4) (fun _ _ => rfl)) pa_nil))))
        (pss_one (ps_asg (pv 3) (pg_sub (pv 2) (pv 4) set_list)))))
      (pss_one (ps_ret (pe_tup (pa_cons (pe_tupl N.tuple (pv 2)) (pa_cons (pv 3) pa_nil)))))), ?_⟩
    obtain ⟨a, ls, rfl, ha, pl⟩ := id hu
    obtain ⟨b, rfl, hb⟩ := id hv
    refine ⟨_, rfl, a, _, rfl, .inr (SqT.of ha), fun l nl => ⟨by show 0 ≤ sizeLine; decide, fun t nt => ⟨_, _, rfl, ?_⟩⟩⟩
    have k1 : Kp H (upd (upd H l (.lst ls)) t (.tup [])) := ((Kp.refl H).add nl).add nt
    have nlt : l ≠ t := fun z => by rw [← z, upd_same] at nt; cases nt
    refine ⟨_, rfl, b, rfl, ⟨_, SqT.of (k1.tup hb)⟩, ?_⟩
    refine for_wlk wl_tup (fun i σ H' => ∃ (c : V) (ps : List V) (o : Option V), σ = [some (.ref a), some (.ref b), some (.ref l), some c, o] ∧ Kp H H' ∧ H' l = some (.lst ps) ∧ Paired (IsL H') ps ((r.take i).foldl beh1 (s, [])).1 ∧ IsL H' c ((r.take i).foldl beh1 (s, [])).2)
      ⟨_, ls, none, rfl, k1, by rw [upd_ne nlt, upd_same], Paired.mapP pl fun _ _ q => q.keep k1.kt, ⟨t, rfl, upd_same⟩⟩ (fun i σ H' _ ⟨_, _, _, _, k, _⟩ => SqT.of (k.tup hb)) ?_ ?_
    · rintro i x σ H1 H' hi ⟨c, ps', o, rfl, k, hl, pr, hc⟩ ⟨rfl, hx⟩
      obtain ⟨z, hz, rfl⟩ := map_get hx
      have zp := ps z (mem_at hz)
      obtain ⟨o1, o2, o3⟩ := behF_ok (m := m) (r := r.take i) (t := (s, [])) ok (.nil m)
      have step : (r.take (i + 1)).foldl beh1 (s, []) = beh1 ((r.take i).foldl beh1 (s, [])) z := by
        have e : r.take (i + 1) = r.take i ++ [z] := by rw [List.take_add_one, hz] <;> rfl
        rw [e, List.foldl_append] <;> rfl
      generalize (r.take i).foldl beh1 (s, []) = T at *
      have ln : ps'.length = s.length := (Paired.length pr).trans o3
      have lt : z.toNat < T.1.length := by
        have : T.1.length = s.length := o3
        omega
      obtain ⟨y, hy, il⟩ := pr_get2 pr (List.getElem?_eq_getElem lt)
      have eg : T.1.getD z.toNat [] = T.1[z.toNat] := by rw [List.getD_eq_getElem?_getD, List.getElem?_eq_getElem lt] <;> rfl
      have l1 := o2.len
      have l2 := (o1.getD z.toNat).len
      refine ⟨_, rfl, _, rfl, _, rfl, l, ps', z, y, rfl, rfl, SqL.of hl, atI_at zp.1 hy, c, y, _, _, rfl, hc, il, by rw [← eg]; omega, fun H2 e k2 ie => ?_⟩
      refine ⟨_, rfl, _, rfl, _, rfl, l, ps', z, z.toNat, rfl, rfl, k2.lst hl, ixN_at zp.1 (by omega), e, ps'.set z.toNat e, _, rfl, ?_⟩
      have k3 := (k.trans k2).put (o := .lst (ps'.set z.toNat e)) nl (k2.lst hl)
      have kk : KT H2 (upd H2 l (.lst (ps'.set z.toNat e))) := fun d xs q => by rw [upd_ne (ne_of q (k2.lst hl) (by intro z; cases z))]; exact q
      rw [step]
      refine ⟨k3, upd_same, ?_, ?_⟩
      · rw [← eg] at ie
        exact pr_set (Paired.mapP pr fun _ _ q => (q.keep k2.kt).keep kk) (ie.keep kk) _
      · rw [← eg] at ie
        exact ie.keep kk
    · rintro σ H' ⟨c, ps', o, rfl, k, hl, pr, hc⟩
      rw [List.length_map, List.take_length] at pr hc
      refine ⟨_, rfl, l, ps', rfl, .inl ⟨SqL.of hl, fun t2 n2 => ⟨_, rfl, by show 2 ≤ sizeLine; decide, fun t3 n3 => ?_⟩⟩⟩
      have k4 := (k.add (o := .tup ps') n2).add (o := .tup [.ref t2, c]) n3
      have kk : KT H' (upd (upd H' t2 (.tup ps')) t3 (.tup [.ref t2, c])) := (((Kp.refl H').add n2).add n3).kt
      have n23 : t2 ≠ t3 := fun z => by rw [← z, upd_same] at n3; cases n3
      exact q _ _ k4 ⟨t3, _, _, rfl, upd_same, ⟨t2, ps', rfl, by rw [upd_ne n23, upd_same], Paired.mapP pr fun _ _ q => q.keep kk⟩, hc.keep kk⟩
end
end Dw

/-! part DwE -/
set_option Elab.async false
set_option linter.all false
set_option maxRecDepth 100000
set_option maxHeartbeats 4000000
/-! has_wants, is_clean, dyed -/
namespace Dw
open PySem PySem.Spec PyProof.Rows L2 GenW
def hasW (W : Works) (k : Kind) (r : Lot) : Bool := k.wants.all fun d => r.any fun v => decide (d ∈ W.vats.getD v.toNat [])
def clean (k : Kind) (c : Lot) : Bool := !(c.any fun d => decide (d ∈ k.bars))
theorem allR {α : Type} {xs : List α} {f : α → Bool} {g : Nat → Bool} (h : ∀ i x, xs[i]? = some x → g i = f x) : ((∀ i, i < xs.length → g i = true) → xs.all f = true) ∧ ∀ i, i < xs.length → g i = false → xs.all f = false := by
  refine ⟨fun q => List.all_eq_true.mpr fun x hx => ?_, fun i hi q => ?_⟩
  · obtain ⟨i, e⟩ := List.mem_iff_getElem?.mp hx
    rw [← h i x e]
    exact q i (List.getElem?_eq_some_iff.mp e).1
  · cases e : xs.all f with
    | false => rfl
    | true =>
      have := List.all_eq_true.mp e xs[i] (List.getElem_mem hi)
      rw [← h i _ (List.getElem?_eq_getElem hi), q] at this
      cases this
theorem anyR {α : Type} {xs : List α} {f : α → Bool} {g : Nat → Bool} (h : ∀ i x, xs[i]? = some x → g i = f x) : ((∀ i, i < xs.length → g i = false) → xs.any f = false) ∧ ∀ i, i < xs.length → g i = true → xs.any f = true := by
  refine ⟨fun q => ?_, fun i hi q => ?_⟩
  · cases e : xs.any f with
    | false => rfl
    | true =>
      obtain ⟨x, hx, ex⟩ := List.any_eq_true.mp e
      obtain ⟨i, e2⟩ := List.mem_iff_getElem?.mp hx
      have := q i (List.getElem?_eq_some_iff.mp e2).1
      rw [h i x e2, ex] at this
      cases this
  · refine List.any_eq_true.mpr ⟨xs[i], List.getElem_mem hi, ?_⟩
    rw [← h i _ (List.getElem?_eq_getElem hi)]
    exact q
/-- the i-th of xs by f -/
def nth {α : Type} (xs : List α) (f : α → Bool) (i : Nat) : Bool := match xs[i]? with
  | some x => f x
  | none => false
theorem nth_at {α : Type} {xs : List α} {f : α → Bool} (i : Nat) (x : α) (h : xs[i]? = some x) : nth xs f i = f x := by
  unfold nth
  rw [h]
/-- d in xs, ints -/
def rInI : R2 := fun x y H Q => ∃ (d : Int) (p : Addr) (xs : List Int), x = .int d ∧ y = .ref p ∧ (H p = some (.tup (xs.map V.int)) ∨ H p = some (.lst (xs.map V.int))) ∧ Q (.bl (decide (d ∈ xs))) H
theorem inV_int (d : Int) : ∀ xs : List Int, inV (.int d) (xs.map V.int) = decide (d ∈ xs)
  | [] => by simp [inV]
  | x :: r => by
    have ih := inV_int d r
    unfold inV at ih ⊢
    rw [List.map_cons, List.any_cons, ih]
    have e : eqV (.int x) (.int d) = decide (x = d) := by
      by_cases h : x = d <;> simp [eqV, h]
    rw [e]
    by_cases h : x = d
    · subst h; simp
    · have h' : ¬ d = x := fun z => h z.symm
      simp [h, h']
theorem flat_ints (xs : List Int) : (xs.map V.int).all flatV = true := by
  rw [List.all_map]
  exact List.all_eq_true.mpr fun _ _ => rfl
theorem op_inI {X : Cx} : OpR X (compareOp .In) rInI := by
  intro pins s σ H x y v u Q I rx ry h
  obtain ⟨d, p, xs, rfl, rfl, hp, q⟩ := h
  refine op_in_seq pins s σ H _ _ v u Q I rx ry ⟨p, xs.map V.int, rfl, hp.elim (fun z => .inr (SqT.of z)) (fun z => .inl (SqL.of z)), rfl, flat_ints xs, ?_⟩
  rw [inV_int]
  exact q
def rNotInI : R2 := fun x y H Q => ∃ (d : Int) (p : Addr) (xs : List Int), x = .int d ∧ y = .ref p ∧ (H p = some (.tup (xs.map V.int)) ∨ H p = some (.lst (xs.map V.int))) ∧ Q (.bl (!decide (d ∈ xs))) H
theorem op_notInI {X : Cx} : OpR X (compareOp .NotIn) rNotInI := by
  intro pins s σ H x y v u Q I rx ry h
  obtain ⟨d, p, xs, rfl, rfl, hp, q⟩ := h
  refine op_notIn_seq pins s σ H _ _ v u Q I rx ry ⟨p, xs.map V.int, rfl, hp.elim (fun z => .inr (SqT.of z)) (fun z => .inl (SqL.of z)), rfl, flat_ints xs, ?_⟩
  show Q (.bl (!inV _ _)) H
  rw [inV_int]
  exact q
def spHas (T : Addr) : Sp := fun vs H Q _ => ∃ u i v W k r, vs = [u, .int (i : Nat), v] ∧ IsW H u W ∧ W.kinds[i]? = some k ∧ IsL H v r ∧ PosOk W.vats.length r ∧ Tb H T ∧ ∀ H', Kp H H' → Q (.bl (hasW W k r)) H'
def spClean (T : Addr) : Sp := fun vs H Q _ => ∃ u i v W k c, vs = [u, .int (i : Nat), v] ∧ IsW H u W ∧ W.kinds[i]? = some k ∧ IsL H v c ∧ Tb H T ∧ ∀ H', Kp H H' → Q (.bl (clean k c)) H'
section
variable {P : Program} {w : World} {K : PySem.W.Frag} {mg : Str → Option Value} {base : Heap}
abbrev n21 : List Str := ["works", "kind", "route", "wants", "dye", "vat"]
abbrev sg21 : Scope := { kind := .function, names := [(".0", .local), ("dye", .cell), ("route", .free), ("works", .free), ("any", .globalImplicit)], isGenerator := true, isCoroutine := false }
theorem sc21 : FnScope n21 ["works", "kind", "route"] (defScope (st 21)) := ⟨rfl, rfl, rfl, by decide +kernel, rfl, by decide +kernel, by decide +kernel⟩
theorem d_has {T : Addr} (D : DefAtC K mg base "has_wants" (st 21) T) (N : Nm mg) (B : BltB base mg) : Df P w K mg base "has_wants" 3 ["works", "kind", "route"] (spHas T) := by
  refine D.df sc21 (fun vs H Q E h => ?_) (fun _ _ _ _ _ _ us hl => match us, hl with | [_, _, _], _ => rfl) (fun f c A outer s H vs Q E hcode hr h => ?_)
  · obtain ⟨u, i, v, W, k, r, rfl, _⟩ := h
    rfl
  · obtain ⟨u, i, v, W, k, r, rfl, hu, hk, hv, ps, tb, q⟩ := h
    refine ⟨_, pss_cons (ps_set (i := 3) sc21.nd rfl (Or.inl rfl) (pe_ix ix_tup (pe_ix ix_tup (pe_ix ix_tup (pv 0) pe_int (fun _ _ => rfl)) (pv 1) (fun _ _ => rfl)) pe_int (fun _ _ => rfl)))
      (pss_one (ps_ret (pe_allG (own := [("dye", 4)]) (g := gName 4) (te := fun code => tAA true base code _ (iTup K (tVar 2)) (gName 5) (fun _ => tOp rInI (tVar 4) (tOp (rIxT K) (tOp (rIxT K) (tVar 0) (tC (.int 1))) (tVar 5))) [5]) rfl sc21.nd hr B (by rfl) N.all (pi_tup (pv 3)) (blkOk_by (N := n21) (sc := defScope (st 21)) (by decide +kernel))
        (fun _ _ _ _ _ _ _ _ => pg_name (i := 4) sc21.nd rfl (Or.inr rfl))
        (fun _ _ _ _ _ _ _ _ hr1 => pe_anyG (k := 0) (own := [("vat", 5)]) (g := gName 5) rfl sc21.nd hr1 B (by rfl) N.any (pi_tup (pv 2)) (blkOk_by (N := n21) (sc := sg21) (by decide +kernel))
          (fun _ _ _ _ _ _ _ _ => pg_name (i := 5) sc21.nd rfl (Or.inl rfl))
          (fun _ _ _ _ _ _ _ _ _ => pe_cmpR op_inI (pv 4) (pe_ix (ixT K) (pe_ix (ixT K) (pv 0) pe_int (fun _ _ => rfl)) (pv 5) (fun _ _ => rfl)) (by with_unfolding_all rfl)))))), ?_⟩
    obtain ⟨a, y, b, ks, rfl, ha, hy, hb, pk⟩ := id hu
    obtain ⟨vs, ls, rfl, hvs, pl⟩ := id hy
    obtain ⟨kv, hkv, ik⟩ := pr_get2 pk hk
    obtain ⟨ka, x1, x2, x3, rfl, hka, hx1, _⟩ := id ik
    obtain ⟨wa, rfl, hwa⟩ := id hx1
    obtain ⟨ra, rfl, hra⟩ := id hv
    refine ⟨_, rfl, a, _, _, _, rfl, rfl, SqT.of ha, atI_nat (j := 2) rfl, _, rfl, b, _, _, _, rfl, rfl, SqT.of hb, atI_nat hkv, ka, _, _, _, rfl, rfl, SqT.of hka, atI_nat (j := 0) rfl, ?_⟩
    refine ⟨_, rfl, wa, rfl, ⟨_, SqT.of hwa⟩, c, T, rfl, .inl hcode, tb.tabG, fun code H2 gr => ?_⟩
    obtain ⟨c2, P2, rfl, he, t2⟩ := gr.cod tb
    have al := allR (xs := k.wants) (f := fun d => r.any fun v => decide (d ∈ W.vats.getD v.toNat [])) nth_at
    refine aa_wlk (stp := false) wl_tup (fun _ H' => Kp H H' ∧ H' c2 = some (.ext fun h => PySem.W.CodeHd h c2 P2) ∧ GxR.TabG H' P2) (nth k.wants fun d => r.any fun v => decide (d ∈ W.vats.getD v.toNat [])) (hasW W k r) ⟨gr.kp tb.tabG, he, t2⟩ (fun i H' k => SqT.of (k.1.tup hwa)) ?_ (fun z => al.1 fun i hi => z i (by rw [List.length_map]; exact hi)) (fun i hi z => al.2 i (by rw [List.length_map] at hi; exact hi) z) fun i H3 k3 => q _ k3.1
    rintro j H3 x H' G hj ⟨k3, e3, t3⟩ ⟨rfl, hx⟩ fin
    obtain ⟨d, hd, rfl⟩ := map_get hx
    refine ⟨rfl, _, rfl, ra, rfl, ⟨_, SqT.of (k3.tup hra)⟩, c2, P2, rfl, .inr e3, t3, fun code H4 gr2 => ?_⟩
    have an := anyR (xs := r) (f := fun v => decide (d ∈ W.vats.getD v.toNat [])) nth_at
    have k4 := k3.trans (gr2.kp t3)
    refine aa_wlk (stp := true) wl_tup (fun _ H' => Kp H4 H') (nth r fun v => decide (d ∈ W.vats.getD v.toNat [])) (r.any fun v => decide (d ∈ W.vats.getD v.toNat [])) (.refl _) (fun i H' k => SqT.of (k.tup (k4.tup hra))) ?_ (fun z => an.1 fun i hi => z i (by rw [List.length_map]; exact hi)) (fun i hi z => an.2 i (by rw [List.length_map] at hi; exact hi) z) fun i H5 k5 => ?_
    · rintro l H5 x H' G hl k5 ⟨rfl, hx⟩ fin
      obtain ⟨v, hv, rfl⟩ := map_get hx
      have vp := ps v (mem_at hv)
      have lt : v.toNat < W.vats.length := by omega
      obtain ⟨y, hy, iy⟩ := pr_get2 pl (List.getElem?_eq_getElem lt)
      obtain ⟨ya, rfl, hya⟩ := id iy
      have k05 := k4.trans k5
      refine ⟨rfl, _, rfl, _, rfl, a, _, _, _, rfl, rfl, SqT.of (k05.tup ha), atI_nat (j := 1) rfl, _, rfl, vs, _, _, _, rfl, rfl, SqT.of (k05.tup hvs), atI_at vp.1 hy, d, ya, _, rfl, rfl, .inl (k05.tup hya), ?_⟩
      have e1 := nth_at (f := fun v : Int => decide (d ∈ W.vats.getD v.toNat [])) l v hv
      have e2 : W.vats.getD v.toNat [] = W.vats[v.toNat] := by rw [List.getD_eq_getElem?_getD, List.getElem?_eq_getElem lt] <;> rfl
      rw [← e2, ← e1]
      exact fin _ k5
    · rw [← nth_at (f := fun d => r.any fun v => decide (d ∈ W.vats.getD v.toNat [])) j d hd]
      have kk := (gr2.kp t3).trans k5
      exact fin _ ⟨k3.trans kk, kk.ob _ _ e3 (fun ps z => by cases z), kk.tg _ t3⟩
abbrev n22 : List Str := ["works", "kind", "carried", "dye"]
theorem sc22 : FnScope n22 ["works", "kind", "carried"] (defScope (st 22)) := ⟨rfl, rfl, rfl, by decide +kernel, rfl, by decide +kernel, by decide +kernel⟩
theorem d_clean {T : Addr} (D : DefAtC K mg base "is_clean" (st 22) T) (N : Nm mg) (B : BltB base mg) : Df P w K mg base "is_clean" 2 ["works", "kind", "carried"] (spClean T) := by
  refine D.df sc22 (fun vs H Q E h => ?_) (fun _ _ _ _ _ _ us hl => match us, hl with | [_, _, _], _ => rfl) (fun f c A outer s H vs Q E hcode hr h => ?_)
  · obtain ⟨u, i, v, W, k, r, rfl, _⟩ := h
    rfl
  · obtain ⟨u, i, v, W, k, r, rfl, hu, hk, hv, tb, q⟩ := h
    refine ⟨_, pss_one (ps_ret (pe_not (pe_anyG (k := 0) (own := [("dye", 3)]) (g := gName 3) rfl sc22.nd hr B (by rfl) N.any (pi_tup (pv 2)) (blkOk_by (N := n22) (sc := defScope (st 22)) (by decide +kernel))
        (fun _ _ _ _ _ _ _ _ => pg_name (i := 3) sc22.nd rfl (Or.inl rfl))
        (fun _ _ _ _ _ _ _ _ _ => pe_cmpR op_inI (pv 3) (pe_ix (ixT K) (pe_ix (ixT K) (pe_ix (ixT K) (pv 0) pe_int (fun _ _ => rfl)) (pv 1) (fun _ _ => rfl)) pe_int (fun _ _ => rfl)) (by with_unfolding_all rfl))))), ?_⟩
    obtain ⟨a, y, b, ks, rfl, ha, hy, hb, pk⟩ := id hu
    obtain ⟨kv, hkv, ik⟩ := pr_get2 pk hk
    obtain ⟨ka, x1, x2, x3, rfl, hka, _, hx2, _⟩ := id ik
    obtain ⟨wa, rfl, hwa⟩ := id hx2
    obtain ⟨ra, rfl, hra⟩ := id hv
    refine ⟨_, rfl, ra, rfl, ⟨_, SqT.of hra⟩, c, T, rfl, .inl hcode, tb.tabG, fun code H2 gr => ?_⟩
    have an := anyR (xs := r) (f := fun d => decide (d ∈ k.bars)) nth_at
    refine aa_wlk (stp := true) wl_tup (fun _ H' => Kp H H') (nth r fun d => decide (d ∈ k.bars)) (r.any fun d => decide (d ∈ k.bars)) (gr.kp tb.tabG) (fun i H' k => SqT.of (k.tup hra)) ?_ (fun z => an.1 fun i hi => z i (by rw [List.length_map]; exact hi)) (fun i hi z => an.2 i (by rw [List.length_map] at hi; exact hi) z) fun i H5 k5 => ⟨_, rfl, q _ k5⟩
    rintro l H5 x H' G hl k5 ⟨rfl, hx⟩ fin
    obtain ⟨d, hd, rfl⟩ := map_get hx
    refine ⟨rfl, _, rfl, _, rfl, a, _, _, _, rfl, rfl, SqT.of (k5.tup ha), atI_nat (j := 2) rfl, _, rfl, b, _, _, _, rfl, rfl, SqT.of (k5.tup hb), atI_nat hkv, ka, _, _, _, rfl, rfl, SqT.of (k5.tup hka), atI_nat (j := 1) rfl, d, wa, _, rfl, rfl, .inl (k5.tup hwa), ?_⟩
    rw [← nth_at (f := fun d => decide (d ∈ k.bars)) l d hd]
    exact fin _ k5
def good (W : Works) (k : Kind) (s : Stand) (r : Lot) : Bool := hasW W k r && clean k (beh s r).2
def spDyed (T1 T2 : Addr) : Sp := fun vs H Q _ => ∃ u v i n W k r s, vs = [u, v, .int (i : Nat), .int (n : Nat)] ∧ IsW H u W ∧ WOk W ∧ IsS H v s ∧ SOk W.dyes s ∧ s.length = W.vats.length ∧ W.kinds[i]? = some k ∧ k.routes[n]? = some r ∧ (Tb H T1 ∧ Tb H T2) ∧
  ∀ H' p x, Kp H H' → H' p = some (.tup [x, .bl (good W k s r)]) → IsS H' x (beh s r).1 → Q (.ref p) H'
abbrev n23 : List Str := ["works", "stand", "kind", "number", "route", "later", "carried"]
theorem sc23 : FnScope n23 ["works", "stand", "kind", "number"] (defScope (st 23)) := ⟨rfl, rfl, rfl, by decide +kernel, rfl, by decide +kernel, by decide +kernel⟩
theorem WOk.route {W : Works} (ok : WOk W) {i n : Nat} {k : Kind} {r : Lot} (hk : W.kinds[i]? = some k) (h : k.routes[n]? = some r) : PosOk W.vats.length r := ((ok.kinds k (mem_at hk)).routes r (mem_at h)).2
theorem d_dyed {T1 T2 : Addr} (D : DefAt K mg "dyed" (st 23)) (Db : Df P w K mg base "behind" 2 ["stand", "route"] spBeh) (Dh : Df P w K mg base "has_wants" 3 ["works", "kind", "route"] (spHas T1)) (Dc : Df P w K mg base "is_clean" 2 ["works", "kind", "carried"] (spClean T2)) :
    Df P w K mg base "dyed" 4 ["works", "stand", "kind", "number"] (spDyed T1 T2) := by
  refine D.df sc23 (fun vs H Q E h => ?_) (fun _ _ _ _ _ _ us hl => match us, hl with | [_, _, _, _], _ => rfl) (fun f cdv A outer sh H vs Q E hr h => ?_)
  · obtain ⟨u, v, i, n, W, k, r, s, rfl, _⟩ := h
    rfl
  · obtain ⟨u, v, i, n, W, k, r, s, rfl, hu, ok, hv, so, ln, hk, hn, tb, q⟩ := h
    have hr2 : Room 2 _ := hr.mono (by decide)
    refine ⟨_, pss_cons (ps_set (i := 4) sc23.nd rfl (Or.inl rfl) (pe_ix ix_tup (pe_ix ix_tup (pe_ix ix_tup (pe_ix ix_tup (pv 0) pe_int (fun _ _ => rfl)) (pv 2) (fun _ _ => rfl)) pe_int (fun _ _ => rfl)) (pv 3) (fun _ _ => rfl)))
      (pss_cons (ps_asg (pe_df Db hr2 (by rfl) (pa_cons (pv 1) (pa_cons (pv 4) pa_nil))) (pg_tup rfl (pgs_cons (pg_name (i := 5) sc23.nd rfl (Or.inl rfl)) (pgs_cons (pg_name (i := 6) sc23.nd rfl (Or.inl rfl)) pgs_nil))))
      (pss_one (ps_ret (pe_tup (pa_cons (pv 5) (pa_cons (pe_and (pe_df Dh hr (by rfl) (pa_cons (pv 0) (pa_cons (pv 2) (pa_cons (pv 4) pa_nil)))) (pe_one (pe_df Dc hr2 (by rfl) (pa_cons (pv 0) (pa_cons (pv 2) (pa_cons (pv 6) pa_nil)))))) pa_nil)))))), ?_⟩
    obtain ⟨a, y, b, ks, rfl, ha, hy, hb, pk⟩ := id hu
    obtain ⟨kv, hkv, ik⟩ := pr_get2 pk hk
    obtain ⟨ka, x1, x2, x3, rfl, hka, _, _, hx3⟩ := id ik
    obtain ⟨za, rs, rfl, hza, pz⟩ := id hx3
    obtain ⟨rv, hrv, ir⟩ := pr_get2 pz hn
    refine ⟨_, rfl, a, _, _, _, rfl, rfl, SqT.of ha, atI_nat (j := 2) rfl, _, rfl, b, _, _, _, rfl, rfl, SqT.of hb, atI_nat hkv, ka, _, _, _, rfl, rfl, SqT.of hka, atI_nat (j := 2) rfl, _, rfl, za, _, _, _, rfl, rfl, SqT.of hza, atI_nat hrv, ?_⟩
    have po := ok.route hk hn
    refine ⟨_, rfl, _, rfl, v, rv, s, r, W.dyes, rfl, hv, ir, so, ok.dyes.2, by rw [ln]; exact po, fun H1 p k1 ip => ?_⟩
    obtain ⟨pa, x, y2, rfl, hpa, ix, iy⟩ := ip
    refine ⟨pa, _, rfl, SqT.of hpa, rfl, x, _, rfl, y2, _, rfl, rfl, ?_⟩
    refine ⟨_, rfl, _, rfl, _, rfl, _, rfl, _, i, rv, W, k, r, rfl, hu.keep k1.kt, hk, ir.keep k1.kt, po, k1.tb _ tb.1, fun H2 k2 => ⟨_, rfl, ?_⟩⟩
    have k12 := k1.trans k2
    cases hw : hasW W k r with
    | true =>
      refine iteT ⟨_, rfl, _, rfl, _, rfl, _, i, y2, W, k, _, rfl, hu.keep k12.kt, hk, iy.keep k2.kt, k12.tb _ tb.2, fun H3 k3 => ⟨by show 2 ≤ sizeLine; decide, fun t nt => ?_⟩⟩
      refine q _ t x ((k12.trans k3).add nt) ?_ (ix.keep ((k2.trans k3).add nt).kt)
      rw [upd_same]
      unfold good
      rw [hw] <;> rfl
    | false =>
      refine iteF ⟨by show 2 ≤ sizeLine; decide, fun t nt => ?_⟩
      refine q _ t x (k12.add nt) ?_ (ix.keep (k2.add nt).kt)
      rw [upd_same]
      unfold good
      rw [hw] <;> rfl
end
end Dw

/-! part DwF -/
set_option Elab.async false
set_option linter.all false
set_option maxRecDepth 100000
set_option maxHeartbeats 4000000
/-! all_stands -/
namespace Dw
open PySem PySem.Spec PyProof.Rows L2 GenW
theorem nodup_le {α : Type} [DecidableEq α] : ∀ {xs U : List α}, xs.Nodup → (∀ x ∈ xs, x ∈ U) → xs.length ≤ U.length
  | [], U, _, _ => Nat.zero_le _
  | x :: r, U, h, s => by
    obtain ⟨h1, h2⟩ := List.nodup_cons.mp h
    have hx := s x List.mem_cons_self
    have ih := nodup_le (xs := r) (U := U.erase x) h2 fun y hy => (List.mem_erase_of_ne fun e => h1 (by rw [← e]; exact hy)).mpr (s y (List.mem_cons_of_mem _ hy))
    rw [List.length_erase_of_mem hx] at ih
    have := List.length_pos_of_mem hx
    rw [List.length_cons]
    omega
/-- all later stands are in C too -/
def Cld (W : Works) (C : Stand → Prop) : Prop := ∀ s, C s → ∀ k ∈ W.kinds, ∀ r ∈ k.routes, C (beh s r).1
def SW (W : Works) (s : Stand) : Prop := SOk W.dyes s ∧ s.length = W.vats.length
def spAll : Sp := fun vs H Q _ => ∃ (u : V) (W : Works) (U : List Stand), vs = [u] ∧ IsW H u W ∧ WOk W ∧ W.vats ∈ U ∧ Cld W (· ∈ U) ∧ (∀ s ∈ U, SW W s) ∧ U.length ≤ 5000 ∧
  ∀ H' l ps fs, Kp H H' → H' l = some (.lst ps) → Paired (IsS H') ps fs → fs.Nodup → W.vats ∈ fs → Cld W (· ∈ fs) → (∀ s ∈ fs, s ∈ U) → fs.length ≤ U.length → Q (.ref l) H'
/-- the state of the search -/
def AI (P : Program) (w : World) (H0 : Hp) (U : List Stand) (a : V) (l d : Addr) (n : Nat) (fs : List Stand) (σ : L2.St) (H : Hp) : Prop :=
  ∃ ps f o4 o5 o6 o7, σ = [some a, some (.ref l), some (.int (n : Nat)), some (.ref d), o4, o5, o6, o7] ∧ Kp H0 H ∧ H l = some (.lst ps) ∧ Paired (IsS H) ps fs ∧ DS P w H d f fs.length ∧ (∀ t, (f t).isSome = decide (t ∈ fs)) ∧ fs.Nodup ∧ ∀ s ∈ fs, s ∈ U
theorem AI.slots {P : Program} {w : World} {H0 : Hp} {U : List Stand} {a : V} {l d : Addr} {n : Nat} {fs : List Stand} {σ : L2.St} {H : Hp} (A : AI P w H0 U a l d n fs σ H) {H' : Hp} (k : Kp H H') (o4 o5 o6 o7 : Option V) :
    AI P w H0 U a l d n fs [some a, some (.ref l), some (.int (n : Nat)), some (.ref d), o4, o5, o6, o7] H' := by
  obtain ⟨ps, f, _, _, _, _, _, h1, h2, h3, h4, h5⟩ := A
  exact ⟨ps, f, o4, o5, o6, o7, rfl, h1.trans k, k.lst h2, Paired.mapP h3 fun _ _ q => q.keep k.kt, k.ds h4, h5⟩
theorem pr_snoc {α β : Type} {R : α → β → Prop} : ∀ {xs : List α} {ys : List β}, Paired R xs ys → ∀ {x : α} {y : β}, R x y → Paired R (xs ++ [x]) (ys ++ [y])
  | _, _, .nil, _, _, q => .cons q .nil
  | _, _, .cons r t, _, _, q => .cons r (pr_snoc t q)
theorem take_snoc {α : Type} {xs : List α} {i : Nat} {x : α} (h : xs[i]? = some x) : xs.take (i + 1) = xs.take i ++ [x] := by
  rw [List.take_add_one, h] <;> rfl
section
variable {P : Program} {w : World} {K : PySem.W.Frag} {mg : Str → Option Value} {base : Heap}
abbrev n24 : List Str := ["works", "found", "at", "seen", "_", "routes", "route", "later"]
theorem sc24 : FnScope n24 ["works"] (defScope (st 24)) := ⟨rfl, rfl, rfl, by decide +kernel, rfl, by decide +kernel, by decide +kernel⟩
theorem d_all (D : DefAt K mg "all_stands" (st 24)) (N : Nm mg) (C : Cs mg) (Db : Df P w K mg base "behind" 2 ["stand", "route"] spBeh) : Df P w K mg base "all_stands" 3 ["works"] spAll := by
  refine D.df sc24 (fun vs H Q E h => ?_) (fun _ _ _ _ _ _ us hl => match us, hl with | [_], _ => rfl) (fun f cdv A outer sh H vs Q E hr h => ?_)
  · obtain ⟨u, W, U, rfl, _⟩ := h
    rfl
  · obtain ⟨u, W, U, rfl, hu, ok, u1, u2, u3, u4, q⟩ := h
    have hU : (A.deeper (envOfC "all_stands" (defScope (st 24)) sh.heap.objs.size f cdv)).units + 64 < cLine := hr.units
    refine ⟨_, pss_cons (ps_par (i := 1) (j := 2) rfl sc24.nd rfl rfl (by decide) rfl rfl (pa_cons (pe_lst (pa_cons (pe_ix ix_tup (pv 0) pe_int (fun _ _ => rfl)) pa_nil)) (pa_cons pe_int pa_nil)) (by rfl))
      (pss_cons (ps_set (i := 3) sc24.nd rfl (Or.inl rfl) (pe_dsone hU (pe_ix ix_tup (pv 0) pe_int (fun _ _ => rfl)) pe_bl))
      (pss_cons (ps_while PassesOwn.never (pt_cmpR op_lt (pv 2) (pe_len N.len (pv 1)) (nomark _))
        (pss_cons (ps_for PassesOwn.never rfl (pi_tup (pe_ix ix_tup (pv 0) pe_int (fun _ _ => rfl))) (pg_tup rfl (pgs_cons (pg_name (i := 4) sc24.nd rfl (Or.inl rfl)) (pgs_cons (pg_name (i := 4) sc24.nd rfl (Or.inl rfl)) (pgs_cons (pg_name (i := 5) sc24.nd rfl (Or.inl rfl)) pgs_nil))))
          (pss_one (ps_for PassesOwn.never rfl (pi_tup (pv 5)) (pg_name (i := 6) sc24.nd rfl (Or.inl rfl))
            (pss_cons (ps_set (i := 7) sc24.nd rfl (Or.inl rfl) (pe_ix ix_tup (pe_df Db hr (by rfl) (pa_cons (pe_ix ix_list (pv 1) (pv 2) (fun _ _ => rfl)) (pa_cons (pv 6) pa_nil))) pe_int (fun _ _ => rfl)))
            (pss_one (ps_if (pt_cmpR (op_notInDS hU) (pv 7) (pv 3) (by with_unfolding_all rfl))
              (pss_cons (ps_dsput hU (pv 3) (pv 7) pe_bl)
              (pss_cons (ps_expr (pe_bm PySem.F.plainAttrs_list PySem.F.slot_list_append PySem.F.type_list_append mt_append (pv 1) (pa_cons (pv 7) pa_nil)))
              (pss_one (ps_if (pt_cmpR op_gt (pe_len N.len (pv 1)) (pe_cst C.stands (by rfl)) (nomark _)) pss_never pss_nil))))
              pss_nil))))))
        (pss_one (ps_aug (i := 2) sc24.nd rfl (Or.inl rfl) pe_int ip_add))))
      (pss_one (ps_ret (pv 1))))), ?_⟩
    obtain ⟨a, y, b, ks, rfl, ha, hy, hb, pk⟩ := id hu
    refine ⟨_, rfl, a, _, _, _, rfl, rfl, SqT.of ha, atI_nat (j := 1) rfl, by show 1 ≤ sizeLine; decide, fun l nl => ⟨_, _, rfl, ?_⟩⟩
    have k0 := (Kp.refl H).add (o := .lst [y]) nl
    intro d H0 nd e0 D0
    have nd0 : H d = none := k0.nn d nd
    have k1 : Kp H H0 := k0.but e0 nd0 (.free nd) (by obtain ⟨xs, h1, _⟩ := id D0.ex; rw [h1]; intro z; cases z)
    have nld : l ≠ d := fun z => by rw [← z, upd_same] at nd; cases nd
    refine ⟨_, rfl, a, _, _, _, rfl, rfl, SqT.of (k1.tup ha), atI_nat (j := 1) rfl, W.vats, hy.keep k1.kt, D0, fun H3 e3 D3 => ?_⟩
    have k3 : Kp H H3 := k1.dsput nd0 D0 e3 D3
    have hl3 : H3 l = some (.lst [y]) := by rw [e3 l nld, e0 l nld, upd_same]
    refine while_by (fun σ H' => ∃ n fs, AI P w H U (.ref a) l d n fs σ H' ∧ W.vats ∈ fs ∧ n ≤ fs.length ∧ ∀ j, j < n → ∀ s, fs[j]? = some s → ∀ k ∈ W.kinds, ∀ r ∈ k.routes, (beh s r).1 ∈ fs)
      (fun σ _ => match σ[2]? with
        | some (some (V.int i)) => U.length - i.toNat
        | _ => 0) ⟨0, [W.vats], ⟨[y], _, _, _, _, _, rfl, k3, hl3, .cons (hy.keep k3.kt) .nil, D3, fun t => ?_, by simp, fun s hs => by rw [List.mem_singleton.mp hs]; exact u1⟩, List.mem_singleton_self _, Nat.zero_le _, fun j hj => absurd hj (Nat.not_lt_zero j)⟩ ?_ ?_
    · by_cases e : t = W.vats <;> simp [e]
    · rintro σ H' ⟨n, fs, ⟨ps, f, o4, o5, o6, o7, rfl, k, hl, pr, DD, hf, nd, sub⟩, vm, ln, dn⟩
      refine ⟨_, rfl, _, rfl, l, ps, rfl, .inl (SqL.of hl), _, _, rfl, rfl, _, rfl, ?_⟩
      have lp : ps.length = fs.length := Paired.length pr
      have lu := nodup_le nd sub
      by_cases lt : n < fs.length
      · refine iteT' (decide_eq_true (by omega)) ?_
        obtain ⟨s, hs⟩ : ∃ s, fs[n]? = some s := ⟨_, List.getElem?_eq_getElem lt⟩
        have sU := sub s (mem_at hs)
        refine ⟨_, rfl, a, _, _, _, rfl, rfl, SqT.of (k.tup ha), atI_nat (j := 2) rfl, b, rfl, ⟨_, SqT.of (k.tup hb)⟩, ?_⟩
        refine for_wlk wl_tup (fun i σ2 H2 => ∃ more, AI P w H U (.ref a) l d n (fs ++ more) σ2 H2 ∧ ∀ k ∈ W.kinds.take i, ∀ r ∈ k.routes, (beh s r).1 ∈ fs ++ more)
          ⟨[], by rw [List.append_nil]; exact ⟨ps, f, o4, o5, o6, o7, rfl, k, hl, pr, DD, hf, nd, sub⟩, fun k hk => nomatch hk⟩ (fun i σ2 H2 _ ⟨_, ⟨_, _, _, _, _, _, _, k, _⟩, _⟩ => SqT.of (k.tup hb)) ?_ ?_
        · rintro i x σ2 H2 H2' hi ⟨more, A2, dk⟩ ⟨rfl, hx⟩
          obtain ⟨kd, hkd, ik⟩ := pr_get pk hx
          obtain ⟨ps2, f2, p4, p5, p6, p7, rfl, k2, _⟩ := id A2
          obtain ⟨ka, x1, x2, x3, rfl, hka, _, _, hx3⟩ := ik.keep k2.kt
          obtain ⟨za, rs, rfl, hza, pz⟩ := id hx3
          refine ⟨ka, _, rfl, SqT.of hka, rfl, _, _, rfl, _, _, rfl, _, _, rfl, rfl, ?_⟩
          refine ⟨_, rfl, za, rfl, ⟨_, SqT.of hza⟩, ?_⟩
          refine for_wlk wl_tup (fun j σ3 H3 => ∃ more, AI P w H U (.ref a) l d n (fs ++ more) σ3 H3 ∧ KT H2' H3 ∧ (∃ o5 o6 o7, σ3 = [some (.ref a), some (.ref l), some (.int (n : Nat)), some (.ref d), some x2, o5, o6, o7]) ∧ (∀ k ∈ W.kinds.take i, ∀ r ∈ k.routes, (beh s r).1 ∈ fs ++ more) ∧ ∀ r ∈ kd.routes.take j, (beh s r).1 ∈ fs ++ more)
            ⟨more, A2.slots (.refl _) _ _ _ _, .refl _, ⟨_, _, _, rfl⟩, dk, fun r hr => nomatch hr⟩ (fun j σ3 H3 _ ⟨_, _, kt, _⟩ => SqT.of (kt _ _ hza)) ?_ ?_
          · rintro j x σ3 H3 H3' hj ⟨more, A3, kt3, ⟨o5, o6, o7, rfl⟩, dk3, dr⟩ ⟨rfl, hx⟩
            obtain ⟨r, hrr, ir⟩ := pr_get pz hx
            obtain ⟨ps3, f3, _, _, _, _, _, k3, hl3, pr3, D3, hf3, nd3, sub3⟩ := id A3
            have hs3 : (fs ++ more)[n]? = some s := by rw [List.getElem?_append_left lt]; exact hs
            obtain ⟨sv, hsv, is⟩ := pr_get2 pr3 hs3
            have po : PosOk s.length r := by rw [(u3 s sU).2]; exact ok.route hkd hrr
            have lu3 := nodup_le nd3 sub3
            refine ⟨_, rfl, _, rfl, l, ps3, _, _, rfl, rfl, SqL.of hl3, atI_nat hsv, _, rfl, sv, x, s, r, W.dyes, rfl, is, ir.keep kt3, (u3 s sU).1, ok.dyes.2, po, fun H4 p k4 ip => ?_⟩
            obtain ⟨pa, x, y, rfl, hpa, ix, iy⟩ := ip
            have D4 := k4.ds D3
            have hl4 := k4.lst hl3
            refine ⟨pa, _, _, _, rfl, rfl, SqT.of hpa, atI_nat (j := 0) rfl, _, rfl, _, rfl, (beh s r).1, d, f3, _, ix, rfl, D4, _, rfl, ?_⟩
            by_cases mem : (beh s r).1 ∈ fs ++ more
            · refine iteF' (by rw [hf3, decide_eq_true mem] <;> rfl) ?_
              refine ⟨more, A3.slots k4 _ _ _ _, fun c xs e => k4.tup (kt3 c xs e), ⟨_, _, _, rfl⟩, dk3, fun r' hr' => ?_⟩
              rw [take_snoc hrr] at hr'
              rcases List.mem_append.mp hr' with e | e
              · exact dr r' e
              · rw [List.mem_singleton.mp e]; exact mem
            · refine iteT' (by rw [hf3, decide_eq_false mem] <;> rfl) ?_
              refine ⟨_, rfl, _, rfl, (beh s r).1, d, f3, _, rfl, ix, D4, by rw [sizeLine_eq]; omega, fun H5 e5 D5 => ?_⟩
              have nld4 : l ≠ d := nld
              have hl5 : H5 l = some (.lst ps3) := by rw [e5 l nld4]; exact hl4
              have k5 := (k3.trans k4).dsput nd0 D4 e5 D5
              have kt45 : KT H4 H5 := fun c xs e => by
                obtain ⟨zs, z1, _⟩ := id D4.ex
                rw [e5 c (ne_of e z1 (by intro z; cases z))]
                exact e
              have lp3 : ps3.length = (fs ++ more).length := Paired.length pr3
              have nd6 : (fs ++ more ++ [(beh s r).1]).Nodup := by
                rw [List.nodup_append]
                exact ⟨nd3, by simp, fun z hz z' hz' e => mem (by rw [List.mem_singleton.mp hz'] at e; exact e ▸ hz)⟩
              have sub6 : ∀ z ∈ fs ++ more ++ [(beh s r).1], z ∈ U := fun z hz => by
                rcases List.mem_append.mp hz with e | e
                · exact sub3 z e
                · rw [List.mem_singleton.mp e]
                  exact u2 s sU kd (mem_at hkd) r (mem_at hrr)
              have lu6 := nodup_le nd6 sub6
              rw [List.length_append, List.length_singleton] at lu6
              refine ⟨_, rfl, .inl ⟨rfl, _, SqL.of hl5⟩, _, rfl, l, ps3, _, rfl, rfl, hl5, by rw [sizeLine_eq]; omega, ?_⟩
              have kt56 : KT H5 (upd H5 l (.lst (ps3 ++ [x]))) := fun c xs e => by rw [upd_ne (ne_of e hl5 (by intro z; cases z))]; exact e
              have kt36 : KT H3' (upd H5 l (.lst (ps3 ++ [x]))) := (k4.kt.trans kt45).trans kt56
              refine ⟨_, rfl, l, _, rfl, .inl (SqL.of upd_same), _, _, rfl, rfl, _, rfl, iteF' (decide_eq_false (by rw [List.length_append, List.length_singleton]; omega)) ?_⟩
              refine ⟨more ++ [(beh s r).1], ?_, fun c xs e => kt36 c xs (kt3 c xs e), ⟨_, _, _, rfl⟩, fun k hk r' hr' => ?_, fun r' hr' => ?_⟩
              · rw [← List.append_assoc]
                refine ⟨ps3 ++ [x], (fun q => if q = (beh s r).1 then some (V.bl true) else f3 q), _, _, _, _, rfl, k5.put nl hl5, upd_same, pr_snoc (Paired.mapP pr3 fun _ _ q => q.keep kt36) ((ix.keep kt45).keep kt56), ?_, fun t => ?_, nd6, sub6⟩
                · rw [List.length_append]
                  exact D5.keep kt56 fun o e => by rw [upd_ne nld.symm]; exact e
                · show (if t = (beh s r).1 then some (V.bl true) else f3 t).isSome = _
                  by_cases e : t = (beh s r).1
                  · rw [if_pos e, e]; simp
                  · rw [if_neg e, hf3]
                    exact decide_eq_decide.mpr ⟨fun z => List.mem_append_left _ z, fun z => (List.mem_append.mp z).elim id fun z => absurd (List.mem_singleton.mp z) e⟩
              · rw [← List.append_assoc]
                exact List.mem_append_left _ (dk3 k hk r' hr')
              · rw [← List.append_assoc]
                rw [take_snoc hrr] at hr'
                rcases List.mem_append.mp hr' with e | e
                · exact List.mem_append_left _ (dr r' e)
                · rw [List.mem_singleton.mp e]; exact List.mem_append_right _ (List.mem_singleton_self _)
          · rintro σ3 H3 ⟨more, A3, kt3, ⟨o5, o6, o7, rfl⟩, dk3, dr⟩
            refine ⟨more, A3, fun k hk r hr => ?_⟩
            rw [take_snoc hkd] at hk
            rcases List.mem_append.mp hk with e | e
            · exact dk3 k e r hr
            · rw [List.mem_singleton.mp e] at hr
              refine dr r ?_
              rw [Paired.length pz, List.take_length]
              exact hr
        · rintro σ2 H2 ⟨more, A2, dk⟩
          obtain ⟨ps2, f2, p4, p5, p6, p7, rfl, k2, hl2, pr2, D2, hf2, nd2, sub2⟩ := id A2
          refine ⟨_, rfl, n, 1, rfl, rfl, ⟨n + 1, fs ++ more, ⟨ps2, f2, p4, p5, p6, p7, rfl, k2, hl2, pr2, D2, hf2, nd2, sub2⟩, List.mem_append_left _ vm, by rw [List.length_append]; omega, fun j hj s' hs' k hk r hr => ?_⟩, ?_⟩
          · have hj2 : j < fs.length := by omega
            rw [List.getElem?_append_left hj2] at hs'
            by_cases e : j = n
            · rw [e, hs] at hs'
              cases hs'
              refine dk k ?_ r hr
              rw [Paired.length pk, List.take_length]
              exact hk
            · exact List.mem_append_left _ (dn j (by omega) s' hs' k hk r hr)
          · show U.length - ((n : Int) + 1).toNat < U.length - ((n : Int)).toNat
            omega
      · refine iteF' (decide_eq_false (by omega)) ?_
        refine ⟨_, rfl, q H' l ps fs k hl pr nd vm (fun s hs k hk r hr => ?_) sub lu⟩
        obtain ⟨j, hj⟩ := List.mem_iff_getElem?.mp hs
        have := (List.getElem?_eq_some_iff.mp hj).1
        exact dn j (by omega) s hj k hk r hr
    · rintro σ H Q Q' m ⟨v, e, v', e', p, ys, e2, hs, i, j, e3, e4, k, e5, q⟩
      exact ⟨v, e, v', e', p, ys, e2, hs, i, j, e3, e4, k, e5, m _ _ q⟩
end
end Dw

/-! part DwEq -/
set_option Elab.async false
set_option linter.all false
set_option maxRecDepth 100000
set_option maxHeartbeats 4000000
/-! equal and contained: lots, stands -/
namespace Dw
open PySem PySem.Spec PyProof.Rows L2 GenW
def dL (xs : Lot) : PyData := .tuple (xs.map .int)
def dS (s : Stand) : PyData := .tuple (s.map dL)
theorem eqv_ints : ∀ xs ys : List Int, PyData.eqvAll (xs.map .int) (ys.map .int) = decide (xs = ys)
  | [], [] => rfl
  | [], y :: ys => by simp [PyData.eqvAll]
  | x :: xs, [] => by simp [PyData.eqvAll]
  | x :: xs, y :: ys => by
    rw [List.map_cons, List.map_cons, PyData.eqvAll, eqv_ints xs ys, PyData.eqv]
    by_cases h : x = y <;> simp [h]
theorem eqv_dL (xs ys : Lot) : PyData.eqv (dL xs) (dL ys) = decide (xs = ys) := by
  unfold dL
  rw [PyData.eqv, eqv_ints]
theorem eqv_lots : ∀ s t : Stand, PyData.eqvAll (s.map dL) (t.map dL) = decide (s = t)
  | [], [] => rfl
  | [], y :: ys => by simp [PyData.eqvAll]
  | x :: xs, [] => by simp [PyData.eqvAll]
  | x :: xs, y :: ys => by
    rw [List.map_cons, List.map_cons, PyData.eqvAll, eqv_lots xs ys, eqv_dL]
    by_cases h : x = y <;> simp [h]
theorem eqv_dS (s t : Stand) : PyData.eqv (dS s) (dS t) = decide (s = t) := by
  unfold dS
  rw [PyData.eqv, eqv_lots]
theorem lay_ints : ∀ xs : List Int, PyData.canLayAll0 (xs.map .int) = true ∧ PyData.depthAll (xs.map .int) = 0
  | [] => ⟨rfl, rfl⟩
  | x :: xs => by
    obtain ⟨h1, h2⟩ := lay_ints xs
    rw [List.map_cons, PyData.canLayAll0, PyData.depthAll, h1, h2]
    exact ⟨rfl, rfl⟩
theorem lay_dL (xs : Lot) : (dL xs).canLay0 = true ∧ (dL xs).depth = 1 := by
  obtain ⟨h1, h2⟩ := lay_ints xs
  unfold dL
  rw [PyData.canLay0, PyData.depth, h1, h2]
  exact ⟨rfl, rfl⟩
theorem lay_lots : ∀ s : Stand, PyData.canLayAll0 (s.map dL) = true ∧ PyData.depthAll (s.map dL) ≤ 1
  | [] => ⟨rfl, Nat.zero_le _⟩
  | x :: xs => by
    obtain ⟨h1, h2⟩ := lay_lots xs
    obtain ⟨h3, h4⟩ := lay_dL x
    rw [List.map_cons, PyData.canLayAll0, PyData.depthAll, h1, h3, h4]
    exact ⟨rfl, by omega⟩
theorem lay_dS (s : Stand) : (dS s).canLay0 = true ∧ (dS s).depth ≤ 2 := by
  obtain ⟨h1, h2⟩ := lay_lots s
  unfold dS
  rw [PyData.canLay0, PyData.depth, h1]
  exact ⟨rfl, by omega⟩
theorem lay_stands : ∀ fs : List Stand, PyData.canLayAll0 (fs.map dS) = true ∧ PyData.depthAll (fs.map dS) ≤ 2
  | [] => ⟨rfl, Nat.zero_le _⟩
  | x :: xs => by
    obtain ⟨h1, h2⟩ := lay_stands xs
    obtain ⟨h3, h4⟩ := lay_dS x
    rw [List.map_cons, PyData.canLayAll0, PyData.depthAll, h1, h3]
    exact ⟨rfl, by omega⟩
theorem shaped_of {d : PyData} (h : d.canLay0 = true) (k : d.depth ≤ 64) : SeqAt.shaped d = true := by
  unfold SeqAt.shaped
  rw [h, decide_eq_true k] <;> rfl
theorem shaped_dL (xs : Lot) : SeqAt.shaped (dL xs) = true := shaped_of (lay_dL xs).1 (by have := (lay_dL xs).2; omega)
theorem shaped_dS (s : Stand) : SeqAt.shaped (dS s) = true := shaped_of (lay_dS s).1 (by have := (lay_dS s).2; omega)
section
variable {K : PySem.W.Frag} {H : Hp}
theorem dp_ints : ∀ xs : List Int, DpAll K H (xs.map V.int) (xs.map .int)
  | [] => .nil
  | x :: xs => .cons (.int x) (dp_ints xs)
theorem IsL.dp {v : V} {xs : Lot} (h : IsL H v xs) : Dp K H v (dL xs) := by
  obtain ⟨a, rfl, ha⟩ := h
  exact .tup (SqT.of ha) (dp_ints xs)
theorem dp_lots : ∀ {ps : List V} {s : Stand}, Paired (IsL H) ps s → DpAll K H ps (s.map dL)
  | _, _, .nil => .nil
  | _, _, .cons r t => .cons r.dp (dp_lots t)
theorem IsS.dp {v : V} {s : Stand} (h : IsS H v s) : Dp K H v (dS s) := by
  obtain ⟨a, ps, rfl, ha, p⟩ := h
  exact .tup (SqT.of ha) (dp_lots p)
theorem dp_stands : ∀ {ps : List V} {fs : List Stand}, Paired (IsS H) ps fs → DpAll K H ps (fs.map dS)
  | _, _, .nil => .nil
  | _, _, .cons r t => .cons r.dp (dp_stands t)
end
/-- data of small depth -/
def Nst (H : Hp) (xs : List V) : Prop := ∀ K : PySem.W.Frag, ∃ ds, DpAll K H xs ds ∧ PyData.canLayAll0 ds = true ∧ PyData.depthAll ds ≤ 60
theorem nst_ints {H : Hp} (ns : List Int) : Nst H (ns.map V.int) := fun K => ⟨_, dp_ints ns, (lay_ints ns).1, by rw [(lay_ints ns).2]; decide⟩
theorem nst_lots {H : Hp} {ps : List V} {s : Stand} (p : Paired (IsL H) ps s) : Nst H ps := fun K => ⟨_, dp_lots p, (lay_lots s).1, by have := (lay_lots s).2; omega⟩
theorem nst_stands {H : Hp} {ps : List V} {fs : List Stand} (p : Paired (IsS H) ps fs) : Nst H ps := fun K => ⟨_, dp_stands p, (lay_stands fs).1, by have := (lay_stands fs).2; omega⟩
theorem dpAll_len {K : PySem.W.Frag} {H : Hp} : ∀ {vs : List V} {ds : List PyData}, DpAll K H vs ds → vs.length = ds.length
  | [], _, h => by cases h; rfl
  | v :: vs, _, h => by
    cases h with
    | cons a b => rw [List.length_cons, List.length_cons, dpAll_len b]
theorem eqv_nil (ds : List PyData) : PyData.eqv (.list ds) (.list []) = ds.isEmpty := by
  rw [PyData.eqv]
  cases ds <;> rfl
/-! ### the rules -/
def rEqS : R2 := fun x y H Q => ∃ s t, IsS H x s ∧ IsS H y t ∧ Q (.bl (decide (s = t))) H
def rNotInSL : R2 := fun x y H Q => ∃ s l ps fs, IsS H x s ∧ y = .ref l ∧ H l = some (.lst ps) ∧ Paired (IsS H) ps fs ∧ Q (.bl (!decide (s ∈ fs))) H
def rNotInLS : R2 := fun x y H Q => ∃ xs ss, IsL H x xs ∧ IsS H y ss ∧ Q (.bl (!decide (xs ∈ ss))) H
def rEqNil : R2 := fun x y H Q => ∃ l xs e, x = .ref l ∧ H l = some (.lst xs) ∧ Nst H xs ∧ y = .ref e ∧ H e = some (.lst []) ∧ Q (.bl xs.isEmpty) H
def rNeNil : R2 := fun x y H Q => ∃ l xs e, x = .ref l ∧ H l = some (.lst xs) ∧ Nst H xs ∧ y = .ref e ∧ H e = some (.lst []) ∧ Q (.bl (!xs.isEmpty)) H
theorem any_mem {α : Type} {f : α → PyData} [DecidableEq α] (hf : ∀ a b, PyData.eqv (f a) (f b) = decide (a = b)) (x : α) (xs : List α) {i : Decidable (x ∈ xs)} : ((xs.map f).any fun z => PyData.eqv z (f x)) = @decide (x ∈ xs) i := by
  rw [Bool.eq_iff_iff, List.any_eq_true, decide_eq_true_iff]
  constructor
  · rintro ⟨z, hz, e⟩
    obtain ⟨y, hy, rfl⟩ := List.mem_map.mp hz
    rw [hf, decide_eq_true_iff] at e
    exact e ▸ hy
  · intro h
    exact ⟨f x, List.mem_map.mpr ⟨x, h, rfl⟩, by rw [hf]; exact decide_eq_true rfl⟩
section
variable {X : Cx}
theorem op_eqS (hu : X.A.units + 64 < cLine) : OpR X (compareOp .Eq) rEqS := by
  intro pins s σ H x y v u Q I rx ry h
  obtain ⟨a, b, ha, hb, q⟩ := h
  refine op_eqD hu pins s σ H x y v u Q I rx ry ⟨dS a, dS b, ha.dp, hb.dp, shaped_dS a, shaped_dS b, ?_⟩
  rw [eqv_dS]
  exact q
theorem op_notInSL (hu : X.A.units + 65 < cLine) : OpR X (compareOp .NotIn) rNotInSL := by
  intro pins s σ H x y v u Q I rx ry h
  obtain ⟨a, l, ps, fs, ha, rfl, hl, p, q⟩ := h
  have z := lay_stands fs
  refine op_notInD hu pins s σ H x _ v u Q I rx ry ⟨dS a, fs.map dS, ha.dp, .lst (SqL.of hl) (dp_stands p), shaped_dS a, shaped_of (by rw [PyData.canLay0]; exact z.1) (by rw [PyData.depth]; omega), ?_⟩
  rw [any_mem eqv_dS]
  exact q
theorem op_notInLS (hu : X.A.units + 65 < cLine) : OpR X (compareOp .NotIn) rNotInLS := by
  intro pins s σ H x y v u Q I rx ry h
  obtain ⟨a, ss, ha, hy, q⟩ := h
  obtain ⟨as, r1⟩ := Dp.reads I (dL a) x v ha.dp rx
  obtain ⟨bs, r2⟩ := Dp.reads I (dS ss) y u hy.dp ry
  refine SeqAt.notIn_tuple_reads r2 r1 (lay_lots ss).1 (lay_dL a).1 (room_in_shaped (shaped_dL a) hu) ⟨.bl _, H, I, rfl, ?_⟩
  rw [any_mem eqv_dL]
  exact q
theorem isEmpty_len {α β : Type} {xs : List α} {ys : List β} (h : xs.length = ys.length) : xs.isEmpty = ys.isEmpty := by
  cases xs <;> cases ys <;> simp_all
theorem op_eqNil (hu : X.A.units + 64 < cLine) : OpR X (compareOp .Eq) rEqNil := by
  intro pins s σ H x y v u Q I rx ry h
  obtain ⟨l, xs, e, rfl, hl, n, rfl, he, q⟩ := h
  obtain ⟨ds, d1, d2, d3⟩ := n X.K
  refine op_eqD hu pins s σ H _ _ v u Q I rx ry ⟨.list ds, .list [], .lst (SqL.of hl) d1, .lst (SqL.of he) .nil, shaped_of (by rw [PyData.canLay0]; exact d2) (by rw [PyData.depth]; omega), shaped_of rfl (by decide), ?_⟩
  rw [eqv_nil, ← isEmpty_len (dpAll_len d1)]
  exact q
theorem op_neNil (hu : X.A.units + 64 < cLine) : OpR X (compareOp .NotEq) rNeNil := by
  intro pins s σ H x y v u Q I rx ry h
  obtain ⟨l, xs, e, rfl, hl, n, rfl, he, q⟩ := h
  obtain ⟨ds, d1, d2, d3⟩ := n X.K
  refine op_neD hu pins s σ H _ _ v u Q I rx ry ⟨.list ds, .list [], .lst (SqL.of hl) d1, .lst (SqL.of he) .nil, shaped_of (by rw [PyData.canLay0]; exact d2) (by rw [PyData.depth]; omega), shaped_of rfl (by decide), ?_⟩
  rw [eqv_nil, ← isEmpty_len (dpAll_len d1)]
  exact q
end
end Dw

/-! part DwG -/
set_option Elab.async false
set_option linter.all false
set_option maxRecDepth 100000
set_option maxHeartbeats 4000000
/-! routes_of, closed -/
namespace Dw
open PySem PySem.Spec PyProof.Rows L2 GenW
/-! ### an order adds dyes -/
def Sb (a b : Lot) : Prop := ∀ z ∈ a, z ∈ b
def Le (s t : Stand) : Prop := Paired Sb s t
theorem Le.refl : ∀ s : Stand, Le s s
  | [] => .nil
  | x :: r => .cons (fun _ h => h) (Le.refl r)
theorem Le.trans : ∀ {s t u : Stand}, Le s t → Le t u → Le s u
  | _, _, _, .nil, .nil => .nil
  | _, _, _, .cons a b, .cons c d => .cons (fun z h => c z (a z h)) (Le.trans b d)
theorem Le.len {s t : Stand} (h : Le s t) : s.length = t.length := Paired.length h
theorem Le.getD : ∀ {s t : Stand}, Le s t → ∀ i, Sb (s.getD i []) (t.getD i [])
  | _, _, .nil, i => fun z h => by simpa using h
  | _, _, .cons a b, 0 => a
  | _, _, .cons a b, i + 1 => Le.getD b i
theorem Le.set : ∀ {s t : Stand}, Le s t → ∀ {a b : Lot}, Sb a b → ∀ i, Le (s.set i a) (t.set i b)
  | _, _, .nil, _, _, _, _ => .nil
  | _, _, .cons _ d, _, _, h, 0 => .cons h d
  | _, _, .cons c d, _, _, h, i + 1 => .cons c (Le.set d h i)
theorem Le.up : ∀ (s : Stand) (i : Nat) {l : Lot}, Sb (s.getD i []) l → Le s (s.set i l)
  | [], _, _, _ => .nil
  | x :: r, 0, l, h => .cons h (Le.refl r)
  | x :: r, i + 1, l, h => .cons (fun _ z => z) (Le.up r i h)
theorem beh1_up (t : Stand × Lot) (v : Int) : Le t.1 (beh1 t v).1 := Le.up _ _ fun z h => mem_srt.mpr (List.mem_append_right _ h)
theorem behF_up : ∀ (r : Lot) (t : Stand × Lot), Le t.1 (r.foldl beh1 t).1
  | [], t => .refl _
  | v :: r, t => (beh1_up t v).trans (behF_up r (beh1 t v))
theorem beh_up (s : Stand) (r : Lot) : Le s (beh s r).1 := behF_up r (s, [])
theorem beh1_mono {t u : Stand × Lot} (h : Le t.1 u.1) (h2 : Sb t.2 u.2) (v : Int) : Le (beh1 t v).1 (beh1 u v).1 ∧ Sb (beh1 t v).2 (beh1 u v).2 := by
  have key : Sb (srt (t.2 ++ t.1.getD v.toNat [])) (srt (u.2 ++ u.1.getD v.toNat [])) := fun z hz => by
    rcases List.mem_append.mp (mem_srt.mp hz) with q | q
    · exact mem_srt.mpr (List.mem_append_left _ (h2 z q))
    · exact mem_srt.mpr (List.mem_append_right _ (h.getD _ z q))
  exact ⟨h.set key _, key⟩
theorem behF_mono : ∀ (r : Lot) {t u : Stand × Lot}, Le t.1 u.1 → Sb t.2 u.2 → Le (r.foldl beh1 t).1 (r.foldl beh1 u).1 ∧ Sb (r.foldl beh1 t).2 (r.foldl beh1 u).2
  | [], _, _, h, h2 => ⟨h, h2⟩
  | v :: r, _, _, h, h2 => behF_mono r (beh1_mono h h2 v).1 (beh1_mono h h2 v).2
theorem beh_mono {s t : Stand} (h : Le s t) (r : Lot) : Le (beh s r).1 (beh t r).1 ∧ Sb (beh s r).2 (beh t r).2 := behF_mono r h fun _ z => z
/-! ### sizes -/
def total (s : Stand) : Nat := (s.map List.length).sum
theorem ris_nodup {xs : List Int} (h : Ris xs) : xs.Nodup := h.imp fun h => by omega
theorem sb_len {a b : Lot} (ha : Ris a) (hb : Ris b) (h : Sb a b) : a.length ≤ b.length ∧ (a.length = b.length → a = b) := by
  refine ⟨nodup_le (ris_nodup ha) h, fun e => ris_ext ha hb fun z => ⟨h z, fun hz => ?_⟩⟩
  refine Decidable.byContradiction fun hn => ?_
  have := nodup_le (xs := z :: a) (U := b) (List.nodup_cons.mpr ⟨hn, ris_nodup ha⟩) fun y hy => by
    rcases List.mem_cons.mp hy with e | e
    · rw [e]; exact hz
    · exact h y e
  rw [List.length_cons] at this
  omega
theorem total_le : ∀ {s t : Stand}, Le s t → (∀ l ∈ s, Ris l) → (∀ l ∈ t, Ris l) → total s ≤ total t ∧ (total s = total t → s = t)
  | _, _, .nil, _, _ => ⟨Nat.le_refl _, fun _ => rfl⟩
  | _, _, .cons (a := x) (b := y) (l₁ := xs) (l₂ := ys) a b, h1, h2 => by
    obtain ⟨p, q⟩ := sb_len (h1 _ List.mem_cons_self) (h2 _ List.mem_cons_self) a
    obtain ⟨p2, q2⟩ := total_le b (fun l hl => h1 l (List.mem_cons_of_mem _ hl)) (fun l hl => h2 l (List.mem_cons_of_mem _ hl))
    have e1 : total (x :: xs) = x.length + total xs := by simp [total]
    have e2 : total (y :: ys) = y.length + total ys := by simp [total]
    rw [e1, e2]
    exact ⟨by omega, fun e => by rw [q (by omega), q2 (by omega)]⟩
theorem SOk.ris {m : Int} {s : Stand} (h : SOk m s) : ∀ l ∈ s, Ris l := fun l hl => (h l hl).1
theorem total_most {m : Int} : ∀ {s : Stand}, SOk m s → total s ≤ m.toNat * s.length
  | [], _ => Nat.zero_le _
  | x :: r, h => by
    have := total_most (s := r) fun l hl => h l (List.mem_cons_of_mem _ hl)
    have h2 := (h x List.mem_cons_self).len
    have e1 : total (x :: r) = x.length + total r := by simp [total]
    rw [e1, List.length_cons, Nat.mul_succ]
    omega
theorem Le.anti {m : Int} {s t : Stand} (h : Le s t) (h2 : Le t s) (a : SOk m s) (b : SOk m t) : s = t := by
  obtain ⟨p, q⟩ := total_le h a.ris b.ris
  obtain ⟨p2, _⟩ := total_le h2 b.ris a.ris
  exact q (by omega)
/-- all routes one after another -/
def pas (s : Stand) (rs : List Lot) : Stand := rs.foldl (fun t r => (beh t r).1) s
theorem pas_up : ∀ (rs : List Lot) (s : Stand), Le s (pas s rs)
  | [], s => .refl _
  | r :: rs, s => (beh_up s r).trans (pas_up rs _)
theorem pas_ok {m : Int} : ∀ (rs : List Lot) {s : Stand}, SOk m s → SOk m (pas s rs) ∧ (pas s rs).length = s.length
  | [], s, h => ⟨h, rfl⟩
  | r :: rs, s, h => by
    obtain ⟨a, _, b⟩ := beh_ok h r
    obtain ⟨c, d⟩ := pas_ok rs a
    exact ⟨c, d.trans b⟩
theorem pas_fix {m : Int} : ∀ (rs : List Lot) {s : Stand}, SOk m s → pas s rs = s → ∀ r ∈ rs, (beh s r).1 = s
  | [], s, h, e, r', hr => nomatch hr
  | r :: rs, s, h, e, r', hr => by
    have e0 : pas (beh s r).1 rs = s := e
    have h1 := (beh_ok h r).1
    have e1 : (beh s r).1 = s := by
      refine Eq.symm (Le.anti (beh_up s r) ?_ h h1)
      have := pas_up rs (beh s r).1
      rw [e0] at this
      exact this
    rcases List.mem_cons.mp hr with q | q
    · rw [q]; exact e1
    · rw [e1] at e0
      exact pas_fix rs h e0 r' q
/-! ### plans -/
def PlanOk (W : Works) (p : Lot) : Prop := p.length = W.kinds.length ∧ ∀ (i : Nat) (k : Kind) (n : Int), W.kinds[i]? = some k → p[i]? = some n → 0 ≤ n ∧ n < k.routes.length
def routesOf (W : Works) (p : Lot) : List Lot := List.zipWith (fun k n => k.routes.getD n.toNat []) W.kinds p
theorem routesOf_at {W : Works} {p : Lot} {i : Nat} {k : Kind} {n : Int} (hk : W.kinds[i]? = some k) (hn : p[i]? = some n) : (routesOf W p)[i]? = some (k.routes.getD n.toNat []) := by
  unfold routesOf
  rw [List.getElem?_zipWith, hk, hn] <;> rfl
theorem PlanOk.route {W : Works} {p : Lot} (h : PlanOk W p) {i : Nat} {k : Kind} {n : Int} (hk : W.kinds[i]? = some k) (hn : p[i]? = some n) : k.routes[n.toNat]? = some (k.routes.getD n.toNat []) := by
  have := h.2 i k n hk hn
  have lt : n.toNat < k.routes.length := by omega
  rw [List.getD_eq_getElem?_getD, List.getElem?_eq_getElem lt] <;> rfl
theorem routes_len {W : Works} {p : Lot} (h : PlanOk W p) : (routesOf W p).length = W.kinds.length := by
  unfold routesOf
  rw [List.length_zipWith, h.1, Nat.min_self]
theorem routes_pos {W : Works} (ok : WOk W) {p : Lot} (h : PlanOk W p) : ∀ r ∈ routesOf W p, PosOk W.vats.length r := fun r hr => by
  obtain ⟨i, hi⟩ := List.mem_iff_getElem?.mp hr
  have lt := (List.getElem?_eq_some_iff.mp hi).1
  rw [routes_len h] at lt
  have hk : W.kinds[i]? = some W.kinds[i] := List.getElem?_eq_getElem lt
  have lt2 : i < p.length := by rw [h.1]; exact lt
  have hn : p[i]? = some p[i] := List.getElem?_eq_getElem lt2
  rw [routesOf_at hk hn] at hi
  cases hi
  exact ok.route hk (h.route hk hn)
def spRts : Sp := fun vs H Q _ => ∃ u v W p, vs = [u, v] ∧ IsW H u W ∧ IsL H v p ∧ PlanOk W p ∧ WOk W ∧ ∀ H' l ps, Kp H H' → H' l = some (.lst ps) → Paired (IsL H') ps (routesOf W p) → Q (.ref l) H'
def spClosed : Sp := fun vs H Q _ => ∃ u l ps s rs m, vs = [u, .ref l] ∧ IsS H u s ∧ H l = some (.lst ps) ∧ Paired (IsL H) ps rs ∧ SOk m s ∧ m ≤ 4 ∧ (∀ r ∈ rs, PosOk s.length r) ∧
  ∀ H' v t, Kp H H' → IsS H' v t → Le s t → SOk m t → (∀ r ∈ rs, (beh t r).1 = t) → Q v H'
section
variable {P : Program} {w : World} {K : PySem.W.Frag} {mg : Str → Option Value} {base : Heap}
abbrev n28 : List Str := ["works", "plan", "kind", "number"]
theorem sc28 : FnScope n28 ["works", "plan"] (defScope (st 28)) := ⟨rfl, rfl, rfl, by decide +kernel, rfl, by decide +kernel, by decide +kernel⟩
theorem d_rts (D : DefAt K mg "routes_of" (st 28)) (N : Nm mg) : Df P w K mg base "routes_of" 1 ["works", "plan"] spRts := by
  refine D.df sc28 (fun vs H Q E h => ?_) (fun _ _ _ _ _ _ us hl => match us, hl with | [_, _], _ => rfl) (fun f cdv A outer sh H vs Q E hr h => ?_)
  · obtain ⟨u, v, W, p, rfl, _⟩ := h
    rfl
  · obtain ⟨u, v, W, p, rfl, hu, hv, po, ok, q⟩ := h
    refine ⟨_, pss_one (ps_ret (pe_lc (own := [("kind", 2), ("number", 3)]) (g := gTup K 2 (gCons (gName 2) (gCons (gName 3) gNil))) (tt := tYes) rfl sc28.nd (RZ.pi_zipA (by rfl) N.zip (pa_cons (pe_ix ix_tup (pv 0) pe_int (fun _ _ => rfl)) (pa_cons (pv 1) pa_nil)))
      (blkOk_by (N := n28) (sc := defScope (st 28)) (by decide +kernel)) (fun _ _ _ _ _ => pg_tup rfl (pgs_cons (pg_name (i := 2) sc28.nd rfl (Or.inl rfl)) (pgs_cons (pg_name (i := 3) sc28.nd rfl (Or.inl rfl)) pgs_nil))) (fun _ _ _ _ _ => pts_nil)
      (fun _ _ _ _ _ => pe_ix (ixT K) (pe_ix (ixT K) (pv 2) pe_int (fun _ _ => rfl)) (pv 3) (fun _ _ => rfl)))), ?_⟩
    obtain ⟨a, y, b, ks, rfl, ha, hy, hb, pk⟩ := id hu
    obtain ⟨c, rfl, hc⟩ := id hv
    refine ⟨_, rfl, a, _, _, _, rfl, rfl, SqT.of ha, atI_nat (j := 2) rfl, _, rfl, b, c, _, _, rfl, .inr ⟨SqT.of hb, SqT.of hc, fun D hD => ?_⟩⟩
    have lk : ks.length = W.kinds.length := Paired.length pk
    refine lc_wlk (wl_zipT (n := W.kinds.length) (by rw [List.length_map, po.1, lk, Nat.min_self])) (fun i H' => Kp H H' ∧ ∃ ps, H' D = some (.lst ps) ∧ Paired (IsL H') ps ((routesOf W p).take i)) ⟨(Kp.refl H).add hD, [], upd_same, .nil⟩ (fun i H' _ k => ⟨SqT.of (k.1.tup hb), SqT.of (k.1.tup hc)⟩) ?_ ?_
    · rintro i x H1 H' hi ⟨k1, ps, hps, pr⟩ ⟨t, u, v, rfl, ht, rfl, hu, hv⟩
      obtain ⟨k, hk, ik⟩ := pr_get pk hu
      obtain ⟨n, hn, rfl⟩ := map_get hv
      obtain ⟨ka, x1, x2, x3, rfl, hka, _, _, hx3⟩ := ik.keep (k1.add (o := .tup [u, .int n]) ht).kt
      obtain ⟨za, rs, rfl, hza, pz⟩ := id hx3
      have hr := po.route hk hn
      obtain ⟨rv, hrv, ir⟩ := pr_get2 pz hr
      have nn := po.2 i k n hk hn
      have k2 := (Kp.refl H1).add (o := .tup [.ref ka, .int n]) ht
      refine ⟨t, _, rfl, SqT.of upd_same, rfl, _, _, rfl, _, _, rfl, rfl, rfl, ?_⟩
      refine ⟨_, rfl, ka, _, _, _, rfl, rfl, SqT.of hka, atI_nat (j := 2) rfl, _, rfl, za, _, _, _, rfl, rfl, SqT.of hza, atI_at nn.1 hrv, ps, k2.lst hps, ?_, ?_⟩
      · have := Paired.length pr
        rw [this, List.length_take, sizeLine_eq]
        have := ok.kfew
        omega
      · have k3 := k1.trans k2
        have hD1 : H D = none := hD
        have kk : KT (upd H1 t (.tup [.ref ka, .int n])) (upd (upd H1 t (.tup [.ref ka, .int n])) D (.lst (ps ++ [rv]))) := fun c xs e => by rw [upd_ne (ne_of e (k2.lst hps) (by intro z; cases z))]; exact e
        refine ⟨k3.put hD1 (k2.lst hps), ps ++ [rv], upd_same, ?_⟩
        rw [take_snoc (routesOf_at hk hn)]
        exact pr_snoc (Paired.mapP pr fun _ _ q => (q.keep k2.kt).keep kk) (ir.keep kk)
    · rintro H' ⟨k1, ps, hps, pr⟩
      rw [← routes_len po, List.take_length] at pr
      exact q _ D ps k1 hps pr
abbrev n29 : List Str := ["stand", "routes", "later", "route"]
theorem sc29 : FnScope n29 ["stand", "routes"] (defScope (st 29)) := ⟨rfl, rfl, rfl, by decide +kernel, rfl, by decide +kernel, by decide +kernel⟩
theorem d_closed (D : DefAt K mg "closed" (st 29)) (Db : Df P w K mg base "behind" 2 ["stand", "route"] spBeh) : Df P w K mg base "closed" 3 ["stand", "routes"] spClosed := by
  refine D.df sc29 (fun vs H Q E h => ?_) (fun _ _ _ _ _ _ us hl => match us, hl with | [_, _], _ => rfl) (fun f cdv A outer sh H vs Q E hr h => ?_)
  · obtain ⟨u, l, ps, s, rs, m, rfl, _⟩ := h
    rfl
  · obtain ⟨u, l, ps, s, rs, m, rfl, hu, hl, pl, so, hm, po, q⟩ := h
    have hU : (A.deeper (envOfC "closed" (defScope (st 29)) sh.heap.objs.size f cdv)).units + 64 < cLine := hr.units
    refine ⟨_, pss_one (ps_while PassesOwn.never (pt_val pe_bl)
      (pss_cons (ps_set (i := 2) sc29.nd rfl (Or.inl rfl) (pv 0))
      (pss_cons (ps_for PassesOwn.never rfl (pi_list (pv 1)) (pg_name (i := 3) sc29.nd rfl (Or.inl rfl))
        (pss_one (ps_set (i := 2) sc29.nd rfl (Or.inl rfl) (pe_ix ix_tup (pe_df Db hr (by rfl) (pa_cons (pv 2) (pa_cons (pv 3) pa_nil))) pe_int (fun _ _ => rfl)))))
      (pss_cons (ps_if (pt_cmpR (op_eqS hU) (pv 2) (pv 0) (nomark _)) (pss_one (ps_ret (pv 0))) pss_nil)
      (pss_one (ps_set (i := 0) sc29.nd rfl (Or.inl rfl) (pv 2))))))), ?_⟩
    refine ⟨fun n σ H' => ∃ v t o2 o3, n = m.toNat * s.length - total t ∧ σ = [some v, some (.ref l), o2, o3] ∧ Kp H H' ∧ IsS H' v t ∧ Le s t ∧ SOk m t, ⟨_, u, s, none, none, rfl, rfl, .refl H, hu, .refl s, so⟩, ?_⟩
    rintro n σ H1 ⟨v, t, o2, o3, rfl, rfl, k1, iv, le, to⟩
    refine ⟨true, rfl, iteT ⟨fun σ' H' => ∃ v t' o2 o3, total t < total t' ∧ σ' = [some v, some (.ref l), o2, o3] ∧ Kp H H' ∧ IsS H' v t' ∧ Le s t' ∧ SOk m t', ?_, ?_⟩⟩
    · rintro σ' H' ⟨v', t', p2, p3, lt, e, k, i, le', to'⟩
      refine ⟨_, ?_, v', t', p2, p3, rfl, e, k, i, le', to'⟩
      have h1 := total_most to'
      have h2 := le'.len
      rw [← h2] at h1
      omega
    · refine ⟨_, rfl, _, rfl, l, rfl, ⟨_, SqL.of (k1.lst hl)⟩, ?_⟩
      refine for_wlk wl_list (fun i σ' H' => ∃ v' o3, σ' = [some v, some (.ref l), some v', o3] ∧ Kp H1 H' ∧ IsS H' v' (pas t (rs.take i))) ⟨v, o3, rfl, .refl _, iv⟩ (fun i σ' H' _ ⟨_, _, _, k, _⟩ => SqL.of (k.lst (k1.lst hl))) ?_ ?_
      · rintro i x σ' H2 H2' hi ⟨v', p3, rfl, k2, iv'⟩ ⟨rfl, hx⟩
        obtain ⟨r, hr', ir⟩ := pr_get pl hx
        obtain ⟨so', ln'⟩ := pas_ok (rs.take i) to
        refine ⟨_, rfl, _, rfl, v', x, _, r, m, rfl, iv', ir.keep (k1.trans k2).kt, so', hm, ?_, fun H3 p k3 ip => ?_⟩
        · rw [ln', ← le.len]
          exact po r (mem_at hr')
        · obtain ⟨pa, y, z, rfl, hpa, iy, iz⟩ := ip
          refine ⟨pa, _, _, _, rfl, rfl, SqT.of hpa, atI_nat (j := 0) rfl, y, _, rfl, k2.trans k3, ?_⟩
          rw [take_snoc hr']
          unfold pas
          rw [List.foldl_append]
          exact iy
      · rintro σ' H2 ⟨v', p3, rfl, k2, iv'⟩
        rw [Paired.length pl, List.take_length] at iv'
        obtain ⟨so', ln'⟩ := pas_ok rs to
        refine ⟨_, rfl, _, rfl, _, t, iv', iv.keep k2.kt, _, rfl, ?_⟩
        by_cases e : pas t rs = t
        · refine iteT' (decide_eq_true e) ?_
          exact ⟨_, rfl, q _ v t (k1.trans k2) (iv.keep k2.kt) le to (pas_fix rs to e)⟩
        · refine iteF' (decide_eq_false e) ?_
          obtain ⟨p, q⟩ := total_le (pas_up rs t) to.ris so'.ris
          exact ⟨_, rfl, v', _, _, _, Nat.lt_of_le_of_ne p fun z => e (q z).symm, rfl, k1.trans k2, iv', le.trans (pas_up rs t), so'⟩
end
end Dw

/-! part DwH -/
set_option Elab.async false
set_option linter.all false
set_option maxRecDepth 100000
set_option maxHeartbeats 4000000
/-! is_fine, all_plans, fine_plans, good_plans -/
namespace Dw
open PySem PySem.Spec PyProof.Rows L2 GenW
/-- the turns of a walk, whatever a turn asks -/
theorem gw {J : It} {n : Nat} {Ok : Hp → Prop} {it : Nat → Hp → V → Hp → Prop} {H0 : Hp} {Qd : Hp → Prop} {Bd : V → Hp → (Hp → Prop) → Prop} (w : Wlk J n Ok it) (Pv : Nat → Hp → Prop) (h0 : Pv 0 H0) (ok : ∀ i H, i ≤ n → Pv i H → Ok H)
    (hs : ∀ i x H H', i < n → Pv i H → it i H x H' → Bd x H' (Pv (i + 1))) (hd : ∀ H, Pv n H → Qd H) :
    ∃ W : Nat → Nat → Hp → Prop, (∃ m, W 0 m H0) ∧ ∀ i m H, W i m H → (J.stop i H ∧ Qd H) ∨ (J.go i H ∧ ∃ Nx : Hp → Prop, (∀ H', Nx H' → ∃ m', m' < m ∧ W (i + 1) m' H') ∧ ∀ x H', J.yld i H x H' → Bd x H' Nx) := by
  refine ⟨fun i m H => m = n - i ∧ i ≤ n ∧ Pv i H, ⟨n, rfl, Nat.zero_le _, h0⟩, ?_⟩
  rintro i m H ⟨rfl, hi, p⟩
  have q := ok i H hi p
  by_cases lt : i < n
  · exact .inr ⟨w.go i H lt q, Pv (i + 1), fun H' p' => ⟨n - (i + 1), by omega, rfl, lt, p'⟩, fun x H' y => hs i x H H' lt p (w.yld i H x H' lt q y)⟩
  · obtain rfl : i = n := by omega
    exact .inl ⟨w.stop H q, hd H p⟩
/-- good for ever: closed under its routes from a stand above -/
def FineP (W : Works) (p : Lot) : Prop := ∃ t, Le W.vats t ∧ SOk W.dyes t ∧ (∀ r ∈ routesOf W p, (beh t r).1 = t) ∧ ∀ (i : Nat) (k : Kind) (r : Lot), W.kinds[i]? = some k → (routesOf W p)[i]? = some r → hasW W k r = true ∧ clean k (beh t r).2 = true
def spFine (T1 T2 : Addr) : Sp := fun vs H Q _ => ∃ u v W p, vs = [u, v] ∧ IsW H u W ∧ IsL H v p ∧ PlanOk W p ∧ WOk W ∧ (Tb H T1 ∧ Tb H T2) ∧ ∀ H' b, Kp H H' → (b = true → FineP W p) → Q (.bl b) H'
theorem WOk.vsok {W : Works} (ok : WOk W) : SOk W.dyes W.vats := ok.vats
section
variable {P : Program} {w : World} {K : PySem.W.Frag} {mg : Str → Option Value} {base : Heap}
abbrev n30 : List Str := ["works", "plan", "routes", "stand", "kind", "route"]
theorem sc30 : FnScope n30 ["works", "plan"] (defScope (st 30)) := ⟨rfl, rfl, rfl, by decide +kernel, rfl, by decide +kernel, by decide +kernel⟩
theorem d_fine {T1 T2 : Addr} (D : DefAt K mg "is_fine" (st 30)) (N : Nm mg) (Dr : Df P w K mg base "routes_of" 1 ["works", "plan"] spRts) (Dc : Df P w K mg base "closed" 3 ["stand", "routes"] spClosed) (Db : Df P w K mg base "behind" 2 ["stand", "route"] spBeh)
    (Dh : Df P w K mg base "has_wants" 3 ["works", "kind", "route"] (spHas T1)) (Dl : Df P w K mg base "is_clean" 2 ["works", "kind", "carried"] (spClean T2)) : Df P w K mg base "is_fine" 4 ["works", "plan"] (spFine T1 T2) := by
  refine D.df sc30 (fun vs H Q E h => ?_) (fun _ _ _ _ _ _ us hl => match us, hl with | [_, _], _ => rfl) (fun f cdv A outer sh H vs Q E hr h => ?_)
  · obtain ⟨u, v, W, p, rfl, _⟩ := h
    rfl
  · obtain ⟨u, v, W, p, rfl, hu, hv, po, ok, tb, q⟩ := h
    have hr1 : Room 1 _ := hr.mono (by decide)
    have hr2 : Room 2 _ := hr.mono (by decide)
    refine ⟨_, pss_cons (ps_set (i := 2) sc30.nd rfl (Or.inl rfl) (pe_df Dr hr1 (by rfl) (pa_cons (pv 0) (pa_cons (pv 1) pa_nil))))
      (pss_cons (ps_set (i := 3) sc30.nd rfl (Or.inl rfl) (pe_df Dc hr (by rfl) (pa_cons (pe_ix ix_tup (pv 0) pe_int (fun _ _ => rfl)) (pa_cons (pv 2) pa_nil))))
      (pss_cons (ps_for PassesOwn.never rfl (pi_enum (by rfl) N.enumerate (pa_cons (pv 2) pa_nil)) (pg_tup rfl (pgs_cons (pg_name (i := 4) sc30.nd rfl (Or.inl rfl)) (pgs_cons (pg_name (i := 5) sc30.nd rfl (Or.inl rfl)) pgs_nil)))
        (pss_one (ps_if (pw_or (pt_not (pt_val (pe_df Dh hr (by rfl) (pa_cons (pv 0) (pa_cons (pv 4) (pa_cons (pv 5) pa_nil)))))) (pw_or1 (pt_not (pt_val (pe_df Dl hr2 (by rfl) (pa_cons (pv 0) (pa_cons (pv 4) (pa_cons (pe_ix ix_tup (pe_df Db hr2 (by rfl) (pa_cons (pv 3) (pa_cons (pv 5) pa_nil))) pe_int (fun _ _ => rfl)) pa_nil)))))))).pt (pss_one (ps_ret pe_bl)) pss_nil)))
      (pss_one (ps_ret pe_bl)))), ?_⟩
    obtain ⟨a, y, b, ks, rfl, ha, hy, hb, pk⟩ := id hu
    refine ⟨_, rfl, _, rfl, _, v, W, p, rfl, hu, hv, po, ok, fun H1 l ps k1 hl pr => ?_⟩
    refine ⟨_, rfl, a, _, _, _, rfl, rfl, SqT.of (k1.tup ha), atI_nat (j := 1) rfl, _, rfl, y, l, ps, W.vats, routesOf W p, W.dyes, rfl, hy.keep k1.kt, hl, pr, ok.vsok, ok.dyes.2, routes_pos ok po, fun H2 sv t k2 iv le to fx => ?_⟩
    have k12 := k1.trans k2
    have hl2 := k2.lst hl
    refine ⟨_, rfl, l, ps, rfl, SqL.of hl2, ?_⟩
    refine for_wlk wl_enum (fun i σ H' => ∃ o4 o5, σ = [some (.ref a), some v, some (.ref l), some sv, o4, o5] ∧ Kp H2 H' ∧ ∀ j, j < i → ∀ (k : Kind) (r : Lot), W.kinds[j]? = some k → (routesOf W p)[j]? = some r → hasW W k r = true ∧ clean k (beh t r).2 = true)
      ⟨none, none, rfl, .refl _, fun j hj => absurd hj (Nat.not_lt_zero j)⟩ (fun i σ H' _ ⟨_, _, _, k, _⟩ => SqL.of (k.lst hl2)) ?_ ?_
    · rintro i x σ H3 H' hi ⟨o4, o5, rfl, k3, dn⟩ ⟨T, rv, rfl, hT, rfl, hx⟩
      obtain ⟨r, hr', ir⟩ := pr_get pr hx
      have lt := (List.getElem?_eq_some_iff.mp hr').1
      rw [routes_len po] at lt
      have hk : W.kinds[i]? = some W.kinds[i] := List.getElem?_eq_getElem lt
      have k4 := k3.add (o := .tup [.int (i : Nat), rv]) hT
      have pos := routes_pos ok po r (mem_at hr')
      have kk := k12.trans k4
      refine ⟨T, _, rfl, SqT.of upd_same, rfl, _, _, rfl, _, _, rfl, rfl, ?_⟩
      refine ⟨_, rfl, _, rfl, _, rfl, _, i, rv, W, _, r, rfl, hu.keep kk.kt, hk, ir.keep (k2.trans k4).kt, pos, kk.tb _ tb.1, fun H5 k5 => ⟨_, rfl, ?_⟩⟩
      cases hw : hasW W W.kinds[i] r with
      | false =>
        refine iteT (iteT ?_)
        exact q _ false (kk.trans k5) fun z => nomatch z
      | true =>
        refine iteF ?_
        refine ⟨_, rfl, _, rfl, _, rfl, _, rfl, sv, rv, t, r, W.dyes, rfl, iv.keep (k4.trans k5).kt, ir.keep ((k2.trans k4).trans k5).kt, to, ok.dyes.2, by rw [← le.len]; exact pos, fun H6 pp k6 ip => ?_⟩
        obtain ⟨pa, y1, y2, rfl, hpa, iy, iz⟩ := ip
        have k56 := kk.trans (k5.trans k6)
        refine ⟨pa, _, _, _, rfl, rfl, SqT.of hpa, atI_nat (j := 1) rfl, _, i, y2, W, _, _, rfl, hu.keep k56.kt, hk, iz, k56.tb _ tb.2, fun H7 k7 => ⟨_, rfl, ?_⟩⟩
        cases hc : clean W.kinds[i] (beh t r).2 with
        | false =>
          refine iteT ?_
          exact q _ false (k56.trans k7) fun z => nomatch z
        | true =>
          refine iteF ⟨_, _, rfl, k4.trans ((k5.trans k6).trans k7), fun j hj k r' e1 e2 => ?_⟩
          by_cases e : j = i
          · subst e
            rw [hk] at e1
            rw [hr'] at e2
            cases e1
            cases e2
            exact ⟨hw, hc⟩
          · exact dn j (by omega) k r' e1 e2
    · rintro σ H3 ⟨o4, o5, rfl, k3, dn⟩
      refine q _ true (k12.trans k3) fun _ => ⟨t, le, to, fx, fun i k r e1 e2 => dn i ?_ k r e1 e2⟩
      rw [Paired.length pr]
      exact (List.getElem?_eq_some_iff.mp e2).1
end
end Dw

/-! part DwI -/
set_option Elab.async false
set_option linter.all false
set_option maxRecDepth 100000
set_option maxHeartbeats 4000000
/-! all_plans, fine_plans, good_plans -/
namespace Dw
open PySem PySem.Spec PyProof.Rows L2 GenW
def more1 (n : Nat) (p : Lot) : List Lot := (List.range n).map fun i : Nat => p ++ [(i : Int)]
def stepP (ps : List Lot) (k : Kind) : List Lot := ps.flatMap (more1 k.routes.length)
def allP (ks : List Kind) : List Lot := ks.foldl stepP [[]]
theorem allP_snoc {ks : List Kind} {i : Nat} {k : Kind} (h : ks[i]? = some k) : allP (ks.take (i + 1)) = stepP (allP (ks.take i)) k := by
  unfold allP
  rw [take_snoc h, List.foldl_append] <;> rfl
theorem more1_take {n i : Nat} (p : Lot) (h : i < n) : (more1 n p).take (i + 1) = (more1 n p).take i ++ [p ++ [(i : Int)]] := take_snoc (by
  unfold more1
  rw [List.getElem?_map, List.getElem?_range h] <;> rfl)
theorem more1_len (n : Nat) (p : Lot) : (more1 n p).length = n := by
  unfold more1
  rw [List.length_map, List.length_range]
theorem flat_take {α β : Type} {f : α → List β} {xs : List α} {i : Nat} {x : α} (h : xs[i]? = some x) : (xs.take (i + 1)).flatMap f = (xs.take i).flatMap f ++ f x := by
  rw [take_snoc h, List.flatMap_append, List.flatMap_cons, List.flatMap_nil, List.append_nil]
theorem flat_len {α β : Type} {f : α → List β} {n : Nat} (h : ∀ x, (f x).length = n) : ∀ xs : List α, (xs.flatMap f).length = xs.length * n
  | [] => by simp
  | x :: xs => by
    rw [List.flatMap_cons, List.length_append, h, flat_len h xs, List.length_cons, Nat.succ_mul]
    omega
theorem allP_len {ks : List Kind} (h : ∀ k ∈ ks, k.routes.length ≤ 4) : ∀ i, i ≤ ks.length → (allP (ks.take i)).length ≤ 4 ^ i
  | 0, _ => by simp [allP]
  | i + 1, hi => by
    have e : ks[i]? = some ks[i] := List.getElem?_eq_getElem hi
    have ih := allP_len h i (by omega)
    rw [allP_snoc e]
    unfold stepP
    rw [flat_len (more1_len _), Nat.pow_succ]
    exact Nat.mul_le_mul ih (h _ (mem_at e))
theorem allP_ok {ks : List Kind} : ∀ i, i ≤ ks.length → ∀ p ∈ allP (ks.take i), p.length = i ∧ ∀ (j : Nat) (k : Kind) (n : Int), j < i → ks[j]? = some k → p[j]? = some n → 0 ≤ n ∧ n < k.routes.length
  | 0, _, p, hp => by
    have : p = [] := by simpa [allP] using hp
    subst this
    exact ⟨rfl, fun j k n hj => absurd hj (Nat.not_lt_zero j)⟩
  | i + 1, hi, p, hp => by
    have e : ks[i]? = some ks[i] := List.getElem?_eq_getElem hi
    rw [allP_snoc e] at hp
    obtain ⟨q, hq, hp⟩ := List.mem_flatMap.mp hp
    obtain ⟨n, hn, rfl⟩ := List.mem_map.mp hp
    obtain ⟨h1, h2⟩ := allP_ok i (by omega) q hq
    have hn := List.mem_range.mp hn
    refine ⟨by rw [List.length_append, h1]; rfl, fun j k m hj hk hm => ?_⟩
    by_cases z : j = i
    · subst z
      rw [e] at hk
      cases hk
      rw [List.getElem?_append_right (by omega), h1, Nat.sub_self] at hm
      cases hm
      omega
    · rw [List.getElem?_append_left (by omega)] at hm
      exact h2 j k m (by omega) hk hm
theorem allP_plan {W : Works} {p : Lot} (h : p ∈ allP W.kinds) : PlanOk W p := by
  have := allP_ok (ks := W.kinds) W.kinds.length (Nat.le_refl _) p (by rw [List.take_length]; exact h)
  exact ⟨this.1, fun i k n hk hn => this.2 i k n (List.getElem?_eq_some_iff.mp hk).1 hk hn⟩
theorem WOk.most {W : Works} (ok : WOk W) : ∀ k ∈ W.kinds, k.routes.length ≤ 4 := fun k hk => (ok.kinds k hk).few.2
theorem pow_le {i : Nat} (h : i ≤ 3) : 4 ^ i ≤ 64 := Nat.pow_le_pow_right (by decide) h
def spPlans : Sp := fun vs H Q _ => ∃ u W, vs = [u] ∧ IsW H u W ∧ WOk W ∧ ∀ H' l ps, Kp H H' → H' l = some (.lst ps) → Paired (IsL H') ps (allP W.kinds) → Q (.ref l) H'
def spFines (T1 T2 : Addr) : Sp := fun vs H Q _ => ∃ u W, vs = [u] ∧ IsW H u W ∧ WOk W ∧ (Tb H T1 ∧ Tb H T2) ∧ ∀ H' l ps qs, Kp H H' → H' l = some (.lst ps) → Paired (IsL H') ps qs → (∀ p ∈ qs, p ∈ allP W.kinds ∧ FineP W p) → Q (.ref l) H'
def spGood (T : T4) (T1 T2 : Addr) : Sp := fun vs H Q _ => ∃ u W, vs = [u] ∧ IsW H u W ∧ WOk W ∧ T.ok H ∧ (Tb H T1 ∧ Tb H T2) ∧ ∀ H' v qs, Kp H H' → IsS H' v qs → (∀ p ∈ qs, p ∈ allP W.kinds ∧ FineP W p) → Q v H'
section
variable {P : Program} {w : World} {K : PySem.W.Frag} {mg : Str → Option Value} {base : Heap}
abbrev n31 : List Str := ["works", "found", "kind", "plan", "number"]
theorem sc31 : FnScope n31 ["works"] (defScope (st 31)) := ⟨rfl, rfl, rfl, by decide +kernel, rfl, by decide +kernel, by decide +kernel⟩
theorem d_plans (D : DefAt K mg "all_plans" (st 31)) (N : Nm mg) : Df P w K mg base "all_plans" 1 ["works"] spPlans := by
  refine D.df sc31 (fun vs H Q E h => ?_) (fun _ _ _ _ _ _ us hl => match us, hl with | [_], _ => rfl) (fun f cdv A outer sh H vs Q E hr h => ?_)
  · obtain ⟨u, W, rfl, _⟩ := h
    rfl
  · obtain ⟨u, W, rfl, hu, ok, q⟩ := h
    refine ⟨_, pss_cons (ps_set (i := 1) sc31.nd rfl (Or.inl rfl) (pe_lst (pa_cons (pe_tup pa_nil) pa_nil)))
      (pss_cons (ps_for PassesOwn.never rfl (pi_tup (pe_ix ix_tup (pv 0) pe_int (fun _ _ => rfl))) (pg_name (i := 2) sc31.nd rfl (Or.inr rfl))
        (pss_one (ps_setLc2 (i := 1) (own := [("plan", 3), ("number", 4)]) (vs1 := [4]) (g := gName 3) (g1 := gName 4) (tt := tYes) (tt1 := tYes) (wi1 := iRng1 (tCons (tCB (rLen K) (tCons (tOp (rIxT K) (tVar 2) (tC (.int 2))) tNil)) tNil))
          rfl sc31.nd rfl rfl (sw_true rfl rfl rfl (by decide +kernel)) (pi_list (pv 1)) (blkOk_by (N := n31) (sc := defScope (st 31)) (by decide +kernel)) (by decide)
          (fun _ _ _ _ _ => pg_name (i := 3) sc31.nd rfl (Or.inl rfl)) (fun _ _ _ _ _ => pts_nil)
          (fun _ _ _ _ _ => pi_range1 (by rfl) N.range (pa_cons (pe_lenK K N.len (pe_ix (ixT K) (pv 2) pe_int (fun _ _ => rfl))) pa_nil))
          (fun _ _ _ _ _ => pg_name (i := 4) sc31.nd rfl (Or.inl rfl)) (fun _ _ _ _ _ => pts_nil)
          (fun _ _ _ _ _ => pe_op op_ct (pv 3) (pe_tup (pa_cons (pv 4) pa_nil))))))
      (pss_one (ps_ret (pv 1)))), ?_⟩
    obtain ⟨a, y, b, ks, rfl, ha, hy, hb, pk⟩ := id hu
    refine ⟨by show 0 ≤ sizeLine; decide, fun t nt => ⟨by show 1 ≤ sizeLine; decide, fun l nl => ?_⟩⟩
    have k0 := ((Kp.refl H).add (o := .tup []) nt).add (o := .lst [.ref t]) nl
    refine ⟨_, rfl, a, _, _, _, rfl, rfl, SqT.of (k0.tup ha), atI_nat (j := 2) rfl, b, rfl, ⟨_, SqT.of (k0.tup hb)⟩, ?_⟩
    have ntl : t ≠ l := fun z => by rw [← z, upd_same] at nl; cases nl
    refine for_wlk wl_tup (fun i σ H' => ∃ l ps o2, σ = [some (.ref a), some (.ref l), o2, none, none] ∧ Kp H H' ∧ H' l = some (.lst ps) ∧ Paired (IsL H') ps (allP (W.kinds.take i)))
      ⟨l, [.ref t], none, rfl, k0, upd_same, .cons ⟨t, rfl, by rw [upd_ne ntl, upd_same] <;> rfl⟩ .nil⟩ (fun i σ H' _ ⟨_, _, _, _, k, _⟩ => SqT.of (k.tup hb)) ?_ ?_
    · rintro i x σ H1 H1' hi ⟨l, ps, o2, rfl, k1, hl, pr⟩ ⟨rfl, hx⟩
      obtain ⟨kd, hk, ik⟩ := pr_get pk hx
      have il : i < W.kinds.length := (List.getElem?_eq_some_iff.mp hk).1
      have kf := ok.kfew
      have al := allP_len ok.most i (by omega)
      have p4 := pow_le (i := i) (by omega)
      have k4 := ok.most kd (mem_at hk)
      refine ⟨_, rfl, l, rfl, ⟨_, SqL.of hl⟩, fun D hD => ?_⟩
      have nD : H D = none := k1.nn D hD
      have nlD : l ≠ D := ne_of_none hl hD
      have lp := Paired.length pr
      refine gw wl_list (fun j H' => Kp H1' H' ∧ Kp H H' ∧ H' l = some (.lst ps) ∧ ∃ acc, H' D = some (.lst acc) ∧ Paired (IsL H') acc (((allP (W.kinds.take i)).take j).flatMap (more1 kd.routes.length)))
        ⟨(Kp.refl H1').add hD, k1.add hD, by rw [upd_ne nlD]; exact hl, [], upd_same, .nil⟩ (fun j H' _ k => SqL.of k.2.2.1) ?_ ?_
      · rintro j x2 H2 H2' hj ⟨k12, k2, hl2, acc, hacc, pra⟩ ⟨rfl, hx2⟩
        obtain ⟨p, hp, ip⟩ := pr_get pr hx2
        obtain ⟨ka, x1, x2', x3, rfl, hka, _, _, hx3⟩ := ik.keep k2.kt
        obtain ⟨za, rs, rfl, hza, pz⟩ := id hx3
        have lr := Paired.length pz
        refine ⟨rfl, _, rfl, ka, _, _, _, rfl, rfl, SqT.of hka, atI_nat (j := 2) rfl, za, _, rfl, .inr (SqT.of hza), _, rfl, by omega, by omega, ?_⟩
        refine gw wl_rng (fun m H' => Kp H1' H' ∧ Kp H H' ∧ H' l = some (.lst ps) ∧ ∃ acc, H' D = some (.lst acc) ∧ Paired (IsL H') acc (((allP (W.kinds.take i)).take j).flatMap (more1 kd.routes.length) ++ (more1 kd.routes.length p).take m))
          ⟨k12, k2, hl2, acc, hacc, by rw [List.take_zero, List.append_nil]; exact pra⟩ (fun _ _ _ _ => trivial) ?_ ?_
        · rintro m x3 H3 H3' hm ⟨k13, k3, hl3, acc3, hacc3, pr3⟩ ⟨rfl, rfl⟩
          have hm2 : m < kd.routes.length := by omega
          obtain ⟨pa, rfl, hpa⟩ := ip.keep k13.kt
          refine ⟨rfl, _, rfl, _, rfl, by show 1 ≤ sizeLine; decide, fun t nt => ?_⟩
          have pl : p.length ≤ 3 := by
            have := (allP_ok (ks := W.kinds) i (by omega) p (mem_at hp)).1
            omega
          have k3t := (Kp.refl H3').add (o := .tup [.int (0 + (m : Nat))]) nt
          refine ⟨pa, t, _, _, rfl, rfl, k3t.tup hpa, upd_same, by rw [List.length_map, sizeLine_eq, List.length_singleton]; omega, fun c H4 sm hc => ?_⟩
          have k34 := k3t.trans (.same sm)
          have l3 := Paired.length pr3
          have fl := flat_len (more1_len kd.routes.length) ((allP (W.kinds.take i)).take j)
          have tl : ((allP (W.kinds.take i)).take j).length ≤ 64 := by rw [List.length_take]; omega
          have t2 : ((allP (W.kinds.take i)).take j).length * kd.routes.length ≤ 64 * 4 := Nat.mul_le_mul tl k4
          refine ⟨acc3, k34.lst hacc3, ?_, ?_⟩
          · have tm : ((more1 kd.routes.length p).take m).length ≤ kd.routes.length := by rw [List.length_take, more1_len]; omega
            rw [l3, List.length_append, fl, sizeLine_eq]
            omega
          · have hD4 := k34.lst hacc3
            have hD1 : H1' D = none := hD
            have kk : KT H4 (upd H4 D (.lst (acc3 ++ [.ref c]))) := fun d xs e => by rw [upd_ne (ne_of e hD4 (by intro z; cases z))]; exact e
            refine ⟨(k13.trans k34).put hD1 hD4, (k3.trans k34).put nD hD4, by rw [upd_ne nlD]; exact k34.lst hl3, acc3 ++ [.ref c], upd_same, ?_⟩
            rw [more1_take p hm2, ← List.append_assoc]
            refine pr_snoc (Paired.mapP pr3 fun _ _ q => (q.keep k34.kt).keep kk) ⟨c, rfl, kk _ _ ?_⟩
            rw [hc, List.map_append]
            simp
        · rintro H3 ⟨k13, k3, hl3, acc3, hacc3, pr3⟩
          refine ⟨k13, k3, hl3, acc3, hacc3, ?_⟩
          rw [flat_take hp]
          have e : ((rs.length : Nat) : Int).toNat = (more1 kd.routes.length p).length := by rw [more1_len]; omega
          rw [e, List.take_length] at pr3
          exact pr3
      · rintro H2 ⟨k12, k2, hl2, acc, hacc, pra⟩
        refine ⟨D, acc, _, rfl, k2, hacc, ?_⟩
        rw [lp, List.take_length] at pra
        rw [allP_snoc hk]
        exact pra
    · rintro σ H1 ⟨l, ps, o2, rfl, k1, hl, pr⟩
      rw [Paired.length pk, List.take_length] at pr
      exact ⟨_, rfl, q _ l ps k1 hl pr⟩
end
end Dw

/-! part DwJ -/
set_option Elab.async false
set_option linter.all false
set_option maxRecDepth 100000
set_option maxHeartbeats 4000000
/-! fine_plans, good_plans, worst_stands -/
namespace Dw
open PySem PySem.Spec PyProof.Rows L2 GenW
theorem pr_app {α β : Type} {R : α → β → Prop} : ∀ {xs xs2 : List α} {ys ys2 : List β}, Paired R xs ys → Paired R xs2 ys2 → Paired R (xs ++ xs2) (ys ++ ys2)
  | _, _, _, _, .nil, q => q
  | _, _, _, _, .cons r t, q => .cons r (pr_app t q)
/-- after exactly j orders -/
def Rn (rs : List Lot) (s0 : Stand) : Nat → Stand → Prop
  | 0, s => s = s0
  | j + 1, s => ∃ t, Rn rs s0 j t ∧ ∃ r ∈ rs, s = (beh t r).1
theorem Rn.ok {rs : List Lot} {s0 : Stand} {m : Int} (h : SOk m s0) : ∀ {j : Nat} {s : Stand}, Rn rs s0 j s → SOk m s ∧ s.length = s0.length
  | 0, s, e => by
    have e : s = s0 := e
    rw [e]
    exact ⟨h, rfl⟩
  | j + 1, s, ⟨t, ht, r, _, e⟩ => by
    obtain ⟨a, b⟩ := Rn.ok h ht
    obtain ⟨c, _, d⟩ := beh_ok a r
    rw [e]
    exact ⟨c, d.trans b⟩
def spWorst : Sp := fun vs H Q _ => ∃ u l n W ps rs, vs = [u, .ref l, .int (n : Nat)] ∧ IsW H u W ∧ WOk W ∧ H l = some (.lst ps) ∧ Paired (IsL H) ps rs ∧ rs.length ≤ 3 ∧ (∀ r ∈ rs, PosOk W.vats.length r) ∧ 1 ≤ n ∧ n ≤ 4 ∧
  ∀ H' l ps fs, Kp H H' → H' l = some (.lst ps) → Paired (IsS H') ps fs → (∀ s, s ∈ fs ↔ ∃ j, j < n ∧ Rn rs W.vats j s) → Q (.ref l) H'
section
variable {P : Program} {w : World} {K : PySem.W.Frag} {mg : Str → Option Value} {base : Heap}
abbrev n32 : List Str := ["works", "plan"]
theorem sc32 : FnScope n32 ["works"] (defScope (st 32)) := ⟨rfl, rfl, rfl, by decide +kernel, rfl, by decide +kernel, by decide +kernel⟩
theorem d_fines {T1 T2 : Addr} (D : DefAt K mg "fine_plans" (st 32)) (Dp : Df P w K mg base "all_plans" 1 ["works"] spPlans) (Dq : Df P w K mg base "is_fine" 4 ["works", "plan"] (spFine T1 T2)) : Df P w K mg base "fine_plans" 5 ["works"] (spFines T1 T2) := by
  refine D.df sc32 (fun vs H Q E h => ?_) (fun _ _ _ _ _ _ us hl => match us, hl with | [_], _ => rfl) (fun f cdv A outer sh H vs Q E hr h => ?_)
  · obtain ⟨u, W, rfl, _⟩ := h
    rfl
  · obtain ⟨u, W, rfl, hu, ok, tb, q⟩ := h
    have hr1 : Room 1 _ := hr.mono (by decide)
    refine ⟨_, pss_one (ps_ret (pe_lc (own := [("plan", 1)]) (g := gName 1) rfl sc32.nd (pi_list (pe_df Dp hr1 (by rfl) (pa_cons (pv 0) pa_nil)))
      (blkOk_by (N := n32) (sc := defScope (st 32)) (by decide +kernel)) (fun _ _ _ _ _ => pg_name (i := 1) sc32.nd rfl (Or.inl rfl)) (fun _ _ _ _ _ => pts_one (pt_val (pe_df Dq hr (by rfl) (pa_cons (pv 0) (pa_cons (pv 1) pa_nil)))))
      (fun _ _ _ _ _ => pv 1))), ?_⟩
    refine ⟨_, rfl, u, W, rfl, hu, ok, fun H1 l ps k1 hl pr => ⟨l, rfl, ⟨_, SqL.of hl⟩, fun D hD => ?_⟩⟩
    have nD : H D = none := k1.nn D hD
    have nlD : l ≠ D := ne_of_none hl hD
    refine gw wl_list (fun j H' => Kp H1 H' ∧ Kp H H' ∧ ∃ acc qs, H' D = some (.lst acc) ∧ Paired (IsL H') acc qs ∧ qs.length ≤ j ∧ ∀ p ∈ qs, p ∈ allP W.kinds ∧ FineP W p)
      ⟨(Kp.refl H1).add hD, k1.add hD, [], [], upd_same, .nil, Nat.le_refl _, fun p hp => nomatch hp⟩ (fun j H' _ k => SqL.of (k.1.lst hl)) ?_ ?_
    · rintro j x H2 H2' hj ⟨k12, k2, acc, qs, hacc, pra, lq, all⟩ ⟨rfl, hx⟩
      obtain ⟨p, hp, ip⟩ := pr_get pr hx
      have kf := ok.kfew
      have al := allP_len ok.most W.kinds.length (Nat.le_refl _)
      rw [List.take_length] at al
      have p4 := pow_le (i := W.kinds.length) (by omega)
      have lj := (List.getElem?_eq_some_iff.mp hp).1
      refine ⟨rfl, _, rfl, _, rfl, u, x, W, p, rfl, hu.keep k2.kt, ip.keep k12.kt, allP_plan (mem_at hp), ok, ⟨k2.tb _ tb.1, k2.tb _ tb.2⟩, fun H3 b k3 hb => ⟨b, rfl, ?_⟩⟩
      cases b with
      | false => exact iteF ⟨k12.trans k3, k2.trans k3, acc, qs, k3.lst hacc, Paired.mapP pra fun _ _ q => q.keep k3.kt, by omega, all⟩
      | true =>
        have hD3 := k3.lst hacc
        have hD1 : H1 D = none := hD
        have kk : KT H3 (upd H3 D (.lst (acc ++ [x]))) := fun d xs e => by rw [upd_ne (ne_of e hD3 (by intro z; cases z))]; exact e
        refine iteT ⟨_, rfl, acc, hD3, ?_, ?_⟩
        · rw [Paired.length pra, sizeLine_eq]
          omega
        · refine ⟨(k12.trans k3).put hD1 hD3, (k2.trans k3).put nD hD3, acc ++ [x], qs ++ [p], upd_same, pr_snoc (Paired.mapP pra fun _ _ q => (q.keep k3.kt).keep kk) ((ip.keep (k12.trans k3).kt).keep kk), by rw [List.length_append]; simp; exact lq, fun q hq => ?_⟩
          rcases List.mem_append.mp hq with e | e
          · exact all q e
          · rw [List.mem_singleton.mp e]
            exact ⟨mem_at hp, hb rfl⟩
    · rintro H2 ⟨k12, k2, acc, qs, hacc, pra, lq, all⟩
      exact q _ D acc qs k2 hacc pra all
theorem sc33 : FnScope ["works"] ["works"] (defScope (st 33)) := ⟨rfl, rfl, rfl, by decide +kernel, rfl, by decide +kernel, by decide +kernel⟩
theorem d_good {T : T4} {T1 T2 : Addr} (D : DefAt K mg "good_plans" (st 33)) (N : Nm mg) (Dn : Df P w K mg base "need_works" 7 ["value"] (spNeedW T)) (Df : Df P w K mg base "fine_plans" 5 ["works"] (spFines T1 T2)) : Dw.Df P w K mg base "good_plans" 8 ["works"] (spGood T T1 T2) := by
  refine D.df sc33 (fun vs H Q E h => ?_) (fun _ _ _ _ _ _ us hl => match us, hl with | [_], _ => rfl) (fun f cdv A outer sh H vs Q E hr h => ?_)
  · obtain ⟨u, W, rfl, _⟩ := h
    rfl
  · obtain ⟨u, W, rfl, hu, ok, t4, tb, q⟩ := h
    have hr5 : Room 5 _ := hr.mono (by decide)
    refine ⟨_, pss_cons (ps_expr (pe_df Dn hr (by rfl) (pa_cons (pv 0) pa_nil))) (pss_one (ps_ret (pe_tupl N.tuple (pe_df Df hr5 (by rfl) (pa_cons (pv 0) pa_nil))))), ?_⟩
    refine ⟨_, rfl, u, W, rfl, hu, ok, t4, fun H1 k1 => ?_⟩
    refine ⟨_, rfl, u, W, rfl, hu.keep k1.kt, ok, ⟨k1.tb _ tb.1, k1.tb _ tb.2⟩, fun H2 l ps qs k2 hl pr all => ⟨l, ps, rfl, .inl ⟨SqL.of hl, fun t nt => ?_⟩⟩⟩
    have k3 := (Kp.refl H2).add (o := .tup ps) nt
    exact q _ _ qs ((k1.trans k2).trans k3) ⟨t, ps, rfl, upd_same, Paired.mapP pr fun _ _ q => q.keep k3.kt⟩ all
abbrev n37 : List Str := ["works", "routes", "many", "found", "layer", "_", "later", "stand", "route", "other"]
theorem sc37 : FnScope n37 ["works", "routes", "many"] (defScope (st 37)) := ⟨rfl, rfl, rfl, by decide +kernel, rfl, by decide +kernel, by decide +kernel⟩
theorem d_worst (D : DefAt K mg "worst_stands" (st 37)) (N : Nm mg) (Db : Df P w K mg base "behind" 2 ["stand", "route"] spBeh) : Df P w K mg base "worst_stands" 3 ["works", "routes", "many"] spWorst := by
  refine D.df sc37 (fun vs H Q E h => ?_) (fun _ _ _ _ _ _ us hl => match us, hl with | [_, _, _], _ => rfl) (fun f cdv A outer sh H vs Q E hr h => ?_)
  · obtain ⟨u, l, n, W, ps, rs, rfl, _⟩ := h
    rfl
  · obtain ⟨u, l, n, W, ps, rs, rfl, hu, ok, hl, pl_, l3, po, n1, n4, q⟩ := h
    have hU : (A.deeper (envOfC "worst_stands" (defScope (st 37)) sh.heap.objs.size f cdv)).units + 65 < cLine := by have := hr.un; omega
    refine ⟨_, pss_cons (ps_par (i := 3) (j := 4) rfl sc37.nd rfl rfl (by decide) rfl rfl (pa_cons (pe_lst (pa_cons (pe_ix ix_tup (pv 0) pe_int (fun _ _ => rfl)) pa_nil)) (pa_cons (pe_lst (pa_cons (pe_ix ix_tup (pv 0) pe_int (fun _ _ => rfl)) pa_nil)) pa_nil)) (by rfl))
      (pss_cons (ps_for PassesOwn.never rfl (pi_range1 (by rfl) N.range (pa_cons (pe_op op_sub (pv 2) pe_int) pa_nil)) (pg_name (i := 5) sc37.nd rfl (Or.inl rfl))
        (pss_cons (ps_set (i := 6) sc37.nd rfl (Or.inl rfl) (pe_lst pa_nil))
        (pss_cons (ps_for PassesOwn.never rfl (pi_list (pv 4)) (pg_name (i := 7) sc37.nd rfl (Or.inl rfl))
          (pss_one (ps_for PassesOwn.never rfl (pi_list (pv 1)) (pg_name (i := 8) sc37.nd rfl (Or.inl rfl))
            (pss_cons (ps_set (i := 9) sc37.nd rfl (Or.inl rfl) (pe_ix ix_tup (pe_df Db hr (by rfl) (pa_cons (pv 7) (pa_cons (pv 8) pa_nil))) pe_int (fun _ _ => rfl)))
            (pss_one (ps_if (pt_cmpR (op_notInSL hU) (pv 9) (pv 3) (by with_unfolding_all rfl))
              (pss_cons (ps_expr (pe_bm PySem.F.plainAttrs_list PySem.F.slot_list_append PySem.F.type_list_append mt_append (pv 3) (pa_cons (pv 9) pa_nil)))
              (pss_one (ps_expr (pe_bm PySem.F.plainAttrs_list PySem.F.slot_list_append PySem.F.type_list_append mt_append (pv 6) (pa_cons (pv 9) pa_nil)))))
              pss_nil))))))
        (pss_one (ps_set (i := 4) sc37.nd rfl (Or.inl rfl) (pv 6))))))
      (pss_one (ps_ret (pv 3)))), ?_⟩
    obtain ⟨a, y, b, ks, rfl, ha, hy, hb, pk⟩ := id hu
    refine ⟨_, rfl, a, _, _, _, rfl, rfl, SqT.of ha, atI_nat (j := 1) rfl, by show 1 ≤ sizeLine; decide, fun F nF => ?_⟩
    have kF := (Kp.refl H).add (o := .lst [y]) nF
    refine ⟨_, rfl, a, _, _, _, rfl, rfl, SqT.of (kF.tup ha), atI_nat (j := 1) rfl, by show 1 ≤ sizeLine; decide, fun G nG => ⟨_, _, rfl, ?_⟩⟩
    have kG := kF.add (o := .lst [y]) nG
    have nFG : F ≠ G := fun z => by rw [← z, upd_same] at nG; cases nG
    have nG0 : H G = none := kF.nn G nG
    refine ⟨_, rfl, _, _, rfl, rfl, _, rfl, by omega, by omega, ?_⟩
    refine for_wlk wl_rng (fun i σ H' => ∃ G pf pg fs gs o5 o6 o7 o8 o9, σ = [some (.ref a), some (.ref l), some (.int (n : Nat)), some (.ref F), some (.ref G), o5, o6, o7, o8, o9] ∧ Kp H H' ∧ (H G = none ∧ F ≠ G) ∧ H' F = some (.lst pf) ∧ Paired (IsS H') pf fs ∧ H' G = some (.lst pg) ∧ Paired (IsS H') pg gs ∧
        (∀ s, s ∈ fs ↔ ∃ j, j ≤ i ∧ Rn rs W.vats j s) ∧ (∀ s ∈ gs, Rn rs W.vats i s) ∧ (∀ s, Rn rs W.vats i s → s ∈ gs ∨ ∃ j, j < i ∧ Rn rs W.vats j s) ∧ fs.length ≤ 4 ^ i ∧ gs.length ≤ fs.length)
      ⟨G, [y], [y], [W.vats], [W.vats], none, none, none, none, none, rfl, kG, ⟨nG0, nFG⟩, by rw [upd_ne nFG, upd_same], .cons (hy.keep kG.kt) .nil, upd_same, .cons (hy.keep kG.kt) .nil, fun s => ?_, fun s hs => List.mem_singleton.mp hs, fun s hs => .inl (List.mem_singleton.mpr hs), Nat.le_refl _, Nat.le_refl _⟩ (fun _ _ _ _ _ => trivial) ?_ ?_
    · rw [List.mem_singleton]
      constructor
      · intro e
        exact ⟨0, Nat.le_refl _, e⟩
      · rintro ⟨j, hj, e⟩
        obtain rfl : j = 0 := Nat.le_zero.mp hj
        exact e
    · rintro i x σ H1 H1' hi ⟨G, pf, pg, fs, gs, o5, o6, o7, o8, o9, rfl, k1, ⟨nG0, nFG⟩, hF, prF, hG, prG, m1, m2, m3, f4, g4⟩ ⟨rfl, rfl⟩
      have i3 : i ≤ 2 := by omega
      have p4 : 4 ^ i ≤ 16 := Nat.pow_le_pow_right (n := 4) (by decide) i3
      refine ⟨by show 0 ≤ sizeLine; decide, fun L nL => ?_⟩
      have nL0 : H L = none := k1.nn L nL
      have kL := k1.add (o := .lst []) nL
      have nFL : F ≠ L := ne_of_none hF nL
      have nGL : G ≠ L := ne_of_none hG nL
      have ktL : KT H1' (upd H1' L (.lst [])) := ((Kp.refl H1').add nL).kt
      have hG1 : (upd H1' L (.lst [])) G = some (.lst pg) := by rw [upd_ne nGL]; exact hG
      refine ⟨_, rfl, G, rfl, ⟨_, SqL.of hG1⟩, ?_⟩
      refine for_wlk wl_list (fun c σ H' => ∃ pl ls o7 o8 o9, σ = [some (.ref a), some (.ref l), some (.int (n : Nat)), some (.ref F), some (.ref G), some (.int (0 + (i : Nat))), some (.ref L), o7, o8, o9] ∧ Kp H H' ∧ KT H1' H' ∧ H' F = some (.lst (pf ++ pl)) ∧ H' L = some (.lst pl) ∧ H' G = some (.lst pg) ∧ Paired (IsS H') pl ls ∧
          (∀ s ∈ ls, Rn rs W.vats (i + 1) s) ∧ (∀ t ∈ gs.take c, ∀ r ∈ rs, (beh t r).1 ∈ fs ++ ls) ∧ ls.length ≤ c * rs.length)
        ⟨[], [], o7, o8, o9, rfl, kL, ktL, by rw [upd_ne nFL, List.append_nil]; exact hF, upd_same, hG1, .nil, (fun s hs => nomatch hs), (fun t ht => nomatch ht), Nat.zero_le _⟩ (fun c σ H' _ ⟨_, _, _, _, _, _, _, _, _, _, h, _⟩ => SqL.of h) ?_ ?_
      · rintro c x σ H2 H2' hc ⟨pl, ls, o7, o8, o9, rfl, k2, kt2, hF2, hL2, hG2, prL, r1, r2, r3⟩ ⟨rfl, hx⟩
        obtain ⟨t, ht, it⟩ := pr_get prG hx
        have tR := m2 t (mem_at ht)
        obtain ⟨tok, tl⟩ := Rn.ok ok.vsok tR
        have cl := (List.getElem?_eq_some_iff.mp ht).1
        refine ⟨_, rfl, l, rfl, ⟨_, SqL.of (k2.lst hl)⟩, ?_⟩
        refine for_wlk wl_list (fun d σ H' => ∃ pl ls o8 o9, σ = [some (.ref a), some (.ref l), some (.int (n : Nat)), some (.ref F), some (.ref G), some (.int (0 + (i : Nat))), some (.ref L), some x, o8, o9] ∧ Kp H H' ∧ KT H1' H' ∧ H' F = some (.lst (pf ++ pl)) ∧ H' L = some (.lst pl) ∧ H' G = some (.lst pg) ∧ Paired (IsS H') pl ls ∧
            (∀ s ∈ ls, Rn rs W.vats (i + 1) s) ∧ (∀ t ∈ gs.take c, ∀ r ∈ rs, (beh t r).1 ∈ fs ++ ls) ∧ (∀ r ∈ rs.take d, (beh t r).1 ∈ fs ++ ls) ∧ ls.length ≤ c * rs.length + d)
          ⟨pl, ls, o8, o9, rfl, k2, kt2, hF2, hL2, hG2, prL, r1, r2, (fun r hr => nomatch hr), r3⟩ (fun d σ H' _ ⟨_, _, _, _, _, k, _⟩ => SqL.of (k.lst hl)) ?_ ?_
        · rintro d x2 σ H3 H3' hd ⟨pl, ls, o8, o9, rfl, k3, kt3, hF3, hL3, hG3, prL, r1, r2, rd, r3⟩ ⟨rfl, hx2⟩
          obtain ⟨r, hr', ir⟩ := pr_get pl_ hx2
          have rm := mem_at hr'
          have b4 : rs.length ≤ 3 := l3
          have dl := (List.getElem?_eq_some_iff.mp hr').1
          have bound : c * rs.length + d < gs.length * rs.length := by
            have h1 : (c + 1) * rs.length ≤ gs.length * rs.length := Nat.mul_le_mul_right _ cl
            rw [Nat.succ_mul] at h1
            omega
          have bound2 : gs.length * rs.length ≤ 16 * 3 := Nat.mul_le_mul (by omega) b4
          refine ⟨_, rfl, _, rfl, x, x2, t, r, W.dyes, rfl, it.keep kt3, ir.keep k3.kt, tok, ok.dyes.2, by rw [tl]; exact po r rm, fun H4 p k4 ip => ?_⟩
          obtain ⟨pa, z, z2, rfl, hpa, iz, iz2⟩ := ip
          have hF4 := k4.lst hF3
          have hL4 := k4.lst hL3
          have prF4 : Paired (IsS H4) (pf ++ pl) (fs ++ ls) := pr_app (Paired.mapP prF fun _ _ q => q.keep (kt3.trans k4.kt)) (Paired.mapP prL fun _ _ q => q.keep k4.kt)
          refine ⟨pa, _, _, _, rfl, rfl, SqT.of hpa, atI_nat (j := 0) rfl, _, rfl, _, rfl, (beh t r).1, F, pf ++ pl, fs ++ ls, iz, rfl, hF4, prF4, _, rfl, ?_⟩
          have lpl := Paired.length prL
          have lpf := Paired.length prF
          by_cases mem : (beh t r).1 ∈ fs ++ ls
          · refine iteF' (by rw [decide_eq_true mem] <;> rfl) ?_
            refine ⟨pl, ls, _, _, rfl, k3.trans k4, kt3.trans k4.kt, hF4, hL4, k4.lst hG3, Paired.mapP prL fun _ _ q => q.keep k4.kt, r1, r2, fun r' h => ?_, by omega⟩
            rw [take_snoc hr'] at h
            rcases List.mem_append.mp h with e | e
            · exact rd r' e
            · rw [List.mem_singleton.mp e]; exact mem
          · refine iteT' (by rw [decide_eq_false mem] <;> rfl) ?_
            refine ⟨_, rfl, .inl ⟨rfl, _, SqL.of hF4⟩, _, rfl, F, _, _, rfl, rfl, hF4, by rw [List.length_append, lpl, lpf, sizeLine_eq]; omega, ?_⟩
            have k5 := (k3.trans k4).put (o := .lst (pf ++ pl ++ [z])) nF hF4
            have hL5 : (upd H4 F (.lst (pf ++ pl ++ [z]))) L = some (.lst pl) := by rw [upd_ne nFL.symm]; exact hL4
            refine ⟨_, rfl, .inl ⟨rfl, _, SqL.of hL5⟩, _, rfl, L, _, _, rfl, rfl, hL5, by rw [lpl, sizeLine_eq]; omega, ?_⟩
            have k6 := k5.put (o := .lst (pl ++ [z])) nL0 hL5
            have kt56 : KT H4 (upd (upd H4 F (.lst (pf ++ pl ++ [z]))) L (.lst (pl ++ [z]))) := fun c xs e => by
              rw [upd_ne (ne_of e hL4 (by intro z; cases z)), upd_ne (ne_of e hF4 (by intro z; cases z))]
              exact e
            have kt36 := k4.kt.trans kt56
            refine ⟨pl ++ [z], ls ++ [(beh t r).1], _, _, rfl, k6, kt3.trans kt36, by rw [upd_ne nFL, upd_same, List.append_assoc], upd_same, ?_, pr_snoc (Paired.mapP prL fun _ _ q => q.keep kt36) (iz.keep kt56), fun s hs => ?_, fun t' ht' r' hr2 => ?_, fun r' hr2 => ?_, by rw [List.length_append, List.length_singleton]; omega⟩
            · rw [upd_ne nGL, upd_ne nFG.symm]
              exact k4.lst hG3
            · rcases List.mem_append.mp hs with e | e
              · exact r1 s e
              · rw [List.mem_singleton.mp e]; exact ⟨t, tR, r, rm, rfl⟩
            · rw [← List.append_assoc]
              exact List.mem_append_left _ (r2 t' ht' r' hr2)
            · rw [← List.append_assoc]
              rw [take_snoc hr'] at hr2
              rcases List.mem_append.mp hr2 with e | e
              · exact List.mem_append_left _ (rd r' e)
              · rw [List.mem_singleton.mp e]; exact List.mem_append_right _ (List.mem_singleton_self _)
        · rintro σ H3 ⟨pl, ls, o8, o9, rfl, k3, kt3, hF3, hL3, hG3, prL, r1, r2, rd, r3⟩
          rw [Paired.length pl_, List.take_length] at rd
          refine ⟨pl, ls, _, _, _, rfl, k3, kt3, hF3, hL3, hG3, prL, r1, fun t' ht' r hr => ?_, by rw [Nat.succ_mul, ← Paired.length pl_] at *; rw [Paired.length pl_] at *; omega⟩
          rw [take_snoc ht] at ht'
          rcases List.mem_append.mp ht' with e | e
          · exact r2 t' e r hr
          · rw [List.mem_singleton.mp e]; exact rd r hr
      · rintro σ H2 ⟨pl, ls, o7, o8, o9, rfl, k2, kt2, hF2, hL2, hG2, prL, r1, r2, r3⟩
        have lg := Paired.length prG
        rw [lg, List.take_length] at r2
        have b3 : gs.length * rs.length ≤ 4 ^ i * 3 := Nat.mul_le_mul (by omega) l3
        rw [lg] at r3
        have all : ∀ s, Rn rs W.vats (i + 1) s → s ∈ fs ++ ls := fun s hs => by
          obtain ⟨t, ht, r, hr, rfl⟩ := id hs
          rcases m3 t ht with e | ⟨j, hj, e⟩
          · exact r2 t e r hr
          · exact List.mem_append_left _ ((m1 _).mpr ⟨j + 1, hj, t, e, r, hr, rfl⟩)
        refine ⟨_, rfl, L, pf ++ pl, pl, fs ++ ls, ls, _, _, _, _, _, rfl, k2, ⟨nL0, nFL⟩, hF2, pr_app (Paired.mapP prF fun _ _ q => q.keep kt2) prL, hL2, prL, fun s => ⟨fun h => ?_, fun ⟨j, hj, h⟩ => ?_⟩, r1, fun s hs => ?_, ?_, ?_⟩
        · rcases List.mem_append.mp h with e | e
          · obtain ⟨j, hj, q⟩ := (m1 s).mp e
            exact ⟨j, by omega, q⟩
          · exact ⟨i + 1, Nat.le_refl _, r1 s e⟩
        · by_cases e : j ≤ i
          · exact List.mem_append_left _ ((m1 s).mpr ⟨j, e, h⟩)
          · obtain rfl : j = i + 1 := by omega
            exact all s h
        · rcases List.mem_append.mp (all s hs) with e | e
          · obtain ⟨j, hj, q⟩ := (m1 s).mp e
            exact .inr ⟨j, by omega, q⟩
          · exact .inl e
        · rw [List.length_append, Nat.pow_succ]
          omega
        · rw [List.length_append]
          omega
    · rintro σ H1 ⟨G, pf, pg, fs, gs, o5, o6, o7, o8, o9, rfl, k1, _, hF, prF, _, _, m1, _⟩
      refine ⟨_, rfl, q _ F pf fs k1 hF prF fun s => (m1 s).trans ⟨fun ⟨j, hj, h⟩ => ⟨j, by omega, h⟩, fun ⟨j, hj, h⟩ => ⟨j, by omega, h⟩⟩⟩
end
end Dw

/-! part DwK -/
set_option Elab.async false
set_option linter.all false
set_option maxRecDepth 100000
set_option maxHeartbeats 4000000
/-! holds_washed, washed_plans -/
namespace Dw
open PySem PySem.Spec PyProof.Rows L2 GenW
def HW (W : Works) (p : Lot) (n : Nat) : Prop := (∀ (i : Nat) (k : Kind) (r : Lot), W.kinds[i]? = some k → (routesOf W p)[i]? = some r → hasW W k r = true) ∧
  ∀ s, (∃ j, j < n ∧ Rn (routesOf W p) W.vats j s) → ∀ (i : Nat) (k : Kind) (r : Lot), W.kinds[i]? = some k → (routesOf W p)[i]? = some r → clean k (beh s r).2 = true
/-- the i-th of two lists -/
def nth2 {α β : Type} (xs : List α) (ys : List β) (f : α → β → Bool) (i : Nat) : Bool := match xs[i]?, ys[i]? with
  | some x, some y => f x y
  | _, _ => true
theorem nth2_at {α β : Type} {xs : List α} {ys : List β} {f : α → β → Bool} {i : Nat} {x : α} {y : β} (h : xs[i]? = some x) (h2 : ys[i]? = some y) : nth2 xs ys f i = f x y := by
  unfold nth2
  rw [h, h2]
theorem range_all {f : Nat → Bool} {n : Nat} : ((∀ i, i < n → f i = true) → (List.range n).all f = true) ∧ ∀ i, i < n → f i = false → (List.range n).all f = false := by
  refine ⟨fun h => List.all_eq_true.mpr fun i hi => h i (List.mem_range.mp hi), fun i hi h => ?_⟩
  cases e : (List.range n).all f with
  | false => rfl
  | true =>
    have := List.all_eq_true.mp e i (List.mem_range.mpr hi)
    rw [h] at this
    cases this
def spHolds (T T1 T2 : Addr) : Sp := fun vs H Q _ => ∃ u v n W p, vs = [u, v, .int (n : Nat)] ∧ IsW H u W ∧ IsL H v p ∧ PlanOk W p ∧ WOk W ∧ (1 ≤ n ∧ n ≤ 4) ∧ (Tb H T ∧ Tb H T1 ∧ Tb H T2) ∧ ∀ H' b, Kp H H' → (b = true ↔ HW W p n) → Q (.bl b) H'
section
variable {P : Program} {w : World} {K : PySem.W.Frag} {mg : Str → Option Value} {base : Heap}
abbrev n38 : List Str := ["works", "plan", "many", "routes", "stand", "kind", "route"]
theorem sc38 : FnScope n38 ["works", "plan", "many"] (defScope (st 38)) := ⟨rfl, rfl, rfl, by decide +kernel, rfl, by decide +kernel, by decide +kernel⟩
theorem d_holds {T T1 T2 : Addr} (D : DefAtC K mg base "holds_washed" (st 38) T) (N : Nm mg) (B : BltB base mg) (Dr : Df P w K mg base "routes_of" 1 ["works", "plan"] spRts) (Dw : Df P w K mg base "worst_stands" 3 ["works", "routes", "many"] spWorst) (Db : Df P w K mg base "behind" 2 ["stand", "route"] spBeh)
    (Dh : Df P w K mg base "has_wants" 3 ["works", "kind", "route"] (spHas T1)) (Dl : Df P w K mg base "is_clean" 2 ["works", "kind", "carried"] (spClean T2)) : Df P w K mg base "holds_washed" 5 ["works", "plan", "many"] (spHolds T T1 T2) := by
  refine D.df sc38 (fun vs H Q E h => ?_) (fun _ _ _ _ _ _ us hl => match us, hl with | [_, _, _], _ => rfl) (fun f c A outer sh H vs Q E hcode hr h => ?_)
  · obtain ⟨u, v, n, W, p, rfl, _⟩ := h
    rfl
  · obtain ⟨u, v, n, W, p, rfl, hu, hv, po, ok, nn, tb, q⟩ := h
    have hr1 : Room 1 _ := hr.mono (by decide)
    have hr2 : Room 2 _ := hr.mono (by decide)
    have hr3 : Room 3 _ := hr.mono (by decide)
    refine ⟨_, pss_cons (ps_set (i := 3) sc38.nd rfl (Or.inl rfl) (pe_df Dr hr1 (by rfl) (pa_cons (pv 0) (pa_cons (pv 1) pa_nil))))
      (pss_cons (ps_if (pt_not (pt_val (pe_allG (own := [("kind", 5), ("route", 6)]) (g := gTup K 2 (gCons (gName 5) (gCons (gName 6) gNil))) rfl sc38.nd hr B (by rfl) N.all (pi_enum (by rfl) N.enumerate (pa_cons (pv 3) pa_nil)) (blkOk_by (N := n38) (sc := defScope (st 38)) (by decide +kernel))
          (fun _ _ _ _ _ _ _ _ => pg_tup rfl (pgs_cons (pg_name (i := 5) sc38.nd rfl (Or.inl rfl)) (pgs_cons (pg_name (i := 6) sc38.nd rfl (Or.inl rfl)) pgs_nil)))
          (fun _ _ _ _ _ _ _ _ hr1 => pe_df Dh hr1 (by rfl) (pa_cons (pv 0) (pa_cons (pv 5) (pa_cons (pv 6) pa_nil))))))) (pss_one (ps_ret pe_bl)) pss_nil)
      (pss_cons (ps_for PassesOwn.never rfl (pi_list (pe_df Dw hr3 (by rfl) (pa_cons (pv 0) (pa_cons (pv 3) (pa_cons (pv 2) pa_nil))))) (pg_name (i := 4) sc38.nd rfl (Or.inl rfl))
        (pss_one (ps_for PassesOwn.never rfl (pi_enum (by rfl) N.enumerate (pa_cons (pv 3) pa_nil)) (pg_tup rfl (pgs_cons (pg_name (i := 5) sc38.nd rfl (Or.inl rfl)) (pgs_cons (pg_name (i := 6) sc38.nd rfl (Or.inl rfl)) pgs_nil)))
          (pss_one (ps_if (pt_not (pt_val (pe_df Dl hr2 (by rfl) (pa_cons (pv 0) (pa_cons (pv 5) (pa_cons (pe_ix ix_tup (pe_df Db hr2 (by rfl) (pa_cons (pv 4) (pa_cons (pv 6) pa_nil))) pe_int (fun _ _ => rfl)) pa_nil)))))) (pss_one (ps_ret pe_bl)) pss_nil)))))
      (pss_one (ps_ret pe_bl)))), ?_⟩
    refine ⟨_, rfl, _, rfl, u, v, W, p, rfl, hu, hv, po, ok, fun H1 l ps k1 hl pr => ?_⟩
    have lr := Paired.length pr
    have rl := routes_len po
    refine ⟨_, rfl, l, ps, rfl, SqL.of hl, c, T, rfl, .inl hcode, k1.tg _ tb.1.tabG, fun code H2 gr => ?_⟩
    have kg := gr.kp (k1.tg _ tb.1.tabG)
    have al := range_all (f := nth2 W.kinds (routesOf W p) (hasW W)) (n := ps.length)
    refine aa_wlk (stp := false) wl_enum (fun _ H' => Kp H1 H') (nth2 W.kinds (routesOf W p) (hasW W)) ((List.range ps.length).all (nth2 W.kinds (routesOf W p) (hasW W))) kg (fun i H' k => SqL.of (k.lst hl)) ?_ al.1 al.2 fun i H3 k3 => ⟨_, rfl, ?_⟩
    · rintro i H3 x H' G hi k3 ⟨T', rv, rfl, hT, rfl, hx⟩ fin
      obtain ⟨r, hr', ir⟩ := pr_get pr hx
      have lt := (List.getElem?_eq_some_iff.mp hr').1
      rw [rl] at lt
      have hk : W.kinds[i]? = some W.kinds[i] := List.getElem?_eq_getElem lt
      have k4 := k3.add (o := .tup [.int (i : Nat), rv]) hT
      have kk := k1.trans k4
      refine ⟨T', _, rfl, SqT.of upd_same, rfl, _, _, rfl, _, _, rfl, rfl, rfl, ?_⟩
      refine ⟨_, rfl, _, rfl, _, rfl, u, i, rv, W, _, r, rfl, hu.keep kk.kt, hk, ir.keep k4.kt, routes_pos ok po r (mem_at hr'), kk.tb _ tb.2.1, fun H5 k5 => ?_⟩
      rw [← nth2_at (f := hasW W) hk hr']
      exact fin _ (k4.trans k5)
    · have k13 := k1.trans k3
      cases e : (List.range ps.length).all (nth2 W.kinds (routesOf W p) (hasW W)) with
      | false =>
        refine iteT (q _ false k13 ⟨(fun z => nomatch z), fun h => ?_⟩)
        rw [al.1 fun i hi => ?_] at e
        · cases e
        · have lt : i < W.kinds.length := by omega
          have hk : W.kinds[i]? = some W.kinds[i] := List.getElem?_eq_getElem lt
          have hr' : (routesOf W p)[i]? = some ((routesOf W p)[i]'(by omega)) := List.getElem?_eq_getElem _
          rw [nth2_at hk hr']
          exact h.1 i _ _ hk hr'
      | true =>
        have hh : ∀ (i : Nat) (k : Kind) (r : Lot), W.kinds[i]? = some k → (routesOf W p)[i]? = some r → hasW W k r = true := fun i k r hk hr' => by
          have := List.all_eq_true.mp e i (List.mem_range.mpr (by rw [lr]; exact (List.getElem?_eq_some_iff.mp hr').1))
          rw [nth2_at hk hr'] at this
          exact this
        refine iteF ⟨_, rfl, _, rfl, _, rfl, u, l, n, W, ps, routesOf W p, rfl, hu.keep k13.kt, ok, k3.lst hl, Paired.mapP pr fun _ _ q => q.keep k3.kt, by rw [rl]; exact ok.kfew.2, routes_pos ok po, nn.1, nn.2, fun H4 F pf fs k4 hF prF mF => ?_⟩
        have k14 := k13.trans k4
        refine ⟨F, rfl, ⟨_, SqL.of hF⟩, ?_⟩
        refine for_wlk wl_list (fun i σ H' => ∃ o4 o5 o6, σ = [some u, some v, some (.int (n : Nat)), some (.ref l), o4, o5, o6] ∧ Kp H4 H' ∧ ∀ s ∈ fs.take i, ∀ (i : Nat) (k : Kind) (r : Lot), W.kinds[i]? = some k → (routesOf W p)[i]? = some r → clean k (beh s r).2 = true)
          ⟨none, none, none, rfl, .refl _, fun s hs => nomatch hs⟩ (fun i σ H' _ ⟨_, _, _, _, k, _⟩ => SqL.of (k.lst hF)) ?_ ?_
        · rintro i x σ H5 H5' hi ⟨o4, o5, o6, rfl, k5, dn⟩ ⟨rfl, hx⟩
          obtain ⟨s, hs, is⟩ := pr_get prF hx
          have sR := (mF s).mp (mem_at hs)
          have sok : SOk W.dyes s ∧ s.length = W.vats.length := by
            obtain ⟨j, _, h⟩ := sR
            exact Rn.ok ok.vsok h
          have hl5 := ((k3.trans k4).trans k5).lst hl
          refine ⟨_, rfl, l, ps, rfl, SqL.of hl5, ?_⟩
          refine for_wlk wl_enum (fun i σ H' => ∃ o5 o6, σ = [some u, some v, some (.int (n : Nat)), some (.ref l), some x, o5, o6] ∧ Kp H5' H' ∧ ∀ j, j < i → ∀ (k : Kind) (r : Lot), W.kinds[j]? = some k → (routesOf W p)[j]? = some r → clean k (beh s r).2 = true)
            ⟨o5, o6, rfl, .refl _, fun j hj => absurd hj (Nat.not_lt_zero j)⟩ (fun i σ H' _ ⟨_, _, _, k, _⟩ => SqL.of (k.lst hl5)) ?_ ?_
          · rintro j x2 σ H6 H6' hj ⟨o5, o6, rfl, k6, d2⟩ ⟨T', rv, rfl, hT, rfl, hx2⟩
            obtain ⟨r, hr', ir⟩ := pr_get pr hx2
            have lt := (List.getElem?_eq_some_iff.mp hr').1
            rw [rl] at lt
            have hk : W.kinds[j]? = some W.kinds[j] := List.getElem?_eq_getElem lt
            have k7 := k6.add (o := .tup [.int (j : Nat), rv]) hT
            have kk := (k14.trans k5).trans k7
            refine ⟨T', _, rfl, SqT.of upd_same, rfl, _, _, rfl, _, _, rfl, rfl, ?_⟩
            refine ⟨_, rfl, _, rfl, _, rfl, _, rfl, x, rv, s, r, W.dyes, rfl, is.keep (k5.trans k7).kt, ir.keep (((k3.trans k4).trans k5).trans k7).kt, sok.1, ok.dyes.2, by rw [sok.2]; exact routes_pos ok po r (mem_at hr'), fun H8 pp k8 ip => ?_⟩
            obtain ⟨pa, y1, y2, rfl, hpa, iy, iz⟩ := ip
            have k08 := kk.trans k8
            refine ⟨pa, _, _, _, rfl, rfl, SqT.of hpa, atI_nat (j := 1) rfl, u, j, y2, W, _, _, rfl, hu.keep k08.kt, hk, iz, k08.tb _ tb.2.2, fun H9 k9 => ⟨_, rfl, ?_⟩⟩
            cases hc : clean W.kinds[j] (beh s r).2 with
            | false =>
              refine iteT (q _ false (k08.trans k9) ⟨(fun z => nomatch z), fun h => ?_⟩)
              rw [h.2 s sR j _ r hk hr'] at hc
              cases hc
            | true =>
              refine iteF ⟨_, _, rfl, k7.trans (k8.trans k9), fun j' hj' k' r' e1 e2 => ?_⟩
              by_cases e : j' = j
              · subst e
                rw [hk] at e1
                rw [hr'] at e2
                cases e1
                cases e2
                exact hc
              · exact d2 j' (by omega) k' r' e1 e2
          · rintro σ H6 ⟨o5, o6, rfl, k6, d2⟩
            refine ⟨_, _, _, rfl, k5.trans k6, fun s' hs' j k r e1 e2 => ?_⟩
            rw [take_snoc hs] at hs'
            rcases List.mem_append.mp hs' with e | e
            · exact dn s' e j k r e1 e2
            · rw [List.mem_singleton.mp e]
              exact d2 j (by rw [lr]; exact (List.getElem?_eq_some_iff.mp e2).1) k r e1 e2
        · rintro σ H5 ⟨o4, o5, o6, rfl, k5, dn⟩
          rw [Paired.length prF, List.take_length] at dn
          exact q _ true (k14.trans k5) ⟨fun _ => ⟨hh, fun s hs => dn s ((mF s).mpr hs)⟩, fun _ => rfl⟩
open Classical in
/-- the plans that hold, in their order -/
noncomputable def washP (W : Works) (n : Nat) : List Lot := (allP W.kinds).filter fun p => decide (HW W p n)
def spWashed (T : T4) (T0 T1 T2 : Addr) : Sp := fun vs H Q _ => ∃ u n W, vs = [u, .int (n : Nat)] ∧ IsW H u W ∧ WOk W ∧ (1 ≤ n ∧ n ≤ 4) ∧ T.ok H ∧ (Tb H T0 ∧ Tb H T1 ∧ Tb H T2) ∧ ∀ H' v, Kp H H' → IsS H' v (washP W n) → Q v H'
abbrev n39 : List Str := ["works", "many", "plan"]
theorem sc39 : FnScope n39 ["works", "many"] (defScope (st 39)) := ⟨rfl, rfl, rfl, by decide +kernel, rfl, by decide +kernel, by decide +kernel⟩
theorem filter_snoc {α : Type} {f : α → Bool} {xs : List α} {i : Nat} {x : α} (h : xs[i]? = some x) : (xs.take (i + 1)).filter f = (xs.take i).filter f ++ if f x = true then [x] else [] := by
  rw [take_snoc h, List.filter_append]
  congr 1
  cases e : f x <;> simp [e]
theorem filter_len {α : Type} {f : α → Bool} {xs : List α} (i : Nat) : ((xs.take i).filter f).length ≤ i := by
  have := List.length_filter_le f (xs.take i)
  rw [List.length_take] at this
  omega
theorem d_washed {T : T4} {T0 T1 T2 : Addr} (D : DefAt K mg "washed_plans" (st 39)) (N : Nm mg) (Dn : Df P w K mg base "need_works" 7 ["value"] (spNeedW T)) (Dk : Df P w K mg base "need_number" 2 ["value", "low", "high"] spNeedN) (Dp : Df P w K mg base "all_plans" 1 ["works"] spPlans)
    (Dh : Df P w K mg base "holds_washed" 5 ["works", "plan", "many"] (spHolds T0 T1 T2)) : Df P w K mg base "washed_plans" 8 ["works", "many"] (spWashed T T0 T1 T2) := by
  classical
  refine D.df sc39 (fun vs H Q E h => ?_) (fun _ _ _ _ _ _ us hl => match us, hl with | [_, _], _ => rfl) (fun f cdv A outer sh H vs Q E hr h => ?_)
  · obtain ⟨u, n, W, rfl, _⟩ := h
    rfl
  · obtain ⟨u, n, W, rfl, hu, ok, nn, t4, tb, q⟩ := h
    have hr1 : Room 1 _ := hr.mono (by decide)
    have hr2 : Room 2 _ := hr.mono (by decide)
    have hr5 : Room 5 _ := hr.mono (by decide)
    refine ⟨_, pss_cons (ps_expr (pe_df Dn hr (by rfl) (pa_cons (pv 0) pa_nil))) (pss_cons (ps_expr (pe_df Dk hr2 (by rfl) (pa_cons (pv 1) (pa_cons pe_int (pa_cons pe_int pa_nil)))))
      (pss_one (ps_ret (pe_tupl N.tuple (pe_lc (own := [("plan", 2)]) (g := gName 2) rfl sc39.nd (pi_list (pe_df Dp hr1 (by rfl) (pa_cons (pv 0) pa_nil)))
      (blkOk_by (N := n39) (sc := defScope (st 39)) (by decide +kernel)) (fun _ _ _ _ _ => pg_name (i := 2) sc39.nd rfl (Or.inl rfl)) (fun _ _ _ _ _ => pts_one (pt_val (pe_df Dh hr5 (by rfl) (pa_cons (pv 0) (pa_cons (pv 2) (pa_cons (pv 1) pa_nil))))))
      (fun _ _ _ _ _ => pv 2)))))), ?_⟩
    refine ⟨_, rfl, u, W, rfl, hu, ok, t4, fun H0 k0 => ?_⟩
    refine ⟨_, rfl, n, 1, 6, rfl, by omega, by omega, ?_⟩
    refine ⟨_, rfl, u, W, rfl, hu.keep k0.kt, ok, fun H1 l ps k01 hl pr => ⟨l, rfl, ⟨_, SqL.of hl⟩, fun D hD => ?_⟩⟩
    have k1 := k0.trans k01
    have nD : H D = none := k1.nn D hD
    have nlD : l ≠ D := ne_of_none hl hD
    have al := allP_len ok.most W.kinds.length (Nat.le_refl _)
    rw [List.take_length] at al
    have kf := ok.kfew
    have p4 := pow_le (i := W.kinds.length) (by omega)
    refine gw wl_list (fun j H' => Kp H1 H' ∧ Kp H H' ∧ ∃ acc, H' D = some (.lst acc) ∧ Paired (IsL H') acc (((allP W.kinds).take j).filter fun p => decide (HW W p n)))
      ⟨(Kp.refl H1).add hD, k1.add hD, [], upd_same, .nil⟩ (fun j H' _ k => SqL.of (k.1.lst hl)) ?_ ?_
    · rintro j x H2 H2' hj ⟨k12, k2, acc, hacc, pra⟩ ⟨rfl, hx⟩
      obtain ⟨p, hp, ip⟩ := pr_get pr hx
      have lj := (List.getElem?_eq_some_iff.mp hp).1
      refine ⟨rfl, _, rfl, _, rfl, _, rfl, u, x, n, W, p, rfl, hu.keep k2.kt, ip.keep k12.kt, allP_plan (mem_at hp), ok, nn, ⟨k2.tb _ tb.1, k2.tb _ tb.2.1, k2.tb _ tb.2.2⟩, fun H3 b k3 hb => ⟨b, rfl, ?_⟩⟩
      cases b with
      | false =>
        refine iteF ⟨k12.trans k3, k2.trans k3, acc, k3.lst hacc, ?_⟩
        rw [filter_snoc hp, if_neg (by rw [decide_eq_true_iff]; exact fun z => nomatch hb.mpr z), List.append_nil]
        exact Paired.mapP pra fun _ _ q => q.keep k3.kt
      | true =>
        have hD3 := k3.lst hacc
        have hD1 : H1 D = none := hD
        have kk : KT H3 (upd H3 D (.lst (acc ++ [x]))) := fun d xs e => by rw [upd_ne (ne_of e hD3 (by intro z; cases z))]; exact e
        refine iteT ⟨_, rfl, acc, hD3, ?_, (k12.trans k3).put hD1 hD3, (k2.trans k3).put nD hD3, acc ++ [x], upd_same, ?_⟩
        · have := filter_len (f := fun p => decide (HW W p n)) (xs := allP W.kinds) j
          rw [Paired.length pra, sizeLine_eq]
          omega
        · rw [filter_snoc hp, if_pos (by rw [decide_eq_true_iff]; exact hb.mp rfl)]
          exact pr_snoc (Paired.mapP pra fun _ _ q => (q.keep k3.kt).keep kk) ((ip.keep (k12.trans k3).kt).keep kk)
    · rintro H2 ⟨k12, k2, acc, hacc, pra⟩
      rw [Paired.length pr, List.take_length] at pra
      refine ⟨D, acc, rfl, .inl ⟨SqL.of hacc, fun t nt => ?_⟩⟩
      have k3 := (Kp.refl H2).add (o := .tup acc) nt
      exact q _ _ (k2.trans k3) ⟨t, acc, rfl, upd_same, Paired.mapP pra fun _ _ q => q.keep k3.kt⟩
end
end Dw

/-! part DwRk -/
set_option Elab.async false
set_option linter.all false
set_option maxRecDepth 100000
set_option maxHeartbeats 4000000
/-! ranks of stands -/
namespace Dw
open PySem PySem.Spec PyProof.Rows L2 GenW
/-- some kind all of whose good answers lead to g -/
def Bt (W : Works) (g : Stand → Bool) (s : Stand) : Bool := W.kinds.any fun k => k.routes.all fun r => !good W k s r || g (beh s r).1
/-- the rank behind j rounds -/
def rk (W : Works) (U : List Stand) : Nat → Stand → Option Nat
  | 0, _ => none
  | j + 1, s => match rk W U j s with
    | some n => some n
    | none => if decide (s ∈ U) && Bt W (fun t => (rk W U j t).isSome) s then some (j + 1) else none
theorem rk_succ (W : Works) (U : List Stand) (j : Nat) (s : Stand) : rk W U (j + 1) s = match rk W U j s with
    | some n => some n
    | none => if decide (s ∈ U) && Bt W (fun t => (rk W U j t).isSome) s then some (j + 1) else none := rfl
theorem rk_congr {W : Works} {U V : List Stand} (h : ∀ s, s ∈ U ↔ s ∈ V) : ∀ j, rk W U j = rk W V j
  | 0 => rfl
  | j + 1 => by
    funext s
    rw [rk_succ, rk_succ, rk_congr h j, decide_eq_decide.mpr (h s)]
theorem rk_keep {W : Works} {U : List Stand} {j : Nat} {s : Stand} {n : Nat} (h : rk W U j s = some n) : rk W U (j + 1) s = some n := by
  rw [rk_succ, h]
theorem rk_stable {W : Works} {U : List Stand} {j : Nat} (h : rk W U (j + 1) = rk W U j) : ∀ n, rk W U (j + n) = rk W U j
  | 0 => rfl
  | n + 1 => by
    funext s
    show rk W U (j + n + 1) s = _
    rw [rk_succ, rk_stable h n]
    cases e : rk W U j s with
    | some m => rfl
    | none =>
      have e2 : rk W U (j + 1) s = none := by rw [h]; exact e
      rw [rk_succ, e] at e2
      cases c : decide (s ∈ U) && Bt W (fun t => (rk W U j t).isSome) s with
      | false => rfl
      | true =>
        rw [c] at e2
        cases e2
theorem rk_mem {W : Works} {U : List Stand} : ∀ {j : Nat} {s : Stand} {n : Nat}, rk W U j s = some n → s ∈ U
  | 0, s, n, h => nomatch h
  | j + 1, s, n, h => by
    rw [rk_succ] at h
    cases e : rk W U j s with
    | some m => exact rk_mem e
    | none =>
      rw [e] at h
      cases c : decide (s ∈ U) with
      | true => exact of_decide_eq_true c
      | false =>
        rw [c] at h
        cases h
def cnt (W : Works) (U : List Stand) (j : Nat) : Nat := U.countP fun s => (rk W U j s).isSome
theorem countP_lt {α : Type} {p q : α → Bool} (h : ∀ x, p x = true → q x = true) : ∀ {xs : List α} {x : α}, x ∈ xs → p x = false → q x = true → xs.countP p < xs.countP q
  | y :: ys, x, hx, h1, h2 => by
    have mono : ys.countP p ≤ ys.countP q := List.countP_mono_left fun z _ => h z
    rw [List.countP_cons, List.countP_cons]
    rcases List.mem_cons.mp hx with e | e
    · subst e
      simp [h1, h2]
      omega
    · have ih := countP_lt h e h1 h2
      cases e1 : p y with
      | false =>
        cases q y <;> simp <;> omega
      | true =>
        simp [h y e1]
        exact ih
theorem rk_step {W : Works} {U : List Stand} {j : Nat} (h : rk W U (j + 1) ≠ rk W U j) : cnt W U j < cnt W U (j + 1) := by
  have : ∃ s, rk W U (j + 1) s ≠ rk W U j s := Classical.byContradiction fun n => h (funext fun s => Classical.byContradiction fun z => n ⟨s, z⟩)
  obtain ⟨s, hs⟩ := this
  have e0 : rk W U j s = none := by
    cases e : rk W U j s with
    | none => rfl
    | some n => rw [rk_keep e, e] at hs; exact absurd rfl hs
  have e1 : (rk W U (j + 1) s).isSome = true := by
    cases e : rk W U (j + 1) s with
    | none => rw [e, e0] at hs; exact absurd rfl hs
    | some n => rfl
  obtain ⟨n, hn⟩ := Option.isSome_iff_exists.mp e1
  refine countP_lt (fun x hx => ?_) (rk_mem hn) (by rw [e0] <;> rfl) e1
  obtain ⟨m, hm⟩ := Option.isSome_iff_exists.mp hx
  rw [rk_keep hm] <;> rfl
theorem rk_ends (W : Works) (U : List Stand) : ∃ j, j ≤ U.length ∧ rk W U (j + 1) = rk W U j := by
  refine Classical.byContradiction fun n => ?_
  have all : ∀ j, j ≤ U.length + 1 → j ≤ cnt W U j := fun j => by
    induction j with
    | zero => exact fun _ => Nat.zero_le _
    | succ j ih =>
      intro h
      have h1 := ih (by omega)
      have h2 := rk_step (W := W) (U := U) (j := j) fun e => n ⟨j, by omega, e⟩
      omega
  have h1 := all (U.length + 1) (Nat.le_refl _)
  have h2 : cnt W U (U.length + 1) ≤ U.length := List.countP_le_length
  omega
/-- the rank at last -/
def rkE (W : Works) (U : List Stand) : Stand → Option Nat := rk W U (U.length + 1)
theorem rkE_of {W : Works} {U V : List Stand} (h : ∀ s, s ∈ U ↔ s ∈ V) {j : Nat} (e : rk W V (j + 1) = rk W V j) : rk W V j = rkE W U := by
  obtain ⟨i, hi, ei⟩ := rk_ends W U
  have h1 := rk_stable ei (U.length + 1 - i)
  have h2 := rk_stable ei (j + (U.length + 1) - i)
  have h3 := rk_stable e (U.length + 1)
  rw [show i + (U.length + 1 - i) = U.length + 1 by omega] at h1
  rw [show i + (j + (U.length + 1) - i) = j + (U.length + 1) by omega] at h2
  unfold rkE
  rw [h1, ← h2, ← h3, rk_congr h]
end Dw

/-! part DwL -/
set_option Elab.async false
set_option linter.all false
set_option maxRecDepth 100000
set_option maxHeartbeats 4000000
/-! Game: beaten, answers -/
namespace Dw
open PySem PySem.Spec PyProof.Rows L2 GenW
abbrev gm (j : Nat) : Stmt := inClass (st 26) j
structure GmAt (K : PySem.W.Frag) (mg : Str → Option Value) (base : Heap) (C TR TB : Addr) : Prop where
  cl : Cls K C
  gC : mg "Game" = some (.ref C)
  nW : NoAttr K C "works"
  nS : NoAttr K C "stands"
  nY : NoAttr K C "ways"
  nI : NoAttr K C "within"
  nZ : NoAttr K C "sizes"
  init : ∃ f fd, Fun K "__init__" "Game.__init__" (gm 0) f fd ∧ Mk K C f
  ans : ∃ f fd, Fun K "answers" "Game.answers" (gm 1) f fd ∧ Meth K C "answers" f
  rek : ∃ f fd c, FunC K "reckon" "Game.reckon" (gm 2) f fd c ∧ Meth K C "reckon" f ∧ PySem.W.CodeHd base c TR
  bea : ∃ f fd c, FunC K "beaten" "Game.beaten" (gm 3) f fd c ∧ Meth K C "beaten" f ∧ PySem.W.CodeHd base c TB
/-- what a caller has of a method -/
def Mf (P : Program) (w : World) (K : PySem.W.Frag) (mg : Str → Option Value) (base : Heap) (C : Addr) (m : Str) (k : Nat) (ps : List Str) (sp : Sp) : Prop :=
  ∃ f fd, FnOk P w K mg base CX0 k f fd ps sp ∧ Meth K C m f ∧ Binds K fd ps []
section
variable {X : Cx} {C : Addr} {m : Str} {pos apos : Pos} {o e : Expr} {es : List Expr} {ta : TE} {t : TA} {k : Nat} {ps : List Str} {sp : Sp}
theorem pe_mf {pl : Sem Bool} (F : Mf X.prog X.w X.K X.mg X.base C m k ps sp) (c : Cls X.K C) (hr : Room k X.A) (he : PE X o ta) (ha : PA X (e :: es) t)
    (hst : starEach (e :: es) X.env = (false, eval e X.env) :: starEach es X.env := by rfl) (hpl : (backTo pos (starEach es X.env)).any (·.1) = false := by rfl)
    (ht : eval (.Call (.Attribute o m apos) (e :: es) [] pos) X.env = (do
      let ov ← eval o X.env
      standAt apos.atName
      let (f, first) ← holding [ov] (getMethod ov m pl)
      callWith pos f first (backTo pos (starEach (e :: es) X.env)) (backToKw pos (keywordEach [] X.env))) := by rfl) :
    PE X (.Call (.Attribute o m apos) (e :: es) [] pos) (tMeth C m sp [] E0 ta t) := by
  obtain ⟨f, fd, F, hm, hb⟩ := F
  exact pe_meth he c hm F hr hb .nil pass0 ha hst hpl ht
theorem pe_mf0 {pl : Sem Bool} (F : Mf X.prog X.w X.K X.mg X.base C m k ps sp) (c : Cls X.K C) (hr : Room k X.A) (he : PE X o ta)
    (ht : eval (.Call (.Attribute o m apos) [] [] pos) X.env = (do
      let ov ← eval o X.env
      standAt apos.atName
      let (f, first) ← holding [ov] (getMethod ov m pl)
      callWith pos f first (backTo pos (starEach [] X.env)) (backToKw pos (keywordEach [] X.env))) := by rfl) :
    PE X (.Call (.Attribute o m apos) [] [] pos) (tMeth C m sp [] E0 ta tNil) := by
  obtain ⟨f, fd, F, hm, hb⟩ := F
  exact pe_meth0 he c hm F hr hb .nil pass0 ht
theorem inDS {P : Program} {w : World} (hu : X.A.units + 64 < cLine) (h : X.prog = P := by rfl) (h2 : X.w = w := by rfl) : OpR X (compareOp .In) (rDSIn P w) := by
  subst h h2
  exact op_inDS hu
end
/-- an answer: a stand, or None -/
def IsA (H : Hp) (v : V) : Option Stand → Prop
  | none => v = .non
  | some t => IsS H v t
theorem IsA.keep {H H' : Hp} {v : V} {o : Option Stand} (h : IsA H v o) (k : KT H H') : IsA H' v o := by
  cases o with
  | none => exact h
  | some t => exact IsS.keep h k
def beat (f : Stand → Option V) (as : List (Option Stand)) : Bool := as.all fun o => match o with
  | none => true
  | some t => (f t).isSome
def answersOf (W : Works) (k : Kind) (s : Stand) : List (Option Stand) := k.routes.map fun r => if good W k s r then some (beh s r).1 else none
def spBeaten (P : Program) (w : World) (T : Addr) : Sp := fun vs H Q _ => ∃ u l d ps as f n, vs = [u, .ref l, .ref d] ∧ H l = some (.lst ps) ∧ Paired (IsA H) ps as ∧ DS P w H d f n ∧ Tb H T ∧ ∀ H', Kp H H' → Q (.bl (beat f as)) H'
def spAns (C T1 T2 : Addr) : Sp := fun vs H Q _ => ∃ x dx fs u v i W k s, vs = [.ref x, v, .int (i : Nat)] ∧ H x = some (.ins C dx fs) ∧ fs.lookup ("works" : Str) = some u ∧ IsW H u W ∧ WOk W ∧ IsS H v s ∧ SW W s ∧ W.kinds[i]? = some k ∧ (Tb H T1 ∧ Tb H T2) ∧
  ∀ H' l ps, Kp H H' → H l = none → H' l = some (.lst ps) → Paired (IsA H') ps (answersOf W k s) → Q (.ref l) H'
section
variable {P : Program} {w : World} {K : PySem.W.Frag} {mg : Str → Option Value} {base : Heap} {C TR TB : Addr}
abbrev nB : List Str := ["self", "answers", "found", "later"]
theorem scB : FnScope nB ["self", "answers", "found"] (defScope (gm 3)) := ⟨rfl, rfl, rfl, by decide +kernel, rfl, by decide +kernel, by decide +kernel⟩
theorem m_beaten (G : GmAt K mg base C TR TB) (N : Nm mg) (B : BltB base mg) : Mf P w K mg base C "beaten" 2 ["self", "answers", "found"] (spBeaten P w TB) := by
  obtain ⟨f, fd, c, F, M, hcode⟩ := G.bea
  refine ⟨f, fd, F.okC scB (fun vs H Q E h => ?_) (fun A outer s H vs Q E hr h => ?_), M, F.fn.binds (fun _ _ _ _ _ _ us hl => match us, hl with | [_, _, _], _ => rfl)⟩
  · obtain ⟨u, l, d, ps, as, f, n, rfl, _⟩ := h
    rfl
  · obtain ⟨u, l, d, ps, as, ff, n, rfl, hl, pr, D, tb, q⟩ := h
    refine ⟨_, pss_one (ps_ret (pe_allG (k := 0) (own := [("later", 3)]) (g := gName 3) (te := fun _ => tOrV (tIsN (tVar 3)) (tOp (rDSIn P w) (tVar 3) (tVar 2))) rfl scB.nd hr B (by rfl) N.all (pi_list (pv 1)) (blkOk_by (N := nB) (sc := defScope (gm 3)) (by decide +kernel))
        (fun _ _ _ _ _ _ _ _ => pg_name (i := 3) scB.nd rfl (Or.inl rfl))
        (fun _ _ _ _ _ _ _ _ hr1 => pe_or (pe_cmp (pc_isN (pv 3))) (pe_one (pe_cmpR (inDS hr1.units) (pv 3) (pv 2) (by with_unfolding_all rfl)))))), ?_⟩
    refine ⟨_, rfl, l, rfl, ⟨_, SqL.of hl⟩, c, TB, rfl, .inl hcode, tb.tabG, fun code H2 gr => ?_⟩
    have al := allR (xs := as) (f := fun o => match o with
      | none => true
      | some t => (ff t).isSome) nth_at
    rw [← Paired.length pr] at al
    refine aa_wlk (stp := false) wl_list (fun _ H' => Kp H H') (nth as fun o => match o with
      | none => true
      | some t => (ff t).isSome) (beat ff as) (gr.kp tb.tabG) (fun i H' k => SqL.of (k.lst hl)) ?_ al.1 al.2 fun i H3 k3 => q _ k3
    rintro i H1 x H' G' hi k1 ⟨rfl, hx⟩ fin
    obtain ⟨o, ho, io⟩ := pr_get pr hx
    refine ⟨rfl, _, rfl, _, rfl, ?_⟩
    have e := nth_at (f := fun o : Option Stand => match o with
      | none => true
      | some t => (ff t).isSome) i o ho
    cases o with
    | none =>
      have io : x = .non := io
      rw [io]
      refine iteT ?_
      have z := fin _ k1
      rw [e] at z
      exact z
    | some t =>
      have io : IsS H x t := io
      obtain ⟨b, qs, rfl, _⟩ := id io
      refine iteF ⟨_, rfl, _, rfl, t, d, ff, n, io.keep k1.kt, rfl, k1.ds D, ?_⟩
      have z := fin _ k1
      rw [e] at z
      exact z
abbrev nA : List Str := ["self", "stand", "kind", "found", "number", "later", "good"]
theorem scA : FnScope nA ["self", "stand", "kind"] (defScope (gm 1)) := ⟨rfl, rfl, rfl, by decide +kernel, rfl, by decide +kernel, by decide +kernel⟩
theorem m_ans {T1 T2 : Addr} (G : GmAt K mg base C TR TB) (N : Nm mg) (Dd : Df P w K mg base "dyed" 4 ["works", "stand", "kind", "number"] (spDyed T1 T2)) : Mf P w K mg base C "answers" 5 ["self", "stand", "kind"] (spAns C T1 T2) := by
  obtain ⟨f, fd, F, M⟩ := G.ans
  refine ⟨f, fd, F.ok scA (fun vs H Q E h => ?_) (fun cdv A outer sh H vs Q E hr h => ?_), M, F.binds (fun _ _ _ _ _ _ us hl => match us, hl with | [_, _, _], _ => rfl)⟩
  · obtain ⟨x, dx, fs, u, v, i, W, k, s, rfl, _⟩ := h
    rfl
  · obtain ⟨x, dx, fs, u, v, i, W, k, s, rfl, hx, hf, hu, ok, hv, sw, hk, tb, q⟩ := h
    refine ⟨_, pss_cons (ps_set (i := 3) scA.nd rfl (Or.inl rfl) (pe_lst pa_nil))
      (pss_cons (ps_for PassesOwn.never rfl (pi_range1 (by rfl) N.range (pa_cons (pe_len N.len (pe_ix ix_tup (pe_ix ix_tup (pe_ix ix_tup (pe_fld (pv 0) rfl) pe_int (fun _ _ => rfl)) (pv 2) (fun _ _ => rfl)) pe_int (fun _ _ => rfl))) pa_nil)) (pg_name (i := 4) scA.nd rfl (Or.inl rfl))
        (pss_cons (ps_asg (pe_df Dd hr (by rfl) (pa_cons (pe_fld (pv 0) rfl) (pa_cons (pv 1) (pa_cons (pv 2) (pa_cons (pv 4) pa_nil))))) (pg_tup rfl (pgs_cons (pg_name (i := 5) scA.nd rfl (Or.inl rfl)) (pgs_cons (pg_name (i := 6) scA.nd rfl (Or.inl rfl)) pgs_nil))))
        (pss_one (ps_expr (pe_bm PySem.F.plainAttrs_list PySem.F.slot_list_append PySem.F.type_list_append mt_append (pv 3) (pa_cons (pe_ifExp (pt_val (pv 6)) (pv 5) pe_non) pa_nil))))))
      (pss_one (ps_ret (pv 3)))), ?_⟩
    obtain ⟨a, y, b, ks, rfl, ha, hy, hb, pk⟩ := id hu
    obtain ⟨kv, hkv, ik⟩ := pr_get2 pk hk
    obtain ⟨ka, x1, x2, x3, rfl, hka, _, _, hx3⟩ := id ik
    obtain ⟨za, rs, rfl, hza, pz⟩ := id hx3
    have lz := Paired.length pz
    have k4 := ok.most k (mem_at hk)
    refine ⟨by show 0 ≤ sizeLine; decide, fun l nl => ?_⟩
    have k0 := (Kp.refl H).add (o := .lst []) nl
    refine ⟨_, rfl, x, C, dx, _, _, rfl, k0.ins hx, G.cl, G.nW, hf, a, _, _, _, rfl, rfl, SqT.of (k0.tup ha), atI_nat (j := 2) rfl, _, rfl, b, _, _, _, rfl, rfl, SqT.of (k0.tup hb), atI_nat hkv, ka, _, _, _, rfl, rfl, SqT.of (k0.tup hka), atI_nat (j := 2) rfl, za, _, rfl, .inr (SqT.of (k0.tup hza)), _, rfl, by omega, by omega, ?_⟩
    refine for_wlk wl_rng (fun j σ H' => ∃ ps o4 o5 o6, σ = [some (.ref x), some v, some (.int (i : Nat)), some (.ref l), o4, o5, o6] ∧ Kp H H' ∧ H' l = some (.lst ps) ∧ Paired (IsA H') ps ((answersOf W k s).take j))
      ⟨[], none, none, none, rfl, k0, upd_same, .nil⟩ (fun _ _ _ _ _ => trivial) ?_ ?_
    · rintro j z σ H1 H1' hj ⟨ps, o4, o5, o6, rfl, k1, hl, pr⟩ ⟨rfl, rfl⟩
      have jl : j < k.routes.length := by omega
      have hr' : k.routes[j]? = some k.routes[j] := List.getElem?_eq_getElem jl
      refine ⟨_, rfl, x, C, dx, fs, .ref a, rfl, k1.ins hx, G.cl, G.nW, hf, _, rfl, _, rfl, _, rfl, .ref a, v, i, j, W, k, _, s, ?_, hu.keep k1.kt, ok, hv.keep k1.kt, sw.1, sw.2, hk, hr', ⟨k1.tb _ tb.1, k1.tb _ tb.2⟩, fun H2 p y k2 hp iy => ?_⟩
      · rw [Int.zero_add] <;> rfl
      · refine ⟨p, _, rfl, SqT.of hp, rfl, y, _, rfl, _, _, rfl, rfl, ?_⟩
        have hl2 := k2.lst hl
        have lp := Paired.length pr
        have ea : (answersOf W k s)[j]? = some (if good W k s k.routes[j] then some (beh s k.routes[j]).1 else none) := by
          unfold answersOf
          rw [List.getElem?_map, hr'] <;> rfl
        have fin : ∀ (z : V) (hz : IsA H2 z (if good W k s k.routes[j] then some (beh s k.routes[j]).1 else none)), ∃ ps' o4 o5 o6, [some (V.ref x), some v, some (.int (i : Nat)), some (.ref l), some (.int (0 + (j : Nat))), some y, some (.bl (good W k s k.routes[j]))] = [some (.ref x), some v, some (.int (i : Nat)), some (.ref l), o4, o5, o6] ∧ Kp H (upd H2 l (.lst (ps ++ [z]))) ∧ (upd H2 l (.lst (ps ++ [z]))) l = some (.lst ps') ∧ Paired (IsA (upd H2 l (.lst (ps ++ [z])))) ps' ((answersOf W k s).take (j + 1)) := fun z hz => by
          have kk : KT H2 (upd H2 l (.lst (ps ++ [z]))) := fun d xs e => by rw [upd_ne (ne_of e hl2 (by intro z; cases z))]; exact e
          refine ⟨_, _, _, _, rfl, (k1.trans k2).put nl hl2, upd_same, ?_⟩
          rw [take_snoc ea]
          exact pr_snoc (Paired.mapP pr fun _ _ q => (q.keep k2.kt).keep kk) (hz.keep kk)
        have sz : ps.length < sizeLine := by
          rw [lp, List.length_take, sizeLine_eq]
          omega
        refine ⟨_, rfl, .inl ⟨rfl, _, SqL.of hl2⟩, _, rfl, _, rfl, ?_⟩
        cases eg : good W k s k.routes[j] with
        | true =>
          rw [eg] at fin
          exact iteT ⟨_, rfl, l, ps, _, rfl, rfl, hl2, sz, fin _ iy⟩
        | false =>
          rw [eg] at fin
          exact iteF ⟨l, ps, _, rfl, rfl, hl2, sz, fin _ rfl⟩
    · rintro σ H1 ⟨ps, o4, o5, o6, rfl, k1, hl, pr⟩
      have e : ((rs.length : Nat) : Int).toNat = (answersOf W k s).length := by
        unfold answersOf
        rw [List.length_map]
        omega
      rw [e, List.take_length] at pr
      exact ⟨_, rfl, q _ l ps k1 nl hl pr⟩
end
end Dw

/-! part DwM -/
set_option Elab.async false
set_option linter.all false
set_option maxRecDepth 100000
set_option maxHeartbeats 4000000
/-! Game: reckon -/
namespace Dw
open PySem PySem.Spec PyProof.Rows L2 GenW
def IsAL (H : Hp) (v : V) (as : List (Option Stand)) : Prop := ∃ l ps, v = .ref l ∧ H l = some (.lst ps) ∧ Paired (IsA H) ps as
theorem IsAL.keep {H H' : Hp} {v : V} {as : List (Option Stand)} (h : IsAL H v as) (k : Kp H H') : IsAL H' v as := by
  obtain ⟨l, ps, e, hl, pr⟩ := h
  exact ⟨l, ps, e, k.lst hl, Paired.mapP pr fun _ _ q => q.keep k.kt⟩
theorem beat_of (W : Works) (k : Kind) (s : Stand) (f : Stand → Option V) : beat f (answersOf W k s) = k.routes.all fun r => !good W k s r || (f (beh s r).1).isSome := by
  unfold beat answersOf
  rw [List.all_map]
  congr 1
  funext r
  show (match (if good W k s r then some (beh s r).1 else none : Option Stand) with
    | none => true
    | some t => (f t).isSome) = _
  cases good W k s r <;> simp
/-- the ways of a stand -/
def WayOk (W : Works) (H : Hp) (g : Stand → Option V) (s : Stand) : Prop := ∃ la pa, g s = some (.ref la) ∧ H la = some (.lst pa) ∧ Paired (IsAL H) pa (W.kinds.map fun k => answersOf W k s)
theorem WayOk.keep {W : Works} {H H' : Hp} {g : Stand → Option V} {s : Stand} (h : WayOk W H g s) (k : Kp H H') : WayOk W H' g s := by
  obtain ⟨la, pa, e, hl, pr⟩ := h
  exact ⟨la, pa, e, k.lst hl, Paired.mapP pr fun _ _ q => q.keep k⟩
def iV (n : Nat) : V := .int (n : Nat)
def spReckon (P : Program) (w : World) (C TB TR : Addr) : Sp := fun vs H Q _ => ∃ x dx fs ls dw ps FS g n W, vs = [.ref x] ∧ H x = some (.ins C dx fs) ∧ fs.lookup ("stands" : Str) = some (.ref ls) ∧ fs.lookup ("ways" : Str) = some (.ref dw) ∧ fs.lookup ("beaten" : Str) = none ∧
  H ls = some (.lst ps) ∧ Paired (IsS H) ps FS ∧ FS.Nodup ∧ FS.length ≤ 80 ∧ DS P w H dw g n ∧ (∀ s ∈ FS, WayOk W H g s) ∧ (Tb H TB ∧ Tb H TR) ∧
  ∀ H' d f n j, Kp H H' → H d = none → DS P w H' d f n → (∀ t, f t = (rk W FS j t).map iV) → rk W FS (j + 1) = rk W FS j → Q (.ref d) H'
/-- those who come in round j + 1 -/
def fre (W : Works) (U : List Stand) (j : Nat) (s : Stand) : Bool := (rk W U j s).isNone && Bt W (fun t => (rk W U j t).isSome) s
theorem rk_fre {W : Works} {U : List Stand} {j : Nat} (t : Stand) : rk W U (j + 1) t = if t ∈ U.filter (fre W U j) then some (j + 1) else rk W U j t := by
  rw [rk_succ]
  cases e : rk W U j t with
  | some n =>
    have hm : ¬ t ∈ U.filter (fre W U j) := by
      rw [List.mem_filter]
      unfold fre
      rw [e]
      simp
    rw [if_neg hm]
  | none =>
    by_cases m : t ∈ U.filter (fre W U j)
    · rw [if_pos m]
      rw [List.mem_filter] at m
      unfold fre at m
      rw [e] at m
      simp at m
      simp [m.1, m.2]
    · rw [if_neg m]
      rw [List.mem_filter] at m
      unfold fre at m
      rw [e] at m
      simp at m
      by_cases h : t ∈ U
      · simp [h, m h]
      · simp [h]
theorem rk_same {W : Works} {U : List Stand} {j : Nat} : rk W U (j + 1) = rk W U j ↔ U.filter (fre W U j) = [] := by
  constructor
  · intro h
    refine List.eq_nil_iff_forall_not_mem.mpr fun t ht => ?_
    have e := rk_fre (W := W) (U := U) (j := j) t
    rw [if_pos ht, h] at e
    have := (List.mem_filter.mp ht).2
    unfold fre at this
    rw [e] at this
    simp at this
  · intro h
    funext t
    rw [rk_fre, h, if_neg (by simp)]
section
variable {P : Program} {w : World} {K : PySem.W.Frag} {mg : Str → Option Value} {base : Heap} {C TR TB : Addr}
abbrev nR : List Str := ["self", "changed", "orders", "fresh", "stand", "found", "answers"]
theorem scR : FnScope nR ["self"] (defScope (gm 2)) := ⟨rfl, rfl, rfl, by decide +kernel, rfl, by decide +kernel, by decide +kernel⟩
theorem m_reckon (G : GmAt K mg base C TR TB) (N : Nm mg) (B : BltB base mg) (Mb : Mf P w K mg base C "beaten" 2 ["self", "answers", "found"] (spBeaten P w TB)) : Mf P w K mg base C "reckon" 4 ["self"] (spReckon P w C TB TR) := by
  obtain ⟨f, fd, c, F, M, hcode⟩ := G.rek
  refine ⟨f, fd, F.okC scR (fun vs H Q E h => ?_) (fun A outer sh H vs Q E hr h => ?_), M, F.fn.binds (fun _ _ _ _ _ _ us hl => match us, hl with | [_], _ => rfl)⟩
  · obtain ⟨x, dx, fs, ls, dw, ps, FS, g, n, W, rfl, _⟩ := h
    rfl
  · obtain ⟨x, dx, fs, ls, dw, ps, FS, g, n, W, rfl, hx, f1, f2, f3, hls, pr, nd, l80, Dw, ways, tb, q⟩ := h
    have hU : (A.deeper (envOfC "Game.reckon" (defScope (gm 2)) sh.heap.objs.size f (.ref c))).units + 64 < cLine := hr.units
    refine ⟨_, pss_cons (ps_asg (pe_tup (pa_cons pe_dsnew (pa_cons pe_bl (pa_cons pe_int pa_nil)))) (pg_tup rfl (pgs_cons (pg_name (i := 5) scR.nd rfl (Or.inr rfl)) (pgs_cons (pg_name (i := 1) scR.nd rfl (Or.inl rfl)) (pgs_cons (pg_name (i := 2) scR.nd rfl (Or.inl rfl)) pgs_nil)))))
      (pss_cons (ps_while PassesOwn.never (pt_val (pv 1))
        (pss_cons (ps_par (i := 1) (j := 2) rfl scR.nd rfl rfl (by decide) rfl rfl (pa_cons pe_bl (pa_cons (pe_op op_add (pv 2) pe_int) pa_nil)) (by rfl))
        (pss_cons (ps_set (i := 3) scR.nd rfl (Or.inl rfl) (pe_lst pa_nil))
        (pss_cons (ps_for PassesOwn.never rfl (pi_list (pe_fld (pv 0) rfl)) (pg_name (i := 4) scR.nd rfl (Or.inl rfl))
          (pss_one (ps_if (pw_and (pt_cmpR (op_notInDS hU) (pv 4) (pv 5) (by with_unfolding_all rfl)) (pw_and1 (pt_val
              (pe_anyG (own := [("answers", 6)]) (g := gName 6) rfl scR.nd hr B (by rfl) N.any (pi_list (pe_dsget hU (pe_fld (pv 0) rfl) (pv 4) (fun _ _ => rfl))) (blkOk_by (N := nR) (sc := defScope (gm 2)) (by decide +kernel))
                (fun _ _ _ _ _ _ _ _ => pg_name (i := 6) scR.nd rfl (Or.inl rfl))
                (fun _ _ _ _ _ _ _ _ hr1 => pe_mf Mb G.cl hr1 (pv 0) (pa_cons (pv 6) (pa_cons (pv 5) pa_nil))))))).pt
            (pss_one (ps_expr (pe_bm PySem.F.plainAttrs_list PySem.F.slot_list_append PySem.F.type_list_append mt_append (pv 3) (pa_cons (pv 4) pa_nil)))) pss_nil)))
        (pss_one (ps_for PassesOwn.never rfl (pi_list (pv 3)) (pg_name (i := 4) scR.nd rfl (Or.inl rfl))
          (pss_cons (ps_dsput hU (pv 5) (pv 4) (pv 2))
          (pss_one (ps_set (i := 1) scR.nd rfl (Or.inl rfl) pe_bl)))))))))
      (pss_one (ps_ret (pv 5)))), ?_⟩
    intro d H1 nd0 e1 D1
    have k1 : Kp H H1 := (Kp.refl H).but e1 nd0 (.free nd0) (by obtain ⟨xs, h1, _⟩ := id D1.ex; rw [h1]; intro z; cases z)
    refine ⟨by show 3 ≤ sizeLine; decide, fun t nt => ⟨t, _, rfl, SqT.of upd_same, rfl, _, _, rfl, _, _, rfl, _, _, rfl, rfl, ?_⟩⟩
    have k2 := k1.add (o := .tup [.ref d, .bl true, .int 0]) nt
    have D2 := ((Kp.refl H1).add (o := .tup [.ref d, .bl true, .int 0]) nt).ds D1
    refine ⟨fun m σ H' => ∃ (j : Nat) (ch : Bool) (f : Stand → Option V) (n : Nat) (o3 o4 : Option V), m = (if ch = true then 1 + (FS.length + 1 - j) else 0) ∧ σ = [some (.ref x), some (.bl ch), some (iV j), o3, o4, some (.ref d), none] ∧ Kp H H' ∧ DS P w H' d f n ∧ (∀ t, f t = (rk W FS j t).map iV) ∧ n ≤ j * 80 ∧
      (ch = true → ∀ i, i < j → rk W FS (i + 1) ≠ rk W FS i) ∧ (ch = false → ∃ i, j = i + 1 ∧ rk W FS (i + 1) = rk W FS i), ⟨_, 0, true, _, _, none, none, rfl, rfl, k2, D2, fun t => rfl, Nat.le_refl _, fun _ i hi => absurd hi (Nat.not_lt_zero i), fun z => nomatch z⟩, ?_⟩
    rintro m σ H1 ⟨j, ch, f, n, o3, o4, rfl, rfl, k1, D1, hf, hn, c1, c2⟩
    refine ⟨_, rfl, ch, rfl, ?_⟩
    cases ch with
    | false =>
      refine iteF ⟨_, rfl, ?_⟩
      obtain ⟨i, rfl, e⟩ := c2 rfl
      exact q H1 d f n i k1 nd0 D1 (by rw [e] at hf; exact hf) e
    | true =>
      have jl : j ≤ FS.length := by
        have all : ∀ i, i ≤ j → i ≤ cnt W FS i := fun i => by
          induction i with
          | zero => exact fun _ => Nat.zero_le _
          | succ i ih =>
            intro h
            have h1 := ih (by omega)
            have h2 := rk_step (c1 rfl i (by omega))
            omega
        have h1 := all j (Nat.le_refl _)
        have h2 : cnt W FS j ≤ FS.length := List.countP_le_length
        omega
      refine iteT ⟨fun σ' H' => ∃ (ch : Bool) (f : Stand → Option V) (n : Nat) (o3 o4 : Option V), σ' = [some (.ref x), some (.bl ch), some (iV (j + 1)), o3, o4, some (.ref d), none] ∧ Kp H H' ∧ DS P w H' d f n ∧ (∀ t, f t = (rk W FS (j + 1) t).map iV) ∧ n ≤ (j + 1) * 80 ∧ (ch = true ↔ rk W FS (j + 1) ≠ rk W FS j), ?_, ?_⟩
      · rintro σ' H' ⟨ch, f', n', p3, p4, e, k, D, h, hn', hc⟩
        refine ⟨_, ?_, j + 1, ch, f', n', p3, p4, rfl, e, k, D, h, hn', fun z i hi => ?_, fun z => ⟨j, rfl, ?_⟩⟩
        · cases ch with
          | false => simp; omega
          | true => simp; omega
        · by_cases ei : i = j
          · rw [ei]; exact hc.mp z
          · exact c1 rfl i (by omega)
        · refine Classical.byContradiction fun ne => ?_
          rw [hc.mpr ne] at z
          cases z
      · refine ⟨_, rfl, _, _, rfl, rfl, _, _, rfl, ?_⟩
        refine ⟨by show 0 ≤ sizeLine; decide, fun L nL => ?_⟩
        have nL0 : H L = none := k1.nn L nL
        have kL := (Kp.refl H1).add (o := .lst []) nL
        have k1L := k1.trans kL
        have hls1 := k1L.lst hls
        refine ⟨_, rfl, x, C, dx, fs, .ref ls, rfl, k1L.ins hx, G.cl, G.nS, f1, ls, rfl, ⟨_, SqL.of hls1⟩, ?_⟩
        have lps := Paired.length pr
        refine for_wlk wl_list (fun a σ H' => ∃ fl o4, σ = [some (.ref x), some (.bl false), some (iV (j + 1)), some (.ref L), o4, some (.ref d), none] ∧ Kp H H' ∧ DS P w H' d f n ∧ H' L = some (.lst fl) ∧ Paired (IsS H') fl ((FS.take a).filter (fre W FS j)))
          ⟨[], o4, rfl, k1L, kL.ds D1, upd_same, .nil⟩ (fun a σ H' _ ⟨_, _, _, k, _⟩ => SqL.of (k.lst hls)) ?_ ?_
        · rintro a y σ H2 H2' ha ⟨fl, o4, rfl, k2, D2, hL, prL⟩ ⟨rfl, hy⟩
          obtain ⟨s, hs, is⟩ := pr_get pr hy
          have sm := mem_at hs
          have lF := Paired.length prL
          have lFl := filter_len (f := fre W FS j) (xs := FS) a
          have al := (List.getElem?_eq_some_iff.mp hs).1
          refine ⟨_, rfl, _, rfl, s, d, f, n, is.keep k2.kt, rfl, D2, _, rfl, ?_⟩
          cases e : rk W FS j s with
          | some r =>
            refine iteF' (by rw [hf, e] <;> rfl) (iteF ⟨fl, _, rfl, k2, D2, hL, ?_⟩)
            rw [filter_snoc hs, if_neg (by unfold fre; rw [e]; simp), List.append_nil]
            exact prL
          | none =>
            refine iteT' (by rw [hf, e] <;> rfl) ?_
            obtain ⟨la, pa, hla, hpa, pra⟩ := (ways s sm).keep k2
            refine ⟨_, rfl, x, C, dx, fs, .ref dw, rfl, k2.ins hx, G.cl, G.nY, f2, _, rfl, s, dw, g, _, .ref la, rfl, is.keep k2.kt, k2.ds Dw, hla, la, rfl, ⟨_, SqL.of hpa⟩, c, TR, rfl, .inl hcode, k2.tg _ tb.2.tabG, fun code H3 gr => ?_⟩
            have k23 := gr.kp (k2.tg _ tb.2.tabG)
            have an := anyR (xs := W.kinds) (f := fun k => beat f (answersOf W k s)) nth_at
            have lpa := Paired.length pra
            rw [List.length_map] at lpa
            rw [← lpa] at an
            have eb : (W.kinds.any fun k => beat f (answersOf W k s)) = Bt W (fun t => (rk W FS j t).isSome) s := by
              unfold Bt
              congr 1
              funext k
              rw [beat_of]
              congr 1
              funext r
              rw [hf, Option.isSome_map]
            refine aa_wlk (stp := true) wl_list (fun _ H' => Kp H2' H') (nth W.kinds fun k => beat f (answersOf W k s)) (W.kinds.any fun k => beat f (answersOf W k s)) k23 (fun i H' k => SqL.of (k.lst hpa)) ?_ an.1 an.2 fun i H4 k4 => ⟨_, rfl, ?_⟩
            · rintro i H4 z H4' G' hi k4 ⟨rfl, hz⟩ fin
              obtain ⟨as, has, ia⟩ := pr_get pra hz
              obtain ⟨kd, hk, rfl⟩ := map_get has
              obtain ⟨lb, pb, rfl, hlb, prb⟩ := ia.keep k4
              refine ⟨rfl, _, rfl, x, dx, fs, rfl, (k2.trans k4).ins hx, f3, _, rfl, _, rfl, .ref x, lb, d, pb, _, f, n, rfl, hlb, prb, k4.ds D2, (k2.trans k4).tb _ tb.1, fun H5 k5 => ?_⟩
              have z := fin _ (k4.trans k5)
              rw [nth_at i kd hk] at z
              exact z
            · have k24 := k2.trans k4
              have hL4 := k4.lst hL
              cases eB : W.kinds.any fun k => beat f (answersOf W k s) with
              | false =>
                refine iteF ⟨fl, _, rfl, k24, k4.ds D2, hL4, ?_⟩
                rw [filter_snoc hs, if_neg (by unfold fre; rw [e, ← eb, eB]; simp), List.append_nil]
                exact Paired.mapP prL fun _ _ q => q.keep k4.kt
              | true =>
                refine iteT ⟨_, rfl, .inl ⟨rfl, _, SqL.of hL4⟩, _, rfl, L, fl, _, rfl, rfl, hL4, by rw [lF, sizeLine_eq]; omega, ?_⟩
                have kk : KT H4 (upd H4 L (.lst (fl ++ [y]))) := fun d xs e => by rw [upd_ne (ne_of e hL4 (by intro z; cases z))]; exact e
                have D4 := k4.ds D2
                have ndL : d ≠ L := fun z => by
                  obtain ⟨xs, h1, _⟩ := id D4.ex
                  rw [z, hL4] at h1
                  cases h1
                refine ⟨fl ++ [y], _, rfl, k24.put nL0 hL4, D4.keep kk fun o h => by rw [upd_ne ndL]; exact h, upd_same, ?_⟩
                rw [filter_snoc hs, if_pos (by unfold fre; rw [e, ← eb, eB]; rfl)]
                exact pr_snoc (Paired.mapP prL fun _ _ q => (q.keep k4.kt).keep kk) ((is.keep k24.kt).keep kk)
        · rintro σ H2 ⟨fl, o4, rfl, k2, D2, hL, prL⟩
          rw [lps, List.take_length] at prL
          have lF := Paired.length prL
          have lFl := List.length_filter_le (fre W FS j) FS
          refine ⟨_, rfl, L, rfl, ⟨_, SqL.of hL⟩, ?_⟩
          refine for_wlk wl_list (fun b σ H' => ∃ f' n' o4, σ = [some (.ref x), some (.bl (decide (0 < b))), some (iV (j + 1)), some (.ref L), o4, some (.ref d), none] ∧ Kp H H' ∧ KT H2 H' ∧ DS P w H' d f' n' ∧ n' ≤ n + b ∧ H' L = some (.lst fl) ∧
              ∀ t, f' t = if t ∈ (FS.filter (fre W FS j)).take b then some (iV (j + 1)) else f t)
            ⟨f, n, o4, rfl, k2, .refl _, D2, Nat.le_refl _, hL, fun t => by rw [if_neg (by simp)]⟩ (fun b σ H' _ ⟨_, _, _, _, _, _, _, _, h, _⟩ => SqL.of h) ?_ ?_
          · rintro b y σ H3 H3' hb ⟨f', n', o4, rfl, k3, kt3, D3, hn3, hL3, hf'⟩ ⟨rfl, hy⟩
            obtain ⟨s, hs, is⟩ := pr_get prL hy
            refine ⟨_, rfl, _, rfl, _, rfl, s, d, f', n', rfl, is.keep kt3, D3, by rw [sizeLine_eq]; omega, fun H4 e4 D4 => ?_⟩
            have ndL : L ≠ d := fun z => by
              obtain ⟨xs, h1, _⟩ := id D3.ex
              rw [← z, hL3] at h1
              cases h1
            have kt34 : KT H3' H4 := fun c xs e => by
              obtain ⟨zs, z1, _⟩ := id D3.ex
              rw [e4 c (ne_of e z1 (by intro z; cases z))]
              exact e
            refine ⟨_, _, _, rfl, k3.dsput nd0 D3 e4 D4, kt3.trans kt34, D4, by omega, by rw [e4 L ndL]; exact hL3, fun t => ?_⟩
            show (if t = s then some (iV (j + 1)) else f' t) = _
            rw [take_snoc hs, hf']
            by_cases e1 : t = s
            · rw [if_pos e1, if_pos (by rw [e1]; simp)]
            · rw [if_neg e1]
              by_cases e2 : t ∈ (FS.filter (fre W FS j)).take b
              · rw [if_pos e2, if_pos (List.mem_append_left _ e2)]
              · rw [if_neg e2, if_neg fun z => (List.mem_append.mp z).elim e2 fun z => e1 (List.mem_singleton.mp z)]
          · rintro σ H3 ⟨f', n', o4, rfl, k3, kt3, D3, hn3, hL3, hf'⟩
            refine ⟨_, f', n', _, _, rfl, k3, D3, fun t => ?_, by rw [Nat.succ_mul]; omega, ?_⟩
            · rw [hf', lF, List.take_length, rk_fre]
              by_cases e : t ∈ FS.filter (fre W FS j)
              · rw [if_pos e, if_pos e] <;> rfl
              · rw [if_neg e, if_neg e, hf]
            · rw [decide_eq_true_iff, lF]
              constructor
              · intro h z
                rw [rk_same] at z
                rw [z] at h
                exact absurd h (Nat.lt_irrefl 0)
              · intro h
                refine List.length_pos_iff.mpr fun z => h (rk_same.mpr z)
end
end Dw

/-! part DwN -/
set_option Elab.async false
set_option linter.all false
set_option maxRecDepth 100000
set_option maxHeartbeats 4000000
/-! Game: __init__; orders_from_clean -/
namespace Dw
open PySem PySem.Spec PyProof.Rows L2 GenW
abbrev fl1 (u : V) : List (Str × V) := putF "works" u []
abbrev fl2 (u a : V) : List (Str × V) := putF "stands" a (fl1 u)
abbrev fl3 (u a b : V) : List (Str × V) := putF "ways" b (fl2 u a)
abbrev fl4 (u a b c : V) : List (Str × V) := putF "within" c (fl3 u a b)
abbrev fl5 (u a b c d : V) : List (Str × V) := putF "sizes" d (fl4 u a b c)
theorem lk_same (f : Str) (v : V) (fs : List (Str × V)) : (putF f v fs).lookup f = some v := by rw [lookup_putF, if_pos rfl]
theorem lk_ne {f g : Str} (v : V) (fs : List (Str × V)) (h : ¬ g = f) : (putF f v fs).lookup g = fs.lookup g := by rw [lookup_putF, if_neg h]
theorem lk3_works (u a b : V) : (fl3 u a b).lookup ("works" : Str) = some u := by rw [lk_ne _ _ (by decide +kernel), lk_ne _ _ (by decide +kernel), lk_same]
theorem lk2_stands (u a : V) : (fl2 u a).lookup ("stands" : Str) = some a := lk_same _ _ _
theorem lk3_stands (u a b : V) : (fl3 u a b).lookup ("stands" : Str) = some a := by rw [lk_ne _ _ (by decide +kernel), lk_same]
theorem lk3_ways (u a b : V) : (fl3 u a b).lookup ("ways" : Str) = some b := lk_same _ _ _
theorem lk3_no {m : Str} (u a b : V) (h1 : ¬ m = "ways") (h2 : ¬ m = "stands") (h3 : ¬ m = "works") : (fl3 u a b).lookup m = none := by rw [lk_ne _ _ h1, lk_ne _ _ h2, lk_ne _ _ h3] <;> rfl
theorem lk5_within (u a b c d : V) : (fl5 u a b c d).lookup ("within" : Str) = some c := by rw [lk_ne _ _ (by decide +kernel), lk_same]
theorem len_put {f : Str} {v : V} {fs : List (Str × V)} {n : Nat} (h : fs.length ≤ n) : (putF f v fs).length ≤ n + 1 := Nat.le_trans (length_putF f v fs) (Nat.succ_le_succ h)
theorem sz1 (u : V) : (fl1 u).length < 1000 := Nat.lt_of_le_of_lt (len_put (n := 0) (Nat.le_refl _)) (by decide)
theorem sz2 (u a : V) : (fl2 u a).length < 1000 := Nat.lt_of_le_of_lt (len_put (len_put (n := 0) (Nat.le_refl _))) (by decide)
theorem sz3 (u a b : V) : (fl3 u a b).length < 1000 := Nat.lt_of_le_of_lt (len_put (len_put (len_put (n := 0) (Nat.le_refl _)))) (by decide)
theorem sz4 (u a b c : V) : (fl4 u a b c).length < 1000 := Nat.lt_of_le_of_lt (len_put (len_put (len_put (len_put (n := 0) (Nat.le_refl _))))) (by decide)
/-- the stands of small works: U -/
structure UOk (W : Works) (U : List Stand) : Prop where
  vats : W.vats ∈ U
  cld : Cld W (· ∈ U)
  most : U.length ≤ 80
  all : ∀ C : Stand → Prop, C W.vats → Cld W C → ∀ s ∈ U, C s
theorem UOk.sw {W : Works} {U : List Stand} (h : UOk W U) (ok : WOk W) : ∀ s ∈ U, SW W s := h.all (SW W) ⟨ok.vsok, rfl⟩ fun s hs k hk r hr => by
  obtain ⟨a, _, b⟩ := beh_ok hs.1 r
  exact ⟨a, b.trans hs.2⟩
def spGInit (P : Program) (w : World) (C TB TR T1 T2 : Addr) : Sp := fun vs H Q _ => ∃ H0 x dx u W U, vs = [.ref x, u] ∧ H x = some (.ins C dx []) ∧ H0 x = none ∧ Kp H0 H ∧ IsW H0 u W ∧ WOk W ∧ UOk W U ∧ (Tb H0 TB ∧ Tb H0 TR ∧ Tb H0 T1 ∧ Tb H0 T2) ∧
  ∀ H' fs d f n, Kp H0 H' → H' x = some (.ins C dx fs) → fs.lookup ("within" : Str) = some (.ref d) → DS P w H' d f n → (∀ t, f t = (rkE W U t).map iV) → Q .non H'
/-- the lists stay -/
def KL (H H' : Hp) : Prop := ∀ b xs, H b = some (.lst xs) → H' b = some (.lst xs)
theorem KL.trans {H H1 H2 : Hp} (a : KL H H1) (b : KL H1 H2) : KL H H2 := fun c xs h => b c xs (a c xs h)
theorem Kp.kl {H H' : Hp} (k : Kp H H') : KL H H' := fun b xs h => k.lst h
theorem IsAL.keepL {H H' : Hp} {v : V} {as : List (Option Stand)} (h : IsAL H v as) (kl : KL H H') (kt : KT H H') : IsAL H' v as := by
  obtain ⟨l, ps, e, hl, pr⟩ := h
  exact ⟨l, ps, e, kl _ _ hl, Paired.mapP pr fun _ _ q => q.keep kt⟩
theorem WayOk.keepL {W : Works} {H H' : Hp} {g : Stand → Option V} {s : Stand} (h : WayOk W H g s) (kl : KL H H') (kt : KT H H') : WayOk W H' g s := by
  obtain ⟨la, pa, e, hl, pr⟩ := h
  exact ⟨la, pa, e, kl _ _ hl, Paired.mapP pr fun _ _ q => q.keepL kl kt⟩
/-- a store into an instance -/
theorem ins_kl {H : Hp} {x C d : Addr} {fs gs} (h : H x = some (.ins C d fs)) : KL H (upd H x (.ins C d gs)) := fun b xs e => by rw [upd_ne (ne_of e h (by intro z; cases z))]; exact e
theorem ins_kt {H : Hp} {x C d : Addr} {fs gs} (h : H x = some (.ins C d fs)) : KT H (upd H x (.ins C d gs)) := fun b xs e => by rw [upd_ne (ne_of e h (by intro z; cases z))]; exact e
theorem Kp.fld {H0 H : Hp} {x C d : Addr} {fs gs} (k : Kp H0 H) (n : H0 x = none) (h : H x = some (.ins C d fs)) : Kp H0 (upd H x (.ins C d gs)) :=
  k.but (fun b hb => upd_ne hb) n (.ins h) (by rw [upd_same]; intro z; cases z)
section
variable {P : Program} {w : World} {K : PySem.W.Frag} {mg : Str → Option Value} {base : Heap} {C TR TB T1 T2 : Addr}
abbrev nI : List Str := ["self", "works", "stand", "kind"]
theorem scI : FnScope nI ["self", "works"] (defScope (gm 0)) := ⟨rfl, rfl, rfl, by decide +kernel, rfl, by decide +kernel, by decide +kernel⟩
theorem m_init (G : GmAt K mg base C TR TB) (N : Nm mg) (Da : Df P w K mg base "all_stands" 3 ["works"] spAll) (Ma : Mf P w K mg base C "answers" 5 ["self", "stand", "kind"] (spAns C T1 T2)) (Mr : Mf P w K mg base C "reckon" 4 ["self"] (spReckon P w C TB TR)) :
    ∃ f fd, FnOk P w K mg base CX0 6 f fd ["self", "works"] (spGInit P w C TB TR T1 T2) ∧ Mk K C f ∧ Binds K fd ["self", "works"] [] := by
  obtain ⟨f, fd, F, M⟩ := G.init
  refine ⟨f, fd, F.ok scI (fun vs H Q E h => ?_) (fun cdv A outer sh H vs Q E hr h => ?_), M, F.binds (fun _ _ _ _ _ _ us hl => match us, hl with | [_, _], _ => rfl)⟩
  · obtain ⟨H0, x, dx, u, W, U, rfl, _⟩ := h
    rfl
  · obtain ⟨H0, x, dx, u, W, U, rfl, hx, nx, k0, hu, ok, uk, tb, q⟩ := h
    have hU : (A.deeper (envOfC "Game.__init__" (defScope (gm 0)) sh.heap.objs.size f cdv)).units + 64 < cLine := hr.units
    have hr3 : Room 3 _ := hr.mono (by decide)
    have hr4 : Room 4 _ := hr.mono (by decide)
    refine ⟨_, pss_cons (ps_fld (pv 0) (pv 1) rfl)
      (pss_cons (ps_fld (pv 0) (pe_df Da hr3 (by rfl) (pa_cons (pv 1) pa_nil)) rfl)
      (pss_cons (ps_fld (pv 0) pe_dsnew rfl)
      (pss_cons (ps_for PassesOwn.never rfl (pi_list (pe_fld (pv 0) rfl)) (pg_name (i := 2) scI.nd rfl (Or.inr rfl))
        (pss_one (ps_dsput hU (pe_fld (pv 0) rfl) (pv 2) (pe_lc (own := [("kind", 3)]) (g := gName 3) (tt := tYes) rfl scI.nd (pi_range1 (by rfl) N.range (pa_cons (pe_len N.len (pe_ix ix_tup (pv 1) pe_int (fun _ _ => rfl))) pa_nil))
          (blkOk_by (N := nI) (sc := defScope (gm 0)) (by decide +kernel)) (fun _ _ _ _ _ => pg_name (i := 3) scI.nd rfl (Or.inl rfl)) (fun _ _ _ _ _ => pts_nil) (fun _ _ _ _ _ => pe_mf Ma G.cl hr (pv 0) (pa_cons (pv 2) (pa_cons (pv 3) pa_nil)))))))
      (pss_cons (ps_fld (pv 0) (pe_mf0 Mr G.cl hr4 (pv 0)) rfl)
      (pss_one (ps_fld (pv 0) pe_dsnew rfl)))))), ?_⟩
    have up := fun {H : Hp} (k : Kp H0 H) => hu.keep k.kt
    -- works
    refine ⟨_, rfl, _, rfl, x, C, dx, [], rfl, hx, G.cl, G.nW, by decide, ?_⟩
    have k1 := k0.fld (gs := fl1 u) nx hx
    -- stands
    refine ⟨_, rfl, u, W, U, rfl, up k1, ok, uk.vats, uk.cld, uk.sw ok, by have := uk.most; omega, fun H2 ls ps FS k12 hls pr nd vm cl sub lU => ?_⟩
    have k2 := k1.trans k12
    have hx2 := k12.ins (upd_same (H := H) (a := x) (o := .ins C dx (fl1 u)))
    refine ⟨_, rfl, x, C, dx, _, rfl, hx2, G.cl, G.nS, sz1 _, ?_⟩
    have k3 := k2.fld (gs := fl2 u (.ref ls)) nx hx2
    have hls3 := ins_kl (gs := fl2 u (.ref ls)) hx2 _ _ hls
    have pr3 : Paired (IsS (upd H2 x (.ins C dx (fl2 u (.ref ls))))) ps FS := Paired.mapP pr fun _ _ q => q.keep (ins_kt hx2)
    -- ways
    intro dw H4 nw e4 D4
    have k34 : Kp (upd H2 x (.ins C dx (fl2 u (.ref ls)))) H4 := (Kp.refl _).but e4 nw (.free nw) (by obtain ⟨xs, h1, _⟩ := id D4.ex; rw [h1]; intro z; cases z)
    have hx4 := k34.ins (upd_same (H := H2) (a := x) (o := .ins C dx (fl2 u (.ref ls))))
    refine ⟨_, rfl, x, C, dx, _, rfl, hx4, G.cl, G.nY, sz2 _ _, ?_⟩
    have k4 := k3.trans k34
    have k5 := k4.fld (gs := fl3 u (.ref ls) (.ref dw)) nx hx4
    have hls5 := ins_kl (gs := fl3 u (.ref ls) (.ref dw)) hx4 _ _ (k34.lst hls3)
    have pr5 : Paired (IsS (upd H4 x (.ins C dx (fl3 u (.ref ls) (.ref dw))))) ps FS := Paired.mapP pr3 fun _ _ q => q.keep (k34.kt.trans (ins_kt hx4))
    have ndw : H0 dw = none := k3.nn dw nw
    have nxdw : dw ≠ x := fun z => by rw [z, upd_same] at nw; cases nw
    have D5 : DS P w (upd H4 x (.ins C dx (fl3 u (.ref ls) (.ref dw)))) dw (fun _ => none) 0 := D4.keep (ins_kt hx4) fun o h => by rw [upd_ne nxdw]; exact h
    have hx5 : (upd H4 x (.ins C dx (fl3 u (.ref ls) (.ref dw)))) x = some (.ins C dx (fl3 u (.ref ls) (.ref dw))) := upd_same
    generalize upd H4 x (.ins C dx (fl3 u (.ref ls) (.ref dw))) = H5 at k5 hls5 pr5 D5 hx5 ⊢
    have lps := Paired.length pr
    have um := uk.most
    have nls : H0 ls = none ∨ True := .inr trivial
    refine ⟨_, rfl, x, C, dx, _, .ref ls, rfl, hx5, G.cl, G.nS, lk3_stands _ _ _, ls, rfl, ⟨_, SqL.of hls5⟩, ?_⟩
    refine for_wlk wl_list (fun a σ H' => ∃ (g : Stand → Option V) (n : Nat) (o2 : Option V), σ = [some (.ref x), some u, o2, none] ∧ Kp H0 H' ∧ KL H5 H' ∧ KT H5 H' ∧ H' x = some (.ins C dx (fl3 u (.ref ls) (.ref dw))) ∧ DS P w H' dw g n ∧ n ≤ a ∧ ∀ s ∈ FS.take a, WayOk W H' g s)
      ⟨_, _, none, rfl, k5, fun _ _ h => h, .refl _, hx5, D5, Nat.le_refl _, fun s hs => nomatch hs⟩ (fun a σ H' _ ⟨_, _, _, _, _, kl, _⟩ => SqL.of (kl _ _ hls5)) ?_ ?_
    · rintro a y σ H6 H6' ha ⟨g, n, o2, rfl, k6, kl6, kt6, hx6, D6, n6, ways⟩ ⟨rfl, hy⟩
      obtain ⟨s, hs, is⟩ := pr_get pr5 hy
      have al := (List.getElem?_eq_some_iff.mp hs).1
      have hu6 := up k6
      obtain ⟨wa, wy, b, ks, rfl, hwa, hwy, hb, pk⟩ := id hu6
      have lk := Paired.length pk
      have kf := ok.kfew
      refine ⟨_, rfl, wa, _, _, _, rfl, rfl, SqT.of hwa, atI_nat (j := 2) rfl, b, _, rfl, .inr (SqT.of hb), _, rfl, by omega, by omega, fun D hD => ?_⟩
      refine gw wl_rng (fun m H' => Kp H6' H' ∧ ∃ acc, H' D = some (.lst acc) ∧ Paired (fun v as => IsAL H' v as ∧ v ≠ .ref D) acc ((W.kinds.map fun k => answersOf W k s).take m)) ⟨(Kp.refl H6').add hD, [], upd_same, .nil⟩ (fun _ _ _ _ => trivial) ?_ ?_
      · rintro m z H7 H7' hm ⟨k7, acc, hacc, pra⟩ ⟨rfl, rfl⟩
        have ml : m < W.kinds.length := by omega
        have hk : W.kinds[m]? = some W.kinds[m] := List.getElem?_eq_getElem ml
        refine ⟨rfl, _, rfl, x, dx, _, rfl, k7.ins hx6, lk3_no _ _ _ (by decide +kernel) (by decide +kernel) (by decide +kernel), _, rfl, _, rfl, x, dx, _, .ref wa, y, m, W, _, s, by rw [Int.zero_add] <;> rfl, k7.ins hx6, lk3_works _ _ _, up (k6.trans k7), ok, is.keep (kt6.trans k7.kt), uk.sw ok s (sub s (mem_at hs)), hk, ⟨(k6.trans k7).tb _ tb.2.2.1, (k6.trans k7).tb _ tb.2.2.2⟩, fun H8 l pl k8 nl hl prl => ?_⟩
        have hD8 := k8.lst hacc
        have lnD : l ≠ D := fun z => by rw [z, hacc] at nl; cases nl
        refine ⟨acc, hD8, ?_, ?_⟩
        · rw [Paired.length pra, List.length_take, sizeLine_eq]
          omega
        · have kk : KT H8 (upd H8 D (.lst (acc ++ [.ref l]))) := fun d xs e => by rw [upd_ne (ne_of e hD8 (by intro z; cases z))]; exact e
          have mv : ∀ {v as}, IsAL H7' v as → v ≠ .ref D → IsAL (upd H8 D (.lst (acc ++ [.ref l]))) v as := fun {v as} ⟨l2, p2, e2, h2, q2⟩ ne =>
            ⟨l2, p2, e2, by rw [upd_ne (fun z => ne (by rw [e2, z]))]; exact k8.lst h2, Paired.mapP q2 fun _ _ q => (q.keep k8.kt).keep kk⟩
          have ea : (W.kinds.map fun k => answersOf W k s)[m]? = some (answersOf W W.kinds[m] s) := by rw [List.getElem?_map, hk] <;> rfl
          refine ⟨(k7.trans k8).put hD hD8, acc ++ [.ref l], upd_same, ?_⟩
          rw [take_snoc ea]
          exact pr_snoc (Paired.mapP pra fun _ _ q => ⟨mv q.1 q.2, q.2⟩) ⟨⟨l, pl, rfl, by rw [upd_ne lnD]; exact hl, Paired.mapP prl fun _ _ q => q.keep kk⟩, fun z => lnD (V.ref.inj z)⟩
      · rintro H7 ⟨k7, acc, hacc, pra⟩
        have e : ((ks.length : Nat) : Int).toNat = (W.kinds.map fun k => answersOf W k s).length := by rw [List.length_map]; omega
        rw [e, List.take_length] at pra
        have D7 := k7.ds D6
        refine ⟨_, rfl, x, C, dx, _, .ref dw, rfl, k7.ins hx6, G.cl, G.nY, lk3_ways _ _ _, _, rfl, s, dw, g, n, rfl, is.keep (kt6.trans k7.kt), D7, by rw [sizeLine_eq]; omega, fun H8 e8 D8 => ?_⟩
        obtain ⟨zs, z1, _⟩ := id D7.ex
        have kl78 : KL H7 H8 := fun c xs e => by rw [e8 c (ne_of e z1 (by intro z; cases z))]; exact e
        have kt78 : KT H7 H8 := fun c xs e => by rw [e8 c (ne_of e z1 (by intro z; cases z))]; exact e
        have nxw : x ≠ dw := nxdw.symm
        refine ⟨_, _, _, rfl, (k6.trans k7).dsput ndw D7 e8 D8, (kl6.trans k7.kl).trans kl78, (kt6.trans k7.kt).trans kt78, by rw [e8 x nxw]; exact k7.ins hx6, D8, by omega, fun s' hs' => ?_⟩
        by_cases es : s' = s
        · subst es
          exact ⟨D, acc, if_pos rfl, kl78 _ _ hacc, Paired.mapP pra fun _ _ q => q.1.keepL kl78 kt78⟩
        · rw [take_snoc hs] at hs'
          have old := ways s' ((List.mem_append.mp hs').elim id fun z => absurd (List.mem_singleton.mp z) es)
          obtain ⟨la, pa, h1, h2, h3⟩ := old.keepL (k7.kl.trans kl78) (k7.kt.trans kt78)
          exact ⟨la, pa, (if_neg es).trans h1, h2, h3⟩
    · rintro σ H6 ⟨g, n, o2, rfl, k6, kl6, kt6, hx6, D6, n6, ways⟩
      rw [lps, List.take_length] at ways
      -- within
      refine ⟨_, rfl, x, dx, _, rfl, hx6, lk3_no _ _ _ (by decide +kernel) (by decide +kernel) (by decide +kernel), x, dx, _, ls, dw, ps, FS, g, n, W, rfl, hx6, lk3_stands _ _ _, lk3_ways _ _ _, lk3_no _ _ _ (by decide +kernel) (by decide +kernel) (by decide +kernel), kl6 _ _ hls5, Paired.mapP pr5 fun _ _ q => q.keep kt6, nd, by omega, D6, ways, ⟨k6.tb _ tb.1, k6.tb _ tb.2.1⟩, fun H7 d f m j k7 nd7 D7 hf ej => ?_⟩
      have hx7 := k7.ins hx6
      refine ⟨_, rfl, x, C, dx, _, rfl, hx7, G.cl, G.nI, sz3 _ _ _, ?_⟩
      have k67 := k6.trans k7
      have k8 := k67.fld (gs := fl4 u (.ref ls) (.ref dw) (.ref d)) nx hx7
      have ndx : d ≠ x := fun z => by rw [z, hx6] at nd7; cases nd7
      have D8 : DS P w (upd H7 x (.ins C dx (fl4 u (.ref ls) (.ref dw) (.ref d)))) d f m := D7.keep (ins_kt hx7) fun o h => by rw [upd_ne ndx]; exact h
      -- sizes
      intro dz H9 nz e9 D9
      have k89 : Kp (upd H7 x (.ins C dx (fl4 u (.ref ls) (.ref dw) (.ref d)))) H9 := (Kp.refl _).but e9 nz (.free nz) (by obtain ⟨xs, h1, _⟩ := id D9.ex; rw [h1]; intro z; cases z)
      have hx9 := k89.ins (upd_same (H := H7) (a := x) (o := .ins C dx (fl4 u (.ref ls) (.ref dw) (.ref d))))
      refine ⟨_, rfl, x, C, dx, _, rfl, hx9, G.cl, G.nZ, sz4 _ _ _ _, ?_⟩
      refine q _ _ d f m ((k8.trans k89).fld (gs := fl5 u (.ref ls) (.ref dw) (.ref d) (.ref dz)) nx hx9) upd_same (lk5_within _ _ _ _ _) ?_ fun t => ?_
      · exact (k89.ds D8).keep (ins_kt hx9) fun o h => by rw [upd_ne ndx]; exact h
      · rw [hf, rkE_of (U := U) (V := FS) (fun s => ⟨uk.all (· ∈ FS) vm cl s, sub s⟩) ej]
end
end Dw

/-! part DwO -/
set_option Elab.async false
set_option linter.all false
set_option maxRecDepth 100000
set_option maxHeartbeats 4000000
/-! orders_from_clean -/
namespace Dw
open PySem PySem.Spec PyProof.Rows L2 GenW
def ordV : Option Nat → V
  | none => .str "endless"
  | some n => .int ((n : Int) - 1)
/-- the tables of Game's defs, has_wants, is_clean -/
structure TG where
  b : Addr
  r : Addr
  h : Addr
  c : Addr
def TG.ok (T : TG) (H : Hp) : Prop := Tb H T.b ∧ Tb H T.r ∧ Tb H T.h ∧ Tb H T.c
theorem TG.ok.kp {T : TG} {H H' : Hp} (t : T.ok H) (k : Kp H H') : T.ok H' := ⟨k.tb _ t.1, k.tb _ t.2.1, k.tb _ t.2.2.1, k.tb _ t.2.2.2⟩
def spOrd (T : T4) (S : TG) : Sp := fun vs H Q _ => ∃ u W U, vs = [u] ∧ IsW H u W ∧ WOk W ∧ UOk W U ∧ T.ok H ∧ S.ok H ∧ ∀ H', Kp H H' → Q (ordV (rkE W U W.vats)) H'
section
variable {P : Program} {w : World} {K : PySem.W.Frag} {mg : Str → Option Value} {base : Heap} {C : Addr} {T : T4} {S : TG}
theorem sc36 : FnScope ["works", "within"] ["works"] (defScope (st 36)) := ⟨rfl, rfl, rfl, by decide +kernel, rfl, by decide +kernel, by decide +kernel⟩
theorem d_ord (D : DefAt K mg "orders_from_clean" (st 36)) (N : Nm mg) (Q : Cs mg) (G : GmAt K mg base C S.r S.b) (Dn : Df P w K mg base "need_works" 7 ["value"] (spNeedW T))
    (Mi : ∃ f fd, FnOk P w K mg base CX0 6 f fd ["self", "works"] (spGInit P w C S.b S.r S.h S.c) ∧ Mk K C f ∧ Binds K fd ["self", "works"] []) : Df P w K mg base "orders_from_clean" 8 ["works"] (spOrd T S) := by
  obtain ⟨fi, fdi, Fi, Mi, Bi⟩ := Mi
  refine D.df sc36 (fun vs H Q E h => ?_) (fun _ _ _ _ _ _ us hl => match us, hl with | [_], _ => rfl) (fun f cdv A outer sh H vs Qq E hr h => ?_)
  · obtain ⟨u, W, U, rfl, _⟩ := h
    rfl
  · obtain ⟨u, W, U, rfl, hu, ok, uk, t4, tg, q⟩ := h
    have hU : (A.deeper (envOfC "orders_from_clean" (defScope (st 36)) sh.heap.objs.size f cdv)).units + 64 < cLine := hr.units
    refine ⟨_, pss_cons (ps_expr (pe_df Dn hr (by rfl) (pa_cons (pv 0) pa_nil)))
      (pss_cons (ps_set (i := 1) sc36.nd rfl (Or.inl rfl) (pe_dsget1 hU (pe_fld (pe_make Mi Fi hr (by rfl) G.gC Bi .nil pass0 (pa_cons (pv 0) pa_nil)) rfl) (pe_ix ix_tup (pv 0) pe_int (fun _ _ => rfl)) ⟨rfl, rfl, rfl, rfl⟩))
      (pss_one (ps_ret (pe_ifExp (pt_cmp (pc_isN (pv 1))) (pe_cst Q.endless (by rfl)) (pe_op op_sub (pv 1) pe_int))))), ?_⟩
    refine ⟨_, rfl, u, W, rfl, hu, ok, t4, fun H1 k1 => ?_⟩
    refine ⟨_, rfl, fun x dx nx ndx ne => ?_⟩
    have hu1 := hu.keep k1.kt
    have t1 := tg.kp k1
    have ka := (Kp.refl H1).add (o := .own x) ndx
    have nx2 : (upd H1 dx (.own x)) x = none := by rw [upd_ne ne.symm]; exact nx
    have kb := ka.add (o := .ins C dx []) nx2
    refine ⟨H1, x, dx, u, W, U, rfl, upd_same, nx, kb, hu1, ok, uk, t1, fun H2 fs d f n k2 hx hw D2 hf => ⟨rfl, ?_⟩⟩
    obtain ⟨a, y, b, ks, rfl, ha, hy, hb, pk⟩ := hu1.keep k2.kt
    refine ⟨x, C, dx, fs, .ref d, rfl, hx, G.cl, G.nI, hw, d, rfl, ⟨f, n, D2⟩, _, rfl, a, _, _, _, rfl, rfl, SqT.of ha, atI_nat (j := 1) rfl, W.vats, f, n, hy, D2, ?_⟩
    rw [hf]
    have z := q H2 (k1.trans k2)
    cases e : rkE W U W.vats with
    | none =>
      rw [e] at z
      exact ⟨_, rfl, _, rfl, iteT z⟩
    | some m =>
      rw [e] at z
      exact ⟨_, rfl, _, rfl, iteF ⟨_, rfl, _, _, rfl, rfl, z⟩⟩
end
end Dw

/-! part DwP -/
set_option Elab.async false
set_option linter.all false
set_option maxRecDepth 100000
set_option maxHeartbeats 4000000
/-! the law's draws: _law_taken, _law_dyes -/
namespace Dw
open PySem PySem.Spec PyProof.Rows L2 GenW
/-- all but r stays -/
def Mv (r : Addr) (H H' : Hp) : Prop := ∀ b o, b ≠ r → H b = some o → H' b = some o
theorem Mv.refl (r : Addr) (H : Hp) : Mv r H H := fun _ _ _ h => h
theorem Mv.trans {r : Addr} {H H1 H2 : Hp} (a : Mv r H H1) (b : Mv r H1 H2) : Mv r H H2 := fun c o n h => b c o n (a c o n h)
/-- the law's row: the script's place, the turn, the state, the rest -/
def Rv (H : Hp) (r a : Addr) : Prop := ∃ p q z : Int, H r = some (.lst [.ref a, .int p, .int q, .int z]) ∧ 0 ≤ p ∧ (0 ≤ q ∧ q < 2147483647) ∧ 0 ≤ z
theorem row_sq {K : PySem.W.Frag} {H H' : Hp} {r a : Addr} {ns : List Int} {xs : List V} (h : SqL K H a (ns.map V.int)) (hr : H r = some (.lst (.ref a :: xs))) (m : Mv r H H') : SqL K H' a (ns.map V.int) := by
  have ne : ∀ {o}, H a = some o → (∀ ys, o = .lst ys → ys = ns.map V.int) → a ≠ r := fun {o} e f z => by
    rw [z, hr] at e
    cases e
    have := f _ rfl
    cases ns with
    | nil => cases this
    | cons n ns => cases this
  rcases h with (h | ⟨o, h⟩) | h
  · exact .inl (.inl (m _ _ (ne h fun ys e => by cases e; rfl) h))
  · exact .inl (.inr ⟨o, m _ _ (ne h fun ys e => by cases e) h⟩)
  · exact .inr h
/-- the row as it is changed by the law alone -/
theorem Kp.mv {H0 H H' : Hp} {r : Addr} {xs ys : List V} (k : Kp H0 H) (n : H0 r = none) (h : H r = some (.lst xs)) (m : Mv r H H') (h' : H' r = some (.lst ys)) : Kp H0 H' := by
  have e : ∀ {b o}, H b = some o → (∀ xs, o ≠ .lst xs) → H' b = some o := fun {b o} e f => m b o (fun z => by rw [z, h] at e; cases e; exact f _ rfl) e
  have tg : ∀ P, GxR.TabG H P → GxR.TabG H' P := fun P ⟨ps, h1, h2⟩ => ⟨ps, e h1 (fun _ z => by cases z), h2⟩
  refine ⟨fun a o ha q => m a o (fun z => by rw [z, n] at ha; cases ha) (k.ob a o ha q), fun a ha => k.nn a ?_, fun P hP => tg P (k.tg P hP), fun P hP => ?_⟩
  · cases q : H a with
    | none => rfl
    | some o =>
      by_cases z : a = r
      · rw [z, h'] at ha; cases ha
      · rw [m a o z q] at ha; cases ha
  · obtain ⟨ps, h1, h2, h3⟩ := k.tb P hP
    refine ⟨ps, e h1 (fun _ z => by cases z), h2, fun pos cv q => ?_⟩
    obtain ⟨c, P2, e1, e2, e3⟩ := h3 pos cv q
    exact ⟨c, P2, e1, e e2 (fun _ z => by cases z), tg P2 e3⟩
theorem Mv.kt {r : Addr} {H H' : Hp} {xs : List V} (m : Mv r H H') (h : H r = some (.lst xs)) : KT H H' := fun c ys e => m c _ (ne_of e h (by intro z; cases z)) e
theorem Mv.add {r : Addr} {H H' : Hp} {d : Addr} {o : HO} (m : Mv r H H') (h : H' d = none) : Mv r H (upd H' d o) := fun b u n e => by
  have := m b u n e
  rw [upd_ne (ne_of_none this h)]
  exact this
theorem Mv.put {r : Addr} {H H' : Hp} {d : Addr} {o : HO} (m : Mv r H H') (n : H d = none) : Mv r H (upd H' d o) := fun b u hb e => by
  rw [upd_ne (ne_of_none e n)]
  exact m b u hb e
theorem Mv.free {r : Addr} {H H' : Hp} {xs : List V} (m : Mv r H H') (h : H' r = some (.lst xs)) {b : Addr} (e : H' b = none) : H b = none := by
  cases q : H b with
  | none => rfl
  | some o =>
    by_cases z : b = r
    · rw [z, h] at e; cases e
    · rw [m b o z q] at e; cases e
theorem Rv.add {H : Hp} {r a d : Addr} {o : HO} (R : Rv H r a) (h : d ≠ r) : Rv (upd H d o) r a := by
  obtain ⟨p, q, z, h1, h2⟩ := R
  exact ⟨p, q, z, by rw [upd_ne h.symm]; exact h1, h2⟩
theorem Rv.ne {H : Hp} {r a d : Addr} (R : Rv H r a) (h : H d = none) : d ≠ r := fun z => by
  obtain ⟨p, q, z2, h1, _⟩ := R
  rw [z, h1] at h
  cases h
theorem Rv.sq {K : PySem.W.Frag} {H H' : Hp} {r a : Addr} {ns : List Int} (R : Rv H r a) (h : SqL K H a (ns.map V.int)) (m : Mv r H H') : SqL K H' a (ns.map V.int) := by
  obtain ⟨p, q, z, h1, _⟩ := R
  exact row_sq h h1 m
def spTaken (K : PySem.W.Frag) : Sp := fun vs H Q _ => ∃ r m a ns, vs = [.ref r, .int m] ∧ 1 ≤ m ∧ m < 1000 ∧ Rv H r a ∧ SqL K H a (List.map V.int ns) ∧ ∀ H' v, Mv r H H' → Rv H' r a → 0 ≤ v → v < m → Q (.int v) H'
def spDyes (K : PySem.W.Frag) : Sp := fun vs H Q _ => ∃ r d m a ns, vs = [.ref r, .int d, .int m] ∧ 0 ≤ d ∧ d ≤ 4 ∧ 1 ≤ m ∧ m < 1000 ∧ Rv H r a ∧ SqL K H a (List.map V.int ns) ∧ ∀ H' v xs, Mv r H H' → Rv H' r a → IsL H' v xs → LotOk d xs → Q v H'
theorem rv_put {H : Hp} {r : Addr} {xs ys : List V} (h : H r = some (.lst xs)) : Mv r H (upd H r (.lst ys)) ∧ (upd H r (.lst ys)) r = some (.lst ys) := ⟨fun b o hb e => by rw [upd_ne hb]; exact e, upd_same⟩
section
variable {P : Program} {w : World} {K : PySem.W.Frag} {mg : Str → Option Value} {base : Heap}
abbrev n41 : List Str := ["_law_row", "_law_many", "_law_found", "_law_cell"]
theorem sc41 : FnScope n41 ["_law_row", "_law_many"] (defScope (st 41)) := ⟨rfl, rfl, rfl, by decide +kernel, rfl, by decide +kernel, by decide +kernel⟩
theorem d_taken (D : DefAt K mg "_law_taken" (st 41)) (N : Nm mg) : Df P w K mg base "_law_taken" 1 ["_law_row", "_law_many"] (spTaken K) := by
  refine D.df sc41 (fun vs H Q E h => ?_) (fun _ _ _ _ _ _ us hl => match us, hl with | [_, _], _ => rfl) (fun f cdv A outer sh H vs Q E hr h => ?_)
  · obtain ⟨r, m, a, ns, rfl, _⟩ := h
    rfl
  · obtain ⟨r, m, a, ns, rfl, m1, m2, ⟨p, q, z, hrow, hp, hq, hz⟩, hs, k⟩ := h
    refine ⟨_, pss_cons (ps_if (pt_cmpR op_gt (pe_ix ix_list (pv 0) pe_int (fun _ _ => rfl)) pe_int (nomark _))
        (pss_cons (ps_set (i := 2) sc41.nd rfl (Or.inl rfl) (pe_op op_mod (pe_callTy call_int1 (by rfl) N.int boot_int (pa_cons (pe_ix ix_list (pv 0) pe_int (fun _ _ => rfl)) pa_nil)) (pv 1)))
        (pss_cons (ps_asg (pe_op op_fdiv (pe_ix ix_list (pv 0) pe_int (fun _ _ => rfl)) (pv 1)) (pg_sub (pv 0) pe_int set_list)) (pss_one (ps_ret (pv 2))))) pss_nil)
      (pss_cons (ps_asg (pe_op op_add (pe_ix ix_list (pv 0) pe_int (fun _ _ => rfl)) pe_int) (pg_sub (pv 0) pe_int set_list))
      (pss_cons (ps_if (pt_cmpR op_gt (pe_ix ix_list (pv 0) pe_int (fun _ _ => rfl)) (pe_len N.len (pe_ix ix_list (pv 0) pe_int (fun _ _ => rfl))) (nomark _))
        (pss_cons (ps_asg (pe_op op_mod (pe_callTy call_int1 (by rfl) N.int boot_int (pa_cons (pe_op op_add (pe_op op_mul (pe_ix ix_list (pv 0) pe_int (fun _ _ => rfl)) pe_int) pe_int) pa_nil)) pe_int) (pg_sub (pv 0) pe_int set_list))
        (pss_one (ps_ret (pe_op op_mod (pe_callTy call_int1 (by rfl) N.int boot_int (pa_cons (pe_op op_fdiv (pe_ix ix_list (pv 0) pe_int (fun _ _ => rfl)) pe_int) pa_nil)) (pv 1))))) pss_nil)
      (pss_cons (ps_set (i := 3) sc41.nd rfl (Or.inl rfl) (pe_ix ix_list (pe_ix ix_list (pv 0) pe_int (fun _ _ => rfl)) (pe_op op_sub (pe_ix ix_list (pv 0) pe_int (fun _ _ => rfl)) pe_int) (fun _ _ => rfl)))
      (pss_cons (ps_asg (pe_op op_mod (pe_callTy call_int1 (by rfl) N.int boot_int (pa_cons (pe_op op_add (pe_op op_add (pe_op op_mul (pe_ix ix_list (pv 0) pe_int (fun _ _ => rfl)) pe_int) (pv 3)) pe_int) pa_nil)) pe_int) (pg_sub (pv 0) pe_int set_list))
      (pss_cons (ps_if (pt_cmpR op_ge (pv 3) (pe_op op_pow pe_int pe_int) (nomark _))
        (pss_one (ps_asg (pe_op op_fdiv (pv 3) (pv 1)) (pg_sub (pv 0) pe_int set_list))) pss_nil)
      (pss_one (ps_ret (pe_op op_mod (pe_callTy call_int1 (by rfl) N.int boot_int (pa_cons (pv 3) pa_nil)) (pv 1))))))))), ?_⟩
    have mpos : 0 < m := by omega
    have mfd : 0 < m ∧ m < 1073741824 := ⟨mpos, by omega⟩
    have R0 : Rv H r a := ⟨p, q, z, hrow, hp, hq, hz⟩
    refine ⟨_, rfl, r, _, _, _, rfl, rfl, SqL.of hrow, atI_nat (j := 3) rfl, _, _, rfl, rfl, _, rfl, ?_⟩
    by_cases hz0 : 0 < z
    · refine iteT' (decide_eq_true hz0) ?_
      refine ⟨_, rfl, r, _, _, _, rfl, rfl, SqL.of hrow, atI_nat (j := 3) rfl, .inl ⟨z, rfl, _, rfl, z, m, rfl, rfl, mpos, ?_⟩⟩
      refine ⟨_, rfl, r, _, _, _, rfl, rfl, SqL.of hrow, atI_nat (j := 3) rfl, _, rfl, z, m, rfl, rfl, mfd, _, rfl, r, _, 3, 3, rfl, rfl, hrow, rfl, _, rfl, ?_⟩
      have e := rv_put (ys := [.ref a, .int p, .int q, .int (z / m)]) hrow
      exact k _ (z % m) e.1 ⟨p, q, z / m, e.2, hp, hq, Int.ediv_nonneg hz (by omega)⟩ (Int.emod_nonneg _ (by omega)) (Int.emod_lt_of_pos _ mpos)
    · refine iteF' (decide_eq_false hz0) ?_
      refine ⟨_, rfl, r, _, _, _, rfl, rfl, SqL.of hrow, atI_nat (j := 1) rfl, p, 1, rfl, rfl, _, rfl, r, _, 1, 1, rfl, rfl, hrow, rfl, ?_⟩
      have e1 := rv_put (ys := [.ref a, .int (p + 1), .int q, .int z]) hrow
      have hs1 := R0.sq hs e1.1
      have h1 := e1.2
      have mv1 := e1.1
      show tSeq _ _ _ _ (upd H r (.lst [.ref a, .int (p + 1), .int q, .int z]))
      generalize upd H r (.lst [.ref a, .int (p + 1), .int q, .int z]) = H1 at h1 mv1 hs1 ⊢
      refine ⟨_, rfl, r, _, _, _, rfl, rfl, SqL.of h1, atI_nat (j := 1) rfl, _, rfl, r, _, _, _, rfl, rfl, SqL.of h1, atI_nat (j := 0) rfl, a, _, rfl, .inl hs1, p + 1, _, rfl, rfl, _, rfl, ?_⟩
      rw [List.length_map]
      by_cases hl : (ns.length : Int) < p + 1
      · refine iteT' (decide_eq_true hl) ?_
        refine ⟨_, rfl, r, _, _, _, rfl, rfl, SqL.of h1, atI_nat (j := 2) rfl, q, 48271, rfl, rfl, .inl ⟨by omega, by omega⟩, _, 11, rfl, rfl, .inl ⟨_, rfl, _, 2147483647, rfl, rfl, (by show (0 : Int) < 2147483647; decide), _, rfl, r, _, 2, 2, rfl, rfl, h1, rfl, ?_⟩⟩
        have e2 := rv_put (ys := [.ref a, .int (p + 1), .int ((q * 48271 + 11) % 2147483647), .int z]) h1
        have h2 := e2.2
        have mv2 := mv1.trans e2.1
        refine ⟨_, rfl, r, [.ref a, .int (p + 1), .int ((q * 48271 + 11) % 2147483647), .int z], _, _, rfl, rfl, SqL.of h2, atI_nat (j := 2) rfl, _, 7, rfl, rfl, ⟨by decide, by decide⟩, .inl ⟨_, rfl, _, rfl, _, m, rfl, rfl, mpos, ?_⟩⟩
        exact k _ _ mv2 ⟨p + 1, _, z, h2, by omega, ⟨Int.emod_nonneg _ (by decide), Int.emod_lt_of_pos _ (by decide)⟩, hz⟩ (Int.emod_nonneg _ (by omega)) (Int.emod_lt_of_pos _ mpos)
      · refine iteF' (decide_eq_false hl) ?_
        have pl : p.toNat < ns.length := by omega
        have hc : (ns.map V.int)[p.toNat]? = some (.int ns[p.toNat]) := by rw [List.getElem?_map, List.getElem?_eq_getElem pl] <;> rfl
        generalize ns[p.toNat] = cell at hc
        refine ⟨_, rfl, r, _, _, _, rfl, rfl, SqL.of h1, atI_nat (j := 0) rfl, _, rfl, r, _, _, _, rfl, rfl, SqL.of h1, atI_nat (j := 1) rfl, p + 1, 1, rfl, rfl, a, _, _, .int cell, rfl, rfl, hs1, atI_at (by omega) (by rw [show p + 1 - 1 = p by omega]; exact hc), ?_⟩
        refine ⟨_, rfl, r, _, _, _, rfl, rfl, SqL.of h1, atI_nat (j := 2) rfl, q, 48271, rfl, rfl, .inl ⟨by omega, by omega⟩, _, rfl, _, cell, rfl, rfl, _, 11, rfl, rfl, .inl ⟨_, rfl, _, 2147483647, rfl, rfl, (by show (0 : Int) < 2147483647; decide), _, rfl, r, _, 2, 2, rfl, rfl, h1, rfl, ?_⟩⟩
        have e2 := rv_put (ys := [.ref a, .int (p + 1), .int ((q * 48271 + cell + 11) % 2147483647), .int z]) h1
        have h2 := e2.2
        have mv2 := mv1.trans e2.1
        show tSeq _ _ _ _ (upd H1 r (.lst [.ref a, .int (p + 1), .int ((q * 48271 + cell + 11) % 2147483647), .int z]))
        have q2 : 0 ≤ (q * 48271 + cell + 11) % 2147483647 ∧ (q * 48271 + cell + 11) % 2147483647 < 2147483647 := ⟨Int.emod_nonneg _ (by decide), Int.emod_lt_of_pos _ (by decide)⟩
        generalize (q * 48271 + cell + 11) % 2147483647 = q' at h2 mv2 q2 ⊢
        generalize upd H1 r (.lst [.ref a, .int (p + 1), .int q', .int z]) = H2 at h2 mv2 ⊢
        refine ⟨_, rfl, 10, 18, rfl, rfl, ⟨by decide, by decide, by decide⟩, cell, _, rfl, rfl, _, rfl, ?_⟩
        by_cases hb : (10 : Int) ^ (18 : Int).toNat ≤ cell
        · refine iteT' (decide_eq_true hb) ?_
          refine ⟨_, rfl, _, rfl, cell, m, rfl, rfl, mfd, _, rfl, r, _, 3, 3, rfl, rfl, h2, rfl, _, rfl, .inl ⟨cell, rfl, _, rfl, cell, m, rfl, rfl, mpos, ?_⟩⟩
          have e3 := rv_put (ys := [.ref a, .int (p + 1), .int q', .int (cell / m)]) h2
          have c0 : 0 ≤ cell := by
            have : (0 : Int) ≤ 10 ^ (18 : Int).toNat := by decide
            omega
          exact k _ _ (mv2.trans e3.1) ⟨p + 1, q', cell / m, e3.2, by omega, q2, Int.ediv_nonneg c0 (by omega)⟩ (Int.emod_nonneg _ (by omega)) (Int.emod_lt_of_pos _ mpos)
        · refine iteF' (decide_eq_false hb) ?_
          refine ⟨_, rfl, .inl ⟨cell, rfl, _, rfl, cell, m, rfl, rfl, mpos, ?_⟩⟩
          exact k _ _ mv2 ⟨p + 1, q', z, h2, by omega, q2, hz⟩ (Int.emod_nonneg _ (by omega)) (Int.emod_lt_of_pos _ mpos)
end
end Dw

/-! part DwQ -/
set_option Elab.async false
set_option linter.all false
set_option maxRecDepth 100000
set_option maxHeartbeats 4000000
/-! _law_dyes, _law_works -/
namespace Dw
open PySem PySem.Spec PyProof.Rows L2 GenW
def spWorks (K : PySem.W.Frag) : Sp := fun vs H Q _ => ∃ r a ns, vs = [.ref r] ∧ Rv H r a ∧ SqL K H a (List.map V.int ns) ∧ ∀ H' v W, Mv r H H' → Rv H' r a → IsW H' v W → WOk W → Q v H'
theorem ris_snoc {xs : List Int} {z : Int} (h : Ris xs) (b : ∀ y ∈ xs, y < z) : Ris (xs ++ [z]) := by
  unfold Ris
  rw [List.pairwise_append]
  exact ⟨h, List.pairwise_singleton _ _, fun y hy x hx => by rw [List.mem_singleton.mp hx]; exact b y hy⟩
theorem Mv.ktR {r a : Addr} {H H' : Hp} (m : Mv r H H') (R : Rv H r a) : KT H H' := by
  obtain ⟨p, q, z, h, _⟩ := R
  exact m.kt h
/-- the base of the law's draws: since H, all but the row stays -/
structure WS (r a : Addr) (H H' : Hp) : Prop where
  mv : Mv r H H'
  rv : Rv H' r a
theorem WS.then {r a : Addr} {H H1 H2 : Hp} (s : WS r a H H1) (m : Mv r H1 H2) (R : Rv H2 r a) : WS r a H H2 := ⟨s.mv.trans m, R⟩
theorem WS.add {r a : Addr} {H H1 : Hp} {d : Addr} {o : HO} (s : WS r a H H1) (h : H1 d = none) : WS r a H (upd H1 d o) := ⟨s.mv.add h, s.rv.add (s.rv.ne h)⟩
theorem WS.put {r a : Addr} {H H1 : Hp} {d : Addr} {o : HO} (s : WS r a H H1) (n : H d = none) (h : d ≠ r) : WS r a H (upd H1 d o) := ⟨s.mv.put n, s.rv.add h⟩
theorem WS.none {r a : Addr} {H H1 : Hp} (s : WS r a H H1) {d : Addr} (h : H1 d = none) : H d = none := by
  obtain ⟨p, q, z, e, _⟩ := s.rv
  exact s.mv.free e h
theorem add_mv {r : Addr} {H : Hp} {d : Addr} {o : HO} (h : H d = none) : Mv r H (upd H d o) := (Mv.refl r H).add h
theorem add_kt {H : Hp} {d : Addr} {o : HO} (h : H d = none) : KT H (upd H d o) := fun c xs e => by rw [upd_ne (ne_of_none e h)]; exact e
theorem put_kt {H : Hp} {d : Addr} {o : HO} {xs : List V} (h : H d = some (.lst xs)) : KT H (upd H d o) := fun c ys e => by rw [upd_ne (ne_of e h (by intro z; cases z))]; exact e
section
variable {P : Program} {w : World} {K : PySem.W.Frag} {mg : Str → Option Value} {base : Heap}
abbrev n42 : List Str := ["_law_row", "_law_dyes_here", "_law_many", "_law_dye"]
theorem sc42 : FnScope n42 ["_law_row", "_law_dyes_here", "_law_many"] (defScope (st 42)) := ⟨rfl, rfl, rfl, by decide +kernel, rfl, by decide +kernel, by decide +kernel⟩
theorem d_dyes (D : DefAt K mg "_law_dyes" (st 42)) (N : Nm mg) (Dt : Df P w K mg base "_law_taken" 1 ["_law_row", "_law_many"] (spTaken K)) : Df P w K mg base "_law_dyes" 2 ["_law_row", "_law_dyes_here", "_law_many"] (spDyes K) := by
  refine D.df sc42 (fun vs H Q E h => ?_) (fun _ _ _ _ _ _ us hl => match us, hl with | [_, _, _], _ => rfl) (fun f cdv A outer sh H vs Q E hr h => ?_)
  · obtain ⟨r, d, m, a, ns, rfl, _⟩ := h
    rfl
  · obtain ⟨r, d, m, a, ns, rfl, d0, d4, m1, m2, R0, hs, q⟩ := h
    refine ⟨_, pss_one (ps_ret (pe_tupl N.tuple (pe_lc (own := [("_law_dye", 3)]) (g := gName 3) rfl sc42.nd (pi_range1 (by rfl) N.range (pa_cons (pv 1) pa_nil)) (blkOk_by (N := n42) (sc := defScope (st 42)) (by decide +kernel))
      (fun _ _ _ _ _ => pg_name (i := 3) sc42.nd rfl (Or.inl rfl)) (fun _ _ _ _ _ => pts_one (pt_cmpR op_eq (pe_df Dt hr (by rfl) (pa_cons (pv 0) (pa_cons (pv 2) pa_nil))) pe_int (nomark _))) (fun _ _ _ _ _ => pv 3)))), ?_⟩
    refine ⟨_, rfl, d, rfl, by omega, by omega, fun D hD => ?_⟩
    have nDr := R0.ne hD
    refine gw wl_rng (fun j H' => Mv r H H' ∧ Rv H' r a ∧ ∃ xs : List Int, H' D = some (.lst (xs.map V.int)) ∧ Ris xs ∧ (∀ z ∈ xs, 0 ≤ z ∧ z < j) ∧ xs.length ≤ j)
      ⟨(Mv.refl r H).add hD, R0.add nDr, [], upd_same, List.Pairwise.nil, (fun z hz => nomatch hz), Nat.le_refl _⟩ (fun _ _ _ _ => trivial) ?_ ?_
    · rintro j x H1 H1' hj ⟨mv, R1, xs, hxs, ri, bd, lx⟩ ⟨rfl, rfl⟩
      refine ⟨rfl, _, rfl, _, rfl, r, m, a, ns, rfl, m1, m2, R1, R0.sq hs mv, fun H2 v mv2 R2 v0 v1 => ?_⟩
      have hD2 := mv2 D _ nDr hxs
      have mv02 := mv.trans mv2
      refine ⟨rfl, _, rfl, ?_⟩
      by_cases e : V.int v = V.int 0
      · refine iteT' (decide_eq_true e) ⟨_, rfl, xs.map V.int, hD2, by rw [List.length_map, sizeLine_eq]; omega, mv02.put hD, R2.add nDr, xs ++ [(0 + (j : Nat) : Int)], ?_, ris_snoc ri fun y hy => ?_, fun z hz => ?_, by rw [List.length_append, List.length_singleton]; omega⟩
        · rw [upd_same, List.map_append] <;> rfl
        · have := (bd y hy).2
          omega
        · rcases List.mem_append.mp hz with h | h
          · have := bd z h
            omega
          · rw [List.mem_singleton.mp h]
            omega
      · refine iteF' (decide_eq_false e) ⟨mv02, R2, xs, hD2, ri, fun z hz => ?_, by omega⟩
        have := bd z hz
        omega
    · rintro H1 ⟨mv, R1, xs, hxs, ri, bd, lx⟩
      refine ⟨D, _, rfl, .inl ⟨SqL.of hxs, fun t nt => ?_⟩⟩
      exact q _ _ xs (mv.add nt) (R1.add (R1.ne nt)) ⟨t, rfl, upd_same⟩ ⟨ri, fun z hz => by have := bd z hz; omega⟩
abbrev n43 : List Str := ["_law_row", "_law_dyes_here", "_law_vats", "_law_vat", "_law_own", "_law_kinds", "_law_kind", "_law_routes", "_law_turn", "_law_wants", "_law_owns", "_law_step", "_law_dye"]
theorem sc43 : FnScope n43 ["_law_row"] (defScope (st 43)) := ⟨rfl, rfl, rfl, by decide +kernel, rfl, by decide +kernel, by decide +kernel⟩
theorem d_works (D : DefAt K mg "_law_works" (st 43)) (N : Nm mg) (Dt : Df P w K mg base "_law_taken" 1 ["_law_row", "_law_many"] (spTaken K)) (Dd : Df P w K mg base "_law_dyes" 2 ["_law_row", "_law_dyes_here", "_law_many"] (spDyes K)) : Df P w K mg base "_law_works" 3 ["_law_row"] (spWorks K) := by
  refine D.df sc43 (fun vs H Q E h => ?_) (fun _ _ _ _ _ _ us hl => match us, hl with | [_], _ => rfl) (fun f cdv A outer sh H vs Q E hr h => ?_)
  · obtain ⟨r, a, ns, rfl, _⟩ := h
    rfl
  · obtain ⟨r, a, ns, rfl, R0, hs, q⟩ := h
    have hr1 : Room 1 _ := hr.mono (by decide)
    refine ⟨_, pss_cons (ps_asg (pe_tup (pa_cons (pe_op op_add pe_int (pe_df Dt hr1 (by rfl) (pa_cons (pv 0) (pa_cons pe_int pa_nil)))) (pa_cons (pe_op op_add pe_int (pe_df Dt hr1 (by rfl) (pa_cons (pv 0) (pa_cons pe_int pa_nil)))) pa_nil))) (pg_tup rfl (pgs_cons (pg_name (i := 1) sc43.nd rfl (Or.inr rfl)) (pgs_cons (pg_name (i := 2) sc43.nd rfl (Or.inr rfl)) pgs_nil))))
      (pss_cons (ps_set (i := 4) sc43.nd rfl (Or.inl rfl) (pe_tupl N.tuple (pe_lc (own := [("_law_vat", 3)]) (g := gName 3) (tt := tYes) rfl sc43.nd (pi_range1 (by rfl) N.range (pa_cons (pv 2) pa_nil)) (blkOk_by (N := n43) (sc := defScope (st 43)) (by decide +kernel))
        (fun _ _ _ _ _ => pg_name (i := 3) sc43.nd rfl (Or.inl rfl)) (fun _ _ _ _ _ => pts_nil) (fun _ _ _ _ _ => pe_df Dd hr (by rfl) (pa_cons (pv 0) (pa_cons (pv 1) (pa_cons pe_int pa_nil)))))))
      (pss_cons (ps_set (i := 5) sc43.nd rfl (Or.inl rfl) (pe_lst pa_nil))
      (pss_cons (ps_for PassesOwn.never rfl (pi_range1 (by rfl) N.range (pa_cons (pe_op op_add pe_int (pe_df Dt hr1 (by rfl) (pa_cons (pv 0) (pa_cons pe_int pa_nil)))) pa_nil)) (pg_name (i := 6) sc43.nd rfl (Or.inl rfl))
        (pss_cons (ps_set (i := 7) sc43.nd rfl (Or.inl rfl) (pe_lst pa_nil))
        (pss_cons (ps_for PassesOwn.never rfl (pi_range1 (by rfl) N.range (pa_cons (pe_op op_add pe_int (pe_df Dt hr1 (by rfl) (pa_cons (pv 0) (pa_cons pe_int pa_nil)))) pa_nil)) (pg_name (i := 8) sc43.nd rfl (Or.inl rfl))
          (pss_one (ps_expr (pe_bm PySem.F.plainAttrs_list PySem.F.slot_list_append PySem.F.type_list_append mt_append (pv 7) (pa_cons
            (pe_tupl N.tuple (pe_lc (own := [("_law_step", 11)]) (g := gName 11) (tt := tYes) rfl sc43.nd (pi_range1 (by rfl) N.range (pa_cons (pe_op op_add pe_int (pe_df Dt hr1 (by rfl) (pa_cons (pv 0) (pa_cons pe_int pa_nil)))) pa_nil)) (blkOk_by (N := n43) (sc := defScope (st 43)) (by decide +kernel))
              (fun _ _ _ _ _ => pg_name (i := 11) sc43.nd rfl (Or.inl rfl)) (fun _ _ _ _ _ => pts_nil) (fun _ _ _ _ _ => pe_df Dt hr1 (by rfl) (pa_cons (pv 0) (pa_cons (pv 2) pa_nil))))) pa_nil)))))
        (pss_cons (ps_set (i := 9) sc43.nd rfl (Or.inl rfl) (pe_df Dd hr (by rfl) (pa_cons (pv 0) (pa_cons (pv 1) (pa_cons pe_int pa_nil)))))
        (pss_cons (ps_if (pt_cmpR op_eq (pe_df Dt hr1 (by rfl) (pa_cons (pv 0) (pa_cons pe_int pa_nil))) pe_int (nomark _))
          (pss_cons (ps_set (i := 10) sc43.nd rfl (Or.inr rfl) (pe_lst pa_nil))
          (pss_cons (ps_for PassesOwn.never rfl (pi_tup (pe_ix ix_list (pv 7) pe_int (fun _ _ => rfl))) (pg_name (i := 3) sc43.nd rfl (Or.inl rfl))
            (pss_one (ps_set (i := 10) sc43.nd rfl (Or.inr rfl) (pe_op op_cat (pv 10) (pe_list N.list (pe_ix ix_tup (pv 4) (pv 3) (fun _ _ => rfl)))))))
          (pss_one (ps_set (i := 9) sc43.nd rfl (Or.inl rfl) (pe_tupl N.tuple (pe_lc (own := [("_law_dye", 12)]) (g := gName 12) rfl sc43.nd (pi_tup (pv 9)) (blkOk_by (N := n43) (sc := defScope (st 43)) (by decide +kernel))
            (fun _ _ _ _ _ => pg_name (i := 12) sc43.nd rfl (Or.inl rfl)) (fun _ _ _ _ _ => pts_one (pt_cmpR op_inI (pv 12) (pv 10) (by with_unfolding_all rfl))) (fun _ _ _ _ _ => pv 12)))))))
          pss_nil)
        (pss_one (ps_expr (pe_bm PySem.F.plainAttrs_list PySem.F.slot_list_append PySem.F.type_list_append mt_append (pv 5) (pa_cons
          (pe_tup (pa_cons (pv 9) (pa_cons (pe_df Dd hr (by rfl) (pa_cons (pv 0) (pa_cons (pv 1) (pa_cons pe_int pa_nil)))) (pa_cons (pe_tupl N.tuple (pv 7)) pa_nil)))) pa_nil)))))))))
      (pss_one (ps_ret (pe_tup (pa_cons (pv 1) (pa_cons (pv 4) (pa_cons (pe_tupl N.tuple (pv 5)) pa_nil))))))))), ?_⟩
    -- dyes_here, vats
    refine ⟨_, rfl, r, 4, a, ns, rfl, by decide, by decide, R0, hs, fun H1 v1 m1 R1 a1 b1 => ⟨1, v1, rfl, rfl, _, rfl, r, 4, a, ns, rfl, by decide, by decide, R1, R0.sq hs m1, fun H2 v2 m2 R2 a2 b2 => ⟨1, v2, rfl, rfl, by show 2 ≤ sizeLine; decide, fun t nt => ⟨t, _, rfl, SqT.of upd_same, rfl, _, _, rfl, _, _, rfl, rfl, ?_⟩⟩⟩⟩
    have s3 : WS r a H (upd H2 t (.tup [.int (1 + v1), .int (1 + v2)])) := WS.add ⟨m1.trans m2, R2⟩ nt
    show tSeq _ _ _ [some (.ref r), some (.int (1 + v1)), some (.int (1 + v2)), none, none, none, none, none, none, none, none, none, none] (upd H2 t (.tup [.int (1 + v1), .int (1 + v2)]))
    generalize hd : 1 + v1 = d at s3 ⊢
    generalize hvv : 1 + v2 = v at s3 ⊢
    generalize upd H2 t (.tup [.int d, .int v]) = H3 at s3 ⊢
    have d1 : 1 ≤ d ∧ d ≤ 4 := by omega
    have vb : 1 ≤ v ∧ v ≤ 4 := by omega
    clear hd hvv a1 b1 a2 b2 m1 m2 R1 R2 nt v1 v2
    have sq : ∀ {H' : Hp}, WS r a H H' → SqL K H' a (List.map V.int ns) := fun {H'} s => R0.sq hs s.mv
    have dd : 0 ≤ d := by omega
    -- own
    refine ⟨_, rfl, v, rfl, by omega, by omega, fun D hD => ?_⟩
    have nD := s3.none hD
    have Dr := s3.rv.ne hD
    refine gw wl_rng (fun j H' => WS r a H H' ∧ ∃ ps ls, H' D = some (.lst ps) ∧ Paired (IsL H') ps ls ∧ (∀ l ∈ ls, LotOk d l) ∧ ls.length = j) ⟨s3.add hD, [], [], upd_same, .nil, (fun l hl => nomatch hl), rfl⟩ (fun _ _ _ _ => trivial) ?_ ?_
    · rintro j x H4 H4' hj ⟨s4, ps, ls, hps, pr, lok, ln⟩ ⟨rfl, rfl⟩
      refine ⟨rfl, _, rfl, _, rfl, r, d, 2, a, ns, rfl, dd, d1.2, by decide, by decide, s4.rv, sq s4, fun H5 y xs m5 R5 iy ly => ?_⟩
      have s5 := s4.then m5 R5
      have hD5 := m5 D _ Dr hps
      refine ⟨ps, hD5, by rw [Paired.length pr, ln, sizeLine_eq]; omega, s5.put nD Dr, ps ++ [y], ls ++ [xs], upd_same, pr_snoc (Paired.mapP pr fun _ _ q => (q.keep (m5.ktR s4.rv)).keep (put_kt hD5)) (iy.keep (put_kt hD5)), fun l hl => ?_, by rw [List.length_append, ln] <;> rfl⟩
      rcases List.mem_append.mp hl with h | h
      · exact lok l h
      · rw [List.mem_singleton.mp h]; exact ly
    · rintro H4 ⟨s4, ps, ls, hps, pr, lok, ln⟩
      refine ⟨D, ps, rfl, .inl ⟨SqL.of hps, fun o no => ?_⟩⟩
      have s5 := s4.add (o := .tup ps) no
      have io : IsS (upd H4 o (.tup ps)) (.ref o) ls := ⟨o, ps, rfl, upd_same, Paired.mapP pr fun _ _ q => q.keep (add_kt no)⟩
      show tSeq _ _ _ _ (upd H4 o (.tup ps))
      generalize upd H4 o (.tup ps) = H5 at s5 io ⊢
      clear pr hps
      -- kinds
      refine ⟨by show 0 ≤ sizeLine; decide, fun Lk nk => ?_⟩
      have nk0 := s5.none nk
      have kr := s5.rv.ne nk
      have s6 := s5.add (o := .lst []) nk
      have io6 := io.keep (add_kt (o := .lst []) nk)
      have hk6 : (upd H5 Lk (.lst [])) Lk = some (.lst []) := upd_same
      show tSeq _ _ _ _ (upd H5 Lk (.lst []))
      generalize upd H5 Lk (.lst []) = H6 at s6 io6 hk6 ⊢
      refine ⟨_, rfl, r, 3, a, ns, rfl, by decide, by decide, s6.rv, sq s6, fun H7 v3 m7 R7 a3 b3 => ⟨1, v3, rfl, rfl, _, rfl, by omega, by omega, ?_⟩⟩
      have s7 := s6.then m7 R7
      have io7 := io6.keep (m7.ktR s6.rv)
      have hk7 := m7 Lk _ kr hk6
      refine for_wlk wl_rng (fun i σ H' => ∃ o3 o6 o7 o8 o9 o10 pk ks, σ = [some (.ref r), some (.int d), some (.int v), o3, some (.ref o), some (.ref Lk), o6, o7, o8, o9, o10, none, none] ∧ WS r a H H' ∧ H' Lk = some (.lst pk) ∧ Paired (IsK H') pk ks ∧ IsS H' (.ref o) ls ∧ (∀ k ∈ ks, KindOk d ls.length k) ∧ ks.length = i)
        ⟨none, none, none, none, none, none, [], [], rfl, s7, hk7, .nil, io7, (fun k hk => nomatch hk), rfl⟩ (fun _ _ _ _ _ => trivial) ?_ ?_
      · rintro i x σ H8 H8' hi ⟨o3, o6, o7, o8, o9, o10, pk, ks, rfl, s8, hk8, prk, io8, kok, lk⟩ ⟨rfl, rfl⟩
        have i3 : i < 3 := by omega
        -- routes
        refine ⟨by show 0 ≤ sizeLine; decide, fun Lr nr => ?_⟩
        have nr0 := s8.none nr
        have rr := s8.rv.ne nr
        have nkr : Lk ≠ Lr := ne_of_none hk8 nr
        have s9 := s8.add (o := .lst []) nr
        have kt9 := add_kt (o := .lst []) nr
        have hk9 : (upd H8' Lr (.lst [])) Lk = some (.lst pk) := by rw [upd_ne nkr]; exact hk8
        have hr9 : (upd H8' Lr (.lst [])) Lr = some (.lst []) := upd_same
        have io9 := io8.keep kt9
        have prk9 : Paired (IsK (upd H8' Lr (.lst []))) pk ks := Paired.mapP prk fun _ _ q => q.keep kt9
        show tSeq _ _ _ _ (upd H8' Lr (.lst []))
        generalize upd H8' Lr (.lst []) = H9 at s9 hk9 hr9 io9 prk9 ⊢
        refine ⟨_, rfl, r, 4, a, ns, rfl, by decide, by decide, s9.rv, sq s9, fun HA v4 mA RA a4 b4 => ⟨1, v4, rfl, rfl, _, rfl, by omega, by omega, ?_⟩⟩
        have sA := s9.then mA RA
        have ktA := mA.ktR s9.rv
        refine for_wlk wl_rng (fun j σ H' => ∃ o8 pr rs, σ = [some (.ref r), some (.int d), some (.int v), o3, some (.ref o), some (.ref Lk), some (.int (0 + (i : Nat))), some (.ref Lr), o8, o9, o10, none, none] ∧ WS r a H H' ∧ H' Lk = some (.lst pk) ∧ Paired (IsK H') pk ks ∧ IsS H' (.ref o) ls ∧ H' Lr = some (.lst pr) ∧ Paired (IsL H') pr rs ∧ (∀ x ∈ rs, RouteOk ls.length x) ∧ rs.length = j)
          ⟨o8, [], [], rfl, sA, mA Lk _ kr hk9, Paired.mapP prk9 fun _ _ q => q.keep ktA, io9.keep ktA, mA Lr _ rr hr9, .nil, (fun x hx => nomatch hx), rfl⟩ (fun _ _ _ _ _ => trivial) ?_ ?_
        · rintro j x σ HB HB' hj ⟨o8, pr, rs, rfl, sB, hkB, prkB, ioB, hrB, prrB, rok, lr⟩ ⟨rfl, rfl⟩
          refine ⟨_, rfl, .inl ⟨rfl, _, SqL.of hrB⟩, _, rfl, r, 3, a, ns, rfl, by decide, by decide, sB.rv, sq sB, fun HC v5 mC RC a5 b5 => ⟨1, v5, rfl, rfl, _, rfl, by omega, by omega, fun D hD => ?_⟩⟩
          have sC := sB.then mC RC
          have ktC := mC.ktR sB.rv
          have nD := sC.none hD
          have Dr := sC.rv.ne hD
          refine gw wl_rng (fun m H' => WS r a H H' ∧ Mv r HC H' ∧ ∃ xs : List Int, H' D = some (.lst (xs.map V.int)) ∧ xs.length = m ∧ ∀ z ∈ xs, 0 ≤ z ∧ z < v) ⟨sC.add hD, add_mv hD, [], upd_same, rfl, fun z hz => nomatch hz⟩ (fun _ _ _ _ => trivial) ?_ ?_
          · rintro m y HD HD' hm ⟨sD, mD, xs, hxs, lx, bx⟩ ⟨rfl, rfl⟩
            refine ⟨rfl, _, rfl, _, rfl, r, v, a, ns, rfl, vb.1, by omega, sD.rv, sq sD, fun HE y2 mE RE a6 b6 => ?_⟩
            have hDE := mE D _ Dr hxs
            refine ⟨xs.map V.int, hDE, by rw [List.length_map, sizeLine_eq]; omega, (sD.then mE RE).put nD Dr, (mD.trans mE).put hD, xs ++ [y2], by rw [upd_same, List.map_append] <;> rfl, by rw [List.length_append, lx] <;> rfl, fun z hz => ?_⟩
            rcases List.mem_append.mp hz with h | h
            · exact bx z h
            · rw [List.mem_singleton.mp h]; exact ⟨a6, b6⟩
          · rintro HD ⟨sD, mD, xs, hxs, lx, bx⟩
            have ktD := ktC.trans (mD.ktR sC.rv)
            have hrD := mD Lr _ rr (mC Lr _ rr hrB)
            have hkD := mD Lk _ kr (mC Lk _ kr hkB)
            refine ⟨D, _, rfl, .inl ⟨SqL.of hxs, fun u nu => ?_⟩⟩
            have nru : Lr ≠ u := ne_of_none hrD nu
            have nku : Lk ≠ u := ne_of_none hkD nu
            have hrE : (upd HD u (.tup (xs.map V.int))) Lr = some (.lst pr) := by rw [upd_ne nru]; exact hrD
            refine ⟨Lr, pr, _, rfl, rfl, hrE, by rw [Paired.length prrB, lr, sizeLine_eq]; omega, ?_⟩
            have kE := ktD.trans ((add_kt (o := .tup (xs.map V.int)) nu).trans (put_kt (o := .lst (pr ++ [.ref u])) hrE))
            refine ⟨_, pr ++ [.ref u], rs ++ [xs], rfl, (sD.add nu).put nr0 rr, by rw [upd_ne nkr, upd_ne nku]; exact hkD, Paired.mapP prkB fun _ _ q => q.keep kE, ioB.keep kE, upd_same, pr_snoc (Paired.mapP prrB fun _ _ q => q.keep kE) ⟨u, rfl, put_kt (o := .lst (pr ++ [.ref u])) hrE _ _ upd_same⟩, fun z hz => ?_, by rw [List.length_append, lr] <;> rfl⟩
            rcases List.mem_append.mp hz with h | h
            · exact rok z h
            · rw [List.mem_singleton.mp h]
              exact ⟨by omega, fun z hz => by have := bx z hz; omega⟩
        · rintro σ HB ⟨o8, pr, rs, rfl, sB, hkB, prkB, ioB, hrB, prrB, rok, lr⟩
          -- wants
          refine ⟨_, rfl, _, rfl, r, d, 5, a, ns, rfl, dd, d1.2, by decide, by decide, sB.rv, sq sB, fun HE wv wl mE RE iw lw => ?_⟩
          have sE := sB.then mE RE
          refine ⟨_, rfl, r, 2, a, ns, rfl, by decide, by decide, sE.rv, sq sE, fun HF v6 mF RF a6 b6 => ⟨rfl, _, rfl, ?_⟩⟩
          have sF := sE.then mF RF
          have ktF := (mE.ktR sB.rv).trans (mF.ktR sE.rv)
          have hkF := mF Lk _ kr (mE Lk _ kr hkB)
          have hrF := mF Lr _ rr (mE Lr _ rr hrB)
          have ioF := ioB.keep ktF
          have prkF : Paired (IsK HF) pk ks := Paired.mapP prkB fun _ _ q => q.keep ktF
          have prrF : Paired (IsL HF) pr rs := Paired.mapP prrB fun _ _ q => q.keep ktF
          have iwF := iw.keep (mF.ktR sE.rv)
          have lwF := lw
          by_cases e0 : V.int v6 = V.int 0
          · refine iteT' (decide_eq_true e0) ?_
            -- owns
            refine ⟨by show 0 ≤ sizeLine; decide, fun Lo no => ?_⟩
            have r0 : 0 < rs.length := by omega
            obtain ⟨rv0, hrv0, ir0⟩ := pr_get2 prrF (List.getElem?_eq_getElem r0)
            obtain ⟨ra, rfl, hra⟩ := ir0
            have ok0 := rok rs[0] (List.getElem_mem r0)
            have sG := sF.add (o := .lst []) no
            have mG := add_mv (r := r) (o := .lst []) no
            have nrLo : Lr ≠ Lo := ne_of_none hrF no
            refine ⟨_, rfl, Lr, _, _, _, rfl, rfl, SqL.of (by rw [upd_ne nrLo]; exact hrF), atI_nat (j := 0) hrv0, ra, rfl, ⟨_, SqT.of (add_kt no _ _ hra)⟩, ?_⟩
            refine for_wlk wl_tup (fun j σ H' => ∃ o3 lo xs, σ = [some (.ref r), some (.int d), some (.int v), o3, some (.ref o), some (.ref Lk), some (.int (0 + (i : Nat))), some (.ref Lr), o8, some wv, some (.ref lo), none, none] ∧ WS r a H H' ∧ Mv r HF H' ∧ H' lo = some (.lst (List.map V.int xs)) ∧ xs.length ≤ 4 * j)
              ⟨o3, Lo, [], rfl, sG, mG, upd_same, Nat.le_refl _⟩ (fun j σ H' _ ⟨_, _, _, _, _, m, _⟩ => SqT.of (m.ktR sF.rv _ _ hra)) ?_ ?_
            · rintro j x σ HG HG' hj ⟨o3, lo, xs, rfl, sG, mG, hlo, lx⟩ ⟨rfl, hx⟩
              obtain ⟨z, hz, rfl⟩ := map_get hx
              have zb := ok0.2 z (mem_at hz)
              obtain ⟨oo, os, e1, ho, po⟩ := ioF.keep (mG.ktR sF.rv)
              cases e1
              have zl : z.toNat < ls.length := by omega
              obtain ⟨y, hy, iy⟩ := pr_get2 po (List.getElem?_eq_getElem zl)
              obtain ⟨la, rfl, hla⟩ := iy
              have ly := (lok _ (List.getElem_mem zl)).len
              have jl := (List.getElem?_eq_some_iff.mp hz).1
              have r3 := ok0.1.2
              refine ⟨_, rfl, _, rfl, _, rfl, o, _, _, _, rfl, rfl, SqT.of ho, atI_at zb.1 hy, la, _, rfl, .inr (SqT.of hla), fun l2 nl2 => ?_⟩
              have nlo2 : lo ≠ l2 := ne_of_none hlo nl2
              refine ⟨lo, l2, _, _, rfl, rfl, by rw [upd_ne nlo2]; exact hlo, upd_same, by rw [List.length_map, List.length_map, sizeLine_eq]; omega, fun p np => ?_⟩
              refine ⟨_, p, xs ++ ls[z.toNat], rfl, (sG.add nl2).add np, (mG.add nl2).add np, by rw [upd_same, List.map_append], by rw [List.length_append]; omega⟩
            · rintro σ HG ⟨o3, lo, xs, rfl, sG, mG, hlo, lx⟩
              obtain ⟨wa, rfl, hwa⟩ := iwF.keep (mG.ktR sF.rv)
              have wlen := lw.len
              refine ⟨_, rfl, wa, rfl, ⟨_, SqT.of hwa⟩, fun D hD => ?_⟩
              have nD := sG.none hD
              have Dr := sG.rv.ne hD
              have nloD : lo ≠ D := ne_of_none hlo hD
              refine gw wl_tup (fun j H' => WS r a H H' ∧ Mv r HG H' ∧ H' lo = some (.lst (xs.map V.int)) ∧ H' D = some (.lst (((wl.take j).filter fun z => decide (z ∈ xs)).map V.int))) ⟨sG.add hD, add_mv hD, by rw [upd_ne nloD]; exact hlo, upd_same⟩ (fun j H' _ k => SqT.of (k.2.1.ktR sG.rv _ _ hwa)) ?_ ?_
              · rintro j x HH HH' hj ⟨sH, mH, hloH, hDH⟩ ⟨rfl, hx⟩
                obtain ⟨z, hz, rfl⟩ := map_get hx
                have jl := (List.getElem?_eq_some_iff.mp hz).1
                refine ⟨rfl, _, rfl, _, rfl, z, lo, xs, rfl, rfl, .inr hloH, _, rfl, ?_⟩
                rw [filter_snoc hz]
                by_cases e1 : z ∈ xs
                · refine iteT' (decide_eq_true e1) ⟨_, rfl, _, hDH, ?_, sH.put nD Dr, mH.put hD, by rw [upd_ne nloD]; exact hloH, ?_⟩
                  · have := filter_len (f := fun z => decide (z ∈ xs)) (xs := wl) j
                    rw [List.length_map, sizeLine_eq]
                    omega
                  · rw [upd_same, if_pos (decide_eq_true e1), List.map_append] <;> rfl
                · refine iteF' (decide_eq_false e1) ⟨sH, mH, hloH, ?_⟩
                  rw [if_neg (by simpa using e1), List.append_nil]
                  exact hDH
              · rintro HH ⟨sH, mH, hloH, hDH⟩
                rw [List.length_map, List.take_length] at hDH
                refine ⟨D, _, rfl, .inl ⟨SqL.of hDH, fun u nu => ?_⟩⟩
                have sF := sH.add (o := .tup ((wl.filter fun z => decide (z ∈ xs)).map V.int)) nu
                have mm := (mG.trans mH).add (o := .tup ((wl.filter fun z => decide (z ∈ xs)).map V.int)) nu
                have kk := mm.ktR ‹WS r a H HF›.rv
                have hkF := mm Lk _ kr hkF
                have hrF := mm Lr _ rr hrF
                have ioF := ioF.keep kk
                have prkF : Paired (IsK (upd HH u (.tup ((wl.filter fun z => decide (z ∈ xs)).map V.int)))) pk ks := Paired.mapP prkF fun _ _ q => q.keep kk
                have prrF : Paired (IsL (upd HH u (.tup ((wl.filter fun z => decide (z ∈ xs)).map V.int)))) pr rs := Paired.mapP prrF fun _ _ q => q.keep kk
                have iwF : IsL (upd HH u (.tup ((wl.filter fun z => decide (z ∈ xs)).map V.int))) (.ref u) (wl.filter fun z => decide (z ∈ xs)) := ⟨u, rfl, upd_same⟩
                have lwF : LotOk d (wl.filter fun z => decide (z ∈ xs)) := ⟨lw.1.sublist List.filter_sublist, fun z hz => lw.2 z (List.mem_filter.mp hz).1⟩
                generalize (wl.filter fun z => decide (z ∈ xs)) = wl at sF hkF hrF ioF prkF prrF iwF lwF ⊢
                generalize upd HH u (.tup (wl.map V.int)) = HF at sF hkF hrF ioF prkF prrF iwF ⊢
                generalize hwv : V.ref u = wv at iwF ⊢
                -- kinds.append
                refine ⟨_, rfl, .inl ⟨rfl, _, SqL.of hkF⟩, _, rfl, _, rfl, _, rfl, r, d, 3, a, ns, rfl, dd, d1.2, by decide, by decide, sF.rv, sq sF, fun HJ bv bl mJ RJ ib lb => ⟨_, rfl, Lr, pr, rfl, .inl ⟨SqL.of (mJ Lr _ rr hrF), fun u nu => ⟨by show 3 ≤ sizeLine; decide, fun kv nkv => ?_⟩⟩⟩⟩
                have sJ := sF.then mJ RJ
                have ktJ := mJ.ktR sF.rv
                have hkJ := mJ Lk _ kr hkF
                have sK := (sJ.add (o := .tup pr) nu).add (o := .tup [wv, bv, .ref u]) nkv
                have ktK := (add_kt (o := .tup pr) nu).trans (add_kt (o := .tup [wv, bv, .ref u]) nkv)
                have nuk : u ≠ kv := fun z => by rw [← z, upd_same] at nkv; cases nkv
                have nku : Lk ≠ u := ne_of_none hkJ nu
                have hkK : (upd (upd HJ u (.tup pr)) kv (.tup [wv, bv, .ref u])) Lk = some (.lst pk) := by
                  rw [upd_ne (ne_of_none (by rw [upd_ne nku]; exact hkJ) nkv), upd_ne nku]
                  exact hkJ
                have ktP := put_kt (o := .lst (pk ++ [.ref kv])) hkK
                have ktA := (ktJ.trans ktK).trans ktP
                refine ⟨Lk, pk, _, rfl, rfl, hkK, by rw [Paired.length prk, lk, sizeLine_eq]; omega, ?_⟩
                refine ⟨_, _, _, _, _, _, pk ++ [.ref kv], ks ++ [⟨wl, bl, rs⟩], rfl, sK.put nk0 kr, upd_same, pr_snoc (Paired.mapP prkF fun _ _ q => q.keep ktA) ⟨kv, wv, bv, .ref u, rfl, ktP _ _ upd_same, iwF.keep ktA, ib.keep (ktK.trans ktP), ⟨u, pr, rfl, ktP _ _ (by rw [upd_ne nuk, upd_same]), Paired.mapP prrF fun _ _ q => q.keep ktA⟩⟩, ioF.keep ktA, fun k hk => ?_, by rw [List.length_append, lk] <;> rfl⟩
                rcases List.mem_append.mp hk with h | h
                · exact kok k h
                · rw [List.mem_singleton.mp h]
                  refine ⟨lwF, lb, ?_, rok⟩
                  show 1 ≤ rs.length ∧ rs.length ≤ 4
                  omega
          · refine iteF' (decide_eq_false e0) ?_
            -- kinds.append
            refine ⟨_, rfl, .inl ⟨rfl, _, SqL.of hkF⟩, _, rfl, _, rfl, _, rfl, r, d, 3, a, ns, rfl, dd, d1.2, by decide, by decide, sF.rv, sq sF, fun HJ bv bl mJ RJ ib lb => ⟨_, rfl, Lr, pr, rfl, .inl ⟨SqL.of (mJ Lr _ rr hrF), fun u nu => ⟨by show 3 ≤ sizeLine; decide, fun kv nkv => ?_⟩⟩⟩⟩
            have sJ := sF.then mJ RJ
            have ktJ := mJ.ktR sF.rv
            have hkJ := mJ Lk _ kr hkF
            have sK := (sJ.add (o := .tup pr) nu).add (o := .tup [wv, bv, .ref u]) nkv
            have ktK := (add_kt (o := .tup pr) nu).trans (add_kt (o := .tup [wv, bv, .ref u]) nkv)
            have nuk : u ≠ kv := fun z => by rw [← z, upd_same] at nkv; cases nkv
            have nku : Lk ≠ u := ne_of_none hkJ nu
            have hkK : (upd (upd HJ u (.tup pr)) kv (.tup [wv, bv, .ref u])) Lk = some (.lst pk) := by
              rw [upd_ne (ne_of_none (by rw [upd_ne nku]; exact hkJ) nkv), upd_ne nku]
              exact hkJ
            have ktP := put_kt (o := .lst (pk ++ [.ref kv])) hkK
            have ktA := (ktJ.trans ktK).trans ktP
            refine ⟨Lk, pk, _, rfl, rfl, hkK, by rw [Paired.length prk, lk, sizeLine_eq]; omega, ?_⟩
            refine ⟨_, _, _, _, _, _, pk ++ [.ref kv], ks ++ [⟨wl, bl, rs⟩], rfl, sK.put nk0 kr, upd_same, pr_snoc (Paired.mapP prkF fun _ _ q => q.keep ktA) ⟨kv, wv, bv, .ref u, rfl, ktP _ _ upd_same, iwF.keep ktA, ib.keep (ktK.trans ktP), ⟨u, pr, rfl, ktP _ _ (by rw [upd_ne nuk, upd_same]), Paired.mapP prrF fun _ _ q => q.keep ktA⟩⟩, ioF.keep ktA, fun k hk => ?_, by rw [List.length_append, lk] <;> rfl⟩
            rcases List.mem_append.mp hk with h | h
            · exact kok k h
            · rw [List.mem_singleton.mp h]
              refine ⟨lwF, lb, ?_, rok⟩
              show 1 ≤ rs.length ∧ rs.length ≤ 4
              omega
      · rintro σ H8 ⟨o3, o6, o7, o8, o9, o10, pk, ks, rfl, s8, hk8, prk, io8, kok, lk⟩
        refine ⟨_, rfl, _, rfl, _, rfl, Lk, pk, rfl, .inl ⟨SqL.of hk8, fun b nb => ⟨by show 3 ≤ sizeLine; decide, fun u nu => ?_⟩⟩⟩
        have s9 := (s8.add (o := .tup pk) nb).add (o := .tup [.int d, .ref o, .ref b]) nu
        have kt := (add_kt (o := .tup pk) nb).trans (add_kt (o := .tup [.int d, .ref o, .ref b]) nu)
        have nbu : b ≠ u := fun z => by rw [← z, upd_same] at nu; cases nu
        refine q _ _ ⟨d, ls, ks⟩ s9.mv s9.rv ⟨u, .ref o, b, pk, rfl, upd_same, io8.keep kt, by rw [upd_ne nbu, upd_same], Paired.mapP prk fun _ _ q => q.keep kt⟩ ⟨d1, ?_, lok, ?_, kok⟩
        · show 1 ≤ ls.length ∧ ls.length ≤ 4
          omega
        · show 1 ≤ ks.length ∧ ks.length ≤ 3
          omega
end
end Dw

/-! part DwS -/
set_option Elab.async false
set_option linter.all false
set_option maxRecDepth 100000
set_option maxHeartbeats 4000000
/-! _law_pass, _law_stands -/
namespace Dw
open PySem PySem.Spec PyProof.Rows L2 GenW
/-- a list of ints -/
def IsLL (H : Hp) (v : V) (xs : Lot) : Prop := ∃ a, v = .ref a ∧ H a = some (.lst (xs.map V.int))
theorem IsLL.keep {H H' : Hp} {v : V} {xs : Lot} (h : IsLL H v xs) (k : KL H H') : IsLL H' v xs := by
  obtain ⟨a, e, h⟩ := h
  exact ⟨a, e, k _ _ h⟩
theorem pr_set' {R : V → Lot → Prop} : ∀ {xs : List V} {ys : List Lot}, Paired R xs ys → ∀ {x : V} {y : Lot}, R x y → ∀ i, Paired R (xs.set i x) (ys.set i y)
  | _, _, .nil, _, _, _, _ => .nil
  | _, _, .cons _ t, _, _, q, 0 => .cons q t
  | _, _, .cons r t, _, _, q, i + 1 => .cons r (pr_set' t q i)
def spPass : Sp := fun vs H Q _ => ∃ u v s r m, vs = [u, v] ∧ IsS H u s ∧ IsL H v r ∧ SOk m s ∧ m ≤ 4 ∧ s.length ≤ 4 ∧ PosOk s.length r ∧ ∀ H' p, Kp H H' → IsP H' p (beh s r) → Q p H'
section
variable {P : Program} {w : World} {K : PySem.W.Frag} {mg : Str → Option Value} {base : Heap}
abbrev n44 : List Str := ["_law_stand", "_law_route", "_law_traces", "_law_carried", "_law_vat", "_law_lot"]
theorem sc44 : FnScope n44 ["_law_stand", "_law_route"] (defScope (st 44)) := ⟨rfl, rfl, rfl, by decide +kernel, rfl, by decide +kernel, by decide +kernel⟩
theorem d_pass (D : DefAt K mg "_law_pass" (st 44)) (N : Nm mg) : Df P w K mg base "_law_pass" 1 ["_law_stand", "_law_route"] spPass := by
  refine D.df sc44 (fun vs H Q E h => ?_) (fun _ _ _ _ _ _ us hl => match us, hl with | [_, _], _ => rfl) (fun f cdv A outer sh H vs Q E hr h => ?_)
  · obtain ⟨u, v, s, r, m, rfl, _⟩ := h
    rfl
  · obtain ⟨u, v, s, r, m, rfl, hu, hv, ok, hm, s4, ps, q⟩ := h
    refine ⟨_, pss_cons (ps_par (i := 2) (j := 3) rfl sc44.nd rfl rfl (by decide) rfl rfl (pa_cons (pe_lc (own := [("_law_lot", 5)]) (g := gName 5) (tt := tYes) rfl sc44.nd (pi_tup (pv 0)) (blkOk_by (N := n44) (sc := defScope (st 44)) (by decide +kernel))
          (fun _ _ _ _ _ => pg_name (i := 5) sc44.nd rfl (Or.inl rfl)) (fun _ _ _ _ _ => pts_nil) (fun _ _ _ _ _ => pe_listK K N.list (pv 5))) (pa_cons (pe_lst pa_nil) pa_nil)) (by rfl))
      (pss_cons (ps_for PassesOwn.never rfl (pi_tup (pv 1)) (pg_name (i := 4) sc44.nd rfl (Or.inl rfl))
        (pss_cons (ps_set (i := 3) sc44.nd rfl (Or.inl rfl) (pe_srt rfl N.sorted N.set (pe_op op_cat (pv 3) (pe_ix ix_list (pv 2) (pv 4) (fun _ _ => rfl)))))
        (pss_one (ps_asg (pe_list N.list (pv 3)) (pg_sub (pv 2) (pv 4) set_list)))))
      (pss_one (ps_ret (pe_tup (pa_cons (pe_tupl N.tuple (pe_lc (own := [("_law_lot", 5)]) (g := gName 5) (tt := tYes) rfl sc44.nd (pi_list (pv 2)) (blkOk_by (N := n44) (sc := defScope (st 44)) (by decide +kernel))
          (fun _ _ _ _ _ => pg_name (i := 5) sc44.nd rfl (Or.inl rfl)) (fun _ _ _ _ _ => pts_nil) (fun _ _ _ _ _ => pe_tuplK K N.tuple (pv 5)))) (pa_cons (pe_tupl N.tuple (pv 3)) pa_nil)))))), ?_⟩
    obtain ⟨a, ls, rfl, ha, pl⟩ := id hu
    obtain ⟨b, rfl, hb⟩ := id hv
    have lls := Paired.length pl
    refine ⟨_, rfl, a, rfl, ⟨_, SqT.of ha⟩, fun D hD => ?_⟩
    refine gw wl_tup (fun j H' => Kp H H' ∧ ∃ acc, H' D = some (.lst acc) ∧ Paired (fun v xs => IsLL H' v xs ∧ v ≠ .ref D) acc (s.take j)) ⟨(Kp.refl H).add hD, [], upd_same, .nil⟩ (fun j H' _ k => SqT.of (k.1.tup ha)) ?_ ?_
    · rintro j x H1 H1' hj ⟨k1, acc, hacc, pra⟩ ⟨rfl, hx⟩
      obtain ⟨l, hl, il⟩ := pr_get pl hx
      obtain ⟨la, rfl, hla⟩ := il.keep k1.kt
      refine ⟨rfl, _, rfl, la, _, rfl, .inr (SqT.of hla), fun y ny => ?_⟩
      have nDy : D ≠ y := ne_of_none hacc ny
      have hD2 : (upd H1' y (.lst (l.map V.int))) D = some (.lst acc) := by rw [upd_ne nDy]; exact hacc
      refine ⟨acc, hD2, ?_, (k1.add ny).put hD hD2, acc ++ [.ref y], upd_same, ?_⟩
      · rw [Paired.length pra, List.length_take, sizeLine_eq]
        omega
      · rw [take_snoc hl]
        refine pr_snoc (Paired.mapP pra fun v xs q => ⟨?_, q.2⟩) ⟨⟨y, rfl, by rw [upd_ne nDy.symm, upd_same]⟩, fun z => nDy (V.ref.inj z).symm⟩
        obtain ⟨⟨c, rfl, hc⟩, ne⟩ := q
        exact ⟨c, rfl, by rw [upd_ne fun z => ne (by rw [z]), upd_ne (ne_of_none hc ny)]; exact hc⟩
    · rintro H1 ⟨k1, acc, hacc, pra⟩
      rw [lls, List.take_length] at pra
      refine ⟨by show 0 ≤ sizeLine; decide, fun c0 nc => ⟨_, _, rfl, ?_⟩⟩
      have nDc : D ≠ c0 := ne_of_none hacc nc
      have k2 := k1.add (o := .lst []) nc
      refine ⟨_, rfl, b, rfl, ⟨_, SqT.of (k2.tup hb)⟩, ?_⟩
      refine for_wlk wl_tup (fun i σ H' => ∃ (c : V) (pt : List V) (o4 : Option V), σ = [some (.ref a), some (.ref b), some (.ref D), some c, o4, none] ∧ Kp H H' ∧ H' D = some (.lst pt) ∧ Paired (fun v xs => IsLL H' v xs ∧ v ≠ .ref D) pt ((r.take i).foldl beh1 (s, [])).1 ∧ IsLL H' c ((r.take i).foldl beh1 (s, [])).2 ∧ c ≠ .ref D)
        ⟨.ref c0, acc, none, rfl, k2, by rw [upd_ne nDc]; exact hacc, Paired.mapP pra fun v xs ⟨⟨d, e, h⟩, ne⟩ => ⟨⟨d, e, by rw [upd_ne (ne_of_none h nc)]; exact h⟩, ne⟩, ⟨c0, rfl, upd_same⟩, fun z => nDc (V.ref.inj z).symm⟩ (fun i σ H' _ ⟨_, _, _, _, k, _⟩ => SqT.of (k.tup hb)) ?_ ?_
      · rintro i x σ H3 H3' hi ⟨c, pt, o4, rfl, k3, hD3, pr, ic, nc⟩ ⟨rfl, hx⟩
        obtain ⟨z, hz, rfl⟩ := map_get hx
        have zp := ps z (mem_at hz)
        obtain ⟨o1, o2, o3⟩ := behF_ok (m := m) (r := r.take i) (t := (s, [])) ok (.nil m)
        have step : (r.take (i + 1)).foldl beh1 (s, []) = beh1 ((r.take i).foldl beh1 (s, [])) z := by
          rw [take_snoc hz, List.foldl_append] <;> rfl
        generalize (r.take i).foldl beh1 (s, []) = T at *
        have lt : z.toNat < T.1.length := by
          have : T.1.length = s.length := o3
          omega
        have lpt := Paired.length pr
        obtain ⟨y, hy, ⟨ya, rfl, hya⟩, ny⟩ := pr_get2 pr (List.getElem?_eq_getElem lt)
        have eg : T.1.getD z.toNat [] = T.1[z.toNat] := by rw [List.getD_eq_getElem?_getD, List.getElem?_eq_getElem lt] <;> rfl
        have l1 := o2.len
        have l2 := (o1.getD z.toNat).len
        rw [eg] at l2
        obtain ⟨ca, rfl, hca⟩ := ic
        refine ⟨_, rfl, _, rfl, _, rfl, D, pt, _, _, rfl, rfl, SqL.of hD3, atI_at zp.1 hy, ca, ya, _, _, rfl, rfl, hca, hya, by rw [List.length_map, List.length_map, sizeLine_eq]; omega, fun p np => ?_⟩
        refine ⟨p, T.2 ++ T.1[z.toNat], rfl, .inl (SqL.of (by rw [upd_same, List.map_append])), by rw [List.length_append]; omega, fun H5 e sm ne he => ?_⟩
        have sm2 : Same H3' H5 := Same.trans (fun d u h => by rw [upd_ne (ne_of_none h np)]; exact h) sm
        have nDp : D ≠ p := ne_of_none hD3 np
        have neD : e ≠ D := fun z => by
          rw [z, upd_ne nDp, hD3] at ne
          cases ne
        refine ⟨_, rfl, e, _, rfl, .inl (SqL.of he), fun y ny => ?_⟩
        have nDy : D ≠ y := ne_of_none (sm2 _ _ hD3) ny
        have hD6 : (upd H5 y (.lst ((srt (T.2 ++ T.1[z.toNat])).map V.int))) D = some (.lst pt) := by rw [upd_ne nDy]; exact sm2 _ _ hD3
        refine ⟨_, rfl, _, rfl, D, pt, z, z.toNat, rfl, rfl, hD6, ixN_at zp.1 (by omega), .ref e, pt.set z.toNat (.ref y), _, rfl, ((k3.trans (.same sm2)).add ny).put hD hD6, upd_same, ?_⟩
        rw [step]
        unfold beh1
        rw [eg]
        have ney : e ≠ y := ne_of_none he ny
        refine ⟨pr_set' (Paired.mapP pr fun v xs q => ?_) ⟨⟨y, rfl, by rw [upd_ne nDy.symm, upd_same]⟩, fun z => nDy (V.ref.inj z).symm⟩ _, ⟨e, rfl, by rw [upd_ne neD, upd_ne ney]; exact he⟩, fun z => neD (V.ref.inj z)⟩
        obtain ⟨⟨d, rfl, hd⟩, ne⟩ := q
        exact ⟨⟨d, rfl, by rw [upd_ne fun z => ne (by rw [z]), upd_ne (ne_of_none (sm2 _ _ hd) ny)]; exact sm2 _ _ hd⟩, ne⟩
      · rintro σ H3 ⟨c, pt, o4, rfl, k3, hD3, pr, ⟨ca, rfl, hca⟩, nc⟩
        rw [List.length_map, List.take_length] at pr hca
        have fold : r.foldl beh1 (s, []) = beh s r := rfl
        rw [fold] at pr hca
        have lpt := Paired.length pr
        obtain ⟨_, _, bl⟩ := beh_ok ok r
        refine ⟨_, rfl, D, rfl, ⟨_, SqL.of hD3⟩, fun G hG => ?_⟩
        have nG := k3.nn G hG
        have nDG : D ≠ G := ne_of_none hD3 hG
        refine gw wl_list (fun j H' => Kp H H' ∧ KL H3 H' ∧ ∃ acc, H' G = some (.lst acc) ∧ Paired (IsL H') acc ((beh s r).1.take j)) ⟨k3.add hG, (fun d u e => by rw [upd_ne (ne_of_none e hG)]; exact e), [], upd_same, .nil⟩ (fun j H' _ k => SqL.of (k.2.1 _ _ hD3)) ?_ ?_
        · rintro j x H4 H4' hj ⟨k4, kl4, acc, hacc, pra⟩ ⟨rfl, hx⟩
          obtain ⟨l, hl, ⟨la, rfl, hla⟩, _⟩ := pr_get pr hx
          refine ⟨rfl, _, rfl, la, _, rfl, .inl ⟨SqL.of (kl4 _ _ hla), fun y ny => ?_⟩⟩
          have nGy : G ≠ y := ne_of_none hacc ny
          have hG2 : (upd H4' y (.tup (l.map V.int))) G = some (.lst acc) := by rw [upd_ne nGy]; exact hacc
          refine ⟨acc, hG2, ?_, (k4.add ny).put nG hG2, fun d u e => ?_, acc ++ [.ref y], upd_same, ?_⟩
          · rw [Paired.length pra, List.length_take, sizeLine_eq]
            omega
          · rw [upd_ne (ne_of_none e hG), upd_ne (ne_of_none (kl4 _ _ e) ny)]
            exact kl4 _ _ e
          · rw [take_snoc hl]
            have kk := (add_kt (o := .tup (l.map V.int)) ny).trans (put_kt (o := .lst (acc ++ [.ref y])) hG2)
            exact pr_snoc (Paired.mapP pra fun _ _ q => q.keep kk) ⟨y, rfl, put_kt (o := .lst (acc ++ [.ref y])) hG2 _ _ upd_same⟩
        · rintro H4 ⟨k4, kl4, acc, hacc, pra⟩
          rw [lpt, List.take_length] at pra
          refine ⟨G, acc, rfl, .inl ⟨SqL.of hacc, fun t nt => ?_⟩⟩
          have hc4 := kl4 _ _ hca
          have nct : ca ≠ t := ne_of_none hc4 nt
          refine ⟨_, rfl, ca, _, rfl, .inl ⟨SqL.of (by rw [upd_ne nct]; exact hc4), fun u nu => ⟨by show 2 ≤ sizeLine; decide, fun e ne => ?_⟩⟩⟩
          have kk := ((add_kt (o := .tup acc) nt).trans (add_kt (o := .tup ((beh s r).2.map V.int)) nu)).trans (add_kt (o := .tup [.ref t, .ref u]) ne)
          have ntu : t ≠ u := fun z => by rw [← z, upd_same] at nu; cases nu
          have nue : u ≠ e := fun z => by rw [← z, upd_same] at ne; cases ne
          exact q _ _ (((k4.add nt).add nu).add ne) ⟨e, _, _, rfl, upd_same, ⟨t, acc, rfl, add_kt ne _ _ (add_kt nu _ _ upd_same), Paired.mapP pra fun _ _ q => q.keep kk⟩, ⟨u, rfl, by rw [upd_ne nue, upd_same]⟩⟩
end
end Dw

/-! part DwT -/
set_option Elab.async false
set_option linter.all false
set_option maxRecDepth 100000
set_option maxHeartbeats 4000000
/-! _law_stands -/
namespace Dw
open PySem PySem.Spec PyProof.Rows L2 GenW
/-- reached from the vats -/
def Rea (W : Works) (s : Stand) : Prop := ∀ C : Stand → Prop, C W.vats → Cld W C → C s
theorem Rea.step {W : Works} {s : Stand} (h : Rea W s) {k : Kind} {r : Lot} (hk : k ∈ W.kinds) (hr : r ∈ k.routes) : Rea W (beh s r).1 := fun C c0 c1 => c1 s (h C c0 c1) k hk r hr
theorem cld_sw {W : Works} : Cld W (SW W) := fun s hs k hk r hr => by
  obtain ⟨a, _, b⟩ := beh_ok hs.1 r
  exact ⟨a, b.trans hs.2⟩
theorem Rea.sw {W : Works} (ok : WOk W) {s : Stand} (h : Rea W s) : SW W s := h (SW W) ⟨ok.vsok, rfl⟩ cld_sw
def spStands : Sp := fun vs H Q _ => ∃ u W, vs = [u, .int 80] ∧ IsW H u W ∧ WOk W ∧ (∀ H', Kp H H' → Q .non H') ∧ ∀ H' l ps U, Kp H H' → H' l = some (.lst ps) → Paired (IsS H') ps U → UOk W U → Q (.ref l) H'
/-- the law's search -/
structure LI (W : Works) (H H' : Hp) (F G : Addr) (fs gs : List Stand) : Prop where
  kp : Kp H H'
  f0 : H F = none
  g0 : H G = none
  ne : F ≠ G
  f : ∃ pf, H' F = some (.lst pf) ∧ Paired (IsS H') pf fs
  g : ∃ pg, H' G = some (.lst pg) ∧ Paired (IsS H') pg gs
  vm : W.vats ∈ fs
  rea : ∀ s ∈ fs, Rea W s
theorem LI.move {W : Works} {H H1 H2 : Hp} {F G : Addr} {fs gs : List Stand} (i : LI W H H1 F G fs gs) (k : Kp H1 H2) : LI W H H2 F G fs gs := by
  obtain ⟨pf, f1, f2⟩ := i.f
  obtain ⟨pg, g1, g2⟩ := i.g
  exact ⟨i.kp.trans k, i.f0, i.g0, i.ne, ⟨pf, k.lst f1, Paired.mapP f2 fun _ _ q => q.keep k.kt⟩, ⟨pg, k.lst g1, Paired.mapP g2 fun _ _ q => q.keep k.kt⟩, i.vm, i.rea⟩
section
variable {P : Program} {w : World} {K : PySem.W.Frag} {mg : Str → Option Value} {base : Heap}
abbrev n45 : List Str := ["_law_works_here", "_law_most", "_law_found", "_law_last", "_law_longer", "_law_stand", "_law_wants", "_law_bars", "_law_routes", "_law_route", "_law_later"]
theorem sc45 : FnScope n45 ["_law_works_here", "_law_most"] (defScope (st 45)) := ⟨rfl, rfl, rfl, by decide +kernel, rfl, by decide +kernel, by decide +kernel⟩
theorem d_stands (D : DefAt K mg "_law_stands" (st 45)) (N : Nm mg) (Dp : Df P w K mg base "_law_pass" 1 ["_law_stand", "_law_route"] spPass) : Df P w K mg base "_law_stands" 2 ["_law_works_here", "_law_most"] spStands := by
  refine D.df sc45 (fun vs H Q E h => ?_) (fun _ _ _ _ _ _ us hl => match us, hl with | [_, _], _ => rfl) (fun f cdv A outer sh H vs Q E hr h => ?_)
  · obtain ⟨u, W, rfl, _⟩ := h
    rfl
  · obtain ⟨u, W, rfl, hu, ok, qn, q⟩ := h
    have hU : (A.deeper (envOfC "_law_stands" (defScope (st 45)) sh.heap.objs.size f cdv)).units + 65 < cLine := by have := hr.un; omega
    refine ⟨_, pss_cons (ps_par (i := 2) (j := 3) rfl sc45.nd rfl rfl (by decide) rfl rfl (pa_cons (pe_lst (pa_cons (pe_ix ix_tup (pv 0) pe_int (fun _ _ => rfl)) pa_nil)) (pa_cons (pe_lst (pa_cons (pe_ix ix_tup (pv 0) pe_int (fun _ _ => rfl)) pa_nil)) pa_nil)) (by rfl))
      (pss_cons (ps_while PassesOwn.never (pt_cmpR (op_neNil hr.units) (pv 3) (pe_lst pa_nil) (nomark _))
        (pss_cons (ps_set (i := 4) sc45.nd rfl (Or.inl rfl) (pe_lst pa_nil))
        (pss_cons (ps_for PassesOwn.never rfl (pi_list (pv 3)) (pg_name (i := 5) sc45.nd rfl (Or.inl rfl))
          (pss_one (ps_for PassesOwn.never rfl (pi_tup (pe_ix ix_tup (pv 0) pe_int (fun _ _ => rfl))) (pg_tup rfl (pgs_cons (pg_name (i := 6) sc45.nd rfl (Or.inl rfl)) (pgs_cons (pg_name (i := 7) sc45.nd rfl (Or.inl rfl)) (pgs_cons (pg_name (i := 8) sc45.nd rfl (Or.inl rfl)) pgs_nil))))
            (pss_one (ps_for PassesOwn.never rfl (pi_tup (pv 8)) (pg_name (i := 9) sc45.nd rfl (Or.inl rfl))
              (pss_cons (ps_set (i := 10) sc45.nd rfl (Or.inl rfl) (pe_ix ix_tup (pe_df Dp hr (by rfl) (pa_cons (pv 5) (pa_cons (pv 9) pa_nil))) pe_int (fun _ _ => rfl)))
              (pss_one (ps_if (pt_cmpR (op_notInSL hU) (pv 10) (pv 2) (by with_unfolding_all rfl))
                (pss_cons (ps_expr (pe_bm PySem.F.plainAttrs_list PySem.F.slot_list_append PySem.F.type_list_append mt_append (pv 2) (pa_cons (pv 10) pa_nil)))
                (pss_one (ps_expr (pe_bm PySem.F.plainAttrs_list PySem.F.slot_list_append PySem.F.type_list_append mt_append (pv 4) (pa_cons (pv 10) pa_nil)))))
                pss_nil))))))))
        (pss_cons (ps_if (pt_cmpR op_gt (pe_len N.len (pv 2)) (pv 1) (nomark _)) (pss_one (ps_ret pe_non)) pss_nil)
        (pss_one (ps_set (i := 3) sc45.nd rfl (Or.inl rfl) (pv 4)))))))
      (pss_one (ps_ret (pv 2)))), ?_⟩
    obtain ⟨a, y, b, ks, rfl, ha, hy, hb, pk⟩ := id hu
    have lks := Paired.length pk
    have kf := ok.kfew
    refine ⟨_, rfl, a, _, _, _, rfl, rfl, SqT.of ha, atI_nat (j := 1) rfl, by show 1 ≤ sizeLine; decide, fun F nF => ?_⟩
    have kF := (Kp.refl H).add (o := .lst [y]) nF
    refine ⟨_, rfl, a, _, _, _, rfl, rfl, SqT.of (kF.tup ha), atI_nat (j := 1) rfl, by show 1 ≤ sizeLine; decide, fun G nG => ⟨_, _, rfl, ?_⟩⟩
    have kG := kF.add (o := .lst [y]) nG
    have nFG : F ≠ G := fun z => by rw [← z, upd_same] at nG; cases nG
    have I0 : LI W H (upd (upd H F (.lst [y])) G (.lst [y])) F G [W.vats] [W.vats] := ⟨kG, nF, kF.nn G nG, nFG, ⟨[y], by rw [upd_ne nFG, upd_same], .cons (hy.keep kG.kt) .nil⟩, ⟨[y], upd_same, .cons (hy.keep kG.kt) .nil⟩, List.mem_singleton_self _, fun s hs => by rw [List.mem_singleton.mp hs]; exact fun C c0 _ => c0⟩
    refine ⟨fun m σ H' => ∃ G fs gs o4 o5 o6 o7 o8 o9 o10, m = (if gs = [] then 0 else 82 - fs.length) ∧ σ = [some (.ref a), some (.int 80), some (.ref F), some (.ref G), o4, o5, o6, o7, o8, o9, o10] ∧ LI W H H' F G fs gs ∧ fs.Nodup ∧ (∀ s ∈ gs, s ∈ fs) ∧ gs.length ≤ fs.length ∧ (∀ s ∈ fs, s ∈ gs ∨ ∀ k ∈ W.kinds, ∀ r ∈ k.routes, (beh s r).1 ∈ fs) ∧ fs.length ≤ 80,
      ⟨_, G, [W.vats], [W.vats], none, none, none, none, none, none, none, rfl, rfl, I0, by simp, fun s h => h, Nat.le_refl _, fun s h => .inl h, by show 1 ≤ 80; decide⟩, ?_⟩
    rintro m σ H1 ⟨G, fs, gs, o4, o5, o6, o7, o8, o9, o10, rfl, rfl, I1, nd, sub, gl, cl, f80⟩
    obtain ⟨pg, hG, prG⟩ := id I1.g
    have lpg := Paired.length prG
    refine ⟨_, rfl, by show 0 ≤ sizeLine; decide, fun e ne => ?_⟩
    have nGe : G ≠ e := ne_of_none hG ne
    have I2 := I1.move ((Kp.refl H1).add (o := .lst []) ne)
    have hG2 : (upd H1 e (.lst [])) G = some (.lst pg) := by rw [upd_ne nGe]; exact hG
    refine ⟨G, pg, e, rfl, hG2, nst_stands (Paired.mapP prG fun _ _ q => q.keep (add_kt ne)), rfl, upd_same, _, rfl, ?_⟩
    by_cases e0 : gs = []
    · subst e0
      have : pg = [] := List.length_eq_zero_iff.mp lpg
      subst this
      refine iteF ⟨_, rfl, ?_⟩
      obtain ⟨pf, hF, prF⟩ := I2.f
      exact q _ F pf fs I2.kp hF prF ⟨I2.vm, fun s hs k hk r hr => (cl s hs).elim (fun z => nomatch z) fun z => z k hk r hr, f80, fun C c0 c1 s hs => I2.rea s hs C c0 c1⟩
    · have pgne : pg ≠ [] := fun z => e0 (List.length_eq_zero_iff.mp (by rw [← lpg, z] <;> rfl))
      refine iteT' (by cases pg <;> simp_all) ⟨fun σ' H' => ∃ G' gs' ls o4 o5 o6 o7 o8 o9 o10, σ' = [some (.ref a), some (.int 80), some (.ref F), some (.ref G'), o4, o5, o6, o7, o8, o9, o10] ∧ LI W H H' F G' (fs ++ ls) ls ∧ gs' = ls ∧ (fs ++ ls).Nodup ∧ (∀ t ∈ gs, ∀ k ∈ W.kinds, ∀ r ∈ k.routes, (beh t r).1 ∈ fs ++ ls) ∧ (fs ++ ls).length ≤ 80, ?_, ?_⟩
      · rintro σ' H' ⟨G', gs', ls, p4, p5, p6, p7, p8, p9, p10, e, I, rfl, nd', all, l80⟩
        refine ⟨_, ?_, G', fs ++ gs', gs', p4, p5, p6, p7, p8, p9, p10, rfl, e, I, nd', fun s h => List.mem_append_right _ h, by rw [List.length_append]; omega, fun s hs => ?_, l80⟩
        · rw [if_neg e0, List.length_append] at *
          by_cases z : gs' = []
          · rw [if_pos z]; omega
          · rw [if_neg z]
            have := List.length_pos_iff.mpr z
            omega
        · rcases List.mem_append.mp hs with h | h
          · rcases cl s h with h2 | h2
            · exact .inr (all s h2)
            · exact .inr fun k hk r hr => List.mem_append_left _ (h2 k hk r hr)
          · exact .inl h
      · refine ⟨by show 0 ≤ sizeLine; decide, fun L nL => ?_⟩
        obtain ⟨pf, hF, prF⟩ := id I2.f
        have nL0 : H L = none := I2.kp.nn L nL
        have nFL : F ≠ L := ne_of_none hF nL
        have nGL : G ≠ L := ne_of_none hG2 nL
        have kL := (Kp.refl (upd H1 e (.lst []))).add (o := .lst []) nL
        have I3 := I2.move kL
        have prG3 : Paired (IsS (upd (upd H1 e (.lst [])) L (.lst []))) pg gs := Paired.mapP prG fun _ _ q => (q.keep (add_kt ne)).keep kL.kt
        have prF3 : Paired (IsS (upd (upd H1 e (.lst [])) L (.lst []))) pf fs := Paired.mapP prF fun _ _ q => q.keep kL.kt
        have hG3 : (upd (upd H1 e (.lst [])) L (.lst [])) G = some (.lst pg) := kL.lst hG2
        have hF3 : (upd (upd H1 e (.lst [])) L (.lst [])) F = some (.lst pf) := kL.lst hF
        have hL3 : (upd (upd H1 e (.lst [])) L (.lst [])) L = some (.lst []) := upd_same
        have k3 := I3.kp
        have rea := I3.rea
        have vm := I3.vm
        have nFG' := I2.ne
        clear I3 kL I2 hF prF hG2 prG hG I1 nL
        show tSeq _ _ _ _ (upd (upd H1 e (.lst [])) L (.lst []))
        generalize upd (upd H1 e (.lst [])) L (.lst []) = H3 at k3 prG3 prF3 hG3 hF3 hL3 ⊢
        -- what holds within the three loops: behind n pairs
        let In : Nat → Hp → List V → List Stand → Prop := fun n H' pl ls => Kp H H' ∧ KT H3 H' ∧ H' F = some (.lst (pf ++ pl)) ∧ H' L = some (.lst pl) ∧ H' G = some (.lst pg) ∧ Paired (IsS H') pl ls ∧ (∀ s ∈ ls, Rea W s) ∧ (fs ++ ls).Nodup ∧ ls.length ≤ n
        refine ⟨_, rfl, G, rfl, ⟨_, SqL.of hG3⟩, ?_⟩
        refine for_wlk wl_list (fun c σ H' => ∃ pl ls o5 o6 o7 o8 o9 o10, σ = [some (.ref a), some (.int 80), some (.ref F), some (.ref G), some (.ref L), o5, o6, o7, o8, o9, o10] ∧ In (c * 12) H' pl ls ∧ ∀ t ∈ gs.take c, ∀ k ∈ W.kinds, ∀ r ∈ k.routes, (beh t r).1 ∈ fs ++ ls)
          ⟨[], [], o5, o6, o7, o8, o9, o10, rfl, ⟨k3, .refl _, by rw [List.append_nil]; exact hF3, hL3, hG3, .nil, (fun s h => nomatch h), by rw [List.append_nil]; exact nd, Nat.zero_le _⟩, fun t ht => nomatch ht⟩ (fun c σ H' _ ⟨_, _, _, _, _, _, _, _, _, i, _⟩ => SqL.of i.2.2.2.2.1) ?_ ?_
        · rintro c x σ H4 H4' hc ⟨pl, ls, o5, o6, o7, o8, o9, o10, rfl, i4, d4⟩ ⟨rfl, hx⟩
          obtain ⟨t, ht, it⟩ := pr_get prG3 hx
          have tm := mem_at ht
          have tR := rea t (sub t tm)
          obtain ⟨tok, tl⟩ := tR.sw ok
          have cl' := (List.getElem?_eq_some_iff.mp ht).1
          have k4 := i4.1
          refine ⟨_, rfl, a, _, _, _, rfl, rfl, SqT.of (k4.tup ha), atI_nat (j := 2) rfl, b, rfl, ⟨_, SqT.of (k4.tup hb)⟩, ?_⟩
          refine for_wlk wl_tup (fun i σ H' => ∃ pl ls o6 o7 o8 o9 o10, σ = [some (.ref a), some (.int 80), some (.ref F), some (.ref G), some (.ref L), some x, o6, o7, o8, o9, o10] ∧ In (c * 12 + i * 4) H' pl ls ∧ (∀ t ∈ gs.take c, ∀ k ∈ W.kinds, ∀ r ∈ k.routes, (beh t r).1 ∈ fs ++ ls) ∧ ∀ k ∈ W.kinds.take i, ∀ r ∈ k.routes, (beh t r).1 ∈ fs ++ ls)
            ⟨pl, ls, o6, o7, o8, o9, o10, rfl, i4, d4, fun k hk => nomatch hk⟩ (fun i σ H' _ ⟨_, _, _, _, _, _, _, _, i, _⟩ => SqT.of (i.1.tup hb)) ?_ ?_
          · rintro i z σ H5 H5' hi ⟨pl, ls, o6, o7, o8, o9, o10, rfl, i5, d5, e5⟩ ⟨rfl, hz⟩
            obtain ⟨kd, hkd, ik⟩ := pr_get pk hz
            obtain ⟨ka, x1, x2, x3, rfl, hka, _, _, hx3⟩ := ik.keep i5.1.kt
            obtain ⟨za, rs, rfl, hza, pz⟩ := id hx3
            have lz := Paired.length pz
            have k4 := ok.most kd (mem_at hkd)
            refine ⟨ka, _, rfl, SqT.of hka, rfl, _, _, rfl, _, _, rfl, _, _, rfl, rfl, ?_⟩
            refine ⟨_, rfl, za, rfl, ⟨_, SqT.of hza⟩, ?_⟩
            refine for_wlk wl_tup (fun j σ H' => ∃ pl ls o9 o10, σ = [some (.ref a), some (.int 80), some (.ref F), some (.ref G), some (.ref L), some x, some x1, some x2, some (.ref za), o9, o10] ∧ In (c * 12 + i * 4 + j) H' pl ls ∧ KT H5' H' ∧ (∀ t ∈ gs.take c, ∀ k ∈ W.kinds, ∀ r ∈ k.routes, (beh t r).1 ∈ fs ++ ls) ∧ (∀ k ∈ W.kinds.take i, ∀ r ∈ k.routes, (beh t r).1 ∈ fs ++ ls) ∧ ∀ r ∈ kd.routes.take j, (beh t r).1 ∈ fs ++ ls)
              ⟨pl, ls, o9, o10, rfl, i5, .refl _, d5, e5, fun r hr => nomatch hr⟩ (fun j σ H' _ ⟨_, _, _, _, _, _, kt, _⟩ => SqT.of (kt _ _ hza)) ?_ ?_
            · rintro j x9 σ H6 H6' hj ⟨pl, ls, o9, o10, rfl, ⟨k6, kt6, hF6, hL6, hG6, prL, reaL, nd6, l6⟩, kt56, d6, e6, f6⟩ ⟨rfl, hx9⟩
              obtain ⟨r, hr', ir⟩ := pr_get pz hx9
              have po : PosOk t.length r := by rw [tl]; exact ok.route hkd hr'
              have t4 : t.length ≤ 4 := by rw [tl]; exact ok.few.2
              have jl := (List.getElem?_eq_some_iff.mp hr').1
              refine ⟨_, rfl, _, rfl, x, x9, t, r, W.dyes, rfl, it.keep kt6, ir.keep kt56, tok, ok.dyes.2, t4, po, fun H7 p k7 ip => ?_⟩
              obtain ⟨pa, z, z2, rfl, hpa, iz, _⟩ := ip
              have hF7 := k7.lst hF6
              have hL7 := k7.lst hL6
              have prF7 : Paired (IsS H7) (pf ++ pl) (fs ++ ls) := pr_app (Paired.mapP prF3 fun _ _ q => q.keep (kt6.trans k7.kt)) (Paired.mapP prL fun _ _ q => q.keep k7.kt)
              refine ⟨pa, _, _, _, rfl, rfl, SqT.of hpa, atI_nat (j := 0) rfl, _, rfl, _, rfl, (beh t r).1, F, pf ++ pl, fs ++ ls, iz, rfl, hF7, prF7, _, rfl, ?_⟩
              have lpl := Paired.length prL
              have lpf := Paired.length prF3
              have small : ls.length ≤ 80 * 12 + 16 := by omega
              by_cases mem : (beh t r).1 ∈ fs ++ ls
              · refine iteF' (by rw [decide_eq_true mem] <;> rfl) ?_
                refine ⟨pl, ls, _, _, rfl, ⟨k6.trans k7, kt6.trans k7.kt, hF7, hL7, k7.lst hG6, Paired.mapP prL fun _ _ q => q.keep k7.kt, reaL, nd6, by omega⟩, kt56.trans k7.kt, d6, e6, fun r' h => ?_⟩
                rw [take_snoc hr'] at h
                rcases List.mem_append.mp h with h | h
                · exact f6 r' h
                · rw [List.mem_singleton.mp h]; exact mem
              · refine iteT' (by rw [decide_eq_false mem] <;> rfl) ?_
                refine ⟨_, rfl, .inl ⟨rfl, _, SqL.of hF7⟩, _, rfl, F, _, _, rfl, rfl, hF7, by rw [List.length_append, lpl, lpf, sizeLine_eq]; omega, ?_⟩
                have k8 := (k6.trans k7).put (o := .lst (pf ++ pl ++ [z])) nF hF7
                have hL8 : (upd H7 F (.lst (pf ++ pl ++ [z]))) L = some (.lst pl) := by rw [upd_ne nFL.symm]; exact hL7
                refine ⟨_, rfl, .inl ⟨rfl, _, SqL.of hL8⟩, _, rfl, L, _, _, rfl, rfl, hL8, by rw [lpl, sizeLine_eq]; omega, ?_⟩
                have k9 := k8.put (o := .lst (pl ++ [z])) nL0 hL8
                have kt79 : KT H7 (upd (upd H7 F (.lst (pf ++ pl ++ [z]))) L (.lst (pl ++ [z]))) := (put_kt hF7).trans (put_kt hL8)
                have kt69 := k7.kt.trans kt79
                have mono : ∀ {s}, s ∈ fs ++ ls → s ∈ fs ++ (ls ++ [(beh t r).1]) := fun {s} h => by rw [← List.append_assoc]; exact List.mem_append_left _ h
                refine ⟨pl ++ [z], ls ++ [(beh t r).1], _, _, rfl, ⟨k9, kt6.trans kt69, by rw [upd_ne nFL, upd_same, List.append_assoc], upd_same, ?_, pr_snoc (Paired.mapP prL fun _ _ q => q.keep kt69) (iz.keep kt79), fun s hs => ?_, ?_, by rw [List.length_append, List.length_singleton]; omega⟩, kt56.trans kt69, fun t' h1 k h2 r' h3 => mono (d6 t' h1 k h2 r' h3), fun k h2 r' h3 => mono (e6 k h2 r' h3), fun r' h => ?_⟩
                · rw [upd_ne nGL, upd_ne nFG'.symm]
                  exact k7.lst hG6
                · rcases List.mem_append.mp hs with h | h
                  · exact reaL s h
                  · rw [List.mem_singleton.mp h]; exact tR.step (mem_at hkd) (mem_at hr')
                · rw [← List.append_assoc, List.nodup_append]
                  exact ⟨nd6, by simp, fun s hs s' hs' e => mem (by rw [List.mem_singleton.mp hs'] at e; exact e ▸ hs)⟩
                · rw [take_snoc hr'] at h
                  rcases List.mem_append.mp h with h | h
                  · exact mono (f6 r' h)
                  · rw [List.mem_singleton.mp h, ← List.append_assoc]; exact List.mem_append_right _ (List.mem_singleton_self _)
            · rintro σ H6 ⟨pl, ls, o9, o10, rfl, ⟨k6, kt6, hF6, hL6, hG6, prL, reaL, nd6, l6⟩, kt56, d6, e6, f6⟩
              rw [lz, List.take_length] at f6
              refine ⟨pl, ls, _, _, _, _, _, rfl, ⟨k6, kt6, hF6, hL6, hG6, prL, reaL, nd6, by omega⟩, d6, fun k hk r hr => ?_⟩
              rw [take_snoc hkd] at hk
              rcases List.mem_append.mp hk with h | h
              · exact e6 k h r hr
              · rw [List.mem_singleton.mp h] at hr; exact f6 r hr
          · rintro σ H5 ⟨pl, ls, o6, o7, o8, o9, o10, rfl, ⟨k6, kt6, hF6, hL6, hG6, prL, reaL, nd6, l6⟩, d5, e5⟩
            rw [lks, List.take_length] at e5
            refine ⟨pl, ls, _, _, _, _, _, _, rfl, ⟨k6, kt6, hF6, hL6, hG6, prL, reaL, nd6, by omega⟩, fun t' ht' k hk r hr => ?_⟩
            rw [take_snoc ht] at ht'
            rcases List.mem_append.mp ht' with h | h
            · exact d5 t' h k hk r hr
            · rw [List.mem_singleton.mp h]; exact e5 k hk r hr
        · rintro σ H4 ⟨pl, ls, o5, o6, o7, o8, o9, o10, rfl, ⟨k4, kt4, hF4, hL4, hG4, prL, reaL, nd4, l4⟩, d4⟩
          rw [lpg, List.take_length] at d4
          have lF : (pf ++ pl).length = (fs ++ ls).length := by rw [List.length_append, List.length_append, Paired.length prF3, Paired.length prL]
          refine ⟨_, rfl, F, _, rfl, .inl (SqL.of hF4), _, rfl, _, _, rfl, rfl, _, rfl, ?_⟩
          by_cases big : (80 : Int) < ((pf ++ pl).length : Nat)
          · refine iteT' (decide_eq_true big) ?_
            exact qn _ k4
          · refine iteF' (decide_eq_false big) ?_
            refine ⟨_, rfl, L, ls, ls, _, _, _, _, _, _, _, rfl, ⟨k4, nF, nL0, nFL, ⟨_, hF4, pr_app (Paired.mapP prF3 fun _ _ q => q.keep kt4) prL⟩, ⟨pl, hL4, prL⟩, List.mem_append_left _ vm, fun s hs => ?_⟩, rfl, nd4, d4, by omega⟩
            rcases List.mem_append.mp hs with h | h
            · exact rea s h
            · exact reaL s h
end
end Dw

/-! part DwU -/
set_option Elab.async false
set_option linter.all false
set_option maxRecDepth 100000
set_option maxHeartbeats 4000000
/-! _law_good -/
namespace Dw
open PySem PySem.Spec PyProof.Rows L2 GenW
def ownsOf (W : Works) (r : Lot) : Lot := r.flatMap fun v => W.vats.getD v.toNat []
theorem filter_empty {α : Type} {xs : List α} {p : α → Bool} : (xs.filter p).isEmpty = xs.all fun x => !p x := by
  induction xs with
  | nil => rfl
  | cons x xs ih =>
    rw [List.filter_cons, List.all_cons]
    cases p x with
    | true => simp
    | false => simpa using ih
theorem isEmpty_app {α : Type} (xs ys : List α) : (xs ++ ys).isEmpty = (xs.isEmpty && ys.isEmpty) := by cases xs <;> rfl
theorem hasW_of (W : Works) (k : Kind) (r : Lot) : (k.wants.filter fun d => !decide (d ∈ ownsOf W r)).isEmpty = hasW W k r := by
  rw [filter_empty]
  unfold hasW
  congr 1
  funext d
  rw [Bool.not_not, Bool.eq_iff_iff, decide_eq_true_iff, List.any_eq_true]
  unfold ownsOf
  rw [List.mem_flatMap]
  constructor
  · rintro ⟨v, hv, h⟩
    exact ⟨v, hv, decide_eq_true h⟩
  · rintro ⟨v, hv, h⟩
    exact ⟨v, hv, of_decide_eq_true h⟩
theorem clean_of (k : Kind) (c : Lot) : (c.filter fun d => decide (d ∈ k.bars)).isEmpty = clean k c := by
  rw [filter_empty]
  unfold clean
  rw [List.not_any_eq_all_not]
def spLGood : Sp := fun vs H Q _ => ∃ u v i n W k r s, vs = [u, v, .int (i : Nat), .int (n : Nat)] ∧ IsW H u W ∧ WOk W ∧ IsS H v s ∧ SW W s ∧ W.kinds[i]? = some k ∧ k.routes[n]? = some r ∧ ∀ H', Kp H H' → Q (.bl (good W k s r)) H'
section
variable {P : Program} {w : World} {K : PySem.W.Frag} {mg : Str → Option Value} {base : Heap}
abbrev n46 : List Str := ["_law_works_here", "_law_stand", "_law_kind", "_law_number", "_law_wants", "_law_bars", "_law_routes", "_law_owns", "_law_vat", "_law_carried", "_law_dye"]
theorem sc46 : FnScope n46 ["_law_works_here", "_law_stand", "_law_kind", "_law_number"] (defScope (st 46)) := ⟨rfl, rfl, rfl, by decide +kernel, rfl, by decide +kernel, by decide +kernel⟩
theorem d_lgood (D : DefAt K mg "_law_good" (st 46)) (N : Nm mg) (Dp : Df P w K mg base "_law_pass" 1 ["_law_stand", "_law_route"] spPass) : Df P w K mg base "_law_good" 2 ["_law_works_here", "_law_stand", "_law_kind", "_law_number"] spLGood := by
  refine D.df sc46 (fun vs H Q E h => ?_) (fun _ _ _ _ _ _ us hl => match us, hl with | [_, _, _, _], _ => rfl) (fun f cdv A outer sh H vs Q E hr h => ?_)
  · obtain ⟨u, v, i, n, W, k, r, s, rfl, _⟩ := h
    rfl
  · obtain ⟨u, v, i, n, W, k, r, s, rfl, hu, ok, hv, sw, hk, hn, q⟩ := h
    refine ⟨_, pss_cons (ps_asg (pe_ix ix_tup (pe_ix ix_tup (pv 0) pe_int (fun _ _ => rfl)) (pv 2) (fun _ _ => rfl)) (pg_tup rfl (pgs_cons (pg_name (i := 4) sc46.nd rfl (Or.inl rfl)) (pgs_cons (pg_name (i := 5) sc46.nd rfl (Or.inr rfl)) (pgs_cons (pg_name (i := 6) sc46.nd rfl (Or.inl rfl)) pgs_nil)))))
      (pss_cons (ps_set (i := 7) sc46.nd rfl (Or.inr rfl) (pe_lst pa_nil))
      (pss_cons (ps_for PassesOwn.never rfl (pi_tup (pe_ix ix_tup (pv 6) (pv 3) (fun _ _ => rfl))) (pg_name (i := 8) sc46.nd rfl (Or.inl rfl))
        (pss_one (ps_set (i := 7) sc46.nd rfl (Or.inr rfl) (pe_op op_cat (pv 7) (pe_list N.list (pe_ix ix_tup (pe_ix ix_tup (pv 0) pe_int (fun _ _ => rfl)) (pv 8) (fun _ _ => rfl)))))))
      (pss_cons (ps_set (i := 9) sc46.nd rfl (Or.inl rfl) (pe_ix ix_tup (pe_df Dp hr (by rfl) (pa_cons (pv 1) (pa_cons (pe_ix ix_tup (pv 6) (pv 3) (fun _ _ => rfl)) pa_nil))) pe_int (fun _ _ => rfl)))
      (pss_one (ps_ret (pe_cmpR (op_eqNil hr.units) (pe_op op_cat
        (pe_lc (own := [("_law_dye", 10)]) (g := gName 10) rfl sc46.nd (pi_tup (pv 4)) (blkOk_by (N := n46) (sc := defScope (st 46)) (by decide +kernel)) (fun _ _ _ _ _ => pg_name (i := 10) sc46.nd rfl (Or.inl rfl)) (fun _ _ _ _ _ => pts_one (pt_cmpR op_notInI (pv 10) (pv 7) (by with_unfolding_all rfl))) (fun _ _ _ _ _ => pv 10))
        (pe_lc (own := [("_law_dye", 10)]) (g := gName 10) rfl sc46.nd (pi_tup (pv 9)) (blkOk_by (N := n46) (sc := defScope (st 46)) (by decide +kernel)) (fun _ _ _ _ _ => pg_name (i := 10) sc46.nd rfl (Or.inl rfl)) (fun _ _ _ _ _ => pts_one (pt_cmpR op_inI (pv 10) (pv 5) (by with_unfolding_all rfl))) (fun _ _ _ _ _ => pv 10)))
        (pe_lst pa_nil) (nomark _))))))), ?_⟩
    obtain ⟨a, y, b, ks, rfl, ha, hy, hb, pk⟩ := id hu
    obtain ⟨vs, lots, rfl, hvs, pl⟩ := id hy
    obtain ⟨kv, hkv, ik⟩ := pr_get2 pk hk
    obtain ⟨ka, x1, x2, x3, rfl, hka, hx1, hx2, hx3⟩ := id ik
    obtain ⟨za, rs, rfl, hza, pz⟩ := id hx3
    obtain ⟨rv, hrv, ir⟩ := pr_get2 pz hn
    obtain ⟨ra, rfl, hra⟩ := id ir
    obtain ⟨wa, rfl, hwa⟩ := id hx1
    obtain ⟨ba, rfl, hba⟩ := id hx2
    have po := ok.route hk hn
    have kok := ok.kinds k (mem_at hk)
    have r3 := (kok.routes r (mem_at hn)).1.2
    have wlen := kok.wants.len
    have d4 := ok.dyes
    refine ⟨_, rfl, a, _, _, _, rfl, rfl, SqT.of ha, atI_nat (j := 2) rfl, _, rfl, b, _, _, _, rfl, rfl, SqT.of hb, atI_nat hkv, ka, _, rfl, SqT.of hka, rfl, _, _, rfl, _, _, rfl, _, _, rfl, rfl, ?_⟩
    refine ⟨by show 0 ≤ sizeLine; decide, fun Lo no => ?_⟩
    have k0 := (Kp.refl H).add (o := .lst []) no
    refine ⟨_, rfl, _, rfl, za, _, _, _, rfl, rfl, SqT.of (k0.tup hza), atI_nat hrv, ra, rfl, ⟨_, SqT.of (k0.tup hra)⟩, ?_⟩
    refine for_wlk wl_tup (fun j σ H' => ∃ lo o8, σ = [some (.ref a), some v, some (.int (i : Nat)), some (.int (n : Nat)), some (.ref wa), some (.ref ba), some (.ref za), some (.ref lo), o8, none, none] ∧ Kp H H' ∧ H' lo = some (.lst (List.map V.int (ownsOf W (r.take j)))) ∧ (ownsOf W (r.take j)).length ≤ 4 * j)
      ⟨Lo, none, rfl, k0, upd_same, Nat.le_refl _⟩ (fun j σ H' _ ⟨_, _, _, k, _⟩ => SqT.of (k.tup hra)) ?_ ?_
    · rintro j x σ H1 H1' hj ⟨lo, o8, rfl, k1, hlo, ll⟩ ⟨rfl, hx⟩
      obtain ⟨z, hz, rfl⟩ := map_get hx
      have zp := po z (mem_at hz)
      have lt : z.toNat < W.vats.length := by omega
      obtain ⟨yv, hyv, iy⟩ := pr_get2 pl (List.getElem?_eq_getElem lt)
      obtain ⟨ya, rfl, hya⟩ := iy.keep k1.kt
      have eg : W.vats.getD z.toNat [] = W.vats[z.toNat] := by rw [List.getD_eq_getElem?_getD, List.getElem?_eq_getElem lt] <;> rfl
      have ly := (ok.vats _ (List.getElem_mem lt)).len
      have jl := (List.getElem?_eq_some_iff.mp hz).1
      have e : ownsOf W (r.take (j + 1)) = ownsOf W (r.take j) ++ W.vats[z.toNat] := by
        unfold ownsOf
        rw [flat_take hz, eg]
      refine ⟨_, rfl, _, rfl, a, _, _, _, rfl, rfl, SqT.of (k1.tup ha), atI_nat (j := 1) rfl, _, rfl, vs, _, _, _, rfl, rfl, SqT.of (k1.tup hvs), atI_at zp.1 hyv, ya, _, rfl, .inr (SqT.of hya), fun l2 nl2 => ?_⟩
      have nl : lo ≠ l2 := ne_of_none hlo nl2
      refine ⟨lo, l2, _, _, rfl, rfl, by rw [upd_ne nl]; exact hlo, upd_same, by rw [List.length_map, List.length_map, sizeLine_eq]; omega, fun p np => ?_⟩
      refine ⟨p, _, rfl, (k1.add nl2).add np, by rw [upd_same, e, List.map_append], by rw [e, List.length_append]; omega⟩
    · rintro σ H1 ⟨lo, o8, rfl, k1, hlo, ll⟩
      rw [List.length_map, List.take_length] at hlo
      refine ⟨_, rfl, _, rfl, _, rfl, za, _, _, _, rfl, rfl, SqT.of (k1.tup hza), atI_nat hrv, v, .ref ra, s, r, W.dyes, rfl, hv.keep k1.kt, ir.keep k1.kt, sw.1, ok.dyes.2, by rw [sw.2]; exact ok.few.2, by rw [sw.2]; exact po, fun H2 p k2 ip => ?_⟩
      obtain ⟨pa, y1, y2, rfl, hpa, _, iy2⟩ := ip
      refine ⟨pa, _, _, _, rfl, rfl, SqT.of hpa, atI_nat (j := 1) rfl, ?_⟩
      obtain ⟨ca, rfl, hca⟩ := iy2
      have k12 := k1.trans k2
      have hlo2 := k2.lst hlo
      have clen := ((beh_ok sw.1 r).2.1).len
      refine ⟨_, rfl, wa, rfl, ⟨_, SqT.of (k12.tup hwa)⟩, fun D hD => ?_⟩
      have nD := k12.nn D hD
      refine gw wl_tup (fun j H' => Kp H2 H' ∧ H' D = some (.lst (((k.wants.take j).filter fun z => !decide (z ∈ ownsOf W r)).map V.int))) ⟨(Kp.refl H2).add hD, upd_same⟩ (fun j H' _ k => SqT.of (k.1.tup (k12.tup hwa))) ?_ ?_
      · rintro j x H3 H3' hj ⟨k3, h3⟩ ⟨rfl, hx⟩
        obtain ⟨z, hz, rfl⟩ := map_get hx
        have jl := (List.getElem?_eq_some_iff.mp hz).1
        refine ⟨rfl, _, rfl, _, rfl, z, lo, ownsOf W r, rfl, rfl, .inr (k3.lst hlo2), _, rfl, ?_⟩
        rw [filter_snoc hz]
        cases e1 : !decide (z ∈ ownsOf W r) with
        | true =>
          refine iteT ⟨_, rfl, _, h3, ?_, k3.put hD h3, ?_⟩
          · have := filter_len (f := fun z => !decide (z ∈ ownsOf W r)) (xs := k.wants) j
            rw [List.length_map, sizeLine_eq]
            omega
          · rw [upd_same, if_pos rfl, List.map_append] <;> rfl
        | false =>
          refine iteF ⟨k3, ?_⟩
          rw [if_neg Bool.false_ne_true, List.append_nil]
          exact h3
      · rintro H3 ⟨k3, h3⟩
        rw [List.length_map, List.take_length] at h3
        refine ⟨_, rfl, ca, rfl, ⟨_, SqT.of (k3.tup hca)⟩, fun G hG => ?_⟩
        have nDG : D ≠ G := ne_of_none h3 hG
        refine gw wl_tup (fun j H' => Kp H3 H' ∧ H' G = some (.lst ((((beh s r).2.take j).filter fun z => decide (z ∈ k.bars)).map V.int))) ⟨(Kp.refl H3).add hG, upd_same⟩ (fun j H' _ k => SqT.of (k.1.tup (k3.tup hca))) ?_ ?_
        · rintro j x H4 H4' hj ⟨k4, h4⟩ ⟨rfl, hx⟩
          obtain ⟨z, hz, rfl⟩ := map_get hx
          have jl := (List.getElem?_eq_some_iff.mp hz).1
          refine ⟨rfl, _, rfl, _, rfl, z, ba, k.bars, rfl, rfl, .inl ((k12.trans (k3.trans k4)).tup hba), _, rfl, ?_⟩
          rw [filter_snoc hz]
          cases e1 : decide (z ∈ k.bars) with
          | true =>
            refine iteT ⟨_, rfl, _, h4, ?_, k4.put hG h4, ?_⟩
            · have := filter_len (f := fun z => decide (z ∈ k.bars)) (xs := (beh s r).2) j
              rw [List.length_map, sizeLine_eq]
              omega
            · rw [upd_same, if_pos rfl, List.map_append] <;> rfl
          | false =>
            refine iteF ⟨k4, ?_⟩
            rw [if_neg Bool.false_ne_true, List.append_nil]
            exact h4
        · rintro H4 ⟨k4, h4⟩
          rw [List.length_map, List.take_length] at h4
          have lw := List.length_filter_le (fun z => !decide (z ∈ ownsOf W r)) k.wants
          have lc := List.length_filter_le (fun z => decide (z ∈ k.bars)) (beh s r).2
          refine ⟨D, G, _, _, rfl, rfl, k4.lst h3, h4, by rw [List.length_map, List.length_map, sizeLine_eq]; omega, fun p np => ⟨by show 0 ≤ sizeLine; decide, fun e ne => ?_⟩⟩
          have npe : p ≠ e := fun z => by rw [← z, upd_same] at ne; cases ne
          have k5 := ((k12.trans (k3.trans k4)).add (o := .lst (((k.wants.filter fun z => !decide (z ∈ ownsOf W r)).map V.int) ++ (((beh s r).2.filter fun z => decide (z ∈ k.bars)).map V.int))) np).add (o := .lst []) ne
          refine ⟨p, _, e, rfl, by rw [upd_ne npe, upd_same], ?_, rfl, upd_same, ?_⟩
          · rw [← List.map_append]
            exact nst_ints _
          · rw [← List.map_append]
            have e1 : (List.map V.int ((k.wants.filter fun z => !decide (z ∈ ownsOf W r)) ++ (beh s r).2.filter fun z => decide (z ∈ k.bars))).isEmpty = good W k s r := by
              unfold good
              rw [← hasW_of, ← clean_of, List.isEmpty_map, isEmpty_app]
            show Q (.bl _) _
            rw [e1]
            exact q _ (by rw [List.map_append]; exact k5)
end
end Dw

/-! part DwV -/
set_option Elab.async false
set_option linter.all false
set_option maxRecDepth 100000
set_option maxHeartbeats 4000000
/-! _law_within -/
namespace Dw
open PySem PySem.Spec PyProof.Rows L2 GenW
def spWithin (P : Program) (w : World) : Sp := fun vs H Q _ => ∃ u l ps W U, vs = [u, .ref l] ∧ IsW H u W ∧ WOk W ∧ H l = some (.lst ps) ∧ Paired (IsS H) ps U ∧ UOk W U ∧ ∀ H' d f n, Kp H H' → DS P w H' d f n → (∀ t, f t = (rkE W U t).map iV) → Q (.ref d) H'
/-- all good ways of a kind lead to f -/
def kOk (W : Works) (f : Stand → Option V) (k : Kind) (s : Stand) : Bool := k.routes.all fun r => !good W k s r || (f (beh s r).1).isSome
theorem bt_of {W : Works} {U : List Stand} {j : Nat} {f : Stand → Option V} (hf : ∀ t, f t = (rk W U j t).map iV) (s : Stand) : Bt W (fun t => (rk W U j t).isSome) s = W.kinds.any fun k => kOk W f k s := by
  unfold Bt kOk
  congr 1
  funext k
  congr 1
  funext r
  rw [hf, Option.isSome_map]
theorem kOk_snoc {W : Works} {f : Stand → Option V} {k : Kind} {s : Stand} {i : Nat} {r : Lot} (h : k.routes[i]? = some r) : ((k.routes.take (i + 1)).all fun r => !good W k s r || (f (beh s r).1).isSome) = (((k.routes.take i).all fun r => !good W k s r || (f (beh s r).1).isSome) && (!good W k s r || (f (beh s r).1).isSome)) := by
  rw [take_snoc h, List.all_append]
  simp
section
variable {P : Program} {w : World} {K : PySem.W.Frag} {mg : Str → Option Value} {base : Heap}
abbrev n47 : List Str := ["_law_works_here", "_law_stands_here", "_law_found", "_law_orders", "_law_fresh", "_law_stand", "_law_kind", "_law_left", "_law_number", "_law_later"]
theorem sc47 : FnScope n47 ["_law_works_here", "_law_stands_here"] (defScope (st 47)) := ⟨rfl, rfl, rfl, by decide +kernel, rfl, by decide +kernel, by decide +kernel⟩
theorem d_within (D : DefAt K mg "_law_within" (st 47)) (N : Nm mg) (Dp : Df P w K mg base "_law_pass" 1 ["_law_stand", "_law_route"] spPass) (Dg : Df P w K mg base "_law_good" 2 ["_law_works_here", "_law_stand", "_law_kind", "_law_number"] spLGood) :
    Df P w K mg base "_law_within" 3 ["_law_works_here", "_law_stands_here"] (spWithin P w) := by
  refine D.df sc47 (fun vs H Q E h => ?_) (fun _ _ _ _ _ _ us hl => match us, hl with | [_, _], _ => rfl) (fun f cdv A outer sh H vs Q E hr h => ?_)
  · obtain ⟨u, l, ps, W, U, rfl, _⟩ := h
    rfl
  · obtain ⟨u, l, ps, W, U, rfl, hu, ok, hl, pr, uk, q⟩ := h
    have hU : (A.deeper (envOfC "_law_within" (defScope (st 47)) sh.heap.objs.size f cdv)).units + 64 < cLine := hr.units
    have hr1 : Room 1 _ := hr.mono (by decide)
    refine ⟨_, pss_cons (ps_set (i := 2) sc47.nd rfl (Or.inl rfl) pe_dsnew)
      (pss_cons (ps_for PassesOwn.never rfl (pi_range2 (by rfl) N.range (pa_cons pe_int (pa_cons (pe_op op_add (pe_len N.len (pv 1)) pe_int) pa_nil))) (pg_name (i := 3) sc47.nd rfl (Or.inl rfl))
        (pss_cons (ps_set (i := 4) sc47.nd rfl (Or.inl rfl) (pe_lst pa_nil))
        (pss_cons (ps_for PassesOwn.never rfl (pi_list (pv 1)) (pg_name (i := 5) sc47.nd rfl (Or.inl rfl))
          (pss_one (ps_for PassesOwn.never rfl (pi_range1 (by rfl) N.range (pa_cons (pe_len N.len (pe_ix ix_tup (pv 0) pe_int (fun _ _ => rfl))) pa_nil)) (pg_name (i := 6) sc47.nd rfl (Or.inl rfl))
            (pss_cons (ps_set (i := 7) sc47.nd rfl (Or.inl rfl) pe_int)
            (pss_cons (ps_for PassesOwn.never rfl (pi_range1 (by rfl) N.range (pa_cons (pe_len N.len (pe_ix ix_tup (pe_ix ix_tup (pe_ix ix_tup (pv 0) pe_int (fun _ _ => rfl)) (pv 6) (fun _ _ => rfl)) pe_int (fun _ _ => rfl))) pa_nil)) (pg_name (i := 8) sc47.nd rfl (Or.inl rfl))
              (pss_one (ps_if (pt_val (pe_df Dg hr (by rfl) (pa_cons (pv 0) (pa_cons (pv 5) (pa_cons (pv 6) (pa_cons (pv 8) pa_nil))))))
                (pss_cons (ps_set (i := 9) sc47.nd rfl (Or.inl rfl) (pe_ix ix_tup (pe_df Dp hr1 (by rfl) (pa_cons (pv 5) (pa_cons (pe_ix ix_tup (pe_ix ix_tup (pe_ix ix_tup (pe_ix ix_tup (pv 0) pe_int (fun _ _ => rfl)) (pv 6) (fun _ _ => rfl)) pe_int (fun _ _ => rfl)) (pv 8) (fun _ _ => rfl)) pa_nil))) pe_int (fun _ _ => rfl)))
                (pss_one (ps_set (i := 7) sc47.nd rfl (Or.inl rfl) (pe_op op_add (pv 7) (pe_callTy call_int1 (by rfl) N.int boot_int (pa_cons (pe_cmpR (op_notInDS hU) (pv 9) (pv 2) (by with_unfolding_all rfl)) pa_nil)))))) pss_nil)))
            (pss_one (ps_if (pw_and (pt_cmpR op_eq (pv 7) pe_int (nomark _)) (pw_and1 (pt_cmpR (op_notInDS hU) (pv 5) (pv 2) (by with_unfolding_all rfl)))).pt
              (pss_one (ps_expr (pe_bm PySem.F.plainAttrs_list PySem.F.slot_list_append PySem.F.type_list_append mt_append (pv 4) (pa_cons (pv 5) pa_nil)))) pss_nil)))))))
        (pss_one (ps_for PassesOwn.never rfl (pi_list (pv 4)) (pg_name (i := 5) sc47.nd rfl (Or.inl rfl))
          (pss_one (ps_dsput hU (pv 2) (pv 5) (pv 3))))))))
      (pss_one (ps_ret (pv 2)))), ?_⟩
    obtain ⟨a, y, b, ks, rfl, ha, hy, hb, pk⟩ := id hu
    have lks := Paired.length pk
    have kf := ok.kfew
    have lps := Paired.length pr
    have um := uk.most
    intro d H1 nd0 e1 D1
    have k1 : Kp H H1 := (Kp.refl H).but e1 nd0 (.free nd0) (by obtain ⟨xs, h1, _⟩ := id D1.ex; rw [h1]; intro z; cases z)
    refine ⟨_, rfl, l, ps, rfl, .inl (SqL.of (k1.lst hl)), _, 2, rfl, rfl, 1, _, rfl, ⟨by decide, by decide, by omega, by omega⟩, ?_⟩
    refine for_wlk wl_rng (fun j σ H' => ∃ f n o3 o4 o5 o6 o7 o8 o9, σ = [some (.ref a), some (.ref l), some (.ref d), o3, o4, o5, o6, o7, o8, o9] ∧ Kp H H' ∧ DS P w H' d f n ∧ (∀ t, f t = (rk W U j t).map iV) ∧ n ≤ j * 240)
      ⟨_, 0, none, none, none, none, none, none, none, rfl, k1, D1, fun t => rfl, Nat.le_refl _⟩ (fun _ _ _ _ _ => trivial) ?_ ?_
    · rintro j x σ H2 H2' hj ⟨f, n, o3, o4, o5, o6, o7, o8, o9, rfl, k2, D2, hf, hn⟩ ⟨rfl, rfl⟩
      have j81 : j < 81 := by omega
      refine ⟨by show 0 ≤ sizeLine; decide, fun L nL => ?_⟩
      have nL0 := k2.nn L nL
      have kL := (Kp.refl H2').add (o := .lst []) nL
      have k3 := k2.trans kL
      have ndL : d ≠ L := fun z => by
        obtain ⟨xs, h1, _⟩ := id D2.ex
        rw [z, nL] at h1
        cases h1
      refine ⟨_, rfl, l, rfl, ⟨_, SqL.of (k3.lst hl)⟩, ?_⟩
      -- fresh: zs
      refine for_wlk wl_list (fun c σ H' => ∃ o5 o6 o7 o8 o9 fl zs, σ = [some (.ref a), some (.ref l), some (.ref d), some (.int (1 + (j : Nat))), some (.ref L), o5, o6, o7, o8, o9] ∧ Kp H H' ∧ DS P w H' d f n ∧ H' L = some (.lst fl) ∧ Paired (IsS H') fl zs ∧ zs.length ≤ c * 3 ∧
          ∀ t, t ∈ zs ↔ t ∈ U.take c ∧ (f t).isSome = false ∧ (W.kinds.any fun k => kOk W f k t) = true)
        ⟨o5, o6, o7, o8, o9, [], [], rfl, k3, kL.ds D2, upd_same, .nil, Nat.zero_le _, fun t => by simp⟩ (fun c σ H' _ ⟨_, _, _, _, _, _, _, _, k, _⟩ => SqL.of (k.lst hl)) ?_ ?_
      · rintro c x σ H4 H4' hc ⟨o5, o6, o7, o8, o9, fl, zs, rfl, k4, D4, hL4, prL, lz, mz⟩ ⟨rfl, hx⟩
        obtain ⟨s, hs, is⟩ := pr_get pr hx
        have sm := mem_at hs
        have sw := uk.sw ok s sm
        have cl := (List.getElem?_eq_some_iff.mp hs).1
        refine ⟨_, rfl, a, _, _, _, rfl, rfl, SqT.of (k4.tup ha), atI_nat (j := 2) rfl, b, _, rfl, .inr (SqT.of (k4.tup hb)), _, rfl, by omega, by omega, ?_⟩
        refine for_wlk wl_rng (fun i σ H' => ∃ o6 o7 o8 o9 fl zs, σ = [some (.ref a), some (.ref l), some (.ref d), some (.int (1 + (j : Nat))), some (.ref L), some x, o6, o7, o8, o9] ∧ Kp H H' ∧ DS P w H' d f n ∧ H' L = some (.lst fl) ∧ Paired (IsS H') fl zs ∧ zs.length ≤ c * 3 + i ∧
            ∀ t, t ∈ zs ↔ (t ∈ U.take c ∧ (f t).isSome = false ∧ (W.kinds.any fun k => kOk W f k t) = true) ∨ (t = s ∧ (f s).isSome = false ∧ ((W.kinds.take i).any fun k => kOk W f k s) = true))
          ⟨o6, o7, o8, o9, fl, zs, rfl, k4, D4, hL4, prL, lz, fun t => by rw [mz]; simp⟩ (fun _ _ _ _ _ => trivial) ?_ ?_
        · rintro i z σ H5 H5' hi ⟨o6, o7, o8, o9, fl, zs, rfl, k5, D5, hL5, prL, lz, mz⟩ ⟨rfl, rfl⟩
          have il : i < W.kinds.length := by omega
          have hk : W.kinds[i]? = some W.kinds[i] := List.getElem?_eq_getElem il
          obtain ⟨kv, hkv, ik⟩ := pr_get2 pk hk
          obtain ⟨ka, x1, x2, x3, rfl, hka, _, _, hx3⟩ := id ik
          obtain ⟨za, rs, rfl, hza, pz⟩ := id hx3
          have lz2 := Paired.length pz
          have k4' := ok.most _ (mem_at hk)
          generalize W.kinds[i] = kd at hk ik hka hx3 pz lz2 k4'
          have ei : (0 : Int) + (i : Nat) = (i : Nat) := by omega
          rw [ei]
          refine ⟨_, rfl, a, _, _, _, rfl, rfl, SqT.of (k5.tup ha), atI_nat (j := 2) rfl, _, rfl, b, _, _, _, rfl, rfl, SqT.of (k5.tup hb), atI_nat hkv, ka, _, _, _, rfl, rfl, SqT.of (k5.tup hka), atI_nat (j := 2) rfl, za, _, rfl, .inr (SqT.of (k5.tup hza)), _, rfl, by omega, by omega, ?_⟩
          refine for_wlk wl_rng (fun m σ H' => ∃ (o8 o9 : Option V) (fl : List V) (lf : Int), σ = [some (.ref a), some (.ref l), some (.ref d), some (.int (1 + (j : Nat))), some (.ref L), some x, some (.int (i : Nat)), some (.int lf), o8, o9] ∧ Kp H H' ∧ DS P w H' d f n ∧ H' L = some (.lst fl) ∧ Paired (IsS H') fl zs ∧ 0 ≤ lf ∧
              (lf = 0 ↔ ((kd.routes.take m).all fun r => !good W kd s r || (f (beh s r).1).isSome) = true))
            ⟨o8, o9, fl, 0, rfl, k5, D5, hL5, prL, by decide, by simp⟩ (fun _ _ _ _ _ => trivial) ?_ ?_
          · rintro m z2 σ H6 H6' hm ⟨o8, o9, fl, lf, rfl, k6, D6, hL6, prL, lf0, lfz⟩ ⟨rfl, rfl⟩
            have ml : m < kd.routes.length := by omega
            have hr' : kd.routes[m]? = some kd.routes[m] := List.getElem?_eq_getElem ml
            obtain ⟨rv, hrv, ir⟩ := pr_get2 pz hr'
            have em : (0 : Int) + (m : Nat) = (m : Nat) := by omega
            rw [em]
            have sn := kOk_snoc (W := W) (f := f) (k := kd) (s := s) hr'
            generalize kd.routes[m] = r at hr' ir sn
            refine ⟨_, rfl, _, rfl, _, rfl, _, rfl, .ref a, x, i, m, W, kd, r, s, rfl, hu.keep k6.kt, ok, is.keep k6.kt, sw, hk, hr', fun H7 k7 => ⟨_, rfl, ?_⟩⟩
            have k67 := k6.trans k7
            cases eg : good W kd s r with
            | false =>
              refine iteF ⟨_, _, fl, lf, rfl, k67, k7.ds D6, k7.lst hL6, Paired.mapP prL fun _ _ q => q.keep k7.kt, lf0, ?_⟩
              rw [sn, eg]
              simpa using lfz
            | true =>
              refine iteT ⟨_, rfl, _, rfl, a, _, _, _, rfl, rfl, SqT.of (k67.tup ha), atI_nat (j := 2) rfl, _, rfl, b, _, _, _, rfl, rfl, SqT.of (k67.tup hb), atI_nat hkv, ka, _, _, _, rfl, rfl, SqT.of (k67.tup hka), atI_nat (j := 2) rfl, _, rfl, za, _, _, _, rfl, rfl, SqT.of (k67.tup hza), atI_nat hrv, x, rv, s, r, W.dyes, rfl, is.keep k67.kt, ir.keep k67.kt, sw.1, ok.dyes.2, by rw [sw.2]; exact ok.few.2, by rw [sw.2]; exact ok.route hk hr', fun H8 p k8 ip => ?_⟩
              obtain ⟨pa, z, z2, rfl, hpa, iz, _⟩ := ip
              have k68 := k67.trans k8
              have k78 := k7.trans k8
              refine ⟨pa, _, _, _, rfl, rfl, SqT.of hpa, atI_nat (j := 0) rfl, _, rfl, _, rfl, _, rfl, (beh s r).1, d, f, n, iz, rfl, k78.ds D6, .inr ⟨_, rfl, lf, _, rfl, rfl, ?_⟩⟩
              refine ⟨_, _, fl, _, rfl, k68, k78.ds D6, k78.lst hL6, Paired.mapP prL fun _ _ q => q.keep k78.kt, ?_, ?_⟩
              · cases (f (beh s r).1).isSome <;> simp <;> omega
              · rw [sn, eg]
                cases (f (beh s r).1).isSome with
                | true => simpa using lfz
                | false =>
                  simp
                  omega
          · rintro σ H6 ⟨o8, o9, fl, lf, rfl, k6, D6, hL6, prL, lf0, lfz⟩
            have er : ((rs.length : Nat) : Int).toNat = kd.routes.length := by omega
            rw [er, List.take_length] at lfz
            have ke : kOk W f kd s = (kd.routes.all fun r => !good W kd s r || (f (beh s r).1).isSome) := rfl
            rw [← ke] at lfz
            have tk := take_snoc hk
            have anyS : ((W.kinds.take (i + 1)).any fun k => kOk W f k s) = (((W.kinds.take i).any fun k => kOk W f k s) || kOk W f kd s) := by
              rw [tk, List.any_append]
              simp
            refine ⟨_, rfl, rfl, _, rfl, ?_⟩
            by_cases z0 : V.int lf = V.int 0
            · have z1 : lf = 0 := V.int.inj z0
              have kt := lfz.mp z1
              refine iteT' (decide_eq_true z0) ?_
              refine ⟨_, rfl, _, rfl, s, d, f, n, is.keep k6.kt, rfl, D6, _, rfl, ?_⟩
              cases ef : (f s).isSome with
              | true =>
                refine iteF ⟨_, _, _, _, fl, zs, rfl, k6, D6, hL6, prL, by omega, fun t => ?_⟩
                rw [mz, anyS, ef]
                simp
              | false =>
                have lfl := Paired.length prL
                refine iteT ⟨_, rfl, .inl ⟨rfl, _, SqL.of hL6⟩, _, rfl, L, fl, _, rfl, rfl, hL6, by rw [lfl, sizeLine_eq]; omega, ?_⟩
                have kk := put_kt (o := .lst (fl ++ [x])) hL6
                refine ⟨_, _, _, _, fl ++ [x], zs ++ [s], rfl, k6.put nL0 hL6, D6.keep kk fun o h => by rw [upd_ne ndL]; exact h, upd_same, pr_snoc (Paired.mapP prL fun _ _ q => q.keep kk) ((is.keep k6.kt).keep kk), by rw [List.length_append, List.length_singleton]; omega, fun t => ?_⟩
                rw [List.mem_append, List.mem_singleton, mz, anyS, kt, ef]
                simp
                constructor
                · rintro ((h | h) | h)
                  · exact .inl h
                  · exact .inr h.1
                  · exact .inr h
                · rintro (h | h)
                  · exact .inl (.inl h)
                  · exact .inr h
            · refine iteF' (decide_eq_false z0) ?_
              have kt : kOk W f kd s = false := by
                cases e : kOk W f kd s with
                | false => rfl
                | true => exact absurd (congrArg V.int (lfz.mpr e)) z0
              refine iteF ⟨_, _, _, _, fl, zs, rfl, k6, D6, hL6, prL, by omega, fun t => ?_⟩
              rw [mz, anyS, kt, Bool.or_false]
        · rintro σ H5 ⟨o6, o7, o8, o9, fl, zs, rfl, k5, D5, hL5, prL, lz, mz⟩
          have er : ((ks.length : Nat) : Int).toNat = W.kinds.length := by omega
          rw [er, List.take_length] at mz
          refine ⟨_, _, _, _, _, fl, zs, rfl, k5, D5, hL5, prL, by omega, fun t => ?_⟩
          rw [mz, take_snoc hs, List.mem_append, List.mem_singleton]
          constructor
          · rintro (h | ⟨rfl, h⟩)
            · exact ⟨.inl h.1, h.2⟩
            · exact ⟨.inr rfl, h⟩
          · rintro ⟨h | rfl, h2⟩
            · exact .inl ⟨h, h2⟩
            · exact .inr ⟨rfl, h2⟩
      · rintro σ H4 ⟨o5, o6, o7, o8, o9, fl, zs, rfl, k4, D4, hL4, prL, lz, mz⟩
        rw [lps, List.take_length] at mz
        have lfl := Paired.length prL
        have ord : (1 : Int) + (j : Nat) = ((j + 1 : Nat) : Int) := by omega
        rw [ord]
        refine ⟨_, rfl, L, rfl, ⟨_, SqL.of hL4⟩, ?_⟩
        refine for_wlk wl_list (fun c σ H' => ∃ f' n' o5, σ = [some (.ref a), some (.ref l), some (.ref d), some (iV (j + 1)), some (.ref L), o5, o6, o7, o8, o9] ∧ Kp H H' ∧ KT H4 H' ∧ DS P w H' d f' n' ∧ n' ≤ n + c ∧ H' L = some (.lst fl) ∧ ∀ t, f' t = if t ∈ zs.take c then some (iV (j + 1)) else f t)
          ⟨f, n, o5, rfl, k4, .refl _, D4, Nat.le_refl _, hL4, fun t => by rw [if_neg (by simp)]⟩ (fun c σ H' _ ⟨_, _, _, _, _, _, _, _, h, _⟩ => SqL.of h) ?_ ?_
        · rintro c x σ H5 H5' hc ⟨f', n', o5, rfl, k5, kt5, D5, hn5, hL5, hf'⟩ ⟨rfl, hx⟩
          obtain ⟨s, hs, is⟩ := pr_get prL hx
          refine ⟨_, rfl, _, rfl, _, rfl, s, d, f', n', rfl, is.keep kt5, D5, by rw [sizeLine_eq]; omega, fun H6 e6 D6 => ?_⟩
          obtain ⟨xs, z1, _⟩ := id D5.ex
          have kt56 : KT H5' H6 := fun c ys e => by
            rw [e6 c (ne_of e z1 (by intro z; cases z))]
            exact e
          refine ⟨_, _, _, rfl, k5.dsput nd0 D5 e6 D6, kt5.trans kt56, D6, by omega, by rw [e6 L ndL.symm]; exact hL5, fun t => ?_⟩
          show (if t = s then some (iV (j + 1)) else f' t) = _
          rw [take_snoc hs, hf']
          by_cases e1 : t = s
          · rw [if_pos e1, if_pos (by rw [e1]; simp)]
          · rw [if_neg e1]
            by_cases e2 : t ∈ zs.take c
            · rw [if_pos e2, if_pos (List.mem_append_left _ e2)]
            · rw [if_neg e2, if_neg fun z => (List.mem_append.mp z).elim e2 fun z => e1 (List.mem_singleton.mp z)]
        · rintro σ H5 ⟨f', n', o5, rfl, k5, kt5, D5, hn5, hL5, hf'⟩
          refine ⟨f', n', _, _, _, _, _, _, _, rfl, k5, D5, fun t => ?_, by rw [Nat.succ_mul]; omega⟩
          rw [lfl, List.take_length] at hf'
          rw [hf', rk_succ, hf]
          have m1 : t ∈ zs ↔ t ∈ U ∧ rk W U j t = none ∧ Bt W (fun t => (rk W U j t).isSome) t = true := by
            rw [mz, bt_of hf, hf, Option.isSome_map]
            cases rk W U j t <;> simp
          cases e : rk W U j t with
          | some m =>
            rw [if_neg (by rw [m1, e]; simp)] <;> rfl
          | none =>
            by_cases h : t ∈ zs
            · obtain ⟨h1, _, h2⟩ := m1.mp h
              rw [if_pos h]
              simp [h1, h2]
            · rw [if_neg h]
              have : (decide (t ∈ U) && Bt W (fun t => (rk W U j t).isSome) t) = false := by
                cases c : decide (t ∈ U) && Bt W (fun t => (rk W U j t).isSome) t with
                | false => rfl
                | true =>
                  rw [Bool.and_eq_true, decide_eq_true_iff] at c
                  exact absurd (m1.mpr ⟨c.1, e, c.2⟩) h
              rw [this] <;> rfl
    · rintro σ H2 ⟨f, n, o3, o4, o5, o6, o7, o8, o9, rfl, k2, D2, hf, hn⟩
      have e : (((ps.length : Nat) : Int) + 2 - 1).toNat = U.length + 1 := by omega
      rw [e] at hf
      exact ⟨_, rfl, q _ d f n k2 D2 hf⟩
end
end Dw

/-! part DwX -/
set_option Elab.async false
set_option linter.all false
set_option maxRecDepth 100000
set_option maxHeartbeats 4000000
/-! _law_plans, _law_alike -/
namespace Dw
open PySem PySem.Spec PyProof.Rows L2 GenW
/-- two values alike, by levels -/
def R0 (x y : V) : Prop := x = y ∧ ((∃ i, x = .int i) ∨ ∃ z, x = .str z)
def Rup (R : Hp → V → V → Prop) (H : Hp) (x y : V) : Prop := ∃ a b ps qs, x = .ref a ∧ y = .ref b ∧ H a = some (.tup ps) ∧ H b = some (.tup qs) ∧ Paired (R H) ps qs ∧ ps.length ≤ 100
def spAl (R : Hp → V → V → Prop) : Sp := fun vs H Q _ => ∃ x y, vs = [x, y] ∧ R H x y ∧ ∀ H', Kp H H' → Q (.bl true) H'
def Stay (R : Hp → V → V → Prop) : Prop := ∀ H H' x y, KT H H' → R H x y → R H' x y
theorem stay0 : Stay fun _ => R0 := fun _ _ _ _ _ h => h
theorem stayUp {R : Hp → V → V → Prop} (s : Stay R) : Stay (Rup R) := fun H H' x y k ⟨a, b, ps, qs, e1, e2, h1, h2, h3, h4⟩ => ⟨a, b, ps, qs, e1, e2, k _ _ h1, k _ _ h2, Paired.mapP h3 fun _ _ q => s H H' _ _ k q, h4⟩
theorem al_lot {H : Hp} {v u : V} {xs : Lot} (h : IsL H v xs) (h2 : IsL H u xs) (l : xs.length ≤ 100) : Rup (fun _ => R0) H v u := by
  obtain ⟨a, rfl, ha⟩ := h
  obtain ⟨b, rfl, hb⟩ := h2
  refine ⟨a, b, _, _, rfl, rfl, ha, hb, ?_, by rw [List.length_map]; exact l⟩
  clear ha hb l
  induction xs with
  | nil => exact .nil
  | cons x xs ih => exact .cons ⟨rfl, .inl ⟨x, rfl⟩⟩ ih
theorem al_lots {H : Hp} : ∀ {ps qs : List V} {ss : Stand}, Paired (IsL H) ps ss → Paired (IsL H) qs ss → (∀ l ∈ ss, l.length ≤ 100) → Paired (Rup (fun _ => R0) H) ps qs
  | _, _, _, .nil, .nil, _ => .nil
  | _, _, _, .cons a b, .cons c d, h => .cons (al_lot a c (h _ List.mem_cons_self)) (al_lots b d fun l hl => h l (List.mem_cons_of_mem _ hl))
theorem al_stand {H : Hp} {v u : V} {ss : Stand} (h : IsS H v ss) (h2 : IsS H u ss) (l : ss.length ≤ 100) (l2 : ∀ x ∈ ss, x.length ≤ 100) : Rup (Rup (fun _ => R0)) H v u := by
  obtain ⟨a, ps, rfl, ha, pa⟩ := h
  obtain ⟨b, qs, rfl, hb, pb⟩ := h2
  exact ⟨a, b, ps, qs, rfl, rfl, ha, hb, al_lots pa pb l2, by rw [Paired.length pa]; exact l⟩
theorem pr_get12 {R : V → V → Prop} : ∀ {xs ys : List V}, Paired R xs ys → ∀ {i : Nat}, i < xs.length → ∃ x y, xs[i]? = some x ∧ ys[i]? = some y ∧ R x y
  | _, _, .nil, i, h => absurd h (Nat.not_lt_zero i)
  | _, _, .cons r t, 0, _ => ⟨_, _, rfl, rfl, r⟩
  | _, _, .cons r t, i + 1, h => by
    obtain ⟨x, y, h1, h2, h3⟩ := pr_get12 t (i := i) (by simpa using h)
    exact ⟨x, y, by simpa using h1, by simpa using h2, h3⟩
section
variable {P : Program} {w : World} {K : PySem.W.Frag} {mg : Str → Option Value} {base : Heap}
abbrev n48 : List Str := ["_law_found", "_law_due", "_law_k"]
theorem sc48 : FnScope n48 ["_law_found", "_law_due"] (defScope (st 48)) := ⟨rfl, rfl, rfl, by decide +kernel, rfl, by decide +kernel, by decide +kernel⟩
theorem boot_str : bootBuiltins "str" = some (.type "str") := by decide +kernel
theorem boot_bool : bootBuiltins "bool" = some (.type "bool") := by decide +kernel
theorem kit2 {K : PySem.W.Frag} {a : String} {b c r : Bool} (h1 : kitB a "tuple" = some b) (h2 : kitB a "list" = some c) (hr : (b || c) = r) : PySem.W.kitAny K (.type a) [.type "tuple", .type "list"] = some r := by
  subst hr
  refine kitAny_cons (kit_ty h1) (fun e => ?_) (fun e => by rw [e] <;> rfl)
  subst e
  refine kitAny_cons (kit_ty h2) (fun e => by rw [e]; exact kitAny_nil) (fun e => by rw [e] <;> rfl)
theorem kitInt {K : PySem.W.Frag} : PySem.W.kitAny K (.type "int") [.type "tuple", .type "list"] = some false := kit2 (b := false) (c := false) (by decide +kernel) (by decide +kernel) rfl
theorem kitStr {K : PySem.W.Frag} : PySem.W.kitAny K (.type "str") [.type "tuple", .type "list"] = some false := kit2 (b := false) (c := false) (by decide +kernel) (by decide +kernel) rfl
theorem kitTup {K : PySem.W.Frag} : PySem.W.kitAny K (.type "tuple") [.type "tuple", .type "list"] = some true := kit2 (b := true) (c := false) (by decide +kernel) (by decide +kernel) rfl
theorem d_al0 (D : DefAt K mg "_law_alike" (st 48)) (N : Nm mg) : Df P w K mg base "_law_alike" 1 ["_law_found", "_law_due"] (spAl fun _ => R0) := by
  refine D.df sc48 (fun vs H Q E h => ?_) (fun _ _ _ _ _ _ us hl => match us, hl with | [_, _], _ => rfl) (fun f cdv A outer sh H vs Q E hr h => ?_)
  · obtain ⟨x, y, rfl, _⟩ := h
    rfl
  · obtain ⟨x, y, rfl, ⟨rfl, hx⟩, q⟩ := h
    refine ⟨_, pss_cons (ps_if (pt_val (pe_callB call_isiT (by rfl) N.isinstance boot_isinstance (pa_cons (pv 1) (pa_cons (pe_tup (pa_cons (pe_bltn (v := .ty "tuple") (by rfl) N.tuple boot_tuple rfl) (pa_cons (pe_bltn (v := .ty "list") (by rfl) N.list boot_list rfl) pa_nil))) pa_nil)))) pss_never pss_nil)
      (pss_cons (ps_if (pw_or (pt_cmp (pc_isN (pv 1))) (pw_or1 (pt_val (pe_isi N.isinstance N.str (pv 1) boot_str)))).pt
        (pss_one (ps_ret (pe_and (pe_cmpR op_eq (pv 0) (pv 1) (nomark _)) (pe_one (pe_cmpR op_eq (pe_isi N.isinstance N.str (pv 0) boot_str) (pe_isi N.isinstance N.str (pv 1) boot_str) (nomark _)))))) pss_nil)
      (pss_one (ps_ret (pe_and (pe_isi N.isinstance N.int (pv 0) boot_int) (pe_and (pe_cmpR op_eq (pe_isi N.isinstance N.bool (pv 0) boot_bool) (pe_isi N.isinstance N.bool (pv 1) boot_bool) (nomark _)) (pe_one (pe_cmpR op_eq (pv 0) (pv 1) (nomark _)))))))), ?_⟩
    rcases hx with ⟨i, rfl⟩ | ⟨z, rfl⟩
    · refine ⟨_, rfl, by show 2 ≤ sizeLine; decide, fun t nt => ⟨_, t, _, _, _, _, rfl, upd_same, .cons (.ty _) (.cons (.ty _) .nil), .base (.int i), kitInt, false, rfl, iteF ?_⟩⟩
      refine ⟨_, rfl, _, rfl, iteF ⟨_, rfl, _, false, .base (.int i), (by decide +kernel), false, rfl, iteF ?_⟩⟩
      refine ⟨_, rfl, _, true, .base (.int i), (by decide +kernel), true, rfl, iteT ⟨_, rfl, _, false, .base (.int i), (by decide +kernel), _, rfl, _, false, .base (.int i), (by decide +kernel), rfl, _, rfl, iteT ⟨_, rfl, _, rfl, rfl, ?_⟩⟩⟩
      show Q (.bl (decide (V.int i = V.int i))) _
      rw [decide_eq_true rfl]
      exact q _ ((Kp.refl H).add nt)
    · refine ⟨_, rfl, by show 2 ≤ sizeLine; decide, fun t nt => ⟨_, t, _, _, _, _, rfl, upd_same, .cons (.ty _) (.cons (.ty _) .nil), .base (.str z), kitStr, false, rfl, iteF ?_⟩⟩
      refine ⟨_, rfl, _, rfl, iteF ⟨_, rfl, _, true, .base (.str z), (by decide +kernel), true, rfl, iteT ?_⟩⟩
      refine ⟨_, rfl, _, rfl, rfl, _, rfl, ?_⟩
      refine iteT' (decide_eq_true rfl) ⟨_, rfl, _, true, .base (.str z), (by decide +kernel), _, rfl, _, true, .base (.str z), (by decide +kernel), rfl, ?_⟩
      exact q _ ((Kp.refl H).add nt)
theorem d_alUp {R : Hp → V → V → Prop} {k : Nat} (st : Stay R) (D : DefAt K mg "_law_alike" (Dw.st 48)) (N : Nm mg) (Dr : Df P w K mg base "_law_alike" k ["_law_found", "_law_due"] (spAl R)) : Df P w K mg base "_law_alike" (k + 1) ["_law_found", "_law_due"] (spAl (Rup R)) := by
  refine D.df sc48 (fun vs H Q E h => ?_) (fun _ _ _ _ _ _ us hl => match us, hl with | [_, _], _ => rfl) (fun f cdv A outer sh H vs Q E hr h => ?_)
  · obtain ⟨x, y, rfl, _⟩ := h
    rfl
  · obtain ⟨x, y, rfl, ⟨a, b, ps, qs, rfl, rfl, ha, hb, pr, l100⟩, q⟩ := h
    refine ⟨_, pss_cons (ps_if (pt_val (pe_callB call_isiT (by rfl) N.isinstance boot_isinstance (pa_cons (pv 1) (pa_cons (pe_tup (pa_cons (pe_bltn (v := .ty "tuple") (by rfl) N.tuple boot_tuple rfl) (pa_cons (pe_bltn (v := .ty "list") (by rfl) N.list boot_list rfl) pa_nil))) pa_nil))))
        (pss_cons (ps_if (pw_or (pt_not (pt_val (pe_callB call_isiT (by rfl) N.isinstance boot_isinstance (pa_cons (pv 0) (pa_cons (pe_tup (pa_cons (pe_bltn (v := .ty "tuple") (by rfl) N.tuple boot_tuple rfl) (pa_cons (pe_bltn (v := .ty "list") (by rfl) N.list boot_list rfl) pa_nil))) pa_nil)))))
            (pw_or1 (pt_cmpR op_ne (pe_isi N.isinstance N.list (pv 0) boot_list) (pe_isi N.isinstance N.list (pv 1) boot_list) (nomark _)))).pt (pss_one (ps_ret pe_bl)) pss_nil)
        (pss_cons (ps_if (pt_cmpR op_ne (pe_len N.len (pv 0)) (pe_len N.len (pv 1)) (nomark _)) (pss_one (ps_ret pe_bl)) pss_nil)
        (pss_one (ps_ret (pe_cmpR (op_eqNil hr.units) (pe_lc (own := [("_law_k", 2)]) (g := gName 2) rfl sc48.nd (pi_range1 (by rfl) N.range (pa_cons (pe_len N.len (pv 1)) pa_nil)) (blkOk_by (N := n48) (sc := defScope (Dw.st 48)) (by decide +kernel))
          (fun _ _ _ _ _ => pg_name (i := 2) sc48.nd rfl (Or.inl rfl)) (fun _ _ _ _ _ => pts_one (pt_not (pt_val (pe_df Dr hr (by rfl) (pa_cons (pe_ix (ixT K) (pv 0) (pv 2) (fun _ _ => rfl)) (pa_cons (pe_ix (ixT K) (pv 1) (pv 2) (fun _ _ => rfl)) pa_nil)))))) (fun _ _ _ _ _ => pv 2)) (pe_lst pa_nil) (nomark _)))))) pss_nil)
      pss_never, ?_⟩
    have len := Paired.length pr
    refine ⟨_, rfl, by show 2 ≤ sizeLine; decide, fun t nt => ⟨_, t, _, _, _, _, rfl, upd_same, .cons (.ty _) (.cons (.ty _) .nil), .base (.tup (add_kt nt _ _ hb)), kitTup, true, rfl, iteT ?_⟩⟩
    have k1 := (Kp.refl H).add (o := .tup [.ty "tuple", .ty "list"]) nt
    refine ⟨_, rfl, by show 2 ≤ sizeLine; decide, fun t2 nt2 => ⟨_, t2, _, _, _, _, rfl, upd_same, .cons (.ty _) (.cons (.ty _) .nil), .base (.tup (add_kt nt2 _ _ (k1.tup ha))), kitTup, true, rfl, iteF ?_⟩⟩
    have k2 := k1.add (o := .tup [.ty "tuple", .ty "list"]) nt2
    refine ⟨_, rfl, _, false, .base (.tup (k2.tup ha)), (by decide +kernel), _, rfl, _, false, .base (.tup (k2.tup hb)), (by decide +kernel), rfl, _, rfl, iteF ?_⟩
    refine ⟨_, rfl, a, _, rfl, .inr (SqT.of (k2.tup ha)), _, rfl, b, _, rfl, .inr (SqT.of (k2.tup hb)), rfl, _, rfl, ?_⟩
    rw [len]
    refine iteNS rfl ?_
    refine ⟨_, rfl, b, _, rfl, .inr (SqT.of (k2.tup hb)), _, rfl, by omega, by omega, fun G hG => ?_⟩
    have nG := k2.nn G hG
    refine gw wl_rng (fun j H' => Kp H H' ∧ H' G = some (.lst [])) ⟨k2.add hG, upd_same⟩ (fun _ _ _ _ => trivial) ?_ ?_
    · rintro j x H1 H1' hj ⟨k3, h3⟩ ⟨rfl, rfl⟩
      obtain ⟨x, y, hx, hy, hxy⟩ := pr_get12 pr (i := j) (by omega)
      have e0 : (0 : Int) + (j : Nat) = (j : Nat) := by omega
      rw [e0]
      refine ⟨rfl, _, rfl, _, rfl, a, _, _, _, rfl, rfl, SqT.of (k3.tup ha), atI_nat hx, _, rfl, _, rfl, b, _, _, _, rfl, rfl, SqT.of (k3.tup hb), atI_nat hy, x, y, rfl, st _ _ _ _ k3.kt hxy, fun H2 k4 => ⟨true, rfl, ?_⟩⟩
      exact iteF ⟨k3.trans k4, k4.lst h3⟩
    · rintro H1 ⟨k3, h3⟩
      refine ⟨by show 0 ≤ sizeLine; decide, fun e ne => ?_⟩
      have nGe : G ≠ e := ne_of_none h3 ne
      exact ⟨G, [], e, rfl, by rw [upd_ne nGe]; exact h3, nst_ints [], rfl, upd_same, q _ (k3.add ne)⟩
abbrev n49 : List Str := ["_law_works_here", "_law_found", "_law_wants", "_law_bars", "_law_routes", "_law_longer", "_law_plan", "_law_number"]
theorem sc49 : FnScope n49 ["_law_works_here"] (defScope (st 49)) := ⟨rfl, rfl, rfl, by decide +kernel, rfl, by decide +kernel, by decide +kernel⟩
theorem d_lplans (D : DefAt K mg "_law_plans" (st 49)) (N : Nm mg) : Df P w K mg base "_law_plans" 1 ["_law_works_here"] spPlans := by
  refine D.df sc49 (fun vs H Q E h => ?_) (fun _ _ _ _ _ _ us hl => match us, hl with | [_], _ => rfl) (fun f cdv A outer sh H vs Q E hr h => ?_)
  · obtain ⟨u, W, rfl, _⟩ := h
    rfl
  · obtain ⟨u, W, rfl, hu, ok, q⟩ := h
    refine ⟨_, pss_cons (ps_set (i := 1) sc49.nd rfl (Or.inl rfl) (pe_lst (pa_cons (pe_tup pa_nil) pa_nil)))
      (pss_cons (ps_for PassesOwn.never rfl (pi_tup (pe_ix ix_tup (pv 0) pe_int (fun _ _ => rfl))) (pg_tup rfl (pgs_cons (pg_name (i := 2) sc49.nd rfl (Or.inl rfl)) (pgs_cons (pg_name (i := 3) sc49.nd rfl (Or.inl rfl)) (pgs_cons (pg_name (i := 4) sc49.nd rfl (Or.inl rfl)) pgs_nil))))
        (pss_cons (ps_set (i := 5) sc49.nd rfl (Or.inl rfl) (pe_lst pa_nil))
        (pss_cons (ps_for PassesOwn.never rfl (pi_list (pv 1)) (pg_name (i := 6) sc49.nd rfl (Or.inr rfl))
          (pss_one (ps_set (i := 5) sc49.nd rfl (Or.inl rfl) (pe_op op_cat (pv 5) (pe_lc (own := [("_law_number", 7)]) (g := gName 7) (tt := tYes) rfl sc49.nd (pi_range1 (by rfl) N.range (pa_cons (pe_len N.len (pv 4)) pa_nil)) (blkOk_by (N := n49) (sc := defScope (st 49)) (by decide +kernel))
            (fun _ _ _ _ _ => pg_name (i := 7) sc49.nd rfl (Or.inl rfl)) (fun _ _ _ _ _ => pts_nil) (fun _ _ _ _ _ => pe_op op_ct (pv 6) (pe_tup (pa_cons (pv 7) pa_nil))))))))
        (pss_one (ps_set (i := 1) sc49.nd rfl (Or.inl rfl) (pv 5))))))
      (pss_one (ps_ret (pv 1)))), ?_⟩
    obtain ⟨a, y, b, ks, rfl, ha, hy, hb, pk⟩ := id hu
    have kf := ok.kfew
    refine ⟨by show 0 ≤ sizeLine; decide, fun t nt => ⟨by show 1 ≤ sizeLine; decide, fun l nl => ?_⟩⟩
    have k0 := ((Kp.refl H).add (o := .tup []) nt).add (o := .lst [.ref t]) nl
    have ntl : t ≠ l := fun z => by rw [← z, upd_same] at nl; cases nl
    refine ⟨_, rfl, a, _, _, _, rfl, rfl, SqT.of (k0.tup ha), atI_nat (j := 2) rfl, b, rfl, ⟨_, SqT.of (k0.tup hb)⟩, ?_⟩
    refine for_wlk wl_tup (fun i σ H' => ∃ l ps o2 o3 o4 o5 o6, σ = [some (.ref a), some (.ref l), o2, o3, o4, o5, o6, none] ∧ Kp H H' ∧ H' l = some (.lst ps) ∧ Paired (IsL H') ps (allP (W.kinds.take i)))
      ⟨l, [.ref t], none, none, none, none, none, rfl, k0, upd_same, .cons ⟨t, rfl, by rw [upd_ne ntl, upd_same] <;> rfl⟩ .nil⟩ (fun i σ H' _ ⟨_, _, _, _, _, _, _, _, k, _⟩ => SqT.of (k.tup hb)) ?_ ?_
    · rintro i x σ H1 H1' hi ⟨l, ps, o2, o3, o4, o5, o6, rfl, k1, hl, pr⟩ ⟨rfl, hx⟩
      obtain ⟨kd, hk, ik⟩ := pr_get pk hx
      obtain ⟨ka, x1, x2, x3, rfl, hka, _, _, hx3⟩ := ik.keep k1.kt
      obtain ⟨za, rs, rfl, hza, pz⟩ := id hx3
      have lr := Paired.length pz
      have il : i < W.kinds.length := (List.getElem?_eq_some_iff.mp hk).1
      have al := allP_len ok.most i (by omega)
      have p4 := pow_le (i := i) (by omega)
      have k4 := ok.most kd (mem_at hk)
      have lp := Paired.length pr
      refine ⟨ka, _, rfl, SqT.of hka, rfl, _, _, rfl, _, _, rfl, _, _, rfl, rfl, ?_⟩
      refine ⟨by show 0 ≤ sizeLine; decide, fun L nL => ?_⟩
      have nlL : l ≠ L := ne_of_none hl nL
      have k1L := k1.add (o := .lst []) nL
      have hlL : (upd H1' L (.lst [])) l = some (.lst ps) := by rw [upd_ne nlL]; exact hl
      have hz0 := add_kt (o := .lst []) nL _ _ hza
      refine ⟨_, rfl, l, rfl, ⟨_, SqL.of hlL⟩, ?_⟩
      refine for_wlk wl_list (fun j σ H' => ∃ lo acc o6, σ = [some (.ref a), some (.ref l), some x1, some x2, some (.ref za), some (.ref lo), o6, none] ∧ Kp H H' ∧ KT H1' H' ∧ H' l = some (.lst ps) ∧ H' lo = some (.lst acc) ∧ Paired (IsL H') acc (((allP (W.kinds.take i)).take j).flatMap (more1 kd.routes.length)))
        ⟨L, [], o6, rfl, k1L, add_kt nL, hlL, upd_same, .nil⟩ (fun j σ H' _ ⟨_, _, _, _, _, _, h, _⟩ => SqL.of h) ?_ ?_
      · rintro j x6 σ H2 H2' hj ⟨lo, acc, o6, rfl, k2, kt2, hl2, hlo, pra⟩ ⟨rfl, hx6⟩
        obtain ⟨p, hp, ip⟩ := pr_get pr hx6
        have lacc := Paired.length pra
        have fl := flat_len (more1_len kd.routes.length) ((allP (W.kinds.take i)).take j)
        have tl : ((allP (W.kinds.take i)).take j).length ≤ 64 := by rw [List.length_take]; omega
        have t2 : ((allP (W.kinds.take i)).take j).length * kd.routes.length ≤ 64 * 4 := Nat.mul_le_mul tl k4
        refine ⟨_, rfl, _, rfl, za, _, rfl, .inr (SqT.of (kt2 _ _ hza)), _, rfl, by omega, by omega, fun D hD => ?_⟩
        have nD := k2.nn D hD
        have nloD : lo ≠ D := ne_of_none hlo hD
        have nlD : l ≠ D := ne_of_none hl2 hD
        refine gw wl_rng (fun m H' => Kp H H' ∧ KT H2' H' ∧ H' l = some (.lst ps) ∧ H' lo = some (.lst acc) ∧ ∃ bs, H' D = some (.lst bs) ∧ Paired (IsL H') bs ((more1 kd.routes.length p).take m)) ⟨k2.add hD, add_kt hD, by rw [upd_ne nlD]; exact hl2, by rw [upd_ne nloD]; exact hlo, [], upd_same, .nil⟩ (fun _ _ _ _ => trivial) ?_ ?_
        · rintro m x7 H3 H3' hm ⟨k3, kt3, hl3, hlo3, bs, hbs, prb⟩ ⟨rfl, rfl⟩
          have hm2 : m < kd.routes.length := by omega
          obtain ⟨pa, rfl, hpa⟩ := ip.keep (kt2.trans kt3)
          refine ⟨rfl, _, rfl, _, rfl, by show 1 ≤ sizeLine; decide, fun t nt => ?_⟩
          have pl : p.length ≤ 3 := by
            have := (allP_ok (ks := W.kinds) i (by omega) p (mem_at hp)).1
            omega
          have k3t := (Kp.refl H3').add (o := .tup [.int (0 + (m : Nat))]) nt
          refine ⟨pa, t, _, _, rfl, rfl, k3t.tup hpa, upd_same, by rw [List.length_map, sizeLine_eq, List.length_singleton]; omega, fun c H4 sm hc => ?_⟩
          have k34 := k3t.trans (.same sm)
          have hD4 := k34.lst hbs
          have kk := put_kt (o := .lst (bs ++ [.ref c])) hD4
          refine ⟨bs, hD4, ?_, (k3.trans k34).put nD hD4, (kt3.trans k34.kt).trans kk, by rw [upd_ne nlD]; exact k34.lst hl3, by rw [upd_ne nloD]; exact k34.lst hlo3, bs ++ [.ref c], upd_same, ?_⟩
          · have : ((more1 kd.routes.length p).take m).length ≤ kd.routes.length := by rw [List.length_take, more1_len]; omega
            rw [Paired.length prb, sizeLine_eq]
            omega
          · rw [more1_take p hm2]
            refine pr_snoc (Paired.mapP prb fun _ _ q => (q.keep k34.kt).keep kk) ⟨c, rfl, kk _ _ ?_⟩
            rw [hc, List.map_append]
            simp
        · rintro H3 ⟨k3, kt3, hl3, hlo3, bs, hbs, prb⟩
          have e : ((rs.length : Nat) : Int).toNat = (more1 kd.routes.length p).length := by rw [more1_len]; omega
          rw [e, List.take_length] at prb
          have lb := Paired.length prb
          rw [more1_len] at lb
          refine ⟨lo, D, _, _, rfl, rfl, hlo3, hbs, by rw [sizeLine_eq]; omega, fun g ng => ?_⟩
          have nlg : l ≠ g := ne_of_none hl3 ng
          have kg := add_kt (o := .lst (acc ++ bs)) ng
          refine ⟨g, acc ++ bs, _, rfl, k3.add ng, (kt2.trans kt3).trans kg, by rw [upd_ne nlg]; exact hl3, upd_same, ?_⟩
          rw [flat_take hp]
          exact pr_app (Paired.mapP pra fun _ _ q => (q.keep kt3).keep kg) (Paired.mapP prb fun _ _ q => q.keep kg)
      · rintro σ H2 ⟨lo, acc, o6, rfl, k2, kt2, hl2, hlo, pra⟩
        rw [lp, List.take_length] at pra
        refine ⟨_, rfl, lo, acc, _, _, _, _, _, rfl, k2, hlo, ?_⟩
        rw [allP_snoc hk]
        exact pra
    · rintro σ H1 ⟨l, ps, o2, o3, o4, o5, o6, rfl, k1, hl, pr⟩
      rw [Paired.length pk, List.take_length] at pr
      exact ⟨_, rfl, q _ l ps k1 hl pr⟩
end
end Dw

/-! part DwNk -/
set_option Elab.async false
set_option linter.all false
set_option maxRecDepth 100000
set_option maxHeartbeats 4000000
/-! stands as items of a set: what is asked of them one by one -/
namespace Dw
open PySem PySem.Spec PyProof.Rows L2

section
variable {P : Program} {w : World} {A : Around} {E : Value → Shared → Prop} {s : Shared} {h h' : Heap} {k k' : Stand} {a b : Addr}
/-- the tuple at a is the stand k -/
abbrev IsN (h : Heap) (k : Stand) (a : Addr) : Prop := NestedIs h (kS k) (.ref a)
abbrev nh (w : World) (k : Stand) : Int := (kS k).hash w
theorem IsN.kd (x : IsN h k a) : (nestedKind P w).is h (kS k) a := ⟨x, Nat.le_trans (kS_depth k) (by decide)⟩
theorem IsN.inj (x : IsN h k a) (y : IsN h k' a) : k = k' := kS_inj (NestedIs.inj _ _ _ x y)
theorem IsN.keep (x : IsN h k a) (z : ∀ b o, h.get? b = some o → h'.get? b = some o) : IsN h' k a := NestedIs.at (fun b o _ _ e _ => z b o e) _ _ x
theorem IsN.but {o : Obj} {es : Array (Int × Value)} {ep : Nat} {t : SetTable} (x : IsN h k b) (ho : h.get? a = some o) (hd : o.data = .set es ep t) (hs : Heap.SameBut a h h') : IsN h' k b :=
  NestedIs.at (fun c ob vs n hb hc => (hs.2 c fun e => by subst e; rw [ho] at hb; cases hb; rw [hd] at hc; cases hc).trans hb) _ _ x
theorem IsN.eqB {Q : Bool → Shared → Prop} (hu : A.units + 8 < cLine) (x : IsN s.heap k a) (y : IsN s.heap k' b) (q : Q (decide (k = k')) s) : wpAny (model P w) A (eqBool (.ref a) (.ref b)) Q E s := by
  refine (nestedKind P w).eqBool hu x.kd y.kd ?_
  have e : decide (kS k = kS k') = decide (k = k') := decide_eq_decide.mpr ⟨kS_inj, congrArg _⟩
  rw [e]
  exact q
theorem IsN.ty (x : IsN s.heap k a) : s.TypeIs (.ref a) "tuple" := by
  unfold IsN kS at x
  cases x with
  | tup h1 h2 _ _ => exact ⟨_, h1, h2⟩

/-- v is of no class statement, n levels down -/
def OfA (P : Program) (w : World) (n : Nat) (s : Shared) (v : Value) : Prop := ∀ (A : Around) (E : Value → Shared → Prop) (Q : Bool → Shared → Prop), Q false s → wpAny (model P w) A (ofAClassStatement n v) Q E s
/-- v's hash is by value, n levels down -/
def HbV (P : Program) (w : World) (n : Nat) (s : Shared) (v : Value) : Prop := ∀ (A : Around) (E : Value → Shared → Prop) (Q : Bool → Shared → Prop), Q true s → wpAny (model P w) A (hashByValue n v) Q E s
theorem OfA.num {i : Int} {v : Value} {n : Nat} (x : NestedIs s.heap (.num i) v) : OfA P w n s v := by
  intro A E Q q
  cases x <;> (cases n <;> exact wpAny_pure q)
theorem HbV.num {i : Int} {v : Value} {n : Nat} (x : NestedIs s.heap (.num i) v) : HbV P w n s v := by
  intro A E Q q
  cases x <;> (cases n <;> exact wpAny_pure q)
theorem OfA.tup {n m : Nat} {o : Obj} {vs : Array Value} (ho : s.heap.get? a = some o) (hc : o.cls = .type "tuple") (hd : o.data = .seq vs m) (hq : ∀ v ∈ vs.toList, OfA P w n s v) : OfA P w (n + 1) s (.ref a) := by
  intro A E Q q
  have hT : s.TypeIs (.ref a) "tuple" := ⟨o, ho, hc⟩
  unfold ofAClassStatement
  refine wpAny_bind (wpAny_typeOf hT ?_)
  dsimp only
  rw [show (("tuple" : String) == "tuple") = true from by decide]
  simp only [if_true, Bool.not_true, Bool.false_eq_true, if_false]
  try refine wpAny_bind (wpAny_pure ?_)
  try simp only [Bool.not_true, Bool.false_eq_true, if_false]
  show wpAny _ _ (seqItems? (.ref a) >>= _) _ _ s
  refine wpAny_bind (wpAny_seqItems ho hd ?_)
  dsimp only
  refine wpAny_bind ?_
  show wpAny _ _ (forIn vs _ _) _ _ s
  rw [← Array.forIn_toList]
  refine wpAny_forIn_list _ (fun rest r s1 => r.1 = none ∧ s1 = s ∧ ∀ v ∈ rest, OfA P w n s v) _ ?_ ?_ _ _ ⟨rfl, rfl, hq⟩
  · rintro v rest r s1 ⟨hr, rfl, all⟩
    refine wpAny_bind (all v List.mem_cons_self _ _ _ ?_)
    simp only [Bool.false_eq_true, if_false]
    exact wpAny_pure ⟨rfl, rfl, fun u z => all u (List.mem_cons_of_mem _ z)⟩
  · rintro ⟨r1, r2⟩ s1 ⟨hr, rfl, _⟩
    simp only at hr
    subst hr
    exact wpAny_pure q
theorem HbV.tup {n m : Nat} {o : Obj} {vs : Array Value} (ho : s.heap.get? a = some o) (hc : o.cls = .type "tuple") (hd : o.data = .seq vs m) (hq : ∀ v ∈ vs.toList, HbV P w n s v) : HbV P w (n + 1) s (.ref a) := by
  intro A E Q q
  have hT : s.TypeIs (.ref a) "tuple" := ⟨o, ho, hc⟩
  unfold hashByValue
  refine wpAny_bind (wpAny_specialOf hT F.slot_tuple_hash.lookup ?_)
  show wpAny _ _ (seqItems? (.ref a) >>= _) _ _ s
  refine wpAny_bind (wpAny_seqItems ho hd ?_)
  refine wpAny_bind ?_
  show wpAny _ _ (forIn vs _ _) _ _ s
  rw [← Array.forIn_toList]
  refine wpAny_forIn_list _ (fun rest r s1 => r.1 = none ∧ s1 = s ∧ ∀ v ∈ rest, HbV P w n s v) _ ?_ ?_ _ _ ⟨rfl, rfl, hq⟩
  · rintro v rest r s1 ⟨hr, rfl, all⟩
    refine wpAny_bind (all v List.mem_cons_self _ _ _ ?_)
    simp only [Bool.not_true, Bool.false_eq_true, if_false]
    exact wpAny_pure ⟨rfl, rfl, fun u z => all u (List.mem_cons_of_mem _ z)⟩
  · rintro ⟨r1, r2⟩ s1 ⟨hr, rfl, _⟩
    simp only at hr
    subst hr
    exact wpAny_pure q
theorem nested_each {h : Heap} : ∀ {ks : List NestedKey} {vs : List Value}, NestedAll h ks vs → ∀ v ∈ vs, ∃ k ∈ ks, NestedIs h k v
  | [], _, x, v, hv => by cases x; cases hv
  | k :: ks, _, x, v, hv => by
    cases x with
    | cons x1 x2 =>
      rcases List.mem_cons.mp hv with e | e
      · exact ⟨k, List.mem_cons_self, e ▸ x1⟩
      · obtain ⟨k2, q1, q2⟩ := nested_each x2 v e
        exact ⟨k2, List.mem_cons_of_mem _ q1, q2⟩
theorem OfA.lot {xs : Lot} {v : Value} {n : Nat} (x : NestedIs s.heap (kL xs) v) : OfA P w (n + 1) s v := by
  unfold kL at x
  cases x with
  | tup h1 h2 h3 h4 =>
    refine .tup h1 h2 h3 fun u hu => ?_
    obtain ⟨k, q1, q2⟩ := nested_each h4 u hu
    obtain ⟨i, _, rfl⟩ := List.mem_map.mp q1
    exact .num q2
theorem HbV.lot {xs : Lot} {v : Value} {n : Nat} (x : NestedIs s.heap (kL xs) v) : HbV P w (n + 1) s v := by
  unfold kL at x
  cases x with
  | tup h1 h2 h3 h4 =>
    refine .tup h1 h2 h3 fun u hu => ?_
    obtain ⟨k, q1, q2⟩ := nested_each h4 u hu
    obtain ⟨i, _, rfl⟩ := List.mem_map.mp q1
    exact .num q2
theorem IsN.ofA {n : Nat} (x : IsN s.heap k a) : OfA P w (n + 2) s (.ref a) := by
  unfold IsN kS at x
  cases x with
  | tup h1 h2 h3 h4 =>
    refine .tup h1 h2 h3 fun u hu => ?_
    obtain ⟨k, q1, q2⟩ := nested_each h4 u hu
    obtain ⟨i, _, rfl⟩ := List.mem_map.mp q1
    exact .lot q2
theorem IsN.hbV {n : Nat} (x : IsN s.heap k a) : HbV P w (n + 2) s (.ref a) := by
  unfold IsN kS at x
  cases x with
  | tup h1 h2 h3 h4 =>
    refine .tup h1 h2 h3 fun u hu => ?_
    obtain ⟨k, q1, q2⟩ := nested_each h4 u hu
    obtain ⟨i, _, rfl⟩ := List.mem_map.mp q1
    exact .lot q2
/-- a search among stands shows nothing -/
theorem IsN.seen {Q : Bool → Shared → Prop} (x : IsN s.heap k b) {ys : List Value} (hy : ∀ y ∈ ys, ∃ k' c, y = Value.ref c ∧ IsN s.heap k' c) (q : Q false s) : wpAny (model P w) A (searchCouldBeSeen (.ref b) ys) Q E s := by
  unfold searchCouldBeSeen
  refine wpAny_bind ?_
  refine wpAny_forIn_list _ (fun rest r s1 => r.1 = none ∧ s1 = s ∧ ∀ y ∈ rest, ∃ k' c, y = Value.ref c ∧ IsN s.heap k' c) _ ?_ ?_ _ _ ⟨rfl, rfl, hy⟩
  · rintro v rest r s1 ⟨hr, rfl, all⟩
    obtain ⟨k', c, rfl, hc⟩ := all v List.mem_cons_self
    have tl := fun u (z : u ∈ rest) => all u (List.mem_cons_of_mem _ z)
    dsimp only
    by_cases hv : (b == c || (carriedByValue (.ref b) && carriedByValue (.ref c))) = true
    · exact wp_if_pos hv (wpAny_pure ⟨rfl, rfl, tl⟩)
    · refine wp_if_neg hv ?_
      refine wpAny_bind ((nestedKind P w).quiet x.kd ?_)
      simp only [Bool.not_true, Bool.false_eq_true, if_false]
      refine wpAny_bind ((nestedKind P w).quiet hc.kd ?_)
      simp only [Bool.not_true, Bool.false_eq_true, if_false]
      refine wpAny_bind (x.ofA (n := 6) _ _ _ ?_)
      simp only [Bool.false_eq_true, if_false]
      refine wpAny_bind (hc.ofA (n := 6) _ _ _ ?_)
      simp only [Bool.false_eq_true, if_false]
      exact wpAny_pure ⟨rfl, rfl, tl⟩
  · rintro ⟨r1, r2⟩ s1 ⟨hr, rfl, _⟩
    simp only at hr
    subst hr
    exact wpAny_pure q
end
end Dw

/-! part DwNs -/
set_option Elab.async false
set_option linter.all false
set_option maxRecDepth 100000
set_option maxHeartbeats 4000000
/-! a set of stands: adding -/
namespace Dw
open PySem PySem.Spec PyProof.Rows L2

abbrev Nm2 := Addr × Stand
def nrows (w : World) (L : List Nm2) : List (Int × Value) := L.map fun p => (nh w p.2, Value.ref p.1)
structure NSet (w : World) (h : Heap) (a : Addr) (L : List Nm2) (es : Array (Int × Value)) (ep : Nat) (t : SetTable) : Prop where
  ob : ∃ o, h.get? a = some o ∧ o.ExactSet ∧ o.data = .set es ep t
  rs : es.toList = nrows w L
  tab : TabOk t (L.map fun p => nh w p.2)
  nd : (L.map (·.2)).Nodup
  its : ∀ p ∈ L, IsN h p.2 p.1
  pl : t.plain = true
  led : w.params.followText "set-order" = true ∨ t.led = true
  room : L.length * 5 < t.mask * 3
  few : L.length < 64
section
variable {P : Program} {w : World} {A : Around} {E : Value → Shared → Prop} {s : Shared} {a : Addr} {L : List Nm2} {es : Array (Int × Value)} {ep : Nat} {t : SetTable}
theorem nrows_len (hr : es.toList = nrows w L) : es.size = L.length := by
  have z := congrArg List.length hr
  rwa [nrows, Array.length_toList, List.length_map] at z
theorem NSet.sz (R : NSet w s.heap a L es ep t) : t.place.size = L.length := by
  have z := R.tab.sz
  rwa [List.length_map] at z
theorem fits_of {n : Nat} (h1 : t.place.size = n) (h2 : t.dummies = #[]) (h3 : n ≤ t.mask) : t.fits n = true := by
  unfold SetTable.fits SetTable.fill
  rw [h2, Bool.and_eq_true, beq_iff_eq, decide_eq_true_eq]
  show t.place.size = n ∧ t.place.size + 0 ≤ t.mask
  omega
theorem NSet.fits (R : NSet w s.heap a L es ep t) : t.fits es.size = true := by
  have z1 := R.sz
  have z2 := nrows_len R.rs
  have z3 := R.room
  exact fits_of (by omega) R.tab.dm (by omega)
theorem NSet.row (R : NSet w s.heap a L es ep t) {i : Nat} {p : Nm2} (e : L[i]? = some p) : es[i]? = some (nh w p.2, Value.ref p.1) := by
  rw [← Array.getElem?_toList, R.rs, nrows, List.getElem?_map, e] <;> rfl
theorem NSet.stays (R : NSet w s.heap a L es ep t) : ¬ t.gaveWay = true := by
  unfold SetTable.gaveWay
  rw [mask_odd R.tab.mok]
  decide

abbrev wy (t : SetTable) (g : Int) (c : Nat) : Nat := way t.mask g c
abbrev pb (t : SetTable) (g : Int) (c : Nat) : SetTable.Probe := L2.nth t.mask (runAt t.mask (SetTable.bits g % (t.mask + 1)) (SetTable.bits g)) c
theorem pb_dummy (t : SetTable) (g : Int) (c : Nat) : (pb t g c).dummy = none := by
  have key : ∀ (n : Nat) (p : SetTable.Probe), p.dummy = none → (L2.nth t.mask p n).dummy = none := by
    intro n
    induction n with
    | zero => intro p z; exact z
    | succ n ih =>
      intro p z
      refine ih (adv t.mask p) ?_
      unfold adv
      split <;> exact z
  exact key c _ rfl
/-- from the c-th step of the way on -/
theorem look_from (R : NSet w s.heap a L es ep t) {x : Addr} {k : Stand} (hx : IsN s.heap k x) (hu : A.units + 8 < cLine) {n : Nat} (hn1 : n < 10 * SetTable.turns t.mask)
    (hn2 : wy t (nh w k) n ∉ t.place.toList) (hn3 : ∀ c, c < n → wy t (nh w k) c ∈ t.place.toList) {Q : SetFound → Shared → Prop}
    (yes : k ∈ L.map (·.2) → Q (.there none) s) (no : k ∉ L.map (·.2) → Q (.free (wy t (nh w k) n) false) s) :
    ∀ (f c : Nat) (stand : Option SetTable.Probe), stand.getD (t.probeStart (nh w k)) = pb t (nh w k) c → c ≤ n → n - c < f →
      (∀ (i : Nat) p, L[i]? = some p → p.2 = k → ∃ c', c ≤ c' ∧ c' < n ∧ t.place.toList[i]? = some (wy t (nh w k) c')) →
      wpAny (model P w) A (setSearchFrom a (.ref x) (nh w k) true f stand) Q E s
  | 0, c, stand, _, _, hf, _ => absurd hf (Nat.not_lt_zero _)
  | f + 1, c, stand, hst, hc, hf, hre => by
    obtain ⟨o, ho, hex, hd⟩ := R.ob
    rw [setSearchFrom_succ]
    refine wpAny_bind (wpAny_setState_of ho hd R.fits ?_)
    dsimp only
    refine wp_if_neg R.stays ?_
    try refine wpAny_bind (wpAny_pure ?_)
    have sh : ∀ q, L2.nth t.mask (pb t (nh w k) c) q = pb t (nh w k) (c + q) := fun q => (nth_add t.mask c _ q).symm
    have e1 : ∀ q, (L2.nth t.mask (pb t (nh w k) c) q).j = wy t (nh w k) (c + q) := fun q => congrArg SetTable.Probe.j (sh q)
    have spec := go_spec t R.tab.ris R.tab.dm (fun i => (es[i]?.map (·.1)).getD 0) (nh w k) (10 * SetTable.turns t.mask) (n - c) _ (pb_dummy t (nh w k) c) (by omega)
      (fun q hq => by rw [e1]; exact hn3 (c + q) (by omega)) (by rw [e1, show c + (n - c) = n by omega]; exact hn2)
    have hashAt : ∀ (i : Nat) p, L[i]? = some p → (fun i => (es[i]?.map (·.1)).getD 0) i = nh w p.2 := fun i p hp => by
      show (es[i]?.map (·.1)).getD 0 = _
      rw [R.row hp] <;> rfl
    rcases spec with ⟨q, i, hq, hi, hh, hno, hpr⟩ | ⟨hno, hpr⟩
    · rw [show t.probe (fun i => (es[i]?.map (·.1)).getD 0) (nh w k) (stand.getD (t.probeStart (nh w k))) = some (.candidate (wy t (nh w k) (c + q)) i (pb t (nh w k) (c + (q + 1)))) from by
        rw [hst, ← e1, ← sh]
        exact hpr]
      dsimp only
      rw [e1] at hi
      have hil : i < L.length := by
        have z1 : i < t.place.toList.length := (List.getElem?_eq_some_iff.mp hi).1
        have z2 := R.sz
        rw [Array.length_toList] at z1
        omega
      have hp : L[i]? = some L[i] := List.getElem?_eq_getElem hil
      generalize L[i] = p at hp
      have hm := List.mem_of_getElem? hp
      have hpt := R.its p hm
      have rest : wpAny (model P w) A (searchRest a (.ref x) (nh w k) true f es t (wy t (nh w k) (c + q)) i (pb t (nh w k) (c + (q + 1)))) Q E s := by
        unfold searchRest
        rw [R.row hp]
        dsimp only
        refine wpAny_bind (wpAny_holding (hpt.eqB hu hx ?_))
        refine wpAny_bind (wpAny_setState_of ho hd R.fits ?_)
        dsimp only
        by_cases hkk : p.2 = k
        · exact wp_if_pos (by simp [hkk]) (wpAny_pure (yes (List.mem_map.mpr ⟨p, hm, hkk⟩)))
        · refine wp_if_neg (by simp [hkk]) ?_
          try refine wpAny_bind (wpAny_pure ?_)
          rw [sameMem]
          dsimp only
          have hsl : t.slot (wy t (nh w k) (c + q)) = .live i := slot_live R.tab.ris hi
          simp only [if_true, hsl, R.row hp]
          refine wpAny_bind (wpAny_isSame_ref_self (wpAny_bind (wpAny_pure ?_)))
          simp only [if_true]
          refine wp_if_neg (by simp [hkk]) ?_
          refine look_from R hx hu hn1 hn2 hn3 yes no f (c + (q + 1)) _ rfl (by omega) (by omega) fun i0 p0 h0 hk0 => ?_
          obtain ⟨c', a1, a2, a3⟩ := hre i0 p0 h0 hk0
          refine ⟨c', ?_, a2, a3⟩
          rcases Nat.lt_trichotomy c' (c + q) with z | z | z
          · exact absurd ((hashAt i0 p0 h0).trans (congrArg (nh w) hk0)) (hno (c' - c) i0 (by omega) (by rw [e1, show c + (c' - c) = c' by omega]; exact a3))
          · rw [z] at a3
            have s0 := slot_live R.tab.ris a3
            rw [hsl] at s0
            injection s0 with s0
            rw [← s0, hp] at h0
            exact absurd ((congrArg Prod.snd (Option.some.inj h0)).trans hk0) hkk
          · omega
      by_cases hl : t.led = true
      · refine wp_if_neg (by simp [hl]) ?_
        try refine wpAny_bind (wpAny_pure ?_)
        exact rest
      · refine wp_if_pos (by simp [hl]) ?_
        refine wpAny_bind (hx.seen (fun y hy => ?_) ?_)
        · obtain ⟨e, he, ee⟩ := List.mem_map.mp hy
          have he1 : e ∈ es ∧ e.1 = nh w k := by simpa using he
          have he2 : e ∈ es.toList := by simpa using he1.1
          rw [R.rs] at he2
          obtain ⟨p2, hp2, e2⟩ := List.mem_map.mp he2
          exact ⟨p2.2, p2.1, by rw [← ee, ← e2], R.its p2 hp2⟩
        · refine wp_if_neg (by decide) ?_
          try refine wpAny_bind (wpAny_pure ?_)
          exact rest
    · rw [show t.probe (fun i => (es[i]?.map (·.1)).getD 0) (nh w k) (stand.getD (t.probeStart (nh w k))) = some (.empty (wy t (nh w k) n) none) from by
        rw [hst, show wy t (nh w k) n = (L2.nth t.mask (pb t (nh w k) c) (n - c)).j from by rw [e1, show c + (n - c) = n by omega]]
        exact hpr]
      dsimp only
      refine wpAny_pure (no fun hm => ?_)
      obtain ⟨p0, h0, hk0⟩ := List.mem_map.mp hm
      obtain ⟨i0, hi0⟩ := List.getElem?_of_mem h0
      obtain ⟨c', a1, a2, a3⟩ := hre i0 p0 hi0 hk0
      exact hno (c' - c) i0 (by omega) (by rw [e1, show c + (c' - c) = c' by omega]; exact a3) ((hashAt i0 p0 hi0).trans (congrArg (nh w) hk0))
theorem look_at (R : NSet w s.heap a L es ep t) {x : Addr} {k : Stand} (hx : IsN s.heap k x) (hu : A.units + 8 < cLine) {Q : SetFound → Shared → Prop}
    (yes : k ∈ L.map (·.2) → Q (.there none) s)
    (no : ∀ n, k ∉ L.map (·.2) → wy t (nh w k) n ∉ t.place.toList → (∀ c, c < n → wy t (nh w k) c ∈ t.place.toList) → Q (.free (wy t (nh w k) n) false) s) :
    wpAny (model P w) A (setSearch a (.ref x) (nh w k) true) Q E s := by
  have hroom := R.room
  obtain ⟨n, hn1, hn2, hn3⟩ := R.tab.first (by rw [List.length_map]; omega) (nh w k)
  have big : n < 100000 := by
    have : 10 * SetTable.turns t.mask ≤ 1420 := by
      unfold SetTable.turns
      rcases R.tab.mok with e | e | e <;> omega
    omega
  unfold setSearch
  refine look_from R hx hu hn1 hn2 hn3 yes (fun z => no n z hn2 hn3) 100000 0 none rfl (Nat.zero_le _) (by omega) fun i p hp hk => ?_
  have hil : i < t.place.toList.length := by
    have z1 : i < L.length := (List.getElem?_eq_some_iff.mp hp).1
    have z2 := R.sz
    rw [Array.length_toList]
    omega
  have hj := List.getElem?_eq_getElem hil
  obtain ⟨c, hc, e⟩ := R.tab.before hn2 (by rw [List.getElem?_map, hp, ← hk] <;> rfl) hj
  exact ⟨c, Nat.zero_le _, hc, hj.trans (congrArg some e.symm)⟩

theorem nrows_put (L : List Nm2) (p : Nat) (x : Addr) (k : Stand) : nrows w (L.take p ++ (x, k) :: L.drop p) = (nrows w L).take p ++ (nh w k, Value.ref x) :: (nrows w L).drop p := by
  simp only [nrows, List.map_append, List.map_cons, List.map_take, List.map_drop]
theorem nrows_order (L : List Nm2) (es : Array (Int × Value)) (order : Array Nat) (hr : es.toList = nrows w L) (hp : order.toList.Perm (List.range L.length)) :
    ∃ L2, (order.filterMap (es[·]?)).toList = nrows w L2 ∧ L2.Perm L ∧ (L2.map fun p => nh w p.2) = order.toList.map fun i => (es.map (·.1)).getD i 0 := by
  have hsz := nrows_len hr
  have ent : ∀ i (z : i < L.length), es[i]? = some (nh w (L[i]).2, Value.ref (L[i]).1) := fun i z => by
    rw [← Array.getElem?_toList, hr, nrows, List.getElem?_map, List.getElem?_eq_getElem z] <;> rfl
  have key : ∀ l : List Nat, (∀ i ∈ l, i < L.length) → ∃ L2 : List Nm2, l.filterMap (fun i => es[i]?) = nrows w L2 ∧ L2 = l.filterMap (fun i => L[i]?) ∧ (L2.map fun p => nh w p.2) = l.map fun i => (es.map (·.1)).getD i 0 := by
    intro l
    induction l with
    | nil => exact fun _ => ⟨[], rfl, rfl, rfl⟩
    | cons i l ih =>
      intro hl
      have hi := hl i List.mem_cons_self
      obtain ⟨L2, e1, e2, e3⟩ := ih fun j hj => hl j (List.mem_cons_of_mem _ hj)
      refine ⟨L[i] :: L2, by rw [List.filterMap_cons_some (ent i hi), e1] <;> rfl, by rw [List.filterMap_cons_some (List.getElem?_eq_getElem hi), e2], ?_⟩
      rw [List.map_cons, List.map_cons, e3]
      have e5 : (es.map (·.1))[i]? = some (nh w (L[i]).2) := by rw [Array.getElem?_map, ent i hi] <;> rfl
      simp [Array.getD_eq_getD_getElem?, e5]
  obtain ⟨L2, e1, e2, e3⟩ := key order.toList fun i hi => List.mem_range.mp (hp.mem_iff.mp hi)
  refine ⟨L2, by first | (rw [Array.toList_filterMap]; exact e1) | simpa using e1, ?_, e3⟩
  have z2 : ∀ n, n ≤ L.length → (List.range n).filterMap (fun i => L[i]?) = L.take n := by
    intro n
    induction n with
    | zero => intro _; rfl
    | succ n ih =>
      intro hn
      rw [List.range_succ, List.filterMap_append, ih (Nat.le_of_lt hn), List.take_succ, List.getElem?_eq_getElem hn]
      rw [List.filterMap_cons_some (List.getElem?_eq_getElem hn)] <;> rfl
  have z1 : L2.Perm ((List.range L.length).filterMap fun i => L[i]?) := by
    rw [e2]
    exact hp.filterMap _
  rwa [z2 L.length (Nat.le_refl _), List.take_length] at z1

/-- laid anew, larger -/
theorem n_relay {o : Obj} (ho : s.heap.get? a = some o) (hex : o.ExactSet) (hd : o.data = .set es ep t) (hrs : es.toList = nrows w L) (hsz : t.place.size = es.size) (hdm : t.dummies = #[]) (hfl : es.size ≤ t.mask)
    (nd : (L.map (·.2)).Nodup) (its : ∀ p ∈ L, IsN s.heap p.2 p.1) (pl : t.plain = true) (ld : w.params.followText "set-order" = true ∨ t.led = true) (few : L.length < 64) {m M : Nat}
    (hw : SetTable.sizeAbove m - 1 = M) (hM : MaskOk M) (hw2 : SetTable.sizeAbove m ≤ 128) (hn : L.length * 5 < M * 3) {Q : Unit → Shared → Prop}
    (hQ : ∀ h' L' es' ep' t', Heap.SameBut a s.heap h' → NSet w h' a L' es' ep' t' → L'.Perm L → Q () { s with heap := h' }) : wpAny (model P w) A (setRelay a m) Q E s := by
  have hsl := nrows_len hrs
  obtain ⟨t', order, e, hp, T, em, el, ep', ed⟩ := relaid_ok t (hs := es.map (·.1)) (wanted := m) hw hM (by rw [Array.size_map, hsl]; omega)
  rw [Array.size_map, hsl] at hp
  obtain ⟨L2, r1, r2, r3⟩ := nrows_order L es order hrs hp
  rw [← r3] at T
  have hs2 : (order.filterMap (es[·]?)).size = es.size := by rw [nrows_len r1, r2.length_eq, hsl]
  rw [setRelay_eq]
  refine wpAny_bind (wpAny_setState_of ho hd (fits_of hsz hdm hfl) ?_)
  dsimp only
  refine wp_if_neg (by rw [sizeLine_eq]; omega) ?_
  try refine wpAny_bind (wpAny_pure ?_)
  rw [e]
  dsimp only
  refine wpAny_bind ?_
  refine wp_if_neg (by rw [hs2]; simp) ?_
  try refine wpAny_bind (wpAny_pure ?_)
  refine wpAny_pure ?_
  dsimp only
  refine wpAny_storeSet_of ho hd ?_ (by rw [hs2, hsl, sizeLine_eq]; omega)
  have sb : Heap.SameBut a s.heap (s.heap.update a (Obj.putSet (order.filterMap (es[·]?)) t')) := Heap.SameBut.update ..
  refine hQ _ L2 (order.filterMap (es[·]?)) (ep + 1) t' sb ⟨⟨_, store_at ho hd, ⟨hex.1, hex.2.1, hex.2.2⟩, rfl⟩, r1, T, (r2.map (·.2)).nodup_iff.mpr nd, fun p hpm => (its p (r2.mem_iff.mp hpm)).but ho hd sb, by rw [ep']; exact pl, by rw [el]; exact ld, ?_, by rw [r2.length_eq]; exact few⟩ r2
  rw [r2.length_eq, em]
  exact hn

/-- one more -/
theorem n_add (R : NSet w s.heap a L es ep t) {x : Addr} {k : Stand} (hx : IsN s.heap k x) (hu : A.units + 8 < cLine) (hfew : L.length + 1 < 64) {Q : Bool → Shared → Prop}
    (hQ : ∀ b h' L' es' ep' t', Heap.SameBut a s.heap h' → NSet w h' a L' es' ep' t' → (k ∈ L.map (·.2) → L' = L) → (k ∉ L.map (·.2) → L'.Perm ((x, k) :: L)) → Q b { s with heap := h' }) :
    wpAny (model P w) A (setAddHashed a (.ref x) (nh w k)) Q E s := by
  obtain ⟨o, ho, hex, hd⟩ := R.ob
  have hsl := nrows_len R.rs
  have hroom := R.room
  unfold setAddHashed
  refine wpAny_holding ?_
  rw [show (100000 : Nat) = 99999 + 1 from rfl, setAddHashedIn_succ]
  refine wpAny_bind (wpAny_setState_of ho hd R.fits ?_)
  dsimp only
  refine wp_if_neg (by simp [byScan, Value.scannable]) ?_
  try refine wpAny_bind (wpAny_pure ?_)
  refine wpAny_bind (look_at R hx hu (fun hm => ?_) fun n hm hn2 hn3 => ?_)
  · dsimp only
    exact wpAny_pure (hQ false s.heap L es ep t (Heap.SameBut.refl a s.heap) R (fun _ => rfl) fun z => absurd hm z)
  · dsimp only
    refine wpAny_bind (wpAny_setState_of ho hd R.fits ?_)
    dsimp only
    obtain ⟨q1, q2, q3, q4, q5, q6, q7, q8, q9⟩ := R.tab.put hn2 hn3
    have hp1 : (t.put (wy t (nh w k) n)).1.plain = true := by rw [q6]; exact R.pl
    generalize t.put (wy t (nh w k) n) = pt at q1 q3 q4 q5 q6 q7 q8 q9 hp1 ⊢
    obtain ⟨t1, p⟩ := pt
    dsimp only at q1 q3 q4 q5 q6 q7 q8 q9 hp1 ⊢
    subst q1
    first
      | (refine wpAny_bind ?_; refine wp_if_pos hp1 ?_; refine hx.hbV (n := 6) _ _ _ ?_)
      | refine wp_if_pos hp1 (wpAny_bind (hx.hbV (n := 6) _ _ _ ?_))
    simp only [if_true]
    have hin : (SetTable.insertAt es (SetTable.below t.place (wy t (nh w k) n)) (nh w k, Value.ref x)).toList = nrows w (L.take (SetTable.below t.place (wy t (nh w k) n)) ++ (x, k) :: L.drop (SetTable.below t.place (wy t (nh w k) n))) := by
      rw [SetTable.toList_insertAt, nrows_put, R.rs]
    generalize SetTable.below t.place (wy t (nh w k) n) = p at q2 q3 hin ⊢
    have pm := put_perm L p (x, k)
    have hlen : (L.take p ++ (x, k) :: L.drop p).length = L.length + 1 := pm.length_eq
    have hhs : (L.take p ++ (x, k) :: L.drop p).map (fun p => nh w p.2) = (L.map fun p => nh w p.2).take p ++ nh w k :: (L.map fun p => nh w p.2).drop p := by
      simp only [List.map_append, List.map_cons, List.map_take, List.map_drop]
    rw [← hhs] at q3
    have nd1 : ((L.take p ++ (x, k) :: L.drop p).map (·.2)).Nodup := (pm.map (·.2)).nodup_iff.mpr (List.nodup_cons.mpr ⟨hm, R.nd⟩)
    have hes := nrows_len hin
    rw [hlen] at hes
    generalize SetTable.insertAt es p (nh w k, Value.ref x) = es1 at hin hes ⊢
    generalize L.take p ++ (x, k) :: L.drop p = L1 at pm hlen q3 nd1 hin
    refine wpAny_bind (wpAny_storeSet_of ho hd ?_ (by rw [hes, sizeLine_eq]; omega))
    have sb : Heap.SameBut a s.heap (s.heap.update a (Obj.putSet es1 t1)) := Heap.SameBut.update ..
    have ho1 := store_at (es' := es1) (t' := t1) ho hd
    generalize s.heap.update a (Obj.putSet es1 t1) = h1 at sb ho1 ⊢
    have its1 : ∀ p ∈ L1, IsN h1 p.2 p.1 := fun p hp => by
      rcases List.mem_cons.mp (pm.mem_iff.mp hp) with e | hp
      · rw [e]; exact hx.but ho hd sb
      · exact (R.its p hp).but ho hd sb
    have ld1 : w.params.followText "set-order" = true ∨ t1.led = true := by rw [q5]; exact R.led
    by_cases hf : t1.tooFull = true
    · first
        | (refine wpAny_bind ?_; refine wp_if_pos (by simp [hf]) ?_)
        | (refine wp_if_pos (by simp [hf]) ?_; refine wpAny_bind ?_)
      have hfull : (L.length + 1) * 5 ≥ t1.mask * 3 := by
        have z := hf
        unfold SetTable.tooFull at z
        rwa [decide_eq_true_eq, q9, List.length_map] at z
      rw [hsl]
      have hsz1 : t1.place.size = es1.size := by
        have z := q3.sz
        rw [List.length_map, hlen] at z
        rw [z, hes]
      have two : (t.mask = 7 ∧ L.length = 4) ∨ (t.mask = 31 ∧ L.length = 18) := by
        rw [q4] at hfull
        rcases R.tab.mok with e | e | e <;> rw [e] at hfull hroom
        · exact .inl ⟨e, by omega⟩
        · exact .inr ⟨e, by omega⟩
        · omega
      have go : ∀ M, SetTable.sizeAbove (SetTable.grown (L.length + 1)) - 1 = M → MaskOk M → SetTable.sizeAbove (SetTable.grown (L.length + 1)) ≤ 128 → (L.length + 1) * 5 < M * 3 →
          wpAny (model P w) A (setRelay a (SetTable.grown (L.length + 1))) (fun _ s' => wpAny (model P w) A (pure true) Q E s') E { s with heap := h1 } := fun M g1 g2 g3 g4 => by
        refine n_relay (s := { s with heap := h1 }) ho1 ⟨hex.1, hex.2.1, hex.2.2⟩ rfl hin hsz1 q3.dm (by rw [hes, q4]; rcases two with ⟨e, e2⟩ | ⟨e, e2⟩ <;> omega) nd1 its1 hp1 ld1 (by rw [hlen]; exact hfew) g1 g2 g3 (by rw [hlen]; exact g4) ?_
        intro h2 L2 es2 ep2 t2 sb2 R2 pm2
        exact wpAny_pure (hQ true h2 L2 es2 ep2 t2 (sb.trans sb2) R2 (fun z => absurd z hm) fun _ => pm2.trans pm)
      rcases two with ⟨_, e2⟩ | ⟨_, e2⟩
      · exact go 31 (by rw [e2, size_20]) (.inr (.inl rfl)) (by rw [e2, size_20]; decide) (by omega)
      · exact go 127 (by rw [e2, size_76]) (.inr (.inr rfl)) (by rw [e2, size_76]; decide) (by omega)
    · first
        | refine wp_if_neg (by simp [hf]) ?_
        | (refine wpAny_bind ?_; refine wp_if_neg (by simp [hf]) ?_; refine wpAny_pure ?_)
      refine wpAny_pure (hQ true h1 L1 es1 (ep + 1) t1 sb ⟨⟨_, ho1, ⟨hex.1, hex.2.1, hex.2.2⟩, rfl⟩, hin, q3, nd1, its1, hp1, ld1, ?_, by rw [hlen]; exact hfew⟩ (fun z => absurd z hm) fun _ => pm)
      have z := hf
      unfold SetTable.tooFull at z
      rw [decide_eq_true_eq, q9, List.length_map] at z
      rw [hlen]
      omega
end
end Dw

/-! part DwNt -/
set_option Elab.async false
set_option linter.all false
set_option maxRecDepth 100000
set_option maxHeartbeats 4000000
/-! sorted(set(xs)), xs a list of stands -/
namespace Dw
open PySem PySem.Spec PyProof.Rows L2 GenW PySem.W

structure N0 (w : World) (h : Heap) (a : Addr) (L : List Nm2) : Prop where
  ex : ∃ (es : Array (Int × Value)) (ep : Nat) (t : SetTable), (∃ o, h.get? a = some o ∧ o.ExactSet ∧ o.data = .set es ep t) ∧ es.toList = nrows w L ∧ TabOk t (L.map fun p => nh w p.2) ∧ (L.map (·.2)).Nodup ∧ t.plain = true ∧
    (w.params.followText "set-order" = true ∨ t.led = true) ∧ L.length * 5 < t.mask * 3 ∧ L.length < 64
def nsO (w : World) (a : Addr) (L : List Nm2) : HO := .ext fun h => N0 w h a L
theorem NSet.n0 {w : World} {h : Heap} {a : Addr} {L : List Nm2} {es : Array (Int × Value)} {ep : Nat} {t : SetTable} (R : NSet w h a L es ep t) : N0 w h a L := ⟨es, ep, t, R.ob, R.rs, R.tab, R.nd, R.pl, R.led, R.room, R.few⟩
theorem N0.full {w : World} {h : Heap} {a : Addr} {L : List Nm2} (R : N0 w h a L) (z : ∀ p ∈ L, IsN h p.2 p.1) : ∃ es ep t, NSet w h a L es ep t := by
  obtain ⟨es, ep, t, h1, h2, h3, h4, h5, h6, h7, h8⟩ := R.ex
  exact ⟨es, ep, t, h1, h2, h3, h4, z, h5, h6, h7, h8⟩
theorem N0.at {w : World} {h h' : Heap} {a : Addr} {L : List Nm2} (R : N0 w h a L) (k : ∀ o, h.get? a = some o → h'.get? a = some o) : N0 w h' a L := by
  obtain ⟨es, ep, t, ⟨o, ho, r⟩, q⟩ := R.ex
  exact ⟨es, ep, t, ⟨o, k o ho, r⟩, q⟩
theorem N0.new {w : World} {h : Heap} {a : Addr} (e : h.get? a = some (set0 w)) : N0 w h a [] :=
  ⟨#[], 0, .fresh 0 0 (!w.params.followText "set-order"), ⟨_, e, ⟨rfl, rfl, rfl⟩, rfl⟩, rfl, ⟨List.Pairwise.nil, rfl, rfl, .inl rfl, (fun x z => nomatch z), (fun i h j z => by simp at z)⟩, List.nodup_nil, rfl, by
    show _ ∨ (!w.params.followText "set-order") = true
    cases w.params.followText "set-order" <;> simp, by show 0 * 5 < 7 * 3; decide, by show 0 < 64; decide⟩
theorem nsO_ok {w : World} {P : Program} {H : Hp} {h : Heap} {a : Addr} {L : List Nm2} (R : N0 w h a L) : ObjOk P w H h a (nsO w a L) := by
  obtain ⟨es, ep, t, ⟨o, ho, r⟩, q⟩ := id R.ex
  refine ⟨R, ⟨o, ho⟩, fun h1 h2 p k => N0.at p (k := ?_)⟩
  exact k
theorem perm_map_back {α β : Type} {f : α → β} {vs ws : List β} (p : vs.Perm ws) : ∀ L : List α, ws = L.map f → ∃ L1 : List α, L1.Perm L ∧ vs = L1.map f := by
  induction p with
  | nil =>
    intro L e
    obtain rfl : L = [] := by simpa using e.symm
    exact ⟨[], .refl _, rfl⟩
  | cons x _ ih =>
    intro L e
    cases L with
    | nil => simp at e
    | cons y L =>
      simp only [List.map_cons, List.cons.injEq] at e
      obtain ⟨L1, q1, q2⟩ := ih L e.2
      exact ⟨y :: L1, q1.cons y, by rw [List.map_cons, e.1, q2]⟩
  | swap x y l =>
    intro L e
    match L, e with
    | a :: b :: L, e =>
      simp only [List.map_cons, List.cons.injEq] at e
      exact ⟨b :: a :: L, List.Perm.swap _ _ _, by rw [List.map_cons, List.map_cons, e.1, e.2.1, e.2.2]⟩
  | trans _ _ ih1 ih2 =>
    intro L e
    obtain ⟨L1, q1, q2⟩ := ih2 L e
    obtain ⟨L2, q3, q4⟩ := ih1 L1 q2
    exact ⟨L2, q3.trans q1, q4⟩

/-! ### as data -/
def daL (xs : Lot) : PyData := .tuple (xs.map .int)
def daS (s : Stand) : PyData := .tuple (s.map daL)
theorem alike_lots : ∀ s t : Stand, alikeAll (s.map daL) (t.map daL) = true
  | [], _ => by simp [alikeAll]
  | _ :: _, [] => by simp [alikeAll]
  | x :: s, y :: t => by
    show alikeAll (daL x :: s.map daL) (daL y :: t.map daL) = true
    rw [alikeAll, alike_lots s t, daL, daL, alike, alike_ints]
    rfl
theorem alike_stands (s t : Stand) : alike (daS s) (daS t) = true := by rw [daS, daS, alike, alike_lots]
theorem depth_lots : ∀ s : Stand, PyData.depthAll (s.map daL) ≤ 1
  | [] => by simp [PyData.depthAll]
  | x :: s => by
    have := depth_lots s
    show PyData.depthAll (daL x :: s.map daL) ≤ 1
    rw [PyData.depthAll, daL, PyData.depth, depth_ints]
    omega
theorem depth_stand (s : Stand) : (daS s).depth ≤ 2 := by
  have := depth_lots s
  rw [daS, PyData.depth]
  omega
section
variable {X : Cx} {pins : List (Addr × Obj)} {σ : L2.St} {H : Hp} {s : Shared}
theorem ints_reads {h : Heap} : ∀ {xs : List Int} {us : List Value}, Vals (xs.map V.int) us → ReadsAll h us (xs.map .int) []
  | [], _, .nil => .nil
  | x :: xs, _, .cons r t => by
    obtain ⟨tk, rfl⟩ := r
    exact .cons (as := []) (bs := []) (.int x tk) (ints_reads t)
theorem IsL.reads {v : V} {u : Value} {xs : Lot} (I : Inv X pins σ H s) (h : IsL H v xs) (r : RelV v u) : Reads s.heap u (daL xs) [] := by
  obtain ⟨a, rfl, h⟩ := h
  cases r
  obtain ⟨its, rv, ⟨o, ho, hc, n, hd⟩, _⟩ := I.tuple (SqT.of h)
  exact .tuple ho hc hd (by simpa using ints_reads rv)
theorem lots_reads (I : Inv X pins σ H s) : ∀ {ps : List V} {t : Stand} {us : List Value}, Paired (IsL H) ps t → Vals ps us → ReadsAll s.heap us (t.map daL) []
  | _, _, _, .nil, .nil => .nil
  | _, _, _, .cons p q, .cons r w => .cons (as := []) (bs := []) (p.reads I r) (lots_reads I q w)
theorem IsS.reads {v : V} {u : Value} {t : Stand} (I : Inv X pins σ H s) (h : IsS H v t) (r : RelV v u) : Reads s.heap u (daS t) [] := by
  obtain ⟨a, ps, rfl, h, p⟩ := h
  cases r
  obtain ⟨its, rv, ⟨o, ho, hc, n, hd⟩, _⟩ := I.tuple (SqT.of h)
  exact .tuple ho hc hd (by simpa using lots_reads I p rv)
end

structure Gt (ks : List Nm2) (i : Nat) (L : List Nm2) : Prop where
  sub : ∀ p ∈ L, p ∈ ks
  all : ∀ p ∈ ks.take i, p.2 ∈ L.map (·.2)
  len : L.length ≤ i
section
variable {P : Program} {w : World} {A : Around} {E : Value → Shared → Prop} {s : Shared}
/-- set(xs) -/
theorem set_stands {l : Addr} {its : Array Value} (ks : List Nm2) {Q : Value → Shared → Prop} (hd : A.handled = none) (hu : A.units + 64 < cLine) (hl : s.heap.IsList l its) (hi : its.toList = ks.map fun p => Value.ref p.1) (hn : ∀ p ∈ ks, IsN s.heap p.2 p.1) (hb : ks.length < 64)
    (h : ∀ (h' : Heap) (tk : Nat) L, N0 w h' s.heap.objs.size L → Gt ks ks.length L → (∀ b o, s.heap.get? b = some o → h'.get? b = some o) → Q (.ref s.heap.objs.size) { s with heap := h', toks := tk }) :
    wpAny (model P w) A (call (.type "set") [.ref l]) Q E s := by
  have sz : its.size = ks.length := by
    have q := congrArg List.length hi
    rwa [Array.length_toList, List.length_map] at q
  refine call_set_lst (fun i h => ∃ L, N0 w h s.heap.objs.size L ∧ Gt ks i L) hd hl (fun h q => ⟨[], N0.new q, (fun p z => nomatch z), (fun p z => (by simp at z)), Nat.le_refl _⟩) (fun i h h' ⟨L, R, g⟩ k => ⟨L, R.at k, g⟩) (fun B i v s1 Q1 E1 hB hv ko ⟨L, R, g⟩ q => ?_) fun h' tk ⟨L, R, g⟩ k => h h' tk L R (sz ▸ g) k
  have lt : i < ks.length := by rw [← sz]; exact (Array.getElem?_eq_some_iff.mp hv).1
  have hk : ks[i]? = some ks[i] := List.getElem?_eq_getElem lt
  have ev : its.toList[i]? = some v := by rw [Array.getElem?_toList]; exact hv
  rw [hi, List.getElem?_map, hk] at ev
  generalize ks[i] = p at hk ev
  obtain rfl : Value.ref p.1 = v := by simpa using ev
  have nx : ∀ q ∈ ks, IsN s1.heap q.2 q.1 := fun q z => (hn q z).keep ko
  have hx := nx p (List.mem_of_getElem? hk)
  obtain ⟨es, ep, t, R1⟩ := R.full fun q z => nx q (g.sub q z)
  unfold setAdd
  refine wpAny_holding (wpAny_bind ((nestedKind P w).pyHash (k := kS p.2) (by show B.units + 8 < cLine; omega) hx.kd ?_))
  have tk1 : ks.take (i + 1) = ks.take i ++ [p] := by rw [List.take_add_one, hk] <;> rfl
  refine n_add (s := { s1 with toks := s1.toks + (nestedKind P w).draws (kS p.2) }) R1 hx (by omega) (by have := g.len; omega) fun b h' L' es' ep' t' sb R2 c1 c2 => q h' _ _ (Nat.le_add_right _ _) sb ⟨L', R2.n0, ?_⟩
  rcases Classical.em (p.2 ∈ L.map (·.2)) with c | c
  · rw [c1 c]
    refine ⟨g.sub, fun r z => ?_, Nat.le_succ_of_le g.len⟩
    rw [tk1] at z
    rcases List.mem_append.mp z with y | y
    · exact g.all r y
    · rw [List.mem_singleton.mp y]; exact c
  · have pm := c2 c
    refine ⟨fun r z => ?_, fun r z => ?_, ?_⟩
    · rcases List.mem_cons.mp (pm.mem_iff.mp z) with e | y
      · rw [e]; exact List.mem_of_getElem? hk
      · exact g.sub r y
    · rw [(pm.map (·.2)).mem_iff, List.map_cons]
      rw [tk1] at z
      rcases List.mem_append.mp z with y | y
      · exact List.mem_cons_of_mem _ (g.all r y)
      · rw [List.mem_singleton.mp y]; exact List.mem_cons_self
    · rw [pm.length_eq, List.length_cons]
      exact Nat.succ_le_succ g.len
theorem each_refs {L : List Nm2} {R : Value → Nm2 → Prop} (h : ∀ q ∈ L, R (.ref q.1) q) : EachIs R (L.map fun q => Value.ref q.1) L := by
  induction L with
  | nil => exact .nil
  | cons q L ih => exact .cons (h q List.mem_cons_self) (ih fun r z => h r (List.mem_cons_of_mem _ z))
theorem refs_each : ∀ {vs : List Value} {L : List Nm2}, EachIs (fun v q => v = Value.ref q.1) vs L → vs = L.map fun q => Value.ref q.1
  | _, _, .nil => rfl
  | _, _, .cons e t => by rw [List.map_cons, e, refs_each t]
/-- sorted(set) -/
theorem sorted_stands {a : Addr} {L : List Nm2} {Q : Value → Shared → Prop} (R0 : N0 w s.heap a L) (hh : A.handled = none) (hu : A.units + 64 < cLine) (hr : ∀ q ∈ L, Reads s.heap (.ref q.1) (daS q.2) [] ∧ q.2 ≠ [])
    (hQ : ∀ s' p (out : Array Value) (c : Nat) (L' : List Nm2), (∀ b o, s.heap.get? b = some o → s'.heap.get? b = some o) → s'.gens = s.gens → s'.os = s.os → s.heap.objs.size ≤ p →
      s'.heap.get? p = some (seqObj "list" out c) → out.toList = L'.map (fun q => Value.ref q.1) → L'.Perm L → Q (.ref p) s') :
    wpAny (model P w) A (call (.builtin "sorted") [.ref a]) Q E s := by
  obtain ⟨es, ep, t, ⟨o, ho, hex, hd⟩, hrs, T, nd, pl, ld, room, few⟩ := R0.ex
  have hsz := nrows_len hrs
  have tz := T.sz
  rw [List.length_map] at tz
  refine Calls.call_function_entry kind_sorted plain_sorted entry_sorted (args_sorted1 _) ?_
  unfold Builtin.«sorted»
  refine wpAny_bind (m := checkCount "sorted" 1 1 _) (wpAny_pure ?_)
  refine wpAny_bind (collect_set (A := A.in1) hh ⟨o, ho, hex.1, hd⟩ (fits_of (by omega) T.dm (by omega)) (by unfold scanBound; omega) T.ris ld fun s1 vs k1 hz g1 o1 pm => ?_)
  rw [show es.toList.map (·.2) = L.map fun q => Value.ref q.1 from by rw [hrs, nrows, List.map_map] <;> rfl] at pm
  obtain ⟨L1, pL, rfl⟩ := perm_map_back pm L rfl
  have lz : L1.length < 64 := by rw [pL.length_eq]; exact few
  refine wpAny_bind (wpAny_newList ?_ (by rw [List.length_map, sizeLine_eq]; omega))
  have hoL : (s1.heap.push (seqObj "list" (L1.map fun q => Value.ref q.1).toArray 0)).get? s1.heap.objs.size = some (seqObj "list" (L1.map fun q => Value.ref q.1).toArray 0) := Heap.get?_push_size _ rfl
  have rd : ∀ q ∈ L1, Reads (s1.heap.push (seqObj "list" (L1.map fun q => Value.ref q.1).toArray 0)) (.ref q.1) (daS q.2) [] := fun q z => Reads.keeps (fun b u e => Heap.get?_push_of_some _ (k1 b u e)) (hr q (pL.mem_iff.mp z)).1
  refine wpAny_bind (wpAny_holding (list_sort_data (s := { s1 with heap := s1.heap.push (seqObj "list" (L1.map fun q => Value.ref q.1).toArray 0) }) (bs := L1) (enc := fun q => daS q.2) (R := fun v q => v = Value.ref q.1) hoL (each_refs fun _ _ => rfl)
    (each_refs fun q z => ⟨[], rd q z, List.not_mem_nil⟩) (AllAlike.of fun x y => alike_stands _ _) (.inl fun d hd => ?_) (by rw [sizeLine_eq]; omega) (fun b _ => ?_) fun out _ eo => ?_))
  · obtain ⟨q, hq, rfl⟩ := List.mem_map.mp hd
    obtain ⟨e, f⟩ := hr q (pL.mem_iff.mp hq)
    cases e2 : q.2 with
    | nil => exact absurd e2 f
    | cons x r => exact ⟨_, _, rfl⟩
  · have := depth_stand b.2
    simp only [Around.in1_units]
    omega
  · obtain ⟨c, hc⟩ := sortedHeap_at (vs := L1.map fun q => Value.ref q.1) (out := out.toArray) hoL
    refine wpAny_pure ⟨_, rfl, hQ _ s1.heap.objs.size out.toArray c _ (fun b u e => ?_) g1 o1 hz hc (by rw [List.toList_toArray]; exact refs_each eo) ((List.mergeSort_perm _ _).trans pL)⟩
    have q := k1 b u e
    have hlt := Heap.lt_size q
    show (sortedHeap _ _ _ _).get? b = some u
    rw [sortedHeap_old (Nat.ne_of_lt hlt) (by rw [size_push']; exact Nat.lt_succ_of_lt hlt)]
    exact Heap.get?_push_of_some _ q
end
end Dw

/-! part DwNu -/
set_option Elab.async false
set_option linter.all false
set_option maxRecDepth 100000
set_option maxHeartbeats 4000000
/-! sorted(set(xs)) as an expression, xs a list of stands -/
namespace Dw
open PySem PySem.Spec PyProof.Rows L2 GenW PySem.W

section
variable {X : Cx}
theorem refs_vals : ∀ {ks : List Nm2} {us : List Value}, Vals (ks.map fun p => V.ref p.1) us → us = ks.map fun p => Value.ref p.1
  | [], _, .nil => rfl
  | p :: ks, _, .cons r t => by
    cases r
    rw [refs_vals t] <;> rfl
theorem vals_refs : ∀ ks : List Nm2, Vals (ks.map fun p => V.ref p.1) (ks.map fun p => Value.ref p.1)
  | [] => .nil
  | p :: ks => .cons rfl (vals_refs ks)
def rSetN (K : PySem.W.Frag) (w : World) : List V → Hp → VK → Prop := fun vs H Q => ∃ (l : Addr) (ks : List Nm2), vs = [.ref l] ∧ SqL K H l (ks.map fun p => V.ref p.1) ∧ (∀ p ∈ ks, IsS H (.ref p.1) p.2) ∧ ks.length < 64 ∧
  ∀ S L, H S = none → (∀ p ∈ L, p ∈ ks) → (∀ p ∈ ks, p.2 ∈ L.map (·.2)) → Q (.ref S) (upd H S (nsO w S L))
theorem cr_setN (hc : X.calm = true) (hu : X.A.units + 64 < cLine) : CallR X (.type "set") (rSetN X.K X.w) := by
  intro pins s σ H vs us Q I r h
  obtain ⟨l, ks, rfl, hl, hk, hf, q⟩ := h
  rw [Vals.ref1 r]
  obtain ⟨its, rv, pl, hz⟩ := I.list hl
  refine set_stands (P := X.prog) (w := X.w) ks (I.ok.hd hc) hu pl.isList (by simpa using refs_vals rv) (fun p z => (hk p z).nested I rfl) hf fun h' tk L R g k => ?_
  exact ⟨.ref s.heap.objs.size, _, I.laid (t' := tk) k (Nat.le_refl _) (nsO_ok R), rfl, q _ L (I.hok.fresh (Nat.le_refl _)) g.sub fun p z => g.all p (by rw [List.take_length]; exact z)⟩
def rSortN (w : World) : List V → Hp → VK → Prop := fun vs H Q => ∃ (a : Addr) (L : List Nm2), vs = [.ref a] ∧ H a = some (nsO w a L) ∧ (∀ p ∈ L, IsS H (.ref p.1) p.2 ∧ p.2 ≠ []) ∧
  ∀ (L' : List Nm2) (p : Addr), L'.Perm L → (L'.map (·.2)).Nodup → H p = none → Q (.ref p) (upd H p (.lst (L'.map fun q => V.ref q.1)))
theorem cr_sortN (hc : X.calm = true) (hu : X.A.units + 64 < cLine) : CallR X (.builtin "sorted") (rSortN X.w) := by
  intro pins s σ H vs us Q I r h
  obtain ⟨a, L, rfl, ha, hk, q⟩ := h
  have R0 : N0 X.w s.heap a L := (I.hok a _ ha).1
  rw [Vals.ref1 r]
  refine sorted_stands R0 (I.ok.hd hc) hu (fun p z => ⟨(hk p z).1.reads I rfl, (hk p z).2⟩) fun s' p out c L' k g o hp hg hout pm => ?_
  obtain ⟨_, _, _, _, _, _, nd, _, _, _, few⟩ := R0.ex
  have len : (L'.map fun q => V.ref q.1).length ≤ sizeLine := by rw [List.length_map, pm.length_eq, sizeLine_eq]; omega
  have hn : H p = none := I.hok.fresh hp
  have J : Inv X pins σ (upd H p (.lst (L'.map fun q => V.ref q.1))) { s with heap := s'.heap, gens := s'.gens, drawn := s'.drawn, toks := s'.toks } :=
    I.call (ch := []) (Un.laid k hp hn) (I.hok.laid k hp ⟨len, out.toList, c, by rw [hout]; exact vals_refs L', hg⟩) (by rw [g]; exact I.bare) (fun _ z => nomatch z)
  obtain ⟨h1, g1, d1, t1, o1⟩ := s'
  obtain rfl : o1 = s.os := o
  exact ⟨.ref p, _, J, rfl, q L' p pm ((pm.map (·.2)).nodup_iff.mpr nd) hn⟩
/-- a list of refs, each a stand -/
theorem refs_of {H : Hp} : ∀ {ps : List V} {ts : List Stand}, Paired (IsS H) ps ts → ∃ ks : List Nm2, ps = ks.map (fun p => V.ref p.1) ∧ ts = ks.map (·.2) ∧ ∀ p ∈ ks, IsS H (.ref p.1) p.2
  | _, _, .nil => ⟨[], rfl, rfl, fun p z => nomatch z⟩
  | _, _, .cons h t => by
    obtain ⟨ks, e1, e2, e3⟩ := refs_of t
    obtain ⟨a, qs, rfl, r⟩ := id h
    refine ⟨(a, _) :: ks, by rw [e1] <;> rfl, by rw [e2] <;> rfl, fun p z => ?_⟩
    rcases List.mem_cons.mp z with e | e
    · rw [e]; exact h
    · exact e3 p e
theorem of_refs {H : Hp} : ∀ {ks : List Nm2}, (∀ p ∈ ks, IsS H (.ref p.1) p.2) → Paired (IsS H) (ks.map fun p => V.ref p.1) (ks.map (·.2))
  | [], _ => .nil
  | p :: ks, h => .cons (h p List.mem_cons_self) (of_refs fun q z => h q (List.mem_cons_of_mem _ z))
/-- sorted(set(a)), a gives a list of stands -/
def tSrtN (K : PySem.W.Frag) (te : TE) : TE := fun σ H Q => te σ H fun x H1 => ∃ l ps ts, x = .ref l ∧ SqL K H1 l ps ∧ Paired (IsS H1) ps ts ∧ ts.length < 64 ∧ (∀ t ∈ ts, t ≠ []) ∧
  ∀ H2 r qs fs, Kp H1 H2 → H1 r = none → H2 r = some (.lst qs) → Paired (IsS H2) qs fs → fs.Nodup → (∀ t, t ∈ fs ↔ t ∈ ts) → Q (.ref r) H2
theorem srtN_ans {K : PySem.W.Frag} {w : World} {H : Hp} {Q : VK} {l : Addr} {ps : List V} {ts : List Stand} (hq : SqL K H l ps) (pr : Paired (IsS H) ps ts) (hl : ts.length < 64) (ne : ∀ t ∈ ts, t ≠ [])
    (q : ∀ H2 r qs fs, Kp H H2 → H r = none → H2 r = some (.lst qs) → Paired (IsS H2) qs fs → fs.Nodup → (∀ t, t ∈ fs ↔ t ∈ ts) → Q (.ref r) H2) : rSetN K w [.ref l] H fun x H2 => rSortN w [x] H2 Q := by
  obtain ⟨ks, rfl, rfl, hk⟩ := refs_of pr
  rw [List.length_map] at hl
  refine ⟨l, ks, rfl, hq, hk, hl, fun S L nS sub all => ?_⟩
  have k1 : Kp H (upd H S (nsO w S L)) := (Kp.refl H).add nS
  have hk1 : ∀ p ∈ L, IsS (upd H S (nsO w S L)) (.ref p.1) p.2 := fun p z => (hk p (sub p z)).keep k1.kt
  refine ⟨S, L, rfl, upd_same, fun p z => ⟨hk1 p z, ne p.2 (List.mem_map_of_mem (sub p z))⟩, fun L' r pm nd nr => ?_⟩
  have k2 := k1.add (o := .lst (L'.map fun q => V.ref q.1)) nr
  have rS : r ≠ S := fun z => by rw [z, upd_same] at nr; cases nr
  refine q _ r _ (L'.map (·.2)) k2 (by rw [upd_ne rS] at nr; exact nr) upd_same (of_refs fun p z => (hk p (sub p (pm.mem_iff.mp z))).keep k2.kt) nd fun t => ?_
  rw [(pm.map (·.2)).mem_iff]
  constructor
  · intro z
    obtain ⟨p, hp, rfl⟩ := List.mem_map.mp z
    exact List.mem_map_of_mem (sub p hp)
  · intro z
    obtain ⟨p, hp, rfl⟩ := List.mem_map.mp z
    exact all p hp
theorem pe_srtN {te : TE} {a : Expr} {p pos p2 q2 : Pos} (hc : X.calm = true) (hu : X.A.units + 64 < cLine) (hm : X.mg "sorted" = none) (hm2 : X.mg "set" = none) (ha : PE X a te) (hg : Gl X "sorted" := by rfl) (hg2 : Gl X "set" := by rfl)
    (he : starEach [.Call (.Name "set" p2) [a] [] q2] X.env = (false, eval (.Call (.Name "set" p2) [a] [] q2) X.env) :: starEach [] X.env := by rfl) (hpl : (backTo pos (starEach [] X.env)).any (·.1) = false := by rfl)
    (he2 : starEach [a] X.env = (false, eval a X.env) :: starEach [] X.env := by rfl) (hpl2 : (backTo q2 (starEach [] X.env)).any (·.1) = false := by rfl) :
    PE X (.Call (.Name "sorted" p) [.Call (.Name "set" p2) [a] [] q2] [] pos) (tSrtN X.K te) := by
  refine ⟨fun pins s σ H Q I h => ?_⟩
  refine wpAny_Call_Name_kw (ld_blt I hg hm boot_sorted ?_)
  refine PyProof.Rows.callWith_builtin1 ?_ he hpl
  rw [he]
  refine Calls.spliced_cons (wpAny_Call_Name_kw (ld_blt I hg2 hm2 boot_set ?_))
  refine PyProof.Rows.callWith_type1 ?_ he2 hpl2
  rw [he2]
  refine Calls.spliced_cons (thn (ha.run pins s σ H _ I h) fun u s1 ⟨x, H1, I1, r1, q⟩ => Calls.spliced_nil ?_)
  obtain ⟨l, ps, ts, rfl, hq, pr, hl, ne, q⟩ := q
  refine thn (cr_setN hc hu pins s1 σ H1 [.ref l] [u] _ I1 (.cons r1 .nil) (srtN_ans hq pr hl ne q)) fun v s2 ⟨y, H2, I2, r2, q2⟩ => Calls.spliced_nil ?_
  exact cr_sortN hc hu pins s2 σ H2 [y] [v] Q I2 (.cons r2 .nil) q2
end
end Dw

/-! part DwMx -/
set_option Elab.async false
set_option linter.all false
set_option maxRecDepth 100000
set_option maxHeartbeats 4000000
/-! at most 21 stands after three orders; what fine plans keep -/
namespace Dw
open PySem PySem.Spec PyProof.Rows L2 GenW
theorem gs_at {s : Stand} {i : Nat} (j : Nat) (x : Lot) (h : i < s.length) : (s.set i x).getD j [] = if i = j then x else s.getD j [] := by
  simp only [List.getD_eq_getElem?_getD, List.getElem?_set]
  by_cases e : i = j
  · subst e; simp [h]
  · simp [e]
theorem set_self (s : Stand) (i : Nat) : s.set i (s.getD i []) = s := by
  refine List.ext_getElem? fun j => ?_
  rw [List.getElem?_set]
  by_cases e : i = j
  · subst e
    by_cases h : i < s.length
    · simp [h]
    · simp [h]
  · simp [e]
theorem srt_in {t l : Lot} (h : Ris l) (b : Sb t l) : srt (t ++ l) = l := (srt_of h fun z => ⟨fun q => List.mem_append_right _ q, fun q => (List.mem_append.mp q).elim (b z) id⟩).symm
theorem getD_ris {m : Int} {s : Stand} (h : SOk m s) (i : Nat) : Ris (s.getD i []) := by
  rw [List.getD_eq_getElem?_getD]
  cases e : s[i]? with
  | none => exact List.Pairwise.nil
  | some l => exact (h l (mem_at e)).1
theorem beh1_stay {m : Int} {s : Stand} (h : SOk m s) {t : Lot} {v : Int} (b : Sb t (s.getD v.toNat [])) : beh1 (s, t) v = (s, s.getD v.toNat []) := by
  unfold beh1
  rw [srt_in (getD_ris h _) b, set_self]
/-- one step: the vat has now what is carried, and that is what was carried and more -/
theorem step_at {s : Stand} {t : Lot} {v : Int} (h : 0 ≤ v ∧ v < s.length) : (beh1 (s, t) v).1.getD v.toNat [] = (beh1 (s, t) v).2 ∧ Sb t (beh1 (s, t) v).2 ∧ Sb (s.getD v.toNat []) (beh1 (s, t) v).2 ∧
    (∀ j, j ≠ v.toNat → (beh1 (s, t) v).1.getD j [] = s.getD j []) ∧ ∀ z, z ∈ (beh1 (s, t) v).2 → z ∈ t ∨ z ∈ s.getD v.toNat [] := by
  have lt : v.toNat < s.length := by omega
  refine ⟨?_, fun z q => mem_srt.mpr (List.mem_append_left _ q), fun z q => mem_srt.mpr (List.mem_append_right _ q), fun j hj => ?_, fun z q => List.mem_append.mp (mem_srt.mp q)⟩
  · unfold beh1
    rw [gs_at _ _ lt, if_pos rfl]
  · unfold beh1
    rw [gs_at _ _ lt, if_neg fun e => hj e.symm]
theorem idem {m : Int} {s : Stand} (h : SOk m s) {r : Lot} (hl : r.length ≤ 3) (hp : PosOk s.length r) : (beh (beh s r).1 r).1 = (beh s r).1 := by
  have hs' := (beh_ok h r).1
  match r, hl, hp with
  | [], _, _ => rfl
  | [a], _, _ =>
    generalize (beh s [a]).1 = s' at hs'
    show (beh1 (s', []) a).1 = s'
    rw [beh1_stay (t := []) hs' (fun z q => nomatch q)]
  | [a, b], _, hp =>
    have pa := hp a (by simp)
    have pb := hp b (by simp)
    have z1 := step_at (t := []) pa
    obtain ⟨o1, o2, o3⟩ := beh1_ok (t := (s, [])) h (.nil m) a
    have key : Sb ((beh s [a, b]).1.getD a.toNat []) ((beh s [a, b]).1.getD b.toNat []) := by
      show Sb ((beh1 (beh1 (s, []) a) b).1.getD a.toNat []) ((beh1 (beh1 (s, []) a) b).1.getD b.toNat [])
      generalize beh1 (s, []) a = u1 at z1 o1 o2 o3
      obtain ⟨s1, t1⟩ := u1
      have z2 := step_at (s := s1) (t := t1) (v := b) (by rw [o3]; exact pb)
      rw [z2.1]
      by_cases e : a.toNat = b.toNat
      · rw [e, z2.1]; exact fun _ q => q
      · rw [z2.2.2.2.1 _ e, z1.1]; exact z2.2.1
    generalize (beh s [a, b]).1 = s' at hs' key
    show (beh1 (beh1 (s', []) a) b).1 = s'
    rw [beh1_stay (t := []) hs' (fun z q => nomatch q), beh1_stay hs' key]
  | [a, b, c], _, hp =>
    have pa := hp a (by simp)
    have pb := hp b (by simp)
    have pc := hp c (by simp)
    have z1 := step_at (t := []) pa
    obtain ⟨o1, o2, o3⟩ := beh1_ok (t := (s, [])) h (.nil m) a
    have key : Sb ((beh s [a, b, c]).1.getD a.toNat []) ((beh s [a, b, c]).1.getD b.toNat []) ∧ Sb ((beh s [a, b, c]).1.getD b.toNat []) ((beh s [a, b, c]).1.getD c.toNat []) := by
      show Sb ((beh1 (beh1 (beh1 (s, []) a) b) c).1.getD a.toNat []) ((beh1 (beh1 (beh1 (s, []) a) b) c).1.getD b.toNat []) ∧ Sb ((beh1 (beh1 (beh1 (s, []) a) b) c).1.getD b.toNat []) ((beh1 (beh1 (beh1 (s, []) a) b) c).1.getD c.toNat [])
      generalize beh1 (s, []) a = u1 at z1 o1 o2 o3
      obtain ⟨s1, t1⟩ := u1
      have z2 := step_at (s := s1) (t := t1) (v := b) (by rw [o3]; exact pb)
      obtain ⟨p1, p2, p3⟩ := beh1_ok (t := (s1, t1)) o1 o2 b
      have k2 : Sb ((beh1 (s1, t1) b).1.getD a.toNat []) (beh1 (s1, t1) b).2 := by
        by_cases e : a.toNat = b.toNat
        · rw [e, z2.1]; exact fun _ q => q
        · rw [z2.2.2.2.1 _ e, z1.1]; exact z2.2.1
      generalize beh1 (s1, t1) b = u2 at z2 p1 p2 p3 k2
      obtain ⟨s2, t2⟩ := u2
      dsimp only at k2 z2
      have z3 := step_at (s := s2) (t := t2) (v := c) (by rw [p3, o3]; exact pc)
      by_cases e1 : b.toNat = c.toNat
      · rw [e1, z3.1]
        refine ⟨?_, fun _ q => q⟩
        by_cases e2 : a.toNat = c.toNat
        · rw [e2, z3.1]; exact fun _ q => q
        · rw [z3.2.2.2.1 _ e2]; exact fun z q => z3.2.1 z (k2 z q)
      · rw [z3.2.2.2.1 _ e1, z3.1, z2.1]
        refine ⟨?_, z3.2.1⟩
        by_cases e2 : a.toNat = c.toNat
        · rw [e2, z3.1]
          intro z q
          rcases z3.2.2.2.2 z q with y | y
          · exact y
          · exact k2 z (by rw [e2]; exact y)
        · rw [z3.2.2.2.1 _ e2]; exact k2
    generalize (beh s [a, b, c]).1 = s' at hs' key
    show (beh1 (beh1 (beh1 (s', []) a) b) c).1 = s'
    rw [beh1_stay (t := []) hs' (fun z q => nomatch q), beh1_stay hs' key.1, beh1_stay hs' key.2]

/-! ### counting -/
abbrev W9 (f g h : Stand → Stand) (x : Stand) : List Stand := [f x, g x, h x, g (f x), h (f x), f (g x), h (g x), f (h x), g (h x)]
abbrev W21 (f g h : Stand → Stand) (x : Stand) : List Stand := W9 f g h x ++ [f (g (f x)), h (g (f x)), f (h (f x)), g (h (f x)), g (f (g x)), h (f (g x)), f (h (g x)), g (h (g x)), g (f (h x)), h (f (h x)), f (g (h x)), h (g (h x))]
theorem few_at {rs : List Lot} {m : Int} {s0 : Stand} (h0 : SOk m s0) (h1 : 1 ≤ rs.length) (h3 : rs.length ≤ 3) (hr : ∀ r ∈ rs, r.length ≤ 3 ∧ PosOk s0.length r) : ∀ j, j ≤ 3 → ∃ L : List Stand, L.length ≤ 21 ∧ ∀ s, Rn rs s0 j s → s ∈ L := by
  obtain ⟨a, b, c, ha, hb, hc, all⟩ : ∃ a b c, a ∈ rs ∧ b ∈ rs ∧ c ∈ rs ∧ ∀ r ∈ rs, r = a ∨ r = b ∨ r = c := by
    match rs, h1, h3 with
    | [a], _, _ => exact ⟨a, a, a, by simp, by simp, by simp, by simp⟩
    | [a, b], _, _ => exact ⟨a, b, b, by simp, by simp, by simp, by simp⟩
    | [a, b, c], _, _ => exact ⟨a, b, c, by simp, by simp, by simp, by simp⟩
  have im : ∀ r ∈ rs, ∀ j s, Rn rs s0 j s → (beh (beh s r).1 r).1 = (beh s r).1 := fun r hr' j s hs => by
    obtain ⟨ok, l⟩ := Rn.ok h0 hs
    exact idem ok (hr r hr').1 (by rw [l]; exact (hr r hr').2)
  have r0 : Rn rs s0 0 s0 := rfl
  have rn : ∀ r ∈ rs, ∀ j s, Rn rs s0 j s → Rn rs s0 (j + 1) (beh s r).1 := fun r hr' j s hs => ⟨s, hs, r, hr', rfl⟩
  have s1 : ∀ s, Rn rs s0 1 s → s ∈ [(beh s0 a).1, (beh s0 b).1, (beh s0 c).1] := by
    rintro s ⟨t, ht, r, hr', rfl⟩
    obtain rfl : t = s0 := ht
    rcases all r hr' with rfl | rfl | rfl <;> simp
  generalize hf : (fun s => (beh s a).1) = f
  generalize hg : (fun s => (beh s b).1) = g
  generalize hh : (fun s => (beh s c).1) = h
  have ea : ∀ s, (beh s a).1 = f s := fun s => by rw [← hf]
  have eb : ∀ s, (beh s b).1 = g s := fun s => by rw [← hg]
  have ec : ∀ s, (beh s c).1 = h s := fun s => by rw [← hh]
  have ia : ∀ j s, Rn rs s0 j s → f (f s) = f s := fun j s hs => by have := im a ha j s hs; simpa only [ea] using this
  have ib : ∀ j s, Rn rs s0 j s → g (g s) = g s := fun j s hs => by have := im b hb j s hs; simpa only [eb] using this
  have ic : ∀ j s, Rn rs s0 j s → h (h s) = h s := fun j s hs => by have := im c hc j s hs; simpa only [ec] using this
  have ra : ∀ j s, Rn rs s0 j s → Rn rs s0 (j + 1) (f s) := fun j s hs => by have := rn a ha j s hs; rwa [ea] at this
  have rb : ∀ j s, Rn rs s0 j s → Rn rs s0 (j + 1) (g s) := fun j s hs => by have := rn b hb j s hs; rwa [eb] at this
  have rc : ∀ j s, Rn rs s0 j s → Rn rs s0 (j + 1) (h s) := fun j s hs => by have := rn c hc j s hs; rwa [ec] at this
  simp only [ea, eb, ec] at s1
  have s2 : ∀ s, Rn rs s0 2 s → s ∈ W9 f g h s0 := by
    rintro s ⟨t, ht, r, hr', rfl⟩
    have q := s1 t ht
    simp only [List.mem_cons, List.not_mem_nil, or_false] at q
    rcases q with rfl | rfl | rfl <;> rcases all r hr' with rfl | rfl | rfl <;> simp only [ea, eb, ec] <;> first | (rw [ia 0 _ r0]; simp; done) | (rw [ib 0 _ r0]; simp; done) | (rw [ic 0 _ r0]; simp; done) | (simp; done)
  have s3 : ∀ s, Rn rs s0 3 s → s ∈ W21 f g h s0 := by
    rintro s ⟨t, ht, r, hr', rfl⟩
    have q := s2 t ht
    have fa := ra 0 _ r0
    have fb := rb 0 _ r0
    have fc := rc 0 _ r0
    simp only [W9, List.mem_cons, List.not_mem_nil, or_false] at q
    rcases q with rfl | rfl | rfl | rfl | rfl | rfl | rfl | rfl | rfl <;> rcases all r hr' with rfl | rfl | rfl <;> simp only [ea, eb, ec] <;>
      simp [ia 0 _ r0, ib 0 _ r0, ic 0 _ r0, ia 1 _ fa, ia 1 _ fb, ia 1 _ fc, ib 1 _ fa, ib 1 _ fb, ib 1 _ fc, ic 1 _ fa, ic 1 _ fb, ic 1 _ fc]
  intro j hj
  match j, hj with
  | 0, _ => exact ⟨[s0], by simp, fun s e => by rw [show s = s0 from e]; simp⟩
  | 1, _ => exact ⟨_, by simp, s1⟩
  | 2, _ => exact ⟨_, by simp, s2⟩
  | 3, _ => exact ⟨_, by simp, s3⟩

/-! ### plans -/
theorem HW.anti {W : Works} {p : Lot} {n n' : Nat} (h : HW W p n) (l : n' ≤ n) : HW W p n' := ⟨h.1, fun s ⟨j, hj, hs⟩ => h.2 s ⟨j, by omega, hs⟩⟩
open Classical in
theorem washP_anti {W : Works} {n n' : Nat} (l : n' ≤ n) {p : Lot} (h : p ∈ washP W n) : p ∈ washP W n' := by
  unfold washP at h ⊢
  obtain ⟨h1, h2⟩ := List.mem_filter.mp h
  exact List.mem_filter.mpr ⟨h1, decide_eq_true ((of_decide_eq_true h2).anti l)⟩
theorem fine_HW {W : Works} {p : Lot} (h : FineP W p) (n : Nat) : HW W p n := by
  obtain ⟨t, h1, h2, h3, h4⟩ := h
  have key : ∀ j s, Rn (routesOf W p) W.vats j s → Le s t := by
    intro j
    induction j with
    | zero => intro s e; rw [show s = W.vats from e]; exact h1
    | succ j ih =>
      rintro s ⟨u, hu, r, hr, rfl⟩
      have := (beh_mono (ih u hu) r).1
      rwa [h3 r hr] at this
  refine ⟨fun i k r e1 e2 => (h4 i k r e1 e2).1, fun s ⟨j, _, hs⟩ i k r e1 e2 => ?_⟩
  have a := (h4 i k r e1 e2).2
  have b := (beh_mono (key j s hs) r).2
  unfold clean at a ⊢
  simp only [Bool.not_eq_true', List.any_eq_false, decide_eq_true_eq] at a ⊢
  exact fun z q => a z (b z q)
open Classical in
theorem fine_wash {W : Works} {p : Lot} (n : Nat) (h : p ∈ allP W.kinds) (f : FineP W p) : p ∈ washP W n := List.mem_filter.mpr ⟨h, decide_eq_true (fine_HW f n)⟩
end Dw

/-! part DwY -/
set_option Elab.async false
set_option linter.all false
set_option maxRecDepth 100000
set_option maxHeartbeats 8000000
/-! the law -/
namespace Dw
open PySem PySem.Spec PyProof.Rows L2 GenW
structure TX where
  t4 : T4
  tg : TG
  t0 : Addr
def TX.ok (T : TX) (H : Hp) : Prop := T.t4.ok H ∧ T.tg.ok H ∧ Tb H T.t0
theorem TX.ok.kp {T : TX} {H H' : Hp} (t : T.ok H) (k : Kp H H') : T.ok H' := ⟨t.1.kp k, t.2.1.kp k, k.tb _ t.2.2⟩
def spLaw (K : PySem.W.Frag) (T : TX) : Sp := fun vs H Q _ => ∃ a ns, vs = [.ref a] ∧ SqL K H a (List.map V.int ns) ∧ T.ok H ∧ ∀ H', Q (.bl true) H'
theorem Kp.sq {K : PySem.W.Frag} {H H' : Hp} {a : Addr} {xs : List V} (k : Kp H H') (h : SqL K H a xs) : SqL K H' a xs := by
  rcases h with (h | ⟨o, h⟩) | h
  · exact .inl (.inl (k.lst h))
  · exact .inl (.inr ⟨o, k.ob _ _ h fun _ z => by cases z⟩)
  · exact .inr h
theorem Kp.rv {H H' : Hp} {r a : Addr} (k : Kp H H') (R : Rv H r a) : Rv H' r a := by
  obtain ⟨p, q, z, h1, h2⟩ := R
  exact ⟨p, q, z, k.lst h1, h2⟩
theorem Kp.row {H0 H H' : Hp} {r a : Addr} (k : Kp H0 H) (n : H0 r = none) (R : Rv H r a) (m : Mv r H H') (R' : Rv H' r a) : Kp H0 H' := by
  obtain ⟨p, q, z, h1, h2⟩ := R
  obtain ⟨p', q', z', h1', h2'⟩ := R'
  exact k.mv n h1 m h1'
/-- all kinds but the first d are left out -/
def GSd (W : Works) (rs : List Lot) (s : Stand) (d : Nat) : Prop := ∀ i, i < d → ∀ (k : Kind) (r : Lot), W.kinds[i]? = some k → rs[i]? = some r → good W k s r = true
def GS (W : Works) (rs : List Lot) (s : Stand) : Prop := ∀ (i : Nat) (k : Kind) (r : Lot), W.kinds[i]? = some k → rs[i]? = some r → good W k s r = true
/-- all stands before the j-th order are good -/
def GX (W : Works) (rs : List Lot) (j : Nat) : Prop := ∀ j' s, j' < j → Rn rs W.vats j' s → GS W rs s
theorem gsd_snoc {W : Works} {rs : List Lot} {s : Stand} {d : Nat} {k : Kind} {q : Lot} (hk : W.kinds[d]? = some k) (hq : rs[d]? = some q) : GSd W rs s (d + 1) ↔ GSd W rs s d ∧ good W k s q = true := by
  constructor
  · exact fun h => ⟨fun i hi => h i (by omega), h d (by omega) k q hk hq⟩
  · rintro ⟨h, g⟩ i hi k' q' e1 e2
    by_cases e : i = d
    · subst e
      rw [hk] at e1
      rw [hq] at e2
      cases e1
      cases e2
      exact g
    · exact h i (by omega) k' q' e1 e2
theorem gx_snoc {W : Works} {rs : List Lot} {j : Nat} {ss : List Stand} (h : ∀ s, s ∈ ss ↔ Rn rs W.vats j s) : GX W rs (j + 1) ↔ GX W rs j ∧ ∀ s ∈ ss, GS W rs s := by
  constructor
  · exact fun g => ⟨fun j' s hj => g j' s (by omega), fun s hs => g j s (by omega) ((h s).mp hs)⟩
  · rintro ⟨g1, g2⟩ j' s hj hs
    by_cases e : j' = j
    · subst e; exact g2 s ((h s).mpr hs)
    · exact g1 j' s (by omega) hs
theorem seq_via2 {a b c : TS} {D : Ends} {σ : L2.St} {H : Hp} (Mid : L2.St → Hp → Prop) (h1 : (∀ σ' H', Mid σ' H' → c D σ' H') → tSeq a (tSeq b c) D σ H) (h2 : ∀ σ' H', Mid σ' H' → c D σ' H') : tSeq a (tSeq b c) D σ H := h1 h2
theorem GSd.all {W : Works} {rs : List Lot} {s : Stand} (h : GSd W rs s rs.length) : GS W rs s := fun i k r h1 h2 => h i (List.getElem?_eq_some_iff.mp h2).1 k r h1 h2
theorem gx_HW {W : Works} {p : Lot} {n : Nat} (n1 : 1 ≤ n) : GX W (routesOf W p) n ↔ HW W p n := by
  constructor
  · intro g
    refine ⟨fun i k r h1 h2 => ?_, fun s ⟨j, hj, hs⟩ i k r h1 h2 => ?_⟩
    · have := g 0 W.vats n1 rfl i k r h1 h2
      unfold good at this
      exact (Bool.and_eq_true_iff.mp this).1
    · have := g j s hj hs i k r h1 h2
      unfold good at this
      exact (Bool.and_eq_true_iff.mp this).2
  · intro h j s hj hs i k r h1 h2
    unfold good
    exact Bool.and_eq_true_iff.mpr ⟨h.1 i k r h1 h2, h.2 s ⟨j, hj, hs⟩ i k r h1 h2⟩
theorem route_few {W : Works} (ok : WOk W) {p : Lot} (h : PlanOk W p) : ∀ r ∈ routesOf W p, r.length ≤ 3 := fun r hr => by
  obtain ⟨i, hi⟩ := List.mem_iff_getElem?.mp hr
  have lt := (List.getElem?_eq_some_iff.mp hi).1
  rw [routes_len h] at lt
  have hk : W.kinds[i]? = some W.kinds[i] := List.getElem?_eq_getElem lt
  have lt2 : i < p.length := by rw [h.1]; exact lt
  have hn : p[i]? = some p[i] := List.getElem?_eq_getElem lt2
  have e := routesOf_at hk hn
  rw [hi] at e
  have := h.route hk hn
  rw [← Option.some.inj e] at this
  exact ((ok.kinds _ (mem_at hk)).routes r (mem_at this)).1.2
theorem seq_via {a b : TS} {D : Ends} {σ : L2.St} {H : Hp} (Mid : L2.St → Hp → Prop) (h1 : (∀ σ' H', Mid σ' H' → b D σ' H') → tSeq a b D σ H) (h2 : ∀ σ' H', Mid σ' H' → b D σ' H') : tSeq a b D σ H := h1 h2
section
variable {P : Program} {w : World} {K : PySem.W.Frag} {mg : Str → Option Value} {base : Heap}
theorem boot_max : bootBuiltins "max" = some (.builtin "max") := by decide +kernel
abbrev n50 : List Str := ["_law_script", "_law_row", "_law_works_here", "_law_stands_here", "_law_within_here", "_law_many", "_law_fine", "_law_plan", "_law_last", "_law_good_here", "_law_turn", "_law_longer", "_law_stand", "_law_kind", "_law_found"]
theorem sc50 : FnScope n50 ["_law_script"] (defScope (st 50)) := ⟨rfl, rfl, rfl, by decide +kernel, rfl, by decide +kernel, by decide +kernel⟩
theorem ok_law {f : Addr} {fd : FuncData} {T : TX} (D : Fun K "law" "law" (st 50) f fd) (N : Nm mg) (Dw1 : Df P w K mg base "_law_works" 3 ["_law_row"] (spWorks K)) (Ds : Df P w K mg base "_law_stands" 2 ["_law_works_here", "_law_most"] spStands)
    (Di : Df P w K mg base "_law_within" 3 ["_law_works_here", "_law_stands_here"] (spWithin P w)) (Do : Df P w K mg base "orders_from_clean" 8 ["works"] (spOrd T.t4 T.tg)) (Da : Df P w K mg base "_law_alike" 1 ["_law_found", "_law_due"] (spAl fun _ => R0))
    (Da3 : Df P w K mg base "_law_alike" 3 ["_law_found", "_law_due"] (spAl (Rup (Rup fun _ => R0)))) (Dt : Df P w K mg base "_law_taken" 1 ["_law_row", "_law_many"] (spTaken K)) (Dp : Df P w K mg base "_law_plans" 1 ["_law_works_here"] spPlans)
    (Dg : Df P w K mg base "_law_good" 2 ["_law_works_here", "_law_stand", "_law_kind", "_law_number"] spLGood) (Dq : Df P w K mg base "_law_pass" 1 ["_law_stand", "_law_route"] spPass)
    (Dw2 : Df P w K mg base "washed_plans" 8 ["works", "many"] (spWashed T.t4 T.t0 T.tg.h T.tg.c)) (Dd : Df P w K mg base "good_plans" 8 ["works"] (spGood T.t4 T.tg.h T.tg.c)) : FnOk P w K mg base CX0 9 f fd ["_law_script"] (spLaw K T) := by
  refine D.ok sc50 (fun vs H Q E h => ?_) (fun cdv A outer sh H vs Q E hr h => ?_)
  · obtain ⟨a, ns, rfl, _⟩ := h
    rfl
  · obtain ⟨a, ns, rfl, hs, tx, q⟩ := h
    have hU : (A.deeper (envOfC "law" (defScope (st 50)) sh.heap.objs.size f cdv)).units + 65 < cLine := by have := hr.un; omega
    have hU4 : (A.deeper (envOfC "law" (defScope (st 50)) sh.heap.objs.size f cdv)).units + 64 < cLine := by omega
    have hr1 : Room 1 _ := hr.mono (by decide)
    have hr2 : Room 2 _ := hr.mono (by decide)
    have hr3 : Room 3 _ := hr.mono (by decide)
    refine ⟨_, PSs.nox (pss_cons (ps_set (i := 1) sc50.nd rfl (Or.inl rfl) (pe_lst (pa_cons (pv 0) (pa_cons pe_int (pa_cons pe_int (pa_cons pe_int pa_nil))))))
      (pss_cons (ps_set (i := 2) sc50.nd rfl (Or.inr rfl) (pe_df Dw1 hr3 (by rfl) (pa_cons (pv 1) pa_nil)))
      (pss_cons (ps_set (i := 3) sc50.nd rfl (Or.inl rfl) (pe_df Ds hr2 (by rfl) (pa_cons (pv 2) (pa_cons pe_int pa_nil))))
      (pss_cons (ps_if (pt_cmp (pc_notN (pv 3))) (pss_cons (ps_set (i := 4) sc50.nd rfl (Or.inl rfl) (pe_dsget2 hU4 (pe_df Di hr3 (by rfl) (pa_cons (pv 2) (pa_cons (pv 3) pa_nil))) (pe_ix ix_tup (pv 2) pe_int (fun _ _ => rfl)) pe_non ⟨rfl, rfl, rfl, rfl⟩))
          (pss_one (ps_if (pt_not (pt_val (pe_df Da hr1 (by rfl) (pa_cons (pe_df Do hr (by rfl) (pa_cons (pv 2) pa_nil)) (pa_cons (pe_ifExp (pt_cmp (pc_isN (pv 4))) pe_str (pe_op op_sub (pv 4) pe_int)) pa_nil))))) (pss_one (ps_ret pe_bl)) pss_nil))) pss_nil)
      (pss_cons (ps_asg (pe_tup (pa_cons (pe_op op_add pe_int (pe_df Dt hr1 (by rfl) (pa_cons (pv 1) (pa_cons pe_int pa_nil)))) (pa_cons (pe_lst pa_nil) pa_nil))) (pg_tup rfl (pgs_cons (pg_name (i := 5) sc50.nd rfl (Or.inr rfl)) (pgs_cons (pg_name (i := 6) sc50.nd rfl (Or.inl rfl)) pgs_nil))))
      (pss_cons (ps_for PassesOwn.never rfl (pi_list (pe_df Dp hr1 (by rfl) (pa_cons (pv 2) pa_nil))) (pg_name (i := 7) sc50.nd rfl (Or.inl rfl))
        (pss_cons (ps_par (i := 8) (j := 9) rfl sc50.nd rfl rfl (by decide) rfl rfl (pa_cons (pe_lst (pa_cons (pe_ix ix_tup (pv 2) pe_int (fun _ _ => rfl)) pa_nil)) (pa_cons pe_bl pa_nil)) (by rfl))
        (pss_cons (ps_for PassesOwn.never rfl (pi_range1 (by rfl) N.range (pa_cons (pv 5) pa_nil)) (pg_name (i := 10) sc50.nd rfl (Or.inl rfl))
          (pss_cons (ps_set (i := 11) sc50.nd rfl (Or.inl rfl) (pe_lst pa_nil))
          (pss_cons (ps_for PassesOwn.never rfl (pi_list (pv 8)) (pg_name (i := 12) sc50.nd rfl (Or.inl rfl))
            (pss_one (ps_for PassesOwn.never rfl (pi_range1 (by rfl) N.range (pa_cons (pe_len N.len (pv 7)) pa_nil)) (pg_name (i := 13) sc50.nd rfl (Or.inl rfl))
              (pss_cons (ps_set (i := 9) sc50.nd rfl (Or.inl rfl) (pe_and (pv 9) (pe_one (pe_df Dg hr2 (by rfl) (pa_cons (pv 2) (pa_cons (pv 12) (pa_cons (pv 13) (pa_cons (pe_ix ix_tup (pv 7) (pv 13) (fun _ _ => rfl)) pa_nil))))))))
              (pss_one (ps_expr (pe_bm PySem.F.plainAttrs_list PySem.F.slot_list_append PySem.F.type_list_append mt_append (pv 11) (pa_cons (pe_ix ix_tup (pe_df Dq hr1 (by rfl) (pa_cons (pv 12) (pa_cons (pe_ix ix_tup (pe_ix ix_tup (pe_ix ix_tup (pe_ix ix_tup (pv 2) pe_int (fun _ _ => rfl)) (pv 13) (fun _ _ => rfl)) pe_int (fun _ _ => rfl)) (pe_ix ix_tup (pv 7) (pv 13) (fun _ _ => rfl)) (fun _ _ => rfl)) pa_nil))) pe_int (fun _ _ => rfl)) pa_nil))))))))
          (pss_one (ps_set (i := 8) sc50.nd rfl (Or.inl rfl) (pe_srtN rfl hU4 N.sorted N.set (pv 11)))))))
        (pss_one (ps_set (i := 6) sc50.nd rfl (Or.inl rfl) (pe_op op_cat (pv 6) (pe_ifExp (pt_val (pv 9)) (pe_lst (pa_cons (pv 7) pa_nil)) (pe_lst pa_nil))))))))
      (pss_cons (ps_set (i := 14) sc50.nd rfl (Or.inr rfl) (pe_df Dw2 hr (by rfl) (pa_cons (pv 2) (pa_cons (pv 5) pa_nil))))
      (pss_cons (ps_if (pt_not (pt_val (pe_df Da3 hr3 (by rfl) (pa_cons (pv 14) (pa_cons (pe_tupl N.tuple (pv 6)) pa_nil))))) (pss_one (ps_ret pe_bl)) pss_nil)
      (pss_cons (ps_if (pt_cmpR (op_neNil hU4) (pe_lc (own := [("_law_plan", 7)]) (g := gName 7) rfl sc50.nd (pi_tup (pe_df Dd hr (by rfl) (pa_cons (pv 2) pa_nil))) (blkOk_by (N := n50) (sc := defScope (st 50)) (by decide +kernel))
          (fun _ _ _ _ _ => pg_name (i := 7) sc50.nd rfl (Or.inl rfl)) (fun _ _ _ _ _ => pts_one (pt_cmpR (op_notInLS hU) (pv 7) (pv 14) (by with_unfolding_all rfl))) (fun _ _ _ _ _ => pv 7)) (pe_lst pa_nil) (nomark _)) (pss_one (ps_ret pe_bl)) pss_nil)
      (pss_one (ps_ret (pe_cmpR (op_eqNil hU4) (pe_lc (own := [("_law_plan", 7)]) (g := gName 7) rfl sc50.nd (pi_tup (pv 14)) (blkOk_by (N := n50) (sc := defScope (st 50)) (by decide +kernel))
          (fun _ _ _ _ _ => pg_name (i := 7) sc50.nd rfl (Or.inl rfl)) (fun _ _ _ _ _ => pts_one (pt_cmpR (op_notInLS hU) (pv 7) (pe_df Dw2 hr (by rfl) (pa_cons (pv 2) (pa_cons (pe_callB (call_max2 rfl) (by rfl) N.max boot_max (pa_cons pe_int (pa_cons (pe_op op_sub (pv 5) pe_int) pa_nil))) pa_nil))) (by with_unfolding_all rfl))) (fun _ _ _ _ _ => pv 7)) (pe_lst pa_nil) (nomark _))))))))))))), ?_⟩
    refine ⟨_, rfl, (by show 4 ≤ sizeLine; decide), fun r nr => ?_⟩
    have k0 := (Kp.refl H).add (o := .lst [.ref a, .int 0, .int 2007, .int 0]) nr
    have R0 : Rv (upd H r (.lst [.ref a, .int 0, .int 2007, .int 0])) r a := ⟨0, 2007, 0, upd_same, by decide, by decide, by decide⟩
    refine ⟨_, rfl, r, a, ns, rfl, R0, k0.sq hs, fun H1 u W m1 R1 iw ok => ?_⟩
    have k1 := k0.row nr R0 m1 R1
    clear k0 R0 m1
    obtain ⟨wa, y, b, ks, rfl, ha, hy, hb, pk⟩ := id iw
    dsimp only [gName]
    show tSeq (tAsg _ (gName 3)) _ _ [some (.ref a), some (.ref r), some (.ref wa), none, none, none, none, none, none, none, none, none, none, none, none] H1
    refine seq_via2 (Mid := fun σ H' => ∃ o3 o4, σ = [some (.ref a), some (.ref r), some (.ref wa), o3, o4, none, none, none, none, none, none, none, none, none, none] ∧ Kp H1 H') (fun rest => ?_) ?_
    · refine ⟨_, rfl, .ref wa, W, rfl, iw, ok, fun H2 k2 => ⟨_, rfl, _, rfl, iteF (rest _ _ ⟨_, _, rfl, k2⟩)⟩, fun H2 l ps U k2 hl pr uk => ⟨_, rfl, _, rfl, iteT ?_⟩⟩
      refine ⟨_, rfl, _, rfl, .ref wa, l, ps, W, U, rfl, iw.keep k2.kt, ok, hl, pr, uk, fun H3 d g n k3 D3 hg => ⟨d, rfl, ⟨g, n, D3⟩, _, rfl, wa, _, _, _, rfl, rfl, SqT.of ((k2.trans k3).tup ha), atI_nat (j := 1) rfl, W.vats, g, n, hy.keep (k2.trans k3).kt, D3, ?_⟩⟩
      rw [hg]
      have k13 := k2.trans k3
      have k03 := k1.trans k13
      refine ⟨_, rfl, .ref wa, W, U, rfl, iw.keep k13.kt, ok, uk, tx.1.kp k03, tx.2.1.kp k03, fun H4 k4 => ?_⟩
      cases e : rkE W U W.vats with
      | none => exact ⟨_, rfl, _, rfl, iteT ⟨_, _, rfl, ⟨rfl, .inr ⟨_, rfl⟩⟩, fun H5 k5 => ⟨true, rfl, iteF (rest _ _ ⟨_, _, rfl, (k13.trans k4).trans k5⟩)⟩⟩⟩
      | some m => exact ⟨_, rfl, _, rfl, iteF ⟨_, rfl, _, _, rfl, rfl, _, _, rfl, ⟨rfl, .inl ⟨_, rfl⟩⟩, fun H5 k5 => ⟨true, rfl, iteF (rest _ _ ⟨_, _, rfl, (k13.trans k4).trans k5⟩)⟩⟩⟩
    · rintro σ H2 ⟨o3, o4, rfl, k2⟩
      refine ⟨_, rfl, r, 4, a, ns, rfl, by decide, by decide, k2.rv R1, (k1.trans k2).sq hs, fun H3 v m3 R3 v0 v4 => ⟨1, v, rfl, rfl, (by show 0 ≤ sizeLine; decide), fun fl nfl => ⟨by show 2 ≤ sizeLine; decide, fun t nt => ⟨t, _, rfl, SqT.of upd_same, rfl, _, _, rfl, _, _, rfl, rfl, ?_⟩⟩⟩⟩
      have R2 := k2.rv R1
      have k3 := (k1.trans k2).row nr R2 m3 R3
      have kt3 : KT H1 H3 := k2.kt.trans (m3.ktR R2)
      have nft : fl ≠ t := fun z => by rw [← z, upd_same] at nt; cases nt
      have k4 := (k3.add (o := .lst []) nfl).add (o := .tup [.int (1 + v), .ref fl]) nt
      have kt4 : KT H1 (upd (upd H3 fl (.lst [])) t (.tup [.int (1 + v), .ref fl])) := (kt3.trans (add_kt nfl)).trans (add_kt nt)
      have hfl : upd (upd H3 fl (.lst [])) t (.tup [.int (1 + v), .ref fl]) fl = some (.lst []) := by rw [upd_ne nft, upd_same]
      obtain ⟨n, hn⟩ : ∃ n : Nat, 1 + v = n := ⟨(1 + v).toNat, by omega⟩
      dsimp only [gName]
      show tSeq (tFor _ _ _) _ _ [some (.ref a), some (.ref r), some (.ref wa), o3, o4, some (.int (1 + v)), some (.ref fl), none, none, none, none, none, none, none, none] (upd (upd H3 fl (.lst [])) t (.tup [.int (1 + v), .ref fl]))
      rw [hn] at k4 kt4 hfl ⊢
      generalize upd (upd H3 fl (.lst [])) t (.tup [.int (n : Nat), .ref fl]) = Hb at k4 kt4 hfl ⊢
      have nn : 1 ≤ n ∧ n ≤ 4 := by omega
      have lks := Paired.length pk
      have kf := ok.kfew
      clear k3 kt3 nft nfl nt R2 R1 m3 R3
      refine ⟨_, rfl, .ref wa, W, rfl, iw.keep kt4, ok, fun H5 pl pps k5 hpl prp => ⟨pl, rfl, ⟨_, SqL.of hpl⟩, ?_⟩⟩
      have kt5 := kt4.trans k5.kt
      have kb5 := k4.trans k5
      have al := allP_len ok.most W.kinds.length (Nat.le_refl _)
      rw [List.take_length] at al
      have p4 := pow_le (i := W.kinds.length) (by omega)
      classical
      refine for_wlk wl_list (fun i σ H' => ∃ fl fs o7 o8 o9 o10 o11 o12 o13, σ = [some (.ref a), some (.ref r), some (.ref wa), o3, o4, some (.int (n : Nat)), some (.ref fl), o7, o8, o9, o10, o11, o12, o13, none] ∧ Kp H5 H' ∧ H' fl = some (.lst fs) ∧ Paired (IsL H') fs (((allP W.kinds).take i).filter fun p => decide (HW W p n)))
        ⟨fl, [], none, none, none, none, none, none, none, rfl, .refl _, k5.lst hfl, .nil⟩ (fun i σ H' _ ⟨_, _, _, _, _, _, _, _, _, _, k, _⟩ => SqL.of (k.lst hpl)) ?_ ?_
      · rintro i x σ H6 H6' hi ⟨fl, fs, o7, o8, o9, o10, o11, o12, o13, rfl, k6, hfl, prf⟩ ⟨rfl, hx⟩
        obtain ⟨p, hp, ip⟩ := pr_get prp hx
        have po := allP_plan (mem_at hp)
        have rl := routes_len po
        have rp := routes_pos ok po
        have rf := route_few ok po
        obtain ⟨pa, rfl, hpa⟩ := ip.keep k6.kt
        have kt6 := kt5.trans k6.kt
        have lpm : (List.map V.int p).length = W.kinds.length := by rw [List.length_map]; exact po.1
        have few := few_at ok.vsok (by rw [rl]; exact kf.1) (by rw [rl]; exact kf.2) fun q hq => ⟨rf q hq, rp q hq⟩
        refine ⟨_, rfl, wa, _, _, _, rfl, rfl, SqT.of (kt6 _ _ ha), atI_nat (j := 1) rfl, (by show 1 ≤ sizeLine; decide), fun L0 nL0 => ⟨_, _, rfl, ?_⟩⟩
        have kL0 := (Kp.refl H6').add (o := .lst [y]) nL0
        refine ⟨_, rfl, n, rfl, by omega, by omega, ?_⟩
        refine for_wlk wl_rng (fun j σ H' => ∃ la lps ss bb o10 o11 o12 o13, σ = [some (.ref a), some (.ref r), some (.ref wa), o3, o4, some (.int (n : Nat)), some (.ref fl), some (.ref pa), some (.ref la), some (.bl bb), o10, o11, o12, o13, none] ∧ Kp H6' H' ∧ H' la = some (.lst lps) ∧ Paired (IsS H') lps ss ∧ ss.Nodup ∧ (∀ s, s ∈ ss ↔ Rn (routesOf W p) W.vats j s) ∧ (bb = true ↔ GX W (routesOf W p) j))
          ⟨L0, [y], [W.vats], true, o10, o11, o12, o13, rfl, kL0, upd_same, .cons (hy.keep (kt6.trans kL0.kt)) .nil, by simp, fun s => by simp [Rn], ⟨fun _ j' s h => absurd h (Nat.not_lt_zero _), fun _ => rfl⟩⟩ (fun _ _ _ _ _ => trivial) ?_ ?_
        · rintro j z σ H7 H7' hj ⟨la, lps, ss, bb, o10, o11, o12, o13, rfl, k7, hla, prs, nds, ms, hbb⟩ ⟨rfl, rfl⟩
          refine ⟨by show 0 ≤ sizeLine; decide, fun L nL => ?_⟩
          obtain ⟨F, hF1, hF2⟩ := few j (by omega)
          have ss21 : ss.length ≤ 21 := Nat.le_trans (nodup_le nds fun s hs => hF2 s ((ms s).mp hs)) hF1
          have k8 := (Kp.refl H7').add (o := .lst []) nL
          refine ⟨_, rfl, la, rfl, ⟨_, SqL.of (k8.lst hla)⟩, ?_⟩
          refine for_wlk wl_list (fun c σ H' => ∃ lgs ts bb o12 o13, σ = [some (.ref a), some (.ref r), some (.ref wa), o3, o4, some (.int (n : Nat)), some (.ref fl), some (.ref pa), some (.ref la), some (.bl bb), some (.int ((0 : Int) + (j : Nat))), some (.ref L), o12, o13, none] ∧ Kp H7' H' ∧ H' L = some (.lst lgs) ∧ Paired (IsS H') lgs ts ∧
              (∀ t, t ∈ ts ↔ ∃ s ∈ ss.take c, ∃ q ∈ routesOf W p, t = (beh s q).1) ∧ ts.length ≤ c * 3 ∧ (bb = true ↔ GX W (routesOf W p) j ∧ ∀ s ∈ ss.take c, GS W (routesOf W p) s))
            ⟨[], [], bb, o12, o13, rfl, k8, upd_same, .nil, fun t => by simp, Nat.le_refl _, by rw [hbb]; simp⟩ (fun c σ H' _ ⟨_, _, _, _, _, _, k, _⟩ => SqL.of (k.lst hla)) ?_ ?_
          · rintro c z2 σ H8 H8' hc ⟨lgs, ts, b2, o12, o13, rfl, k8, hL8, prt, mt, lt3, hb2⟩ ⟨rfl, hz2⟩
            obtain ⟨s, hs, is⟩ := pr_get prs hz2
            have sR := (ms s).mp (mem_at hs)
            have sok := Rn.ok ok.vsok sR
            have cl := (List.getElem?_eq_some_iff.mp hs).1
            refine ⟨_, rfl, pa, _, rfl, .inr (SqT.of ((k7.trans k8).tup hpa)), _, rfl, by omega, by omega, ?_⟩
            refine for_wlk wl_rng (fun d σ H' => ∃ lgs ts bb o13, σ = [some (.ref a), some (.ref r), some (.ref wa), o3, o4, some (.int (n : Nat)), some (.ref fl), some (.ref pa), some (.ref la), some (.bl bb), some (.int ((0 : Int) + (j : Nat))), some (.ref L), some z2, o13, none] ∧ Kp H7' H' ∧ H' L = some (.lst lgs) ∧ Paired (IsS H') lgs ts ∧
                (∀ t, t ∈ ts ↔ (∃ s ∈ ss.take c, ∃ q ∈ routesOf W p, t = (beh s q).1) ∨ ∃ q ∈ (routesOf W p).take d, t = (beh s q).1) ∧ ts.length ≤ c * 3 + d ∧ (bb = true ↔ (GX W (routesOf W p) j ∧ ∀ s ∈ ss.take c, GS W (routesOf W p) s) ∧ GSd W (routesOf W p) s d))
              ⟨lgs, ts, b2, o13, rfl, k8, hL8, prt, fun t => by rw [mt]; simp, lt3, by rw [hb2]; exact ⟨fun h => ⟨h, fun i hi => absurd hi (Nat.not_lt_zero i)⟩, fun h => h.1⟩⟩ (fun _ _ _ _ _ => trivial) ?_ ?_
            · rintro d z3 σ H9 H9' hd ⟨lgs, ts, b3, o13, rfl, k9, hL9, prt, mt, lt3, hb3⟩ ⟨rfl, rfl⟩
              have dl : d < W.kinds.length := by omega
              have hk : W.kinds[d]? = some W.kinds[d] := List.getElem?_eq_getElem dl
              obtain ⟨kv, hkv, ik⟩ := pr_get2 pk hk
              obtain ⟨ka, x1, x2, x3, rfl, hka, _, _, hx3⟩ := id ik
              obtain ⟨za, zs, rfl, hza, pz⟩ := id hx3
              have dp : d < p.length := by rw [po.1]; exact dl
              have hn2 : p[d]? = some p[d] := List.getElem?_eq_getElem dp
              have bz := po.2 d _ _ hk hn2
              have hrt := po.route hk hn2
              have hrs := routesOf_at hk hn2
              obtain ⟨zn, ez⟩ : ∃ zn : Nat, p[d] = zn := ⟨(p[d]).toNat, by omega⟩
              rw [ez] at hn2 hrt hrs
              have hpz : (List.map V.int p)[d]? = some (V.int (zn : Nat)) := by rw [List.getElem?_map, hn2] <;> rfl
              generalize W.kinds[d] = kd at hk ik hka hx3 pz hrt hrs
              generalize kd.routes.getD ((zn : Nat) : Int).toNat [] = q at hrt hrs
              rw [Int.toNat_natCast] at hrt
              obtain ⟨rv, hrv, ir⟩ := pr_get2 pz hrt
              have ei : (0 : Int) + (d : Nat) = (d : Nat) := by omega
              rw [ei]
              have kt9 := (kt6.trans k7.kt).trans k9.kt
              dsimp only [gName]
              show tSeq (tAsg _ (gName 9)) _ _ [some (.ref a), some (.ref r), some (.ref wa), o3, o4, some (.int (n : Nat)), some (.ref fl), some (.ref pa), some (.ref la), some (.bl b3), some (.int ((0 : Int) + (j : Nat))), some (.ref L), some z2, some (.int (d : Nat)), none] H9'
              refine seq_via (Mid := fun σ' H' => σ' = [some (.ref a), some (.ref r), some (.ref wa), o3, o4, some (.int (n : Nat)), some (.ref fl), some (.ref pa), some (.ref la), some (.bl (b3 && good W kd s q)), some (.int ((0 : Int) + (j : Nat))), some (.ref L), some z2, some (.int (d : Nat)), none] ∧ Kp H9' H') (fun rest => ?_) ?_
              · cases b3 with
                | false => exact ⟨_, rfl, _, rfl, iteF (rest _ _ ⟨rfl, .refl _⟩)⟩
                | true => exact ⟨_, rfl, _, rfl, iteT ⟨_, rfl, _, rfl, _, rfl, _, rfl, _, rfl, pa, _, _, _, rfl, rfl, SqT.of ((k7.trans k9).tup hpa), atI_nat hpz, .ref wa, z2, d, zn, W, kd, q, s, rfl, iw.keep kt9, ok, is.keep k9.kt, sok, hk, hrt, fun H10 k10 => rest _ _ ⟨rfl, k10⟩⟩⟩
              · rintro σ H10 ⟨rfl, k10⟩
                have kt10 := kt9.trans k10.kt
                have k910 := k9.trans k10
                refine ⟨_, rfl, .inl ⟨rfl, _, SqL.of (k10.lst hL9)⟩, _, rfl, _, rfl, wa, _, _, _, rfl, rfl, SqT.of (kt10 _ _ ha), atI_nat (j := 2) rfl, _, rfl, b, _, _, _, rfl, rfl, SqT.of (kt10 _ _ hb), atI_nat hkv, ka, _, _, _, rfl, rfl, SqT.of (kt10 _ _ hka), atI_nat (j := 2) rfl, _, rfl, _, rfl, pa, _, _, _, rfl, rfl, SqT.of ((k7.trans k910).tup hpa), atI_nat hpz, za, _, _, _, rfl, rfl, SqT.of (kt10 _ _ hza), atI_nat hrv,
                  z2, rv, s, q, W.dyes, rfl, is.keep k910.kt, ir.keep kt10, sok.1, ok.dyes.2, by rw [sok.2]; exact ok.few.2, by rw [sok.2]; exact ok.route hk hrt, fun H11 pp k11 ipp => ?_⟩
                obtain ⟨pq, y1, y2, rfl, hpq, iy, _⟩ := ipp
                have hL11 := k11.lst (k10.lst hL9)
                refine ⟨pq, _, _, _, rfl, rfl, SqT.of hpq, atI_nat (j := 0) rfl, L, _, _, rfl, rfl, hL11, by rw [Paired.length prt, sizeLine_eq]; omega, ?_⟩
                have kk := put_kt (o := .lst (lgs ++ [y1])) hL11
                refine ⟨lgs ++ [y1], ts ++ [(beh s q).1], _, _, rfl, (k910.trans k11).put nL hL11, upd_same, pr_snoc (Paired.mapP prt fun _ _ z => z.keep ((k10.trans k11).kt.trans kk)) (iy.keep kk), fun t => ?_, by rw [List.length_append, List.length_singleton]; omega, ?_⟩
                · rw [List.mem_append, mt, List.mem_singleton, take_snoc hrs, or_assoc]
                  refine or_congr Iff.rfl ?_
                  constructor
                  · rintro (⟨q', h1, h2⟩ | h)
                    · exact ⟨q', List.mem_append_left _ h1, h2⟩
                    · exact ⟨q, List.mem_append_right _ (List.mem_singleton_self _), h⟩
                  · rintro ⟨q', h1, h2⟩
                    rcases List.mem_append.mp h1 with h | h
                    · exact .inl ⟨q', h, h2⟩
                    · rw [List.mem_singleton.mp h] at h2; exact .inr h2
                · rw [Bool.and_eq_true, hb3, gsd_snoc hk hrs]
                  simp only [and_assoc]
            · rintro σ H9 ⟨lgs, ts, b3, o13, rfl, k9, hL9, prt, mt, lt3, hb3⟩
              have er : (((List.map V.int p).length : Nat) : Int).toNat = (routesOf W p).length := by omega
              rw [er] at mt lt3 hb3
              rw [List.take_length] at mt
              refine ⟨lgs, ts, b3, _, _, rfl, k9, hL9, prt, fun t => ?_, by omega, ?_⟩
              · rw [mt, take_snoc hs]
                constructor
                · rintro (⟨s', h1, h2⟩ | h)
                  · exact ⟨s', List.mem_append_left _ h1, h2⟩
                  · exact ⟨s, List.mem_append_right _ (List.mem_singleton_self _), h⟩
                · rintro ⟨s', h1, h2⟩
                  rcases List.mem_append.mp h1 with h | h
                  · exact .inl ⟨s', h, h2⟩
                  · rw [List.mem_singleton.mp h] at h2; exact .inr h2
              · rw [hb3, take_snoc hs, and_assoc]
                refine and_congr Iff.rfl ?_
                constructor
                · rintro ⟨h1, h2⟩ s' h
                  rcases List.mem_append.mp h with h | h
                  · exact h1 s' h
                  · rw [List.mem_singleton.mp h]; exact h2.all
                · exact fun h => ⟨fun s' h' => h s' (List.mem_append_left _ h'), fun i _ => h s (List.mem_append_right _ (List.mem_singleton_self _)) i⟩
          · rintro σ H8 ⟨lgs, ts, b2, o12, o13, rfl, k8, hL8, prt, mt, lt3, hb2⟩
            have lps2 := Paired.length prs
            rw [lps2] at mt lt3 hb2
            rw [List.take_length] at mt hb2
            refine ⟨_, rfl, L, lgs, ts, rfl, SqL.of hL8, prt, by omega, fun t ht e => ?_, fun H9 rr qs gs k9 _ hrr prq ndg mg2 => ?_⟩
            · obtain ⟨s, h1, q, h2, h3⟩ := (mt t).mp ht
              have sok := Rn.ok ok.vsok ((ms s).mp h1)
              have := (beh_ok sok.1 q).2.2
              rw [← h3, e, sok.2] at this
              have := ok.few.1
              simp at *
              omega
            · refine ⟨rr, qs, gs, b2, _, _, _, _, rfl, (k7.trans k8).trans k9, hrr, prq, ndg, fun t => ?_, ?_⟩
              · rw [mg2, mt]
                constructor
                · rintro ⟨s, h1, q, h2, h3⟩
                  exact ⟨s, (ms s).mp h1, q, h2, h3⟩
                · rintro ⟨s, h1, q, h2, h3⟩
                  exact ⟨s, (ms s).mpr h1, q, h2, h3⟩
              · rw [hb2, gx_snoc ms]
        · rintro σ H7 ⟨la, lps, ss, bb, o10, o11, o12, o13, rfl, k7, hla, prs, nds, ms, hbb⟩
          rw [Int.toNat_natCast, gx_HW nn.1] at hbb
          have hfl7 := k7.lst hfl
          have lfs := Paired.length prf
          have lft := filter_len (f := fun p => decide (HW W p n)) (xs := allP W.kinds) i
          have lft2 : ((allP W.kinds).take i).length ≤ i := by rw [List.length_take]; omega
          have iL := (List.getElem?_eq_some_iff.mp hp).1
          have sz : fs.length ≤ 64 := by omega
          refine ⟨_, rfl, _, rfl, _, rfl, ?_⟩
          cases bb with
          | true =>
            have hw := hbb.mp rfl
            refine iteT ⟨_, rfl, by show 1 ≤ sizeLine; decide, fun l1 n1 => ⟨fl, l1, fs, [.ref pa], rfl, rfl, by rw [upd_ne (ne_of_none hfl7 n1)]; exact hfl7, upd_same, by rw [sizeLine_eq, List.length_singleton]; omega, fun l2 n2 => ?_⟩⟩
            have k8 := ((k7.add (o := .lst [.ref pa]) n1).add (o := .lst (fs ++ [.ref pa])) n2)
            refine ⟨l2, _, _, _, _, _, _, _, _, rfl, k6.trans k8, upd_same, ?_⟩
            rw [filter_snoc hp, if_pos (by rw [decide_eq_true_iff]; exact hw)]
            exact pr_snoc (Paired.mapP prf fun _ _ z => z.keep k8.kt) ⟨pa, rfl, k8.tup hpa⟩
          | false =>
            have hw : ¬ HW W p n := fun z => nomatch hbb.mpr z
            refine iteF ⟨by show 0 ≤ sizeLine; decide, fun l1 n1 => ⟨fl, l1, fs, [], rfl, rfl, by rw [upd_ne (ne_of_none hfl7 n1)]; exact hfl7, upd_same, by rw [sizeLine_eq, List.length_nil]; omega, fun l2 n2 => ?_⟩⟩
            have k8 := ((k7.add (o := .lst []) n1).add (o := .lst (fs ++ [])) n2)
            have k8' := k8
            rw [List.append_nil] at k8'
            refine ⟨l2, _, _, _, _, _, _, _, _, rfl, k6.trans k8, upd_same, ?_⟩
            rw [filter_snoc hp, if_neg (by rw [decide_eq_true_iff]; exact hw), List.append_nil, List.append_nil]
            exact Paired.mapP prf fun _ _ z => z.keep k8'.kt
      · rintro σ H6 ⟨fl, fs, o7, o8, o9, o10, o11, o12, o13, rfl, k6, hfl, prf⟩
        rw [Paired.length prp, List.take_length] at prf
        have kt6 := kt5.trans k6.kt
        have k06 := kb5.trans k6
        have tx6 := tx.kp k06
        have few100 : (washP W n).length ≤ 100 ∧ ∀ l ∈ washP W n, l.length ≤ 100 := by
          refine ⟨Nat.le_trans (List.length_filter_le _ _) (by omega), fun l hl => ?_⟩
          have := (allP_plan (List.mem_filter.mp hl).1).1
          omega
        refine ⟨_, rfl, _, rfl, .ref wa, n, W, rfl, iw.keep kt6, ok, nn, tx6.1, ⟨tx6.2.2, tx6.2.1.2.2.1, tx6.2.1.2.2.2⟩, fun H7 fv k7 ifv => ?_⟩
        obtain ⟨fa, ffs, rfl, hfa, prfa⟩ := id ifv
        refine ⟨_, rfl, _, rfl, fl, fs, rfl, .inl ⟨SqL.of (k7.lst hfl), fun t nt => ?_⟩⟩
        have kt7 := add_kt (o := .tup fs) nt
        refine ⟨.ref fa, .ref t, rfl, al_stand (ifv.keep kt7) ⟨t, fs, rfl, upd_same, Paired.mapP prf fun _ _ z => z.keep (k7.kt.trans kt7)⟩ few100.1 few100.2, fun H8 k8 => ⟨true, rfl, iteF ?_⟩⟩
        have k08 := ((k06.trans k7).add (o := .tup fs) nt).trans k8
        have kt8 : KT H1 H8 := ((kt6.trans k7.kt).trans kt7).trans k8.kt
        have ifv8 := ifv.keep (kt7.trans k8.kt)
        have hfa8 := k8.kt _ _ (kt7 _ _ hfa)
        have prfa8 := Paired.mapP prfa fun _ _ z => z.keep (kt7.trans k8.kt)
        have tx8 := tx.kp k08
        clear ifv hfa prfa k7 hfl prf
        refine ⟨_, rfl, .ref wa, W, rfl, iw.keep kt8, ok, tx8.1, ⟨tx8.2.1.2.2.1, tx8.2.1.2.2.2⟩, fun H9 gv qs k9 ig all => ?_⟩
        obtain ⟨ga, gps, rfl, hga, prg⟩ := ig
        refine ⟨ga, rfl, ⟨_, SqT.of hga⟩, fun G hG => ?_⟩
        refine gw wl_tup (fun j H' => Kp H9 H' ∧ H' G = some (.lst [])) ⟨(Kp.refl H9).add hG, upd_same⟩ (fun j H' _ k => SqT.of (k.1.tup hga)) ?_ ?_
        · rintro j x H10 H10' hj ⟨k10, hG10⟩ ⟨rfl, hx⟩
          obtain ⟨p, hp, ip⟩ := pr_get prg hx
          have pm := mem_at hp
          have inW : p ∈ washP W n := fine_wash n (all p pm).1 (all p pm).2
          refine ⟨rfl, _, rfl, _, rfl, p, washP W n, ip.keep k10.kt, ifv8.keep (k9.trans k10).kt, _, rfl, ?_⟩
          exact iteF' (by rw [decide_eq_true inW] <;> rfl) ⟨k10, hG10⟩
        · rintro H10 ⟨k10, hG10⟩
          refine ⟨by show 0 ≤ sizeLine; decide, fun e ne => ?_⟩
          have nGe : G ≠ e := ne_of_none hG10 ne
          refine ⟨G, [], e, rfl, by rw [upd_ne nGe]; exact hG10, nst_ints [], rfl, upd_same, _, rfl, iteF ?_⟩
          have k11 := (k9.trans k10).add (o := .lst []) ne
          show tNext _ _ (upd H10 e (.lst []))
          generalize upd H10 e (.lst []) = H11 at k11 ⊢
          have hfa11 := k11.tup hfa8
          refine ⟨_, rfl, fa, rfl, ⟨_, SqT.of hfa11⟩, fun G2 hG2 => ?_⟩
          refine gw wl_tup (fun j H' => Kp H11 H' ∧ H' G2 = some (.lst [])) ⟨(Kp.refl H11).add hG2, upd_same⟩ (fun j H' _ k => SqT.of (k.1.tup hfa11)) ?_ ?_
          · rintro j x H12 H12' hj ⟨k12, hG12⟩ ⟨rfl, hx⟩
            obtain ⟨p, hp, ip⟩ := pr_get prfa8 hx
            have pm := mem_at hp
            obtain ⟨m, hm, m1, m2⟩ : ∃ m : Nat, (if (n : Int) - 1 > 1 then (n : Int) - 1 else 1) = m ∧ (1 ≤ m ∧ m ≤ 4) ∧ m ≤ n := by
              refine ⟨if n ≤ 2 then 1 else n - 1, ?_, ?_, ?_⟩ <;> (split <;> (try split) <;> omega)
            have k812 := k11.trans k12
            have tx12 := tx8.kp k812
            have inW : p ∈ washP W m := washP_anti m2 pm
            refine ⟨rfl, _, rfl, _, rfl, _, rfl, _, _, rfl, rfl, 1, (n : Int) - 1, rfl, .ref wa, m, W, by rw [hm] <;> rfl, iw.keep (kt8.trans k812.kt), ok, m1, tx12.1, ⟨tx12.2.2, tx12.2.1.2.2.1, tx12.2.1.2.2.2⟩, fun H13 wv k13 iwv => ?_⟩
            refine ⟨p, washP W m, ip.keep (k812.trans k13).kt, iwv, _, rfl, ?_⟩
            exact iteF' (by rw [decide_eq_true inW] <;> rfl) ⟨k12.trans k13, k13.lst hG12⟩
          · rintro H12 ⟨k12, hG12⟩
            refine ⟨by show 0 ≤ sizeLine; decide, fun e2 ne2 => ?_⟩
            have nGe2 : G2 ≠ e2 := ne_of_none hG12 ne2
            exact ⟨G2, [], e2, rfl, by rw [upd_ne nGe2]; exact hG12, nst_ints [], rfl, upd_same, q _⟩
end
end Dw

/-! part DwHl -/
set_option Elab.async false
set_option linter.all false
set_option maxRecDepth 100000
set_option maxHeartbeats 0
/-! what the head tells: the defs, the names, the tables -/
namespace Dw
open PySem PySem.Spec PyProof.Rows L2
def mkD (p : Str × Option Str) (x q : Str) (s : Stmt) : He.DefD := ⟨p, x, q, defArgs s, defBody s, defScope s, [], []⟩
def gD (x : Str) (s : Stmt) : He.DefD := mkD (x, none) x x s
def fnL : List He.DefD := [gD "is_number" (st 13), gD "need_number" (st 14), gD "is_lot" (st 15), gD "is_route" (st 16), gD "is_kind" (st 17), gD "need_works" (st 18), gD "joined" (st 19), gD "behind" (st 20), gD "has_wants" (st 21), gD "is_clean" (st 22), gD "dyed" (st 23), gD "all_stands" (st 24),
  gD "routes_of" (st 28), gD "closed" (st 29), gD "is_fine" (st 30), gD "all_plans" (st 31), gD "fine_plans" (st 32), gD "good_plans" (st 33), gD "orders_from_clean" (st 36), gD "worst_stands" (st 37), gD "holds_washed" (st 38), gD "washed_plans" (st 39),
  gD "_law_taken" (st 41), gD "_law_dyes" (st 42), gD "_law_works" (st 43), gD "_law_pass" (st 44), gD "_law_stands" (st 45), gD "_law_good" (st 46), gD "_law_within" (st 47), gD "_law_alike" (st 48), gD "_law_plans" (st 49), gD "law" (st 50),
  mkD ("Game", some "__init__") "__init__" "Game.__init__" (gm 0), mkD ("Game", some "answers") "answers" "Game.answers" (gm 1), mkD ("Game", some "reckon") "reckon" "Game.reckon" (gm 2), mkD ("Game", some "beaten") "beaten" "Game.beaten" (gm 3)]
def gloL : List Str := ("is_number" : Str) :: ("need_number" : Str) :: ("is_lot" : Str) :: ("is_route" : Str) :: ("is_kind" : Str) :: ("need_works" : Str) :: ("joined" : Str) :: ("behind" : Str) :: ("has_wants" : Str) :: ("is_clean" : Str) :: ("dyed" : Str) :: ("all_stands" : Str) :: ("routes_of" : Str) :: ("closed" : Str) :: ("is_fine" : Str) :: ("all_plans" : Str) :: ("fine_plans" : Str) :: ("good_plans" : Str) :: ("orders_from_clean" : Str) :: ("worst_stands" : Str) :: ("holds_washed" : Str) :: ("washed_plans" : Str) :: ("_law_taken" : Str) :: ("_law_dyes" : Str) :: ("_law_works" : Str) :: ("_law_pass" : Str) :: ("_law_stands" : Str) :: ("_law_good" : Str) :: ("_law_within" : Str) :: ("_law_alike" : Str) :: ("_law_plans" : Str) :: ("law" : Str) :: ("Game" : Str) :: []
def freeL : List Str := ("isinstance" : Str) :: ("len" : Str) :: ("all" : Str) :: ("any" : Str) :: ("zip" : Str) :: ("sorted" : Str) :: ("set" : Str) :: ("list" : Str) :: ("tuple" : Str) :: ("range" : Str) :: ("enumerate" : Str) :: ("int" : Str) :: ("bool" : Str) :: ("str" : Str) :: ("max" : Str) :: []
def faL : List He.Fa := gloL.map .glo ++ freeL.map .free ++ [.int "MOST_DYES" 5, .int "MOST_VATS" 5, .int "MOST_KINDS" 4, .int "MOST_ROUTES" 8, .int "MOST_LONG" 6, .int "MOST_STANDS" 5000, .str "ENDLESS" "endless",
  .cls "Game", .mkr "Game", .meth "Game" "answers", .meth "Game" "reckon", .meth "Game" "beaten", .noat "Game" "works", .noat "Game" "stands", .noat "Game" "ways", .noat "Game" "within", .noat "Game" "sizes"]
def tfL : List He.Defn := [("is_lot", none), ("is_route", none), ("is_kind", none), ("need_works", none), ("has_wants", none), ("is_clean", none), ("holds_washed", none), ("Game", some "reckon"), ("Game", some "beaten")]
def looL : List Str := ("_wall" : Str) :: ("WorksError" : Str) :: ("BadWorks" : Str) :: ("BadNumber" : Str) :: ("TooMany" : Str) :: ("MOST_DYES" : Str) :: ("MOST_VATS" : Str) :: ("MOST_KINDS" : Str) :: ("MOST_ROUTES" : Str) :: ("MOST_LONG" : Str) :: ("MOST_STANDS" : Str) :: ("is_number" : Str) :: ("need_number" : Str) :: ("is_lot" : Str) :: ("is_route" : Str) :: ("is_kind" : Str) :: ("need_works" : Str) :: ("joined" : Str) :: ("behind" : Str) :: ("has_wants" : Str) :: ("is_clean" : Str) :: ("dyed" : Str) :: ("all_stands" : Str) :: ("Game" : Str) :: ("routes_of" : Str) :: ("closed" : Str) :: ("is_fine" : Str) :: ("all_plans" : Str) :: ("fine_plans" : Str) :: ("good_plans" : Str) :: ("ENDLESS" : Str) :: ("orders_from_clean" : Str) :: ("worst_stands" : Str) :: ("holds_washed" : Str) :: ("washed_plans" : Str) :: ("_law_taken" : Str) :: ("_law_dyes" : Str) :: ("_law_works" : Str) :: ("_law_pass" : Str) :: ("_law_stands" : Str) :: ("_law_good" : Str) :: ("_law_within" : Str) :: ("_law_alike" : Str) :: ("_law_plans" : Str) :: []
abbrev RwR : PySem.W.OpenRow := PySem.W.OpenLaw.row PySem.Challenge.rw_dyeworks_k07_whole_washes
abbrev hkL : PySem.W.Hook := He.hookX 5 faL fnL [] tfL (fun _ => true)
def obL (s : PySem.W.SharedT) : He.AlX := He.obsX 5 faL fnL [] tfL (fun _ => true) (HandSHeadRun.getT s)
theorem obL_eq (s : PySem.W.SharedT) : obL s = hkL.obs s.abs := He.obsX_eq (HandSHeadRun.getT_eq s)
end Dw

/-! part DwZ -/
set_option Elab.async false
set_option linter.all false
set_option maxRecDepth 100000
set_option maxHeartbeats 4000000
/-! from what the head tells to the law's promise -/
namespace Dw
open PySem PySem.Spec PyProof.Rows L2
section
variable {P : Program} {w : World} {K : PySem.W.Frag} {mg : Str → Option Value} {base h : Heap} {f : Addr} {fd : FuncData}
theorem FunD.toC {p : Str × Option Str} {x q : Str} {s : Stmt} (F : FunD K x q (defArgs s) (defBody s) (defScope s) [] [] (He.fAd K p) fd) : FunC K x q s (He.fAd K p) fd (He.codeOf K p) := by
  obtain ⟨oc, od, dV, kV, doc, pm, an, cdv, ct, osl, rfl, lk, hcd, hD, _⟩ := F.ex
  obtain ⟨c, rfl⟩ := He.codeIn_ref hcd
  obtain rfl : dV = .none := by
    rcases hD with ⟨_, e⟩ | ⟨e, _⟩
    · exact e
    · exact absurd rfl e
  have e : He.codeOf K p = c := He.codeOf_eq lk rfl
  rw [e]
  exact ⟨⟨oc, od, kV, doc, pm, an, ct, osl, rfl, lk, hcd⟩, F.kp⟩
/-- what is known at each base -/
structure Known (K : PySem.W.Frag) (mg : Str → Option Value) (base : Heap) : Prop where
  x : K.In base
  g : base.Ns mainGlobals mg
  d : He.SaysD faL fnL K
  t : ∀ p ∈ tfL, LamX.TabB base mg (He.cT K p).1 (He.cT K p).2
theorem Known.fact (Y : Known K mg base) (i : Nat) {e : He.Fa} (h : faL[i]? = some e := by rfl) : e.ok K = true := Y.d.fact i h
theorem Known.glo (Y : Known K mg base) {x : Str} (h : x ∈ gloL) : mg x = some (.ref (He.ga K x)) :=
  He.glo_ok Y.x Y.g (He.SaysD.facts Y.d (f := .glo x) (List.mem_append_left _ (List.mem_append_left _ (List.mem_map_of_mem h))))
theorem Known.free (Y : Known K mg base) {x : Str} (h : x ∈ freeL) : mg x = none :=
  He.free_ok Y.x Y.g (He.SaysD.facts Y.d (f := .free x) (List.mem_append_left _ (List.mem_append_right _ (List.mem_map_of_mem h))))
theorem Known.fnC (Y : Known K mg base) {p : Str × Option Str} {x q : Str} {s : Stmt} (h : mkD p x q s ∈ fnL) : ∃ fd, FunC K x q s (He.fAd K p) fd (He.codeOf K p) := by
  obtain ⟨fd, F⟩ := He.SaysD.defs Y.d h
  exact ⟨fd, FunD.toC (p := p) (x := x) (q := q) (s := s) F⟩
theorem Known.at_ (Y : Known K mg base) {x : Str} {s : Stmt} (h : gD x s ∈ fnL) (h2 : x ∈ gloL) : DefAt K mg x s := by
  obtain ⟨fd, F⟩ := Y.fnC h
  exact ⟨_, fd, F.fn, Y.glo h2⟩
theorem Known.atC (Y : Known K mg base) {x : Str} {s : Stmt} (h : gD x s ∈ fnL) (h2 : x ∈ gloL) (h3 : ((x, none) : He.Defn) ∈ tfL) : DefAtC K mg base x s (He.cT K (x, none)).2 := by
  obtain ⟨fd, F⟩ := Y.fnC h
  exact ⟨_, fd, _, F, Y.glo h2, (Y.t _ h3).code⟩
theorem Known.nm (Y : Known K mg base) : Nm mg := by
  constructor <;> exact Y.free (by simp [freeL])
theorem Known.cs (Y : Known K mg base) : Cs mg := by
  constructor
  · obtain ⟨t, e⟩ := He.int_ok Y.x Y.g (Y.fact 48)
    exact ⟨_, e, ⟨t, rfl⟩⟩
  · obtain ⟨t, e⟩ := He.int_ok Y.x Y.g (Y.fact 49)
    exact ⟨_, e, ⟨t, rfl⟩⟩
  · obtain ⟨t, e⟩ := He.int_ok Y.x Y.g (Y.fact 50)
    exact ⟨_, e, ⟨t, rfl⟩⟩
  · obtain ⟨t, e⟩ := He.int_ok Y.x Y.g (Y.fact 51)
    exact ⟨_, e, ⟨t, rfl⟩⟩
  · obtain ⟨t, e⟩ := He.int_ok Y.x Y.g (Y.fact 52)
    exact ⟨_, e, ⟨t, rfl⟩⟩
  · obtain ⟨t, e⟩ := He.int_ok Y.x Y.g (Y.fact 53)
    exact ⟨_, e, ⟨t, rfl⟩⟩
  · obtain ⟨t, e⟩ := He.str_ok Y.x Y.g (Y.fact 54)
    exact ⟨_, e, ⟨t, rfl⟩⟩
theorem Known.gm (Y : Known K mg base) : GmAt K mg base (He.ga K "Game") (He.cT K ("Game", some "reckon")).2 (He.cT K ("Game", some "beaten")).2 := by
  refine ⟨He.cls_ok (Y.fact 55), Y.glo (List.mem_of_getElem? (i := 32) rfl), He.noat_ok (Y.fact 60), He.noat_ok (Y.fact 61), He.noat_ok (Y.fact 62), He.noat_ok (Y.fact 63), He.noat_ok (Y.fact 64), ?_, ?_, ?_, ?_⟩
  · obtain ⟨fd, F⟩ := Y.fnC (List.mem_of_getElem? (i := 32) rfl)
    exact ⟨_, fd, F.fn, He.mkr_ok (Y.fact 56)⟩
  · obtain ⟨fd, F⟩ := Y.fnC (List.mem_of_getElem? (i := 33) rfl)
    exact ⟨_, fd, F.fn, He.meth_ok (Y.fact 57)⟩
  · obtain ⟨fd, F⟩ := Y.fnC (List.mem_of_getElem? (i := 34) rfl)
    exact ⟨_, fd, _, F, He.meth_ok (Y.fact 58), (Y.t _ (List.mem_of_getElem? (i := 7) rfl)).code⟩
  · obtain ⟨fd, F⟩ := Y.fnC (List.mem_of_getElem? (i := 35) rfl)
    exact ⟨_, fd, _, F, He.meth_ok (Y.fact 59), (Y.t _ (List.mem_of_getElem? (i := 8) rfl)).code⟩
theorem Known.blt (Y : Known K mg base) : BltB base mg := by
  obtain ⟨bm, o, h1, h2, _, _, h5, h6, h7, h8⟩ := (Y.t _ (List.mem_of_getElem? (i := 0) rfl)).bm
  exact ⟨bm, o, h1, h2, h5, h6, h7, h8⟩
abbrev tbO (K : PySem.W.Frag) (x : Str) : Addr := (He.cT K (x, none)).2
abbrev txO (K : PySem.W.Frag) : TX := ⟨⟨tbO K "is_lot", tbO K "is_route", tbO K "is_kind", tbO K "need_works"⟩, ⟨(He.cT K ("Game", some "beaten")).2, (He.cT K ("Game", some "reckon")).2, tbO K "has_wants", tbO K "is_clean"⟩, tbO K "holds_washed"⟩
/-- the law's promise from all of it -/
theorem Known.law (Y : Known K mg base) (F : Fun K "law" "law" (st 50) f fd) : FnOk P w K mg base CX0 9 f fd ["_law_script"] (spLaw K (txO K)) := by
  have N := Y.nm
  have C := Y.cs
  have B := Y.blt
  have G := Y.gm
  have num := d_num (P := P) (w := w) (base := base) (Y.at_ (List.mem_of_getElem? (i := 0) rfl) (List.mem_of_getElem? (i := 0) rfl)) N
  have needN := d_needN (P := P) (w := w) (base := base) (Y.at_ (List.mem_of_getElem? (i := 1) rfl) (List.mem_of_getElem? (i := 1) rfl)) N num
  have lot := d_lot (P := P) (w := w) (base := base) (Y.atC (List.mem_of_getElem? (i := 2) rfl) (List.mem_of_getElem? (i := 2) rfl) (List.mem_of_getElem? (i := 0) rfl)) N B num
  have route := d_route (P := P) (w := w) (base := base) (Y.atC (List.mem_of_getElem? (i := 3) rfl) (List.mem_of_getElem? (i := 3) rfl) (List.mem_of_getElem? (i := 1) rfl)) N C B num
  have kind := d_kind (P := P) (w := w) (base := base) (Y.atC (List.mem_of_getElem? (i := 4) rfl) (List.mem_of_getElem? (i := 4) rfl) (List.mem_of_getElem? (i := 2) rfl)) N C B lot route
  have needW := d_needW (P := P) (w := w) (base := base) (T := (txO K).t4) (Y.atC (List.mem_of_getElem? (i := 5) rfl) (List.mem_of_getElem? (i := 5) rfl) (List.mem_of_getElem? (i := 3) rfl)) N C B num lot kind
  have joined := d_joined (P := P) (w := w) (base := base) (Y.at_ (List.mem_of_getElem? (i := 6) rfl) (List.mem_of_getElem? (i := 6) rfl)) N
  have beh := d_beh (P := P) (w := w) (base := base) (Y.at_ (List.mem_of_getElem? (i := 7) rfl) (List.mem_of_getElem? (i := 7) rfl)) N joined
  have has := d_has (P := P) (w := w) (base := base) (Y.atC (List.mem_of_getElem? (i := 8) rfl) (List.mem_of_getElem? (i := 8) rfl) (List.mem_of_getElem? (i := 4) rfl)) N B
  have cln := d_clean (P := P) (w := w) (base := base) (Y.atC (List.mem_of_getElem? (i := 9) rfl) (List.mem_of_getElem? (i := 9) rfl) (List.mem_of_getElem? (i := 5) rfl)) N B
  have dyed := d_dyed (P := P) (w := w) (base := base) (Y.at_ (List.mem_of_getElem? (i := 10) rfl) (List.mem_of_getElem? (i := 10) rfl)) beh has cln
  have al := d_all (P := P) (w := w) (base := base) (Y.at_ (List.mem_of_getElem? (i := 11) rfl) (List.mem_of_getElem? (i := 11) rfl)) N C beh
  have rts := d_rts (P := P) (w := w) (base := base) (Y.at_ (List.mem_of_getElem? (i := 12) rfl) (List.mem_of_getElem? (i := 12) rfl)) N
  have closed := d_closed (P := P) (w := w) (base := base) (Y.at_ (List.mem_of_getElem? (i := 13) rfl) (List.mem_of_getElem? (i := 13) rfl)) beh
  have fine := d_fine (P := P) (w := w) (base := base) (Y.at_ (List.mem_of_getElem? (i := 14) rfl) (List.mem_of_getElem? (i := 14) rfl)) N rts closed beh has cln
  have plans := d_plans (P := P) (w := w) (base := base) (Y.at_ (List.mem_of_getElem? (i := 15) rfl) (List.mem_of_getElem? (i := 15) rfl)) N
  have fines := d_fines (P := P) (w := w) (base := base) (Y.at_ (List.mem_of_getElem? (i := 16) rfl) (List.mem_of_getElem? (i := 16) rfl)) plans fine
  have goodp := d_good (P := P) (w := w) (base := base) (Y.at_ (List.mem_of_getElem? (i := 17) rfl) (List.mem_of_getElem? (i := 17) rfl)) N needW fines
  have worst := d_worst (P := P) (w := w) (base := base) (Y.at_ (List.mem_of_getElem? (i := 19) rfl) (List.mem_of_getElem? (i := 19) rfl)) N beh
  have holds := d_holds (P := P) (w := w) (base := base) (Y.atC (List.mem_of_getElem? (i := 20) rfl) (List.mem_of_getElem? (i := 20) rfl) (List.mem_of_getElem? (i := 6) rfl)) N B rts worst beh has cln
  have washed := d_washed (P := P) (w := w) (base := base) (Y.at_ (List.mem_of_getElem? (i := 21) rfl) (List.mem_of_getElem? (i := 21) rfl)) N needW needN plans holds
  have mb := m_beaten (P := P) (w := w) G N B
  have ma := m_ans (P := P) (w := w) G N dyed
  have mr := m_reckon (P := P) (w := w) G N B mb
  have mi := m_init (P := P) (w := w) G N al ma mr
  have ord := d_ord (P := P) (w := w) (base := base) (S := (txO K).tg) (Y.at_ (List.mem_of_getElem? (i := 18) rfl) (List.mem_of_getElem? (i := 18) rfl)) N C G needW mi
  have taken := d_taken (P := P) (w := w) (base := base) (Y.at_ (List.mem_of_getElem? (i := 22) rfl) (List.mem_of_getElem? (i := 22) rfl)) N
  have ldyes := d_dyes (P := P) (w := w) (base := base) (Y.at_ (List.mem_of_getElem? (i := 23) rfl) (List.mem_of_getElem? (i := 23) rfl)) N taken
  have works := d_works (P := P) (w := w) (base := base) (Y.at_ (List.mem_of_getElem? (i := 24) rfl) (List.mem_of_getElem? (i := 24) rfl)) N taken ldyes
  have pass_ := d_pass (P := P) (w := w) (base := base) (Y.at_ (List.mem_of_getElem? (i := 25) rfl) (List.mem_of_getElem? (i := 25) rfl)) N
  have stands := d_stands (P := P) (w := w) (base := base) (Y.at_ (List.mem_of_getElem? (i := 26) rfl) (List.mem_of_getElem? (i := 26) rfl)) N pass_
  have lgood := d_lgood (P := P) (w := w) (base := base) (Y.at_ (List.mem_of_getElem? (i := 27) rfl) (List.mem_of_getElem? (i := 27) rfl)) N pass_
  have within := d_within (P := P) (w := w) (base := base) (Y.at_ (List.mem_of_getElem? (i := 28) rfl) (List.mem_of_getElem? (i := 28) rfl)) N pass_ lgood
  have al0 := d_al0 (P := P) (w := w) (base := base) (Y.at_ (List.mem_of_getElem? (i := 29) rfl) (List.mem_of_getElem? (i := 29) rfl)) N
  have al1 := d_alUp (P := P) (w := w) (base := base) stay0 (Y.at_ (List.mem_of_getElem? (i := 29) rfl) (List.mem_of_getElem? (i := 29) rfl)) N al0
  have al2 := d_alUp (P := P) (w := w) (base := base) (stayUp stay0) (Y.at_ (List.mem_of_getElem? (i := 29) rfl) (List.mem_of_getElem? (i := 29) rfl)) N al1
  have lplans := d_lplans (P := P) (w := w) (base := base) (Y.at_ (List.mem_of_getElem? (i := 30) rfl) (List.mem_of_getElem? (i := 30) rfl)) N
  exact ok_law F N works stands within ord al0 al2 taken lplans lgood pass_ washed goodp
end
end Dw

/-! part DwAt -/
set_option Elab.async false
set_option linter.all false
set_option maxRecDepth 100000
set_option maxHeartbeats 4000000
/-! the law at the head's heap -/
namespace Dw
open PySem PySem.Spec PyProof.Rows L2
theorem lawAt {l : PySem.W.OpenLaw} {w : World} {K : PySem.W.Frag} {mg : Str → Option Value} {fa : Addr} {h : Heap} (X : K.In h) (G : h.Ns mainGlobals mg) (hfa : mg ("law" : Str) = some (.ref fa)) (c : He.SaysX faL fnL [] tfL (fun _ => true) w h K) :
    LamX.LawAtS l w K CX0 9 63 "_law_script" mg fa h := by
  have sd := He.SaysT.d c.t
  obtain ⟨fd, F⟩ := He.SaysD.defs sd (d := gD "law" (st 50)) (List.mem_of_getElem? (i := 31) rfl)
  have e := hfa.symm.trans (He.glo_ok X G (He.SaysD.facts sd (f := .glo "law") (List.mem_append_left _ (List.mem_append_left _ (List.mem_map_of_mem (List.mem_of_getElem? (i := 31) rfl))))))
  have ef : fa = He.fAd K ("law", none) := by
    injection e with e
    injection e with e
  have b := FunD.bindsA (ps := ["_law_script"]) F fun _ _ _ _ _ _ us hl => match us, hl with | [_], _ => rfl
  have F2 := (FunD.toC (p := ("law", none)) (x := "law") (q := "law") (s := st 50) F).fn
  rw [← ef] at F2
  refine ⟨fd, tfL.map (He.cT K), spLaw K (txO K), fun p hp => ?_, fun p hp => ?_, fun p hp => ?_, fun s u => b s [u] rfl, fun H a ns _ _ ht hs => ?_, fun base X2 G2 T => ?_⟩
  · obtain ⟨q, hq, rfl⟩ := List.mem_map.mp hp
    exact c.empty q hq
  · obtain ⟨q, hq, rfl⟩ := List.mem_map.mp hp
    exact c.out q hq
  · obtain ⟨q, hq, rfl⟩ := List.mem_map.mp hp
    exact PySem.W.codeHd_of_K X (c.hd q hq)
  · have tb : ∀ i q, tfL[i]? = some q → Tb H (He.cT K q).2 := fun i q hq => Tb.nil (ht _ (List.mem_map_of_mem (List.mem_of_getElem? hq)))
    exact ⟨a, ns, rfl, hs, ⟨⟨tb 0 _ rfl, tb 1 _ rfl, tb 2 _ rfl, tb 3 _ rfl⟩, ⟨tb 8 _ rfl, tb 7 _ rfl, tb 4 _ rfl, tb 5 _ rfl⟩, tb 6 _ rfl⟩, fun _ => rfl⟩
  · exact Known.law ⟨X2, G2, sd, fun p hp => T _ (List.mem_map_of_mem hp)⟩ F2
end Dw

/-! part DwRun -/
set_option Elab.async false
set_option linter.all false
set_option maxRecDepth 100000
set_option maxHeartbeats 0
/-! the top, run once -/
namespace Dw
open PySem PySem.Spec PyProof.Rows L2
theorem run (w : World) : HandSHeadRun.RunEq RwR (PySem.W.view RwR.prog [50]) hkL obL 4000 looL w := by
  intro os
  kernel_rfl
end Dw

/-! part DwEnd -/
set_option Elab.async false
set_option linter.all false
set_option maxRecDepth 100000
set_option maxHeartbeats 0
open PySem PySem.W PySem.Calls PyProof.Rows
theorem PySem.Challenge.cw_dyeworks_k07_whole_washes_holds : PySem.Challenge.rw_dyeworks_k07_whole_washes.Holds := by
  w_on; o_law
  refine HandSHeadRun.head_any (r := OpenLaw.row PySem.Challenge.rw_dyeworks_k07_whole_washes) (q := view (OpenLaw.row PySem.Challenge.rw_dyeworks_k07_whole_washes).prog [50]) (H := Dw.hkL) (ob := Dw.obL) (M := 4000) (loose := Dw.looL) (d := HandSHeadRun.topDef (OpenLaw.row PySem.Challenge.rw_dyeworks_k07_whole_washes).prog 50) (kwd := []) Dw.obL_eq
    (by kernel_rfl) (fun s => by kernel_rfl) Dw.run (by kernel_rfl) (by kernel_rfl) (by kernel_rfl) (by rfl) (by first | assumption | decide +kernel) (by decide +kernel) ⟨rfl, rfl, rfl, rfl, rfl, by decide +kernel⟩ ?hw ?hc
  case hw => w_witness2
  case hc =>
    refine LamX.walk_ofTsE (l := PySem.Challenge.rw_dyeworks_k07_whole_washes) (n := 63) (k := 9) (x := "_law_script") (CX := fun _ => L2.CX0) rfl (by decide) (by kernel_rfl) ⟨rfl, by decide, by decide⟩ ?F (fun _ _ _ _ _ z => z)
    intro w mg fa h Y G hmg0
    obtain ⟨K, KX, c⟩ := Y
    have hmg : mg ("law" : PySem.Str) = some (.ref fa) := by
      have e : (HandSHeadRun.topDef (OpenLaw.row PySem.Challenge.rw_dyeworks_k07_whole_washes).prog 50).name = ("law" : PySem.Str) := by kernel_rfl
      rw [← e]
      exact hmg0
    exact ⟨K, KX, Dw.lawAt KX G hmg c⟩
