import PyProof.Rows.All
import Wide.All
import OpenK.AllK
import Wide.FinOn
import HandS.Head0
import HandS.Head1
import HandS.Head2
import PySem.Challenge.RW_meettasks_k00_errors_made
import HandS.ForMost
import HandS.IsInst
import HandS.TupAny
import HandS.Flow
import HandS.ExcInit
import HandS.ExcIs
import HandS.ExcField
import HandS.ExcValue
import HandS.MakeKw
import HandS.MakeKwOnly
import KE.KExcIs
import HandS.Nested
import HandS.EndTab
import HandS.DeepEq
import PyProof.ReprRoads
import PyProof.ReprDict
import HandS.Words
import HandS.WordsExc
import HandS.WordsList
import HandS.HeadEnd
import HandS.HeadHook1
import HandS.HeadHook2
import HandS.TryOnly
set_option Elab.async false
set_option linter.all false
set_option maxRecDepth 100000
set_option maxHeartbeats 0
/-! HG: the top in pieces whose states are written out; each piece is one kernel run. -/
noncomputable section
namespace HG
open PySem PySem.W PySem.Calls PyProof.Rows HandSHeadRun
section
variable (st : SharedT → Thread → Option (SharedT × Thread)) (m0 : Nat) (ann : Option Value)
/-- so many steps, none of them the end -/
def steps : Nat → SharedT → Thread → Option (SharedT × Thread)
  | 0, s, t => some (s, t)
  | k + 1, s, t => bif through t then none else bif stepOk m0 ann t then (match st s t with
      | none => none
      | some x => frS x.1 fun u => steps k u x.2) else none
/-- to the end of a block -/
def block : Nat → SharedT → Thread → Option (Flow × SharedT × Code × Pos)
  | 0, _, _ => none
  | k + 1, s, t => match endAt 1 t with
    | some f => some (f, s, t.code, t.pos)
    | none => bif stepOk m0 ann t then (match st s t with
      | none => none
      | some x => frS x.1 fun u => block k u x.2) else none
end
section
variable {tb : String → Option Builtin} {p : Program} {w : World} {m0 : Nat} {ann : Option Value}
theorem steps_ok {s' : SharedT} {t' : Thread} : ∀ {k : Nat} {s : SharedT} {t : Thread}, steps (stepT (denote tb) p w) m0 ann k s t = some (s', t') → topGo tb p w m0 ann k s.abs t = some (s'.abs, t') := by
  intro k
  induction k with
  | zero =>
    intro s t h
    cases h
    rfl
  | succ k ih =>
    intro s t h
    rw [steps] at h
    rw [topGo]
    cases a : through t <;> rw [a] at h
    · cases b : stepOk m0 ann t <;> rw [b] at h
      · cases h
      · cases c : stepT (denote tb) p w s t with
        | none =>
          rw [c] at h
          cases h
        | some x =>
          obtain ⟨x1, x2⟩ := x
          rw [c] at h
          have h' : frS x1 (fun u => steps (stepT (denote tb) p w) m0 ann k u x2) = some (s', t') := h
          rw [frS_eq] at h'
          have z := ih h'
          simp only [stepT_spec c]
          exact z
    · cases h
theorem block_ok {r : Flow × SharedT × Code × Pos} : ∀ {k : Nat} {s : SharedT} {t : Thread}, block (stepT (denote tb) p w) m0 ann k s t = some r → segRunT tb p w m0 ann 1 k s t = some r := by
  intro k
  induction k with
  | zero =>
    intro s t h
    cases h
  | succ k ih =>
    intro s t h
    rw [block] at h
    rw [segRunT]
    cases a : endAt 1 t with
    | some f =>
      rw [a] at h
      exact h
    | none =>
      rw [a] at h
      have h : (bif stepOk m0 ann t then (match stepT (denote tb) p w s t with
        | none => none
        | some x => frS x.1 fun u => block (stepT (denote tb) p w) m0 ann k u x.2) else none) = some r := h
      cases b : stepOk m0 ann t <;> rw [b] at h
      · cases h
      · cases c : stepT (denote tb) p w s t with
        | none =>
          rw [c] at h
          cases h
        | some x =>
          obtain ⟨x1, x2⟩ := x
          rw [c] at h
          have h' : frS x1 (fun u => block (stepT (denote tb) p w) m0 ann k u x2) = some r := h
          rw [frS_eq] at h'
          exact ih h'
end
def exQ : List Stmt → Env → Sem Flow := PySem.W.Fast.tw12563942051412417395
theorem exQ_eq : @PySem.execs = exQ := PySem.W.Fast.te12563942051412417395
/-- the first steps, from the boot -/
def first (st : SharedT → Thread → Option (SharedT × Thread)) (k : Nat) (p : Program) (w : World) (os : OsState) : Option (SharedT × Thread) := match putAll (boot_heap w.params).objs.toList .nil 0 with
  | none => none
  | some x => frNat x.2 fun n => steps st n (bootAnn w) k (bootT w os (x.1, n)) (topStub p)
abbrev bootS (w : World) (os : OsState) : Shared := ⟨boot_heap w.params, #[], boot_drawn, boot_toks, os⟩
theorem size_boot (w : World) : (boot_heap w.params).objs.size = 11 := by kernel_rfl
theorem ann_boot (w : World) : bootAnn w = some (.ref 6) := by kernel_rfl
abbrev an6 : Option Value := some (.ref 6)
theorem first_ok {k : Nat} {p : Program} {w : World} {os : OsState} {s : SharedT} {t : Thread} (h : first (stepQ (denQ tabQ) p w) k p w os = some (s, t)) : topGo treeTable p w 11 an6 k (bootS w os) (topStub p) = some (s.abs, t) := by
  rw [← stepQ_eq, ← denQ_eq, ← tabQ_eq] at h
  unfold first at h
  cases e : putAll (boot_heap w.params).objs.toList .nil 0 with
  | none =>
    rw [e] at h
    cases h
  | some x =>
    obtain ⟨T, n⟩ := x
    rw [e] at h
    have h : (frNat n fun n => steps (stepT (denote treeTable) p w) n (bootAnn w) k (bootT w os (T, n)) (topStub p)) = some (s, t) := h
    rw [frNat_eq] at h
    have z := steps_ok h
    have hh := putAll_heap e
    have hn : n = 11 := by
      rw [← size_boot w, ← hh]
      exact (absHeap_size T n _).symm
    rw [ann_boot, hn] at z
    subst hn
    have zz : (bootT w os (T, 11)).abs = bootS w os := congrArg (fun y => (⟨y, #[], boot_drawn, boot_toks, os⟩ : Shared)) hh
    rw [zz] at z
    exact z
section
variable {p : Program} {w : World} {env : Env} {q : Pos}
/-- a piece, and what follows -/
theorem piece {k N : Nat} {s s' : SharedT} {r : Shared} {l rest : List Stmt} {c : Code} {a b : Pos} (h : block (stepQ (denQ tabQ) p w) 11 an6 k s ⟨(exQ l env).wrap doneF deadEnd id id, c, a, [topFrame q]⟩ = some (.next, s', c, b))
    (z : topRun treeTable p w 11 an6 N s'.abs (restOf rest env c b [topFrame q]) = some r) : topRun treeTable p w 11 an6 (k + N) s.abs (restOf (l ++ rest) env c a [topFrame q]) = some r := by
  rw [← stepQ_eq, ← denQ_eq, ← tabQ_eq, ← exQ_eq] at h
  exact piece_app (segRun_of (block_ok h)) z
/-- behind the last piece -/
theorem last {k : Nat} {s s' : SharedT} {c : Code} {a : Pos} (h : goF (stepQ (denQ tabQ) p w) 11 an6 k s ⟨doneF .next, c, a, [topFrame q]⟩ = some s') : topRun treeTable p w 11 an6 k s.abs (restOf [] env c a [topFrame q]) = some s'.abs := by
  rw [← stepQ_eq, ← denQ_eq, ← tabQ_eq] at h
  exact goF_ok h
/-- the first steps, the block's begin, and what follows -/
theorem begin_ {k N : Nat} {os : OsState} {s : SharedT} {r : Shared} {b : List Stmt} {c : Code} {a : Pos} (h : first (stepQ (denQ tabQ) p w) k p w os = some (s, ⟨denQ tabQ (.body b env), c, a, [topFrame q]⟩))
    (hb : block (stepQ (denQ tabQ) p w) 11 an6 1 s ⟨(PySem.W.Fast.tw1066825118222455980 b env).wrap (fun _ => doneF .next) deadEnd id id, c, a, [topFrame q]⟩ = some (.next, s, c, a))
    (z : topRun treeTable p w 11 an6 N s.abs (restOf b env c a [topFrame q]) = some r) : topRun treeTable p w 11 an6 (k + (1 + N)) (bootS w os) (topStub p) = some r := by
  have h1 := first_ok h
  rw [← denQ_eq, ← tabQ_eq] at h1
  rw [← stepQ_eq, ← denQ_eq, ← tabQ_eq, ← PySem.W.Fast.te1066825118222455980] at hb
  exact go_top h1 (piece_block (segRun_of (block_ok hb)) z)
end
/-- what the top leaves, of a written state -/
theorem left {p q : Program} {loose : List PySem.Str} {Xt : Shared → Bool} {α : Type} {Yf : Shared → α} {Ya : World → α} {N M n k : Nat} {T : Params → BT} {life : Life} {d : Drawn} (e : opening p = plainProg p.main.scope.names) (hN : Nat.ble 600 N = true) (f : ∀ s, fenceModules? p s = some s)
    (run : ∀ (w : World) (os : OsState), topRun treeTable p w 11 an6 M (bootS w os) (topStub p) = some (SharedT.abs ⟨T w.params, n, life, #[], d, k, os⟩)) (le : Nat.ble M N = true)
    (l1 : ∀ (w : World) (os : OsState), looksF p (boot_heap w.params) (SharedT.abs ⟨T w.params, n, life, #[], d, k, os⟩) = true)
    (l2 : ∀ (w : World) (os : OsState), seenQ q loose (importedModules p.main.body) Xt (SharedT.abs ⟨T w.params, n, life, #[], d, k, os⟩) = openGood q loose)
    (l3 : ∀ (w : World) (os : OsState), Yf (SharedT.abs ⟨T w.params, n, life, #[], d, k, os⟩) = Ya w) : LeftO p q loose Xt Yf Ya N true := by
  refine LeftO.of_pieces (H₀ := boot_heap) (H₁ := fun P => absHeap (T P) n life) (gs₀ := #[]) (gs₁ := #[]) (d₀ := boot_drawn) (d₁ := d) (k₀ := boot_toks) (k₁ := k) (m₀ := 11) (ann := an6) (M := M) (boot_open e hN f) (fun w => ?_) run le fun w => funext fun os => ?_
  · have a := size_boot w
    have b := ann_boot w
    unfold bootAnn at b
    rw [a, b, boot_ns]
    rfl
  · have a := l1 w os
    have b := l2 w os
    rw [← seenQ_eq] at b
    exact Prod.ext a (Prod.ext b (l3 w os))
end HG

end
/-! HF: a law by a head in written-out pieces. -/
noncomputable section
namespace HG
open PySem PySem.W PySem.Calls PyProof.Rows HandSHeadRun
theorem head {r : OpenRow} {q : Program} {H : Hook} {M n k : Nat} {T : Params → BT} {life : Life} {dr : Drawn} {loose : List PySem.Str} {d : DefRec} {kwd : List (PySem.Str × PySem.Expr)}
    (e : opening r.prog = plainProg r.prog.main.scope.names) (f : ∀ s, fenceModules? r.prog s = some s)
    (run : ∀ (w : World) (os : OsState), topRun treeTable r.prog w 11 an6 M (bootS w os) (topStub r.prog) = some (SharedT.abs ⟨T w.params, n, life, #[], dr, k, os⟩))
    (l1 : ∀ (w : World) (os : OsState), looksF r.prog (boot_heap w.params) (SharedT.abs ⟨T w.params, n, life, #[], dr, k, os⟩) = true)
    (l2 : ∀ (w : World) (os : OsState), seenQ q loose (importedModules r.prog.main.body) (fun s => xlAt q [] s && recOk r.toRowW.records s) (SharedT.abs ⟨T w.params, n, life, #[], dr, k, os⟩) = openGood q loose)
    (l3 : ∀ (w : World) (os : OsState), H.obs (SharedT.abs ⟨T w.params, n, life, #[], dr, k, os⟩) = H.val w)
    (h1 : defOf q r.name = some (d, kwd)) (h2 : r.prog.theDef r.name = some (d.params, d.body, d.scope)) (h3 : kwWritten? d.params.kwonlyargs d.params.kw_defaults = some kwd)
    (h4 : (!r.writes || r.records.isEmpty) = true) (h5 : r.wellSaid = true) (h6 : (chainsOk q && opensWell r.prog && (frees r.toRowW && r.within.isEmpty)) = true) (h7 : r.prog.bare) (h8 : r.toRowW.promised)
    (call : WalkO q loose (XL q []) H.says r.toRowW d kwd fun f vs => PySem.call f vs) : r.Holds := by
  have L : LeftO r.prog q loose (fun s => xlAt q [] s && recOk r.toRowW.records s) H.obs H.val (M + 600) true :=
    left (M := M) e (Nat.ble_eq_true_of_le (Nat.le_add_left 600 M)) f run (Nat.ble_eq_true_of_le (Nat.le_add_right M 600)) l1 l2 l3
  exact holds_open (XP := XL q []) (YP := H.says) L H.of H.keeps (fun s z => xl_of s (Bool.and_eq_true_iff.mp z).1) XL.keeps h1 h2 h3 (fun s z => recFacts_of (Bool.and_eq_true_iff.mp z).2) h4 h5 h6 h7 h8 call
end HG

end
noncomputable section
namespace K00H
open PySem PySem.W PySem.Calls PyProof.Rows HandSHeadRun
abbrev Pg : Program := (OpenLaw.row PySem.Challenge.rw_meettasks_k00_errors_made).prog
abbrev S : String → PySem.Str := PySem.Str.ofString
abbrev N : Obj → BT → BT → BT := BT.node
abbrev e : BT := BT.nil
abbrev E (P : Params) (x : String) (t : Nat) (v : Value) : DictEntry := ⟨PySem.PyData.keyHash P (S x), .str (S x) t, v⟩
def dT (i : Nat) : DefRec := topDef Pg i
def dM (i j : Nat) : DefRec := match Pg.main.body[i]? with
  | some (.ClassDef _ _ _ b _ _ _ _ _ _ _) => (match b[j]? with
    | some (.FunctionDef n a c _ _ _ sc _ _ ps) => ⟨n, a, c, sc, ps⟩
    | _ => topDef Pg i)
  | _ => topDef Pg i
def o0 (P : Params) : Obj := ⟨(.type "tuple"), none, (.seq #[] 0), #[]⟩
def o1 (P : Params) : Obj := ⟨.none, none, (.fields #[]), #[]⟩
def o2 (P : Params) : Obj := ⟨(.type "code"), none, (.fields #[(.str (S "<module>") 182), (.str (S "<module>") 183), (.str (S "/claim/cut.py") 184), (.int 1 0), (.int 0 0), (.int 0 0), (.int 0 0), (.int 0 0), (.ref 11), (.bool false), (.int 181 0), (.ref 12), .none, .none, .none, .none, (.int 185 0), (.int 1 0), (.str (S "/claim/cut.py") 186)]), #[]⟩
def o3 (P : Params) : Obj := ⟨(.type "frame"), none, .plain, #[(some (.ref 13)), (some (.ref 3)), (some (.ref 3)), none, (some (.str (S "__main__") 164)), none, (some (.ref 0))]⟩
def Ta (P : Params) : BT := (N (boot_o_0 P) (N (boot_o_1 P) (N (boot_o_3 P) (N (boot_o_7 P) e e) (N (o0 P) e e)) (N (boot_o_5 P) (N (boot_o_9 P) e e) (N (o2 P) e e))) (N (boot_o_2 P) (N (boot_o_4 P) (N (boot_o_8 P) e e) (N (o1 P) e e)) (N (boot_o_6 P) (N (boot_o_10 P) e e) (N (o3 P) e e))))
def Sa (w : World) (os : OsState) : SharedT := ⟨Ta w.params, 15, ⟨[], [], [], 0, [], [], false, #[], [], 0, false, false, false, 0, [2000, 10, 10], false, 0, true, [], [], 0, false⟩, #[], ⟨0, 0, 0, 0⟩, 187, os⟩
def posa : Pos := ⟨0, 0, 0, 0⟩
def Tb (P : Params) : BT := (N (boot_o_0 P) (N (boot_o_1 P) (N (boot_o_3 P) (N (boot_o_7 P) e e) (N (o0 P) e e)) (N (boot_o_5 P) (N (boot_o_9 P) e e) (N (o2 P) e e))) (N (boot_o_2 P) (N (boot_o_4 P) (N (boot_o_8 P) e e) (N (o1 P) e e)) (N (boot_o_6 P) (N (boot_o_10 P) e e) (N (o3 P) e e))))
def Sb (w : World) (os : OsState) : SharedT := ⟨Tb w.params, 15, ⟨[], [], [], 0, [], [], false, #[], [], 0, false, false, false, 0, [2000, 10, 10], false, 0, true, [], [], 0, false⟩, #[], ⟨0, 0, 0, 0⟩, 187, os⟩
def posb : Pos := ⟨0, 0, 0, 0⟩
def o4 (P : Params) : Obj := ⟨(.type "dict"), none, (.dict #[E P "__name__" 165 (.str (S "meettasks.errors") 187), E P "__doc__" 166 .none, E P "__package__" 167 .none, E P "__loader__" 168 (.builtin "__main__.__loader__#opaque"), E P "__spec__" 169 .none, E P "__annotations__" 170 (.ref 6), E P "__builtins__" 171 (.ref 4), E P "__file__" 173 (.str (S "/claim/cut.py") 172), E P "__cached__" 174 .none, E P "TaskError" 206 (.ref 24), E P "BadValues" 231 (.ref 44), E P "BadStart" 256 (.ref 63), E P "BadDeeds" 281 (.ref 82), E P "BadEntries" 306 (.ref 101), E P "BadThings" 331 (.ref 120), E P "BadBody" 358 (.ref 139), E P "NoTask" 383 (.ref 158), E P "NoPath" 408 (.ref 177), E P "NoThing" 433 (.ref 196), E P "BadOrder" 458 (.ref 215), E P "NoStand" 483 (.ref 234), E P "BadSpots" 508 (.ref 253), E P "Endless" 533 (.ref 272), E P "BadEvents" 558 (.ref 291), E P "NoDeed" 583 (.ref 310), E P "BadStretch" 608 (.ref 329), E P "BadKind" 633 (.ref 348), E P "BadMany" 658 (.ref 367)] 28), #[]⟩
def o5 (P : Params) : Obj := ⟨.none, none, (.fields #[(.int 2 0), (.int 0 0), (.ref 20), (.int 4 0), (.int 0 0), (.ref 33), (.int 8 0), (.int 0 0), (.ref 52), (.int 12 0), (.int 0 0), (.ref 71), (.int 16 0), (.int 0 0), (.ref 90), (.int 20 0), (.int 0 0), (.ref 109), (.int 24 0), (.int 0 0), (.ref 128), (.int 29 0), (.int 0 0), (.ref 147), (.int 33 0), (.int 0 0), (.ref 166), (.int 37 0), (.int 0 0), (.ref 185), (.int 41 0), (.int 0 0), (.ref 204), (.int 45 0), (.int 0 0), (.ref 223), (.int 49 0), (.int 0 0), (.ref 242), (.int 53 0), (.int 0 0), (.ref 261), (.int 57 0), (.int 0 0), (.ref 280), (.int 61 0), (.int 0 0), (.ref 299), (.int 65 0), (.int 0 0), (.ref 318), (.int 69 0), (.int 0 0), (.ref 337), (.int 73 0), (.int 0 0), (.ref 356)]), #[]⟩
def o6 (P : Params) : Obj := ⟨(.type "tuple"), none, (.seq #[(.type "ValueError")] 0), #[]⟩
def o7 (P : Params) : Obj := ⟨(.type "builtin_function_or_method"), none, (.fields #[(.builtin "type.__prepare__"), (.type "type")]), #[]⟩
def o8 (P : Params) : Obj := ⟨(.type "dict"), none, (.dict #[E P "__module__" 196 (.str (S "meettasks.errors") 187), E P "__qualname__" 198 (.str (S "TaskError") 197), E P "__firstlineno__" 200 (.int 2 199), E P "__static_attributes__" 201 (.ref 22)] 4), #[]⟩
def o9 (P : Params) : Obj := ⟨(.type "tuple"), none, (.seq #[] 0), #[]⟩
def o10 (P : Params) : Obj := ⟨.none, none, (.fields #[]), #[]⟩
def o11 (P : Params) : Obj := ⟨(.type "code"), none, (.fields #[(.str (S "TaskError") 191), (.str (S "TaskError") 192), (.str (S "/claim/cut.py") 193), (.int 2 0), (.int 0 0), (.int 0 0), (.int 0 0), (.int 0 0), (.ref 18), (.bool false), (.int 181 0), (.ref 19), .none, .none, .none, .none, (.int 194 0), (.int 2 0), (.str (S "/claim/cut.py") 195)]), #[]⟩
def o12 (P : Params) : Obj := ⟨(.type "frame"), none, .plain, #[(some (.ref 20)), (some (.ref 3)), (some (.ref 17)), none, (some (.str (S "meettasks.errors") 187)), none, (some (.ref 0))]⟩
def o13 (P : Params) : Obj := ⟨(.type "tuple"), none, (.seq #[] 0), #[]⟩
def o14 (P : Params) : Obj := ⟨(.type "dict"), none, (.dict #[E P "__module__" 196 (.str (S "meettasks.errors") 187), E P "__firstlineno__" 200 (.int 2 199), E P "__static_attributes__" 201 (.ref 22), E P "__weakref__" 203 (.ref 25), E P "__doc__" 204 .none] 3), #[]⟩
def o15 (P : Params) : Obj := ⟨(.type "type"), none, (.cls ⟨(S "TaskError"), [(.type "ValueError")], [(.ref 24), (.type "ValueError"), (.type "Exception"), (.type "BaseException"), (.type "object")], 23, (S "TaskError"), true, [], [(.ref 44), (.ref 63), (.ref 82), (.ref 101), (.ref 120), (.ref 139), (.ref 158), (.ref 177), (.ref 196), (.ref 215), (.ref 234), (.ref 253), (.ref 272), (.ref 291), (.ref 310), (.ref 329), (.ref 348), (.ref 367)], false, none, false⟩), #[(some (.ref 15)), none, (some (.str (S "TaskError") 189)), (some (.str (S "TaskError") 197)), (some (.builtin "ValueError.__new__")), (some (.bool true))]⟩
def o16 (P : Params) : Obj := ⟨(.type "getset_descriptor"), none, (.fields #[(.str (S "__weakref__") 202), (.ref 24), (.builtin "ExceptionGroup.__weakref__"), .none]), #[]⟩
def o17 (P : Params) : Obj := ⟨(.type "super"), none, (.fields #[(.ref 24), (.ref 24), (.ref 24)]), #[]⟩
def o18 (P : Params) : Obj := ⟨(.type "builtin_function_or_method"), none, (.fields #[(.builtin "object.__init_subclass__"), (.ref 24)]), #[]⟩
def o19 (P : Params) : Obj := ⟨(.type "tuple"), none, (.seq #[(.ref 24)] 0), #[]⟩
def o20 (P : Params) : Obj := ⟨(.type "builtin_function_or_method"), none, (.fields #[(.builtin "type.__prepare__"), (.type "type")]), #[]⟩
def o21 (P : Params) : Obj := ⟨(.type "dict"), none, (.dict #[E P "__module__" 214 (.str (S "meettasks.errors") 187), E P "__qualname__" 216 (.str (S "BadValues") 215), E P "__firstlineno__" 218 (.int 4 217), E P "__init__" 226 (.ref 41), E P "__static_attributes__" 228 (.ref 42)] 5), #[]⟩
def o22 (P : Params) : Obj := ⟨(.type "tuple"), none, (.seq #[] 0), #[]⟩
def o23 (P : Params) : Obj := ⟨.none, none, (.fields #[(.int 6 0), (.int 4 0), (.ref 40)]), #[]⟩
def o24 (P : Params) : Obj := ⟨(.type "code"), none, (.fields #[(.str (S "BadValues") 209), (.str (S "BadValues") 210), (.str (S "/claim/cut.py") 211), (.int 4 0), (.int 0 0), (.int 0 0), (.int 0 0), (.int 0 0), (.ref 31), (.bool false), (.int 181 0), (.ref 32), .none, .none, .none, .none, (.int 212 0), (.int 4 0), (.str (S "/claim/cut.py") 213)]), #[]⟩
def o25 (P : Params) : Obj := ⟨(.type "frame"), none, .plain, #[(some (.ref 33)), (some (.ref 3)), (some (.ref 30)), none, (some (.str (S "meettasks.errors") 187)), none, (some (.ref 0))]⟩
def o26 (P : Params) : Obj := ⟨(.type "tuple"), none, (.seq #[] 0), #[]⟩
def o27 (P : Params) : Obj := ⟨.none, none, (.fields #[]), #[]⟩
def o28 (P : Params) : Obj := ⟨(.type "tuple"), none, (.seq #[(.str (S "self") 222), (.str (S "index") 223)] 0), #[]⟩
def o29 (P : Params) : Obj := ⟨(.type "tuple"), none, (.seq #[] 0), #[]⟩
def o30 (P : Params) : Obj := ⟨.none, none, (.func ⟨(S "__init__"), (S "BadValues.__init__"), (dM 2 0).params, .stmts (dM 2 0).body, (dM 2 0).scope, 0, [], .none, .none, .none, .none, none, .none, .none, 0⟩), #[]⟩
def o31 (P : Params) : Obj := ⟨(.type "code"), none, (.fields #[(.str (S "__init__") 219), (.str (S "BadValues.__init__") 220), (.str (S "/claim/cut.py") 221), (.int 6 0), (.int 2 0), (.int 0 0), (.int 0 0), (.int 3 0), (.ref 35), (.bool true), (.int 181 0), (.ref 36), .none, (.ref 37), (.ref 38), (.ref 39), (.int 224 0), (.int 6 0), (.str (S "/claim/cut.py") 225)]), #[]⟩
def o32 (P : Params) : Obj := ⟨(.type "function"), none, (.func ⟨(S "__init__"), (S "BadValues.__init__"), (dM 2 0).params, .stmts (dM 2 0).body, (dM 2 0).scope, 3, [], .none, .none, .none, (.str (S "meettasks.errors") 187), none, (.ref 40), .none, 0⟩), #[]⟩
def o33 (P : Params) : Obj := ⟨(.type "tuple"), none, (.seq #[(.str (S "index") 227)] 0), #[]⟩
def o34 (P : Params) : Obj := ⟨(.type "dict"), none, (.dict #[E P "__module__" 214 (.str (S "meettasks.errors") 187), E P "__firstlineno__" 218 (.int 4 217), E P "__init__" 226 (.ref 41), E P "__static_attributes__" 228 (.ref 42), E P "__doc__" 229 .none] 2), #[]⟩
def o35 (P : Params) : Obj := ⟨(.type "type"), none, (.cls ⟨(S "BadValues"), [(.ref 24)], [(.ref 44), (.ref 24), (.type "ValueError"), (.type "Exception"), (.type "BaseException"), (.type "object")], 43, (S "BadValues"), true, [], [], false, none, false⟩), #[(some (.ref 28)), none, (some (.str (S "BadValues") 207)), (some (.str (S "BadValues") 215)), (some (.builtin "ValueError.__new__")), (some (.bool true))]⟩
def o36 (P : Params) : Obj := ⟨(.type "super"), none, (.fields #[(.ref 44), (.ref 44), (.ref 44)]), #[]⟩
def o37 (P : Params) : Obj := ⟨(.type "builtin_function_or_method"), none, (.fields #[(.builtin "object.__init_subclass__"), (.ref 44)]), #[]⟩
def o38 (P : Params) : Obj := ⟨(.type "tuple"), none, (.seq #[(.ref 24)] 0), #[]⟩
def o39 (P : Params) : Obj := ⟨(.type "builtin_function_or_method"), none, (.fields #[(.builtin "type.__prepare__"), (.type "type")]), #[]⟩
def o40 (P : Params) : Obj := ⟨(.type "dict"), none, (.dict #[E P "__module__" 239 (.str (S "meettasks.errors") 187), E P "__qualname__" 241 (.str (S "BadStart") 240), E P "__firstlineno__" 243 (.int 8 242), E P "__init__" 251 (.ref 60), E P "__static_attributes__" 253 (.ref 61)] 5), #[]⟩
def o41 (P : Params) : Obj := ⟨(.type "tuple"), none, (.seq #[] 0), #[]⟩
def o42 (P : Params) : Obj := ⟨.none, none, (.fields #[(.int 10 0), (.int 4 0), (.ref 59)]), #[]⟩
def o43 (P : Params) : Obj := ⟨(.type "code"), none, (.fields #[(.str (S "BadStart") 234), (.str (S "BadStart") 235), (.str (S "/claim/cut.py") 236), (.int 8 0), (.int 0 0), (.int 0 0), (.int 0 0), (.int 0 0), (.ref 50), (.bool false), (.int 181 0), (.ref 51), .none, .none, .none, .none, (.int 237 0), (.int 8 0), (.str (S "/claim/cut.py") 238)]), #[]⟩
def o44 (P : Params) : Obj := ⟨(.type "frame"), none, .plain, #[(some (.ref 52)), (some (.ref 3)), (some (.ref 49)), none, (some (.str (S "meettasks.errors") 187)), none, (some (.ref 0))]⟩
def o45 (P : Params) : Obj := ⟨(.type "tuple"), none, (.seq #[] 0), #[]⟩
def o46 (P : Params) : Obj := ⟨.none, none, (.fields #[]), #[]⟩
def o47 (P : Params) : Obj := ⟨(.type "tuple"), none, (.seq #[(.str (S "self") 247), (.str (S "thing") 248)] 0), #[]⟩
def o48 (P : Params) : Obj := ⟨(.type "tuple"), none, (.seq #[] 0), #[]⟩
def o49 (P : Params) : Obj := ⟨.none, none, (.func ⟨(S "__init__"), (S "BadStart.__init__"), (dM 3 0).params, .stmts (dM 3 0).body, (dM 3 0).scope, 0, [], .none, .none, .none, .none, none, .none, .none, 0⟩), #[]⟩
def o50 (P : Params) : Obj := ⟨(.type "code"), none, (.fields #[(.str (S "__init__") 244), (.str (S "BadStart.__init__") 245), (.str (S "/claim/cut.py") 246), (.int 10 0), (.int 2 0), (.int 0 0), (.int 0 0), (.int 3 0), (.ref 54), (.bool true), (.int 181 0), (.ref 55), .none, (.ref 56), (.ref 57), (.ref 58), (.int 249 0), (.int 10 0), (.str (S "/claim/cut.py") 250)]), #[]⟩
def o51 (P : Params) : Obj := ⟨(.type "function"), none, (.func ⟨(S "__init__"), (S "BadStart.__init__"), (dM 3 0).params, .stmts (dM 3 0).body, (dM 3 0).scope, 3, [], .none, .none, .none, (.str (S "meettasks.errors") 187), none, (.ref 59), .none, 0⟩), #[]⟩
def o52 (P : Params) : Obj := ⟨(.type "tuple"), none, (.seq #[(.str (S "thing") 252)] 0), #[]⟩
def o53 (P : Params) : Obj := ⟨(.type "dict"), none, (.dict #[E P "__module__" 239 (.str (S "meettasks.errors") 187), E P "__firstlineno__" 243 (.int 8 242), E P "__init__" 251 (.ref 60), E P "__static_attributes__" 253 (.ref 61), E P "__doc__" 254 .none] 2), #[]⟩
def o54 (P : Params) : Obj := ⟨(.type "type"), none, (.cls ⟨(S "BadStart"), [(.ref 24)], [(.ref 63), (.ref 24), (.type "ValueError"), (.type "Exception"), (.type "BaseException"), (.type "object")], 62, (S "BadStart"), true, [], [], false, none, false⟩), #[(some (.ref 47)), none, (some (.str (S "BadStart") 232)), (some (.str (S "BadStart") 240)), (some (.builtin "ValueError.__new__")), (some (.bool true))]⟩
def o55 (P : Params) : Obj := ⟨(.type "super"), none, (.fields #[(.ref 63), (.ref 63), (.ref 63)]), #[]⟩
def o56 (P : Params) : Obj := ⟨(.type "builtin_function_or_method"), none, (.fields #[(.builtin "object.__init_subclass__"), (.ref 63)]), #[]⟩
def o57 (P : Params) : Obj := ⟨(.type "tuple"), none, (.seq #[(.ref 24)] 0), #[]⟩
def o58 (P : Params) : Obj := ⟨(.type "builtin_function_or_method"), none, (.fields #[(.builtin "type.__prepare__"), (.type "type")]), #[]⟩
def o59 (P : Params) : Obj := ⟨(.type "dict"), none, (.dict #[E P "__module__" 264 (.str (S "meettasks.errors") 187), E P "__qualname__" 266 (.str (S "BadDeeds") 265), E P "__firstlineno__" 268 (.int 12 267), E P "__init__" 276 (.ref 79), E P "__static_attributes__" 278 (.ref 80)] 5), #[]⟩
def o60 (P : Params) : Obj := ⟨(.type "tuple"), none, (.seq #[] 0), #[]⟩
def o61 (P : Params) : Obj := ⟨.none, none, (.fields #[(.int 14 0), (.int 4 0), (.ref 78)]), #[]⟩
def o62 (P : Params) : Obj := ⟨(.type "code"), none, (.fields #[(.str (S "BadDeeds") 259), (.str (S "BadDeeds") 260), (.str (S "/claim/cut.py") 261), (.int 12 0), (.int 0 0), (.int 0 0), (.int 0 0), (.int 0 0), (.ref 69), (.bool false), (.int 181 0), (.ref 70), .none, .none, .none, .none, (.int 262 0), (.int 12 0), (.str (S "/claim/cut.py") 263)]), #[]⟩
def o63 (P : Params) : Obj := ⟨(.type "frame"), none, .plain, #[(some (.ref 71)), (some (.ref 3)), (some (.ref 68)), none, (some (.str (S "meettasks.errors") 187)), none, (some (.ref 0))]⟩
def o64 (P : Params) : Obj := ⟨(.type "tuple"), none, (.seq #[] 0), #[]⟩
def o65 (P : Params) : Obj := ⟨.none, none, (.fields #[]), #[]⟩
def o66 (P : Params) : Obj := ⟨(.type "tuple"), none, (.seq #[(.str (S "self") 272), (.str (S "name") 273)] 0), #[]⟩
def o67 (P : Params) : Obj := ⟨(.type "tuple"), none, (.seq #[] 0), #[]⟩
def o68 (P : Params) : Obj := ⟨.none, none, (.func ⟨(S "__init__"), (S "BadDeeds.__init__"), (dM 4 0).params, .stmts (dM 4 0).body, (dM 4 0).scope, 0, [], .none, .none, .none, .none, none, .none, .none, 0⟩), #[]⟩
def o69 (P : Params) : Obj := ⟨(.type "code"), none, (.fields #[(.str (S "__init__") 269), (.str (S "BadDeeds.__init__") 270), (.str (S "/claim/cut.py") 271), (.int 14 0), (.int 2 0), (.int 0 0), (.int 0 0), (.int 3 0), (.ref 73), (.bool true), (.int 181 0), (.ref 74), .none, (.ref 75), (.ref 76), (.ref 77), (.int 274 0), (.int 14 0), (.str (S "/claim/cut.py") 275)]), #[]⟩
def o70 (P : Params) : Obj := ⟨(.type "function"), none, (.func ⟨(S "__init__"), (S "BadDeeds.__init__"), (dM 4 0).params, .stmts (dM 4 0).body, (dM 4 0).scope, 3, [], .none, .none, .none, (.str (S "meettasks.errors") 187), none, (.ref 78), .none, 0⟩), #[]⟩
def o71 (P : Params) : Obj := ⟨(.type "tuple"), none, (.seq #[(.str (S "name") 277)] 0), #[]⟩
def o72 (P : Params) : Obj := ⟨(.type "dict"), none, (.dict #[E P "__module__" 264 (.str (S "meettasks.errors") 187), E P "__firstlineno__" 268 (.int 12 267), E P "__init__" 276 (.ref 79), E P "__static_attributes__" 278 (.ref 80), E P "__doc__" 279 .none] 2), #[]⟩
def o73 (P : Params) : Obj := ⟨(.type "type"), none, (.cls ⟨(S "BadDeeds"), [(.ref 24)], [(.ref 82), (.ref 24), (.type "ValueError"), (.type "Exception"), (.type "BaseException"), (.type "object")], 81, (S "BadDeeds"), true, [], [], false, none, false⟩), #[(some (.ref 66)), none, (some (.str (S "BadDeeds") 257)), (some (.str (S "BadDeeds") 265)), (some (.builtin "ValueError.__new__")), (some (.bool true))]⟩
def o74 (P : Params) : Obj := ⟨(.type "super"), none, (.fields #[(.ref 82), (.ref 82), (.ref 82)]), #[]⟩
def o75 (P : Params) : Obj := ⟨(.type "builtin_function_or_method"), none, (.fields #[(.builtin "object.__init_subclass__"), (.ref 82)]), #[]⟩
def o76 (P : Params) : Obj := ⟨(.type "tuple"), none, (.seq #[(.ref 24)] 0), #[]⟩
def o77 (P : Params) : Obj := ⟨(.type "builtin_function_or_method"), none, (.fields #[(.builtin "type.__prepare__"), (.type "type")]), #[]⟩
def o78 (P : Params) : Obj := ⟨(.type "dict"), none, (.dict #[E P "__module__" 289 (.str (S "meettasks.errors") 187), E P "__qualname__" 291 (.str (S "BadEntries") 290), E P "__firstlineno__" 293 (.int 16 292), E P "__init__" 301 (.ref 98), E P "__static_attributes__" 303 (.ref 99)] 5), #[]⟩
def o79 (P : Params) : Obj := ⟨(.type "tuple"), none, (.seq #[] 0), #[]⟩
def o80 (P : Params) : Obj := ⟨.none, none, (.fields #[(.int 18 0), (.int 4 0), (.ref 97)]), #[]⟩
def o81 (P : Params) : Obj := ⟨(.type "code"), none, (.fields #[(.str (S "BadEntries") 284), (.str (S "BadEntries") 285), (.str (S "/claim/cut.py") 286), (.int 16 0), (.int 0 0), (.int 0 0), (.int 0 0), (.int 0 0), (.ref 88), (.bool false), (.int 181 0), (.ref 89), .none, .none, .none, .none, (.int 287 0), (.int 16 0), (.str (S "/claim/cut.py") 288)]), #[]⟩
def o82 (P : Params) : Obj := ⟨(.type "frame"), none, .plain, #[(some (.ref 90)), (some (.ref 3)), (some (.ref 87)), none, (some (.str (S "meettasks.errors") 187)), none, (some (.ref 0))]⟩
def o83 (P : Params) : Obj := ⟨(.type "tuple"), none, (.seq #[] 0), #[]⟩
def o84 (P : Params) : Obj := ⟨.none, none, (.fields #[]), #[]⟩
def o85 (P : Params) : Obj := ⟨(.type "tuple"), none, (.seq #[(.str (S "self") 297), (.str (S "name") 298)] 0), #[]⟩
def o86 (P : Params) : Obj := ⟨(.type "tuple"), none, (.seq #[] 0), #[]⟩
def o87 (P : Params) : Obj := ⟨.none, none, (.func ⟨(S "__init__"), (S "BadEntries.__init__"), (dM 5 0).params, .stmts (dM 5 0).body, (dM 5 0).scope, 0, [], .none, .none, .none, .none, none, .none, .none, 0⟩), #[]⟩
def o88 (P : Params) : Obj := ⟨(.type "code"), none, (.fields #[(.str (S "__init__") 294), (.str (S "BadEntries.__init__") 295), (.str (S "/claim/cut.py") 296), (.int 18 0), (.int 2 0), (.int 0 0), (.int 0 0), (.int 3 0), (.ref 92), (.bool true), (.int 181 0), (.ref 93), .none, (.ref 94), (.ref 95), (.ref 96), (.int 299 0), (.int 18 0), (.str (S "/claim/cut.py") 300)]), #[]⟩
def o89 (P : Params) : Obj := ⟨(.type "function"), none, (.func ⟨(S "__init__"), (S "BadEntries.__init__"), (dM 5 0).params, .stmts (dM 5 0).body, (dM 5 0).scope, 3, [], .none, .none, .none, (.str (S "meettasks.errors") 187), none, (.ref 97), .none, 0⟩), #[]⟩
def o90 (P : Params) : Obj := ⟨(.type "tuple"), none, (.seq #[(.str (S "name") 302)] 0), #[]⟩
def o91 (P : Params) : Obj := ⟨(.type "dict"), none, (.dict #[E P "__module__" 289 (.str (S "meettasks.errors") 187), E P "__firstlineno__" 293 (.int 16 292), E P "__init__" 301 (.ref 98), E P "__static_attributes__" 303 (.ref 99), E P "__doc__" 304 .none] 2), #[]⟩
def o92 (P : Params) : Obj := ⟨(.type "type"), none, (.cls ⟨(S "BadEntries"), [(.ref 24)], [(.ref 101), (.ref 24), (.type "ValueError"), (.type "Exception"), (.type "BaseException"), (.type "object")], 100, (S "BadEntries"), true, [], [], false, none, false⟩), #[(some (.ref 85)), none, (some (.str (S "BadEntries") 282)), (some (.str (S "BadEntries") 290)), (some (.builtin "ValueError.__new__")), (some (.bool true))]⟩
def o93 (P : Params) : Obj := ⟨(.type "super"), none, (.fields #[(.ref 101), (.ref 101), (.ref 101)]), #[]⟩
def o94 (P : Params) : Obj := ⟨(.type "builtin_function_or_method"), none, (.fields #[(.builtin "object.__init_subclass__"), (.ref 101)]), #[]⟩
def o95 (P : Params) : Obj := ⟨(.type "tuple"), none, (.seq #[(.ref 24)] 0), #[]⟩
def o96 (P : Params) : Obj := ⟨(.type "builtin_function_or_method"), none, (.fields #[(.builtin "type.__prepare__"), (.type "type")]), #[]⟩
def o97 (P : Params) : Obj := ⟨(.type "dict"), none, (.dict #[E P "__module__" 314 (.str (S "meettasks.errors") 187), E P "__qualname__" 316 (.str (S "BadThings") 315), E P "__firstlineno__" 318 (.int 20 317), E P "__init__" 326 (.ref 117), E P "__static_attributes__" 328 (.ref 118)] 5), #[]⟩
def o98 (P : Params) : Obj := ⟨(.type "tuple"), none, (.seq #[] 0), #[]⟩
def o99 (P : Params) : Obj := ⟨.none, none, (.fields #[(.int 22 0), (.int 4 0), (.ref 116)]), #[]⟩
def o100 (P : Params) : Obj := ⟨(.type "code"), none, (.fields #[(.str (S "BadThings") 309), (.str (S "BadThings") 310), (.str (S "/claim/cut.py") 311), (.int 20 0), (.int 0 0), (.int 0 0), (.int 0 0), (.int 0 0), (.ref 107), (.bool false), (.int 181 0), (.ref 108), .none, .none, .none, .none, (.int 312 0), (.int 20 0), (.str (S "/claim/cut.py") 313)]), #[]⟩
def o101 (P : Params) : Obj := ⟨(.type "frame"), none, .plain, #[(some (.ref 109)), (some (.ref 3)), (some (.ref 106)), none, (some (.str (S "meettasks.errors") 187)), none, (some (.ref 0))]⟩
def o102 (P : Params) : Obj := ⟨(.type "tuple"), none, (.seq #[] 0), #[]⟩
def o103 (P : Params) : Obj := ⟨.none, none, (.fields #[]), #[]⟩
def o104 (P : Params) : Obj := ⟨(.type "tuple"), none, (.seq #[(.str (S "self") 322), (.str (S "name") 323)] 0), #[]⟩
def o105 (P : Params) : Obj := ⟨(.type "tuple"), none, (.seq #[] 0), #[]⟩
def o106 (P : Params) : Obj := ⟨.none, none, (.func ⟨(S "__init__"), (S "BadThings.__init__"), (dM 6 0).params, .stmts (dM 6 0).body, (dM 6 0).scope, 0, [], .none, .none, .none, .none, none, .none, .none, 0⟩), #[]⟩
def o107 (P : Params) : Obj := ⟨(.type "code"), none, (.fields #[(.str (S "__init__") 319), (.str (S "BadThings.__init__") 320), (.str (S "/claim/cut.py") 321), (.int 22 0), (.int 2 0), (.int 0 0), (.int 0 0), (.int 3 0), (.ref 111), (.bool true), (.int 181 0), (.ref 112), .none, (.ref 113), (.ref 114), (.ref 115), (.int 324 0), (.int 22 0), (.str (S "/claim/cut.py") 325)]), #[]⟩
def o108 (P : Params) : Obj := ⟨(.type "function"), none, (.func ⟨(S "__init__"), (S "BadThings.__init__"), (dM 6 0).params, .stmts (dM 6 0).body, (dM 6 0).scope, 3, [], .none, .none, .none, (.str (S "meettasks.errors") 187), none, (.ref 116), .none, 0⟩), #[]⟩
def o109 (P : Params) : Obj := ⟨(.type "tuple"), none, (.seq #[(.str (S "name") 327)] 0), #[]⟩
def o110 (P : Params) : Obj := ⟨(.type "dict"), none, (.dict #[E P "__module__" 314 (.str (S "meettasks.errors") 187), E P "__firstlineno__" 318 (.int 20 317), E P "__init__" 326 (.ref 117), E P "__static_attributes__" 328 (.ref 118), E P "__doc__" 329 .none] 2), #[]⟩
def o111 (P : Params) : Obj := ⟨(.type "type"), none, (.cls ⟨(S "BadThings"), [(.ref 24)], [(.ref 120), (.ref 24), (.type "ValueError"), (.type "Exception"), (.type "BaseException"), (.type "object")], 119, (S "BadThings"), true, [], [], false, none, false⟩), #[(some (.ref 104)), none, (some (.str (S "BadThings") 307)), (some (.str (S "BadThings") 315)), (some (.builtin "ValueError.__new__")), (some (.bool true))]⟩
def o112 (P : Params) : Obj := ⟨(.type "super"), none, (.fields #[(.ref 120), (.ref 120), (.ref 120)]), #[]⟩
def o113 (P : Params) : Obj := ⟨(.type "builtin_function_or_method"), none, (.fields #[(.builtin "object.__init_subclass__"), (.ref 120)]), #[]⟩
def o114 (P : Params) : Obj := ⟨(.type "tuple"), none, (.seq #[(.ref 24)] 0), #[]⟩
def o115 (P : Params) : Obj := ⟨(.type "builtin_function_or_method"), none, (.fields #[(.builtin "type.__prepare__"), (.type "type")]), #[]⟩
def o116 (P : Params) : Obj := ⟨(.type "dict"), none, (.dict #[E P "__module__" 339 (.str (S "meettasks.errors") 187), E P "__qualname__" 341 (.str (S "BadBody") 340), E P "__firstlineno__" 343 (.int 24 342), E P "__init__" 352 (.ref 136), E P "__static_attributes__" 355 (.ref 137)] 5), #[]⟩
def o117 (P : Params) : Obj := ⟨(.type "tuple"), none, (.seq #[] 0), #[]⟩
def o118 (P : Params) : Obj := ⟨.none, none, (.fields #[(.int 26 0), (.int 4 0), (.ref 135)]), #[]⟩
def o119 (P : Params) : Obj := ⟨(.type "code"), none, (.fields #[(.str (S "BadBody") 334), (.str (S "BadBody") 335), (.str (S "/claim/cut.py") 336), (.int 24 0), (.int 0 0), (.int 0 0), (.int 0 0), (.int 0 0), (.ref 126), (.bool false), (.int 181 0), (.ref 127), .none, .none, .none, .none, (.int 337 0), (.int 24 0), (.str (S "/claim/cut.py") 338)]), #[]⟩
def o120 (P : Params) : Obj := ⟨(.type "frame"), none, .plain, #[(some (.ref 128)), (some (.ref 3)), (some (.ref 125)), none, (some (.str (S "meettasks.errors") 187)), none, (some (.ref 0))]⟩
def o121 (P : Params) : Obj := ⟨(.type "tuple"), none, (.seq #[] 0), #[]⟩
def o122 (P : Params) : Obj := ⟨.none, none, (.fields #[]), #[]⟩
def o123 (P : Params) : Obj := ⟨(.type "tuple"), none, (.seq #[(.str (S "self") 347), (.str (S "task") 348), (.str (S "path") 349)] 0), #[]⟩
def o124 (P : Params) : Obj := ⟨(.type "tuple"), none, (.seq #[] 0), #[]⟩
def o125 (P : Params) : Obj := ⟨.none, none, (.func ⟨(S "__init__"), (S "BadBody.__init__"), (dM 7 0).params, .stmts (dM 7 0).body, (dM 7 0).scope, 0, [], .none, .none, .none, .none, none, .none, .none, 0⟩), #[]⟩
def o126 (P : Params) : Obj := ⟨(.type "code"), none, (.fields #[(.str (S "__init__") 344), (.str (S "BadBody.__init__") 345), (.str (S "/claim/cut.py") 346), (.int 26 0), (.int 3 0), (.int 0 0), (.int 0 0), (.int 3 0), (.ref 130), (.bool true), (.int 181 0), (.ref 131), .none, (.ref 132), (.ref 133), (.ref 134), (.int 350 0), (.int 26 0), (.str (S "/claim/cut.py") 351)]), #[]⟩
def o127 (P : Params) : Obj := ⟨(.type "function"), none, (.func ⟨(S "__init__"), (S "BadBody.__init__"), (dM 7 0).params, .stmts (dM 7 0).body, (dM 7 0).scope, 3, [], .none, .none, .none, (.str (S "meettasks.errors") 187), none, (.ref 135), .none, 0⟩), #[]⟩
def o128 (P : Params) : Obj := ⟨(.type "tuple"), none, (.seq #[(.str (S "path") 353), (.str (S "task") 354)] 0), #[]⟩
def o129 (P : Params) : Obj := ⟨(.type "dict"), none, (.dict #[E P "__module__" 339 (.str (S "meettasks.errors") 187), E P "__firstlineno__" 343 (.int 24 342), E P "__init__" 352 (.ref 136), E P "__static_attributes__" 355 (.ref 137), E P "__doc__" 356 .none] 2), #[]⟩
def o130 (P : Params) : Obj := ⟨(.type "type"), none, (.cls ⟨(S "BadBody"), [(.ref 24)], [(.ref 139), (.ref 24), (.type "ValueError"), (.type "Exception"), (.type "BaseException"), (.type "object")], 138, (S "BadBody"), true, [], [], false, none, false⟩), #[(some (.ref 123)), none, (some (.str (S "BadBody") 332)), (some (.str (S "BadBody") 340)), (some (.builtin "ValueError.__new__")), (some (.bool true))]⟩
def o131 (P : Params) : Obj := ⟨(.type "super"), none, (.fields #[(.ref 139), (.ref 139), (.ref 139)]), #[]⟩
def o132 (P : Params) : Obj := ⟨(.type "builtin_function_or_method"), none, (.fields #[(.builtin "object.__init_subclass__"), (.ref 139)]), #[]⟩
def o133 (P : Params) : Obj := ⟨(.type "tuple"), none, (.seq #[(.ref 24)] 0), #[]⟩
def o134 (P : Params) : Obj := ⟨(.type "builtin_function_or_method"), none, (.fields #[(.builtin "type.__prepare__"), (.type "type")]), #[]⟩
def o135 (P : Params) : Obj := ⟨(.type "dict"), none, (.dict #[E P "__module__" 366 (.str (S "meettasks.errors") 187), E P "__qualname__" 368 (.str (S "NoTask") 367), E P "__firstlineno__" 370 (.int 29 369), E P "__init__" 378 (.ref 155), E P "__static_attributes__" 380 (.ref 156)] 5), #[]⟩
def o136 (P : Params) : Obj := ⟨(.type "tuple"), none, (.seq #[] 0), #[]⟩
def o137 (P : Params) : Obj := ⟨.none, none, (.fields #[(.int 31 0), (.int 4 0), (.ref 154)]), #[]⟩
def o138 (P : Params) : Obj := ⟨(.type "code"), none, (.fields #[(.str (S "NoTask") 361), (.str (S "NoTask") 362), (.str (S "/claim/cut.py") 363), (.int 29 0), (.int 0 0), (.int 0 0), (.int 0 0), (.int 0 0), (.ref 145), (.bool false), (.int 181 0), (.ref 146), .none, .none, .none, .none, (.int 364 0), (.int 29 0), (.str (S "/claim/cut.py") 365)]), #[]⟩
def o139 (P : Params) : Obj := ⟨(.type "frame"), none, .plain, #[(some (.ref 147)), (some (.ref 3)), (some (.ref 144)), none, (some (.str (S "meettasks.errors") 187)), none, (some (.ref 0))]⟩
def o140 (P : Params) : Obj := ⟨(.type "tuple"), none, (.seq #[] 0), #[]⟩
def o141 (P : Params) : Obj := ⟨.none, none, (.fields #[]), #[]⟩
def o142 (P : Params) : Obj := ⟨(.type "tuple"), none, (.seq #[(.str (S "self") 374), (.str (S "task") 375)] 0), #[]⟩
def o143 (P : Params) : Obj := ⟨(.type "tuple"), none, (.seq #[] 0), #[]⟩
def o144 (P : Params) : Obj := ⟨.none, none, (.func ⟨(S "__init__"), (S "NoTask.__init__"), (dM 8 0).params, .stmts (dM 8 0).body, (dM 8 0).scope, 0, [], .none, .none, .none, .none, none, .none, .none, 0⟩), #[]⟩
def o145 (P : Params) : Obj := ⟨(.type "code"), none, (.fields #[(.str (S "__init__") 371), (.str (S "NoTask.__init__") 372), (.str (S "/claim/cut.py") 373), (.int 31 0), (.int 2 0), (.int 0 0), (.int 0 0), (.int 3 0), (.ref 149), (.bool true), (.int 181 0), (.ref 150), .none, (.ref 151), (.ref 152), (.ref 153), (.int 376 0), (.int 31 0), (.str (S "/claim/cut.py") 377)]), #[]⟩
def o146 (P : Params) : Obj := ⟨(.type "function"), none, (.func ⟨(S "__init__"), (S "NoTask.__init__"), (dM 8 0).params, .stmts (dM 8 0).body, (dM 8 0).scope, 3, [], .none, .none, .none, (.str (S "meettasks.errors") 187), none, (.ref 154), .none, 0⟩), #[]⟩
def o147 (P : Params) : Obj := ⟨(.type "tuple"), none, (.seq #[(.str (S "task") 379)] 0), #[]⟩
def o148 (P : Params) : Obj := ⟨(.type "dict"), none, (.dict #[E P "__module__" 366 (.str (S "meettasks.errors") 187), E P "__firstlineno__" 370 (.int 29 369), E P "__init__" 378 (.ref 155), E P "__static_attributes__" 380 (.ref 156), E P "__doc__" 381 .none] 2), #[]⟩
def o149 (P : Params) : Obj := ⟨(.type "type"), none, (.cls ⟨(S "NoTask"), [(.ref 24)], [(.ref 158), (.ref 24), (.type "ValueError"), (.type "Exception"), (.type "BaseException"), (.type "object")], 157, (S "NoTask"), true, [], [], false, none, false⟩), #[(some (.ref 142)), none, (some (.str (S "NoTask") 359)), (some (.str (S "NoTask") 367)), (some (.builtin "ValueError.__new__")), (some (.bool true))]⟩
def o150 (P : Params) : Obj := ⟨(.type "super"), none, (.fields #[(.ref 158), (.ref 158), (.ref 158)]), #[]⟩
def o151 (P : Params) : Obj := ⟨(.type "builtin_function_or_method"), none, (.fields #[(.builtin "object.__init_subclass__"), (.ref 158)]), #[]⟩
def o152 (P : Params) : Obj := ⟨(.type "tuple"), none, (.seq #[(.ref 24)] 0), #[]⟩
def o153 (P : Params) : Obj := ⟨(.type "builtin_function_or_method"), none, (.fields #[(.builtin "type.__prepare__"), (.type "type")]), #[]⟩
def o154 (P : Params) : Obj := ⟨(.type "dict"), none, (.dict #[E P "__module__" 391 (.str (S "meettasks.errors") 187), E P "__qualname__" 393 (.str (S "NoPath") 392), E P "__firstlineno__" 395 (.int 33 394), E P "__init__" 403 (.ref 174), E P "__static_attributes__" 405 (.ref 175)] 5), #[]⟩
def o155 (P : Params) : Obj := ⟨(.type "tuple"), none, (.seq #[] 0), #[]⟩
def o156 (P : Params) : Obj := ⟨.none, none, (.fields #[(.int 35 0), (.int 4 0), (.ref 173)]), #[]⟩
def o157 (P : Params) : Obj := ⟨(.type "code"), none, (.fields #[(.str (S "NoPath") 386), (.str (S "NoPath") 387), (.str (S "/claim/cut.py") 388), (.int 33 0), (.int 0 0), (.int 0 0), (.int 0 0), (.int 0 0), (.ref 164), (.bool false), (.int 181 0), (.ref 165), .none, .none, .none, .none, (.int 389 0), (.int 33 0), (.str (S "/claim/cut.py") 390)]), #[]⟩
def o158 (P : Params) : Obj := ⟨(.type "frame"), none, .plain, #[(some (.ref 166)), (some (.ref 3)), (some (.ref 163)), none, (some (.str (S "meettasks.errors") 187)), none, (some (.ref 0))]⟩
def o159 (P : Params) : Obj := ⟨(.type "tuple"), none, (.seq #[] 0), #[]⟩
def o160 (P : Params) : Obj := ⟨.none, none, (.fields #[]), #[]⟩
def o161 (P : Params) : Obj := ⟨(.type "tuple"), none, (.seq #[(.str (S "self") 399), (.str (S "path") 400)] 0), #[]⟩
def o162 (P : Params) : Obj := ⟨(.type "tuple"), none, (.seq #[] 0), #[]⟩
def o163 (P : Params) : Obj := ⟨.none, none, (.func ⟨(S "__init__"), (S "NoPath.__init__"), (dM 9 0).params, .stmts (dM 9 0).body, (dM 9 0).scope, 0, [], .none, .none, .none, .none, none, .none, .none, 0⟩), #[]⟩
def o164 (P : Params) : Obj := ⟨(.type "code"), none, (.fields #[(.str (S "__init__") 396), (.str (S "NoPath.__init__") 397), (.str (S "/claim/cut.py") 398), (.int 35 0), (.int 2 0), (.int 0 0), (.int 0 0), (.int 3 0), (.ref 168), (.bool true), (.int 181 0), (.ref 169), .none, (.ref 170), (.ref 171), (.ref 172), (.int 401 0), (.int 35 0), (.str (S "/claim/cut.py") 402)]), #[]⟩
def o165 (P : Params) : Obj := ⟨(.type "function"), none, (.func ⟨(S "__init__"), (S "NoPath.__init__"), (dM 9 0).params, .stmts (dM 9 0).body, (dM 9 0).scope, 3, [], .none, .none, .none, (.str (S "meettasks.errors") 187), none, (.ref 173), .none, 0⟩), #[]⟩
def o166 (P : Params) : Obj := ⟨(.type "tuple"), none, (.seq #[(.str (S "path") 404)] 0), #[]⟩
def o167 (P : Params) : Obj := ⟨(.type "dict"), none, (.dict #[E P "__module__" 391 (.str (S "meettasks.errors") 187), E P "__firstlineno__" 395 (.int 33 394), E P "__init__" 403 (.ref 174), E P "__static_attributes__" 405 (.ref 175), E P "__doc__" 406 .none] 2), #[]⟩
def o168 (P : Params) : Obj := ⟨(.type "type"), none, (.cls ⟨(S "NoPath"), [(.ref 24)], [(.ref 177), (.ref 24), (.type "ValueError"), (.type "Exception"), (.type "BaseException"), (.type "object")], 176, (S "NoPath"), true, [], [], false, none, false⟩), #[(some (.ref 161)), none, (some (.str (S "NoPath") 384)), (some (.str (S "NoPath") 392)), (some (.builtin "ValueError.__new__")), (some (.bool true))]⟩
def o169 (P : Params) : Obj := ⟨(.type "super"), none, (.fields #[(.ref 177), (.ref 177), (.ref 177)]), #[]⟩
def o170 (P : Params) : Obj := ⟨(.type "builtin_function_or_method"), none, (.fields #[(.builtin "object.__init_subclass__"), (.ref 177)]), #[]⟩
def o171 (P : Params) : Obj := ⟨(.type "tuple"), none, (.seq #[(.ref 24)] 0), #[]⟩
def o172 (P : Params) : Obj := ⟨(.type "builtin_function_or_method"), none, (.fields #[(.builtin "type.__prepare__"), (.type "type")]), #[]⟩
def o173 (P : Params) : Obj := ⟨(.type "dict"), none, (.dict #[E P "__module__" 416 (.str (S "meettasks.errors") 187), E P "__qualname__" 418 (.str (S "NoThing") 417), E P "__firstlineno__" 420 (.int 37 419), E P "__init__" 428 (.ref 193), E P "__static_attributes__" 430 (.ref 194)] 5), #[]⟩
def o174 (P : Params) : Obj := ⟨(.type "tuple"), none, (.seq #[] 0), #[]⟩
def o175 (P : Params) : Obj := ⟨.none, none, (.fields #[(.int 39 0), (.int 4 0), (.ref 192)]), #[]⟩
def o176 (P : Params) : Obj := ⟨(.type "code"), none, (.fields #[(.str (S "NoThing") 411), (.str (S "NoThing") 412), (.str (S "/claim/cut.py") 413), (.int 37 0), (.int 0 0), (.int 0 0), (.int 0 0), (.int 0 0), (.ref 183), (.bool false), (.int 181 0), (.ref 184), .none, .none, .none, .none, (.int 414 0), (.int 37 0), (.str (S "/claim/cut.py") 415)]), #[]⟩
def o177 (P : Params) : Obj := ⟨(.type "frame"), none, .plain, #[(some (.ref 185)), (some (.ref 3)), (some (.ref 182)), none, (some (.str (S "meettasks.errors") 187)), none, (some (.ref 0))]⟩
def o178 (P : Params) : Obj := ⟨(.type "tuple"), none, (.seq #[] 0), #[]⟩
def o179 (P : Params) : Obj := ⟨.none, none, (.fields #[]), #[]⟩
def o180 (P : Params) : Obj := ⟨(.type "tuple"), none, (.seq #[(.str (S "self") 424), (.str (S "thing") 425)] 0), #[]⟩
def o181 (P : Params) : Obj := ⟨(.type "tuple"), none, (.seq #[] 0), #[]⟩
def o182 (P : Params) : Obj := ⟨.none, none, (.func ⟨(S "__init__"), (S "NoThing.__init__"), (dM 10 0).params, .stmts (dM 10 0).body, (dM 10 0).scope, 0, [], .none, .none, .none, .none, none, .none, .none, 0⟩), #[]⟩
def o183 (P : Params) : Obj := ⟨(.type "code"), none, (.fields #[(.str (S "__init__") 421), (.str (S "NoThing.__init__") 422), (.str (S "/claim/cut.py") 423), (.int 39 0), (.int 2 0), (.int 0 0), (.int 0 0), (.int 3 0), (.ref 187), (.bool true), (.int 181 0), (.ref 188), .none, (.ref 189), (.ref 190), (.ref 191), (.int 426 0), (.int 39 0), (.str (S "/claim/cut.py") 427)]), #[]⟩
def o184 (P : Params) : Obj := ⟨(.type "function"), none, (.func ⟨(S "__init__"), (S "NoThing.__init__"), (dM 10 0).params, .stmts (dM 10 0).body, (dM 10 0).scope, 3, [], .none, .none, .none, (.str (S "meettasks.errors") 187), none, (.ref 192), .none, 0⟩), #[]⟩
def o185 (P : Params) : Obj := ⟨(.type "tuple"), none, (.seq #[(.str (S "thing") 429)] 0), #[]⟩
def o186 (P : Params) : Obj := ⟨(.type "dict"), none, (.dict #[E P "__module__" 416 (.str (S "meettasks.errors") 187), E P "__firstlineno__" 420 (.int 37 419), E P "__init__" 428 (.ref 193), E P "__static_attributes__" 430 (.ref 194), E P "__doc__" 431 .none] 2), #[]⟩
def o187 (P : Params) : Obj := ⟨(.type "type"), none, (.cls ⟨(S "NoThing"), [(.ref 24)], [(.ref 196), (.ref 24), (.type "ValueError"), (.type "Exception"), (.type "BaseException"), (.type "object")], 195, (S "NoThing"), true, [], [], false, none, false⟩), #[(some (.ref 180)), none, (some (.str (S "NoThing") 409)), (some (.str (S "NoThing") 417)), (some (.builtin "ValueError.__new__")), (some (.bool true))]⟩
def o188 (P : Params) : Obj := ⟨(.type "super"), none, (.fields #[(.ref 196), (.ref 196), (.ref 196)]), #[]⟩
def o189 (P : Params) : Obj := ⟨(.type "builtin_function_or_method"), none, (.fields #[(.builtin "object.__init_subclass__"), (.ref 196)]), #[]⟩
def o190 (P : Params) : Obj := ⟨(.type "tuple"), none, (.seq #[(.ref 24)] 0), #[]⟩
def o191 (P : Params) : Obj := ⟨(.type "builtin_function_or_method"), none, (.fields #[(.builtin "type.__prepare__"), (.type "type")]), #[]⟩
def o192 (P : Params) : Obj := ⟨(.type "dict"), none, (.dict #[E P "__module__" 441 (.str (S "meettasks.errors") 187), E P "__qualname__" 443 (.str (S "BadOrder") 442), E P "__firstlineno__" 445 (.int 41 444), E P "__init__" 453 (.ref 212), E P "__static_attributes__" 455 (.ref 213)] 5), #[]⟩
def o193 (P : Params) : Obj := ⟨(.type "tuple"), none, (.seq #[] 0), #[]⟩
def o194 (P : Params) : Obj := ⟨.none, none, (.fields #[(.int 43 0), (.int 4 0), (.ref 211)]), #[]⟩
def o195 (P : Params) : Obj := ⟨(.type "code"), none, (.fields #[(.str (S "BadOrder") 436), (.str (S "BadOrder") 437), (.str (S "/claim/cut.py") 438), (.int 41 0), (.int 0 0), (.int 0 0), (.int 0 0), (.int 0 0), (.ref 202), (.bool false), (.int 181 0), (.ref 203), .none, .none, .none, .none, (.int 439 0), (.int 41 0), (.str (S "/claim/cut.py") 440)]), #[]⟩
def o196 (P : Params) : Obj := ⟨(.type "frame"), none, .plain, #[(some (.ref 204)), (some (.ref 3)), (some (.ref 201)), none, (some (.str (S "meettasks.errors") 187)), none, (some (.ref 0))]⟩
def o197 (P : Params) : Obj := ⟨(.type "tuple"), none, (.seq #[] 0), #[]⟩
def o198 (P : Params) : Obj := ⟨.none, none, (.fields #[]), #[]⟩
def o199 (P : Params) : Obj := ⟨(.type "tuple"), none, (.seq #[(.str (S "self") 449), (.str (S "index") 450)] 0), #[]⟩
def o200 (P : Params) : Obj := ⟨(.type "tuple"), none, (.seq #[] 0), #[]⟩
def o201 (P : Params) : Obj := ⟨.none, none, (.func ⟨(S "__init__"), (S "BadOrder.__init__"), (dM 11 0).params, .stmts (dM 11 0).body, (dM 11 0).scope, 0, [], .none, .none, .none, .none, none, .none, .none, 0⟩), #[]⟩
def o202 (P : Params) : Obj := ⟨(.type "code"), none, (.fields #[(.str (S "__init__") 446), (.str (S "BadOrder.__init__") 447), (.str (S "/claim/cut.py") 448), (.int 43 0), (.int 2 0), (.int 0 0), (.int 0 0), (.int 3 0), (.ref 206), (.bool true), (.int 181 0), (.ref 207), .none, (.ref 208), (.ref 209), (.ref 210), (.int 451 0), (.int 43 0), (.str (S "/claim/cut.py") 452)]), #[]⟩
def o203 (P : Params) : Obj := ⟨(.type "function"), none, (.func ⟨(S "__init__"), (S "BadOrder.__init__"), (dM 11 0).params, .stmts (dM 11 0).body, (dM 11 0).scope, 3, [], .none, .none, .none, (.str (S "meettasks.errors") 187), none, (.ref 211), .none, 0⟩), #[]⟩
def o204 (P : Params) : Obj := ⟨(.type "tuple"), none, (.seq #[(.str (S "index") 454)] 0), #[]⟩
def o205 (P : Params) : Obj := ⟨(.type "dict"), none, (.dict #[E P "__module__" 441 (.str (S "meettasks.errors") 187), E P "__firstlineno__" 445 (.int 41 444), E P "__init__" 453 (.ref 212), E P "__static_attributes__" 455 (.ref 213), E P "__doc__" 456 .none] 2), #[]⟩
def o206 (P : Params) : Obj := ⟨(.type "type"), none, (.cls ⟨(S "BadOrder"), [(.ref 24)], [(.ref 215), (.ref 24), (.type "ValueError"), (.type "Exception"), (.type "BaseException"), (.type "object")], 214, (S "BadOrder"), true, [], [], false, none, false⟩), #[(some (.ref 199)), none, (some (.str (S "BadOrder") 434)), (some (.str (S "BadOrder") 442)), (some (.builtin "ValueError.__new__")), (some (.bool true))]⟩
def o207 (P : Params) : Obj := ⟨(.type "super"), none, (.fields #[(.ref 215), (.ref 215), (.ref 215)]), #[]⟩
def o208 (P : Params) : Obj := ⟨(.type "builtin_function_or_method"), none, (.fields #[(.builtin "object.__init_subclass__"), (.ref 215)]), #[]⟩
def o209 (P : Params) : Obj := ⟨(.type "tuple"), none, (.seq #[(.ref 24)] 0), #[]⟩
def o210 (P : Params) : Obj := ⟨(.type "builtin_function_or_method"), none, (.fields #[(.builtin "type.__prepare__"), (.type "type")]), #[]⟩
def o211 (P : Params) : Obj := ⟨(.type "dict"), none, (.dict #[E P "__module__" 466 (.str (S "meettasks.errors") 187), E P "__qualname__" 468 (.str (S "NoStand") 467), E P "__firstlineno__" 470 (.int 45 469), E P "__init__" 478 (.ref 231), E P "__static_attributes__" 480 (.ref 232)] 5), #[]⟩
def o212 (P : Params) : Obj := ⟨(.type "tuple"), none, (.seq #[] 0), #[]⟩
def o213 (P : Params) : Obj := ⟨.none, none, (.fields #[(.int 47 0), (.int 4 0), (.ref 230)]), #[]⟩
def o214 (P : Params) : Obj := ⟨(.type "code"), none, (.fields #[(.str (S "NoStand") 461), (.str (S "NoStand") 462), (.str (S "/claim/cut.py") 463), (.int 45 0), (.int 0 0), (.int 0 0), (.int 0 0), (.int 0 0), (.ref 221), (.bool false), (.int 181 0), (.ref 222), .none, .none, .none, .none, (.int 464 0), (.int 45 0), (.str (S "/claim/cut.py") 465)]), #[]⟩
def o215 (P : Params) : Obj := ⟨(.type "frame"), none, .plain, #[(some (.ref 223)), (some (.ref 3)), (some (.ref 220)), none, (some (.str (S "meettasks.errors") 187)), none, (some (.ref 0))]⟩
def o216 (P : Params) : Obj := ⟨(.type "tuple"), none, (.seq #[] 0), #[]⟩
def o217 (P : Params) : Obj := ⟨.none, none, (.fields #[]), #[]⟩
def o218 (P : Params) : Obj := ⟨(.type "tuple"), none, (.seq #[(.str (S "self") 474), (.str (S "number") 475)] 0), #[]⟩
def o219 (P : Params) : Obj := ⟨(.type "tuple"), none, (.seq #[] 0), #[]⟩
def o220 (P : Params) : Obj := ⟨.none, none, (.func ⟨(S "__init__"), (S "NoStand.__init__"), (dM 12 0).params, .stmts (dM 12 0).body, (dM 12 0).scope, 0, [], .none, .none, .none, .none, none, .none, .none, 0⟩), #[]⟩
def o221 (P : Params) : Obj := ⟨(.type "code"), none, (.fields #[(.str (S "__init__") 471), (.str (S "NoStand.__init__") 472), (.str (S "/claim/cut.py") 473), (.int 47 0), (.int 2 0), (.int 0 0), (.int 0 0), (.int 3 0), (.ref 225), (.bool true), (.int 181 0), (.ref 226), .none, (.ref 227), (.ref 228), (.ref 229), (.int 476 0), (.int 47 0), (.str (S "/claim/cut.py") 477)]), #[]⟩
def o222 (P : Params) : Obj := ⟨(.type "function"), none, (.func ⟨(S "__init__"), (S "NoStand.__init__"), (dM 12 0).params, .stmts (dM 12 0).body, (dM 12 0).scope, 3, [], .none, .none, .none, (.str (S "meettasks.errors") 187), none, (.ref 230), .none, 0⟩), #[]⟩
def o223 (P : Params) : Obj := ⟨(.type "tuple"), none, (.seq #[(.str (S "number") 479)] 0), #[]⟩
def o224 (P : Params) : Obj := ⟨(.type "dict"), none, (.dict #[E P "__module__" 466 (.str (S "meettasks.errors") 187), E P "__firstlineno__" 470 (.int 45 469), E P "__init__" 478 (.ref 231), E P "__static_attributes__" 480 (.ref 232), E P "__doc__" 481 .none] 2), #[]⟩
def o225 (P : Params) : Obj := ⟨(.type "type"), none, (.cls ⟨(S "NoStand"), [(.ref 24)], [(.ref 234), (.ref 24), (.type "ValueError"), (.type "Exception"), (.type "BaseException"), (.type "object")], 233, (S "NoStand"), true, [], [], false, none, false⟩), #[(some (.ref 218)), none, (some (.str (S "NoStand") 459)), (some (.str (S "NoStand") 467)), (some (.builtin "ValueError.__new__")), (some (.bool true))]⟩
def o226 (P : Params) : Obj := ⟨(.type "super"), none, (.fields #[(.ref 234), (.ref 234), (.ref 234)]), #[]⟩
def o227 (P : Params) : Obj := ⟨(.type "builtin_function_or_method"), none, (.fields #[(.builtin "object.__init_subclass__"), (.ref 234)]), #[]⟩
def o228 (P : Params) : Obj := ⟨(.type "tuple"), none, (.seq #[(.ref 24)] 0), #[]⟩
def o229 (P : Params) : Obj := ⟨(.type "builtin_function_or_method"), none, (.fields #[(.builtin "type.__prepare__"), (.type "type")]), #[]⟩
def o230 (P : Params) : Obj := ⟨(.type "dict"), none, (.dict #[E P "__module__" 491 (.str (S "meettasks.errors") 187), E P "__qualname__" 493 (.str (S "BadSpots") 492), E P "__firstlineno__" 495 (.int 49 494), E P "__init__" 503 (.ref 250), E P "__static_attributes__" 505 (.ref 251)] 5), #[]⟩
def o231 (P : Params) : Obj := ⟨(.type "tuple"), none, (.seq #[] 0), #[]⟩
def o232 (P : Params) : Obj := ⟨.none, none, (.fields #[(.int 51 0), (.int 4 0), (.ref 249)]), #[]⟩
def o233 (P : Params) : Obj := ⟨(.type "code"), none, (.fields #[(.str (S "BadSpots") 486), (.str (S "BadSpots") 487), (.str (S "/claim/cut.py") 488), (.int 49 0), (.int 0 0), (.int 0 0), (.int 0 0), (.int 0 0), (.ref 240), (.bool false), (.int 181 0), (.ref 241), .none, .none, .none, .none, (.int 489 0), (.int 49 0), (.str (S "/claim/cut.py") 490)]), #[]⟩
def o234 (P : Params) : Obj := ⟨(.type "frame"), none, .plain, #[(some (.ref 242)), (some (.ref 3)), (some (.ref 239)), none, (some (.str (S "meettasks.errors") 187)), none, (some (.ref 0))]⟩
def o235 (P : Params) : Obj := ⟨(.type "tuple"), none, (.seq #[] 0), #[]⟩
def o236 (P : Params) : Obj := ⟨.none, none, (.fields #[]), #[]⟩
def o237 (P : Params) : Obj := ⟨(.type "tuple"), none, (.seq #[(.str (S "self") 499), (.str (S "thing") 500)] 0), #[]⟩
def o238 (P : Params) : Obj := ⟨(.type "tuple"), none, (.seq #[] 0), #[]⟩
def o239 (P : Params) : Obj := ⟨.none, none, (.func ⟨(S "__init__"), (S "BadSpots.__init__"), (dM 13 0).params, .stmts (dM 13 0).body, (dM 13 0).scope, 0, [], .none, .none, .none, .none, none, .none, .none, 0⟩), #[]⟩
def o240 (P : Params) : Obj := ⟨(.type "code"), none, (.fields #[(.str (S "__init__") 496), (.str (S "BadSpots.__init__") 497), (.str (S "/claim/cut.py") 498), (.int 51 0), (.int 2 0), (.int 0 0), (.int 0 0), (.int 3 0), (.ref 244), (.bool true), (.int 181 0), (.ref 245), .none, (.ref 246), (.ref 247), (.ref 248), (.int 501 0), (.int 51 0), (.str (S "/claim/cut.py") 502)]), #[]⟩
def o241 (P : Params) : Obj := ⟨(.type "function"), none, (.func ⟨(S "__init__"), (S "BadSpots.__init__"), (dM 13 0).params, .stmts (dM 13 0).body, (dM 13 0).scope, 3, [], .none, .none, .none, (.str (S "meettasks.errors") 187), none, (.ref 249), .none, 0⟩), #[]⟩
def o242 (P : Params) : Obj := ⟨(.type "tuple"), none, (.seq #[(.str (S "thing") 504)] 0), #[]⟩
def o243 (P : Params) : Obj := ⟨(.type "dict"), none, (.dict #[E P "__module__" 491 (.str (S "meettasks.errors") 187), E P "__firstlineno__" 495 (.int 49 494), E P "__init__" 503 (.ref 250), E P "__static_attributes__" 505 (.ref 251), E P "__doc__" 506 .none] 2), #[]⟩
def o244 (P : Params) : Obj := ⟨(.type "type"), none, (.cls ⟨(S "BadSpots"), [(.ref 24)], [(.ref 253), (.ref 24), (.type "ValueError"), (.type "Exception"), (.type "BaseException"), (.type "object")], 252, (S "BadSpots"), true, [], [], false, none, false⟩), #[(some (.ref 237)), none, (some (.str (S "BadSpots") 484)), (some (.str (S "BadSpots") 492)), (some (.builtin "ValueError.__new__")), (some (.bool true))]⟩
def o245 (P : Params) : Obj := ⟨(.type "super"), none, (.fields #[(.ref 253), (.ref 253), (.ref 253)]), #[]⟩
def o246 (P : Params) : Obj := ⟨(.type "builtin_function_or_method"), none, (.fields #[(.builtin "object.__init_subclass__"), (.ref 253)]), #[]⟩
def o247 (P : Params) : Obj := ⟨(.type "tuple"), none, (.seq #[(.ref 24)] 0), #[]⟩
def o248 (P : Params) : Obj := ⟨(.type "builtin_function_or_method"), none, (.fields #[(.builtin "type.__prepare__"), (.type "type")]), #[]⟩
def o249 (P : Params) : Obj := ⟨(.type "dict"), none, (.dict #[E P "__module__" 516 (.str (S "meettasks.errors") 187), E P "__qualname__" 518 (.str (S "Endless") 517), E P "__firstlineno__" 520 (.int 53 519), E P "__init__" 528 (.ref 269), E P "__static_attributes__" 530 (.ref 270)] 5), #[]⟩
def o250 (P : Params) : Obj := ⟨(.type "tuple"), none, (.seq #[] 0), #[]⟩
def o251 (P : Params) : Obj := ⟨.none, none, (.fields #[(.int 55 0), (.int 4 0), (.ref 268)]), #[]⟩
def o252 (P : Params) : Obj := ⟨(.type "code"), none, (.fields #[(.str (S "Endless") 511), (.str (S "Endless") 512), (.str (S "/claim/cut.py") 513), (.int 53 0), (.int 0 0), (.int 0 0), (.int 0 0), (.int 0 0), (.ref 259), (.bool false), (.int 181 0), (.ref 260), .none, .none, .none, .none, (.int 514 0), (.int 53 0), (.str (S "/claim/cut.py") 515)]), #[]⟩
def o253 (P : Params) : Obj := ⟨(.type "frame"), none, .plain, #[(some (.ref 261)), (some (.ref 3)), (some (.ref 258)), none, (some (.str (S "meettasks.errors") 187)), none, (some (.ref 0))]⟩
def o254 (P : Params) : Obj := ⟨(.type "tuple"), none, (.seq #[] 0), #[]⟩
def o255 (P : Params) : Obj := ⟨.none, none, (.fields #[]), #[]⟩
def o256 (P : Params) : Obj := ⟨(.type "tuple"), none, (.seq #[(.str (S "self") 524), (.str (S "order") 525)] 0), #[]⟩
def o257 (P : Params) : Obj := ⟨(.type "tuple"), none, (.seq #[] 0), #[]⟩
def o258 (P : Params) : Obj := ⟨.none, none, (.func ⟨(S "__init__"), (S "Endless.__init__"), (dM 14 0).params, .stmts (dM 14 0).body, (dM 14 0).scope, 0, [], .none, .none, .none, .none, none, .none, .none, 0⟩), #[]⟩
def o259 (P : Params) : Obj := ⟨(.type "code"), none, (.fields #[(.str (S "__init__") 521), (.str (S "Endless.__init__") 522), (.str (S "/claim/cut.py") 523), (.int 55 0), (.int 2 0), (.int 0 0), (.int 0 0), (.int 3 0), (.ref 263), (.bool true), (.int 181 0), (.ref 264), .none, (.ref 265), (.ref 266), (.ref 267), (.int 526 0), (.int 55 0), (.str (S "/claim/cut.py") 527)]), #[]⟩
def o260 (P : Params) : Obj := ⟨(.type "function"), none, (.func ⟨(S "__init__"), (S "Endless.__init__"), (dM 14 0).params, .stmts (dM 14 0).body, (dM 14 0).scope, 3, [], .none, .none, .none, (.str (S "meettasks.errors") 187), none, (.ref 268), .none, 0⟩), #[]⟩
def o261 (P : Params) : Obj := ⟨(.type "tuple"), none, (.seq #[(.str (S "order") 529)] 0), #[]⟩
def o262 (P : Params) : Obj := ⟨(.type "dict"), none, (.dict #[E P "__module__" 516 (.str (S "meettasks.errors") 187), E P "__firstlineno__" 520 (.int 53 519), E P "__init__" 528 (.ref 269), E P "__static_attributes__" 530 (.ref 270), E P "__doc__" 531 .none] 2), #[]⟩
def o263 (P : Params) : Obj := ⟨(.type "type"), none, (.cls ⟨(S "Endless"), [(.ref 24)], [(.ref 272), (.ref 24), (.type "ValueError"), (.type "Exception"), (.type "BaseException"), (.type "object")], 271, (S "Endless"), true, [], [], false, none, false⟩), #[(some (.ref 256)), none, (some (.str (S "Endless") 509)), (some (.str (S "Endless") 517)), (some (.builtin "ValueError.__new__")), (some (.bool true))]⟩
def o264 (P : Params) : Obj := ⟨(.type "super"), none, (.fields #[(.ref 272), (.ref 272), (.ref 272)]), #[]⟩
def o265 (P : Params) : Obj := ⟨(.type "builtin_function_or_method"), none, (.fields #[(.builtin "object.__init_subclass__"), (.ref 272)]), #[]⟩
def o266 (P : Params) : Obj := ⟨(.type "tuple"), none, (.seq #[(.ref 24)] 0), #[]⟩
def o267 (P : Params) : Obj := ⟨(.type "builtin_function_or_method"), none, (.fields #[(.builtin "type.__prepare__"), (.type "type")]), #[]⟩
def o268 (P : Params) : Obj := ⟨(.type "dict"), none, (.dict #[E P "__module__" 541 (.str (S "meettasks.errors") 187), E P "__qualname__" 543 (.str (S "BadEvents") 542), E P "__firstlineno__" 545 (.int 57 544), E P "__init__" 553 (.ref 288), E P "__static_attributes__" 555 (.ref 289)] 5), #[]⟩
def o269 (P : Params) : Obj := ⟨(.type "tuple"), none, (.seq #[] 0), #[]⟩
def o270 (P : Params) : Obj := ⟨.none, none, (.fields #[(.int 59 0), (.int 4 0), (.ref 287)]), #[]⟩
def o271 (P : Params) : Obj := ⟨(.type "code"), none, (.fields #[(.str (S "BadEvents") 536), (.str (S "BadEvents") 537), (.str (S "/claim/cut.py") 538), (.int 57 0), (.int 0 0), (.int 0 0), (.int 0 0), (.int 0 0), (.ref 278), (.bool false), (.int 181 0), (.ref 279), .none, .none, .none, .none, (.int 539 0), (.int 57 0), (.str (S "/claim/cut.py") 540)]), #[]⟩
def o272 (P : Params) : Obj := ⟨(.type "frame"), none, .plain, #[(some (.ref 280)), (some (.ref 3)), (some (.ref 277)), none, (some (.str (S "meettasks.errors") 187)), none, (some (.ref 0))]⟩
def o273 (P : Params) : Obj := ⟨(.type "tuple"), none, (.seq #[] 0), #[]⟩
def o274 (P : Params) : Obj := ⟨.none, none, (.fields #[]), #[]⟩
def o275 (P : Params) : Obj := ⟨(.type "tuple"), none, (.seq #[(.str (S "self") 549), (.str (S "thing") 550)] 0), #[]⟩
def o276 (P : Params) : Obj := ⟨(.type "tuple"), none, (.seq #[] 0), #[]⟩
def o277 (P : Params) : Obj := ⟨.none, none, (.func ⟨(S "__init__"), (S "BadEvents.__init__"), (dM 15 0).params, .stmts (dM 15 0).body, (dM 15 0).scope, 0, [], .none, .none, .none, .none, none, .none, .none, 0⟩), #[]⟩
def o278 (P : Params) : Obj := ⟨(.type "code"), none, (.fields #[(.str (S "__init__") 546), (.str (S "BadEvents.__init__") 547), (.str (S "/claim/cut.py") 548), (.int 59 0), (.int 2 0), (.int 0 0), (.int 0 0), (.int 3 0), (.ref 282), (.bool true), (.int 181 0), (.ref 283), .none, (.ref 284), (.ref 285), (.ref 286), (.int 551 0), (.int 59 0), (.str (S "/claim/cut.py") 552)]), #[]⟩
def o279 (P : Params) : Obj := ⟨(.type "function"), none, (.func ⟨(S "__init__"), (S "BadEvents.__init__"), (dM 15 0).params, .stmts (dM 15 0).body, (dM 15 0).scope, 3, [], .none, .none, .none, (.str (S "meettasks.errors") 187), none, (.ref 287), .none, 0⟩), #[]⟩
def o280 (P : Params) : Obj := ⟨(.type "tuple"), none, (.seq #[(.str (S "thing") 554)] 0), #[]⟩
def o281 (P : Params) : Obj := ⟨(.type "dict"), none, (.dict #[E P "__module__" 541 (.str (S "meettasks.errors") 187), E P "__firstlineno__" 545 (.int 57 544), E P "__init__" 553 (.ref 288), E P "__static_attributes__" 555 (.ref 289), E P "__doc__" 556 .none] 2), #[]⟩
def o282 (P : Params) : Obj := ⟨(.type "type"), none, (.cls ⟨(S "BadEvents"), [(.ref 24)], [(.ref 291), (.ref 24), (.type "ValueError"), (.type "Exception"), (.type "BaseException"), (.type "object")], 290, (S "BadEvents"), true, [], [], false, none, false⟩), #[(some (.ref 275)), none, (some (.str (S "BadEvents") 534)), (some (.str (S "BadEvents") 542)), (some (.builtin "ValueError.__new__")), (some (.bool true))]⟩
def o283 (P : Params) : Obj := ⟨(.type "super"), none, (.fields #[(.ref 291), (.ref 291), (.ref 291)]), #[]⟩
def o284 (P : Params) : Obj := ⟨(.type "builtin_function_or_method"), none, (.fields #[(.builtin "object.__init_subclass__"), (.ref 291)]), #[]⟩
def o285 (P : Params) : Obj := ⟨(.type "tuple"), none, (.seq #[(.ref 24)] 0), #[]⟩
def o286 (P : Params) : Obj := ⟨(.type "builtin_function_or_method"), none, (.fields #[(.builtin "type.__prepare__"), (.type "type")]), #[]⟩
def o287 (P : Params) : Obj := ⟨(.type "dict"), none, (.dict #[E P "__module__" 566 (.str (S "meettasks.errors") 187), E P "__qualname__" 568 (.str (S "NoDeed") 567), E P "__firstlineno__" 570 (.int 61 569), E P "__init__" 578 (.ref 307), E P "__static_attributes__" 580 (.ref 308)] 5), #[]⟩
def o288 (P : Params) : Obj := ⟨(.type "tuple"), none, (.seq #[] 0), #[]⟩
def o289 (P : Params) : Obj := ⟨.none, none, (.fields #[(.int 63 0), (.int 4 0), (.ref 306)]), #[]⟩
def o290 (P : Params) : Obj := ⟨(.type "code"), none, (.fields #[(.str (S "NoDeed") 561), (.str (S "NoDeed") 562), (.str (S "/claim/cut.py") 563), (.int 61 0), (.int 0 0), (.int 0 0), (.int 0 0), (.int 0 0), (.ref 297), (.bool false), (.int 181 0), (.ref 298), .none, .none, .none, .none, (.int 564 0), (.int 61 0), (.str (S "/claim/cut.py") 565)]), #[]⟩
def o291 (P : Params) : Obj := ⟨(.type "frame"), none, .plain, #[(some (.ref 299)), (some (.ref 3)), (some (.ref 296)), none, (some (.str (S "meettasks.errors") 187)), none, (some (.ref 0))]⟩
def o292 (P : Params) : Obj := ⟨(.type "tuple"), none, (.seq #[] 0), #[]⟩
def o293 (P : Params) : Obj := ⟨.none, none, (.fields #[]), #[]⟩
def o294 (P : Params) : Obj := ⟨(.type "tuple"), none, (.seq #[(.str (S "self") 574), (.str (S "thing") 575)] 0), #[]⟩
def o295 (P : Params) : Obj := ⟨(.type "tuple"), none, (.seq #[] 0), #[]⟩
def o296 (P : Params) : Obj := ⟨.none, none, (.func ⟨(S "__init__"), (S "NoDeed.__init__"), (dM 16 0).params, .stmts (dM 16 0).body, (dM 16 0).scope, 0, [], .none, .none, .none, .none, none, .none, .none, 0⟩), #[]⟩
def o297 (P : Params) : Obj := ⟨(.type "code"), none, (.fields #[(.str (S "__init__") 571), (.str (S "NoDeed.__init__") 572), (.str (S "/claim/cut.py") 573), (.int 63 0), (.int 2 0), (.int 0 0), (.int 0 0), (.int 3 0), (.ref 301), (.bool true), (.int 181 0), (.ref 302), .none, (.ref 303), (.ref 304), (.ref 305), (.int 576 0), (.int 63 0), (.str (S "/claim/cut.py") 577)]), #[]⟩
def o298 (P : Params) : Obj := ⟨(.type "function"), none, (.func ⟨(S "__init__"), (S "NoDeed.__init__"), (dM 16 0).params, .stmts (dM 16 0).body, (dM 16 0).scope, 3, [], .none, .none, .none, (.str (S "meettasks.errors") 187), none, (.ref 306), .none, 0⟩), #[]⟩
def o299 (P : Params) : Obj := ⟨(.type "tuple"), none, (.seq #[(.str (S "thing") 579)] 0), #[]⟩
def o300 (P : Params) : Obj := ⟨(.type "dict"), none, (.dict #[E P "__module__" 566 (.str (S "meettasks.errors") 187), E P "__firstlineno__" 570 (.int 61 569), E P "__init__" 578 (.ref 307), E P "__static_attributes__" 580 (.ref 308), E P "__doc__" 581 .none] 2), #[]⟩
def o301 (P : Params) : Obj := ⟨(.type "type"), none, (.cls ⟨(S "NoDeed"), [(.ref 24)], [(.ref 310), (.ref 24), (.type "ValueError"), (.type "Exception"), (.type "BaseException"), (.type "object")], 309, (S "NoDeed"), true, [], [], false, none, false⟩), #[(some (.ref 294)), none, (some (.str (S "NoDeed") 559)), (some (.str (S "NoDeed") 567)), (some (.builtin "ValueError.__new__")), (some (.bool true))]⟩
def o302 (P : Params) : Obj := ⟨(.type "super"), none, (.fields #[(.ref 310), (.ref 310), (.ref 310)]), #[]⟩
def o303 (P : Params) : Obj := ⟨(.type "builtin_function_or_method"), none, (.fields #[(.builtin "object.__init_subclass__"), (.ref 310)]), #[]⟩
def o304 (P : Params) : Obj := ⟨(.type "tuple"), none, (.seq #[(.ref 24)] 0), #[]⟩
def o305 (P : Params) : Obj := ⟨(.type "builtin_function_or_method"), none, (.fields #[(.builtin "type.__prepare__"), (.type "type")]), #[]⟩
def o306 (P : Params) : Obj := ⟨(.type "dict"), none, (.dict #[E P "__module__" 591 (.str (S "meettasks.errors") 187), E P "__qualname__" 593 (.str (S "BadStretch") 592), E P "__firstlineno__" 595 (.int 65 594), E P "__init__" 603 (.ref 326), E P "__static_attributes__" 605 (.ref 327)] 5), #[]⟩
def o307 (P : Params) : Obj := ⟨(.type "tuple"), none, (.seq #[] 0), #[]⟩
def o308 (P : Params) : Obj := ⟨.none, none, (.fields #[(.int 67 0), (.int 4 0), (.ref 325)]), #[]⟩
def o309 (P : Params) : Obj := ⟨(.type "code"), none, (.fields #[(.str (S "BadStretch") 586), (.str (S "BadStretch") 587), (.str (S "/claim/cut.py") 588), (.int 65 0), (.int 0 0), (.int 0 0), (.int 0 0), (.int 0 0), (.ref 316), (.bool false), (.int 181 0), (.ref 317), .none, .none, .none, .none, (.int 589 0), (.int 65 0), (.str (S "/claim/cut.py") 590)]), #[]⟩
def o310 (P : Params) : Obj := ⟨(.type "frame"), none, .plain, #[(some (.ref 318)), (some (.ref 3)), (some (.ref 315)), none, (some (.str (S "meettasks.errors") 187)), none, (some (.ref 0))]⟩
def o311 (P : Params) : Obj := ⟨(.type "tuple"), none, (.seq #[] 0), #[]⟩
def o312 (P : Params) : Obj := ⟨.none, none, (.fields #[]), #[]⟩
def o313 (P : Params) : Obj := ⟨(.type "tuple"), none, (.seq #[(.str (S "self") 599), (.str (S "thing") 600)] 0), #[]⟩
def o314 (P : Params) : Obj := ⟨(.type "tuple"), none, (.seq #[] 0), #[]⟩
def o315 (P : Params) : Obj := ⟨.none, none, (.func ⟨(S "__init__"), (S "BadStretch.__init__"), (dM 17 0).params, .stmts (dM 17 0).body, (dM 17 0).scope, 0, [], .none, .none, .none, .none, none, .none, .none, 0⟩), #[]⟩
def o316 (P : Params) : Obj := ⟨(.type "code"), none, (.fields #[(.str (S "__init__") 596), (.str (S "BadStretch.__init__") 597), (.str (S "/claim/cut.py") 598), (.int 67 0), (.int 2 0), (.int 0 0), (.int 0 0), (.int 3 0), (.ref 320), (.bool true), (.int 181 0), (.ref 321), .none, (.ref 322), (.ref 323), (.ref 324), (.int 601 0), (.int 67 0), (.str (S "/claim/cut.py") 602)]), #[]⟩
def o317 (P : Params) : Obj := ⟨(.type "function"), none, (.func ⟨(S "__init__"), (S "BadStretch.__init__"), (dM 17 0).params, .stmts (dM 17 0).body, (dM 17 0).scope, 3, [], .none, .none, .none, (.str (S "meettasks.errors") 187), none, (.ref 325), .none, 0⟩), #[]⟩
def o318 (P : Params) : Obj := ⟨(.type "tuple"), none, (.seq #[(.str (S "thing") 604)] 0), #[]⟩
def o319 (P : Params) : Obj := ⟨(.type "dict"), none, (.dict #[E P "__module__" 591 (.str (S "meettasks.errors") 187), E P "__firstlineno__" 595 (.int 65 594), E P "__init__" 603 (.ref 326), E P "__static_attributes__" 605 (.ref 327), E P "__doc__" 606 .none] 2), #[]⟩
def o320 (P : Params) : Obj := ⟨(.type "type"), none, (.cls ⟨(S "BadStretch"), [(.ref 24)], [(.ref 329), (.ref 24), (.type "ValueError"), (.type "Exception"), (.type "BaseException"), (.type "object")], 328, (S "BadStretch"), true, [], [], false, none, false⟩), #[(some (.ref 313)), none, (some (.str (S "BadStretch") 584)), (some (.str (S "BadStretch") 592)), (some (.builtin "ValueError.__new__")), (some (.bool true))]⟩
def o321 (P : Params) : Obj := ⟨(.type "super"), none, (.fields #[(.ref 329), (.ref 329), (.ref 329)]), #[]⟩
def o322 (P : Params) : Obj := ⟨(.type "builtin_function_or_method"), none, (.fields #[(.builtin "object.__init_subclass__"), (.ref 329)]), #[]⟩
def o323 (P : Params) : Obj := ⟨(.type "tuple"), none, (.seq #[(.ref 24)] 0), #[]⟩
def o324 (P : Params) : Obj := ⟨(.type "builtin_function_or_method"), none, (.fields #[(.builtin "type.__prepare__"), (.type "type")]), #[]⟩
def o325 (P : Params) : Obj := ⟨(.type "dict"), none, (.dict #[E P "__module__" 616 (.str (S "meettasks.errors") 187), E P "__qualname__" 618 (.str (S "BadKind") 617), E P "__firstlineno__" 620 (.int 69 619), E P "__init__" 628 (.ref 345), E P "__static_attributes__" 630 (.ref 346)] 5), #[]⟩
def o326 (P : Params) : Obj := ⟨(.type "tuple"), none, (.seq #[] 0), #[]⟩
def o327 (P : Params) : Obj := ⟨.none, none, (.fields #[(.int 71 0), (.int 4 0), (.ref 344)]), #[]⟩
def o328 (P : Params) : Obj := ⟨(.type "code"), none, (.fields #[(.str (S "BadKind") 611), (.str (S "BadKind") 612), (.str (S "/claim/cut.py") 613), (.int 69 0), (.int 0 0), (.int 0 0), (.int 0 0), (.int 0 0), (.ref 335), (.bool false), (.int 181 0), (.ref 336), .none, .none, .none, .none, (.int 614 0), (.int 69 0), (.str (S "/claim/cut.py") 615)]), #[]⟩
def o329 (P : Params) : Obj := ⟨(.type "frame"), none, .plain, #[(some (.ref 337)), (some (.ref 3)), (some (.ref 334)), none, (some (.str (S "meettasks.errors") 187)), none, (some (.ref 0))]⟩
def o330 (P : Params) : Obj := ⟨(.type "tuple"), none, (.seq #[] 0), #[]⟩
def o331 (P : Params) : Obj := ⟨.none, none, (.fields #[]), #[]⟩
def o332 (P : Params) : Obj := ⟨(.type "tuple"), none, (.seq #[(.str (S "self") 624), (.str (S "kind") 625)] 0), #[]⟩
def o333 (P : Params) : Obj := ⟨(.type "tuple"), none, (.seq #[] 0), #[]⟩
def o334 (P : Params) : Obj := ⟨.none, none, (.func ⟨(S "__init__"), (S "BadKind.__init__"), (dM 18 0).params, .stmts (dM 18 0).body, (dM 18 0).scope, 0, [], .none, .none, .none, .none, none, .none, .none, 0⟩), #[]⟩
def o335 (P : Params) : Obj := ⟨(.type "code"), none, (.fields #[(.str (S "__init__") 621), (.str (S "BadKind.__init__") 622), (.str (S "/claim/cut.py") 623), (.int 71 0), (.int 2 0), (.int 0 0), (.int 0 0), (.int 3 0), (.ref 339), (.bool true), (.int 181 0), (.ref 340), .none, (.ref 341), (.ref 342), (.ref 343), (.int 626 0), (.int 71 0), (.str (S "/claim/cut.py") 627)]), #[]⟩
def o336 (P : Params) : Obj := ⟨(.type "function"), none, (.func ⟨(S "__init__"), (S "BadKind.__init__"), (dM 18 0).params, .stmts (dM 18 0).body, (dM 18 0).scope, 3, [], .none, .none, .none, (.str (S "meettasks.errors") 187), none, (.ref 344), .none, 0⟩), #[]⟩
def o337 (P : Params) : Obj := ⟨(.type "tuple"), none, (.seq #[(.str (S "kind") 629)] 0), #[]⟩
def o338 (P : Params) : Obj := ⟨(.type "dict"), none, (.dict #[E P "__module__" 616 (.str (S "meettasks.errors") 187), E P "__firstlineno__" 620 (.int 69 619), E P "__init__" 628 (.ref 345), E P "__static_attributes__" 630 (.ref 346), E P "__doc__" 631 .none] 2), #[]⟩
def o339 (P : Params) : Obj := ⟨(.type "type"), none, (.cls ⟨(S "BadKind"), [(.ref 24)], [(.ref 348), (.ref 24), (.type "ValueError"), (.type "Exception"), (.type "BaseException"), (.type "object")], 347, (S "BadKind"), true, [], [], false, none, false⟩), #[(some (.ref 332)), none, (some (.str (S "BadKind") 609)), (some (.str (S "BadKind") 617)), (some (.builtin "ValueError.__new__")), (some (.bool true))]⟩
def o340 (P : Params) : Obj := ⟨(.type "super"), none, (.fields #[(.ref 348), (.ref 348), (.ref 348)]), #[]⟩
def o341 (P : Params) : Obj := ⟨(.type "builtin_function_or_method"), none, (.fields #[(.builtin "object.__init_subclass__"), (.ref 348)]), #[]⟩
def o342 (P : Params) : Obj := ⟨(.type "tuple"), none, (.seq #[(.ref 24)] 0), #[]⟩
def o343 (P : Params) : Obj := ⟨(.type "builtin_function_or_method"), none, (.fields #[(.builtin "type.__prepare__"), (.type "type")]), #[]⟩
def o344 (P : Params) : Obj := ⟨(.type "dict"), none, (.dict #[E P "__module__" 641 (.str (S "meettasks.errors") 187), E P "__qualname__" 643 (.str (S "BadMany") 642), E P "__firstlineno__" 645 (.int 73 644), E P "__init__" 653 (.ref 364), E P "__static_attributes__" 655 (.ref 365)] 5), #[]⟩
def o345 (P : Params) : Obj := ⟨(.type "tuple"), none, (.seq #[] 0), #[]⟩
def o346 (P : Params) : Obj := ⟨.none, none, (.fields #[(.int 75 0), (.int 4 0), (.ref 363)]), #[]⟩
def o347 (P : Params) : Obj := ⟨(.type "code"), none, (.fields #[(.str (S "BadMany") 636), (.str (S "BadMany") 637), (.str (S "/claim/cut.py") 638), (.int 73 0), (.int 0 0), (.int 0 0), (.int 0 0), (.int 0 0), (.ref 354), (.bool false), (.int 181 0), (.ref 355), .none, .none, .none, .none, (.int 639 0), (.int 73 0), (.str (S "/claim/cut.py") 640)]), #[]⟩
def o348 (P : Params) : Obj := ⟨(.type "frame"), none, .plain, #[(some (.ref 356)), (some (.ref 3)), (some (.ref 353)), none, (some (.str (S "meettasks.errors") 187)), none, (some (.ref 0))]⟩
def o349 (P : Params) : Obj := ⟨(.type "tuple"), none, (.seq #[] 0), #[]⟩
def o350 (P : Params) : Obj := ⟨.none, none, (.fields #[]), #[]⟩
def o351 (P : Params) : Obj := ⟨(.type "tuple"), none, (.seq #[(.str (S "self") 649), (.str (S "thing") 650)] 0), #[]⟩
def o352 (P : Params) : Obj := ⟨(.type "tuple"), none, (.seq #[] 0), #[]⟩
def o353 (P : Params) : Obj := ⟨.none, none, (.func ⟨(S "__init__"), (S "BadMany.__init__"), (dM 19 0).params, .stmts (dM 19 0).body, (dM 19 0).scope, 0, [], .none, .none, .none, .none, none, .none, .none, 0⟩), #[]⟩
def o354 (P : Params) : Obj := ⟨(.type "code"), none, (.fields #[(.str (S "__init__") 646), (.str (S "BadMany.__init__") 647), (.str (S "/claim/cut.py") 648), (.int 75 0), (.int 2 0), (.int 0 0), (.int 0 0), (.int 3 0), (.ref 358), (.bool true), (.int 181 0), (.ref 359), .none, (.ref 360), (.ref 361), (.ref 362), (.int 651 0), (.int 75 0), (.str (S "/claim/cut.py") 652)]), #[]⟩
def o355 (P : Params) : Obj := ⟨(.type "function"), none, (.func ⟨(S "__init__"), (S "BadMany.__init__"), (dM 19 0).params, .stmts (dM 19 0).body, (dM 19 0).scope, 3, [], .none, .none, .none, (.str (S "meettasks.errors") 187), none, (.ref 363), .none, 0⟩), #[]⟩
def o356 (P : Params) : Obj := ⟨(.type "tuple"), none, (.seq #[(.str (S "thing") 654)] 0), #[]⟩
def o357 (P : Params) : Obj := ⟨(.type "dict"), none, (.dict #[E P "__module__" 641 (.str (S "meettasks.errors") 187), E P "__firstlineno__" 645 (.int 73 644), E P "__init__" 653 (.ref 364), E P "__static_attributes__" 655 (.ref 365), E P "__doc__" 656 .none] 2), #[]⟩
def o358 (P : Params) : Obj := ⟨(.type "type"), none, (.cls ⟨(S "BadMany"), [(.ref 24)], [(.ref 367), (.ref 24), (.type "ValueError"), (.type "Exception"), (.type "BaseException"), (.type "object")], 366, (S "BadMany"), true, [], [], false, none, false⟩), #[(some (.ref 351)), none, (some (.str (S "BadMany") 634)), (some (.str (S "BadMany") 642)), (some (.builtin "ValueError.__new__")), (some (.bool true))]⟩
def o359 (P : Params) : Obj := ⟨(.type "super"), none, (.fields #[(.ref 367), (.ref 367), (.ref 367)]), #[]⟩
def o360 (P : Params) : Obj := ⟨(.type "builtin_function_or_method"), none, (.fields #[(.builtin "object.__init_subclass__"), (.ref 367)]), #[]⟩
def T1 (P : Params) : BT := (N (boot_o_0 P) (N (boot_o_1 P) (N (o4 P) (N (boot_o_7 P) (N (o6 P) (N (o22 P) (N (o54 P) (N (o118 P) (N (o246 P) e e) e) (N (o182 P) (N (o310 P) e e) e)) (N (o86 P) (N (o150 P) (N (o278 P) e e) e) (N (o214 P) (N (o342 P) e e) e))) (N (o38 P) (N (o70 P) (N (o134 P) (N (o262 P) e e) e) (N (o198 P) (N (o326 P) e e) e)) (N (o102 P) (N (o166 P) (N (o294 P) e e) e) (N (o230 P) (N (o358 P) e e) e)))) (N (o14 P) (N (o30 P) (N (o62 P) (N (o126 P) (N (o254 P) e e) e) (N (o190 P) (N (o318 P) e e) e)) (N (o94 P) (N (o158 P) (N (o286 P) e e) e) (N (o222 P) (N (o350 P) e e) e))) (N (o46 P) (N (o78 P) (N (o142 P) (N (o270 P) e e) e) (N (o206 P) (N (o334 P) e e) e)) (N (o110 P) (N (o174 P) (N (o302 P) e e) e) (N (o238 P) e e))))) (N (o0 P) (N (o10 P) (N (o26 P) (N (o58 P) (N (o122 P) (N (o250 P) e e) e) (N (o186 P) (N (o314 P) e e) e)) (N (o90 P) (N (o154 P) (N (o282 P) e e) e) (N (o218 P) (N (o346 P) e e) e))) (N (o42 P) (N (o74 P) (N (o138 P) (N (o266 P) e e) e) (N (o202 P) (N (o330 P) e e) e)) (N (o106 P) (N (o170 P) (N (o298 P) e e) e) (N (o234 P) e e)))) (N (o18 P) (N (o34 P) (N (o66 P) (N (o130 P) (N (o258 P) e e) e) (N (o194 P) (N (o322 P) e e) e)) (N (o98 P) (N (o162 P) (N (o290 P) e e) e) (N (o226 P) (N (o354 P) e e) e))) (N (o50 P) (N (o82 P) (N (o146 P) (N (o274 P) e e) e) (N (o210 P) (N (o338 P) e e) e)) (N (o114 P) (N (o178 P) (N (o306 P) e e) e) (N (o242 P) e e)))))) (N (boot_o_5 P) (N (boot_o_9 P) (N (o8 P) (N (o24 P) (N (o56 P) (N (o120 P) (N (o248 P) e e) e) (N (o184 P) (N (o312 P) e e) e)) (N (o88 P) (N (o152 P) (N (o280 P) e e) e) (N (o216 P) (N (o344 P) e e) e))) (N (o40 P) (N (o72 P) (N (o136 P) (N (o264 P) e e) e) (N (o200 P) (N (o328 P) e e) e)) (N (o104 P) (N (o168 P) (N (o296 P) e e) e) (N (o232 P) (N (o360 P) e e) e)))) (N (o16 P) (N (o32 P) (N (o64 P) (N (o128 P) (N (o256 P) e e) e) (N (o192 P) (N (o320 P) e e) e)) (N (o96 P) (N (o160 P) (N (o288 P) e e) e) (N (o224 P) (N (o352 P) e e) e))) (N (o48 P) (N (o80 P) (N (o144 P) (N (o272 P) e e) e) (N (o208 P) (N (o336 P) e e) e)) (N (o112 P) (N (o176 P) (N (o304 P) e e) e) (N (o240 P) e e))))) (N (o2 P) (N (o12 P) (N (o28 P) (N (o60 P) (N (o124 P) (N (o252 P) e e) e) (N (o188 P) (N (o316 P) e e) e)) (N (o92 P) (N (o156 P) (N (o284 P) e e) e) (N (o220 P) (N (o348 P) e e) e))) (N (o44 P) (N (o76 P) (N (o140 P) (N (o268 P) e e) e) (N (o204 P) (N (o332 P) e e) e)) (N (o108 P) (N (o172 P) (N (o300 P) e e) e) (N (o236 P) e e)))) (N (o20 P) (N (o36 P) (N (o68 P) (N (o132 P) (N (o260 P) e e) e) (N (o196 P) (N (o324 P) e e) e)) (N (o100 P) (N (o164 P) (N (o292 P) e e) e) (N (o228 P) (N (o356 P) e e) e))) (N (o52 P) (N (o84 P) (N (o148 P) (N (o276 P) e e) e) (N (o212 P) (N (o340 P) e e) e)) (N (o116 P) (N (o180 P) (N (o308 P) e e) e) (N (o244 P) e e))))))) (N (boot_o_2 P) (N (boot_o_4 P) (N (boot_o_8 P) (N (o7 P) (N (o23 P) (N (o55 P) (N (o119 P) (N (o247 P) e e) e) (N (o183 P) (N (o311 P) e e) e)) (N (o87 P) (N (o151 P) (N (o279 P) e e) e) (N (o215 P) (N (o343 P) e e) e))) (N (o39 P) (N (o71 P) (N (o135 P) (N (o263 P) e e) e) (N (o199 P) (N (o327 P) e e) e)) (N (o103 P) (N (o167 P) (N (o295 P) e e) e) (N (o231 P) (N (o359 P) e e) e)))) (N (o15 P) (N (o31 P) (N (o63 P) (N (o127 P) (N (o255 P) e e) e) (N (o191 P) (N (o319 P) e e) e)) (N (o95 P) (N (o159 P) (N (o287 P) e e) e) (N (o223 P) (N (o351 P) e e) e))) (N (o47 P) (N (o79 P) (N (o143 P) (N (o271 P) e e) e) (N (o207 P) (N (o335 P) e e) e)) (N (o111 P) (N (o175 P) (N (o303 P) e e) e) (N (o239 P) e e))))) (N (o5 P) (N (o11 P) (N (o27 P) (N (o59 P) (N (o123 P) (N (o251 P) e e) e) (N (o187 P) (N (o315 P) e e) e)) (N (o91 P) (N (o155 P) (N (o283 P) e e) e) (N (o219 P) (N (o347 P) e e) e))) (N (o43 P) (N (o75 P) (N (o139 P) (N (o267 P) e e) e) (N (o203 P) (N (o331 P) e e) e)) (N (o107 P) (N (o171 P) (N (o299 P) e e) e) (N (o235 P) e e)))) (N (o19 P) (N (o35 P) (N (o67 P) (N (o131 P) (N (o259 P) e e) e) (N (o195 P) (N (o323 P) e e) e)) (N (o99 P) (N (o163 P) (N (o291 P) e e) e) (N (o227 P) (N (o355 P) e e) e))) (N (o51 P) (N (o83 P) (N (o147 P) (N (o275 P) e e) e) (N (o211 P) (N (o339 P) e e) e)) (N (o115 P) (N (o179 P) (N (o307 P) e e) e) (N (o243 P) e e)))))) (N (boot_o_6 P) (N (boot_o_10 P) (N (o9 P) (N (o25 P) (N (o57 P) (N (o121 P) (N (o249 P) e e) e) (N (o185 P) (N (o313 P) e e) e)) (N (o89 P) (N (o153 P) (N (o281 P) e e) e) (N (o217 P) (N (o345 P) e e) e))) (N (o41 P) (N (o73 P) (N (o137 P) (N (o265 P) e e) e) (N (o201 P) (N (o329 P) e e) e)) (N (o105 P) (N (o169 P) (N (o297 P) e e) e) (N (o233 P) e e)))) (N (o17 P) (N (o33 P) (N (o65 P) (N (o129 P) (N (o257 P) e e) e) (N (o193 P) (N (o321 P) e e) e)) (N (o97 P) (N (o161 P) (N (o289 P) e e) e) (N (o225 P) (N (o353 P) e e) e))) (N (o49 P) (N (o81 P) (N (o145 P) (N (o273 P) e e) e) (N (o209 P) (N (o337 P) e e) e)) (N (o113 P) (N (o177 P) (N (o305 P) e e) e) (N (o241 P) e e))))) (N (o3 P) (N (o13 P) (N (o29 P) (N (o61 P) (N (o125 P) (N (o253 P) e e) e) (N (o189 P) (N (o317 P) e e) e)) (N (o93 P) (N (o157 P) (N (o285 P) e e) e) (N (o221 P) (N (o349 P) e e) e))) (N (o45 P) (N (o77 P) (N (o141 P) (N (o269 P) e e) e) (N (o205 P) (N (o333 P) e e) e)) (N (o109 P) (N (o173 P) (N (o301 P) e e) e) (N (o237 P) e e)))) (N (o21 P) (N (o37 P) (N (o69 P) (N (o133 P) (N (o261 P) e e) e) (N (o197 P) (N (o325 P) e e) e)) (N (o101 P) (N (o165 P) (N (o293 P) e e) e) (N (o229 P) (N (o357 P) e e) e))) (N (o53 P) (N (o85 P) (N (o149 P) (N (o277 P) e e) e) (N (o213 P) (N (o341 P) e e) e)) (N (o117 P) (N (o181 P) (N (o309 P) e e) e) (N (o245 P) e e))))))))
def S1 (w : World) (os : OsState) : SharedT := ⟨T1 w.params, 370, ⟨[], [], [], 0, [], [], false, #[], [], 0, false, false, false, 0, [2000, 10, 10], false, 0, true, [], [], 0, false⟩, #[], ⟨0, 0, 0, 0⟩, 659, os⟩
def pos1 : Pos := ⟨73, 0, 76, 26⟩
def o361 (P : Params) : Obj := ⟨(.type "dict"), none, (.dict #[E P "__name__" 165 (.str (S "meettasks.errors") 187), E P "__doc__" 166 .none, E P "__package__" 167 .none, E P "__loader__" 168 (.builtin "__main__.__loader__#opaque"), E P "__spec__" 169 .none, E P "__annotations__" 170 (.ref 6), E P "__builtins__" 171 (.ref 4), E P "__file__" 173 (.str (S "/claim/cut.py") 172), E P "__cached__" 174 .none, E P "TaskError" 206 (.ref 24), E P "BadValues" 231 (.ref 44), E P "BadStart" 256 (.ref 63), E P "BadDeeds" 281 (.ref 82), E P "BadEntries" 306 (.ref 101), E P "BadThings" 331 (.ref 120), E P "BadBody" 358 (.ref 139), E P "NoTask" 383 (.ref 158), E P "NoPath" 408 (.ref 177), E P "NoThing" 433 (.ref 196), E P "BadOrder" 458 (.ref 215), E P "NoStand" 483 (.ref 234), E P "BadSpots" 508 (.ref 253), E P "Endless" 533 (.ref 272), E P "BadEvents" 558 (.ref 291), E P "NoDeed" 583 (.ref 310), E P "BadStretch" 608 (.ref 329), E P "BadKind" 633 (.ref 348), E P "BadMany" 658 (.ref 367), E P "NotClosing" 683 (.ref 386), E P "BadTasks" 708 (.ref 405), E P "BadOffers" 733 (.ref 424), E P "BadSentence" 758 (.ref 443), E P "BadTruth" 783 (.ref 462), E P "BadMarks" 808 (.ref 481), E P "NoEntryName" 833 (.ref 500), E P "BadNames" 858 (.ref 519), E P "BadNumber" 883 (.ref 538), E P "BadCalls" 908 (.ref 557), E P "UnlikeNames" 924 (.ref 569), E P "BadServers" 951 (.ref 588), E P "BadLike" 976 (.ref 607), E P "BadWanted" 1001 (.ref 626), E P "NoSpot" 1026 (.ref 645), E P "BadStep" 1051 (.ref 664), E P "Restless" 1078 (.ref 683), E P "BadRow" 1103 (.ref 702), E P "BadLot" 1128 (.ref 721)] 47), #[]⟩
def o362 (P : Params) : Obj := ⟨.none, none, (.fields #[(.int 2 0), (.int 0 0), (.ref 20), (.int 4 0), (.int 0 0), (.ref 33), (.int 8 0), (.int 0 0), (.ref 52), (.int 12 0), (.int 0 0), (.ref 71), (.int 16 0), (.int 0 0), (.ref 90), (.int 20 0), (.int 0 0), (.ref 109), (.int 24 0), (.int 0 0), (.ref 128), (.int 29 0), (.int 0 0), (.ref 147), (.int 33 0), (.int 0 0), (.ref 166), (.int 37 0), (.int 0 0), (.ref 185), (.int 41 0), (.int 0 0), (.ref 204), (.int 45 0), (.int 0 0), (.ref 223), (.int 49 0), (.int 0 0), (.ref 242), (.int 53 0), (.int 0 0), (.ref 261), (.int 57 0), (.int 0 0), (.ref 280), (.int 61 0), (.int 0 0), (.ref 299), (.int 65 0), (.int 0 0), (.ref 318), (.int 69 0), (.int 0 0), (.ref 337), (.int 73 0), (.int 0 0), (.ref 356), (.int 77 0), (.int 0 0), (.ref 375), (.int 81 0), (.int 0 0), (.ref 394), (.int 85 0), (.int 0 0), (.ref 413), (.int 89 0), (.int 0 0), (.ref 432), (.int 93 0), (.int 0 0), (.ref 451), (.int 97 0), (.int 0 0), (.ref 470), (.int 101 0), (.int 0 0), (.ref 489), (.int 105 0), (.int 0 0), (.ref 508), (.int 109 0), (.int 0 0), (.ref 527), (.int 113 0), (.int 0 0), (.ref 546), (.int 117 0), (.int 0 0), (.ref 565), (.int 119 0), (.int 0 0), (.ref 577), (.int 124 0), (.int 0 0), (.ref 596), (.int 128 0), (.int 0 0), (.ref 615), (.int 132 0), (.int 0 0), (.ref 634), (.int 136 0), (.int 0 0), (.ref 653), (.int 140 0), (.int 0 0), (.ref 672), (.int 145 0), (.int 0 0), (.ref 691), (.int 149 0), (.int 0 0), (.ref 710)]), #[]⟩
def o363 (P : Params) : Obj := ⟨(.type "type"), none, (.cls ⟨(S "TaskError"), [(.type "ValueError")], [(.ref 24), (.type "ValueError"), (.type "Exception"), (.type "BaseException"), (.type "object")], 23, (S "TaskError"), true, [], [(.ref 44), (.ref 63), (.ref 82), (.ref 101), (.ref 120), (.ref 139), (.ref 158), (.ref 177), (.ref 196), (.ref 215), (.ref 234), (.ref 253), (.ref 272), (.ref 291), (.ref 310), (.ref 329), (.ref 348), (.ref 367), (.ref 386), (.ref 405), (.ref 424), (.ref 443), (.ref 462), (.ref 481), (.ref 500), (.ref 519), (.ref 538), (.ref 557), (.ref 569), (.ref 588), (.ref 607), (.ref 626), (.ref 645), (.ref 664), (.ref 683), (.ref 702), (.ref 721)], false, none, false⟩), #[(some (.ref 15)), none, (some (.str (S "TaskError") 189)), (some (.str (S "TaskError") 197)), (some (.builtin "ValueError.__new__")), (some (.bool true))]⟩
def o364 (P : Params) : Obj := ⟨(.type "tuple"), none, (.seq #[(.ref 24)] 0), #[]⟩
def o365 (P : Params) : Obj := ⟨(.type "builtin_function_or_method"), none, (.fields #[(.builtin "type.__prepare__"), (.type "type")]), #[]⟩
def o366 (P : Params) : Obj := ⟨(.type "dict"), none, (.dict #[E P "__module__" 666 (.str (S "meettasks.errors") 187), E P "__qualname__" 668 (.str (S "NotClosing") 667), E P "__firstlineno__" 670 (.int 77 669), E P "__init__" 678 (.ref 383), E P "__static_attributes__" 680 (.ref 384)] 5), #[]⟩
def o367 (P : Params) : Obj := ⟨(.type "tuple"), none, (.seq #[] 0), #[]⟩
def o368 (P : Params) : Obj := ⟨.none, none, (.fields #[(.int 79 0), (.int 4 0), (.ref 382)]), #[]⟩
def o369 (P : Params) : Obj := ⟨(.type "code"), none, (.fields #[(.str (S "NotClosing") 661), (.str (S "NotClosing") 662), (.str (S "/claim/cut.py") 663), (.int 77 0), (.int 0 0), (.int 0 0), (.int 0 0), (.int 0 0), (.ref 373), (.bool false), (.int 181 0), (.ref 374), .none, .none, .none, .none, (.int 664 0), (.int 77 0), (.str (S "/claim/cut.py") 665)]), #[]⟩
def o370 (P : Params) : Obj := ⟨(.type "frame"), none, .plain, #[(some (.ref 375)), (some (.ref 3)), (some (.ref 372)), none, (some (.str (S "meettasks.errors") 187)), none, (some (.ref 0))]⟩
def o371 (P : Params) : Obj := ⟨(.type "tuple"), none, (.seq #[] 0), #[]⟩
def o372 (P : Params) : Obj := ⟨.none, none, (.fields #[]), #[]⟩
def o373 (P : Params) : Obj := ⟨(.type "tuple"), none, (.seq #[(.str (S "self") 674), (.str (S "task") 675)] 0), #[]⟩
def o374 (P : Params) : Obj := ⟨(.type "tuple"), none, (.seq #[] 0), #[]⟩
def o375 (P : Params) : Obj := ⟨.none, none, (.func ⟨(S "__init__"), (S "NotClosing.__init__"), (dM 20 0).params, .stmts (dM 20 0).body, (dM 20 0).scope, 0, [], .none, .none, .none, .none, none, .none, .none, 0⟩), #[]⟩
def o376 (P : Params) : Obj := ⟨(.type "code"), none, (.fields #[(.str (S "__init__") 671), (.str (S "NotClosing.__init__") 672), (.str (S "/claim/cut.py") 673), (.int 79 0), (.int 2 0), (.int 0 0), (.int 0 0), (.int 3 0), (.ref 377), (.bool true), (.int 181 0), (.ref 378), .none, (.ref 379), (.ref 380), (.ref 381), (.int 676 0), (.int 79 0), (.str (S "/claim/cut.py") 677)]), #[]⟩
def o377 (P : Params) : Obj := ⟨(.type "function"), none, (.func ⟨(S "__init__"), (S "NotClosing.__init__"), (dM 20 0).params, .stmts (dM 20 0).body, (dM 20 0).scope, 3, [], .none, .none, .none, (.str (S "meettasks.errors") 187), none, (.ref 382), .none, 0⟩), #[]⟩
def o378 (P : Params) : Obj := ⟨(.type "tuple"), none, (.seq #[(.str (S "task") 679)] 0), #[]⟩
def o379 (P : Params) : Obj := ⟨(.type "dict"), none, (.dict #[E P "__module__" 666 (.str (S "meettasks.errors") 187), E P "__firstlineno__" 670 (.int 77 669), E P "__init__" 678 (.ref 383), E P "__static_attributes__" 680 (.ref 384), E P "__doc__" 681 .none] 2), #[]⟩
def o380 (P : Params) : Obj := ⟨(.type "type"), none, (.cls ⟨(S "NotClosing"), [(.ref 24)], [(.ref 386), (.ref 24), (.type "ValueError"), (.type "Exception"), (.type "BaseException"), (.type "object")], 385, (S "NotClosing"), true, [], [], false, none, false⟩), #[(some (.ref 370)), none, (some (.str (S "NotClosing") 659)), (some (.str (S "NotClosing") 667)), (some (.builtin "ValueError.__new__")), (some (.bool true))]⟩
def o381 (P : Params) : Obj := ⟨(.type "super"), none, (.fields #[(.ref 386), (.ref 386), (.ref 386)]), #[]⟩
def o382 (P : Params) : Obj := ⟨(.type "builtin_function_or_method"), none, (.fields #[(.builtin "object.__init_subclass__"), (.ref 386)]), #[]⟩
def o383 (P : Params) : Obj := ⟨(.type "tuple"), none, (.seq #[(.ref 24)] 0), #[]⟩
def o384 (P : Params) : Obj := ⟨(.type "builtin_function_or_method"), none, (.fields #[(.builtin "type.__prepare__"), (.type "type")]), #[]⟩
def o385 (P : Params) : Obj := ⟨(.type "dict"), none, (.dict #[E P "__module__" 691 (.str (S "meettasks.errors") 187), E P "__qualname__" 693 (.str (S "BadTasks") 692), E P "__firstlineno__" 695 (.int 81 694), E P "__init__" 703 (.ref 402), E P "__static_attributes__" 705 (.ref 403)] 5), #[]⟩
def o386 (P : Params) : Obj := ⟨(.type "tuple"), none, (.seq #[] 0), #[]⟩
def o387 (P : Params) : Obj := ⟨.none, none, (.fields #[(.int 83 0), (.int 4 0), (.ref 401)]), #[]⟩
def o388 (P : Params) : Obj := ⟨(.type "code"), none, (.fields #[(.str (S "BadTasks") 686), (.str (S "BadTasks") 687), (.str (S "/claim/cut.py") 688), (.int 81 0), (.int 0 0), (.int 0 0), (.int 0 0), (.int 0 0), (.ref 392), (.bool false), (.int 181 0), (.ref 393), .none, .none, .none, .none, (.int 689 0), (.int 81 0), (.str (S "/claim/cut.py") 690)]), #[]⟩
def o389 (P : Params) : Obj := ⟨(.type "frame"), none, .plain, #[(some (.ref 394)), (some (.ref 3)), (some (.ref 391)), none, (some (.str (S "meettasks.errors") 187)), none, (some (.ref 0))]⟩
def o390 (P : Params) : Obj := ⟨(.type "tuple"), none, (.seq #[] 0), #[]⟩
def o391 (P : Params) : Obj := ⟨.none, none, (.fields #[]), #[]⟩
def o392 (P : Params) : Obj := ⟨(.type "tuple"), none, (.seq #[(.str (S "self") 699), (.str (S "index") 700)] 0), #[]⟩
def o393 (P : Params) : Obj := ⟨(.type "tuple"), none, (.seq #[] 0), #[]⟩
def o394 (P : Params) : Obj := ⟨.none, none, (.func ⟨(S "__init__"), (S "BadTasks.__init__"), (dM 21 0).params, .stmts (dM 21 0).body, (dM 21 0).scope, 0, [], .none, .none, .none, .none, none, .none, .none, 0⟩), #[]⟩
def o395 (P : Params) : Obj := ⟨(.type "code"), none, (.fields #[(.str (S "__init__") 696), (.str (S "BadTasks.__init__") 697), (.str (S "/claim/cut.py") 698), (.int 83 0), (.int 2 0), (.int 0 0), (.int 0 0), (.int 3 0), (.ref 396), (.bool true), (.int 181 0), (.ref 397), .none, (.ref 398), (.ref 399), (.ref 400), (.int 701 0), (.int 83 0), (.str (S "/claim/cut.py") 702)]), #[]⟩
def o396 (P : Params) : Obj := ⟨(.type "function"), none, (.func ⟨(S "__init__"), (S "BadTasks.__init__"), (dM 21 0).params, .stmts (dM 21 0).body, (dM 21 0).scope, 3, [], .none, .none, .none, (.str (S "meettasks.errors") 187), none, (.ref 401), .none, 0⟩), #[]⟩
def o397 (P : Params) : Obj := ⟨(.type "tuple"), none, (.seq #[(.str (S "index") 704)] 0), #[]⟩
def o398 (P : Params) : Obj := ⟨(.type "dict"), none, (.dict #[E P "__module__" 691 (.str (S "meettasks.errors") 187), E P "__firstlineno__" 695 (.int 81 694), E P "__init__" 703 (.ref 402), E P "__static_attributes__" 705 (.ref 403), E P "__doc__" 706 .none] 2), #[]⟩
def o399 (P : Params) : Obj := ⟨(.type "type"), none, (.cls ⟨(S "BadTasks"), [(.ref 24)], [(.ref 405), (.ref 24), (.type "ValueError"), (.type "Exception"), (.type "BaseException"), (.type "object")], 404, (S "BadTasks"), true, [], [], false, none, false⟩), #[(some (.ref 389)), none, (some (.str (S "BadTasks") 684)), (some (.str (S "BadTasks") 692)), (some (.builtin "ValueError.__new__")), (some (.bool true))]⟩
def o400 (P : Params) : Obj := ⟨(.type "super"), none, (.fields #[(.ref 405), (.ref 405), (.ref 405)]), #[]⟩
def o401 (P : Params) : Obj := ⟨(.type "builtin_function_or_method"), none, (.fields #[(.builtin "object.__init_subclass__"), (.ref 405)]), #[]⟩
def o402 (P : Params) : Obj := ⟨(.type "tuple"), none, (.seq #[(.ref 24)] 0), #[]⟩
def o403 (P : Params) : Obj := ⟨(.type "builtin_function_or_method"), none, (.fields #[(.builtin "type.__prepare__"), (.type "type")]), #[]⟩
def o404 (P : Params) : Obj := ⟨(.type "dict"), none, (.dict #[E P "__module__" 716 (.str (S "meettasks.errors") 187), E P "__qualname__" 718 (.str (S "BadOffers") 717), E P "__firstlineno__" 720 (.int 85 719), E P "__init__" 728 (.ref 421), E P "__static_attributes__" 730 (.ref 422)] 5), #[]⟩
def o405 (P : Params) : Obj := ⟨(.type "tuple"), none, (.seq #[] 0), #[]⟩
def o406 (P : Params) : Obj := ⟨.none, none, (.fields #[(.int 87 0), (.int 4 0), (.ref 420)]), #[]⟩
def o407 (P : Params) : Obj := ⟨(.type "code"), none, (.fields #[(.str (S "BadOffers") 711), (.str (S "BadOffers") 712), (.str (S "/claim/cut.py") 713), (.int 85 0), (.int 0 0), (.int 0 0), (.int 0 0), (.int 0 0), (.ref 411), (.bool false), (.int 181 0), (.ref 412), .none, .none, .none, .none, (.int 714 0), (.int 85 0), (.str (S "/claim/cut.py") 715)]), #[]⟩
def o408 (P : Params) : Obj := ⟨(.type "frame"), none, .plain, #[(some (.ref 413)), (some (.ref 3)), (some (.ref 410)), none, (some (.str (S "meettasks.errors") 187)), none, (some (.ref 0))]⟩
def o409 (P : Params) : Obj := ⟨(.type "tuple"), none, (.seq #[] 0), #[]⟩
def o410 (P : Params) : Obj := ⟨.none, none, (.fields #[]), #[]⟩
def o411 (P : Params) : Obj := ⟨(.type "tuple"), none, (.seq #[(.str (S "self") 724), (.str (S "index") 725)] 0), #[]⟩
def o412 (P : Params) : Obj := ⟨(.type "tuple"), none, (.seq #[] 0), #[]⟩
def o413 (P : Params) : Obj := ⟨.none, none, (.func ⟨(S "__init__"), (S "BadOffers.__init__"), (dM 22 0).params, .stmts (dM 22 0).body, (dM 22 0).scope, 0, [], .none, .none, .none, .none, none, .none, .none, 0⟩), #[]⟩
def o414 (P : Params) : Obj := ⟨(.type "code"), none, (.fields #[(.str (S "__init__") 721), (.str (S "BadOffers.__init__") 722), (.str (S "/claim/cut.py") 723), (.int 87 0), (.int 2 0), (.int 0 0), (.int 0 0), (.int 3 0), (.ref 415), (.bool true), (.int 181 0), (.ref 416), .none, (.ref 417), (.ref 418), (.ref 419), (.int 726 0), (.int 87 0), (.str (S "/claim/cut.py") 727)]), #[]⟩
def o415 (P : Params) : Obj := ⟨(.type "function"), none, (.func ⟨(S "__init__"), (S "BadOffers.__init__"), (dM 22 0).params, .stmts (dM 22 0).body, (dM 22 0).scope, 3, [], .none, .none, .none, (.str (S "meettasks.errors") 187), none, (.ref 420), .none, 0⟩), #[]⟩
def o416 (P : Params) : Obj := ⟨(.type "tuple"), none, (.seq #[(.str (S "index") 729)] 0), #[]⟩
def o417 (P : Params) : Obj := ⟨(.type "dict"), none, (.dict #[E P "__module__" 716 (.str (S "meettasks.errors") 187), E P "__firstlineno__" 720 (.int 85 719), E P "__init__" 728 (.ref 421), E P "__static_attributes__" 730 (.ref 422), E P "__doc__" 731 .none] 2), #[]⟩
def o418 (P : Params) : Obj := ⟨(.type "type"), none, (.cls ⟨(S "BadOffers"), [(.ref 24)], [(.ref 424), (.ref 24), (.type "ValueError"), (.type "Exception"), (.type "BaseException"), (.type "object")], 423, (S "BadOffers"), true, [], [], false, none, false⟩), #[(some (.ref 408)), none, (some (.str (S "BadOffers") 709)), (some (.str (S "BadOffers") 717)), (some (.builtin "ValueError.__new__")), (some (.bool true))]⟩
def o419 (P : Params) : Obj := ⟨(.type "super"), none, (.fields #[(.ref 424), (.ref 424), (.ref 424)]), #[]⟩
def o420 (P : Params) : Obj := ⟨(.type "builtin_function_or_method"), none, (.fields #[(.builtin "object.__init_subclass__"), (.ref 424)]), #[]⟩
def o421 (P : Params) : Obj := ⟨(.type "tuple"), none, (.seq #[(.ref 24)] 0), #[]⟩
def o422 (P : Params) : Obj := ⟨(.type "builtin_function_or_method"), none, (.fields #[(.builtin "type.__prepare__"), (.type "type")]), #[]⟩
def o423 (P : Params) : Obj := ⟨(.type "dict"), none, (.dict #[E P "__module__" 741 (.str (S "meettasks.errors") 187), E P "__qualname__" 743 (.str (S "BadSentence") 742), E P "__firstlineno__" 745 (.int 89 744), E P "__init__" 753 (.ref 440), E P "__static_attributes__" 755 (.ref 441)] 5), #[]⟩
def o424 (P : Params) : Obj := ⟨(.type "tuple"), none, (.seq #[] 0), #[]⟩
def o425 (P : Params) : Obj := ⟨.none, none, (.fields #[(.int 91 0), (.int 4 0), (.ref 439)]), #[]⟩
def o426 (P : Params) : Obj := ⟨(.type "code"), none, (.fields #[(.str (S "BadSentence") 736), (.str (S "BadSentence") 737), (.str (S "/claim/cut.py") 738), (.int 89 0), (.int 0 0), (.int 0 0), (.int 0 0), (.int 0 0), (.ref 430), (.bool false), (.int 181 0), (.ref 431), .none, .none, .none, .none, (.int 739 0), (.int 89 0), (.str (S "/claim/cut.py") 740)]), #[]⟩
def o427 (P : Params) : Obj := ⟨(.type "frame"), none, .plain, #[(some (.ref 432)), (some (.ref 3)), (some (.ref 429)), none, (some (.str (S "meettasks.errors") 187)), none, (some (.ref 0))]⟩
def o428 (P : Params) : Obj := ⟨(.type "tuple"), none, (.seq #[] 0), #[]⟩
def o429 (P : Params) : Obj := ⟨.none, none, (.fields #[]), #[]⟩
def o430 (P : Params) : Obj := ⟨(.type "tuple"), none, (.seq #[(.str (S "self") 749), (.str (S "name") 750)] 0), #[]⟩
def o431 (P : Params) : Obj := ⟨(.type "tuple"), none, (.seq #[] 0), #[]⟩
def o432 (P : Params) : Obj := ⟨.none, none, (.func ⟨(S "__init__"), (S "BadSentence.__init__"), (dM 23 0).params, .stmts (dM 23 0).body, (dM 23 0).scope, 0, [], .none, .none, .none, .none, none, .none, .none, 0⟩), #[]⟩
def o433 (P : Params) : Obj := ⟨(.type "code"), none, (.fields #[(.str (S "__init__") 746), (.str (S "BadSentence.__init__") 747), (.str (S "/claim/cut.py") 748), (.int 91 0), (.int 2 0), (.int 0 0), (.int 0 0), (.int 3 0), (.ref 434), (.bool true), (.int 181 0), (.ref 435), .none, (.ref 436), (.ref 437), (.ref 438), (.int 751 0), (.int 91 0), (.str (S "/claim/cut.py") 752)]), #[]⟩
def o434 (P : Params) : Obj := ⟨(.type "function"), none, (.func ⟨(S "__init__"), (S "BadSentence.__init__"), (dM 23 0).params, .stmts (dM 23 0).body, (dM 23 0).scope, 3, [], .none, .none, .none, (.str (S "meettasks.errors") 187), none, (.ref 439), .none, 0⟩), #[]⟩
def o435 (P : Params) : Obj := ⟨(.type "tuple"), none, (.seq #[(.str (S "name") 754)] 0), #[]⟩
def o436 (P : Params) : Obj := ⟨(.type "dict"), none, (.dict #[E P "__module__" 741 (.str (S "meettasks.errors") 187), E P "__firstlineno__" 745 (.int 89 744), E P "__init__" 753 (.ref 440), E P "__static_attributes__" 755 (.ref 441), E P "__doc__" 756 .none] 2), #[]⟩
def o437 (P : Params) : Obj := ⟨(.type "type"), none, (.cls ⟨(S "BadSentence"), [(.ref 24)], [(.ref 443), (.ref 24), (.type "ValueError"), (.type "Exception"), (.type "BaseException"), (.type "object")], 442, (S "BadSentence"), true, [], [], false, none, false⟩), #[(some (.ref 427)), none, (some (.str (S "BadSentence") 734)), (some (.str (S "BadSentence") 742)), (some (.builtin "ValueError.__new__")), (some (.bool true))]⟩
def o438 (P : Params) : Obj := ⟨(.type "super"), none, (.fields #[(.ref 443), (.ref 443), (.ref 443)]), #[]⟩
def o439 (P : Params) : Obj := ⟨(.type "builtin_function_or_method"), none, (.fields #[(.builtin "object.__init_subclass__"), (.ref 443)]), #[]⟩
def o440 (P : Params) : Obj := ⟨(.type "tuple"), none, (.seq #[(.ref 24)] 0), #[]⟩
def o441 (P : Params) : Obj := ⟨(.type "builtin_function_or_method"), none, (.fields #[(.builtin "type.__prepare__"), (.type "type")]), #[]⟩
def o442 (P : Params) : Obj := ⟨(.type "dict"), none, (.dict #[E P "__module__" 766 (.str (S "meettasks.errors") 187), E P "__qualname__" 768 (.str (S "BadTruth") 767), E P "__firstlineno__" 770 (.int 93 769), E P "__init__" 778 (.ref 459), E P "__static_attributes__" 780 (.ref 460)] 5), #[]⟩
def o443 (P : Params) : Obj := ⟨(.type "tuple"), none, (.seq #[] 0), #[]⟩
def o444 (P : Params) : Obj := ⟨.none, none, (.fields #[(.int 95 0), (.int 4 0), (.ref 458)]), #[]⟩
def o445 (P : Params) : Obj := ⟨(.type "code"), none, (.fields #[(.str (S "BadTruth") 761), (.str (S "BadTruth") 762), (.str (S "/claim/cut.py") 763), (.int 93 0), (.int 0 0), (.int 0 0), (.int 0 0), (.int 0 0), (.ref 449), (.bool false), (.int 181 0), (.ref 450), .none, .none, .none, .none, (.int 764 0), (.int 93 0), (.str (S "/claim/cut.py") 765)]), #[]⟩
def o446 (P : Params) : Obj := ⟨(.type "frame"), none, .plain, #[(some (.ref 451)), (some (.ref 3)), (some (.ref 448)), none, (some (.str (S "meettasks.errors") 187)), none, (some (.ref 0))]⟩
def o447 (P : Params) : Obj := ⟨(.type "tuple"), none, (.seq #[] 0), #[]⟩
def o448 (P : Params) : Obj := ⟨.none, none, (.fields #[]), #[]⟩
def o449 (P : Params) : Obj := ⟨(.type "tuple"), none, (.seq #[(.str (S "self") 774), (.str (S "thing") 775)] 0), #[]⟩
def o450 (P : Params) : Obj := ⟨(.type "tuple"), none, (.seq #[] 0), #[]⟩
def o451 (P : Params) : Obj := ⟨.none, none, (.func ⟨(S "__init__"), (S "BadTruth.__init__"), (dM 24 0).params, .stmts (dM 24 0).body, (dM 24 0).scope, 0, [], .none, .none, .none, .none, none, .none, .none, 0⟩), #[]⟩
def o452 (P : Params) : Obj := ⟨(.type "code"), none, (.fields #[(.str (S "__init__") 771), (.str (S "BadTruth.__init__") 772), (.str (S "/claim/cut.py") 773), (.int 95 0), (.int 2 0), (.int 0 0), (.int 0 0), (.int 3 0), (.ref 453), (.bool true), (.int 181 0), (.ref 454), .none, (.ref 455), (.ref 456), (.ref 457), (.int 776 0), (.int 95 0), (.str (S "/claim/cut.py") 777)]), #[]⟩
def o453 (P : Params) : Obj := ⟨(.type "function"), none, (.func ⟨(S "__init__"), (S "BadTruth.__init__"), (dM 24 0).params, .stmts (dM 24 0).body, (dM 24 0).scope, 3, [], .none, .none, .none, (.str (S "meettasks.errors") 187), none, (.ref 458), .none, 0⟩), #[]⟩
def o454 (P : Params) : Obj := ⟨(.type "tuple"), none, (.seq #[(.str (S "thing") 779)] 0), #[]⟩
def o455 (P : Params) : Obj := ⟨(.type "dict"), none, (.dict #[E P "__module__" 766 (.str (S "meettasks.errors") 187), E P "__firstlineno__" 770 (.int 93 769), E P "__init__" 778 (.ref 459), E P "__static_attributes__" 780 (.ref 460), E P "__doc__" 781 .none] 2), #[]⟩
def o456 (P : Params) : Obj := ⟨(.type "type"), none, (.cls ⟨(S "BadTruth"), [(.ref 24)], [(.ref 462), (.ref 24), (.type "ValueError"), (.type "Exception"), (.type "BaseException"), (.type "object")], 461, (S "BadTruth"), true, [], [], false, none, false⟩), #[(some (.ref 446)), none, (some (.str (S "BadTruth") 759)), (some (.str (S "BadTruth") 767)), (some (.builtin "ValueError.__new__")), (some (.bool true))]⟩
def o457 (P : Params) : Obj := ⟨(.type "super"), none, (.fields #[(.ref 462), (.ref 462), (.ref 462)]), #[]⟩
def o458 (P : Params) : Obj := ⟨(.type "builtin_function_or_method"), none, (.fields #[(.builtin "object.__init_subclass__"), (.ref 462)]), #[]⟩
def o459 (P : Params) : Obj := ⟨(.type "tuple"), none, (.seq #[(.ref 24)] 0), #[]⟩
def o460 (P : Params) : Obj := ⟨(.type "builtin_function_or_method"), none, (.fields #[(.builtin "type.__prepare__"), (.type "type")]), #[]⟩
def o461 (P : Params) : Obj := ⟨(.type "dict"), none, (.dict #[E P "__module__" 791 (.str (S "meettasks.errors") 187), E P "__qualname__" 793 (.str (S "BadMarks") 792), E P "__firstlineno__" 795 (.int 97 794), E P "__init__" 803 (.ref 478), E P "__static_attributes__" 805 (.ref 479)] 5), #[]⟩
def o462 (P : Params) : Obj := ⟨(.type "tuple"), none, (.seq #[] 0), #[]⟩
def o463 (P : Params) : Obj := ⟨.none, none, (.fields #[(.int 99 0), (.int 4 0), (.ref 477)]), #[]⟩
def o464 (P : Params) : Obj := ⟨(.type "code"), none, (.fields #[(.str (S "BadMarks") 786), (.str (S "BadMarks") 787), (.str (S "/claim/cut.py") 788), (.int 97 0), (.int 0 0), (.int 0 0), (.int 0 0), (.int 0 0), (.ref 468), (.bool false), (.int 181 0), (.ref 469), .none, .none, .none, .none, (.int 789 0), (.int 97 0), (.str (S "/claim/cut.py") 790)]), #[]⟩
def o465 (P : Params) : Obj := ⟨(.type "frame"), none, .plain, #[(some (.ref 470)), (some (.ref 3)), (some (.ref 467)), none, (some (.str (S "meettasks.errors") 187)), none, (some (.ref 0))]⟩
def o466 (P : Params) : Obj := ⟨(.type "tuple"), none, (.seq #[] 0), #[]⟩
def o467 (P : Params) : Obj := ⟨.none, none, (.fields #[]), #[]⟩
def o468 (P : Params) : Obj := ⟨(.type "tuple"), none, (.seq #[(.str (S "self") 799), (.str (S "index") 800)] 0), #[]⟩
def o469 (P : Params) : Obj := ⟨(.type "tuple"), none, (.seq #[] 0), #[]⟩
def o470 (P : Params) : Obj := ⟨.none, none, (.func ⟨(S "__init__"), (S "BadMarks.__init__"), (dM 25 0).params, .stmts (dM 25 0).body, (dM 25 0).scope, 0, [], .none, .none, .none, .none, none, .none, .none, 0⟩), #[]⟩
def o471 (P : Params) : Obj := ⟨(.type "code"), none, (.fields #[(.str (S "__init__") 796), (.str (S "BadMarks.__init__") 797), (.str (S "/claim/cut.py") 798), (.int 99 0), (.int 2 0), (.int 0 0), (.int 0 0), (.int 3 0), (.ref 472), (.bool true), (.int 181 0), (.ref 473), .none, (.ref 474), (.ref 475), (.ref 476), (.int 801 0), (.int 99 0), (.str (S "/claim/cut.py") 802)]), #[]⟩
def o472 (P : Params) : Obj := ⟨(.type "function"), none, (.func ⟨(S "__init__"), (S "BadMarks.__init__"), (dM 25 0).params, .stmts (dM 25 0).body, (dM 25 0).scope, 3, [], .none, .none, .none, (.str (S "meettasks.errors") 187), none, (.ref 477), .none, 0⟩), #[]⟩
def o473 (P : Params) : Obj := ⟨(.type "tuple"), none, (.seq #[(.str (S "index") 804)] 0), #[]⟩
def o474 (P : Params) : Obj := ⟨(.type "dict"), none, (.dict #[E P "__module__" 791 (.str (S "meettasks.errors") 187), E P "__firstlineno__" 795 (.int 97 794), E P "__init__" 803 (.ref 478), E P "__static_attributes__" 805 (.ref 479), E P "__doc__" 806 .none] 2), #[]⟩
def o475 (P : Params) : Obj := ⟨(.type "type"), none, (.cls ⟨(S "BadMarks"), [(.ref 24)], [(.ref 481), (.ref 24), (.type "ValueError"), (.type "Exception"), (.type "BaseException"), (.type "object")], 480, (S "BadMarks"), true, [], [], false, none, false⟩), #[(some (.ref 465)), none, (some (.str (S "BadMarks") 784)), (some (.str (S "BadMarks") 792)), (some (.builtin "ValueError.__new__")), (some (.bool true))]⟩
def o476 (P : Params) : Obj := ⟨(.type "super"), none, (.fields #[(.ref 481), (.ref 481), (.ref 481)]), #[]⟩
def o477 (P : Params) : Obj := ⟨(.type "builtin_function_or_method"), none, (.fields #[(.builtin "object.__init_subclass__"), (.ref 481)]), #[]⟩
def o478 (P : Params) : Obj := ⟨(.type "tuple"), none, (.seq #[(.ref 24)] 0), #[]⟩
def o479 (P : Params) : Obj := ⟨(.type "builtin_function_or_method"), none, (.fields #[(.builtin "type.__prepare__"), (.type "type")]), #[]⟩
def o480 (P : Params) : Obj := ⟨(.type "dict"), none, (.dict #[E P "__module__" 816 (.str (S "meettasks.errors") 187), E P "__qualname__" 818 (.str (S "NoEntryName") 817), E P "__firstlineno__" 820 (.int 101 819), E P "__init__" 828 (.ref 497), E P "__static_attributes__" 830 (.ref 498)] 5), #[]⟩
def o481 (P : Params) : Obj := ⟨(.type "tuple"), none, (.seq #[] 0), #[]⟩
def o482 (P : Params) : Obj := ⟨.none, none, (.fields #[(.int 103 0), (.int 4 0), (.ref 496)]), #[]⟩
def o483 (P : Params) : Obj := ⟨(.type "code"), none, (.fields #[(.str (S "NoEntryName") 811), (.str (S "NoEntryName") 812), (.str (S "/claim/cut.py") 813), (.int 101 0), (.int 0 0), (.int 0 0), (.int 0 0), (.int 0 0), (.ref 487), (.bool false), (.int 181 0), (.ref 488), .none, .none, .none, .none, (.int 814 0), (.int 101 0), (.str (S "/claim/cut.py") 815)]), #[]⟩
def o484 (P : Params) : Obj := ⟨(.type "frame"), none, .plain, #[(some (.ref 489)), (some (.ref 3)), (some (.ref 486)), none, (some (.str (S "meettasks.errors") 187)), none, (some (.ref 0))]⟩
def o485 (P : Params) : Obj := ⟨(.type "tuple"), none, (.seq #[] 0), #[]⟩
def o486 (P : Params) : Obj := ⟨.none, none, (.fields #[]), #[]⟩
def o487 (P : Params) : Obj := ⟨(.type "tuple"), none, (.seq #[(.str (S "self") 824), (.str (S "entry") 825)] 0), #[]⟩
def o488 (P : Params) : Obj := ⟨(.type "tuple"), none, (.seq #[] 0), #[]⟩
def o489 (P : Params) : Obj := ⟨.none, none, (.func ⟨(S "__init__"), (S "NoEntryName.__init__"), (dM 26 0).params, .stmts (dM 26 0).body, (dM 26 0).scope, 0, [], .none, .none, .none, .none, none, .none, .none, 0⟩), #[]⟩
def o490 (P : Params) : Obj := ⟨(.type "code"), none, (.fields #[(.str (S "__init__") 821), (.str (S "NoEntryName.__init__") 822), (.str (S "/claim/cut.py") 823), (.int 103 0), (.int 2 0), (.int 0 0), (.int 0 0), (.int 3 0), (.ref 491), (.bool true), (.int 181 0), (.ref 492), .none, (.ref 493), (.ref 494), (.ref 495), (.int 826 0), (.int 103 0), (.str (S "/claim/cut.py") 827)]), #[]⟩
def o491 (P : Params) : Obj := ⟨(.type "function"), none, (.func ⟨(S "__init__"), (S "NoEntryName.__init__"), (dM 26 0).params, .stmts (dM 26 0).body, (dM 26 0).scope, 3, [], .none, .none, .none, (.str (S "meettasks.errors") 187), none, (.ref 496), .none, 0⟩), #[]⟩
def o492 (P : Params) : Obj := ⟨(.type "tuple"), none, (.seq #[(.str (S "entry") 829)] 0), #[]⟩
def o493 (P : Params) : Obj := ⟨(.type "dict"), none, (.dict #[E P "__module__" 816 (.str (S "meettasks.errors") 187), E P "__firstlineno__" 820 (.int 101 819), E P "__init__" 828 (.ref 497), E P "__static_attributes__" 830 (.ref 498), E P "__doc__" 831 .none] 2), #[]⟩
def o494 (P : Params) : Obj := ⟨(.type "type"), none, (.cls ⟨(S "NoEntryName"), [(.ref 24)], [(.ref 500), (.ref 24), (.type "ValueError"), (.type "Exception"), (.type "BaseException"), (.type "object")], 499, (S "NoEntryName"), true, [], [], false, none, false⟩), #[(some (.ref 484)), none, (some (.str (S "NoEntryName") 809)), (some (.str (S "NoEntryName") 817)), (some (.builtin "ValueError.__new__")), (some (.bool true))]⟩
def o495 (P : Params) : Obj := ⟨(.type "super"), none, (.fields #[(.ref 500), (.ref 500), (.ref 500)]), #[]⟩
def o496 (P : Params) : Obj := ⟨(.type "builtin_function_or_method"), none, (.fields #[(.builtin "object.__init_subclass__"), (.ref 500)]), #[]⟩
def o497 (P : Params) : Obj := ⟨(.type "tuple"), none, (.seq #[(.ref 24)] 0), #[]⟩
def o498 (P : Params) : Obj := ⟨(.type "builtin_function_or_method"), none, (.fields #[(.builtin "type.__prepare__"), (.type "type")]), #[]⟩
def o499 (P : Params) : Obj := ⟨(.type "dict"), none, (.dict #[E P "__module__" 841 (.str (S "meettasks.errors") 187), E P "__qualname__" 843 (.str (S "BadNames") 842), E P "__firstlineno__" 845 (.int 105 844), E P "__init__" 853 (.ref 516), E P "__static_attributes__" 855 (.ref 517)] 5), #[]⟩
def o500 (P : Params) : Obj := ⟨(.type "tuple"), none, (.seq #[] 0), #[]⟩
def o501 (P : Params) : Obj := ⟨.none, none, (.fields #[(.int 107 0), (.int 4 0), (.ref 515)]), #[]⟩
def o502 (P : Params) : Obj := ⟨(.type "code"), none, (.fields #[(.str (S "BadNames") 836), (.str (S "BadNames") 837), (.str (S "/claim/cut.py") 838), (.int 105 0), (.int 0 0), (.int 0 0), (.int 0 0), (.int 0 0), (.ref 506), (.bool false), (.int 181 0), (.ref 507), .none, .none, .none, .none, (.int 839 0), (.int 105 0), (.str (S "/claim/cut.py") 840)]), #[]⟩
def o503 (P : Params) : Obj := ⟨(.type "frame"), none, .plain, #[(some (.ref 508)), (some (.ref 3)), (some (.ref 505)), none, (some (.str (S "meettasks.errors") 187)), none, (some (.ref 0))]⟩
def o504 (P : Params) : Obj := ⟨(.type "tuple"), none, (.seq #[] 0), #[]⟩
def o505 (P : Params) : Obj := ⟨.none, none, (.fields #[]), #[]⟩
def o506 (P : Params) : Obj := ⟨(.type "tuple"), none, (.seq #[(.str (S "self") 849), (.str (S "index") 850)] 0), #[]⟩
def o507 (P : Params) : Obj := ⟨(.type "tuple"), none, (.seq #[] 0), #[]⟩
def o508 (P : Params) : Obj := ⟨.none, none, (.func ⟨(S "__init__"), (S "BadNames.__init__"), (dM 27 0).params, .stmts (dM 27 0).body, (dM 27 0).scope, 0, [], .none, .none, .none, .none, none, .none, .none, 0⟩), #[]⟩
def o509 (P : Params) : Obj := ⟨(.type "code"), none, (.fields #[(.str (S "__init__") 846), (.str (S "BadNames.__init__") 847), (.str (S "/claim/cut.py") 848), (.int 107 0), (.int 2 0), (.int 0 0), (.int 0 0), (.int 3 0), (.ref 510), (.bool true), (.int 181 0), (.ref 511), .none, (.ref 512), (.ref 513), (.ref 514), (.int 851 0), (.int 107 0), (.str (S "/claim/cut.py") 852)]), #[]⟩
def o510 (P : Params) : Obj := ⟨(.type "function"), none, (.func ⟨(S "__init__"), (S "BadNames.__init__"), (dM 27 0).params, .stmts (dM 27 0).body, (dM 27 0).scope, 3, [], .none, .none, .none, (.str (S "meettasks.errors") 187), none, (.ref 515), .none, 0⟩), #[]⟩
def o511 (P : Params) : Obj := ⟨(.type "tuple"), none, (.seq #[(.str (S "index") 854)] 0), #[]⟩
def o512 (P : Params) : Obj := ⟨(.type "dict"), none, (.dict #[E P "__module__" 841 (.str (S "meettasks.errors") 187), E P "__firstlineno__" 845 (.int 105 844), E P "__init__" 853 (.ref 516), E P "__static_attributes__" 855 (.ref 517), E P "__doc__" 856 .none] 2), #[]⟩
def o513 (P : Params) : Obj := ⟨(.type "type"), none, (.cls ⟨(S "BadNames"), [(.ref 24)], [(.ref 519), (.ref 24), (.type "ValueError"), (.type "Exception"), (.type "BaseException"), (.type "object")], 518, (S "BadNames"), true, [], [], false, none, false⟩), #[(some (.ref 503)), none, (some (.str (S "BadNames") 834)), (some (.str (S "BadNames") 842)), (some (.builtin "ValueError.__new__")), (some (.bool true))]⟩
def o514 (P : Params) : Obj := ⟨(.type "super"), none, (.fields #[(.ref 519), (.ref 519), (.ref 519)]), #[]⟩
def o515 (P : Params) : Obj := ⟨(.type "builtin_function_or_method"), none, (.fields #[(.builtin "object.__init_subclass__"), (.ref 519)]), #[]⟩
def o516 (P : Params) : Obj := ⟨(.type "tuple"), none, (.seq #[(.ref 24)] 0), #[]⟩
def o517 (P : Params) : Obj := ⟨(.type "builtin_function_or_method"), none, (.fields #[(.builtin "type.__prepare__"), (.type "type")]), #[]⟩
def o518 (P : Params) : Obj := ⟨(.type "dict"), none, (.dict #[E P "__module__" 866 (.str (S "meettasks.errors") 187), E P "__qualname__" 868 (.str (S "BadNumber") 867), E P "__firstlineno__" 870 (.int 109 869), E P "__init__" 878 (.ref 535), E P "__static_attributes__" 880 (.ref 536)] 5), #[]⟩
def o519 (P : Params) : Obj := ⟨(.type "tuple"), none, (.seq #[] 0), #[]⟩
def o520 (P : Params) : Obj := ⟨.none, none, (.fields #[(.int 111 0), (.int 4 0), (.ref 534)]), #[]⟩
def o521 (P : Params) : Obj := ⟨(.type "code"), none, (.fields #[(.str (S "BadNumber") 861), (.str (S "BadNumber") 862), (.str (S "/claim/cut.py") 863), (.int 109 0), (.int 0 0), (.int 0 0), (.int 0 0), (.int 0 0), (.ref 525), (.bool false), (.int 181 0), (.ref 526), .none, .none, .none, .none, (.int 864 0), (.int 109 0), (.str (S "/claim/cut.py") 865)]), #[]⟩
def o522 (P : Params) : Obj := ⟨(.type "frame"), none, .plain, #[(some (.ref 527)), (some (.ref 3)), (some (.ref 524)), none, (some (.str (S "meettasks.errors") 187)), none, (some (.ref 0))]⟩
def o523 (P : Params) : Obj := ⟨(.type "tuple"), none, (.seq #[] 0), #[]⟩
def o524 (P : Params) : Obj := ⟨.none, none, (.fields #[]), #[]⟩
def o525 (P : Params) : Obj := ⟨(.type "tuple"), none, (.seq #[(.str (S "self") 874), (.str (S "number") 875)] 0), #[]⟩
def o526 (P : Params) : Obj := ⟨(.type "tuple"), none, (.seq #[] 0), #[]⟩
def o527 (P : Params) : Obj := ⟨.none, none, (.func ⟨(S "__init__"), (S "BadNumber.__init__"), (dM 28 0).params, .stmts (dM 28 0).body, (dM 28 0).scope, 0, [], .none, .none, .none, .none, none, .none, .none, 0⟩), #[]⟩
def o528 (P : Params) : Obj := ⟨(.type "code"), none, (.fields #[(.str (S "__init__") 871), (.str (S "BadNumber.__init__") 872), (.str (S "/claim/cut.py") 873), (.int 111 0), (.int 2 0), (.int 0 0), (.int 0 0), (.int 3 0), (.ref 529), (.bool true), (.int 181 0), (.ref 530), .none, (.ref 531), (.ref 532), (.ref 533), (.int 876 0), (.int 111 0), (.str (S "/claim/cut.py") 877)]), #[]⟩
def o529 (P : Params) : Obj := ⟨(.type "function"), none, (.func ⟨(S "__init__"), (S "BadNumber.__init__"), (dM 28 0).params, .stmts (dM 28 0).body, (dM 28 0).scope, 3, [], .none, .none, .none, (.str (S "meettasks.errors") 187), none, (.ref 534), .none, 0⟩), #[]⟩
def o530 (P : Params) : Obj := ⟨(.type "tuple"), none, (.seq #[(.str (S "number") 879)] 0), #[]⟩
def o531 (P : Params) : Obj := ⟨(.type "dict"), none, (.dict #[E P "__module__" 866 (.str (S "meettasks.errors") 187), E P "__firstlineno__" 870 (.int 109 869), E P "__init__" 878 (.ref 535), E P "__static_attributes__" 880 (.ref 536), E P "__doc__" 881 .none] 2), #[]⟩
def o532 (P : Params) : Obj := ⟨(.type "type"), none, (.cls ⟨(S "BadNumber"), [(.ref 24)], [(.ref 538), (.ref 24), (.type "ValueError"), (.type "Exception"), (.type "BaseException"), (.type "object")], 537, (S "BadNumber"), true, [], [], false, none, false⟩), #[(some (.ref 522)), none, (some (.str (S "BadNumber") 859)), (some (.str (S "BadNumber") 867)), (some (.builtin "ValueError.__new__")), (some (.bool true))]⟩
def o533 (P : Params) : Obj := ⟨(.type "super"), none, (.fields #[(.ref 538), (.ref 538), (.ref 538)]), #[]⟩
def o534 (P : Params) : Obj := ⟨(.type "builtin_function_or_method"), none, (.fields #[(.builtin "object.__init_subclass__"), (.ref 538)]), #[]⟩
def o535 (P : Params) : Obj := ⟨(.type "tuple"), none, (.seq #[(.ref 24)] 0), #[]⟩
def o536 (P : Params) : Obj := ⟨(.type "builtin_function_or_method"), none, (.fields #[(.builtin "type.__prepare__"), (.type "type")]), #[]⟩
def o537 (P : Params) : Obj := ⟨(.type "dict"), none, (.dict #[E P "__module__" 891 (.str (S "meettasks.errors") 187), E P "__qualname__" 893 (.str (S "BadCalls") 892), E P "__firstlineno__" 895 (.int 113 894), E P "__init__" 903 (.ref 554), E P "__static_attributes__" 905 (.ref 555)] 5), #[]⟩
def o538 (P : Params) : Obj := ⟨(.type "tuple"), none, (.seq #[] 0), #[]⟩
def o539 (P : Params) : Obj := ⟨.none, none, (.fields #[(.int 115 0), (.int 4 0), (.ref 553)]), #[]⟩
def o540 (P : Params) : Obj := ⟨(.type "code"), none, (.fields #[(.str (S "BadCalls") 886), (.str (S "BadCalls") 887), (.str (S "/claim/cut.py") 888), (.int 113 0), (.int 0 0), (.int 0 0), (.int 0 0), (.int 0 0), (.ref 544), (.bool false), (.int 181 0), (.ref 545), .none, .none, .none, .none, (.int 889 0), (.int 113 0), (.str (S "/claim/cut.py") 890)]), #[]⟩
def o541 (P : Params) : Obj := ⟨(.type "frame"), none, .plain, #[(some (.ref 546)), (some (.ref 3)), (some (.ref 543)), none, (some (.str (S "meettasks.errors") 187)), none, (some (.ref 0))]⟩
def o542 (P : Params) : Obj := ⟨(.type "tuple"), none, (.seq #[] 0), #[]⟩
def o543 (P : Params) : Obj := ⟨.none, none, (.fields #[]), #[]⟩
def o544 (P : Params) : Obj := ⟨(.type "tuple"), none, (.seq #[(.str (S "self") 899), (.str (S "index") 900)] 0), #[]⟩
def o545 (P : Params) : Obj := ⟨(.type "tuple"), none, (.seq #[] 0), #[]⟩
def o546 (P : Params) : Obj := ⟨.none, none, (.func ⟨(S "__init__"), (S "BadCalls.__init__"), (dM 29 0).params, .stmts (dM 29 0).body, (dM 29 0).scope, 0, [], .none, .none, .none, .none, none, .none, .none, 0⟩), #[]⟩
def o547 (P : Params) : Obj := ⟨(.type "code"), none, (.fields #[(.str (S "__init__") 896), (.str (S "BadCalls.__init__") 897), (.str (S "/claim/cut.py") 898), (.int 115 0), (.int 2 0), (.int 0 0), (.int 0 0), (.int 3 0), (.ref 548), (.bool true), (.int 181 0), (.ref 549), .none, (.ref 550), (.ref 551), (.ref 552), (.int 901 0), (.int 115 0), (.str (S "/claim/cut.py") 902)]), #[]⟩
def o548 (P : Params) : Obj := ⟨(.type "function"), none, (.func ⟨(S "__init__"), (S "BadCalls.__init__"), (dM 29 0).params, .stmts (dM 29 0).body, (dM 29 0).scope, 3, [], .none, .none, .none, (.str (S "meettasks.errors") 187), none, (.ref 553), .none, 0⟩), #[]⟩
def o549 (P : Params) : Obj := ⟨(.type "tuple"), none, (.seq #[(.str (S "index") 904)] 0), #[]⟩
def o550 (P : Params) : Obj := ⟨(.type "dict"), none, (.dict #[E P "__module__" 891 (.str (S "meettasks.errors") 187), E P "__firstlineno__" 895 (.int 113 894), E P "__init__" 903 (.ref 554), E P "__static_attributes__" 905 (.ref 555), E P "__doc__" 906 .none] 2), #[]⟩
def o551 (P : Params) : Obj := ⟨(.type "type"), none, (.cls ⟨(S "BadCalls"), [(.ref 24)], [(.ref 557), (.ref 24), (.type "ValueError"), (.type "Exception"), (.type "BaseException"), (.type "object")], 556, (S "BadCalls"), true, [], [], false, none, false⟩), #[(some (.ref 541)), none, (some (.str (S "BadCalls") 884)), (some (.str (S "BadCalls") 892)), (some (.builtin "ValueError.__new__")), (some (.bool true))]⟩
def o552 (P : Params) : Obj := ⟨(.type "super"), none, (.fields #[(.ref 557), (.ref 557), (.ref 557)]), #[]⟩
def o553 (P : Params) : Obj := ⟨(.type "builtin_function_or_method"), none, (.fields #[(.builtin "object.__init_subclass__"), (.ref 557)]), #[]⟩
def o554 (P : Params) : Obj := ⟨(.type "tuple"), none, (.seq #[(.ref 24)] 0), #[]⟩
def o555 (P : Params) : Obj := ⟨(.type "builtin_function_or_method"), none, (.fields #[(.builtin "type.__prepare__"), (.type "type")]), #[]⟩
def o556 (P : Params) : Obj := ⟨(.type "dict"), none, (.dict #[E P "__module__" 916 (.str (S "meettasks.errors") 187), E P "__qualname__" 918 (.str (S "UnlikeNames") 917), E P "__firstlineno__" 920 (.int 117 919), E P "__static_attributes__" 921 (.ref 567)] 4), #[]⟩
def o557 (P : Params) : Obj := ⟨(.type "tuple"), none, (.seq #[] 0), #[]⟩
def o558 (P : Params) : Obj := ⟨.none, none, (.fields #[]), #[]⟩
def o559 (P : Params) : Obj := ⟨(.type "code"), none, (.fields #[(.str (S "UnlikeNames") 911), (.str (S "UnlikeNames") 912), (.str (S "/claim/cut.py") 913), (.int 117 0), (.int 0 0), (.int 0 0), (.int 0 0), (.int 0 0), (.ref 563), (.bool false), (.int 181 0), (.ref 564), .none, .none, .none, .none, (.int 914 0), (.int 117 0), (.str (S "/claim/cut.py") 915)]), #[]⟩
def o560 (P : Params) : Obj := ⟨(.type "frame"), none, .plain, #[(some (.ref 565)), (some (.ref 3)), (some (.ref 562)), none, (some (.str (S "meettasks.errors") 187)), none, (some (.ref 0))]⟩
def o561 (P : Params) : Obj := ⟨(.type "tuple"), none, (.seq #[] 0), #[]⟩
def o562 (P : Params) : Obj := ⟨(.type "dict"), none, (.dict #[E P "__module__" 916 (.str (S "meettasks.errors") 187), E P "__firstlineno__" 920 (.int 117 919), E P "__static_attributes__" 921 (.ref 567), E P "__doc__" 922 .none] 2), #[]⟩
def o563 (P : Params) : Obj := ⟨(.type "type"), none, (.cls ⟨(S "UnlikeNames"), [(.ref 24)], [(.ref 569), (.ref 24), (.type "ValueError"), (.type "Exception"), (.type "BaseException"), (.type "object")], 568, (S "UnlikeNames"), true, [], [], false, none, false⟩), #[(some (.ref 560)), none, (some (.str (S "UnlikeNames") 909)), (some (.str (S "UnlikeNames") 917)), (some (.builtin "ValueError.__new__")), (some (.bool true))]⟩
def o564 (P : Params) : Obj := ⟨(.type "super"), none, (.fields #[(.ref 569), (.ref 569), (.ref 569)]), #[]⟩
def o565 (P : Params) : Obj := ⟨(.type "builtin_function_or_method"), none, (.fields #[(.builtin "object.__init_subclass__"), (.ref 569)]), #[]⟩
def o566 (P : Params) : Obj := ⟨(.type "tuple"), none, (.seq #[(.ref 24)] 0), #[]⟩
def o567 (P : Params) : Obj := ⟨(.type "builtin_function_or_method"), none, (.fields #[(.builtin "type.__prepare__"), (.type "type")]), #[]⟩
def o568 (P : Params) : Obj := ⟨(.type "dict"), none, (.dict #[E P "__module__" 932 (.str (S "meettasks.errors") 187), E P "__qualname__" 934 (.str (S "BadServers") 933), E P "__firstlineno__" 936 (.int 119 935), E P "__init__" 945 (.ref 585), E P "__static_attributes__" 948 (.ref 586)] 5), #[]⟩
def o569 (P : Params) : Obj := ⟨(.type "tuple"), none, (.seq #[] 0), #[]⟩
def o570 (P : Params) : Obj := ⟨.none, none, (.fields #[(.int 121 0), (.int 4 0), (.ref 584)]), #[]⟩
def o571 (P : Params) : Obj := ⟨(.type "code"), none, (.fields #[(.str (S "BadServers") 927), (.str (S "BadServers") 928), (.str (S "/claim/cut.py") 929), (.int 119 0), (.int 0 0), (.int 0 0), (.int 0 0), (.int 0 0), (.ref 575), (.bool false), (.int 181 0), (.ref 576), .none, .none, .none, .none, (.int 930 0), (.int 119 0), (.str (S "/claim/cut.py") 931)]), #[]⟩
def o572 (P : Params) : Obj := ⟨(.type "frame"), none, .plain, #[(some (.ref 577)), (some (.ref 3)), (some (.ref 574)), none, (some (.str (S "meettasks.errors") 187)), none, (some (.ref 0))]⟩
def o573 (P : Params) : Obj := ⟨(.type "tuple"), none, (.seq #[] 0), #[]⟩
def o574 (P : Params) : Obj := ⟨.none, none, (.fields #[]), #[]⟩
def o575 (P : Params) : Obj := ⟨(.type "tuple"), none, (.seq #[(.str (S "self") 940), (.str (S "task") 941), (.str (S "path") 942)] 0), #[]⟩
def o576 (P : Params) : Obj := ⟨(.type "tuple"), none, (.seq #[] 0), #[]⟩
def o577 (P : Params) : Obj := ⟨.none, none, (.func ⟨(S "__init__"), (S "BadServers.__init__"), (dM 31 0).params, .stmts (dM 31 0).body, (dM 31 0).scope, 0, [], .none, .none, .none, .none, none, .none, .none, 0⟩), #[]⟩
def o578 (P : Params) : Obj := ⟨(.type "code"), none, (.fields #[(.str (S "__init__") 937), (.str (S "BadServers.__init__") 938), (.str (S "/claim/cut.py") 939), (.int 121 0), (.int 3 0), (.int 0 0), (.int 0 0), (.int 3 0), (.ref 579), (.bool true), (.int 181 0), (.ref 580), .none, (.ref 581), (.ref 582), (.ref 583), (.int 943 0), (.int 121 0), (.str (S "/claim/cut.py") 944)]), #[]⟩
def o579 (P : Params) : Obj := ⟨(.type "function"), none, (.func ⟨(S "__init__"), (S "BadServers.__init__"), (dM 31 0).params, .stmts (dM 31 0).body, (dM 31 0).scope, 3, [], .none, .none, .none, (.str (S "meettasks.errors") 187), none, (.ref 584), .none, 0⟩), #[]⟩
def o580 (P : Params) : Obj := ⟨(.type "tuple"), none, (.seq #[(.str (S "path") 946), (.str (S "task") 947)] 0), #[]⟩
def o581 (P : Params) : Obj := ⟨(.type "dict"), none, (.dict #[E P "__module__" 932 (.str (S "meettasks.errors") 187), E P "__firstlineno__" 936 (.int 119 935), E P "__init__" 945 (.ref 585), E P "__static_attributes__" 948 (.ref 586), E P "__doc__" 949 .none] 2), #[]⟩
def o582 (P : Params) : Obj := ⟨(.type "type"), none, (.cls ⟨(S "BadServers"), [(.ref 24)], [(.ref 588), (.ref 24), (.type "ValueError"), (.type "Exception"), (.type "BaseException"), (.type "object")], 587, (S "BadServers"), true, [], [], false, none, false⟩), #[(some (.ref 572)), none, (some (.str (S "BadServers") 925)), (some (.str (S "BadServers") 933)), (some (.builtin "ValueError.__new__")), (some (.bool true))]⟩
def o583 (P : Params) : Obj := ⟨(.type "super"), none, (.fields #[(.ref 588), (.ref 588), (.ref 588)]), #[]⟩
def o584 (P : Params) : Obj := ⟨(.type "builtin_function_or_method"), none, (.fields #[(.builtin "object.__init_subclass__"), (.ref 588)]), #[]⟩
def o585 (P : Params) : Obj := ⟨(.type "tuple"), none, (.seq #[(.ref 24)] 0), #[]⟩
def o586 (P : Params) : Obj := ⟨(.type "builtin_function_or_method"), none, (.fields #[(.builtin "type.__prepare__"), (.type "type")]), #[]⟩
def o587 (P : Params) : Obj := ⟨(.type "dict"), none, (.dict #[E P "__module__" 959 (.str (S "meettasks.errors") 187), E P "__qualname__" 961 (.str (S "BadLike") 960), E P "__firstlineno__" 963 (.int 124 962), E P "__init__" 971 (.ref 604), E P "__static_attributes__" 973 (.ref 605)] 5), #[]⟩
def o588 (P : Params) : Obj := ⟨(.type "tuple"), none, (.seq #[] 0), #[]⟩
def o589 (P : Params) : Obj := ⟨.none, none, (.fields #[(.int 126 0), (.int 4 0), (.ref 603)]), #[]⟩
def o590 (P : Params) : Obj := ⟨(.type "code"), none, (.fields #[(.str (S "BadLike") 954), (.str (S "BadLike") 955), (.str (S "/claim/cut.py") 956), (.int 124 0), (.int 0 0), (.int 0 0), (.int 0 0), (.int 0 0), (.ref 594), (.bool false), (.int 181 0), (.ref 595), .none, .none, .none, .none, (.int 957 0), (.int 124 0), (.str (S "/claim/cut.py") 958)]), #[]⟩
def o591 (P : Params) : Obj := ⟨(.type "frame"), none, .plain, #[(some (.ref 596)), (some (.ref 3)), (some (.ref 593)), none, (some (.str (S "meettasks.errors") 187)), none, (some (.ref 0))]⟩
def o592 (P : Params) : Obj := ⟨(.type "tuple"), none, (.seq #[] 0), #[]⟩
def o593 (P : Params) : Obj := ⟨.none, none, (.fields #[]), #[]⟩
def o594 (P : Params) : Obj := ⟨(.type "tuple"), none, (.seq #[(.str (S "self") 967), (.str (S "path") 968)] 0), #[]⟩
def o595 (P : Params) : Obj := ⟨(.type "tuple"), none, (.seq #[] 0), #[]⟩
def o596 (P : Params) : Obj := ⟨.none, none, (.func ⟨(S "__init__"), (S "BadLike.__init__"), (dM 32 0).params, .stmts (dM 32 0).body, (dM 32 0).scope, 0, [], .none, .none, .none, .none, none, .none, .none, 0⟩), #[]⟩
def o597 (P : Params) : Obj := ⟨(.type "code"), none, (.fields #[(.str (S "__init__") 964), (.str (S "BadLike.__init__") 965), (.str (S "/claim/cut.py") 966), (.int 126 0), (.int 2 0), (.int 0 0), (.int 0 0), (.int 3 0), (.ref 598), (.bool true), (.int 181 0), (.ref 599), .none, (.ref 600), (.ref 601), (.ref 602), (.int 969 0), (.int 126 0), (.str (S "/claim/cut.py") 970)]), #[]⟩
def o598 (P : Params) : Obj := ⟨(.type "function"), none, (.func ⟨(S "__init__"), (S "BadLike.__init__"), (dM 32 0).params, .stmts (dM 32 0).body, (dM 32 0).scope, 3, [], .none, .none, .none, (.str (S "meettasks.errors") 187), none, (.ref 603), .none, 0⟩), #[]⟩
def o599 (P : Params) : Obj := ⟨(.type "tuple"), none, (.seq #[(.str (S "path") 972)] 0), #[]⟩
def o600 (P : Params) : Obj := ⟨(.type "dict"), none, (.dict #[E P "__module__" 959 (.str (S "meettasks.errors") 187), E P "__firstlineno__" 963 (.int 124 962), E P "__init__" 971 (.ref 604), E P "__static_attributes__" 973 (.ref 605), E P "__doc__" 974 .none] 2), #[]⟩
def o601 (P : Params) : Obj := ⟨(.type "type"), none, (.cls ⟨(S "BadLike"), [(.ref 24)], [(.ref 607), (.ref 24), (.type "ValueError"), (.type "Exception"), (.type "BaseException"), (.type "object")], 606, (S "BadLike"), true, [], [], false, none, false⟩), #[(some (.ref 591)), none, (some (.str (S "BadLike") 952)), (some (.str (S "BadLike") 960)), (some (.builtin "ValueError.__new__")), (some (.bool true))]⟩
def o602 (P : Params) : Obj := ⟨(.type "super"), none, (.fields #[(.ref 607), (.ref 607), (.ref 607)]), #[]⟩
def o603 (P : Params) : Obj := ⟨(.type "builtin_function_or_method"), none, (.fields #[(.builtin "object.__init_subclass__"), (.ref 607)]), #[]⟩
def o604 (P : Params) : Obj := ⟨(.type "tuple"), none, (.seq #[(.ref 24)] 0), #[]⟩
def o605 (P : Params) : Obj := ⟨(.type "builtin_function_or_method"), none, (.fields #[(.builtin "type.__prepare__"), (.type "type")]), #[]⟩
def o606 (P : Params) : Obj := ⟨(.type "dict"), none, (.dict #[E P "__module__" 984 (.str (S "meettasks.errors") 187), E P "__qualname__" 986 (.str (S "BadWanted") 985), E P "__firstlineno__" 988 (.int 128 987), E P "__init__" 996 (.ref 623), E P "__static_attributes__" 998 (.ref 624)] 5), #[]⟩
def o607 (P : Params) : Obj := ⟨(.type "tuple"), none, (.seq #[] 0), #[]⟩
def o608 (P : Params) : Obj := ⟨.none, none, (.fields #[(.int 130 0), (.int 4 0), (.ref 622)]), #[]⟩
def o609 (P : Params) : Obj := ⟨(.type "code"), none, (.fields #[(.str (S "BadWanted") 979), (.str (S "BadWanted") 980), (.str (S "/claim/cut.py") 981), (.int 128 0), (.int 0 0), (.int 0 0), (.int 0 0), (.int 0 0), (.ref 613), (.bool false), (.int 181 0), (.ref 614), .none, .none, .none, .none, (.int 982 0), (.int 128 0), (.str (S "/claim/cut.py") 983)]), #[]⟩
def o610 (P : Params) : Obj := ⟨(.type "frame"), none, .plain, #[(some (.ref 615)), (some (.ref 3)), (some (.ref 612)), none, (some (.str (S "meettasks.errors") 187)), none, (some (.ref 0))]⟩
def o611 (P : Params) : Obj := ⟨(.type "tuple"), none, (.seq #[] 0), #[]⟩
def o612 (P : Params) : Obj := ⟨.none, none, (.fields #[]), #[]⟩
def o613 (P : Params) : Obj := ⟨(.type "tuple"), none, (.seq #[(.str (S "self") 992), (.str (S "thing") 993)] 0), #[]⟩
def o614 (P : Params) : Obj := ⟨(.type "tuple"), none, (.seq #[] 0), #[]⟩
def o615 (P : Params) : Obj := ⟨.none, none, (.func ⟨(S "__init__"), (S "BadWanted.__init__"), (dM 33 0).params, .stmts (dM 33 0).body, (dM 33 0).scope, 0, [], .none, .none, .none, .none, none, .none, .none, 0⟩), #[]⟩
def o616 (P : Params) : Obj := ⟨(.type "code"), none, (.fields #[(.str (S "__init__") 989), (.str (S "BadWanted.__init__") 990), (.str (S "/claim/cut.py") 991), (.int 130 0), (.int 2 0), (.int 0 0), (.int 0 0), (.int 3 0), (.ref 617), (.bool true), (.int 181 0), (.ref 618), .none, (.ref 619), (.ref 620), (.ref 621), (.int 994 0), (.int 130 0), (.str (S "/claim/cut.py") 995)]), #[]⟩
def o617 (P : Params) : Obj := ⟨(.type "function"), none, (.func ⟨(S "__init__"), (S "BadWanted.__init__"), (dM 33 0).params, .stmts (dM 33 0).body, (dM 33 0).scope, 3, [], .none, .none, .none, (.str (S "meettasks.errors") 187), none, (.ref 622), .none, 0⟩), #[]⟩
def o618 (P : Params) : Obj := ⟨(.type "tuple"), none, (.seq #[(.str (S "thing") 997)] 0), #[]⟩
def o619 (P : Params) : Obj := ⟨(.type "dict"), none, (.dict #[E P "__module__" 984 (.str (S "meettasks.errors") 187), E P "__firstlineno__" 988 (.int 128 987), E P "__init__" 996 (.ref 623), E P "__static_attributes__" 998 (.ref 624), E P "__doc__" 999 .none] 2), #[]⟩
def o620 (P : Params) : Obj := ⟨(.type "type"), none, (.cls ⟨(S "BadWanted"), [(.ref 24)], [(.ref 626), (.ref 24), (.type "ValueError"), (.type "Exception"), (.type "BaseException"), (.type "object")], 625, (S "BadWanted"), true, [], [], false, none, false⟩), #[(some (.ref 610)), none, (some (.str (S "BadWanted") 977)), (some (.str (S "BadWanted") 985)), (some (.builtin "ValueError.__new__")), (some (.bool true))]⟩
def o621 (P : Params) : Obj := ⟨(.type "super"), none, (.fields #[(.ref 626), (.ref 626), (.ref 626)]), #[]⟩
def o622 (P : Params) : Obj := ⟨(.type "builtin_function_or_method"), none, (.fields #[(.builtin "object.__init_subclass__"), (.ref 626)]), #[]⟩
def o623 (P : Params) : Obj := ⟨(.type "tuple"), none, (.seq #[(.ref 24)] 0), #[]⟩
def o624 (P : Params) : Obj := ⟨(.type "builtin_function_or_method"), none, (.fields #[(.builtin "type.__prepare__"), (.type "type")]), #[]⟩
def o625 (P : Params) : Obj := ⟨(.type "dict"), none, (.dict #[E P "__module__" 1009 (.str (S "meettasks.errors") 187), E P "__qualname__" 1011 (.str (S "NoSpot") 1010), E P "__firstlineno__" 1013 (.int 132 1012), E P "__init__" 1021 (.ref 642), E P "__static_attributes__" 1023 (.ref 643)] 5), #[]⟩
def o626 (P : Params) : Obj := ⟨(.type "tuple"), none, (.seq #[] 0), #[]⟩
def o627 (P : Params) : Obj := ⟨.none, none, (.fields #[(.int 134 0), (.int 4 0), (.ref 641)]), #[]⟩
def o628 (P : Params) : Obj := ⟨(.type "code"), none, (.fields #[(.str (S "NoSpot") 1004), (.str (S "NoSpot") 1005), (.str (S "/claim/cut.py") 1006), (.int 132 0), (.int 0 0), (.int 0 0), (.int 0 0), (.int 0 0), (.ref 632), (.bool false), (.int 181 0), (.ref 633), .none, .none, .none, .none, (.int 1007 0), (.int 132 0), (.str (S "/claim/cut.py") 1008)]), #[]⟩
def o629 (P : Params) : Obj := ⟨(.type "frame"), none, .plain, #[(some (.ref 634)), (some (.ref 3)), (some (.ref 631)), none, (some (.str (S "meettasks.errors") 187)), none, (some (.ref 0))]⟩
def o630 (P : Params) : Obj := ⟨(.type "tuple"), none, (.seq #[] 0), #[]⟩
def o631 (P : Params) : Obj := ⟨.none, none, (.fields #[]), #[]⟩
def o632 (P : Params) : Obj := ⟨(.type "tuple"), none, (.seq #[(.str (S "self") 1017), (.str (S "thing") 1018)] 0), #[]⟩
def o633 (P : Params) : Obj := ⟨(.type "tuple"), none, (.seq #[] 0), #[]⟩
def o634 (P : Params) : Obj := ⟨.none, none, (.func ⟨(S "__init__"), (S "NoSpot.__init__"), (dM 34 0).params, .stmts (dM 34 0).body, (dM 34 0).scope, 0, [], .none, .none, .none, .none, none, .none, .none, 0⟩), #[]⟩
def o635 (P : Params) : Obj := ⟨(.type "code"), none, (.fields #[(.str (S "__init__") 1014), (.str (S "NoSpot.__init__") 1015), (.str (S "/claim/cut.py") 1016), (.int 134 0), (.int 2 0), (.int 0 0), (.int 0 0), (.int 3 0), (.ref 636), (.bool true), (.int 181 0), (.ref 637), .none, (.ref 638), (.ref 639), (.ref 640), (.int 1019 0), (.int 134 0), (.str (S "/claim/cut.py") 1020)]), #[]⟩
def o636 (P : Params) : Obj := ⟨(.type "function"), none, (.func ⟨(S "__init__"), (S "NoSpot.__init__"), (dM 34 0).params, .stmts (dM 34 0).body, (dM 34 0).scope, 3, [], .none, .none, .none, (.str (S "meettasks.errors") 187), none, (.ref 641), .none, 0⟩), #[]⟩
def o637 (P : Params) : Obj := ⟨(.type "tuple"), none, (.seq #[(.str (S "thing") 1022)] 0), #[]⟩
def o638 (P : Params) : Obj := ⟨(.type "dict"), none, (.dict #[E P "__module__" 1009 (.str (S "meettasks.errors") 187), E P "__firstlineno__" 1013 (.int 132 1012), E P "__init__" 1021 (.ref 642), E P "__static_attributes__" 1023 (.ref 643), E P "__doc__" 1024 .none] 2), #[]⟩
def o639 (P : Params) : Obj := ⟨(.type "type"), none, (.cls ⟨(S "NoSpot"), [(.ref 24)], [(.ref 645), (.ref 24), (.type "ValueError"), (.type "Exception"), (.type "BaseException"), (.type "object")], 644, (S "NoSpot"), true, [], [], false, none, false⟩), #[(some (.ref 629)), none, (some (.str (S "NoSpot") 1002)), (some (.str (S "NoSpot") 1010)), (some (.builtin "ValueError.__new__")), (some (.bool true))]⟩
def o640 (P : Params) : Obj := ⟨(.type "super"), none, (.fields #[(.ref 645), (.ref 645), (.ref 645)]), #[]⟩
def o641 (P : Params) : Obj := ⟨(.type "builtin_function_or_method"), none, (.fields #[(.builtin "object.__init_subclass__"), (.ref 645)]), #[]⟩
def o642 (P : Params) : Obj := ⟨(.type "tuple"), none, (.seq #[(.ref 24)] 0), #[]⟩
def o643 (P : Params) : Obj := ⟨(.type "builtin_function_or_method"), none, (.fields #[(.builtin "type.__prepare__"), (.type "type")]), #[]⟩
def o644 (P : Params) : Obj := ⟨(.type "dict"), none, (.dict #[E P "__module__" 1034 (.str (S "meettasks.errors") 187), E P "__qualname__" 1036 (.str (S "BadStep") 1035), E P "__firstlineno__" 1038 (.int 136 1037), E P "__init__" 1046 (.ref 661), E P "__static_attributes__" 1048 (.ref 662)] 5), #[]⟩
def o645 (P : Params) : Obj := ⟨(.type "tuple"), none, (.seq #[] 0), #[]⟩
def o646 (P : Params) : Obj := ⟨.none, none, (.fields #[(.int 138 0), (.int 4 0), (.ref 660)]), #[]⟩
def o647 (P : Params) : Obj := ⟨(.type "code"), none, (.fields #[(.str (S "BadStep") 1029), (.str (S "BadStep") 1030), (.str (S "/claim/cut.py") 1031), (.int 136 0), (.int 0 0), (.int 0 0), (.int 0 0), (.int 0 0), (.ref 651), (.bool false), (.int 181 0), (.ref 652), .none, .none, .none, .none, (.int 1032 0), (.int 136 0), (.str (S "/claim/cut.py") 1033)]), #[]⟩
def o648 (P : Params) : Obj := ⟨(.type "frame"), none, .plain, #[(some (.ref 653)), (some (.ref 3)), (some (.ref 650)), none, (some (.str (S "meettasks.errors") 187)), none, (some (.ref 0))]⟩
def o649 (P : Params) : Obj := ⟨(.type "tuple"), none, (.seq #[] 0), #[]⟩
def o650 (P : Params) : Obj := ⟨.none, none, (.fields #[]), #[]⟩
def o651 (P : Params) : Obj := ⟨(.type "tuple"), none, (.seq #[(.str (S "self") 1042), (.str (S "index") 1043)] 0), #[]⟩
def o652 (P : Params) : Obj := ⟨(.type "tuple"), none, (.seq #[] 0), #[]⟩
def o653 (P : Params) : Obj := ⟨.none, none, (.func ⟨(S "__init__"), (S "BadStep.__init__"), (dM 35 0).params, .stmts (dM 35 0).body, (dM 35 0).scope, 0, [], .none, .none, .none, .none, none, .none, .none, 0⟩), #[]⟩
def o654 (P : Params) : Obj := ⟨(.type "code"), none, (.fields #[(.str (S "__init__") 1039), (.str (S "BadStep.__init__") 1040), (.str (S "/claim/cut.py") 1041), (.int 138 0), (.int 2 0), (.int 0 0), (.int 0 0), (.int 3 0), (.ref 655), (.bool true), (.int 181 0), (.ref 656), .none, (.ref 657), (.ref 658), (.ref 659), (.int 1044 0), (.int 138 0), (.str (S "/claim/cut.py") 1045)]), #[]⟩
def o655 (P : Params) : Obj := ⟨(.type "function"), none, (.func ⟨(S "__init__"), (S "BadStep.__init__"), (dM 35 0).params, .stmts (dM 35 0).body, (dM 35 0).scope, 3, [], .none, .none, .none, (.str (S "meettasks.errors") 187), none, (.ref 660), .none, 0⟩), #[]⟩
def o656 (P : Params) : Obj := ⟨(.type "tuple"), none, (.seq #[(.str (S "index") 1047)] 0), #[]⟩
def o657 (P : Params) : Obj := ⟨(.type "dict"), none, (.dict #[E P "__module__" 1034 (.str (S "meettasks.errors") 187), E P "__firstlineno__" 1038 (.int 136 1037), E P "__init__" 1046 (.ref 661), E P "__static_attributes__" 1048 (.ref 662), E P "__doc__" 1049 .none] 2), #[]⟩
def o658 (P : Params) : Obj := ⟨(.type "type"), none, (.cls ⟨(S "BadStep"), [(.ref 24)], [(.ref 664), (.ref 24), (.type "ValueError"), (.type "Exception"), (.type "BaseException"), (.type "object")], 663, (S "BadStep"), true, [], [], false, none, false⟩), #[(some (.ref 648)), none, (some (.str (S "BadStep") 1027)), (some (.str (S "BadStep") 1035)), (some (.builtin "ValueError.__new__")), (some (.bool true))]⟩
def o659 (P : Params) : Obj := ⟨(.type "super"), none, (.fields #[(.ref 664), (.ref 664), (.ref 664)]), #[]⟩
def o660 (P : Params) : Obj := ⟨(.type "builtin_function_or_method"), none, (.fields #[(.builtin "object.__init_subclass__"), (.ref 664)]), #[]⟩
def o661 (P : Params) : Obj := ⟨(.type "tuple"), none, (.seq #[(.ref 24)] 0), #[]⟩
def o662 (P : Params) : Obj := ⟨(.type "builtin_function_or_method"), none, (.fields #[(.builtin "type.__prepare__"), (.type "type")]), #[]⟩
def o663 (P : Params) : Obj := ⟨(.type "dict"), none, (.dict #[E P "__module__" 1059 (.str (S "meettasks.errors") 187), E P "__qualname__" 1061 (.str (S "Restless") 1060), E P "__firstlineno__" 1063 (.int 140 1062), E P "__init__" 1072 (.ref 680), E P "__static_attributes__" 1075 (.ref 681)] 5), #[]⟩
def o664 (P : Params) : Obj := ⟨(.type "tuple"), none, (.seq #[] 0), #[]⟩
def o665 (P : Params) : Obj := ⟨.none, none, (.fields #[(.int 142 0), (.int 4 0), (.ref 679)]), #[]⟩
def o666 (P : Params) : Obj := ⟨(.type "code"), none, (.fields #[(.str (S "Restless") 1054), (.str (S "Restless") 1055), (.str (S "/claim/cut.py") 1056), (.int 140 0), (.int 0 0), (.int 0 0), (.int 0 0), (.int 0 0), (.ref 670), (.bool false), (.int 181 0), (.ref 671), .none, .none, .none, .none, (.int 1057 0), (.int 140 0), (.str (S "/claim/cut.py") 1058)]), #[]⟩
def o667 (P : Params) : Obj := ⟨(.type "frame"), none, .plain, #[(some (.ref 672)), (some (.ref 3)), (some (.ref 669)), none, (some (.str (S "meettasks.errors") 187)), none, (some (.ref 0))]⟩
def o668 (P : Params) : Obj := ⟨(.type "tuple"), none, (.seq #[] 0), #[]⟩
def o669 (P : Params) : Obj := ⟨.none, none, (.fields #[]), #[]⟩
def o670 (P : Params) : Obj := ⟨(.type "tuple"), none, (.seq #[(.str (S "self") 1067), (.str (S "task") 1068), (.str (S "path") 1069)] 0), #[]⟩
def o671 (P : Params) : Obj := ⟨(.type "tuple"), none, (.seq #[] 0), #[]⟩
def o672 (P : Params) : Obj := ⟨.none, none, (.func ⟨(S "__init__"), (S "Restless.__init__"), (dM 36 0).params, .stmts (dM 36 0).body, (dM 36 0).scope, 0, [], .none, .none, .none, .none, none, .none, .none, 0⟩), #[]⟩
def o673 (P : Params) : Obj := ⟨(.type "code"), none, (.fields #[(.str (S "__init__") 1064), (.str (S "Restless.__init__") 1065), (.str (S "/claim/cut.py") 1066), (.int 142 0), (.int 3 0), (.int 0 0), (.int 0 0), (.int 3 0), (.ref 674), (.bool true), (.int 181 0), (.ref 675), .none, (.ref 676), (.ref 677), (.ref 678), (.int 1070 0), (.int 142 0), (.str (S "/claim/cut.py") 1071)]), #[]⟩
def o674 (P : Params) : Obj := ⟨(.type "function"), none, (.func ⟨(S "__init__"), (S "Restless.__init__"), (dM 36 0).params, .stmts (dM 36 0).body, (dM 36 0).scope, 3, [], .none, .none, .none, (.str (S "meettasks.errors") 187), none, (.ref 679), .none, 0⟩), #[]⟩
def o675 (P : Params) : Obj := ⟨(.type "tuple"), none, (.seq #[(.str (S "path") 1073), (.str (S "task") 1074)] 0), #[]⟩
def o676 (P : Params) : Obj := ⟨(.type "dict"), none, (.dict #[E P "__module__" 1059 (.str (S "meettasks.errors") 187), E P "__firstlineno__" 1063 (.int 140 1062), E P "__init__" 1072 (.ref 680), E P "__static_attributes__" 1075 (.ref 681), E P "__doc__" 1076 .none] 2), #[]⟩
def o677 (P : Params) : Obj := ⟨(.type "type"), none, (.cls ⟨(S "Restless"), [(.ref 24)], [(.ref 683), (.ref 24), (.type "ValueError"), (.type "Exception"), (.type "BaseException"), (.type "object")], 682, (S "Restless"), true, [], [], false, none, false⟩), #[(some (.ref 667)), none, (some (.str (S "Restless") 1052)), (some (.str (S "Restless") 1060)), (some (.builtin "ValueError.__new__")), (some (.bool true))]⟩
def o678 (P : Params) : Obj := ⟨(.type "super"), none, (.fields #[(.ref 683), (.ref 683), (.ref 683)]), #[]⟩
def o679 (P : Params) : Obj := ⟨(.type "builtin_function_or_method"), none, (.fields #[(.builtin "object.__init_subclass__"), (.ref 683)]), #[]⟩
def o680 (P : Params) : Obj := ⟨(.type "tuple"), none, (.seq #[(.ref 24)] 0), #[]⟩
def o681 (P : Params) : Obj := ⟨(.type "builtin_function_or_method"), none, (.fields #[(.builtin "type.__prepare__"), (.type "type")]), #[]⟩
def o682 (P : Params) : Obj := ⟨(.type "dict"), none, (.dict #[E P "__module__" 1086 (.str (S "meettasks.errors") 187), E P "__qualname__" 1088 (.str (S "BadRow") 1087), E P "__firstlineno__" 1090 (.int 145 1089), E P "__init__" 1098 (.ref 699), E P "__static_attributes__" 1100 (.ref 700)] 5), #[]⟩
def o683 (P : Params) : Obj := ⟨(.type "tuple"), none, (.seq #[] 0), #[]⟩
def o684 (P : Params) : Obj := ⟨.none, none, (.fields #[(.int 147 0), (.int 4 0), (.ref 698)]), #[]⟩
def o685 (P : Params) : Obj := ⟨(.type "code"), none, (.fields #[(.str (S "BadRow") 1081), (.str (S "BadRow") 1082), (.str (S "/claim/cut.py") 1083), (.int 145 0), (.int 0 0), (.int 0 0), (.int 0 0), (.int 0 0), (.ref 689), (.bool false), (.int 181 0), (.ref 690), .none, .none, .none, .none, (.int 1084 0), (.int 145 0), (.str (S "/claim/cut.py") 1085)]), #[]⟩
def o686 (P : Params) : Obj := ⟨(.type "frame"), none, .plain, #[(some (.ref 691)), (some (.ref 3)), (some (.ref 688)), none, (some (.str (S "meettasks.errors") 187)), none, (some (.ref 0))]⟩
def o687 (P : Params) : Obj := ⟨(.type "tuple"), none, (.seq #[] 0), #[]⟩
def o688 (P : Params) : Obj := ⟨.none, none, (.fields #[]), #[]⟩
def o689 (P : Params) : Obj := ⟨(.type "tuple"), none, (.seq #[(.str (S "self") 1094), (.str (S "index") 1095)] 0), #[]⟩
def o690 (P : Params) : Obj := ⟨(.type "tuple"), none, (.seq #[] 0), #[]⟩
def o691 (P : Params) : Obj := ⟨.none, none, (.func ⟨(S "__init__"), (S "BadRow.__init__"), (dM 37 0).params, .stmts (dM 37 0).body, (dM 37 0).scope, 0, [], .none, .none, .none, .none, none, .none, .none, 0⟩), #[]⟩
def o692 (P : Params) : Obj := ⟨(.type "code"), none, (.fields #[(.str (S "__init__") 1091), (.str (S "BadRow.__init__") 1092), (.str (S "/claim/cut.py") 1093), (.int 147 0), (.int 2 0), (.int 0 0), (.int 0 0), (.int 3 0), (.ref 693), (.bool true), (.int 181 0), (.ref 694), .none, (.ref 695), (.ref 696), (.ref 697), (.int 1096 0), (.int 147 0), (.str (S "/claim/cut.py") 1097)]), #[]⟩
def o693 (P : Params) : Obj := ⟨(.type "function"), none, (.func ⟨(S "__init__"), (S "BadRow.__init__"), (dM 37 0).params, .stmts (dM 37 0).body, (dM 37 0).scope, 3, [], .none, .none, .none, (.str (S "meettasks.errors") 187), none, (.ref 698), .none, 0⟩), #[]⟩
def o694 (P : Params) : Obj := ⟨(.type "tuple"), none, (.seq #[(.str (S "index") 1099)] 0), #[]⟩
def o695 (P : Params) : Obj := ⟨(.type "dict"), none, (.dict #[E P "__module__" 1086 (.str (S "meettasks.errors") 187), E P "__firstlineno__" 1090 (.int 145 1089), E P "__init__" 1098 (.ref 699), E P "__static_attributes__" 1100 (.ref 700), E P "__doc__" 1101 .none] 2), #[]⟩
def o696 (P : Params) : Obj := ⟨(.type "type"), none, (.cls ⟨(S "BadRow"), [(.ref 24)], [(.ref 702), (.ref 24), (.type "ValueError"), (.type "Exception"), (.type "BaseException"), (.type "object")], 701, (S "BadRow"), true, [], [], false, none, false⟩), #[(some (.ref 686)), none, (some (.str (S "BadRow") 1079)), (some (.str (S "BadRow") 1087)), (some (.builtin "ValueError.__new__")), (some (.bool true))]⟩
def o697 (P : Params) : Obj := ⟨(.type "super"), none, (.fields #[(.ref 702), (.ref 702), (.ref 702)]), #[]⟩
def o698 (P : Params) : Obj := ⟨(.type "builtin_function_or_method"), none, (.fields #[(.builtin "object.__init_subclass__"), (.ref 702)]), #[]⟩
def o699 (P : Params) : Obj := ⟨(.type "tuple"), none, (.seq #[(.ref 24)] 0), #[]⟩
def o700 (P : Params) : Obj := ⟨(.type "builtin_function_or_method"), none, (.fields #[(.builtin "type.__prepare__"), (.type "type")]), #[]⟩
def o701 (P : Params) : Obj := ⟨(.type "dict"), none, (.dict #[E P "__module__" 1111 (.str (S "meettasks.errors") 187), E P "__qualname__" 1113 (.str (S "BadLot") 1112), E P "__firstlineno__" 1115 (.int 149 1114), E P "__init__" 1123 (.ref 718), E P "__static_attributes__" 1125 (.ref 719)] 5), #[]⟩
def o702 (P : Params) : Obj := ⟨(.type "tuple"), none, (.seq #[] 0), #[]⟩
def o703 (P : Params) : Obj := ⟨.none, none, (.fields #[(.int 151 0), (.int 4 0), (.ref 717)]), #[]⟩
def o704 (P : Params) : Obj := ⟨(.type "code"), none, (.fields #[(.str (S "BadLot") 1106), (.str (S "BadLot") 1107), (.str (S "/claim/cut.py") 1108), (.int 149 0), (.int 0 0), (.int 0 0), (.int 0 0), (.int 0 0), (.ref 708), (.bool false), (.int 181 0), (.ref 709), .none, .none, .none, .none, (.int 1109 0), (.int 149 0), (.str (S "/claim/cut.py") 1110)]), #[]⟩
def o705 (P : Params) : Obj := ⟨(.type "frame"), none, .plain, #[(some (.ref 710)), (some (.ref 3)), (some (.ref 707)), none, (some (.str (S "meettasks.errors") 187)), none, (some (.ref 0))]⟩
def o706 (P : Params) : Obj := ⟨(.type "tuple"), none, (.seq #[] 0), #[]⟩
def o707 (P : Params) : Obj := ⟨.none, none, (.fields #[]), #[]⟩
def o708 (P : Params) : Obj := ⟨(.type "tuple"), none, (.seq #[(.str (S "self") 1119), (.str (S "thing") 1120)] 0), #[]⟩
def o709 (P : Params) : Obj := ⟨(.type "tuple"), none, (.seq #[] 0), #[]⟩
def o710 (P : Params) : Obj := ⟨.none, none, (.func ⟨(S "__init__"), (S "BadLot.__init__"), (dM 38 0).params, .stmts (dM 38 0).body, (dM 38 0).scope, 0, [], .none, .none, .none, .none, none, .none, .none, 0⟩), #[]⟩
def o711 (P : Params) : Obj := ⟨(.type "code"), none, (.fields #[(.str (S "__init__") 1116), (.str (S "BadLot.__init__") 1117), (.str (S "/claim/cut.py") 1118), (.int 151 0), (.int 2 0), (.int 0 0), (.int 0 0), (.int 3 0), (.ref 712), (.bool true), (.int 181 0), (.ref 713), .none, (.ref 714), (.ref 715), (.ref 716), (.int 1121 0), (.int 151 0), (.str (S "/claim/cut.py") 1122)]), #[]⟩
def o712 (P : Params) : Obj := ⟨(.type "function"), none, (.func ⟨(S "__init__"), (S "BadLot.__init__"), (dM 38 0).params, .stmts (dM 38 0).body, (dM 38 0).scope, 3, [], .none, .none, .none, (.str (S "meettasks.errors") 187), none, (.ref 717), .none, 0⟩), #[]⟩
def o713 (P : Params) : Obj := ⟨(.type "tuple"), none, (.seq #[(.str (S "thing") 1124)] 0), #[]⟩
def o714 (P : Params) : Obj := ⟨(.type "dict"), none, (.dict #[E P "__module__" 1111 (.str (S "meettasks.errors") 187), E P "__firstlineno__" 1115 (.int 149 1114), E P "__init__" 1123 (.ref 718), E P "__static_attributes__" 1125 (.ref 719), E P "__doc__" 1126 .none] 2), #[]⟩
def o715 (P : Params) : Obj := ⟨(.type "type"), none, (.cls ⟨(S "BadLot"), [(.ref 24)], [(.ref 721), (.ref 24), (.type "ValueError"), (.type "Exception"), (.type "BaseException"), (.type "object")], 720, (S "BadLot"), true, [], [], false, none, false⟩), #[(some (.ref 705)), none, (some (.str (S "BadLot") 1104)), (some (.str (S "BadLot") 1112)), (some (.builtin "ValueError.__new__")), (some (.bool true))]⟩
def o716 (P : Params) : Obj := ⟨(.type "super"), none, (.fields #[(.ref 721), (.ref 721), (.ref 721)]), #[]⟩
def o717 (P : Params) : Obj := ⟨(.type "builtin_function_or_method"), none, (.fields #[(.builtin "object.__init_subclass__"), (.ref 721)]), #[]⟩
def T2 (P : Params) : BT := (N (boot_o_0 P) (N (boot_o_1 P) (N (o361 P) (N (boot_o_7 P) (N (o6 P) (N (o22 P) (N (o54 P) (N (o118 P) (N (o246 P) (N (o505 P) e e) e) (N (o377 P) (N (o633 P) e e) e)) (N (o182 P) (N (o310 P) (N (o569 P) e e) e) (N (o441 P) (N (o697 P) e e) e))) (N (o86 P) (N (o150 P) (N (o278 P) (N (o537 P) e e) e) (N (o409 P) (N (o665 P) e e) e)) (N (o214 P) (N (o342 P) (N (o601 P) e e) e) (N (o473 P) e e)))) (N (o38 P) (N (o70 P) (N (o134 P) (N (o262 P) (N (o521 P) e e) e) (N (o393 P) (N (o649 P) e e) e)) (N (o198 P) (N (o326 P) (N (o585 P) e e) e) (N (o457 P) (N (o713 P) e e) e))) (N (o102 P) (N (o166 P) (N (o294 P) (N (o553 P) e e) e) (N (o425 P) (N (o681 P) e e) e)) (N (o230 P) (N (o358 P) (N (o617 P) e e) e) (N (o489 P) e e))))) (N (o14 P) (N (o30 P) (N (o62 P) (N (o126 P) (N (o254 P) (N (o513 P) e e) e) (N (o385 P) (N (o641 P) e e) e)) (N (o190 P) (N (o318 P) (N (o577 P) e e) e) (N (o449 P) (N (o705 P) e e) e))) (N (o94 P) (N (o158 P) (N (o286 P) (N (o545 P) e e) e) (N (o417 P) (N (o673 P) e e) e)) (N (o222 P) (N (o350 P) (N (o609 P) e e) e) (N (o481 P) e e)))) (N (o46 P) (N (o78 P) (N (o142 P) (N (o270 P) (N (o529 P) e e) e) (N (o401 P) (N (o657 P) e e) e)) (N (o206 P) (N (o334 P) (N (o593 P) e e) e) (N (o465 P) e e))) (N (o110 P) (N (o174 P) (N (o302 P) (N (o561 P) e e) e) (N (o433 P) (N (o689 P) e e) e)) (N (o238 P) (N (o369 P) (N (o625 P) e e) e) (N (o497 P) e e)))))) (N (o0 P) (N (o10 P) (N (o26 P) (N (o58 P) (N (o122 P) (N (o250 P) (N (o509 P) e e) e) (N (o381 P) (N (o637 P) e e) e)) (N (o186 P) (N (o314 P) (N (o573 P) e e) e) (N (o445 P) (N (o701 P) e e) e))) (N (o90 P) (N (o154 P) (N (o282 P) (N (o541 P) e e) e) (N (o413 P) (N (o669 P) e e) e)) (N (o218 P) (N (o346 P) (N (o605 P) e e) e) (N (o477 P) e e)))) (N (o42 P) (N (o74 P) (N (o138 P) (N (o266 P) (N (o525 P) e e) e) (N (o397 P) (N (o653 P) e e) e)) (N (o202 P) (N (o330 P) (N (o589 P) e e) e) (N (o461 P) (N (o717 P) e e) e))) (N (o106 P) (N (o170 P) (N (o298 P) (N (o557 P) e e) e) (N (o429 P) (N (o685 P) e e) e)) (N (o234 P) (N (o365 P) (N (o621 P) e e) e) (N (o493 P) e e))))) (N (o18 P) (N (o34 P) (N (o66 P) (N (o130 P) (N (o258 P) (N (o517 P) e e) e) (N (o389 P) (N (o645 P) e e) e)) (N (o194 P) (N (o322 P) (N (o581 P) e e) e) (N (o453 P) (N (o709 P) e e) e))) (N (o98 P) (N (o162 P) (N (o290 P) (N (o549 P) e e) e) (N (o421 P) (N (o677 P) e e) e)) (N (o226 P) (N (o354 P) (N (o613 P) e e) e) (N (o485 P) e e)))) (N (o50 P) (N (o82 P) (N (o146 P) (N (o274 P) (N (o533 P) e e) e) (N (o405 P) (N (o661 P) e e) e)) (N (o210 P) (N (o338 P) (N (o597 P) e e) e) (N (o469 P) e e))) (N (o114 P) (N (o178 P) (N (o306 P) (N (o565 P) e e) e) (N (o437 P) (N (o693 P) e e) e)) (N (o242 P) (N (o373 P) (N (o629 P) e e) e) (N (o501 P) e e))))))) (N (boot_o_5 P) (N (boot_o_9 P) (N (o8 P) (N (o24 P) (N (o56 P) (N (o120 P) (N (o248 P) (N (o507 P) e e) e) (N (o379 P) (N (o635 P) e e) e)) (N (o184 P) (N (o312 P) (N (o571 P) e e) e) (N (o443 P) (N (o699 P) e e) e))) (N (o88 P) (N (o152 P) (N (o280 P) (N (o539 P) e e) e) (N (o411 P) (N (o667 P) e e) e)) (N (o216 P) (N (o344 P) (N (o603 P) e e) e) (N (o475 P) e e)))) (N (o40 P) (N (o72 P) (N (o136 P) (N (o264 P) (N (o523 P) e e) e) (N (o395 P) (N (o651 P) e e) e)) (N (o200 P) (N (o328 P) (N (o587 P) e e) e) (N (o459 P) (N (o715 P) e e) e))) (N (o104 P) (N (o168 P) (N (o296 P) (N (o555 P) e e) e) (N (o427 P) (N (o683 P) e e) e)) (N (o232 P) (N (o360 P) (N (o619 P) e e) e) (N (o491 P) e e))))) (N (o16 P) (N (o32 P) (N (o64 P) (N (o128 P) (N (o256 P) (N (o515 P) e e) e) (N (o387 P) (N (o643 P) e e) e)) (N (o192 P) (N (o320 P) (N (o579 P) e e) e) (N (o451 P) (N (o707 P) e e) e))) (N (o96 P) (N (o160 P) (N (o288 P) (N (o547 P) e e) e) (N (o419 P) (N (o675 P) e e) e)) (N (o224 P) (N (o352 P) (N (o611 P) e e) e) (N (o483 P) e e)))) (N (o48 P) (N (o80 P) (N (o144 P) (N (o272 P) (N (o531 P) e e) e) (N (o403 P) (N (o659 P) e e) e)) (N (o208 P) (N (o336 P) (N (o595 P) e e) e) (N (o467 P) e e))) (N (o112 P) (N (o176 P) (N (o304 P) (N (o563 P) e e) e) (N (o435 P) (N (o691 P) e e) e)) (N (o240 P) (N (o371 P) (N (o627 P) e e) e) (N (o499 P) e e)))))) (N (o2 P) (N (o12 P) (N (o28 P) (N (o60 P) (N (o124 P) (N (o252 P) (N (o511 P) e e) e) (N (o383 P) (N (o639 P) e e) e)) (N (o188 P) (N (o316 P) (N (o575 P) e e) e) (N (o447 P) (N (o703 P) e e) e))) (N (o92 P) (N (o156 P) (N (o284 P) (N (o543 P) e e) e) (N (o415 P) (N (o671 P) e e) e)) (N (o220 P) (N (o348 P) (N (o607 P) e e) e) (N (o479 P) e e)))) (N (o44 P) (N (o76 P) (N (o140 P) (N (o268 P) (N (o527 P) e e) e) (N (o399 P) (N (o655 P) e e) e)) (N (o204 P) (N (o332 P) (N (o591 P) e e) e) (N (o463 P) e e))) (N (o108 P) (N (o172 P) (N (o300 P) (N (o559 P) e e) e) (N (o431 P) (N (o687 P) e e) e)) (N (o236 P) (N (o367 P) (N (o623 P) e e) e) (N (o495 P) e e))))) (N (o20 P) (N (o36 P) (N (o68 P) (N (o132 P) (N (o260 P) (N (o519 P) e e) e) (N (o391 P) (N (o647 P) e e) e)) (N (o196 P) (N (o324 P) (N (o583 P) e e) e) (N (o455 P) (N (o711 P) e e) e))) (N (o100 P) (N (o164 P) (N (o292 P) (N (o551 P) e e) e) (N (o423 P) (N (o679 P) e e) e)) (N (o228 P) (N (o356 P) (N (o615 P) e e) e) (N (o487 P) e e)))) (N (o52 P) (N (o84 P) (N (o148 P) (N (o276 P) (N (o535 P) e e) e) (N (o407 P) (N (o663 P) e e) e)) (N (o212 P) (N (o340 P) (N (o599 P) e e) e) (N (o471 P) e e))) (N (o116 P) (N (o180 P) (N (o308 P) (N (o567 P) e e) e) (N (o439 P) (N (o695 P) e e) e)) (N (o244 P) (N (o375 P) (N (o631 P) e e) e) (N (o503 P) e e)))))))) (N (boot_o_2 P) (N (boot_o_4 P) (N (boot_o_8 P) (N (o7 P) (N (o23 P) (N (o55 P) (N (o119 P) (N (o247 P) (N (o506 P) e e) e) (N (o378 P) (N (o634 P) e e) e)) (N (o183 P) (N (o311 P) (N (o570 P) e e) e) (N (o442 P) (N (o698 P) e e) e))) (N (o87 P) (N (o151 P) (N (o279 P) (N (o538 P) e e) e) (N (o410 P) (N (o666 P) e e) e)) (N (o215 P) (N (o343 P) (N (o602 P) e e) e) (N (o474 P) e e)))) (N (o39 P) (N (o71 P) (N (o135 P) (N (o263 P) (N (o522 P) e e) e) (N (o394 P) (N (o650 P) e e) e)) (N (o199 P) (N (o327 P) (N (o586 P) e e) e) (N (o458 P) (N (o714 P) e e) e))) (N (o103 P) (N (o167 P) (N (o295 P) (N (o554 P) e e) e) (N (o426 P) (N (o682 P) e e) e)) (N (o231 P) (N (o359 P) (N (o618 P) e e) e) (N (o490 P) e e))))) (N (o363 P) (N (o31 P) (N (o63 P) (N (o127 P) (N (o255 P) (N (o514 P) e e) e) (N (o386 P) (N (o642 P) e e) e)) (N (o191 P) (N (o319 P) (N (o578 P) e e) e) (N (o450 P) (N (o706 P) e e) e))) (N (o95 P) (N (o159 P) (N (o287 P) (N (o546 P) e e) e) (N (o418 P) (N (o674 P) e e) e)) (N (o223 P) (N (o351 P) (N (o610 P) e e) e) (N (o482 P) e e)))) (N (o47 P) (N (o79 P) (N (o143 P) (N (o271 P) (N (o530 P) e e) e) (N (o402 P) (N (o658 P) e e) e)) (N (o207 P) (N (o335 P) (N (o594 P) e e) e) (N (o466 P) e e))) (N (o111 P) (N (o175 P) (N (o303 P) (N (o562 P) e e) e) (N (o434 P) (N (o690 P) e e) e)) (N (o239 P) (N (o370 P) (N (o626 P) e e) e) (N (o498 P) e e)))))) (N (o362 P) (N (o11 P) (N (o27 P) (N (o59 P) (N (o123 P) (N (o251 P) (N (o510 P) e e) e) (N (o382 P) (N (o638 P) e e) e)) (N (o187 P) (N (o315 P) (N (o574 P) e e) e) (N (o446 P) (N (o702 P) e e) e))) (N (o91 P) (N (o155 P) (N (o283 P) (N (o542 P) e e) e) (N (o414 P) (N (o670 P) e e) e)) (N (o219 P) (N (o347 P) (N (o606 P) e e) e) (N (o478 P) e e)))) (N (o43 P) (N (o75 P) (N (o139 P) (N (o267 P) (N (o526 P) e e) e) (N (o398 P) (N (o654 P) e e) e)) (N (o203 P) (N (o331 P) (N (o590 P) e e) e) (N (o462 P) e e))) (N (o107 P) (N (o171 P) (N (o299 P) (N (o558 P) e e) e) (N (o430 P) (N (o686 P) e e) e)) (N (o235 P) (N (o366 P) (N (o622 P) e e) e) (N (o494 P) e e))))) (N (o19 P) (N (o35 P) (N (o67 P) (N (o131 P) (N (o259 P) (N (o518 P) e e) e) (N (o390 P) (N (o646 P) e e) e)) (N (o195 P) (N (o323 P) (N (o582 P) e e) e) (N (o454 P) (N (o710 P) e e) e))) (N (o99 P) (N (o163 P) (N (o291 P) (N (o550 P) e e) e) (N (o422 P) (N (o678 P) e e) e)) (N (o227 P) (N (o355 P) (N (o614 P) e e) e) (N (o486 P) e e)))) (N (o51 P) (N (o83 P) (N (o147 P) (N (o275 P) (N (o534 P) e e) e) (N (o406 P) (N (o662 P) e e) e)) (N (o211 P) (N (o339 P) (N (o598 P) e e) e) (N (o470 P) e e))) (N (o115 P) (N (o179 P) (N (o307 P) (N (o566 P) e e) e) (N (o438 P) (N (o694 P) e e) e)) (N (o243 P) (N (o374 P) (N (o630 P) e e) e) (N (o502 P) e e))))))) (N (boot_o_6 P) (N (boot_o_10 P) (N (o9 P) (N (o25 P) (N (o57 P) (N (o121 P) (N (o249 P) (N (o508 P) e e) e) (N (o380 P) (N (o636 P) e e) e)) (N (o185 P) (N (o313 P) (N (o572 P) e e) e) (N (o444 P) (N (o700 P) e e) e))) (N (o89 P) (N (o153 P) (N (o281 P) (N (o540 P) e e) e) (N (o412 P) (N (o668 P) e e) e)) (N (o217 P) (N (o345 P) (N (o604 P) e e) e) (N (o476 P) e e)))) (N (o41 P) (N (o73 P) (N (o137 P) (N (o265 P) (N (o524 P) e e) e) (N (o396 P) (N (o652 P) e e) e)) (N (o201 P) (N (o329 P) (N (o588 P) e e) e) (N (o460 P) (N (o716 P) e e) e))) (N (o105 P) (N (o169 P) (N (o297 P) (N (o556 P) e e) e) (N (o428 P) (N (o684 P) e e) e)) (N (o233 P) (N (o364 P) (N (o620 P) e e) e) (N (o492 P) e e))))) (N (o17 P) (N (o33 P) (N (o65 P) (N (o129 P) (N (o257 P) (N (o516 P) e e) e) (N (o388 P) (N (o644 P) e e) e)) (N (o193 P) (N (o321 P) (N (o580 P) e e) e) (N (o452 P) (N (o708 P) e e) e))) (N (o97 P) (N (o161 P) (N (o289 P) (N (o548 P) e e) e) (N (o420 P) (N (o676 P) e e) e)) (N (o225 P) (N (o353 P) (N (o612 P) e e) e) (N (o484 P) e e)))) (N (o49 P) (N (o81 P) (N (o145 P) (N (o273 P) (N (o532 P) e e) e) (N (o404 P) (N (o660 P) e e) e)) (N (o209 P) (N (o337 P) (N (o596 P) e e) e) (N (o468 P) e e))) (N (o113 P) (N (o177 P) (N (o305 P) (N (o564 P) e e) e) (N (o436 P) (N (o692 P) e e) e)) (N (o241 P) (N (o372 P) (N (o628 P) e e) e) (N (o500 P) e e)))))) (N (o3 P) (N (o13 P) (N (o29 P) (N (o61 P) (N (o125 P) (N (o253 P) (N (o512 P) e e) e) (N (o384 P) (N (o640 P) e e) e)) (N (o189 P) (N (o317 P) (N (o576 P) e e) e) (N (o448 P) (N (o704 P) e e) e))) (N (o93 P) (N (o157 P) (N (o285 P) (N (o544 P) e e) e) (N (o416 P) (N (o672 P) e e) e)) (N (o221 P) (N (o349 P) (N (o608 P) e e) e) (N (o480 P) e e)))) (N (o45 P) (N (o77 P) (N (o141 P) (N (o269 P) (N (o528 P) e e) e) (N (o400 P) (N (o656 P) e e) e)) (N (o205 P) (N (o333 P) (N (o592 P) e e) e) (N (o464 P) e e))) (N (o109 P) (N (o173 P) (N (o301 P) (N (o560 P) e e) e) (N (o432 P) (N (o688 P) e e) e)) (N (o237 P) (N (o368 P) (N (o624 P) e e) e) (N (o496 P) e e))))) (N (o21 P) (N (o37 P) (N (o69 P) (N (o133 P) (N (o261 P) (N (o520 P) e e) e) (N (o392 P) (N (o648 P) e e) e)) (N (o197 P) (N (o325 P) (N (o584 P) e e) e) (N (o456 P) (N (o712 P) e e) e))) (N (o101 P) (N (o165 P) (N (o293 P) (N (o552 P) e e) e) (N (o424 P) (N (o680 P) e e) e)) (N (o229 P) (N (o357 P) (N (o616 P) e e) e) (N (o488 P) e e)))) (N (o53 P) (N (o85 P) (N (o149 P) (N (o277 P) (N (o536 P) e e) e) (N (o408 P) (N (o664 P) e e) e)) (N (o213 P) (N (o341 P) (N (o600 P) e e) e) (N (o472 P) e e))) (N (o117 P) (N (o181 P) (N (o309 P) (N (o568 P) e e) e) (N (o440 P) (N (o696 P) e e) e)) (N (o245 P) (N (o376 P) (N (o632 P) e e) e) (N (o504 P) e e)))))))))
def S2 (w : World) (os : OsState) : SharedT := ⟨T2 w.params, 724, ⟨[], [], [], 0, [], [], false, #[], [], 0, false, false, false, 0, [2000, 10, 10], false, 0, true, [], [], 0, false⟩, #[], ⟨0, 0, 0, 0⟩, 1129, os⟩
def pos2 : Pos := ⟨149, 0, 152, 26⟩
def o718 (P : Params) : Obj := ⟨(.type "dict"), none, (.dict #[E P "__name__" 165 (.str (S "meettasks.errors") 187), E P "__doc__" 166 .none, E P "__package__" 167 .none, E P "__loader__" 168 (.builtin "__main__.__loader__#opaque"), E P "__spec__" 169 .none, E P "__annotations__" 170 (.ref 6), E P "__builtins__" 171 (.ref 4), E P "__file__" 173 (.str (S "/claim/cut.py") 172), E P "__cached__" 174 .none, E P "TaskError" 206 (.ref 24), E P "BadValues" 231 (.ref 44), E P "BadStart" 256 (.ref 63), E P "BadDeeds" 281 (.ref 82), E P "BadEntries" 306 (.ref 101), E P "BadThings" 331 (.ref 120), E P "BadBody" 358 (.ref 139), E P "NoTask" 383 (.ref 158), E P "NoPath" 408 (.ref 177), E P "NoThing" 433 (.ref 196), E P "BadOrder" 458 (.ref 215), E P "NoStand" 483 (.ref 234), E P "BadSpots" 508 (.ref 253), E P "Endless" 533 (.ref 272), E P "BadEvents" 558 (.ref 291), E P "NoDeed" 583 (.ref 310), E P "BadStretch" 608 (.ref 329), E P "BadKind" 633 (.ref 348), E P "BadMany" 658 (.ref 367), E P "NotClosing" 683 (.ref 386), E P "BadTasks" 708 (.ref 405), E P "BadOffers" 733 (.ref 424), E P "BadSentence" 758 (.ref 443), E P "BadTruth" 783 (.ref 462), E P "BadMarks" 808 (.ref 481), E P "NoEntryName" 833 (.ref 500), E P "BadNames" 858 (.ref 519), E P "BadNumber" 883 (.ref 538), E P "BadCalls" 908 (.ref 557), E P "UnlikeNames" 924 (.ref 569), E P "BadServers" 951 (.ref 588), E P "BadLike" 976 (.ref 607), E P "BadWanted" 1001 (.ref 626), E P "NoSpot" 1026 (.ref 645), E P "BadStep" 1051 (.ref 664), E P "Restless" 1078 (.ref 683), E P "BadRow" 1103 (.ref 702), E P "BadLot" 1128 (.ref 721), E P "BadStates" 1153 (.ref 740), E P "UnlikeEntries" 1169 (.ref 752), E P "BadMachine" 1194 (.ref 771), E P "NoEntry" 1221 (.ref 790), E P "BadJobs" 1246 (.ref 809), E P "NoJob" 1271 (.ref 828), E P "BadComings" 1296 (.ref 847), E P "BadCeiling" 1321 (.ref 866), E P "BadEnds" 1346 (.ref 885), E P "BadTimed" 1373 (.ref 904), E P "BadFates" 1398 (.ref 923), E P "NoNote" 1423 (.ref 942), E P "NoComing" 1448 (.ref 961), E P "BadCourse" 1473 (.ref 980), E P "BadCode" 1500 (.ref 999), E P "Silent" 1527 (.ref 1018), E P "BadCuts" 1552 (.ref 1037), E P "NoRow" 1577 (.ref 1056), E P "BadLog" 1602 (.ref 1075)] 66), #[]⟩
def o719 (P : Params) : Obj := ⟨.none, none, (.fields #[(.int 2 0), (.int 0 0), (.ref 20), (.int 4 0), (.int 0 0), (.ref 33), (.int 8 0), (.int 0 0), (.ref 52), (.int 12 0), (.int 0 0), (.ref 71), (.int 16 0), (.int 0 0), (.ref 90), (.int 20 0), (.int 0 0), (.ref 109), (.int 24 0), (.int 0 0), (.ref 128), (.int 29 0), (.int 0 0), (.ref 147), (.int 33 0), (.int 0 0), (.ref 166), (.int 37 0), (.int 0 0), (.ref 185), (.int 41 0), (.int 0 0), (.ref 204), (.int 45 0), (.int 0 0), (.ref 223), (.int 49 0), (.int 0 0), (.ref 242), (.int 53 0), (.int 0 0), (.ref 261), (.int 57 0), (.int 0 0), (.ref 280), (.int 61 0), (.int 0 0), (.ref 299), (.int 65 0), (.int 0 0), (.ref 318), (.int 69 0), (.int 0 0), (.ref 337), (.int 73 0), (.int 0 0), (.ref 356), (.int 77 0), (.int 0 0), (.ref 375), (.int 81 0), (.int 0 0), (.ref 394), (.int 85 0), (.int 0 0), (.ref 413), (.int 89 0), (.int 0 0), (.ref 432), (.int 93 0), (.int 0 0), (.ref 451), (.int 97 0), (.int 0 0), (.ref 470), (.int 101 0), (.int 0 0), (.ref 489), (.int 105 0), (.int 0 0), (.ref 508), (.int 109 0), (.int 0 0), (.ref 527), (.int 113 0), (.int 0 0), (.ref 546), (.int 117 0), (.int 0 0), (.ref 565), (.int 119 0), (.int 0 0), (.ref 577), (.int 124 0), (.int 0 0), (.ref 596), (.int 128 0), (.int 0 0), (.ref 615), (.int 132 0), (.int 0 0), (.ref 634), (.int 136 0), (.int 0 0), (.ref 653), (.int 140 0), (.int 0 0), (.ref 672), (.int 145 0), (.int 0 0), (.ref 691), (.int 149 0), (.int 0 0), (.ref 710), (.int 153 0), (.int 0 0), (.ref 729), (.int 157 0), (.int 0 0), (.ref 748), (.int 159 0), (.int 0 0), (.ref 760), (.int 163 0), (.int 0 0), (.ref 779), (.int 168 0), (.int 0 0), (.ref 798), (.int 172 0), (.int 0 0), (.ref 817), (.int 176 0), (.int 0 0), (.ref 836), (.int 180 0), (.int 0 0), (.ref 855), (.int 184 0), (.int 0 0), (.ref 874), (.int 188 0), (.int 0 0), (.ref 893), (.int 193 0), (.int 0 0), (.ref 912), (.int 197 0), (.int 0 0), (.ref 931), (.int 201 0), (.int 0 0), (.ref 950), (.int 205 0), (.int 0 0), (.ref 969), (.int 209 0), (.int 0 0), (.ref 988), (.int 214 0), (.int 0 0), (.ref 1007), (.int 219 0), (.int 0 0), (.ref 1026), (.int 223 0), (.int 0 0), (.ref 1045), (.int 227 0), (.int 0 0), (.ref 1064)]), #[]⟩
def o720 (P : Params) : Obj := ⟨(.type "type"), none, (.cls ⟨(S "TaskError"), [(.type "ValueError")], [(.ref 24), (.type "ValueError"), (.type "Exception"), (.type "BaseException"), (.type "object")], 23, (S "TaskError"), true, [], [(.ref 44), (.ref 63), (.ref 82), (.ref 101), (.ref 120), (.ref 139), (.ref 158), (.ref 177), (.ref 196), (.ref 215), (.ref 234), (.ref 253), (.ref 272), (.ref 291), (.ref 310), (.ref 329), (.ref 348), (.ref 367), (.ref 386), (.ref 405), (.ref 424), (.ref 443), (.ref 462), (.ref 481), (.ref 500), (.ref 519), (.ref 538), (.ref 557), (.ref 569), (.ref 588), (.ref 607), (.ref 626), (.ref 645), (.ref 664), (.ref 683), (.ref 702), (.ref 721), (.ref 740), (.ref 752), (.ref 771), (.ref 790), (.ref 809), (.ref 828), (.ref 847), (.ref 866), (.ref 885), (.ref 904), (.ref 923), (.ref 942), (.ref 961), (.ref 980), (.ref 999), (.ref 1018), (.ref 1037), (.ref 1056), (.ref 1075)], false, none, false⟩), #[(some (.ref 15)), none, (some (.str (S "TaskError") 189)), (some (.str (S "TaskError") 197)), (some (.builtin "ValueError.__new__")), (some (.bool true))]⟩
def o721 (P : Params) : Obj := ⟨(.type "tuple"), none, (.seq #[(.ref 24)] 0), #[]⟩
def o722 (P : Params) : Obj := ⟨(.type "builtin_function_or_method"), none, (.fields #[(.builtin "type.__prepare__"), (.type "type")]), #[]⟩
def o723 (P : Params) : Obj := ⟨(.type "dict"), none, (.dict #[E P "__module__" 1136 (.str (S "meettasks.errors") 187), E P "__qualname__" 1138 (.str (S "BadStates") 1137), E P "__firstlineno__" 1140 (.int 153 1139), E P "__init__" 1148 (.ref 737), E P "__static_attributes__" 1150 (.ref 738)] 5), #[]⟩
def o724 (P : Params) : Obj := ⟨(.type "tuple"), none, (.seq #[] 0), #[]⟩
def o725 (P : Params) : Obj := ⟨.none, none, (.fields #[(.int 155 0), (.int 4 0), (.ref 736)]), #[]⟩
def o726 (P : Params) : Obj := ⟨(.type "code"), none, (.fields #[(.str (S "BadStates") 1131), (.str (S "BadStates") 1132), (.str (S "/claim/cut.py") 1133), (.int 153 0), (.int 0 0), (.int 0 0), (.int 0 0), (.int 0 0), (.ref 727), (.bool false), (.int 181 0), (.ref 728), .none, .none, .none, .none, (.int 1134 0), (.int 153 0), (.str (S "/claim/cut.py") 1135)]), #[]⟩
def o727 (P : Params) : Obj := ⟨(.type "frame"), none, .plain, #[(some (.ref 729)), (some (.ref 3)), (some (.ref 726)), none, (some (.str (S "meettasks.errors") 187)), none, (some (.ref 0))]⟩
def o728 (P : Params) : Obj := ⟨(.type "tuple"), none, (.seq #[] 0), #[]⟩
def o729 (P : Params) : Obj := ⟨.none, none, (.fields #[]), #[]⟩
def o730 (P : Params) : Obj := ⟨(.type "tuple"), none, (.seq #[(.str (S "self") 1144), (.str (S "index") 1145)] 0), #[]⟩
def o731 (P : Params) : Obj := ⟨(.type "tuple"), none, (.seq #[] 0), #[]⟩
def o732 (P : Params) : Obj := ⟨.none, none, (.func ⟨(S "__init__"), (S "BadStates.__init__"), (dM 39 0).params, .stmts (dM 39 0).body, (dM 39 0).scope, 0, [], .none, .none, .none, .none, none, .none, .none, 0⟩), #[]⟩
def o733 (P : Params) : Obj := ⟨(.type "code"), none, (.fields #[(.str (S "__init__") 1141), (.str (S "BadStates.__init__") 1142), (.str (S "/claim/cut.py") 1143), (.int 155 0), (.int 2 0), (.int 0 0), (.int 0 0), (.int 3 0), (.ref 731), (.bool true), (.int 181 0), (.ref 732), .none, (.ref 733), (.ref 734), (.ref 735), (.int 1146 0), (.int 155 0), (.str (S "/claim/cut.py") 1147)]), #[]⟩
def o734 (P : Params) : Obj := ⟨(.type "function"), none, (.func ⟨(S "__init__"), (S "BadStates.__init__"), (dM 39 0).params, .stmts (dM 39 0).body, (dM 39 0).scope, 3, [], .none, .none, .none, (.str (S "meettasks.errors") 187), none, (.ref 736), .none, 0⟩), #[]⟩
def o735 (P : Params) : Obj := ⟨(.type "tuple"), none, (.seq #[(.str (S "index") 1149)] 0), #[]⟩
def o736 (P : Params) : Obj := ⟨(.type "dict"), none, (.dict #[E P "__module__" 1136 (.str (S "meettasks.errors") 187), E P "__firstlineno__" 1140 (.int 153 1139), E P "__init__" 1148 (.ref 737), E P "__static_attributes__" 1150 (.ref 738), E P "__doc__" 1151 .none] 2), #[]⟩
def o737 (P : Params) : Obj := ⟨(.type "type"), none, (.cls ⟨(S "BadStates"), [(.ref 24)], [(.ref 740), (.ref 24), (.type "ValueError"), (.type "Exception"), (.type "BaseException"), (.type "object")], 739, (S "BadStates"), true, [], [], false, none, false⟩), #[(some (.ref 724)), none, (some (.str (S "BadStates") 1129)), (some (.str (S "BadStates") 1137)), (some (.builtin "ValueError.__new__")), (some (.bool true))]⟩
def o738 (P : Params) : Obj := ⟨(.type "super"), none, (.fields #[(.ref 740), (.ref 740), (.ref 740)]), #[]⟩
def o739 (P : Params) : Obj := ⟨(.type "builtin_function_or_method"), none, (.fields #[(.builtin "object.__init_subclass__"), (.ref 740)]), #[]⟩
def o740 (P : Params) : Obj := ⟨(.type "tuple"), none, (.seq #[(.ref 24)] 0), #[]⟩
def o741 (P : Params) : Obj := ⟨(.type "builtin_function_or_method"), none, (.fields #[(.builtin "type.__prepare__"), (.type "type")]), #[]⟩
def o742 (P : Params) : Obj := ⟨(.type "dict"), none, (.dict #[E P "__module__" 1161 (.str (S "meettasks.errors") 187), E P "__qualname__" 1163 (.str (S "UnlikeEntries") 1162), E P "__firstlineno__" 1165 (.int 157 1164), E P "__static_attributes__" 1166 (.ref 750)] 4), #[]⟩
def o743 (P : Params) : Obj := ⟨(.type "tuple"), none, (.seq #[] 0), #[]⟩
def o744 (P : Params) : Obj := ⟨.none, none, (.fields #[]), #[]⟩
def o745 (P : Params) : Obj := ⟨(.type "code"), none, (.fields #[(.str (S "UnlikeEntries") 1156), (.str (S "UnlikeEntries") 1157), (.str (S "/claim/cut.py") 1158), (.int 157 0), (.int 0 0), (.int 0 0), (.int 0 0), (.int 0 0), (.ref 746), (.bool false), (.int 181 0), (.ref 747), .none, .none, .none, .none, (.int 1159 0), (.int 157 0), (.str (S "/claim/cut.py") 1160)]), #[]⟩
def o746 (P : Params) : Obj := ⟨(.type "frame"), none, .plain, #[(some (.ref 748)), (some (.ref 3)), (some (.ref 745)), none, (some (.str (S "meettasks.errors") 187)), none, (some (.ref 0))]⟩
def o747 (P : Params) : Obj := ⟨(.type "tuple"), none, (.seq #[] 0), #[]⟩
def o748 (P : Params) : Obj := ⟨(.type "dict"), none, (.dict #[E P "__module__" 1161 (.str (S "meettasks.errors") 187), E P "__firstlineno__" 1165 (.int 157 1164), E P "__static_attributes__" 1166 (.ref 750), E P "__doc__" 1167 .none] 2), #[]⟩
def o749 (P : Params) : Obj := ⟨(.type "type"), none, (.cls ⟨(S "UnlikeEntries"), [(.ref 24)], [(.ref 752), (.ref 24), (.type "ValueError"), (.type "Exception"), (.type "BaseException"), (.type "object")], 751, (S "UnlikeEntries"), true, [], [], false, none, false⟩), #[(some (.ref 743)), none, (some (.str (S "UnlikeEntries") 1154)), (some (.str (S "UnlikeEntries") 1162)), (some (.builtin "ValueError.__new__")), (some (.bool true))]⟩
def o750 (P : Params) : Obj := ⟨(.type "super"), none, (.fields #[(.ref 752), (.ref 752), (.ref 752)]), #[]⟩
def o751 (P : Params) : Obj := ⟨(.type "builtin_function_or_method"), none, (.fields #[(.builtin "object.__init_subclass__"), (.ref 752)]), #[]⟩
def o752 (P : Params) : Obj := ⟨(.type "tuple"), none, (.seq #[(.ref 24)] 0), #[]⟩
def o753 (P : Params) : Obj := ⟨(.type "builtin_function_or_method"), none, (.fields #[(.builtin "type.__prepare__"), (.type "type")]), #[]⟩
def o754 (P : Params) : Obj := ⟨(.type "dict"), none, (.dict #[E P "__module__" 1177 (.str (S "meettasks.errors") 187), E P "__qualname__" 1179 (.str (S "BadMachine") 1178), E P "__firstlineno__" 1181 (.int 159 1180), E P "__init__" 1189 (.ref 768), E P "__static_attributes__" 1191 (.ref 769)] 5), #[]⟩
def o755 (P : Params) : Obj := ⟨(.type "tuple"), none, (.seq #[] 0), #[]⟩
def o756 (P : Params) : Obj := ⟨.none, none, (.fields #[(.int 161 0), (.int 4 0), (.ref 767)]), #[]⟩
def o757 (P : Params) : Obj := ⟨(.type "code"), none, (.fields #[(.str (S "BadMachine") 1172), (.str (S "BadMachine") 1173), (.str (S "/claim/cut.py") 1174), (.int 159 0), (.int 0 0), (.int 0 0), (.int 0 0), (.int 0 0), (.ref 758), (.bool false), (.int 181 0), (.ref 759), .none, .none, .none, .none, (.int 1175 0), (.int 159 0), (.str (S "/claim/cut.py") 1176)]), #[]⟩
def o758 (P : Params) : Obj := ⟨(.type "frame"), none, .plain, #[(some (.ref 760)), (some (.ref 3)), (some (.ref 757)), none, (some (.str (S "meettasks.errors") 187)), none, (some (.ref 0))]⟩
def o759 (P : Params) : Obj := ⟨(.type "tuple"), none, (.seq #[] 0), #[]⟩
def o760 (P : Params) : Obj := ⟨.none, none, (.fields #[]), #[]⟩
def o761 (P : Params) : Obj := ⟨(.type "tuple"), none, (.seq #[(.str (S "self") 1185), (.str (S "thing") 1186)] 0), #[]⟩
def o762 (P : Params) : Obj := ⟨(.type "tuple"), none, (.seq #[] 0), #[]⟩
def o763 (P : Params) : Obj := ⟨.none, none, (.func ⟨(S "__init__"), (S "BadMachine.__init__"), (dM 41 0).params, .stmts (dM 41 0).body, (dM 41 0).scope, 0, [], .none, .none, .none, .none, none, .none, .none, 0⟩), #[]⟩
def o764 (P : Params) : Obj := ⟨(.type "code"), none, (.fields #[(.str (S "__init__") 1182), (.str (S "BadMachine.__init__") 1183), (.str (S "/claim/cut.py") 1184), (.int 161 0), (.int 2 0), (.int 0 0), (.int 0 0), (.int 3 0), (.ref 762), (.bool true), (.int 181 0), (.ref 763), .none, (.ref 764), (.ref 765), (.ref 766), (.int 1187 0), (.int 161 0), (.str (S "/claim/cut.py") 1188)]), #[]⟩
def o765 (P : Params) : Obj := ⟨(.type "function"), none, (.func ⟨(S "__init__"), (S "BadMachine.__init__"), (dM 41 0).params, .stmts (dM 41 0).body, (dM 41 0).scope, 3, [], .none, .none, .none, (.str (S "meettasks.errors") 187), none, (.ref 767), .none, 0⟩), #[]⟩
def o766 (P : Params) : Obj := ⟨(.type "tuple"), none, (.seq #[(.str (S "thing") 1190)] 0), #[]⟩
def o767 (P : Params) : Obj := ⟨(.type "dict"), none, (.dict #[E P "__module__" 1177 (.str (S "meettasks.errors") 187), E P "__firstlineno__" 1181 (.int 159 1180), E P "__init__" 1189 (.ref 768), E P "__static_attributes__" 1191 (.ref 769), E P "__doc__" 1192 .none] 2), #[]⟩
def o768 (P : Params) : Obj := ⟨(.type "type"), none, (.cls ⟨(S "BadMachine"), [(.ref 24)], [(.ref 771), (.ref 24), (.type "ValueError"), (.type "Exception"), (.type "BaseException"), (.type "object")], 770, (S "BadMachine"), true, [], [], false, none, false⟩), #[(some (.ref 755)), none, (some (.str (S "BadMachine") 1170)), (some (.str (S "BadMachine") 1178)), (some (.builtin "ValueError.__new__")), (some (.bool true))]⟩
def o769 (P : Params) : Obj := ⟨(.type "super"), none, (.fields #[(.ref 771), (.ref 771), (.ref 771)]), #[]⟩
def o770 (P : Params) : Obj := ⟨(.type "builtin_function_or_method"), none, (.fields #[(.builtin "object.__init_subclass__"), (.ref 771)]), #[]⟩
def o771 (P : Params) : Obj := ⟨(.type "tuple"), none, (.seq #[(.ref 24)] 0), #[]⟩
def o772 (P : Params) : Obj := ⟨(.type "builtin_function_or_method"), none, (.fields #[(.builtin "type.__prepare__"), (.type "type")]), #[]⟩
def o773 (P : Params) : Obj := ⟨(.type "dict"), none, (.dict #[E P "__module__" 1202 (.str (S "meettasks.errors") 187), E P "__qualname__" 1204 (.str (S "NoEntry") 1203), E P "__firstlineno__" 1206 (.int 163 1205), E P "__init__" 1215 (.ref 787), E P "__static_attributes__" 1218 (.ref 788)] 5), #[]⟩
def o774 (P : Params) : Obj := ⟨(.type "tuple"), none, (.seq #[] 0), #[]⟩
def o775 (P : Params) : Obj := ⟨.none, none, (.fields #[(.int 165 0), (.int 4 0), (.ref 786)]), #[]⟩
def o776 (P : Params) : Obj := ⟨(.type "code"), none, (.fields #[(.str (S "NoEntry") 1197), (.str (S "NoEntry") 1198), (.str (S "/claim/cut.py") 1199), (.int 163 0), (.int 0 0), (.int 0 0), (.int 0 0), (.int 0 0), (.ref 777), (.bool false), (.int 181 0), (.ref 778), .none, .none, .none, .none, (.int 1200 0), (.int 163 0), (.str (S "/claim/cut.py") 1201)]), #[]⟩
def o777 (P : Params) : Obj := ⟨(.type "frame"), none, .plain, #[(some (.ref 779)), (some (.ref 3)), (some (.ref 776)), none, (some (.str (S "meettasks.errors") 187)), none, (some (.ref 0))]⟩
def o778 (P : Params) : Obj := ⟨(.type "tuple"), none, (.seq #[] 0), #[]⟩
def o779 (P : Params) : Obj := ⟨.none, none, (.fields #[]), #[]⟩
def o780 (P : Params) : Obj := ⟨(.type "tuple"), none, (.seq #[(.str (S "self") 1210), (.str (S "owner") 1211), (.str (S "entry") 1212)] 0), #[]⟩
def o781 (P : Params) : Obj := ⟨(.type "tuple"), none, (.seq #[] 0), #[]⟩
def o782 (P : Params) : Obj := ⟨.none, none, (.func ⟨(S "__init__"), (S "NoEntry.__init__"), (dM 42 0).params, .stmts (dM 42 0).body, (dM 42 0).scope, 0, [], .none, .none, .none, .none, none, .none, .none, 0⟩), #[]⟩
def o783 (P : Params) : Obj := ⟨(.type "code"), none, (.fields #[(.str (S "__init__") 1207), (.str (S "NoEntry.__init__") 1208), (.str (S "/claim/cut.py") 1209), (.int 165 0), (.int 3 0), (.int 0 0), (.int 0 0), (.int 3 0), (.ref 781), (.bool true), (.int 181 0), (.ref 782), .none, (.ref 783), (.ref 784), (.ref 785), (.int 1213 0), (.int 165 0), (.str (S "/claim/cut.py") 1214)]), #[]⟩
def o784 (P : Params) : Obj := ⟨(.type "function"), none, (.func ⟨(S "__init__"), (S "NoEntry.__init__"), (dM 42 0).params, .stmts (dM 42 0).body, (dM 42 0).scope, 3, [], .none, .none, .none, (.str (S "meettasks.errors") 187), none, (.ref 786), .none, 0⟩), #[]⟩
def o785 (P : Params) : Obj := ⟨(.type "tuple"), none, (.seq #[(.str (S "entry") 1216), (.str (S "owner") 1217)] 0), #[]⟩
def o786 (P : Params) : Obj := ⟨(.type "dict"), none, (.dict #[E P "__module__" 1202 (.str (S "meettasks.errors") 187), E P "__firstlineno__" 1206 (.int 163 1205), E P "__init__" 1215 (.ref 787), E P "__static_attributes__" 1218 (.ref 788), E P "__doc__" 1219 .none] 2), #[]⟩
def o787 (P : Params) : Obj := ⟨(.type "type"), none, (.cls ⟨(S "NoEntry"), [(.ref 24)], [(.ref 790), (.ref 24), (.type "ValueError"), (.type "Exception"), (.type "BaseException"), (.type "object")], 789, (S "NoEntry"), true, [], [], false, none, false⟩), #[(some (.ref 774)), none, (some (.str (S "NoEntry") 1195)), (some (.str (S "NoEntry") 1203)), (some (.builtin "ValueError.__new__")), (some (.bool true))]⟩
def o788 (P : Params) : Obj := ⟨(.type "super"), none, (.fields #[(.ref 790), (.ref 790), (.ref 790)]), #[]⟩
def o789 (P : Params) : Obj := ⟨(.type "builtin_function_or_method"), none, (.fields #[(.builtin "object.__init_subclass__"), (.ref 790)]), #[]⟩
def o790 (P : Params) : Obj := ⟨(.type "tuple"), none, (.seq #[(.ref 24)] 0), #[]⟩
def o791 (P : Params) : Obj := ⟨(.type "builtin_function_or_method"), none, (.fields #[(.builtin "type.__prepare__"), (.type "type")]), #[]⟩
def o792 (P : Params) : Obj := ⟨(.type "dict"), none, (.dict #[E P "__module__" 1229 (.str (S "meettasks.errors") 187), E P "__qualname__" 1231 (.str (S "BadJobs") 1230), E P "__firstlineno__" 1233 (.int 168 1232), E P "__init__" 1241 (.ref 806), E P "__static_attributes__" 1243 (.ref 807)] 5), #[]⟩
def o793 (P : Params) : Obj := ⟨(.type "tuple"), none, (.seq #[] 0), #[]⟩
def o794 (P : Params) : Obj := ⟨.none, none, (.fields #[(.int 170 0), (.int 4 0), (.ref 805)]), #[]⟩
def o795 (P : Params) : Obj := ⟨(.type "code"), none, (.fields #[(.str (S "BadJobs") 1224), (.str (S "BadJobs") 1225), (.str (S "/claim/cut.py") 1226), (.int 168 0), (.int 0 0), (.int 0 0), (.int 0 0), (.int 0 0), (.ref 796), (.bool false), (.int 181 0), (.ref 797), .none, .none, .none, .none, (.int 1227 0), (.int 168 0), (.str (S "/claim/cut.py") 1228)]), #[]⟩
def o796 (P : Params) : Obj := ⟨(.type "frame"), none, .plain, #[(some (.ref 798)), (some (.ref 3)), (some (.ref 795)), none, (some (.str (S "meettasks.errors") 187)), none, (some (.ref 0))]⟩
def o797 (P : Params) : Obj := ⟨(.type "tuple"), none, (.seq #[] 0), #[]⟩
def o798 (P : Params) : Obj := ⟨.none, none, (.fields #[]), #[]⟩
def o799 (P : Params) : Obj := ⟨(.type "tuple"), none, (.seq #[(.str (S "self") 1237), (.str (S "job") 1238)] 0), #[]⟩
def o800 (P : Params) : Obj := ⟨(.type "tuple"), none, (.seq #[] 0), #[]⟩
def o801 (P : Params) : Obj := ⟨.none, none, (.func ⟨(S "__init__"), (S "BadJobs.__init__"), (dM 43 0).params, .stmts (dM 43 0).body, (dM 43 0).scope, 0, [], .none, .none, .none, .none, none, .none, .none, 0⟩), #[]⟩
def o802 (P : Params) : Obj := ⟨(.type "code"), none, (.fields #[(.str (S "__init__") 1234), (.str (S "BadJobs.__init__") 1235), (.str (S "/claim/cut.py") 1236), (.int 170 0), (.int 2 0), (.int 0 0), (.int 0 0), (.int 3 0), (.ref 800), (.bool true), (.int 181 0), (.ref 801), .none, (.ref 802), (.ref 803), (.ref 804), (.int 1239 0), (.int 170 0), (.str (S "/claim/cut.py") 1240)]), #[]⟩
def o803 (P : Params) : Obj := ⟨(.type "function"), none, (.func ⟨(S "__init__"), (S "BadJobs.__init__"), (dM 43 0).params, .stmts (dM 43 0).body, (dM 43 0).scope, 3, [], .none, .none, .none, (.str (S "meettasks.errors") 187), none, (.ref 805), .none, 0⟩), #[]⟩
def o804 (P : Params) : Obj := ⟨(.type "tuple"), none, (.seq #[(.str (S "job") 1242)] 0), #[]⟩
def o805 (P : Params) : Obj := ⟨(.type "dict"), none, (.dict #[E P "__module__" 1229 (.str (S "meettasks.errors") 187), E P "__firstlineno__" 1233 (.int 168 1232), E P "__init__" 1241 (.ref 806), E P "__static_attributes__" 1243 (.ref 807), E P "__doc__" 1244 .none] 2), #[]⟩
def o806 (P : Params) : Obj := ⟨(.type "type"), none, (.cls ⟨(S "BadJobs"), [(.ref 24)], [(.ref 809), (.ref 24), (.type "ValueError"), (.type "Exception"), (.type "BaseException"), (.type "object")], 808, (S "BadJobs"), true, [], [], false, none, false⟩), #[(some (.ref 793)), none, (some (.str (S "BadJobs") 1222)), (some (.str (S "BadJobs") 1230)), (some (.builtin "ValueError.__new__")), (some (.bool true))]⟩
def o807 (P : Params) : Obj := ⟨(.type "super"), none, (.fields #[(.ref 809), (.ref 809), (.ref 809)]), #[]⟩
def o808 (P : Params) : Obj := ⟨(.type "builtin_function_or_method"), none, (.fields #[(.builtin "object.__init_subclass__"), (.ref 809)]), #[]⟩
def o809 (P : Params) : Obj := ⟨(.type "tuple"), none, (.seq #[(.ref 24)] 0), #[]⟩
def o810 (P : Params) : Obj := ⟨(.type "builtin_function_or_method"), none, (.fields #[(.builtin "type.__prepare__"), (.type "type")]), #[]⟩
def o811 (P : Params) : Obj := ⟨(.type "dict"), none, (.dict #[E P "__module__" 1254 (.str (S "meettasks.errors") 187), E P "__qualname__" 1256 (.str (S "NoJob") 1255), E P "__firstlineno__" 1258 (.int 172 1257), E P "__init__" 1266 (.ref 825), E P "__static_attributes__" 1268 (.ref 826)] 5), #[]⟩
def o812 (P : Params) : Obj := ⟨(.type "tuple"), none, (.seq #[] 0), #[]⟩
def o813 (P : Params) : Obj := ⟨.none, none, (.fields #[(.int 174 0), (.int 4 0), (.ref 824)]), #[]⟩
def o814 (P : Params) : Obj := ⟨(.type "code"), none, (.fields #[(.str (S "NoJob") 1249), (.str (S "NoJob") 1250), (.str (S "/claim/cut.py") 1251), (.int 172 0), (.int 0 0), (.int 0 0), (.int 0 0), (.int 0 0), (.ref 815), (.bool false), (.int 181 0), (.ref 816), .none, .none, .none, .none, (.int 1252 0), (.int 172 0), (.str (S "/claim/cut.py") 1253)]), #[]⟩
def o815 (P : Params) : Obj := ⟨(.type "frame"), none, .plain, #[(some (.ref 817)), (some (.ref 3)), (some (.ref 814)), none, (some (.str (S "meettasks.errors") 187)), none, (some (.ref 0))]⟩
def o816 (P : Params) : Obj := ⟨(.type "tuple"), none, (.seq #[] 0), #[]⟩
def o817 (P : Params) : Obj := ⟨.none, none, (.fields #[]), #[]⟩
def o818 (P : Params) : Obj := ⟨(.type "tuple"), none, (.seq #[(.str (S "self") 1262), (.str (S "job") 1263)] 0), #[]⟩
def o819 (P : Params) : Obj := ⟨(.type "tuple"), none, (.seq #[] 0), #[]⟩
def o820 (P : Params) : Obj := ⟨.none, none, (.func ⟨(S "__init__"), (S "NoJob.__init__"), (dM 44 0).params, .stmts (dM 44 0).body, (dM 44 0).scope, 0, [], .none, .none, .none, .none, none, .none, .none, 0⟩), #[]⟩
def o821 (P : Params) : Obj := ⟨(.type "code"), none, (.fields #[(.str (S "__init__") 1259), (.str (S "NoJob.__init__") 1260), (.str (S "/claim/cut.py") 1261), (.int 174 0), (.int 2 0), (.int 0 0), (.int 0 0), (.int 3 0), (.ref 819), (.bool true), (.int 181 0), (.ref 820), .none, (.ref 821), (.ref 822), (.ref 823), (.int 1264 0), (.int 174 0), (.str (S "/claim/cut.py") 1265)]), #[]⟩
def o822 (P : Params) : Obj := ⟨(.type "function"), none, (.func ⟨(S "__init__"), (S "NoJob.__init__"), (dM 44 0).params, .stmts (dM 44 0).body, (dM 44 0).scope, 3, [], .none, .none, .none, (.str (S "meettasks.errors") 187), none, (.ref 824), .none, 0⟩), #[]⟩
def o823 (P : Params) : Obj := ⟨(.type "tuple"), none, (.seq #[(.str (S "job") 1267)] 0), #[]⟩
def o824 (P : Params) : Obj := ⟨(.type "dict"), none, (.dict #[E P "__module__" 1254 (.str (S "meettasks.errors") 187), E P "__firstlineno__" 1258 (.int 172 1257), E P "__init__" 1266 (.ref 825), E P "__static_attributes__" 1268 (.ref 826), E P "__doc__" 1269 .none] 2), #[]⟩
def o825 (P : Params) : Obj := ⟨(.type "type"), none, (.cls ⟨(S "NoJob"), [(.ref 24)], [(.ref 828), (.ref 24), (.type "ValueError"), (.type "Exception"), (.type "BaseException"), (.type "object")], 827, (S "NoJob"), true, [], [], false, none, false⟩), #[(some (.ref 812)), none, (some (.str (S "NoJob") 1247)), (some (.str (S "NoJob") 1255)), (some (.builtin "ValueError.__new__")), (some (.bool true))]⟩
def o826 (P : Params) : Obj := ⟨(.type "super"), none, (.fields #[(.ref 828), (.ref 828), (.ref 828)]), #[]⟩
def o827 (P : Params) : Obj := ⟨(.type "builtin_function_or_method"), none, (.fields #[(.builtin "object.__init_subclass__"), (.ref 828)]), #[]⟩
def o828 (P : Params) : Obj := ⟨(.type "tuple"), none, (.seq #[(.ref 24)] 0), #[]⟩
def o829 (P : Params) : Obj := ⟨(.type "builtin_function_or_method"), none, (.fields #[(.builtin "type.__prepare__"), (.type "type")]), #[]⟩
def o830 (P : Params) : Obj := ⟨(.type "dict"), none, (.dict #[E P "__module__" 1279 (.str (S "meettasks.errors") 187), E P "__qualname__" 1281 (.str (S "BadComings") 1280), E P "__firstlineno__" 1283 (.int 176 1282), E P "__init__" 1291 (.ref 844), E P "__static_attributes__" 1293 (.ref 845)] 5), #[]⟩
def o831 (P : Params) : Obj := ⟨(.type "tuple"), none, (.seq #[] 0), #[]⟩
def o832 (P : Params) : Obj := ⟨.none, none, (.fields #[(.int 178 0), (.int 4 0), (.ref 843)]), #[]⟩
def o833 (P : Params) : Obj := ⟨(.type "code"), none, (.fields #[(.str (S "BadComings") 1274), (.str (S "BadComings") 1275), (.str (S "/claim/cut.py") 1276), (.int 176 0), (.int 0 0), (.int 0 0), (.int 0 0), (.int 0 0), (.ref 834), (.bool false), (.int 181 0), (.ref 835), .none, .none, .none, .none, (.int 1277 0), (.int 176 0), (.str (S "/claim/cut.py") 1278)]), #[]⟩
def o834 (P : Params) : Obj := ⟨(.type "frame"), none, .plain, #[(some (.ref 836)), (some (.ref 3)), (some (.ref 833)), none, (some (.str (S "meettasks.errors") 187)), none, (some (.ref 0))]⟩
def o835 (P : Params) : Obj := ⟨(.type "tuple"), none, (.seq #[] 0), #[]⟩
def o836 (P : Params) : Obj := ⟨.none, none, (.fields #[]), #[]⟩
def o837 (P : Params) : Obj := ⟨(.type "tuple"), none, (.seq #[(.str (S "self") 1287), (.str (S "job") 1288)] 0), #[]⟩
def o838 (P : Params) : Obj := ⟨(.type "tuple"), none, (.seq #[] 0), #[]⟩
def o839 (P : Params) : Obj := ⟨.none, none, (.func ⟨(S "__init__"), (S "BadComings.__init__"), (dM 45 0).params, .stmts (dM 45 0).body, (dM 45 0).scope, 0, [], .none, .none, .none, .none, none, .none, .none, 0⟩), #[]⟩
def o840 (P : Params) : Obj := ⟨(.type "code"), none, (.fields #[(.str (S "__init__") 1284), (.str (S "BadComings.__init__") 1285), (.str (S "/claim/cut.py") 1286), (.int 178 0), (.int 2 0), (.int 0 0), (.int 0 0), (.int 3 0), (.ref 838), (.bool true), (.int 181 0), (.ref 839), .none, (.ref 840), (.ref 841), (.ref 842), (.int 1289 0), (.int 178 0), (.str (S "/claim/cut.py") 1290)]), #[]⟩
def o841 (P : Params) : Obj := ⟨(.type "function"), none, (.func ⟨(S "__init__"), (S "BadComings.__init__"), (dM 45 0).params, .stmts (dM 45 0).body, (dM 45 0).scope, 3, [], .none, .none, .none, (.str (S "meettasks.errors") 187), none, (.ref 843), .none, 0⟩), #[]⟩
def o842 (P : Params) : Obj := ⟨(.type "tuple"), none, (.seq #[(.str (S "job") 1292)] 0), #[]⟩
def o843 (P : Params) : Obj := ⟨(.type "dict"), none, (.dict #[E P "__module__" 1279 (.str (S "meettasks.errors") 187), E P "__firstlineno__" 1283 (.int 176 1282), E P "__init__" 1291 (.ref 844), E P "__static_attributes__" 1293 (.ref 845), E P "__doc__" 1294 .none] 2), #[]⟩
def o844 (P : Params) : Obj := ⟨(.type "type"), none, (.cls ⟨(S "BadComings"), [(.ref 24)], [(.ref 847), (.ref 24), (.type "ValueError"), (.type "Exception"), (.type "BaseException"), (.type "object")], 846, (S "BadComings"), true, [], [], false, none, false⟩), #[(some (.ref 831)), none, (some (.str (S "BadComings") 1272)), (some (.str (S "BadComings") 1280)), (some (.builtin "ValueError.__new__")), (some (.bool true))]⟩
def o845 (P : Params) : Obj := ⟨(.type "super"), none, (.fields #[(.ref 847), (.ref 847), (.ref 847)]), #[]⟩
def o846 (P : Params) : Obj := ⟨(.type "builtin_function_or_method"), none, (.fields #[(.builtin "object.__init_subclass__"), (.ref 847)]), #[]⟩
def o847 (P : Params) : Obj := ⟨(.type "tuple"), none, (.seq #[(.ref 24)] 0), #[]⟩
def o848 (P : Params) : Obj := ⟨(.type "builtin_function_or_method"), none, (.fields #[(.builtin "type.__prepare__"), (.type "type")]), #[]⟩
def o849 (P : Params) : Obj := ⟨(.type "dict"), none, (.dict #[E P "__module__" 1304 (.str (S "meettasks.errors") 187), E P "__qualname__" 1306 (.str (S "BadCeiling") 1305), E P "__firstlineno__" 1308 (.int 180 1307), E P "__init__" 1316 (.ref 863), E P "__static_attributes__" 1318 (.ref 864)] 5), #[]⟩
def o850 (P : Params) : Obj := ⟨(.type "tuple"), none, (.seq #[] 0), #[]⟩
def o851 (P : Params) : Obj := ⟨.none, none, (.fields #[(.int 182 0), (.int 4 0), (.ref 862)]), #[]⟩
def o852 (P : Params) : Obj := ⟨(.type "code"), none, (.fields #[(.str (S "BadCeiling") 1299), (.str (S "BadCeiling") 1300), (.str (S "/claim/cut.py") 1301), (.int 180 0), (.int 0 0), (.int 0 0), (.int 0 0), (.int 0 0), (.ref 853), (.bool false), (.int 181 0), (.ref 854), .none, .none, .none, .none, (.int 1302 0), (.int 180 0), (.str (S "/claim/cut.py") 1303)]), #[]⟩
def o853 (P : Params) : Obj := ⟨(.type "frame"), none, .plain, #[(some (.ref 855)), (some (.ref 3)), (some (.ref 852)), none, (some (.str (S "meettasks.errors") 187)), none, (some (.ref 0))]⟩
def o854 (P : Params) : Obj := ⟨(.type "tuple"), none, (.seq #[] 0), #[]⟩
def o855 (P : Params) : Obj := ⟨.none, none, (.fields #[]), #[]⟩
def o856 (P : Params) : Obj := ⟨(.type "tuple"), none, (.seq #[(.str (S "self") 1312), (.str (S "ceiling") 1313)] 0), #[]⟩
def o857 (P : Params) : Obj := ⟨(.type "tuple"), none, (.seq #[] 0), #[]⟩
def o858 (P : Params) : Obj := ⟨.none, none, (.func ⟨(S "__init__"), (S "BadCeiling.__init__"), (dM 46 0).params, .stmts (dM 46 0).body, (dM 46 0).scope, 0, [], .none, .none, .none, .none, none, .none, .none, 0⟩), #[]⟩
def o859 (P : Params) : Obj := ⟨(.type "code"), none, (.fields #[(.str (S "__init__") 1309), (.str (S "BadCeiling.__init__") 1310), (.str (S "/claim/cut.py") 1311), (.int 182 0), (.int 2 0), (.int 0 0), (.int 0 0), (.int 3 0), (.ref 857), (.bool true), (.int 181 0), (.ref 858), .none, (.ref 859), (.ref 860), (.ref 861), (.int 1314 0), (.int 182 0), (.str (S "/claim/cut.py") 1315)]), #[]⟩
def o860 (P : Params) : Obj := ⟨(.type "function"), none, (.func ⟨(S "__init__"), (S "BadCeiling.__init__"), (dM 46 0).params, .stmts (dM 46 0).body, (dM 46 0).scope, 3, [], .none, .none, .none, (.str (S "meettasks.errors") 187), none, (.ref 862), .none, 0⟩), #[]⟩
def o861 (P : Params) : Obj := ⟨(.type "tuple"), none, (.seq #[(.str (S "ceiling") 1317)] 0), #[]⟩
def o862 (P : Params) : Obj := ⟨(.type "dict"), none, (.dict #[E P "__module__" 1304 (.str (S "meettasks.errors") 187), E P "__firstlineno__" 1308 (.int 180 1307), E P "__init__" 1316 (.ref 863), E P "__static_attributes__" 1318 (.ref 864), E P "__doc__" 1319 .none] 2), #[]⟩
def o863 (P : Params) : Obj := ⟨(.type "type"), none, (.cls ⟨(S "BadCeiling"), [(.ref 24)], [(.ref 866), (.ref 24), (.type "ValueError"), (.type "Exception"), (.type "BaseException"), (.type "object")], 865, (S "BadCeiling"), true, [], [], false, none, false⟩), #[(some (.ref 850)), none, (some (.str (S "BadCeiling") 1297)), (some (.str (S "BadCeiling") 1305)), (some (.builtin "ValueError.__new__")), (some (.bool true))]⟩
def o864 (P : Params) : Obj := ⟨(.type "super"), none, (.fields #[(.ref 866), (.ref 866), (.ref 866)]), #[]⟩
def o865 (P : Params) : Obj := ⟨(.type "builtin_function_or_method"), none, (.fields #[(.builtin "object.__init_subclass__"), (.ref 866)]), #[]⟩
def o866 (P : Params) : Obj := ⟨(.type "tuple"), none, (.seq #[(.ref 24)] 0), #[]⟩
def o867 (P : Params) : Obj := ⟨(.type "builtin_function_or_method"), none, (.fields #[(.builtin "type.__prepare__"), (.type "type")]), #[]⟩
def o868 (P : Params) : Obj := ⟨(.type "dict"), none, (.dict #[E P "__module__" 1329 (.str (S "meettasks.errors") 187), E P "__qualname__" 1331 (.str (S "BadEnds") 1330), E P "__firstlineno__" 1333 (.int 184 1332), E P "__init__" 1341 (.ref 882), E P "__static_attributes__" 1343 (.ref 883)] 5), #[]⟩
def o869 (P : Params) : Obj := ⟨(.type "tuple"), none, (.seq #[] 0), #[]⟩
def o870 (P : Params) : Obj := ⟨.none, none, (.fields #[(.int 186 0), (.int 4 0), (.ref 881)]), #[]⟩
def o871 (P : Params) : Obj := ⟨(.type "code"), none, (.fields #[(.str (S "BadEnds") 1324), (.str (S "BadEnds") 1325), (.str (S "/claim/cut.py") 1326), (.int 184 0), (.int 0 0), (.int 0 0), (.int 0 0), (.int 0 0), (.ref 872), (.bool false), (.int 181 0), (.ref 873), .none, .none, .none, .none, (.int 1327 0), (.int 184 0), (.str (S "/claim/cut.py") 1328)]), #[]⟩
def o872 (P : Params) : Obj := ⟨(.type "frame"), none, .plain, #[(some (.ref 874)), (some (.ref 3)), (some (.ref 871)), none, (some (.str (S "meettasks.errors") 187)), none, (some (.ref 0))]⟩
def o873 (P : Params) : Obj := ⟨(.type "tuple"), none, (.seq #[] 0), #[]⟩
def o874 (P : Params) : Obj := ⟨.none, none, (.fields #[]), #[]⟩
def o875 (P : Params) : Obj := ⟨(.type "tuple"), none, (.seq #[(.str (S "self") 1337), (.str (S "job") 1338)] 0), #[]⟩
def o876 (P : Params) : Obj := ⟨(.type "tuple"), none, (.seq #[] 0), #[]⟩
def o877 (P : Params) : Obj := ⟨.none, none, (.func ⟨(S "__init__"), (S "BadEnds.__init__"), (dM 47 0).params, .stmts (dM 47 0).body, (dM 47 0).scope, 0, [], .none, .none, .none, .none, none, .none, .none, 0⟩), #[]⟩
def o878 (P : Params) : Obj := ⟨(.type "code"), none, (.fields #[(.str (S "__init__") 1334), (.str (S "BadEnds.__init__") 1335), (.str (S "/claim/cut.py") 1336), (.int 186 0), (.int 2 0), (.int 0 0), (.int 0 0), (.int 3 0), (.ref 876), (.bool true), (.int 181 0), (.ref 877), .none, (.ref 878), (.ref 879), (.ref 880), (.int 1339 0), (.int 186 0), (.str (S "/claim/cut.py") 1340)]), #[]⟩
def o879 (P : Params) : Obj := ⟨(.type "function"), none, (.func ⟨(S "__init__"), (S "BadEnds.__init__"), (dM 47 0).params, .stmts (dM 47 0).body, (dM 47 0).scope, 3, [], .none, .none, .none, (.str (S "meettasks.errors") 187), none, (.ref 881), .none, 0⟩), #[]⟩
def o880 (P : Params) : Obj := ⟨(.type "tuple"), none, (.seq #[(.str (S "job") 1342)] 0), #[]⟩
def o881 (P : Params) : Obj := ⟨(.type "dict"), none, (.dict #[E P "__module__" 1329 (.str (S "meettasks.errors") 187), E P "__firstlineno__" 1333 (.int 184 1332), E P "__init__" 1341 (.ref 882), E P "__static_attributes__" 1343 (.ref 883), E P "__doc__" 1344 .none] 2), #[]⟩
def o882 (P : Params) : Obj := ⟨(.type "type"), none, (.cls ⟨(S "BadEnds"), [(.ref 24)], [(.ref 885), (.ref 24), (.type "ValueError"), (.type "Exception"), (.type "BaseException"), (.type "object")], 884, (S "BadEnds"), true, [], [], false, none, false⟩), #[(some (.ref 869)), none, (some (.str (S "BadEnds") 1322)), (some (.str (S "BadEnds") 1330)), (some (.builtin "ValueError.__new__")), (some (.bool true))]⟩
def o883 (P : Params) : Obj := ⟨(.type "super"), none, (.fields #[(.ref 885), (.ref 885), (.ref 885)]), #[]⟩
def o884 (P : Params) : Obj := ⟨(.type "builtin_function_or_method"), none, (.fields #[(.builtin "object.__init_subclass__"), (.ref 885)]), #[]⟩
def o885 (P : Params) : Obj := ⟨(.type "tuple"), none, (.seq #[(.ref 24)] 0), #[]⟩
def o886 (P : Params) : Obj := ⟨(.type "builtin_function_or_method"), none, (.fields #[(.builtin "type.__prepare__"), (.type "type")]), #[]⟩
def o887 (P : Params) : Obj := ⟨(.type "dict"), none, (.dict #[E P "__module__" 1354 (.str (S "meettasks.errors") 187), E P "__qualname__" 1356 (.str (S "BadTimed") 1355), E P "__firstlineno__" 1358 (.int 188 1357), E P "__init__" 1367 (.ref 901), E P "__static_attributes__" 1370 (.ref 902)] 5), #[]⟩
def o888 (P : Params) : Obj := ⟨(.type "tuple"), none, (.seq #[] 0), #[]⟩
def o889 (P : Params) : Obj := ⟨.none, none, (.fields #[(.int 190 0), (.int 4 0), (.ref 900)]), #[]⟩
def o890 (P : Params) : Obj := ⟨(.type "code"), none, (.fields #[(.str (S "BadTimed") 1349), (.str (S "BadTimed") 1350), (.str (S "/claim/cut.py") 1351), (.int 188 0), (.int 0 0), (.int 0 0), (.int 0 0), (.int 0 0), (.ref 891), (.bool false), (.int 181 0), (.ref 892), .none, .none, .none, .none, (.int 1352 0), (.int 188 0), (.str (S "/claim/cut.py") 1353)]), #[]⟩
def o891 (P : Params) : Obj := ⟨(.type "frame"), none, .plain, #[(some (.ref 893)), (some (.ref 3)), (some (.ref 890)), none, (some (.str (S "meettasks.errors") 187)), none, (some (.ref 0))]⟩
def o892 (P : Params) : Obj := ⟨(.type "tuple"), none, (.seq #[] 0), #[]⟩
def o893 (P : Params) : Obj := ⟨.none, none, (.fields #[]), #[]⟩
def o894 (P : Params) : Obj := ⟨(.type "tuple"), none, (.seq #[(.str (S "self") 1362), (.str (S "task") 1363), (.str (S "path") 1364)] 0), #[]⟩
def o895 (P : Params) : Obj := ⟨(.type "tuple"), none, (.seq #[] 0), #[]⟩
def o896 (P : Params) : Obj := ⟨.none, none, (.func ⟨(S "__init__"), (S "BadTimed.__init__"), (dM 48 0).params, .stmts (dM 48 0).body, (dM 48 0).scope, 0, [], .none, .none, .none, .none, none, .none, .none, 0⟩), #[]⟩
def o897 (P : Params) : Obj := ⟨(.type "code"), none, (.fields #[(.str (S "__init__") 1359), (.str (S "BadTimed.__init__") 1360), (.str (S "/claim/cut.py") 1361), (.int 190 0), (.int 3 0), (.int 0 0), (.int 0 0), (.int 3 0), (.ref 895), (.bool true), (.int 181 0), (.ref 896), .none, (.ref 897), (.ref 898), (.ref 899), (.int 1365 0), (.int 190 0), (.str (S "/claim/cut.py") 1366)]), #[]⟩
def o898 (P : Params) : Obj := ⟨(.type "function"), none, (.func ⟨(S "__init__"), (S "BadTimed.__init__"), (dM 48 0).params, .stmts (dM 48 0).body, (dM 48 0).scope, 3, [], .none, .none, .none, (.str (S "meettasks.errors") 187), none, (.ref 900), .none, 0⟩), #[]⟩
def o899 (P : Params) : Obj := ⟨(.type "tuple"), none, (.seq #[(.str (S "path") 1368), (.str (S "task") 1369)] 0), #[]⟩
def o900 (P : Params) : Obj := ⟨(.type "dict"), none, (.dict #[E P "__module__" 1354 (.str (S "meettasks.errors") 187), E P "__firstlineno__" 1358 (.int 188 1357), E P "__init__" 1367 (.ref 901), E P "__static_attributes__" 1370 (.ref 902), E P "__doc__" 1371 .none] 2), #[]⟩
def o901 (P : Params) : Obj := ⟨(.type "type"), none, (.cls ⟨(S "BadTimed"), [(.ref 24)], [(.ref 904), (.ref 24), (.type "ValueError"), (.type "Exception"), (.type "BaseException"), (.type "object")], 903, (S "BadTimed"), true, [], [], false, none, false⟩), #[(some (.ref 888)), none, (some (.str (S "BadTimed") 1347)), (some (.str (S "BadTimed") 1355)), (some (.builtin "ValueError.__new__")), (some (.bool true))]⟩
def o902 (P : Params) : Obj := ⟨(.type "super"), none, (.fields #[(.ref 904), (.ref 904), (.ref 904)]), #[]⟩
def o903 (P : Params) : Obj := ⟨(.type "builtin_function_or_method"), none, (.fields #[(.builtin "object.__init_subclass__"), (.ref 904)]), #[]⟩
def o904 (P : Params) : Obj := ⟨(.type "tuple"), none, (.seq #[(.ref 24)] 0), #[]⟩
def o905 (P : Params) : Obj := ⟨(.type "builtin_function_or_method"), none, (.fields #[(.builtin "type.__prepare__"), (.type "type")]), #[]⟩
def o906 (P : Params) : Obj := ⟨(.type "dict"), none, (.dict #[E P "__module__" 1381 (.str (S "meettasks.errors") 187), E P "__qualname__" 1383 (.str (S "BadFates") 1382), E P "__firstlineno__" 1385 (.int 193 1384), E P "__init__" 1393 (.ref 920), E P "__static_attributes__" 1395 (.ref 921)] 5), #[]⟩
def o907 (P : Params) : Obj := ⟨(.type "tuple"), none, (.seq #[] 0), #[]⟩
def o908 (P : Params) : Obj := ⟨.none, none, (.fields #[(.int 195 0), (.int 4 0), (.ref 919)]), #[]⟩
def o909 (P : Params) : Obj := ⟨(.type "code"), none, (.fields #[(.str (S "BadFates") 1376), (.str (S "BadFates") 1377), (.str (S "/claim/cut.py") 1378), (.int 193 0), (.int 0 0), (.int 0 0), (.int 0 0), (.int 0 0), (.ref 910), (.bool false), (.int 181 0), (.ref 911), .none, .none, .none, .none, (.int 1379 0), (.int 193 0), (.str (S "/claim/cut.py") 1380)]), #[]⟩
def o910 (P : Params) : Obj := ⟨(.type "frame"), none, .plain, #[(some (.ref 912)), (some (.ref 3)), (some (.ref 909)), none, (some (.str (S "meettasks.errors") 187)), none, (some (.ref 0))]⟩
def o911 (P : Params) : Obj := ⟨(.type "tuple"), none, (.seq #[] 0), #[]⟩
def o912 (P : Params) : Obj := ⟨.none, none, (.fields #[]), #[]⟩
def o913 (P : Params) : Obj := ⟨(.type "tuple"), none, (.seq #[(.str (S "self") 1389), (.str (S "thing") 1390)] 0), #[]⟩
def o914 (P : Params) : Obj := ⟨(.type "tuple"), none, (.seq #[] 0), #[]⟩
def o915 (P : Params) : Obj := ⟨.none, none, (.func ⟨(S "__init__"), (S "BadFates.__init__"), (dM 49 0).params, .stmts (dM 49 0).body, (dM 49 0).scope, 0, [], .none, .none, .none, .none, none, .none, .none, 0⟩), #[]⟩
def o916 (P : Params) : Obj := ⟨(.type "code"), none, (.fields #[(.str (S "__init__") 1386), (.str (S "BadFates.__init__") 1387), (.str (S "/claim/cut.py") 1388), (.int 195 0), (.int 2 0), (.int 0 0), (.int 0 0), (.int 3 0), (.ref 914), (.bool true), (.int 181 0), (.ref 915), .none, (.ref 916), (.ref 917), (.ref 918), (.int 1391 0), (.int 195 0), (.str (S "/claim/cut.py") 1392)]), #[]⟩
def o917 (P : Params) : Obj := ⟨(.type "function"), none, (.func ⟨(S "__init__"), (S "BadFates.__init__"), (dM 49 0).params, .stmts (dM 49 0).body, (dM 49 0).scope, 3, [], .none, .none, .none, (.str (S "meettasks.errors") 187), none, (.ref 919), .none, 0⟩), #[]⟩
def o918 (P : Params) : Obj := ⟨(.type "tuple"), none, (.seq #[(.str (S "thing") 1394)] 0), #[]⟩
def o919 (P : Params) : Obj := ⟨(.type "dict"), none, (.dict #[E P "__module__" 1381 (.str (S "meettasks.errors") 187), E P "__firstlineno__" 1385 (.int 193 1384), E P "__init__" 1393 (.ref 920), E P "__static_attributes__" 1395 (.ref 921), E P "__doc__" 1396 .none] 2), #[]⟩
def o920 (P : Params) : Obj := ⟨(.type "type"), none, (.cls ⟨(S "BadFates"), [(.ref 24)], [(.ref 923), (.ref 24), (.type "ValueError"), (.type "Exception"), (.type "BaseException"), (.type "object")], 922, (S "BadFates"), true, [], [], false, none, false⟩), #[(some (.ref 907)), none, (some (.str (S "BadFates") 1374)), (some (.str (S "BadFates") 1382)), (some (.builtin "ValueError.__new__")), (some (.bool true))]⟩
def o921 (P : Params) : Obj := ⟨(.type "super"), none, (.fields #[(.ref 923), (.ref 923), (.ref 923)]), #[]⟩
def o922 (P : Params) : Obj := ⟨(.type "builtin_function_or_method"), none, (.fields #[(.builtin "object.__init_subclass__"), (.ref 923)]), #[]⟩
def o923 (P : Params) : Obj := ⟨(.type "tuple"), none, (.seq #[(.ref 24)] 0), #[]⟩
def o924 (P : Params) : Obj := ⟨(.type "builtin_function_or_method"), none, (.fields #[(.builtin "type.__prepare__"), (.type "type")]), #[]⟩
def o925 (P : Params) : Obj := ⟨(.type "dict"), none, (.dict #[E P "__module__" 1406 (.str (S "meettasks.errors") 187), E P "__qualname__" 1408 (.str (S "NoNote") 1407), E P "__firstlineno__" 1410 (.int 197 1409), E P "__init__" 1418 (.ref 939), E P "__static_attributes__" 1420 (.ref 940)] 5), #[]⟩
def o926 (P : Params) : Obj := ⟨(.type "tuple"), none, (.seq #[] 0), #[]⟩
def o927 (P : Params) : Obj := ⟨.none, none, (.fields #[(.int 199 0), (.int 4 0), (.ref 938)]), #[]⟩
def o928 (P : Params) : Obj := ⟨(.type "code"), none, (.fields #[(.str (S "NoNote") 1401), (.str (S "NoNote") 1402), (.str (S "/claim/cut.py") 1403), (.int 197 0), (.int 0 0), (.int 0 0), (.int 0 0), (.int 0 0), (.ref 929), (.bool false), (.int 181 0), (.ref 930), .none, .none, .none, .none, (.int 1404 0), (.int 197 0), (.str (S "/claim/cut.py") 1405)]), #[]⟩
def o929 (P : Params) : Obj := ⟨(.type "frame"), none, .plain, #[(some (.ref 931)), (some (.ref 3)), (some (.ref 928)), none, (some (.str (S "meettasks.errors") 187)), none, (some (.ref 0))]⟩
def o930 (P : Params) : Obj := ⟨(.type "tuple"), none, (.seq #[] 0), #[]⟩
def o931 (P : Params) : Obj := ⟨.none, none, (.fields #[]), #[]⟩
def o932 (P : Params) : Obj := ⟨(.type "tuple"), none, (.seq #[(.str (S "self") 1414), (.str (S "word") 1415)] 0), #[]⟩
def o933 (P : Params) : Obj := ⟨(.type "tuple"), none, (.seq #[] 0), #[]⟩
def o934 (P : Params) : Obj := ⟨.none, none, (.func ⟨(S "__init__"), (S "NoNote.__init__"), (dM 50 0).params, .stmts (dM 50 0).body, (dM 50 0).scope, 0, [], .none, .none, .none, .none, none, .none, .none, 0⟩), #[]⟩
def o935 (P : Params) : Obj := ⟨(.type "code"), none, (.fields #[(.str (S "__init__") 1411), (.str (S "NoNote.__init__") 1412), (.str (S "/claim/cut.py") 1413), (.int 199 0), (.int 2 0), (.int 0 0), (.int 0 0), (.int 3 0), (.ref 933), (.bool true), (.int 181 0), (.ref 934), .none, (.ref 935), (.ref 936), (.ref 937), (.int 1416 0), (.int 199 0), (.str (S "/claim/cut.py") 1417)]), #[]⟩
def o936 (P : Params) : Obj := ⟨(.type "function"), none, (.func ⟨(S "__init__"), (S "NoNote.__init__"), (dM 50 0).params, .stmts (dM 50 0).body, (dM 50 0).scope, 3, [], .none, .none, .none, (.str (S "meettasks.errors") 187), none, (.ref 938), .none, 0⟩), #[]⟩
def o937 (P : Params) : Obj := ⟨(.type "tuple"), none, (.seq #[(.str (S "word") 1419)] 0), #[]⟩
def o938 (P : Params) : Obj := ⟨(.type "dict"), none, (.dict #[E P "__module__" 1406 (.str (S "meettasks.errors") 187), E P "__firstlineno__" 1410 (.int 197 1409), E P "__init__" 1418 (.ref 939), E P "__static_attributes__" 1420 (.ref 940), E P "__doc__" 1421 .none] 2), #[]⟩
def o939 (P : Params) : Obj := ⟨(.type "type"), none, (.cls ⟨(S "NoNote"), [(.ref 24)], [(.ref 942), (.ref 24), (.type "ValueError"), (.type "Exception"), (.type "BaseException"), (.type "object")], 941, (S "NoNote"), true, [], [], false, none, false⟩), #[(some (.ref 926)), none, (some (.str (S "NoNote") 1399)), (some (.str (S "NoNote") 1407)), (some (.builtin "ValueError.__new__")), (some (.bool true))]⟩
def o940 (P : Params) : Obj := ⟨(.type "super"), none, (.fields #[(.ref 942), (.ref 942), (.ref 942)]), #[]⟩
def o941 (P : Params) : Obj := ⟨(.type "builtin_function_or_method"), none, (.fields #[(.builtin "object.__init_subclass__"), (.ref 942)]), #[]⟩
def o942 (P : Params) : Obj := ⟨(.type "tuple"), none, (.seq #[(.ref 24)] 0), #[]⟩
def o943 (P : Params) : Obj := ⟨(.type "builtin_function_or_method"), none, (.fields #[(.builtin "type.__prepare__"), (.type "type")]), #[]⟩
def o944 (P : Params) : Obj := ⟨(.type "dict"), none, (.dict #[E P "__module__" 1431 (.str (S "meettasks.errors") 187), E P "__qualname__" 1433 (.str (S "NoComing") 1432), E P "__firstlineno__" 1435 (.int 201 1434), E P "__init__" 1443 (.ref 958), E P "__static_attributes__" 1445 (.ref 959)] 5), #[]⟩
def o945 (P : Params) : Obj := ⟨(.type "tuple"), none, (.seq #[] 0), #[]⟩
def o946 (P : Params) : Obj := ⟨.none, none, (.fields #[(.int 203 0), (.int 4 0), (.ref 957)]), #[]⟩
def o947 (P : Params) : Obj := ⟨(.type "code"), none, (.fields #[(.str (S "NoComing") 1426), (.str (S "NoComing") 1427), (.str (S "/claim/cut.py") 1428), (.int 201 0), (.int 0 0), (.int 0 0), (.int 0 0), (.int 0 0), (.ref 948), (.bool false), (.int 181 0), (.ref 949), .none, .none, .none, .none, (.int 1429 0), (.int 201 0), (.str (S "/claim/cut.py") 1430)]), #[]⟩
def o948 (P : Params) : Obj := ⟨(.type "frame"), none, .plain, #[(some (.ref 950)), (some (.ref 3)), (some (.ref 947)), none, (some (.str (S "meettasks.errors") 187)), none, (some (.ref 0))]⟩
def o949 (P : Params) : Obj := ⟨(.type "tuple"), none, (.seq #[] 0), #[]⟩
def o950 (P : Params) : Obj := ⟨.none, none, (.fields #[]), #[]⟩
def o951 (P : Params) : Obj := ⟨(.type "tuple"), none, (.seq #[(.str (S "self") 1439), (.str (S "pair") 1440)] 0), #[]⟩
def o952 (P : Params) : Obj := ⟨(.type "tuple"), none, (.seq #[] 0), #[]⟩
def o953 (P : Params) : Obj := ⟨.none, none, (.func ⟨(S "__init__"), (S "NoComing.__init__"), (dM 51 0).params, .stmts (dM 51 0).body, (dM 51 0).scope, 0, [], .none, .none, .none, .none, none, .none, .none, 0⟩), #[]⟩
def o954 (P : Params) : Obj := ⟨(.type "code"), none, (.fields #[(.str (S "__init__") 1436), (.str (S "NoComing.__init__") 1437), (.str (S "/claim/cut.py") 1438), (.int 203 0), (.int 2 0), (.int 0 0), (.int 0 0), (.int 3 0), (.ref 952), (.bool true), (.int 181 0), (.ref 953), .none, (.ref 954), (.ref 955), (.ref 956), (.int 1441 0), (.int 203 0), (.str (S "/claim/cut.py") 1442)]), #[]⟩
def o955 (P : Params) : Obj := ⟨(.type "function"), none, (.func ⟨(S "__init__"), (S "NoComing.__init__"), (dM 51 0).params, .stmts (dM 51 0).body, (dM 51 0).scope, 3, [], .none, .none, .none, (.str (S "meettasks.errors") 187), none, (.ref 957), .none, 0⟩), #[]⟩
def o956 (P : Params) : Obj := ⟨(.type "tuple"), none, (.seq #[(.str (S "pair") 1444)] 0), #[]⟩
def o957 (P : Params) : Obj := ⟨(.type "dict"), none, (.dict #[E P "__module__" 1431 (.str (S "meettasks.errors") 187), E P "__firstlineno__" 1435 (.int 201 1434), E P "__init__" 1443 (.ref 958), E P "__static_attributes__" 1445 (.ref 959), E P "__doc__" 1446 .none] 2), #[]⟩
def o958 (P : Params) : Obj := ⟨(.type "type"), none, (.cls ⟨(S "NoComing"), [(.ref 24)], [(.ref 961), (.ref 24), (.type "ValueError"), (.type "Exception"), (.type "BaseException"), (.type "object")], 960, (S "NoComing"), true, [], [], false, none, false⟩), #[(some (.ref 945)), none, (some (.str (S "NoComing") 1424)), (some (.str (S "NoComing") 1432)), (some (.builtin "ValueError.__new__")), (some (.bool true))]⟩
def o959 (P : Params) : Obj := ⟨(.type "super"), none, (.fields #[(.ref 961), (.ref 961), (.ref 961)]), #[]⟩
def o960 (P : Params) : Obj := ⟨(.type "builtin_function_or_method"), none, (.fields #[(.builtin "object.__init_subclass__"), (.ref 961)]), #[]⟩
def o961 (P : Params) : Obj := ⟨(.type "tuple"), none, (.seq #[(.ref 24)] 0), #[]⟩
def o962 (P : Params) : Obj := ⟨(.type "builtin_function_or_method"), none, (.fields #[(.builtin "type.__prepare__"), (.type "type")]), #[]⟩
def o963 (P : Params) : Obj := ⟨(.type "dict"), none, (.dict #[E P "__module__" 1456 (.str (S "meettasks.errors") 187), E P "__qualname__" 1458 (.str (S "BadCourse") 1457), E P "__firstlineno__" 1460 (.int 205 1459), E P "__init__" 1468 (.ref 977), E P "__static_attributes__" 1470 (.ref 978)] 5), #[]⟩
def o964 (P : Params) : Obj := ⟨(.type "tuple"), none, (.seq #[] 0), #[]⟩
def o965 (P : Params) : Obj := ⟨.none, none, (.fields #[(.int 207 0), (.int 4 0), (.ref 976)]), #[]⟩
def o966 (P : Params) : Obj := ⟨(.type "code"), none, (.fields #[(.str (S "BadCourse") 1451), (.str (S "BadCourse") 1452), (.str (S "/claim/cut.py") 1453), (.int 205 0), (.int 0 0), (.int 0 0), (.int 0 0), (.int 0 0), (.ref 967), (.bool false), (.int 181 0), (.ref 968), .none, .none, .none, .none, (.int 1454 0), (.int 205 0), (.str (S "/claim/cut.py") 1455)]), #[]⟩
def o967 (P : Params) : Obj := ⟨(.type "frame"), none, .plain, #[(some (.ref 969)), (some (.ref 3)), (some (.ref 966)), none, (some (.str (S "meettasks.errors") 187)), none, (some (.ref 0))]⟩
def o968 (P : Params) : Obj := ⟨(.type "tuple"), none, (.seq #[] 0), #[]⟩
def o969 (P : Params) : Obj := ⟨.none, none, (.fields #[]), #[]⟩
def o970 (P : Params) : Obj := ⟨(.type "tuple"), none, (.seq #[(.str (S "self") 1464), (.str (S "thing") 1465)] 0), #[]⟩
def o971 (P : Params) : Obj := ⟨(.type "tuple"), none, (.seq #[] 0), #[]⟩
def o972 (P : Params) : Obj := ⟨.none, none, (.func ⟨(S "__init__"), (S "BadCourse.__init__"), (dM 52 0).params, .stmts (dM 52 0).body, (dM 52 0).scope, 0, [], .none, .none, .none, .none, none, .none, .none, 0⟩), #[]⟩
def o973 (P : Params) : Obj := ⟨(.type "code"), none, (.fields #[(.str (S "__init__") 1461), (.str (S "BadCourse.__init__") 1462), (.str (S "/claim/cut.py") 1463), (.int 207 0), (.int 2 0), (.int 0 0), (.int 0 0), (.int 3 0), (.ref 971), (.bool true), (.int 181 0), (.ref 972), .none, (.ref 973), (.ref 974), (.ref 975), (.int 1466 0), (.int 207 0), (.str (S "/claim/cut.py") 1467)]), #[]⟩
def o974 (P : Params) : Obj := ⟨(.type "function"), none, (.func ⟨(S "__init__"), (S "BadCourse.__init__"), (dM 52 0).params, .stmts (dM 52 0).body, (dM 52 0).scope, 3, [], .none, .none, .none, (.str (S "meettasks.errors") 187), none, (.ref 976), .none, 0⟩), #[]⟩
def o975 (P : Params) : Obj := ⟨(.type "tuple"), none, (.seq #[(.str (S "thing") 1469)] 0), #[]⟩
def o976 (P : Params) : Obj := ⟨(.type "dict"), none, (.dict #[E P "__module__" 1456 (.str (S "meettasks.errors") 187), E P "__firstlineno__" 1460 (.int 205 1459), E P "__init__" 1468 (.ref 977), E P "__static_attributes__" 1470 (.ref 978), E P "__doc__" 1471 .none] 2), #[]⟩
def o977 (P : Params) : Obj := ⟨(.type "type"), none, (.cls ⟨(S "BadCourse"), [(.ref 24)], [(.ref 980), (.ref 24), (.type "ValueError"), (.type "Exception"), (.type "BaseException"), (.type "object")], 979, (S "BadCourse"), true, [], [], false, none, false⟩), #[(some (.ref 964)), none, (some (.str (S "BadCourse") 1449)), (some (.str (S "BadCourse") 1457)), (some (.builtin "ValueError.__new__")), (some (.bool true))]⟩
def o978 (P : Params) : Obj := ⟨(.type "super"), none, (.fields #[(.ref 980), (.ref 980), (.ref 980)]), #[]⟩
def o979 (P : Params) : Obj := ⟨(.type "builtin_function_or_method"), none, (.fields #[(.builtin "object.__init_subclass__"), (.ref 980)]), #[]⟩
def o980 (P : Params) : Obj := ⟨(.type "tuple"), none, (.seq #[(.ref 24)] 0), #[]⟩
def o981 (P : Params) : Obj := ⟨(.type "builtin_function_or_method"), none, (.fields #[(.builtin "type.__prepare__"), (.type "type")]), #[]⟩
def o982 (P : Params) : Obj := ⟨(.type "dict"), none, (.dict #[E P "__module__" 1481 (.str (S "meettasks.errors") 187), E P "__qualname__" 1483 (.str (S "BadCode") 1482), E P "__firstlineno__" 1485 (.int 209 1484), E P "__init__" 1494 (.ref 996), E P "__static_attributes__" 1497 (.ref 997)] 5), #[]⟩
def o983 (P : Params) : Obj := ⟨(.type "tuple"), none, (.seq #[] 0), #[]⟩
def o984 (P : Params) : Obj := ⟨.none, none, (.fields #[(.int 211 0), (.int 4 0), (.ref 995)]), #[]⟩
def o985 (P : Params) : Obj := ⟨(.type "code"), none, (.fields #[(.str (S "BadCode") 1476), (.str (S "BadCode") 1477), (.str (S "/claim/cut.py") 1478), (.int 209 0), (.int 0 0), (.int 0 0), (.int 0 0), (.int 0 0), (.ref 986), (.bool false), (.int 181 0), (.ref 987), .none, .none, .none, .none, (.int 1479 0), (.int 209 0), (.str (S "/claim/cut.py") 1480)]), #[]⟩
def o986 (P : Params) : Obj := ⟨(.type "frame"), none, .plain, #[(some (.ref 988)), (some (.ref 3)), (some (.ref 985)), none, (some (.str (S "meettasks.errors") 187)), none, (some (.ref 0))]⟩
def o987 (P : Params) : Obj := ⟨(.type "tuple"), none, (.seq #[] 0), #[]⟩
def o988 (P : Params) : Obj := ⟨.none, none, (.fields #[]), #[]⟩
def o989 (P : Params) : Obj := ⟨(.type "tuple"), none, (.seq #[(.str (S "self") 1489), (.str (S "task") 1490), (.str (S "number") 1491)] 0), #[]⟩
def o990 (P : Params) : Obj := ⟨(.type "tuple"), none, (.seq #[] 0), #[]⟩
def o991 (P : Params) : Obj := ⟨.none, none, (.func ⟨(S "__init__"), (S "BadCode.__init__"), (dM 53 0).params, .stmts (dM 53 0).body, (dM 53 0).scope, 0, [], .none, .none, .none, .none, none, .none, .none, 0⟩), #[]⟩
def o992 (P : Params) : Obj := ⟨(.type "code"), none, (.fields #[(.str (S "__init__") 1486), (.str (S "BadCode.__init__") 1487), (.str (S "/claim/cut.py") 1488), (.int 211 0), (.int 3 0), (.int 0 0), (.int 0 0), (.int 3 0), (.ref 990), (.bool true), (.int 181 0), (.ref 991), .none, (.ref 992), (.ref 993), (.ref 994), (.int 1492 0), (.int 211 0), (.str (S "/claim/cut.py") 1493)]), #[]⟩
def o993 (P : Params) : Obj := ⟨(.type "function"), none, (.func ⟨(S "__init__"), (S "BadCode.__init__"), (dM 53 0).params, .stmts (dM 53 0).body, (dM 53 0).scope, 3, [], .none, .none, .none, (.str (S "meettasks.errors") 187), none, (.ref 995), .none, 0⟩), #[]⟩
def o994 (P : Params) : Obj := ⟨(.type "tuple"), none, (.seq #[(.str (S "number") 1495), (.str (S "task") 1496)] 0), #[]⟩
def o995 (P : Params) : Obj := ⟨(.type "dict"), none, (.dict #[E P "__module__" 1481 (.str (S "meettasks.errors") 187), E P "__firstlineno__" 1485 (.int 209 1484), E P "__init__" 1494 (.ref 996), E P "__static_attributes__" 1497 (.ref 997), E P "__doc__" 1498 .none] 2), #[]⟩
def o996 (P : Params) : Obj := ⟨(.type "type"), none, (.cls ⟨(S "BadCode"), [(.ref 24)], [(.ref 999), (.ref 24), (.type "ValueError"), (.type "Exception"), (.type "BaseException"), (.type "object")], 998, (S "BadCode"), true, [], [], false, none, false⟩), #[(some (.ref 983)), none, (some (.str (S "BadCode") 1474)), (some (.str (S "BadCode") 1482)), (some (.builtin "ValueError.__new__")), (some (.bool true))]⟩
def o997 (P : Params) : Obj := ⟨(.type "super"), none, (.fields #[(.ref 999), (.ref 999), (.ref 999)]), #[]⟩
def o998 (P : Params) : Obj := ⟨(.type "builtin_function_or_method"), none, (.fields #[(.builtin "object.__init_subclass__"), (.ref 999)]), #[]⟩
def o999 (P : Params) : Obj := ⟨(.type "tuple"), none, (.seq #[(.ref 24)] 0), #[]⟩
def o1000 (P : Params) : Obj := ⟨(.type "builtin_function_or_method"), none, (.fields #[(.builtin "type.__prepare__"), (.type "type")]), #[]⟩
def o1001 (P : Params) : Obj := ⟨(.type "dict"), none, (.dict #[E P "__module__" 1508 (.str (S "meettasks.errors") 187), E P "__qualname__" 1510 (.str (S "Silent") 1509), E P "__firstlineno__" 1512 (.int 214 1511), E P "__init__" 1521 (.ref 1015), E P "__static_attributes__" 1524 (.ref 1016)] 5), #[]⟩
def o1002 (P : Params) : Obj := ⟨(.type "tuple"), none, (.seq #[] 0), #[]⟩
def o1003 (P : Params) : Obj := ⟨.none, none, (.fields #[(.int 216 0), (.int 4 0), (.ref 1014)]), #[]⟩
def o1004 (P : Params) : Obj := ⟨(.type "code"), none, (.fields #[(.str (S "Silent") 1503), (.str (S "Silent") 1504), (.str (S "/claim/cut.py") 1505), (.int 214 0), (.int 0 0), (.int 0 0), (.int 0 0), (.int 0 0), (.ref 1005), (.bool false), (.int 181 0), (.ref 1006), .none, .none, .none, .none, (.int 1506 0), (.int 214 0), (.str (S "/claim/cut.py") 1507)]), #[]⟩
def o1005 (P : Params) : Obj := ⟨(.type "frame"), none, .plain, #[(some (.ref 1007)), (some (.ref 3)), (some (.ref 1004)), none, (some (.str (S "meettasks.errors") 187)), none, (some (.ref 0))]⟩
def o1006 (P : Params) : Obj := ⟨(.type "tuple"), none, (.seq #[] 0), #[]⟩
def o1007 (P : Params) : Obj := ⟨.none, none, (.fields #[]), #[]⟩
def o1008 (P : Params) : Obj := ⟨(.type "tuple"), none, (.seq #[(.str (S "self") 1516), (.str (S "task") 1517), (.str (S "spot") 1518)] 0), #[]⟩
def o1009 (P : Params) : Obj := ⟨(.type "tuple"), none, (.seq #[] 0), #[]⟩
def o1010 (P : Params) : Obj := ⟨.none, none, (.func ⟨(S "__init__"), (S "Silent.__init__"), (dM 54 0).params, .stmts (dM 54 0).body, (dM 54 0).scope, 0, [], .none, .none, .none, .none, none, .none, .none, 0⟩), #[]⟩
def o1011 (P : Params) : Obj := ⟨(.type "code"), none, (.fields #[(.str (S "__init__") 1513), (.str (S "Silent.__init__") 1514), (.str (S "/claim/cut.py") 1515), (.int 216 0), (.int 3 0), (.int 0 0), (.int 0 0), (.int 3 0), (.ref 1009), (.bool true), (.int 181 0), (.ref 1010), .none, (.ref 1011), (.ref 1012), (.ref 1013), (.int 1519 0), (.int 216 0), (.str (S "/claim/cut.py") 1520)]), #[]⟩
def o1012 (P : Params) : Obj := ⟨(.type "function"), none, (.func ⟨(S "__init__"), (S "Silent.__init__"), (dM 54 0).params, .stmts (dM 54 0).body, (dM 54 0).scope, 3, [], .none, .none, .none, (.str (S "meettasks.errors") 187), none, (.ref 1014), .none, 0⟩), #[]⟩
def o1013 (P : Params) : Obj := ⟨(.type "tuple"), none, (.seq #[(.str (S "spot") 1522), (.str (S "task") 1523)] 0), #[]⟩
def o1014 (P : Params) : Obj := ⟨(.type "dict"), none, (.dict #[E P "__module__" 1508 (.str (S "meettasks.errors") 187), E P "__firstlineno__" 1512 (.int 214 1511), E P "__init__" 1521 (.ref 1015), E P "__static_attributes__" 1524 (.ref 1016), E P "__doc__" 1525 .none] 2), #[]⟩
def o1015 (P : Params) : Obj := ⟨(.type "type"), none, (.cls ⟨(S "Silent"), [(.ref 24)], [(.ref 1018), (.ref 24), (.type "ValueError"), (.type "Exception"), (.type "BaseException"), (.type "object")], 1017, (S "Silent"), true, [], [], false, none, false⟩), #[(some (.ref 1002)), none, (some (.str (S "Silent") 1501)), (some (.str (S "Silent") 1509)), (some (.builtin "ValueError.__new__")), (some (.bool true))]⟩
def o1016 (P : Params) : Obj := ⟨(.type "super"), none, (.fields #[(.ref 1018), (.ref 1018), (.ref 1018)]), #[]⟩
def o1017 (P : Params) : Obj := ⟨(.type "builtin_function_or_method"), none, (.fields #[(.builtin "object.__init_subclass__"), (.ref 1018)]), #[]⟩
def o1018 (P : Params) : Obj := ⟨(.type "tuple"), none, (.seq #[(.ref 24)] 0), #[]⟩
def o1019 (P : Params) : Obj := ⟨(.type "builtin_function_or_method"), none, (.fields #[(.builtin "type.__prepare__"), (.type "type")]), #[]⟩
def o1020 (P : Params) : Obj := ⟨(.type "dict"), none, (.dict #[E P "__module__" 1535 (.str (S "meettasks.errors") 187), E P "__qualname__" 1537 (.str (S "BadCuts") 1536), E P "__firstlineno__" 1539 (.int 219 1538), E P "__init__" 1547 (.ref 1034), E P "__static_attributes__" 1549 (.ref 1035)] 5), #[]⟩
def o1021 (P : Params) : Obj := ⟨(.type "tuple"), none, (.seq #[] 0), #[]⟩
def o1022 (P : Params) : Obj := ⟨.none, none, (.fields #[(.int 221 0), (.int 4 0), (.ref 1033)]), #[]⟩
def o1023 (P : Params) : Obj := ⟨(.type "code"), none, (.fields #[(.str (S "BadCuts") 1530), (.str (S "BadCuts") 1531), (.str (S "/claim/cut.py") 1532), (.int 219 0), (.int 0 0), (.int 0 0), (.int 0 0), (.int 0 0), (.ref 1024), (.bool false), (.int 181 0), (.ref 1025), .none, .none, .none, .none, (.int 1533 0), (.int 219 0), (.str (S "/claim/cut.py") 1534)]), #[]⟩
def o1024 (P : Params) : Obj := ⟨(.type "frame"), none, .plain, #[(some (.ref 1026)), (some (.ref 3)), (some (.ref 1023)), none, (some (.str (S "meettasks.errors") 187)), none, (some (.ref 0))]⟩
def o1025 (P : Params) : Obj := ⟨(.type "tuple"), none, (.seq #[] 0), #[]⟩
def o1026 (P : Params) : Obj := ⟨.none, none, (.fields #[]), #[]⟩
def o1027 (P : Params) : Obj := ⟨(.type "tuple"), none, (.seq #[(.str (S "self") 1543), (.str (S "index") 1544)] 0), #[]⟩
def o1028 (P : Params) : Obj := ⟨(.type "tuple"), none, (.seq #[] 0), #[]⟩
def o1029 (P : Params) : Obj := ⟨.none, none, (.func ⟨(S "__init__"), (S "BadCuts.__init__"), (dM 55 0).params, .stmts (dM 55 0).body, (dM 55 0).scope, 0, [], .none, .none, .none, .none, none, .none, .none, 0⟩), #[]⟩
def o1030 (P : Params) : Obj := ⟨(.type "code"), none, (.fields #[(.str (S "__init__") 1540), (.str (S "BadCuts.__init__") 1541), (.str (S "/claim/cut.py") 1542), (.int 221 0), (.int 2 0), (.int 0 0), (.int 0 0), (.int 3 0), (.ref 1028), (.bool true), (.int 181 0), (.ref 1029), .none, (.ref 1030), (.ref 1031), (.ref 1032), (.int 1545 0), (.int 221 0), (.str (S "/claim/cut.py") 1546)]), #[]⟩
def o1031 (P : Params) : Obj := ⟨(.type "function"), none, (.func ⟨(S "__init__"), (S "BadCuts.__init__"), (dM 55 0).params, .stmts (dM 55 0).body, (dM 55 0).scope, 3, [], .none, .none, .none, (.str (S "meettasks.errors") 187), none, (.ref 1033), .none, 0⟩), #[]⟩
def o1032 (P : Params) : Obj := ⟨(.type "tuple"), none, (.seq #[(.str (S "index") 1548)] 0), #[]⟩
def o1033 (P : Params) : Obj := ⟨(.type "dict"), none, (.dict #[E P "__module__" 1535 (.str (S "meettasks.errors") 187), E P "__firstlineno__" 1539 (.int 219 1538), E P "__init__" 1547 (.ref 1034), E P "__static_attributes__" 1549 (.ref 1035), E P "__doc__" 1550 .none] 2), #[]⟩
def o1034 (P : Params) : Obj := ⟨(.type "type"), none, (.cls ⟨(S "BadCuts"), [(.ref 24)], [(.ref 1037), (.ref 24), (.type "ValueError"), (.type "Exception"), (.type "BaseException"), (.type "object")], 1036, (S "BadCuts"), true, [], [], false, none, false⟩), #[(some (.ref 1021)), none, (some (.str (S "BadCuts") 1528)), (some (.str (S "BadCuts") 1536)), (some (.builtin "ValueError.__new__")), (some (.bool true))]⟩
def o1035 (P : Params) : Obj := ⟨(.type "super"), none, (.fields #[(.ref 1037), (.ref 1037), (.ref 1037)]), #[]⟩
def o1036 (P : Params) : Obj := ⟨(.type "builtin_function_or_method"), none, (.fields #[(.builtin "object.__init_subclass__"), (.ref 1037)]), #[]⟩
def o1037 (P : Params) : Obj := ⟨(.type "tuple"), none, (.seq #[(.ref 24)] 0), #[]⟩
def o1038 (P : Params) : Obj := ⟨(.type "builtin_function_or_method"), none, (.fields #[(.builtin "type.__prepare__"), (.type "type")]), #[]⟩
def o1039 (P : Params) : Obj := ⟨(.type "dict"), none, (.dict #[E P "__module__" 1560 (.str (S "meettasks.errors") 187), E P "__qualname__" 1562 (.str (S "NoRow") 1561), E P "__firstlineno__" 1564 (.int 223 1563), E P "__init__" 1572 (.ref 1053), E P "__static_attributes__" 1574 (.ref 1054)] 5), #[]⟩
def o1040 (P : Params) : Obj := ⟨(.type "tuple"), none, (.seq #[] 0), #[]⟩
def o1041 (P : Params) : Obj := ⟨.none, none, (.fields #[(.int 225 0), (.int 4 0), (.ref 1052)]), #[]⟩
def o1042 (P : Params) : Obj := ⟨(.type "code"), none, (.fields #[(.str (S "NoRow") 1555), (.str (S "NoRow") 1556), (.str (S "/claim/cut.py") 1557), (.int 223 0), (.int 0 0), (.int 0 0), (.int 0 0), (.int 0 0), (.ref 1043), (.bool false), (.int 181 0), (.ref 1044), .none, .none, .none, .none, (.int 1558 0), (.int 223 0), (.str (S "/claim/cut.py") 1559)]), #[]⟩
def o1043 (P : Params) : Obj := ⟨(.type "frame"), none, .plain, #[(some (.ref 1045)), (some (.ref 3)), (some (.ref 1042)), none, (some (.str (S "meettasks.errors") 187)), none, (some (.ref 0))]⟩
def o1044 (P : Params) : Obj := ⟨(.type "tuple"), none, (.seq #[] 0), #[]⟩
def o1045 (P : Params) : Obj := ⟨.none, none, (.fields #[]), #[]⟩
def o1046 (P : Params) : Obj := ⟨(.type "tuple"), none, (.seq #[(.str (S "self") 1568), (.str (S "number") 1569)] 0), #[]⟩
def o1047 (P : Params) : Obj := ⟨(.type "tuple"), none, (.seq #[] 0), #[]⟩
def o1048 (P : Params) : Obj := ⟨.none, none, (.func ⟨(S "__init__"), (S "NoRow.__init__"), (dM 56 0).params, .stmts (dM 56 0).body, (dM 56 0).scope, 0, [], .none, .none, .none, .none, none, .none, .none, 0⟩), #[]⟩
def o1049 (P : Params) : Obj := ⟨(.type "code"), none, (.fields #[(.str (S "__init__") 1565), (.str (S "NoRow.__init__") 1566), (.str (S "/claim/cut.py") 1567), (.int 225 0), (.int 2 0), (.int 0 0), (.int 0 0), (.int 3 0), (.ref 1047), (.bool true), (.int 181 0), (.ref 1048), .none, (.ref 1049), (.ref 1050), (.ref 1051), (.int 1570 0), (.int 225 0), (.str (S "/claim/cut.py") 1571)]), #[]⟩
def o1050 (P : Params) : Obj := ⟨(.type "function"), none, (.func ⟨(S "__init__"), (S "NoRow.__init__"), (dM 56 0).params, .stmts (dM 56 0).body, (dM 56 0).scope, 3, [], .none, .none, .none, (.str (S "meettasks.errors") 187), none, (.ref 1052), .none, 0⟩), #[]⟩
def o1051 (P : Params) : Obj := ⟨(.type "tuple"), none, (.seq #[(.str (S "number") 1573)] 0), #[]⟩
def o1052 (P : Params) : Obj := ⟨(.type "dict"), none, (.dict #[E P "__module__" 1560 (.str (S "meettasks.errors") 187), E P "__firstlineno__" 1564 (.int 223 1563), E P "__init__" 1572 (.ref 1053), E P "__static_attributes__" 1574 (.ref 1054), E P "__doc__" 1575 .none] 2), #[]⟩
def o1053 (P : Params) : Obj := ⟨(.type "type"), none, (.cls ⟨(S "NoRow"), [(.ref 24)], [(.ref 1056), (.ref 24), (.type "ValueError"), (.type "Exception"), (.type "BaseException"), (.type "object")], 1055, (S "NoRow"), true, [], [], false, none, false⟩), #[(some (.ref 1040)), none, (some (.str (S "NoRow") 1553)), (some (.str (S "NoRow") 1561)), (some (.builtin "ValueError.__new__")), (some (.bool true))]⟩
def o1054 (P : Params) : Obj := ⟨(.type "super"), none, (.fields #[(.ref 1056), (.ref 1056), (.ref 1056)]), #[]⟩
def o1055 (P : Params) : Obj := ⟨(.type "builtin_function_or_method"), none, (.fields #[(.builtin "object.__init_subclass__"), (.ref 1056)]), #[]⟩
def o1056 (P : Params) : Obj := ⟨(.type "tuple"), none, (.seq #[(.ref 24)] 0), #[]⟩
def o1057 (P : Params) : Obj := ⟨(.type "builtin_function_or_method"), none, (.fields #[(.builtin "type.__prepare__"), (.type "type")]), #[]⟩
def o1058 (P : Params) : Obj := ⟨(.type "dict"), none, (.dict #[E P "__module__" 1585 (.str (S "meettasks.errors") 187), E P "__qualname__" 1587 (.str (S "BadLog") 1586), E P "__firstlineno__" 1589 (.int 227 1588), E P "__init__" 1597 (.ref 1072), E P "__static_attributes__" 1599 (.ref 1073)] 5), #[]⟩
def o1059 (P : Params) : Obj := ⟨(.type "tuple"), none, (.seq #[] 0), #[]⟩
def o1060 (P : Params) : Obj := ⟨.none, none, (.fields #[(.int 229 0), (.int 4 0), (.ref 1071)]), #[]⟩
def o1061 (P : Params) : Obj := ⟨(.type "code"), none, (.fields #[(.str (S "BadLog") 1580), (.str (S "BadLog") 1581), (.str (S "/claim/cut.py") 1582), (.int 227 0), (.int 0 0), (.int 0 0), (.int 0 0), (.int 0 0), (.ref 1062), (.bool false), (.int 181 0), (.ref 1063), .none, .none, .none, .none, (.int 1583 0), (.int 227 0), (.str (S "/claim/cut.py") 1584)]), #[]⟩
def o1062 (P : Params) : Obj := ⟨(.type "frame"), none, .plain, #[(some (.ref 1064)), (some (.ref 3)), (some (.ref 1061)), none, (some (.str (S "meettasks.errors") 187)), none, (some (.ref 0))]⟩
def o1063 (P : Params) : Obj := ⟨(.type "tuple"), none, (.seq #[] 0), #[]⟩
def o1064 (P : Params) : Obj := ⟨.none, none, (.fields #[]), #[]⟩
def o1065 (P : Params) : Obj := ⟨(.type "tuple"), none, (.seq #[(.str (S "self") 1593), (.str (S "index") 1594)] 0), #[]⟩
def o1066 (P : Params) : Obj := ⟨(.type "tuple"), none, (.seq #[] 0), #[]⟩
def o1067 (P : Params) : Obj := ⟨.none, none, (.func ⟨(S "__init__"), (S "BadLog.__init__"), (dM 57 0).params, .stmts (dM 57 0).body, (dM 57 0).scope, 0, [], .none, .none, .none, .none, none, .none, .none, 0⟩), #[]⟩
def o1068 (P : Params) : Obj := ⟨(.type "code"), none, (.fields #[(.str (S "__init__") 1590), (.str (S "BadLog.__init__") 1591), (.str (S "/claim/cut.py") 1592), (.int 229 0), (.int 2 0), (.int 0 0), (.int 0 0), (.int 3 0), (.ref 1066), (.bool true), (.int 181 0), (.ref 1067), .none, (.ref 1068), (.ref 1069), (.ref 1070), (.int 1595 0), (.int 229 0), (.str (S "/claim/cut.py") 1596)]), #[]⟩
def o1069 (P : Params) : Obj := ⟨(.type "function"), none, (.func ⟨(S "__init__"), (S "BadLog.__init__"), (dM 57 0).params, .stmts (dM 57 0).body, (dM 57 0).scope, 3, [], .none, .none, .none, (.str (S "meettasks.errors") 187), none, (.ref 1071), .none, 0⟩), #[]⟩
def o1070 (P : Params) : Obj := ⟨(.type "tuple"), none, (.seq #[(.str (S "index") 1598)] 0), #[]⟩
def o1071 (P : Params) : Obj := ⟨(.type "dict"), none, (.dict #[E P "__module__" 1585 (.str (S "meettasks.errors") 187), E P "__firstlineno__" 1589 (.int 227 1588), E P "__init__" 1597 (.ref 1072), E P "__static_attributes__" 1599 (.ref 1073), E P "__doc__" 1600 .none] 2), #[]⟩
def o1072 (P : Params) : Obj := ⟨(.type "type"), none, (.cls ⟨(S "BadLog"), [(.ref 24)], [(.ref 1075), (.ref 24), (.type "ValueError"), (.type "Exception"), (.type "BaseException"), (.type "object")], 1074, (S "BadLog"), true, [], [], false, none, false⟩), #[(some (.ref 1059)), none, (some (.str (S "BadLog") 1578)), (some (.str (S "BadLog") 1586)), (some (.builtin "ValueError.__new__")), (some (.bool true))]⟩
def o1073 (P : Params) : Obj := ⟨(.type "super"), none, (.fields #[(.ref 1075), (.ref 1075), (.ref 1075)]), #[]⟩
def o1074 (P : Params) : Obj := ⟨(.type "builtin_function_or_method"), none, (.fields #[(.builtin "object.__init_subclass__"), (.ref 1075)]), #[]⟩
def T3 (P : Params) : BT := (N (boot_o_0 P) (N (boot_o_1 P) (N (o718 P) (N (boot_o_7 P) (N (o6 P) (N (o22 P) (N (o54 P) (N (o118 P) (N (o246 P) (N (o505 P) (N (o1020 P) e e) e) (N (o764 P) e e)) (N (o377 P) (N (o633 P) e e) (N (o892 P) e e))) (N (o182 P) (N (o310 P) (N (o569 P) e e) (N (o828 P) e e)) (N (o441 P) (N (o697 P) e e) (N (o956 P) e e)))) (N (o86 P) (N (o150 P) (N (o278 P) (N (o537 P) (N (o1052 P) e e) e) (N (o796 P) e e)) (N (o409 P) (N (o665 P) e e) (N (o924 P) e e))) (N (o214 P) (N (o342 P) (N (o601 P) e e) (N (o860 P) e e)) (N (o473 P) (N (o732 P) e e) (N (o988 P) e e))))) (N (o38 P) (N (o70 P) (N (o134 P) (N (o262 P) (N (o521 P) (N (o1036 P) e e) e) (N (o780 P) e e)) (N (o393 P) (N (o649 P) e e) (N (o908 P) e e))) (N (o198 P) (N (o326 P) (N (o585 P) e e) (N (o844 P) e e)) (N (o457 P) (N (o713 P) e e) (N (o972 P) e e)))) (N (o102 P) (N (o166 P) (N (o294 P) (N (o553 P) (N (o1068 P) e e) e) (N (o812 P) e e)) (N (o425 P) (N (o681 P) e e) (N (o940 P) e e))) (N (o230 P) (N (o358 P) (N (o617 P) e e) (N (o876 P) e e)) (N (o489 P) (N (o748 P) e e) (N (o1004 P) e e)))))) (N (o14 P) (N (o30 P) (N (o62 P) (N (o126 P) (N (o254 P) (N (o513 P) (N (o1028 P) e e) e) (N (o772 P) e e)) (N (o385 P) (N (o641 P) e e) (N (o900 P) e e))) (N (o190 P) (N (o318 P) (N (o577 P) e e) (N (o836 P) e e)) (N (o449 P) (N (o705 P) e e) (N (o964 P) e e)))) (N (o94 P) (N (o158 P) (N (o286 P) (N (o545 P) (N (o1060 P) e e) e) (N (o804 P) e e)) (N (o417 P) (N (o673 P) e e) (N (o932 P) e e))) (N (o222 P) (N (o350 P) (N (o609 P) e e) (N (o868 P) e e)) (N (o481 P) (N (o740 P) e e) (N (o996 P) e e))))) (N (o46 P) (N (o78 P) (N (o142 P) (N (o270 P) (N (o529 P) (N (o1044 P) e e) e) (N (o788 P) e e)) (N (o401 P) (N (o657 P) e e) (N (o916 P) e e))) (N (o206 P) (N (o334 P) (N (o593 P) e e) (N (o852 P) e e)) (N (o465 P) (N (o724 P) e e) (N (o980 P) e e)))) (N (o110 P) (N (o174 P) (N (o302 P) (N (o561 P) e e) (N (o820 P) e e)) (N (o433 P) (N (o689 P) e e) (N (o948 P) e e))) (N (o238 P) (N (o369 P) (N (o625 P) e e) (N (o884 P) e e)) (N (o497 P) (N (o756 P) e e) (N (o1012 P) e e))))))) (N (o0 P) (N (o10 P) (N (o26 P) (N (o58 P) (N (o122 P) (N (o250 P) (N (o509 P) (N (o1024 P) e e) e) (N (o768 P) e e)) (N (o381 P) (N (o637 P) e e) (N (o896 P) e e))) (N (o186 P) (N (o314 P) (N (o573 P) e e) (N (o832 P) e e)) (N (o445 P) (N (o701 P) e e) (N (o960 P) e e)))) (N (o90 P) (N (o154 P) (N (o282 P) (N (o541 P) (N (o1056 P) e e) e) (N (o800 P) e e)) (N (o413 P) (N (o669 P) e e) (N (o928 P) e e))) (N (o218 P) (N (o346 P) (N (o605 P) e e) (N (o864 P) e e)) (N (o477 P) (N (o736 P) e e) (N (o992 P) e e))))) (N (o42 P) (N (o74 P) (N (o138 P) (N (o266 P) (N (o525 P) (N (o1040 P) e e) e) (N (o784 P) e e)) (N (o397 P) (N (o653 P) e e) (N (o912 P) e e))) (N (o202 P) (N (o330 P) (N (o589 P) e e) (N (o848 P) e e)) (N (o461 P) (N (o717 P) e e) (N (o976 P) e e)))) (N (o106 P) (N (o170 P) (N (o298 P) (N (o557 P) (N (o1072 P) e e) e) (N (o816 P) e e)) (N (o429 P) (N (o685 P) e e) (N (o944 P) e e))) (N (o234 P) (N (o365 P) (N (o621 P) e e) (N (o880 P) e e)) (N (o493 P) (N (o752 P) e e) (N (o1008 P) e e)))))) (N (o18 P) (N (o34 P) (N (o66 P) (N (o130 P) (N (o258 P) (N (o517 P) (N (o1032 P) e e) e) (N (o776 P) e e)) (N (o389 P) (N (o645 P) e e) (N (o904 P) e e))) (N (o194 P) (N (o322 P) (N (o581 P) e e) (N (o840 P) e e)) (N (o453 P) (N (o709 P) e e) (N (o968 P) e e)))) (N (o98 P) (N (o162 P) (N (o290 P) (N (o549 P) (N (o1064 P) e e) e) (N (o808 P) e e)) (N (o421 P) (N (o677 P) e e) (N (o936 P) e e))) (N (o226 P) (N (o354 P) (N (o613 P) e e) (N (o872 P) e e)) (N (o485 P) (N (o744 P) e e) (N (o1000 P) e e))))) (N (o50 P) (N (o82 P) (N (o146 P) (N (o274 P) (N (o533 P) (N (o1048 P) e e) e) (N (o792 P) e e)) (N (o405 P) (N (o661 P) e e) (N (o920 P) e e))) (N (o210 P) (N (o338 P) (N (o597 P) e e) (N (o856 P) e e)) (N (o469 P) (N (o728 P) e e) (N (o984 P) e e)))) (N (o114 P) (N (o178 P) (N (o306 P) (N (o565 P) e e) (N (o824 P) e e)) (N (o437 P) (N (o693 P) e e) (N (o952 P) e e))) (N (o242 P) (N (o373 P) (N (o629 P) e e) (N (o888 P) e e)) (N (o501 P) (N (o760 P) e e) (N (o1016 P) e e)))))))) (N (boot_o_5 P) (N (boot_o_9 P) (N (o8 P) (N (o24 P) (N (o56 P) (N (o120 P) (N (o248 P) (N (o507 P) (N (o1022 P) e e) e) (N (o766 P) e e)) (N (o379 P) (N (o635 P) e e) (N (o894 P) e e))) (N (o184 P) (N (o312 P) (N (o571 P) e e) (N (o830 P) e e)) (N (o443 P) (N (o699 P) e e) (N (o958 P) e e)))) (N (o88 P) (N (o152 P) (N (o280 P) (N (o539 P) (N (o1054 P) e e) e) (N (o798 P) e e)) (N (o411 P) (N (o667 P) e e) (N (o926 P) e e))) (N (o216 P) (N (o344 P) (N (o603 P) e e) (N (o862 P) e e)) (N (o475 P) (N (o734 P) e e) (N (o990 P) e e))))) (N (o40 P) (N (o72 P) (N (o136 P) (N (o264 P) (N (o523 P) (N (o1038 P) e e) e) (N (o782 P) e e)) (N (o395 P) (N (o651 P) e e) (N (o910 P) e e))) (N (o200 P) (N (o328 P) (N (o587 P) e e) (N (o846 P) e e)) (N (o459 P) (N (o715 P) e e) (N (o974 P) e e)))) (N (o104 P) (N (o168 P) (N (o296 P) (N (o555 P) (N (o1070 P) e e) e) (N (o814 P) e e)) (N (o427 P) (N (o683 P) e e) (N (o942 P) e e))) (N (o232 P) (N (o360 P) (N (o619 P) e e) (N (o878 P) e e)) (N (o491 P) (N (o750 P) e e) (N (o1006 P) e e)))))) (N (o16 P) (N (o32 P) (N (o64 P) (N (o128 P) (N (o256 P) (N (o515 P) (N (o1030 P) e e) e) (N (o774 P) e e)) (N (o387 P) (N (o643 P) e e) (N (o902 P) e e))) (N (o192 P) (N (o320 P) (N (o579 P) e e) (N (o838 P) e e)) (N (o451 P) (N (o707 P) e e) (N (o966 P) e e)))) (N (o96 P) (N (o160 P) (N (o288 P) (N (o547 P) (N (o1062 P) e e) e) (N (o806 P) e e)) (N (o419 P) (N (o675 P) e e) (N (o934 P) e e))) (N (o224 P) (N (o352 P) (N (o611 P) e e) (N (o870 P) e e)) (N (o483 P) (N (o742 P) e e) (N (o998 P) e e))))) (N (o48 P) (N (o80 P) (N (o144 P) (N (o272 P) (N (o531 P) (N (o1046 P) e e) e) (N (o790 P) e e)) (N (o403 P) (N (o659 P) e e) (N (o918 P) e e))) (N (o208 P) (N (o336 P) (N (o595 P) e e) (N (o854 P) e e)) (N (o467 P) (N (o726 P) e e) (N (o982 P) e e)))) (N (o112 P) (N (o176 P) (N (o304 P) (N (o563 P) e e) (N (o822 P) e e)) (N (o435 P) (N (o691 P) e e) (N (o950 P) e e))) (N (o240 P) (N (o371 P) (N (o627 P) e e) (N (o886 P) e e)) (N (o499 P) (N (o758 P) e e) (N (o1014 P) e e))))))) (N (o2 P) (N (o12 P) (N (o28 P) (N (o60 P) (N (o124 P) (N (o252 P) (N (o511 P) (N (o1026 P) e e) e) (N (o770 P) e e)) (N (o383 P) (N (o639 P) e e) (N (o898 P) e e))) (N (o188 P) (N (o316 P) (N (o575 P) e e) (N (o834 P) e e)) (N (o447 P) (N (o703 P) e e) (N (o962 P) e e)))) (N (o92 P) (N (o156 P) (N (o284 P) (N (o543 P) (N (o1058 P) e e) e) (N (o802 P) e e)) (N (o415 P) (N (o671 P) e e) (N (o930 P) e e))) (N (o220 P) (N (o348 P) (N (o607 P) e e) (N (o866 P) e e)) (N (o479 P) (N (o738 P) e e) (N (o994 P) e e))))) (N (o44 P) (N (o76 P) (N (o140 P) (N (o268 P) (N (o527 P) (N (o1042 P) e e) e) (N (o786 P) e e)) (N (o399 P) (N (o655 P) e e) (N (o914 P) e e))) (N (o204 P) (N (o332 P) (N (o591 P) e e) (N (o850 P) e e)) (N (o463 P) (N (o722 P) e e) (N (o978 P) e e)))) (N (o108 P) (N (o172 P) (N (o300 P) (N (o559 P) (N (o1074 P) e e) e) (N (o818 P) e e)) (N (o431 P) (N (o687 P) e e) (N (o946 P) e e))) (N (o236 P) (N (o367 P) (N (o623 P) e e) (N (o882 P) e e)) (N (o495 P) (N (o754 P) e e) (N (o1010 P) e e)))))) (N (o20 P) (N (o36 P) (N (o68 P) (N (o132 P) (N (o260 P) (N (o519 P) (N (o1034 P) e e) e) (N (o778 P) e e)) (N (o391 P) (N (o647 P) e e) (N (o906 P) e e))) (N (o196 P) (N (o324 P) (N (o583 P) e e) (N (o842 P) e e)) (N (o455 P) (N (o711 P) e e) (N (o970 P) e e)))) (N (o100 P) (N (o164 P) (N (o292 P) (N (o551 P) (N (o1066 P) e e) e) (N (o810 P) e e)) (N (o423 P) (N (o679 P) e e) (N (o938 P) e e))) (N (o228 P) (N (o356 P) (N (o615 P) e e) (N (o874 P) e e)) (N (o487 P) (N (o746 P) e e) (N (o1002 P) e e))))) (N (o52 P) (N (o84 P) (N (o148 P) (N (o276 P) (N (o535 P) (N (o1050 P) e e) e) (N (o794 P) e e)) (N (o407 P) (N (o663 P) e e) (N (o922 P) e e))) (N (o212 P) (N (o340 P) (N (o599 P) e e) (N (o858 P) e e)) (N (o471 P) (N (o730 P) e e) (N (o986 P) e e)))) (N (o116 P) (N (o180 P) (N (o308 P) (N (o567 P) e e) (N (o826 P) e e)) (N (o439 P) (N (o695 P) e e) (N (o954 P) e e))) (N (o244 P) (N (o375 P) (N (o631 P) e e) (N (o890 P) e e)) (N (o503 P) (N (o762 P) e e) (N (o1018 P) e e))))))))) (N (boot_o_2 P) (N (boot_o_4 P) (N (boot_o_8 P) (N (o7 P) (N (o23 P) (N (o55 P) (N (o119 P) (N (o247 P) (N (o506 P) (N (o1021 P) e e) e) (N (o765 P) e e)) (N (o378 P) (N (o634 P) e e) (N (o893 P) e e))) (N (o183 P) (N (o311 P) (N (o570 P) e e) (N (o829 P) e e)) (N (o442 P) (N (o698 P) e e) (N (o957 P) e e)))) (N (o87 P) (N (o151 P) (N (o279 P) (N (o538 P) (N (o1053 P) e e) e) (N (o797 P) e e)) (N (o410 P) (N (o666 P) e e) (N (o925 P) e e))) (N (o215 P) (N (o343 P) (N (o602 P) e e) (N (o861 P) e e)) (N (o474 P) (N (o733 P) e e) (N (o989 P) e e))))) (N (o39 P) (N (o71 P) (N (o135 P) (N (o263 P) (N (o522 P) (N (o1037 P) e e) e) (N (o781 P) e e)) (N (o394 P) (N (o650 P) e e) (N (o909 P) e e))) (N (o199 P) (N (o327 P) (N (o586 P) e e) (N (o845 P) e e)) (N (o458 P) (N (o714 P) e e) (N (o973 P) e e)))) (N (o103 P) (N (o167 P) (N (o295 P) (N (o554 P) (N (o1069 P) e e) e) (N (o813 P) e e)) (N (o426 P) (N (o682 P) e e) (N (o941 P) e e))) (N (o231 P) (N (o359 P) (N (o618 P) e e) (N (o877 P) e e)) (N (o490 P) (N (o749 P) e e) (N (o1005 P) e e)))))) (N (o720 P) (N (o31 P) (N (o63 P) (N (o127 P) (N (o255 P) (N (o514 P) (N (o1029 P) e e) e) (N (o773 P) e e)) (N (o386 P) (N (o642 P) e e) (N (o901 P) e e))) (N (o191 P) (N (o319 P) (N (o578 P) e e) (N (o837 P) e e)) (N (o450 P) (N (o706 P) e e) (N (o965 P) e e)))) (N (o95 P) (N (o159 P) (N (o287 P) (N (o546 P) (N (o1061 P) e e) e) (N (o805 P) e e)) (N (o418 P) (N (o674 P) e e) (N (o933 P) e e))) (N (o223 P) (N (o351 P) (N (o610 P) e e) (N (o869 P) e e)) (N (o482 P) (N (o741 P) e e) (N (o997 P) e e))))) (N (o47 P) (N (o79 P) (N (o143 P) (N (o271 P) (N (o530 P) (N (o1045 P) e e) e) (N (o789 P) e e)) (N (o402 P) (N (o658 P) e e) (N (o917 P) e e))) (N (o207 P) (N (o335 P) (N (o594 P) e e) (N (o853 P) e e)) (N (o466 P) (N (o725 P) e e) (N (o981 P) e e)))) (N (o111 P) (N (o175 P) (N (o303 P) (N (o562 P) e e) (N (o821 P) e e)) (N (o434 P) (N (o690 P) e e) (N (o949 P) e e))) (N (o239 P) (N (o370 P) (N (o626 P) e e) (N (o885 P) e e)) (N (o498 P) (N (o757 P) e e) (N (o1013 P) e e))))))) (N (o719 P) (N (o11 P) (N (o27 P) (N (o59 P) (N (o123 P) (N (o251 P) (N (o510 P) (N (o1025 P) e e) e) (N (o769 P) e e)) (N (o382 P) (N (o638 P) e e) (N (o897 P) e e))) (N (o187 P) (N (o315 P) (N (o574 P) e e) (N (o833 P) e e)) (N (o446 P) (N (o702 P) e e) (N (o961 P) e e)))) (N (o91 P) (N (o155 P) (N (o283 P) (N (o542 P) (N (o1057 P) e e) e) (N (o801 P) e e)) (N (o414 P) (N (o670 P) e e) (N (o929 P) e e))) (N (o219 P) (N (o347 P) (N (o606 P) e e) (N (o865 P) e e)) (N (o478 P) (N (o737 P) e e) (N (o993 P) e e))))) (N (o43 P) (N (o75 P) (N (o139 P) (N (o267 P) (N (o526 P) (N (o1041 P) e e) e) (N (o785 P) e e)) (N (o398 P) (N (o654 P) e e) (N (o913 P) e e))) (N (o203 P) (N (o331 P) (N (o590 P) e e) (N (o849 P) e e)) (N (o462 P) (N (o721 P) e e) (N (o977 P) e e)))) (N (o107 P) (N (o171 P) (N (o299 P) (N (o558 P) (N (o1073 P) e e) e) (N (o817 P) e e)) (N (o430 P) (N (o686 P) e e) (N (o945 P) e e))) (N (o235 P) (N (o366 P) (N (o622 P) e e) (N (o881 P) e e)) (N (o494 P) (N (o753 P) e e) (N (o1009 P) e e)))))) (N (o19 P) (N (o35 P) (N (o67 P) (N (o131 P) (N (o259 P) (N (o518 P) (N (o1033 P) e e) e) (N (o777 P) e e)) (N (o390 P) (N (o646 P) e e) (N (o905 P) e e))) (N (o195 P) (N (o323 P) (N (o582 P) e e) (N (o841 P) e e)) (N (o454 P) (N (o710 P) e e) (N (o969 P) e e)))) (N (o99 P) (N (o163 P) (N (o291 P) (N (o550 P) (N (o1065 P) e e) e) (N (o809 P) e e)) (N (o422 P) (N (o678 P) e e) (N (o937 P) e e))) (N (o227 P) (N (o355 P) (N (o614 P) e e) (N (o873 P) e e)) (N (o486 P) (N (o745 P) e e) (N (o1001 P) e e))))) (N (o51 P) (N (o83 P) (N (o147 P) (N (o275 P) (N (o534 P) (N (o1049 P) e e) e) (N (o793 P) e e)) (N (o406 P) (N (o662 P) e e) (N (o921 P) e e))) (N (o211 P) (N (o339 P) (N (o598 P) e e) (N (o857 P) e e)) (N (o470 P) (N (o729 P) e e) (N (o985 P) e e)))) (N (o115 P) (N (o179 P) (N (o307 P) (N (o566 P) e e) (N (o825 P) e e)) (N (o438 P) (N (o694 P) e e) (N (o953 P) e e))) (N (o243 P) (N (o374 P) (N (o630 P) e e) (N (o889 P) e e)) (N (o502 P) (N (o761 P) e e) (N (o1017 P) e e)))))))) (N (boot_o_6 P) (N (boot_o_10 P) (N (o9 P) (N (o25 P) (N (o57 P) (N (o121 P) (N (o249 P) (N (o508 P) (N (o1023 P) e e) e) (N (o767 P) e e)) (N (o380 P) (N (o636 P) e e) (N (o895 P) e e))) (N (o185 P) (N (o313 P) (N (o572 P) e e) (N (o831 P) e e)) (N (o444 P) (N (o700 P) e e) (N (o959 P) e e)))) (N (o89 P) (N (o153 P) (N (o281 P) (N (o540 P) (N (o1055 P) e e) e) (N (o799 P) e e)) (N (o412 P) (N (o668 P) e e) (N (o927 P) e e))) (N (o217 P) (N (o345 P) (N (o604 P) e e) (N (o863 P) e e)) (N (o476 P) (N (o735 P) e e) (N (o991 P) e e))))) (N (o41 P) (N (o73 P) (N (o137 P) (N (o265 P) (N (o524 P) (N (o1039 P) e e) e) (N (o783 P) e e)) (N (o396 P) (N (o652 P) e e) (N (o911 P) e e))) (N (o201 P) (N (o329 P) (N (o588 P) e e) (N (o847 P) e e)) (N (o460 P) (N (o716 P) e e) (N (o975 P) e e)))) (N (o105 P) (N (o169 P) (N (o297 P) (N (o556 P) (N (o1071 P) e e) e) (N (o815 P) e e)) (N (o428 P) (N (o684 P) e e) (N (o943 P) e e))) (N (o233 P) (N (o364 P) (N (o620 P) e e) (N (o879 P) e e)) (N (o492 P) (N (o751 P) e e) (N (o1007 P) e e)))))) (N (o17 P) (N (o33 P) (N (o65 P) (N (o129 P) (N (o257 P) (N (o516 P) (N (o1031 P) e e) e) (N (o775 P) e e)) (N (o388 P) (N (o644 P) e e) (N (o903 P) e e))) (N (o193 P) (N (o321 P) (N (o580 P) e e) (N (o839 P) e e)) (N (o452 P) (N (o708 P) e e) (N (o967 P) e e)))) (N (o97 P) (N (o161 P) (N (o289 P) (N (o548 P) (N (o1063 P) e e) e) (N (o807 P) e e)) (N (o420 P) (N (o676 P) e e) (N (o935 P) e e))) (N (o225 P) (N (o353 P) (N (o612 P) e e) (N (o871 P) e e)) (N (o484 P) (N (o743 P) e e) (N (o999 P) e e))))) (N (o49 P) (N (o81 P) (N (o145 P) (N (o273 P) (N (o532 P) (N (o1047 P) e e) e) (N (o791 P) e e)) (N (o404 P) (N (o660 P) e e) (N (o919 P) e e))) (N (o209 P) (N (o337 P) (N (o596 P) e e) (N (o855 P) e e)) (N (o468 P) (N (o727 P) e e) (N (o983 P) e e)))) (N (o113 P) (N (o177 P) (N (o305 P) (N (o564 P) e e) (N (o823 P) e e)) (N (o436 P) (N (o692 P) e e) (N (o951 P) e e))) (N (o241 P) (N (o372 P) (N (o628 P) e e) (N (o887 P) e e)) (N (o500 P) (N (o759 P) e e) (N (o1015 P) e e))))))) (N (o3 P) (N (o13 P) (N (o29 P) (N (o61 P) (N (o125 P) (N (o253 P) (N (o512 P) (N (o1027 P) e e) e) (N (o771 P) e e)) (N (o384 P) (N (o640 P) e e) (N (o899 P) e e))) (N (o189 P) (N (o317 P) (N (o576 P) e e) (N (o835 P) e e)) (N (o448 P) (N (o704 P) e e) (N (o963 P) e e)))) (N (o93 P) (N (o157 P) (N (o285 P) (N (o544 P) (N (o1059 P) e e) e) (N (o803 P) e e)) (N (o416 P) (N (o672 P) e e) (N (o931 P) e e))) (N (o221 P) (N (o349 P) (N (o608 P) e e) (N (o867 P) e e)) (N (o480 P) (N (o739 P) e e) (N (o995 P) e e))))) (N (o45 P) (N (o77 P) (N (o141 P) (N (o269 P) (N (o528 P) (N (o1043 P) e e) e) (N (o787 P) e e)) (N (o400 P) (N (o656 P) e e) (N (o915 P) e e))) (N (o205 P) (N (o333 P) (N (o592 P) e e) (N (o851 P) e e)) (N (o464 P) (N (o723 P) e e) (N (o979 P) e e)))) (N (o109 P) (N (o173 P) (N (o301 P) (N (o560 P) e e) (N (o819 P) e e)) (N (o432 P) (N (o688 P) e e) (N (o947 P) e e))) (N (o237 P) (N (o368 P) (N (o624 P) e e) (N (o883 P) e e)) (N (o496 P) (N (o755 P) e e) (N (o1011 P) e e)))))) (N (o21 P) (N (o37 P) (N (o69 P) (N (o133 P) (N (o261 P) (N (o520 P) (N (o1035 P) e e) e) (N (o779 P) e e)) (N (o392 P) (N (o648 P) e e) (N (o907 P) e e))) (N (o197 P) (N (o325 P) (N (o584 P) e e) (N (o843 P) e e)) (N (o456 P) (N (o712 P) e e) (N (o971 P) e e)))) (N (o101 P) (N (o165 P) (N (o293 P) (N (o552 P) (N (o1067 P) e e) e) (N (o811 P) e e)) (N (o424 P) (N (o680 P) e e) (N (o939 P) e e))) (N (o229 P) (N (o357 P) (N (o616 P) e e) (N (o875 P) e e)) (N (o488 P) (N (o747 P) e e) (N (o1003 P) e e))))) (N (o53 P) (N (o85 P) (N (o149 P) (N (o277 P) (N (o536 P) (N (o1051 P) e e) e) (N (o795 P) e e)) (N (o408 P) (N (o664 P) e e) (N (o923 P) e e))) (N (o213 P) (N (o341 P) (N (o600 P) e e) (N (o859 P) e e)) (N (o472 P) (N (o731 P) e e) (N (o987 P) e e)))) (N (o117 P) (N (o181 P) (N (o309 P) (N (o568 P) e e) (N (o827 P) e e)) (N (o440 P) (N (o696 P) e e) (N (o955 P) e e))) (N (o245 P) (N (o376 P) (N (o632 P) e e) (N (o891 P) e e)) (N (o504 P) (N (o763 P) e e) (N (o1019 P) e e))))))))))
def S3 (w : World) (os : OsState) : SharedT := ⟨T3 w.params, 1078, ⟨[], [], [], 0, [], [], false, #[], [], 0, false, false, false, 0, [2000, 10, 10], false, 0, true, [], [], 0, false⟩, #[], ⟨0, 0, 0, 0⟩, 1603, os⟩
def pos3 : Pos := ⟨227, 0, 230, 26⟩
def o1075 (P : Params) : Obj := ⟨(.type "dict"), none, (.dict #[E P "__name__" 165 (.str (S "law_meettasks_k00_errors_made") 1996), E P "__doc__" 166 .none, E P "__package__" 167 .none, E P "__loader__" 168 (.builtin "__main__.__loader__#opaque"), E P "__spec__" 169 .none, E P "__annotations__" 170 (.ref 6), E P "__builtins__" 171 (.ref 4), E P "__file__" 173 (.str (S "/claim/cut.py") 172), E P "__cached__" 174 .none, E P "TaskError" 206 (.ref 24), E P "BadValues" 231 (.ref 44), E P "BadStart" 256 (.ref 63), E P "BadDeeds" 281 (.ref 82), E P "BadEntries" 306 (.ref 101), E P "BadThings" 331 (.ref 120), E P "BadBody" 358 (.ref 139), E P "NoTask" 383 (.ref 158), E P "NoPath" 408 (.ref 177), E P "NoThing" 433 (.ref 196), E P "BadOrder" 458 (.ref 215), E P "NoStand" 483 (.ref 234), E P "BadSpots" 508 (.ref 253), E P "Endless" 533 (.ref 272), E P "BadEvents" 558 (.ref 291), E P "NoDeed" 583 (.ref 310), E P "BadStretch" 608 (.ref 329), E P "BadKind" 633 (.ref 348), E P "BadMany" 658 (.ref 367), E P "NotClosing" 683 (.ref 386), E P "BadTasks" 708 (.ref 405), E P "BadOffers" 733 (.ref 424), E P "BadSentence" 758 (.ref 443), E P "BadTruth" 783 (.ref 462), E P "BadMarks" 808 (.ref 481), E P "NoEntryName" 833 (.ref 500), E P "BadNames" 858 (.ref 519), E P "BadNumber" 883 (.ref 538), E P "BadCalls" 908 (.ref 557), E P "UnlikeNames" 924 (.ref 569), E P "BadServers" 951 (.ref 588), E P "BadLike" 976 (.ref 607), E P "BadWanted" 1001 (.ref 626), E P "NoSpot" 1026 (.ref 645), E P "BadStep" 1051 (.ref 664), E P "Restless" 1078 (.ref 683), E P "BadRow" 1103 (.ref 702), E P "BadLot" 1128 (.ref 721), E P "BadStates" 1153 (.ref 740), E P "UnlikeEntries" 1169 (.ref 752), E P "BadMachine" 1194 (.ref 771), E P "NoEntry" 1221 (.ref 790), E P "BadJobs" 1246 (.ref 809), E P "NoJob" 1271 (.ref 828), E P "BadComings" 1296 (.ref 847), E P "BadCeiling" 1321 (.ref 866), E P "BadEnds" 1346 (.ref 885), E P "BadTimed" 1373 (.ref 904), E P "BadFates" 1398 (.ref 923), E P "NoNote" 1423 (.ref 942), E P "NoComing" 1448 (.ref 961), E P "BadCourse" 1473 (.ref 980), E P "BadCode" 1500 (.ref 999), E P "Silent" 1527 (.ref 1018), E P "BadCuts" 1552 (.ref 1037), E P "NoRow" 1577 (.ref 1056), E P "BadLog" 1602 (.ref 1075), E P "BadGap" 1627 (.ref 1094), E P "BadEvent" 1652 (.ref 1113), E P "BadApart" 1677 (.ref 1132), E P "BadLine" 1702 (.ref 1151), E P "BadKinds" 1727 (.ref 1170), E P "BadText" 1752 (.ref 1189), E P "BadOpen" 1777 (.ref 1208), E P "BadFilling" 1802 (.ref 1227), E P "BadAsk" 1827 (.ref 1246), E P "BadName" 1852 (.ref 1265), E P "BadThing" 1877 (.ref 1284), E P "Lacks" 1902 (.ref 1303), E P "NotOf" 1927 (.ref 1322), E P "NoName" 1952 (.ref 1341), E P "Needed" 1979 (.ref 1360), E P "Nothing" 1995 (.ref 1372), E P "_law_pool" 2008 (.ref 1381), E P "_law_take" 2018 (.ref 1388), E P "_law_mixed" 2030 (.ref 1395), E P "_law_made_a" 2039 (.ref 1402), E P "_law_made_b" 2048 (.ref 1409), E P "_law_made_c" 2057 (.ref 1416), E P "_law_kinds_a" 2065 (.ref 1423), E P "_law_kinds_b" 2073 (.ref 1430), E P "_law_kinds_c" 2081 (.ref 1437), E P "_law_is_own" 2087 (.ref 1442), E P "_law_same" 2095 (.ref 1449), E P "law" 2117 (.ref 1456)] 94), #[]⟩
def o1076 (P : Params) : Obj := ⟨.none, none, (.fields #[(.int 2 0), (.int 0 0), (.ref 20), (.int 4 0), (.int 0 0), (.ref 33), (.int 8 0), (.int 0 0), (.ref 52), (.int 12 0), (.int 0 0), (.ref 71), (.int 16 0), (.int 0 0), (.ref 90), (.int 20 0), (.int 0 0), (.ref 109), (.int 24 0), (.int 0 0), (.ref 128), (.int 29 0), (.int 0 0), (.ref 147), (.int 33 0), (.int 0 0), (.ref 166), (.int 37 0), (.int 0 0), (.ref 185), (.int 41 0), (.int 0 0), (.ref 204), (.int 45 0), (.int 0 0), (.ref 223), (.int 49 0), (.int 0 0), (.ref 242), (.int 53 0), (.int 0 0), (.ref 261), (.int 57 0), (.int 0 0), (.ref 280), (.int 61 0), (.int 0 0), (.ref 299), (.int 65 0), (.int 0 0), (.ref 318), (.int 69 0), (.int 0 0), (.ref 337), (.int 73 0), (.int 0 0), (.ref 356), (.int 77 0), (.int 0 0), (.ref 375), (.int 81 0), (.int 0 0), (.ref 394), (.int 85 0), (.int 0 0), (.ref 413), (.int 89 0), (.int 0 0), (.ref 432), (.int 93 0), (.int 0 0), (.ref 451), (.int 97 0), (.int 0 0), (.ref 470), (.int 101 0), (.int 0 0), (.ref 489), (.int 105 0), (.int 0 0), (.ref 508), (.int 109 0), (.int 0 0), (.ref 527), (.int 113 0), (.int 0 0), (.ref 546), (.int 117 0), (.int 0 0), (.ref 565), (.int 119 0), (.int 0 0), (.ref 577), (.int 124 0), (.int 0 0), (.ref 596), (.int 128 0), (.int 0 0), (.ref 615), (.int 132 0), (.int 0 0), (.ref 634), (.int 136 0), (.int 0 0), (.ref 653), (.int 140 0), (.int 0 0), (.ref 672), (.int 145 0), (.int 0 0), (.ref 691), (.int 149 0), (.int 0 0), (.ref 710), (.int 153 0), (.int 0 0), (.ref 729), (.int 157 0), (.int 0 0), (.ref 748), (.int 159 0), (.int 0 0), (.ref 760), (.int 163 0), (.int 0 0), (.ref 779), (.int 168 0), (.int 0 0), (.ref 798), (.int 172 0), (.int 0 0), (.ref 817), (.int 176 0), (.int 0 0), (.ref 836), (.int 180 0), (.int 0 0), (.ref 855), (.int 184 0), (.int 0 0), (.ref 874), (.int 188 0), (.int 0 0), (.ref 893), (.int 193 0), (.int 0 0), (.ref 912), (.int 197 0), (.int 0 0), (.ref 931), (.int 201 0), (.int 0 0), (.ref 950), (.int 205 0), (.int 0 0), (.ref 969), (.int 209 0), (.int 0 0), (.ref 988), (.int 214 0), (.int 0 0), (.ref 1007), (.int 219 0), (.int 0 0), (.ref 1026), (.int 223 0), (.int 0 0), (.ref 1045), (.int 227 0), (.int 0 0), (.ref 1064), (.int 231 0), (.int 0 0), (.ref 1083), (.int 235 0), (.int 0 0), (.ref 1102), (.int 239 0), (.int 0 0), (.ref 1121), (.int 243 0), (.int 0 0), (.ref 1140), (.int 247 0), (.int 0 0), (.ref 1159), (.int 251 0), (.int 0 0), (.ref 1178), (.int 255 0), (.int 0 0), (.ref 1197), (.int 259 0), (.int 0 0), (.ref 1216), (.int 263 0), (.int 0 0), (.ref 1235), (.int 267 0), (.int 0 0), (.ref 1254), (.int 271 0), (.int 0 0), (.ref 1273), (.int 275 0), (.int 0 0), (.ref 1292), (.int 279 0), (.int 0 0), (.ref 1311), (.int 283 0), (.int 0 0), (.ref 1330), (.int 287 0), (.int 0 0), (.ref 1349), (.int 292 0), (.int 0 0), (.ref 1368), (.int 295 0), (.int 0 0), (.ref 1380), (.int 301 0), (.int 0 0), (.ref 1387), (.int 309 0), (.int 0 0), (.ref 1394), (.int 316 0), (.int 0 0), (.ref 1401), (.int 344 0), (.int 0 0), (.ref 1408), (.int 372 0), (.int 0 0), (.ref 1415), (.int 394 0), (.int 0 0), (.ref 1422), (.int 409 0), (.int 0 0), (.ref 1429), (.int 424 0), (.int 0 0), (.ref 1436), (.int 439 0), (.int 0 0), (.ref 1441), (.int 443 0), (.int 0 0), (.ref 1448), (.int 445 0), (.int 0 0), (.ref 1455)]), #[]⟩
def o1077 (P : Params) : Obj := ⟨(.type "type"), none, (.cls ⟨(S "TaskError"), [(.type "ValueError")], [(.ref 24), (.type "ValueError"), (.type "Exception"), (.type "BaseException"), (.type "object")], 23, (S "TaskError"), true, [], [(.ref 44), (.ref 63), (.ref 82), (.ref 101), (.ref 120), (.ref 139), (.ref 158), (.ref 177), (.ref 196), (.ref 215), (.ref 234), (.ref 253), (.ref 272), (.ref 291), (.ref 310), (.ref 329), (.ref 348), (.ref 367), (.ref 386), (.ref 405), (.ref 424), (.ref 443), (.ref 462), (.ref 481), (.ref 500), (.ref 519), (.ref 538), (.ref 557), (.ref 569), (.ref 588), (.ref 607), (.ref 626), (.ref 645), (.ref 664), (.ref 683), (.ref 702), (.ref 721), (.ref 740), (.ref 752), (.ref 771), (.ref 790), (.ref 809), (.ref 828), (.ref 847), (.ref 866), (.ref 885), (.ref 904), (.ref 923), (.ref 942), (.ref 961), (.ref 980), (.ref 999), (.ref 1018), (.ref 1037), (.ref 1056), (.ref 1075), (.ref 1094), (.ref 1113), (.ref 1132), (.ref 1151), (.ref 1170), (.ref 1189), (.ref 1208), (.ref 1227), (.ref 1246), (.ref 1265), (.ref 1284), (.ref 1303), (.ref 1322), (.ref 1341), (.ref 1360), (.ref 1372)], false, none, false⟩), #[(some (.ref 15)), none, (some (.str (S "TaskError") 189)), (some (.str (S "TaskError") 197)), (some (.builtin "ValueError.__new__")), (some (.bool true))]⟩
def o1078 (P : Params) : Obj := ⟨(.type "tuple"), none, (.seq #[(.ref 24)] 0), #[]⟩
def o1079 (P : Params) : Obj := ⟨(.type "builtin_function_or_method"), none, (.fields #[(.builtin "type.__prepare__"), (.type "type")]), #[]⟩
def o1080 (P : Params) : Obj := ⟨(.type "dict"), none, (.dict #[E P "__module__" 1610 (.str (S "meettasks.errors") 187), E P "__qualname__" 1612 (.str (S "BadGap") 1611), E P "__firstlineno__" 1614 (.int 231 1613), E P "__init__" 1622 (.ref 1091), E P "__static_attributes__" 1624 (.ref 1092)] 5), #[]⟩
def o1081 (P : Params) : Obj := ⟨(.type "tuple"), none, (.seq #[] 0), #[]⟩
def o1082 (P : Params) : Obj := ⟨.none, none, (.fields #[(.int 233 0), (.int 4 0), (.ref 1090)]), #[]⟩
def o1083 (P : Params) : Obj := ⟨(.type "code"), none, (.fields #[(.str (S "BadGap") 1605), (.str (S "BadGap") 1606), (.str (S "/claim/cut.py") 1607), (.int 231 0), (.int 0 0), (.int 0 0), (.int 0 0), (.int 0 0), (.ref 1081), (.bool false), (.int 181 0), (.ref 1082), .none, .none, .none, .none, (.int 1608 0), (.int 231 0), (.str (S "/claim/cut.py") 1609)]), #[]⟩
def o1084 (P : Params) : Obj := ⟨(.type "frame"), none, .plain, #[(some (.ref 1083)), (some (.ref 3)), (some (.ref 1080)), none, (some (.str (S "meettasks.errors") 187)), none, (some (.ref 0))]⟩
def o1085 (P : Params) : Obj := ⟨(.type "tuple"), none, (.seq #[] 0), #[]⟩
def o1086 (P : Params) : Obj := ⟨.none, none, (.fields #[]), #[]⟩
def o1087 (P : Params) : Obj := ⟨(.type "tuple"), none, (.seq #[(.str (S "self") 1618), (.str (S "number") 1619)] 0), #[]⟩
def o1088 (P : Params) : Obj := ⟨(.type "tuple"), none, (.seq #[] 0), #[]⟩
def o1089 (P : Params) : Obj := ⟨.none, none, (.func ⟨(S "__init__"), (S "BadGap.__init__"), (dM 58 0).params, .stmts (dM 58 0).body, (dM 58 0).scope, 0, [], .none, .none, .none, .none, none, .none, .none, 0⟩), #[]⟩
def o1090 (P : Params) : Obj := ⟨(.type "code"), none, (.fields #[(.str (S "__init__") 1615), (.str (S "BadGap.__init__") 1616), (.str (S "/claim/cut.py") 1617), (.int 233 0), (.int 2 0), (.int 0 0), (.int 0 0), (.int 3 0), (.ref 1085), (.bool true), (.int 181 0), (.ref 1086), .none, (.ref 1087), (.ref 1088), (.ref 1089), (.int 1620 0), (.int 233 0), (.str (S "/claim/cut.py") 1621)]), #[]⟩
def o1091 (P : Params) : Obj := ⟨(.type "function"), none, (.func ⟨(S "__init__"), (S "BadGap.__init__"), (dM 58 0).params, .stmts (dM 58 0).body, (dM 58 0).scope, 3, [], .none, .none, .none, (.str (S "meettasks.errors") 187), none, (.ref 1090), .none, 0⟩), #[]⟩
def o1092 (P : Params) : Obj := ⟨(.type "tuple"), none, (.seq #[(.str (S "number") 1623)] 0), #[]⟩
def o1093 (P : Params) : Obj := ⟨(.type "dict"), none, (.dict #[E P "__module__" 1610 (.str (S "meettasks.errors") 187), E P "__firstlineno__" 1614 (.int 231 1613), E P "__init__" 1622 (.ref 1091), E P "__static_attributes__" 1624 (.ref 1092), E P "__doc__" 1625 .none] 2), #[]⟩
def o1094 (P : Params) : Obj := ⟨(.type "type"), none, (.cls ⟨(S "BadGap"), [(.ref 24)], [(.ref 1094), (.ref 24), (.type "ValueError"), (.type "Exception"), (.type "BaseException"), (.type "object")], 1093, (S "BadGap"), true, [], [], false, none, false⟩), #[(some (.ref 1078)), none, (some (.str (S "BadGap") 1603)), (some (.str (S "BadGap") 1611)), (some (.builtin "ValueError.__new__")), (some (.bool true))]⟩
def o1095 (P : Params) : Obj := ⟨(.type "super"), none, (.fields #[(.ref 1094), (.ref 1094), (.ref 1094)]), #[]⟩
def o1096 (P : Params) : Obj := ⟨(.type "builtin_function_or_method"), none, (.fields #[(.builtin "object.__init_subclass__"), (.ref 1094)]), #[]⟩
def o1097 (P : Params) : Obj := ⟨(.type "tuple"), none, (.seq #[(.ref 24)] 0), #[]⟩
def o1098 (P : Params) : Obj := ⟨(.type "builtin_function_or_method"), none, (.fields #[(.builtin "type.__prepare__"), (.type "type")]), #[]⟩
def o1099 (P : Params) : Obj := ⟨(.type "dict"), none, (.dict #[E P "__module__" 1635 (.str (S "meettasks.errors") 187), E P "__qualname__" 1637 (.str (S "BadEvent") 1636), E P "__firstlineno__" 1639 (.int 235 1638), E P "__init__" 1647 (.ref 1110), E P "__static_attributes__" 1649 (.ref 1111)] 5), #[]⟩
def o1100 (P : Params) : Obj := ⟨(.type "tuple"), none, (.seq #[] 0), #[]⟩
def o1101 (P : Params) : Obj := ⟨.none, none, (.fields #[(.int 237 0), (.int 4 0), (.ref 1109)]), #[]⟩
def o1102 (P : Params) : Obj := ⟨(.type "code"), none, (.fields #[(.str (S "BadEvent") 1630), (.str (S "BadEvent") 1631), (.str (S "/claim/cut.py") 1632), (.int 235 0), (.int 0 0), (.int 0 0), (.int 0 0), (.int 0 0), (.ref 1100), (.bool false), (.int 181 0), (.ref 1101), .none, .none, .none, .none, (.int 1633 0), (.int 235 0), (.str (S "/claim/cut.py") 1634)]), #[]⟩
def o1103 (P : Params) : Obj := ⟨(.type "frame"), none, .plain, #[(some (.ref 1102)), (some (.ref 3)), (some (.ref 1099)), none, (some (.str (S "meettasks.errors") 187)), none, (some (.ref 0))]⟩
def o1104 (P : Params) : Obj := ⟨(.type "tuple"), none, (.seq #[] 0), #[]⟩
def o1105 (P : Params) : Obj := ⟨.none, none, (.fields #[]), #[]⟩
def o1106 (P : Params) : Obj := ⟨(.type "tuple"), none, (.seq #[(.str (S "self") 1643), (.str (S "event") 1644)] 0), #[]⟩
def o1107 (P : Params) : Obj := ⟨(.type "tuple"), none, (.seq #[] 0), #[]⟩
def o1108 (P : Params) : Obj := ⟨.none, none, (.func ⟨(S "__init__"), (S "BadEvent.__init__"), (dM 59 0).params, .stmts (dM 59 0).body, (dM 59 0).scope, 0, [], .none, .none, .none, .none, none, .none, .none, 0⟩), #[]⟩
def o1109 (P : Params) : Obj := ⟨(.type "code"), none, (.fields #[(.str (S "__init__") 1640), (.str (S "BadEvent.__init__") 1641), (.str (S "/claim/cut.py") 1642), (.int 237 0), (.int 2 0), (.int 0 0), (.int 0 0), (.int 3 0), (.ref 1104), (.bool true), (.int 181 0), (.ref 1105), .none, (.ref 1106), (.ref 1107), (.ref 1108), (.int 1645 0), (.int 237 0), (.str (S "/claim/cut.py") 1646)]), #[]⟩
def o1110 (P : Params) : Obj := ⟨(.type "function"), none, (.func ⟨(S "__init__"), (S "BadEvent.__init__"), (dM 59 0).params, .stmts (dM 59 0).body, (dM 59 0).scope, 3, [], .none, .none, .none, (.str (S "meettasks.errors") 187), none, (.ref 1109), .none, 0⟩), #[]⟩
def o1111 (P : Params) : Obj := ⟨(.type "tuple"), none, (.seq #[(.str (S "event") 1648)] 0), #[]⟩
def o1112 (P : Params) : Obj := ⟨(.type "dict"), none, (.dict #[E P "__module__" 1635 (.str (S "meettasks.errors") 187), E P "__firstlineno__" 1639 (.int 235 1638), E P "__init__" 1647 (.ref 1110), E P "__static_attributes__" 1649 (.ref 1111), E P "__doc__" 1650 .none] 2), #[]⟩
def o1113 (P : Params) : Obj := ⟨(.type "type"), none, (.cls ⟨(S "BadEvent"), [(.ref 24)], [(.ref 1113), (.ref 24), (.type "ValueError"), (.type "Exception"), (.type "BaseException"), (.type "object")], 1112, (S "BadEvent"), true, [], [], false, none, false⟩), #[(some (.ref 1097)), none, (some (.str (S "BadEvent") 1628)), (some (.str (S "BadEvent") 1636)), (some (.builtin "ValueError.__new__")), (some (.bool true))]⟩
def o1114 (P : Params) : Obj := ⟨(.type "super"), none, (.fields #[(.ref 1113), (.ref 1113), (.ref 1113)]), #[]⟩
def o1115 (P : Params) : Obj := ⟨(.type "builtin_function_or_method"), none, (.fields #[(.builtin "object.__init_subclass__"), (.ref 1113)]), #[]⟩
def o1116 (P : Params) : Obj := ⟨(.type "tuple"), none, (.seq #[(.ref 24)] 0), #[]⟩
def o1117 (P : Params) : Obj := ⟨(.type "builtin_function_or_method"), none, (.fields #[(.builtin "type.__prepare__"), (.type "type")]), #[]⟩
def o1118 (P : Params) : Obj := ⟨(.type "dict"), none, (.dict #[E P "__module__" 1660 (.str (S "meettasks.errors") 187), E P "__qualname__" 1662 (.str (S "BadApart") 1661), E P "__firstlineno__" 1664 (.int 239 1663), E P "__init__" 1672 (.ref 1129), E P "__static_attributes__" 1674 (.ref 1130)] 5), #[]⟩
def o1119 (P : Params) : Obj := ⟨(.type "tuple"), none, (.seq #[] 0), #[]⟩
def o1120 (P : Params) : Obj := ⟨.none, none, (.fields #[(.int 241 0), (.int 4 0), (.ref 1128)]), #[]⟩
def o1121 (P : Params) : Obj := ⟨(.type "code"), none, (.fields #[(.str (S "BadApart") 1655), (.str (S "BadApart") 1656), (.str (S "/claim/cut.py") 1657), (.int 239 0), (.int 0 0), (.int 0 0), (.int 0 0), (.int 0 0), (.ref 1119), (.bool false), (.int 181 0), (.ref 1120), .none, .none, .none, .none, (.int 1658 0), (.int 239 0), (.str (S "/claim/cut.py") 1659)]), #[]⟩
def o1122 (P : Params) : Obj := ⟨(.type "frame"), none, .plain, #[(some (.ref 1121)), (some (.ref 3)), (some (.ref 1118)), none, (some (.str (S "meettasks.errors") 187)), none, (some (.ref 0))]⟩
def o1123 (P : Params) : Obj := ⟨(.type "tuple"), none, (.seq #[] 0), #[]⟩
def o1124 (P : Params) : Obj := ⟨.none, none, (.fields #[]), #[]⟩
def o1125 (P : Params) : Obj := ⟨(.type "tuple"), none, (.seq #[(.str (S "self") 1668), (.str (S "task") 1669)] 0), #[]⟩
def o1126 (P : Params) : Obj := ⟨(.type "tuple"), none, (.seq #[] 0), #[]⟩
def o1127 (P : Params) : Obj := ⟨.none, none, (.func ⟨(S "__init__"), (S "BadApart.__init__"), (dM 60 0).params, .stmts (dM 60 0).body, (dM 60 0).scope, 0, [], .none, .none, .none, .none, none, .none, .none, 0⟩), #[]⟩
def o1128 (P : Params) : Obj := ⟨(.type "code"), none, (.fields #[(.str (S "__init__") 1665), (.str (S "BadApart.__init__") 1666), (.str (S "/claim/cut.py") 1667), (.int 241 0), (.int 2 0), (.int 0 0), (.int 0 0), (.int 3 0), (.ref 1123), (.bool true), (.int 181 0), (.ref 1124), .none, (.ref 1125), (.ref 1126), (.ref 1127), (.int 1670 0), (.int 241 0), (.str (S "/claim/cut.py") 1671)]), #[]⟩
def o1129 (P : Params) : Obj := ⟨(.type "function"), none, (.func ⟨(S "__init__"), (S "BadApart.__init__"), (dM 60 0).params, .stmts (dM 60 0).body, (dM 60 0).scope, 3, [], .none, .none, .none, (.str (S "meettasks.errors") 187), none, (.ref 1128), .none, 0⟩), #[]⟩
def o1130 (P : Params) : Obj := ⟨(.type "tuple"), none, (.seq #[(.str (S "task") 1673)] 0), #[]⟩
def o1131 (P : Params) : Obj := ⟨(.type "dict"), none, (.dict #[E P "__module__" 1660 (.str (S "meettasks.errors") 187), E P "__firstlineno__" 1664 (.int 239 1663), E P "__init__" 1672 (.ref 1129), E P "__static_attributes__" 1674 (.ref 1130), E P "__doc__" 1675 .none] 2), #[]⟩
def o1132 (P : Params) : Obj := ⟨(.type "type"), none, (.cls ⟨(S "BadApart"), [(.ref 24)], [(.ref 1132), (.ref 24), (.type "ValueError"), (.type "Exception"), (.type "BaseException"), (.type "object")], 1131, (S "BadApart"), true, [], [], false, none, false⟩), #[(some (.ref 1116)), none, (some (.str (S "BadApart") 1653)), (some (.str (S "BadApart") 1661)), (some (.builtin "ValueError.__new__")), (some (.bool true))]⟩
def o1133 (P : Params) : Obj := ⟨(.type "super"), none, (.fields #[(.ref 1132), (.ref 1132), (.ref 1132)]), #[]⟩
def o1134 (P : Params) : Obj := ⟨(.type "builtin_function_or_method"), none, (.fields #[(.builtin "object.__init_subclass__"), (.ref 1132)]), #[]⟩
def o1135 (P : Params) : Obj := ⟨(.type "tuple"), none, (.seq #[(.ref 24)] 0), #[]⟩
def o1136 (P : Params) : Obj := ⟨(.type "builtin_function_or_method"), none, (.fields #[(.builtin "type.__prepare__"), (.type "type")]), #[]⟩
def o1137 (P : Params) : Obj := ⟨(.type "dict"), none, (.dict #[E P "__module__" 1685 (.str (S "meettasks.errors") 187), E P "__qualname__" 1687 (.str (S "BadLine") 1686), E P "__firstlineno__" 1689 (.int 243 1688), E P "__init__" 1697 (.ref 1148), E P "__static_attributes__" 1699 (.ref 1149)] 5), #[]⟩
def o1138 (P : Params) : Obj := ⟨(.type "tuple"), none, (.seq #[] 0), #[]⟩
def o1139 (P : Params) : Obj := ⟨.none, none, (.fields #[(.int 245 0), (.int 4 0), (.ref 1147)]), #[]⟩
def o1140 (P : Params) : Obj := ⟨(.type "code"), none, (.fields #[(.str (S "BadLine") 1680), (.str (S "BadLine") 1681), (.str (S "/claim/cut.py") 1682), (.int 243 0), (.int 0 0), (.int 0 0), (.int 0 0), (.int 0 0), (.ref 1138), (.bool false), (.int 181 0), (.ref 1139), .none, .none, .none, .none, (.int 1683 0), (.int 243 0), (.str (S "/claim/cut.py") 1684)]), #[]⟩
def o1141 (P : Params) : Obj := ⟨(.type "frame"), none, .plain, #[(some (.ref 1140)), (some (.ref 3)), (some (.ref 1137)), none, (some (.str (S "meettasks.errors") 187)), none, (some (.ref 0))]⟩
def o1142 (P : Params) : Obj := ⟨(.type "tuple"), none, (.seq #[] 0), #[]⟩
def o1143 (P : Params) : Obj := ⟨.none, none, (.fields #[]), #[]⟩
def o1144 (P : Params) : Obj := ⟨(.type "tuple"), none, (.seq #[(.str (S "self") 1693), (.str (S "thing") 1694)] 0), #[]⟩
def o1145 (P : Params) : Obj := ⟨(.type "tuple"), none, (.seq #[] 0), #[]⟩
def o1146 (P : Params) : Obj := ⟨.none, none, (.func ⟨(S "__init__"), (S "BadLine.__init__"), (dM 61 0).params, .stmts (dM 61 0).body, (dM 61 0).scope, 0, [], .none, .none, .none, .none, none, .none, .none, 0⟩), #[]⟩
def o1147 (P : Params) : Obj := ⟨(.type "code"), none, (.fields #[(.str (S "__init__") 1690), (.str (S "BadLine.__init__") 1691), (.str (S "/claim/cut.py") 1692), (.int 245 0), (.int 2 0), (.int 0 0), (.int 0 0), (.int 3 0), (.ref 1142), (.bool true), (.int 181 0), (.ref 1143), .none, (.ref 1144), (.ref 1145), (.ref 1146), (.int 1695 0), (.int 245 0), (.str (S "/claim/cut.py") 1696)]), #[]⟩
def o1148 (P : Params) : Obj := ⟨(.type "function"), none, (.func ⟨(S "__init__"), (S "BadLine.__init__"), (dM 61 0).params, .stmts (dM 61 0).body, (dM 61 0).scope, 3, [], .none, .none, .none, (.str (S "meettasks.errors") 187), none, (.ref 1147), .none, 0⟩), #[]⟩
def o1149 (P : Params) : Obj := ⟨(.type "tuple"), none, (.seq #[(.str (S "thing") 1698)] 0), #[]⟩
def o1150 (P : Params) : Obj := ⟨(.type "dict"), none, (.dict #[E P "__module__" 1685 (.str (S "meettasks.errors") 187), E P "__firstlineno__" 1689 (.int 243 1688), E P "__init__" 1697 (.ref 1148), E P "__static_attributes__" 1699 (.ref 1149), E P "__doc__" 1700 .none] 2), #[]⟩
def o1151 (P : Params) : Obj := ⟨(.type "type"), none, (.cls ⟨(S "BadLine"), [(.ref 24)], [(.ref 1151), (.ref 24), (.type "ValueError"), (.type "Exception"), (.type "BaseException"), (.type "object")], 1150, (S "BadLine"), true, [], [], false, none, false⟩), #[(some (.ref 1135)), none, (some (.str (S "BadLine") 1678)), (some (.str (S "BadLine") 1686)), (some (.builtin "ValueError.__new__")), (some (.bool true))]⟩
def o1152 (P : Params) : Obj := ⟨(.type "super"), none, (.fields #[(.ref 1151), (.ref 1151), (.ref 1151)]), #[]⟩
def o1153 (P : Params) : Obj := ⟨(.type "builtin_function_or_method"), none, (.fields #[(.builtin "object.__init_subclass__"), (.ref 1151)]), #[]⟩
def o1154 (P : Params) : Obj := ⟨(.type "tuple"), none, (.seq #[(.ref 24)] 0), #[]⟩
def o1155 (P : Params) : Obj := ⟨(.type "builtin_function_or_method"), none, (.fields #[(.builtin "type.__prepare__"), (.type "type")]), #[]⟩
def o1156 (P : Params) : Obj := ⟨(.type "dict"), none, (.dict #[E P "__module__" 1710 (.str (S "meettasks.errors") 187), E P "__qualname__" 1712 (.str (S "BadKinds") 1711), E P "__firstlineno__" 1714 (.int 247 1713), E P "__init__" 1722 (.ref 1167), E P "__static_attributes__" 1724 (.ref 1168)] 5), #[]⟩
def o1157 (P : Params) : Obj := ⟨(.type "tuple"), none, (.seq #[] 0), #[]⟩
def o1158 (P : Params) : Obj := ⟨.none, none, (.fields #[(.int 249 0), (.int 4 0), (.ref 1166)]), #[]⟩
def o1159 (P : Params) : Obj := ⟨(.type "code"), none, (.fields #[(.str (S "BadKinds") 1705), (.str (S "BadKinds") 1706), (.str (S "/claim/cut.py") 1707), (.int 247 0), (.int 0 0), (.int 0 0), (.int 0 0), (.int 0 0), (.ref 1157), (.bool false), (.int 181 0), (.ref 1158), .none, .none, .none, .none, (.int 1708 0), (.int 247 0), (.str (S "/claim/cut.py") 1709)]), #[]⟩
def o1160 (P : Params) : Obj := ⟨(.type "frame"), none, .plain, #[(some (.ref 1159)), (some (.ref 3)), (some (.ref 1156)), none, (some (.str (S "meettasks.errors") 187)), none, (some (.ref 0))]⟩
def o1161 (P : Params) : Obj := ⟨(.type "tuple"), none, (.seq #[] 0), #[]⟩
def o1162 (P : Params) : Obj := ⟨.none, none, (.fields #[]), #[]⟩
def o1163 (P : Params) : Obj := ⟨(.type "tuple"), none, (.seq #[(.str (S "self") 1718), (.str (S "index") 1719)] 0), #[]⟩
def o1164 (P : Params) : Obj := ⟨(.type "tuple"), none, (.seq #[] 0), #[]⟩
def o1165 (P : Params) : Obj := ⟨.none, none, (.func ⟨(S "__init__"), (S "BadKinds.__init__"), (dM 62 0).params, .stmts (dM 62 0).body, (dM 62 0).scope, 0, [], .none, .none, .none, .none, none, .none, .none, 0⟩), #[]⟩
def o1166 (P : Params) : Obj := ⟨(.type "code"), none, (.fields #[(.str (S "__init__") 1715), (.str (S "BadKinds.__init__") 1716), (.str (S "/claim/cut.py") 1717), (.int 249 0), (.int 2 0), (.int 0 0), (.int 0 0), (.int 3 0), (.ref 1161), (.bool true), (.int 181 0), (.ref 1162), .none, (.ref 1163), (.ref 1164), (.ref 1165), (.int 1720 0), (.int 249 0), (.str (S "/claim/cut.py") 1721)]), #[]⟩
def o1167 (P : Params) : Obj := ⟨(.type "function"), none, (.func ⟨(S "__init__"), (S "BadKinds.__init__"), (dM 62 0).params, .stmts (dM 62 0).body, (dM 62 0).scope, 3, [], .none, .none, .none, (.str (S "meettasks.errors") 187), none, (.ref 1166), .none, 0⟩), #[]⟩
def o1168 (P : Params) : Obj := ⟨(.type "tuple"), none, (.seq #[(.str (S "index") 1723)] 0), #[]⟩
def o1169 (P : Params) : Obj := ⟨(.type "dict"), none, (.dict #[E P "__module__" 1710 (.str (S "meettasks.errors") 187), E P "__firstlineno__" 1714 (.int 247 1713), E P "__init__" 1722 (.ref 1167), E P "__static_attributes__" 1724 (.ref 1168), E P "__doc__" 1725 .none] 2), #[]⟩
def o1170 (P : Params) : Obj := ⟨(.type "type"), none, (.cls ⟨(S "BadKinds"), [(.ref 24)], [(.ref 1170), (.ref 24), (.type "ValueError"), (.type "Exception"), (.type "BaseException"), (.type "object")], 1169, (S "BadKinds"), true, [], [], false, none, false⟩), #[(some (.ref 1154)), none, (some (.str (S "BadKinds") 1703)), (some (.str (S "BadKinds") 1711)), (some (.builtin "ValueError.__new__")), (some (.bool true))]⟩
def o1171 (P : Params) : Obj := ⟨(.type "super"), none, (.fields #[(.ref 1170), (.ref 1170), (.ref 1170)]), #[]⟩
def o1172 (P : Params) : Obj := ⟨(.type "builtin_function_or_method"), none, (.fields #[(.builtin "object.__init_subclass__"), (.ref 1170)]), #[]⟩
def o1173 (P : Params) : Obj := ⟨(.type "tuple"), none, (.seq #[(.ref 24)] 0), #[]⟩
def o1174 (P : Params) : Obj := ⟨(.type "builtin_function_or_method"), none, (.fields #[(.builtin "type.__prepare__"), (.type "type")]), #[]⟩
def o1175 (P : Params) : Obj := ⟨(.type "dict"), none, (.dict #[E P "__module__" 1735 (.str (S "meettasks.errors") 187), E P "__qualname__" 1737 (.str (S "BadText") 1736), E P "__firstlineno__" 1739 (.int 251 1738), E P "__init__" 1747 (.ref 1186), E P "__static_attributes__" 1749 (.ref 1187)] 5), #[]⟩
def o1176 (P : Params) : Obj := ⟨(.type "tuple"), none, (.seq #[] 0), #[]⟩
def o1177 (P : Params) : Obj := ⟨.none, none, (.fields #[(.int 253 0), (.int 4 0), (.ref 1185)]), #[]⟩
def o1178 (P : Params) : Obj := ⟨(.type "code"), none, (.fields #[(.str (S "BadText") 1730), (.str (S "BadText") 1731), (.str (S "/claim/cut.py") 1732), (.int 251 0), (.int 0 0), (.int 0 0), (.int 0 0), (.int 0 0), (.ref 1176), (.bool false), (.int 181 0), (.ref 1177), .none, .none, .none, .none, (.int 1733 0), (.int 251 0), (.str (S "/claim/cut.py") 1734)]), #[]⟩
def o1179 (P : Params) : Obj := ⟨(.type "frame"), none, .plain, #[(some (.ref 1178)), (some (.ref 3)), (some (.ref 1175)), none, (some (.str (S "meettasks.errors") 187)), none, (some (.ref 0))]⟩
def o1180 (P : Params) : Obj := ⟨(.type "tuple"), none, (.seq #[] 0), #[]⟩
def o1181 (P : Params) : Obj := ⟨.none, none, (.fields #[]), #[]⟩
def o1182 (P : Params) : Obj := ⟨(.type "tuple"), none, (.seq #[(.str (S "self") 1743), (.str (S "index") 1744)] 0), #[]⟩
def o1183 (P : Params) : Obj := ⟨(.type "tuple"), none, (.seq #[] 0), #[]⟩
def o1184 (P : Params) : Obj := ⟨.none, none, (.func ⟨(S "__init__"), (S "BadText.__init__"), (dM 63 0).params, .stmts (dM 63 0).body, (dM 63 0).scope, 0, [], .none, .none, .none, .none, none, .none, .none, 0⟩), #[]⟩
def o1185 (P : Params) : Obj := ⟨(.type "code"), none, (.fields #[(.str (S "__init__") 1740), (.str (S "BadText.__init__") 1741), (.str (S "/claim/cut.py") 1742), (.int 253 0), (.int 2 0), (.int 0 0), (.int 0 0), (.int 3 0), (.ref 1180), (.bool true), (.int 181 0), (.ref 1181), .none, (.ref 1182), (.ref 1183), (.ref 1184), (.int 1745 0), (.int 253 0), (.str (S "/claim/cut.py") 1746)]), #[]⟩
def o1186 (P : Params) : Obj := ⟨(.type "function"), none, (.func ⟨(S "__init__"), (S "BadText.__init__"), (dM 63 0).params, .stmts (dM 63 0).body, (dM 63 0).scope, 3, [], .none, .none, .none, (.str (S "meettasks.errors") 187), none, (.ref 1185), .none, 0⟩), #[]⟩
def o1187 (P : Params) : Obj := ⟨(.type "tuple"), none, (.seq #[(.str (S "index") 1748)] 0), #[]⟩
def o1188 (P : Params) : Obj := ⟨(.type "dict"), none, (.dict #[E P "__module__" 1735 (.str (S "meettasks.errors") 187), E P "__firstlineno__" 1739 (.int 251 1738), E P "__init__" 1747 (.ref 1186), E P "__static_attributes__" 1749 (.ref 1187), E P "__doc__" 1750 .none] 2), #[]⟩
def o1189 (P : Params) : Obj := ⟨(.type "type"), none, (.cls ⟨(S "BadText"), [(.ref 24)], [(.ref 1189), (.ref 24), (.type "ValueError"), (.type "Exception"), (.type "BaseException"), (.type "object")], 1188, (S "BadText"), true, [], [], false, none, false⟩), #[(some (.ref 1173)), none, (some (.str (S "BadText") 1728)), (some (.str (S "BadText") 1736)), (some (.builtin "ValueError.__new__")), (some (.bool true))]⟩
def o1190 (P : Params) : Obj := ⟨(.type "super"), none, (.fields #[(.ref 1189), (.ref 1189), (.ref 1189)]), #[]⟩
def o1191 (P : Params) : Obj := ⟨(.type "builtin_function_or_method"), none, (.fields #[(.builtin "object.__init_subclass__"), (.ref 1189)]), #[]⟩
def o1192 (P : Params) : Obj := ⟨(.type "tuple"), none, (.seq #[(.ref 24)] 0), #[]⟩
def o1193 (P : Params) : Obj := ⟨(.type "builtin_function_or_method"), none, (.fields #[(.builtin "type.__prepare__"), (.type "type")]), #[]⟩
def o1194 (P : Params) : Obj := ⟨(.type "dict"), none, (.dict #[E P "__module__" 1760 (.str (S "meettasks.errors") 187), E P "__qualname__" 1762 (.str (S "BadOpen") 1761), E P "__firstlineno__" 1764 (.int 255 1763), E P "__init__" 1772 (.ref 1205), E P "__static_attributes__" 1774 (.ref 1206)] 5), #[]⟩
def o1195 (P : Params) : Obj := ⟨(.type "tuple"), none, (.seq #[] 0), #[]⟩
def o1196 (P : Params) : Obj := ⟨.none, none, (.fields #[(.int 257 0), (.int 4 0), (.ref 1204)]), #[]⟩
def o1197 (P : Params) : Obj := ⟨(.type "code"), none, (.fields #[(.str (S "BadOpen") 1755), (.str (S "BadOpen") 1756), (.str (S "/claim/cut.py") 1757), (.int 255 0), (.int 0 0), (.int 0 0), (.int 0 0), (.int 0 0), (.ref 1195), (.bool false), (.int 181 0), (.ref 1196), .none, .none, .none, .none, (.int 1758 0), (.int 255 0), (.str (S "/claim/cut.py") 1759)]), #[]⟩
def o1198 (P : Params) : Obj := ⟨(.type "frame"), none, .plain, #[(some (.ref 1197)), (some (.ref 3)), (some (.ref 1194)), none, (some (.str (S "meettasks.errors") 187)), none, (some (.ref 0))]⟩
def o1199 (P : Params) : Obj := ⟨(.type "tuple"), none, (.seq #[] 0), #[]⟩
def o1200 (P : Params) : Obj := ⟨.none, none, (.fields #[]), #[]⟩
def o1201 (P : Params) : Obj := ⟨(.type "tuple"), none, (.seq #[(.str (S "self") 1768), (.str (S "index") 1769)] 0), #[]⟩
def o1202 (P : Params) : Obj := ⟨(.type "tuple"), none, (.seq #[] 0), #[]⟩
def o1203 (P : Params) : Obj := ⟨.none, none, (.func ⟨(S "__init__"), (S "BadOpen.__init__"), (dM 64 0).params, .stmts (dM 64 0).body, (dM 64 0).scope, 0, [], .none, .none, .none, .none, none, .none, .none, 0⟩), #[]⟩
def o1204 (P : Params) : Obj := ⟨(.type "code"), none, (.fields #[(.str (S "__init__") 1765), (.str (S "BadOpen.__init__") 1766), (.str (S "/claim/cut.py") 1767), (.int 257 0), (.int 2 0), (.int 0 0), (.int 0 0), (.int 3 0), (.ref 1199), (.bool true), (.int 181 0), (.ref 1200), .none, (.ref 1201), (.ref 1202), (.ref 1203), (.int 1770 0), (.int 257 0), (.str (S "/claim/cut.py") 1771)]), #[]⟩
def o1205 (P : Params) : Obj := ⟨(.type "function"), none, (.func ⟨(S "__init__"), (S "BadOpen.__init__"), (dM 64 0).params, .stmts (dM 64 0).body, (dM 64 0).scope, 3, [], .none, .none, .none, (.str (S "meettasks.errors") 187), none, (.ref 1204), .none, 0⟩), #[]⟩
def o1206 (P : Params) : Obj := ⟨(.type "tuple"), none, (.seq #[(.str (S "index") 1773)] 0), #[]⟩
def o1207 (P : Params) : Obj := ⟨(.type "dict"), none, (.dict #[E P "__module__" 1760 (.str (S "meettasks.errors") 187), E P "__firstlineno__" 1764 (.int 255 1763), E P "__init__" 1772 (.ref 1205), E P "__static_attributes__" 1774 (.ref 1206), E P "__doc__" 1775 .none] 2), #[]⟩
def o1208 (P : Params) : Obj := ⟨(.type "type"), none, (.cls ⟨(S "BadOpen"), [(.ref 24)], [(.ref 1208), (.ref 24), (.type "ValueError"), (.type "Exception"), (.type "BaseException"), (.type "object")], 1207, (S "BadOpen"), true, [], [], false, none, false⟩), #[(some (.ref 1192)), none, (some (.str (S "BadOpen") 1753)), (some (.str (S "BadOpen") 1761)), (some (.builtin "ValueError.__new__")), (some (.bool true))]⟩
def o1209 (P : Params) : Obj := ⟨(.type "super"), none, (.fields #[(.ref 1208), (.ref 1208), (.ref 1208)]), #[]⟩
def o1210 (P : Params) : Obj := ⟨(.type "builtin_function_or_method"), none, (.fields #[(.builtin "object.__init_subclass__"), (.ref 1208)]), #[]⟩
def o1211 (P : Params) : Obj := ⟨(.type "tuple"), none, (.seq #[(.ref 24)] 0), #[]⟩
def o1212 (P : Params) : Obj := ⟨(.type "builtin_function_or_method"), none, (.fields #[(.builtin "type.__prepare__"), (.type "type")]), #[]⟩
def o1213 (P : Params) : Obj := ⟨(.type "dict"), none, (.dict #[E P "__module__" 1785 (.str (S "meettasks.errors") 187), E P "__qualname__" 1787 (.str (S "BadFilling") 1786), E P "__firstlineno__" 1789 (.int 259 1788), E P "__init__" 1797 (.ref 1224), E P "__static_attributes__" 1799 (.ref 1225)] 5), #[]⟩
def o1214 (P : Params) : Obj := ⟨(.type "tuple"), none, (.seq #[] 0), #[]⟩
def o1215 (P : Params) : Obj := ⟨.none, none, (.fields #[(.int 261 0), (.int 4 0), (.ref 1223)]), #[]⟩
def o1216 (P : Params) : Obj := ⟨(.type "code"), none, (.fields #[(.str (S "BadFilling") 1780), (.str (S "BadFilling") 1781), (.str (S "/claim/cut.py") 1782), (.int 259 0), (.int 0 0), (.int 0 0), (.int 0 0), (.int 0 0), (.ref 1214), (.bool false), (.int 181 0), (.ref 1215), .none, .none, .none, .none, (.int 1783 0), (.int 259 0), (.str (S "/claim/cut.py") 1784)]), #[]⟩
def o1217 (P : Params) : Obj := ⟨(.type "frame"), none, .plain, #[(some (.ref 1216)), (some (.ref 3)), (some (.ref 1213)), none, (some (.str (S "meettasks.errors") 187)), none, (some (.ref 0))]⟩
def o1218 (P : Params) : Obj := ⟨(.type "tuple"), none, (.seq #[] 0), #[]⟩
def o1219 (P : Params) : Obj := ⟨.none, none, (.fields #[]), #[]⟩
def o1220 (P : Params) : Obj := ⟨(.type "tuple"), none, (.seq #[(.str (S "self") 1793), (.str (S "task") 1794)] 0), #[]⟩
def o1221 (P : Params) : Obj := ⟨(.type "tuple"), none, (.seq #[] 0), #[]⟩
def o1222 (P : Params) : Obj := ⟨.none, none, (.func ⟨(S "__init__"), (S "BadFilling.__init__"), (dM 65 0).params, .stmts (dM 65 0).body, (dM 65 0).scope, 0, [], .none, .none, .none, .none, none, .none, .none, 0⟩), #[]⟩
def o1223 (P : Params) : Obj := ⟨(.type "code"), none, (.fields #[(.str (S "__init__") 1790), (.str (S "BadFilling.__init__") 1791), (.str (S "/claim/cut.py") 1792), (.int 261 0), (.int 2 0), (.int 0 0), (.int 0 0), (.int 3 0), (.ref 1218), (.bool true), (.int 181 0), (.ref 1219), .none, (.ref 1220), (.ref 1221), (.ref 1222), (.int 1795 0), (.int 261 0), (.str (S "/claim/cut.py") 1796)]), #[]⟩
def o1224 (P : Params) : Obj := ⟨(.type "function"), none, (.func ⟨(S "__init__"), (S "BadFilling.__init__"), (dM 65 0).params, .stmts (dM 65 0).body, (dM 65 0).scope, 3, [], .none, .none, .none, (.str (S "meettasks.errors") 187), none, (.ref 1223), .none, 0⟩), #[]⟩
def o1225 (P : Params) : Obj := ⟨(.type "tuple"), none, (.seq #[(.str (S "task") 1798)] 0), #[]⟩
def o1226 (P : Params) : Obj := ⟨(.type "dict"), none, (.dict #[E P "__module__" 1785 (.str (S "meettasks.errors") 187), E P "__firstlineno__" 1789 (.int 259 1788), E P "__init__" 1797 (.ref 1224), E P "__static_attributes__" 1799 (.ref 1225), E P "__doc__" 1800 .none] 2), #[]⟩
def o1227 (P : Params) : Obj := ⟨(.type "type"), none, (.cls ⟨(S "BadFilling"), [(.ref 24)], [(.ref 1227), (.ref 24), (.type "ValueError"), (.type "Exception"), (.type "BaseException"), (.type "object")], 1226, (S "BadFilling"), true, [], [], false, none, false⟩), #[(some (.ref 1211)), none, (some (.str (S "BadFilling") 1778)), (some (.str (S "BadFilling") 1786)), (some (.builtin "ValueError.__new__")), (some (.bool true))]⟩
def o1228 (P : Params) : Obj := ⟨(.type "super"), none, (.fields #[(.ref 1227), (.ref 1227), (.ref 1227)]), #[]⟩
def o1229 (P : Params) : Obj := ⟨(.type "builtin_function_or_method"), none, (.fields #[(.builtin "object.__init_subclass__"), (.ref 1227)]), #[]⟩
def o1230 (P : Params) : Obj := ⟨(.type "tuple"), none, (.seq #[(.ref 24)] 0), #[]⟩
def o1231 (P : Params) : Obj := ⟨(.type "builtin_function_or_method"), none, (.fields #[(.builtin "type.__prepare__"), (.type "type")]), #[]⟩
def o1232 (P : Params) : Obj := ⟨(.type "dict"), none, (.dict #[E P "__module__" 1810 (.str (S "meettasks.errors") 187), E P "__qualname__" 1812 (.str (S "BadAsk") 1811), E P "__firstlineno__" 1814 (.int 263 1813), E P "__init__" 1822 (.ref 1243), E P "__static_attributes__" 1824 (.ref 1244)] 5), #[]⟩
def o1233 (P : Params) : Obj := ⟨(.type "tuple"), none, (.seq #[] 0), #[]⟩
def o1234 (P : Params) : Obj := ⟨.none, none, (.fields #[(.int 265 0), (.int 4 0), (.ref 1242)]), #[]⟩
def o1235 (P : Params) : Obj := ⟨(.type "code"), none, (.fields #[(.str (S "BadAsk") 1805), (.str (S "BadAsk") 1806), (.str (S "/claim/cut.py") 1807), (.int 263 0), (.int 0 0), (.int 0 0), (.int 0 0), (.int 0 0), (.ref 1233), (.bool false), (.int 181 0), (.ref 1234), .none, .none, .none, .none, (.int 1808 0), (.int 263 0), (.str (S "/claim/cut.py") 1809)]), #[]⟩
def o1236 (P : Params) : Obj := ⟨(.type "frame"), none, .plain, #[(some (.ref 1235)), (some (.ref 3)), (some (.ref 1232)), none, (some (.str (S "meettasks.errors") 187)), none, (some (.ref 0))]⟩
def o1237 (P : Params) : Obj := ⟨(.type "tuple"), none, (.seq #[] 0), #[]⟩
def o1238 (P : Params) : Obj := ⟨.none, none, (.fields #[]), #[]⟩
def o1239 (P : Params) : Obj := ⟨(.type "tuple"), none, (.seq #[(.str (S "self") 1818), (.str (S "thing") 1819)] 0), #[]⟩
def o1240 (P : Params) : Obj := ⟨(.type "tuple"), none, (.seq #[] 0), #[]⟩
def o1241 (P : Params) : Obj := ⟨.none, none, (.func ⟨(S "__init__"), (S "BadAsk.__init__"), (dM 66 0).params, .stmts (dM 66 0).body, (dM 66 0).scope, 0, [], .none, .none, .none, .none, none, .none, .none, 0⟩), #[]⟩
def o1242 (P : Params) : Obj := ⟨(.type "code"), none, (.fields #[(.str (S "__init__") 1815), (.str (S "BadAsk.__init__") 1816), (.str (S "/claim/cut.py") 1817), (.int 265 0), (.int 2 0), (.int 0 0), (.int 0 0), (.int 3 0), (.ref 1237), (.bool true), (.int 181 0), (.ref 1238), .none, (.ref 1239), (.ref 1240), (.ref 1241), (.int 1820 0), (.int 265 0), (.str (S "/claim/cut.py") 1821)]), #[]⟩
def o1243 (P : Params) : Obj := ⟨(.type "function"), none, (.func ⟨(S "__init__"), (S "BadAsk.__init__"), (dM 66 0).params, .stmts (dM 66 0).body, (dM 66 0).scope, 3, [], .none, .none, .none, (.str (S "meettasks.errors") 187), none, (.ref 1242), .none, 0⟩), #[]⟩
def o1244 (P : Params) : Obj := ⟨(.type "tuple"), none, (.seq #[(.str (S "thing") 1823)] 0), #[]⟩
def o1245 (P : Params) : Obj := ⟨(.type "dict"), none, (.dict #[E P "__module__" 1810 (.str (S "meettasks.errors") 187), E P "__firstlineno__" 1814 (.int 263 1813), E P "__init__" 1822 (.ref 1243), E P "__static_attributes__" 1824 (.ref 1244), E P "__doc__" 1825 .none] 2), #[]⟩
def o1246 (P : Params) : Obj := ⟨(.type "type"), none, (.cls ⟨(S "BadAsk"), [(.ref 24)], [(.ref 1246), (.ref 24), (.type "ValueError"), (.type "Exception"), (.type "BaseException"), (.type "object")], 1245, (S "BadAsk"), true, [], [], false, none, false⟩), #[(some (.ref 1230)), none, (some (.str (S "BadAsk") 1803)), (some (.str (S "BadAsk") 1811)), (some (.builtin "ValueError.__new__")), (some (.bool true))]⟩
def o1247 (P : Params) : Obj := ⟨(.type "super"), none, (.fields #[(.ref 1246), (.ref 1246), (.ref 1246)]), #[]⟩
def o1248 (P : Params) : Obj := ⟨(.type "builtin_function_or_method"), none, (.fields #[(.builtin "object.__init_subclass__"), (.ref 1246)]), #[]⟩
def o1249 (P : Params) : Obj := ⟨(.type "tuple"), none, (.seq #[(.ref 24)] 0), #[]⟩
def o1250 (P : Params) : Obj := ⟨(.type "builtin_function_or_method"), none, (.fields #[(.builtin "type.__prepare__"), (.type "type")]), #[]⟩
def o1251 (P : Params) : Obj := ⟨(.type "dict"), none, (.dict #[E P "__module__" 1835 (.str (S "meettasks.errors") 187), E P "__qualname__" 1837 (.str (S "BadName") 1836), E P "__firstlineno__" 1839 (.int 267 1838), E P "__init__" 1847 (.ref 1262), E P "__static_attributes__" 1849 (.ref 1263)] 5), #[]⟩
def o1252 (P : Params) : Obj := ⟨(.type "tuple"), none, (.seq #[] 0), #[]⟩
def o1253 (P : Params) : Obj := ⟨.none, none, (.fields #[(.int 269 0), (.int 4 0), (.ref 1261)]), #[]⟩
def o1254 (P : Params) : Obj := ⟨(.type "code"), none, (.fields #[(.str (S "BadName") 1830), (.str (S "BadName") 1831), (.str (S "/claim/cut.py") 1832), (.int 267 0), (.int 0 0), (.int 0 0), (.int 0 0), (.int 0 0), (.ref 1252), (.bool false), (.int 181 0), (.ref 1253), .none, .none, .none, .none, (.int 1833 0), (.int 267 0), (.str (S "/claim/cut.py") 1834)]), #[]⟩
def o1255 (P : Params) : Obj := ⟨(.type "frame"), none, .plain, #[(some (.ref 1254)), (some (.ref 3)), (some (.ref 1251)), none, (some (.str (S "meettasks.errors") 187)), none, (some (.ref 0))]⟩
def o1256 (P : Params) : Obj := ⟨(.type "tuple"), none, (.seq #[] 0), #[]⟩
def o1257 (P : Params) : Obj := ⟨.none, none, (.fields #[]), #[]⟩
def o1258 (P : Params) : Obj := ⟨(.type "tuple"), none, (.seq #[(.str (S "self") 1843), (.str (S "name") 1844)] 0), #[]⟩
def o1259 (P : Params) : Obj := ⟨(.type "tuple"), none, (.seq #[] 0), #[]⟩
def o1260 (P : Params) : Obj := ⟨.none, none, (.func ⟨(S "__init__"), (S "BadName.__init__"), (dM 67 0).params, .stmts (dM 67 0).body, (dM 67 0).scope, 0, [], .none, .none, .none, .none, none, .none, .none, 0⟩), #[]⟩
def o1261 (P : Params) : Obj := ⟨(.type "code"), none, (.fields #[(.str (S "__init__") 1840), (.str (S "BadName.__init__") 1841), (.str (S "/claim/cut.py") 1842), (.int 269 0), (.int 2 0), (.int 0 0), (.int 0 0), (.int 3 0), (.ref 1256), (.bool true), (.int 181 0), (.ref 1257), .none, (.ref 1258), (.ref 1259), (.ref 1260), (.int 1845 0), (.int 269 0), (.str (S "/claim/cut.py") 1846)]), #[]⟩
def o1262 (P : Params) : Obj := ⟨(.type "function"), none, (.func ⟨(S "__init__"), (S "BadName.__init__"), (dM 67 0).params, .stmts (dM 67 0).body, (dM 67 0).scope, 3, [], .none, .none, .none, (.str (S "meettasks.errors") 187), none, (.ref 1261), .none, 0⟩), #[]⟩
def o1263 (P : Params) : Obj := ⟨(.type "tuple"), none, (.seq #[(.str (S "name") 1848)] 0), #[]⟩
def o1264 (P : Params) : Obj := ⟨(.type "dict"), none, (.dict #[E P "__module__" 1835 (.str (S "meettasks.errors") 187), E P "__firstlineno__" 1839 (.int 267 1838), E P "__init__" 1847 (.ref 1262), E P "__static_attributes__" 1849 (.ref 1263), E P "__doc__" 1850 .none] 2), #[]⟩
def o1265 (P : Params) : Obj := ⟨(.type "type"), none, (.cls ⟨(S "BadName"), [(.ref 24)], [(.ref 1265), (.ref 24), (.type "ValueError"), (.type "Exception"), (.type "BaseException"), (.type "object")], 1264, (S "BadName"), true, [], [], false, none, false⟩), #[(some (.ref 1249)), none, (some (.str (S "BadName") 1828)), (some (.str (S "BadName") 1836)), (some (.builtin "ValueError.__new__")), (some (.bool true))]⟩
def o1266 (P : Params) : Obj := ⟨(.type "super"), none, (.fields #[(.ref 1265), (.ref 1265), (.ref 1265)]), #[]⟩
def o1267 (P : Params) : Obj := ⟨(.type "builtin_function_or_method"), none, (.fields #[(.builtin "object.__init_subclass__"), (.ref 1265)]), #[]⟩
def o1268 (P : Params) : Obj := ⟨(.type "tuple"), none, (.seq #[(.ref 24)] 0), #[]⟩
def o1269 (P : Params) : Obj := ⟨(.type "builtin_function_or_method"), none, (.fields #[(.builtin "type.__prepare__"), (.type "type")]), #[]⟩
def o1270 (P : Params) : Obj := ⟨(.type "dict"), none, (.dict #[E P "__module__" 1860 (.str (S "meettasks.errors") 187), E P "__qualname__" 1862 (.str (S "BadThing") 1861), E P "__firstlineno__" 1864 (.int 271 1863), E P "__init__" 1872 (.ref 1281), E P "__static_attributes__" 1874 (.ref 1282)] 5), #[]⟩
def o1271 (P : Params) : Obj := ⟨(.type "tuple"), none, (.seq #[] 0), #[]⟩
def o1272 (P : Params) : Obj := ⟨.none, none, (.fields #[(.int 273 0), (.int 4 0), (.ref 1280)]), #[]⟩
def o1273 (P : Params) : Obj := ⟨(.type "code"), none, (.fields #[(.str (S "BadThing") 1855), (.str (S "BadThing") 1856), (.str (S "/claim/cut.py") 1857), (.int 271 0), (.int 0 0), (.int 0 0), (.int 0 0), (.int 0 0), (.ref 1271), (.bool false), (.int 181 0), (.ref 1272), .none, .none, .none, .none, (.int 1858 0), (.int 271 0), (.str (S "/claim/cut.py") 1859)]), #[]⟩
def o1274 (P : Params) : Obj := ⟨(.type "frame"), none, .plain, #[(some (.ref 1273)), (some (.ref 3)), (some (.ref 1270)), none, (some (.str (S "meettasks.errors") 187)), none, (some (.ref 0))]⟩
def o1275 (P : Params) : Obj := ⟨(.type "tuple"), none, (.seq #[] 0), #[]⟩
def o1276 (P : Params) : Obj := ⟨.none, none, (.fields #[]), #[]⟩
def o1277 (P : Params) : Obj := ⟨(.type "tuple"), none, (.seq #[(.str (S "self") 1868), (.str (S "thing") 1869)] 0), #[]⟩
def o1278 (P : Params) : Obj := ⟨(.type "tuple"), none, (.seq #[] 0), #[]⟩
def o1279 (P : Params) : Obj := ⟨.none, none, (.func ⟨(S "__init__"), (S "BadThing.__init__"), (dM 68 0).params, .stmts (dM 68 0).body, (dM 68 0).scope, 0, [], .none, .none, .none, .none, none, .none, .none, 0⟩), #[]⟩
def o1280 (P : Params) : Obj := ⟨(.type "code"), none, (.fields #[(.str (S "__init__") 1865), (.str (S "BadThing.__init__") 1866), (.str (S "/claim/cut.py") 1867), (.int 273 0), (.int 2 0), (.int 0 0), (.int 0 0), (.int 3 0), (.ref 1275), (.bool true), (.int 181 0), (.ref 1276), .none, (.ref 1277), (.ref 1278), (.ref 1279), (.int 1870 0), (.int 273 0), (.str (S "/claim/cut.py") 1871)]), #[]⟩
def o1281 (P : Params) : Obj := ⟨(.type "function"), none, (.func ⟨(S "__init__"), (S "BadThing.__init__"), (dM 68 0).params, .stmts (dM 68 0).body, (dM 68 0).scope, 3, [], .none, .none, .none, (.str (S "meettasks.errors") 187), none, (.ref 1280), .none, 0⟩), #[]⟩
def o1282 (P : Params) : Obj := ⟨(.type "tuple"), none, (.seq #[(.str (S "thing") 1873)] 0), #[]⟩
def o1283 (P : Params) : Obj := ⟨(.type "dict"), none, (.dict #[E P "__module__" 1860 (.str (S "meettasks.errors") 187), E P "__firstlineno__" 1864 (.int 271 1863), E P "__init__" 1872 (.ref 1281), E P "__static_attributes__" 1874 (.ref 1282), E P "__doc__" 1875 .none] 2), #[]⟩
def o1284 (P : Params) : Obj := ⟨(.type "type"), none, (.cls ⟨(S "BadThing"), [(.ref 24)], [(.ref 1284), (.ref 24), (.type "ValueError"), (.type "Exception"), (.type "BaseException"), (.type "object")], 1283, (S "BadThing"), true, [], [], false, none, false⟩), #[(some (.ref 1268)), none, (some (.str (S "BadThing") 1853)), (some (.str (S "BadThing") 1861)), (some (.builtin "ValueError.__new__")), (some (.bool true))]⟩
def o1285 (P : Params) : Obj := ⟨(.type "super"), none, (.fields #[(.ref 1284), (.ref 1284), (.ref 1284)]), #[]⟩
def o1286 (P : Params) : Obj := ⟨(.type "builtin_function_or_method"), none, (.fields #[(.builtin "object.__init_subclass__"), (.ref 1284)]), #[]⟩
def o1287 (P : Params) : Obj := ⟨(.type "tuple"), none, (.seq #[(.ref 24)] 0), #[]⟩
def o1288 (P : Params) : Obj := ⟨(.type "builtin_function_or_method"), none, (.fields #[(.builtin "type.__prepare__"), (.type "type")]), #[]⟩
def o1289 (P : Params) : Obj := ⟨(.type "dict"), none, (.dict #[E P "__module__" 1885 (.str (S "meettasks.errors") 187), E P "__qualname__" 1887 (.str (S "Lacks") 1886), E P "__firstlineno__" 1889 (.int 275 1888), E P "__init__" 1897 (.ref 1300), E P "__static_attributes__" 1899 (.ref 1301)] 5), #[]⟩
def o1290 (P : Params) : Obj := ⟨(.type "tuple"), none, (.seq #[] 0), #[]⟩
def o1291 (P : Params) : Obj := ⟨.none, none, (.fields #[(.int 277 0), (.int 4 0), (.ref 1299)]), #[]⟩
def o1292 (P : Params) : Obj := ⟨(.type "code"), none, (.fields #[(.str (S "Lacks") 1880), (.str (S "Lacks") 1881), (.str (S "/claim/cut.py") 1882), (.int 275 0), (.int 0 0), (.int 0 0), (.int 0 0), (.int 0 0), (.ref 1290), (.bool false), (.int 181 0), (.ref 1291), .none, .none, .none, .none, (.int 1883 0), (.int 275 0), (.str (S "/claim/cut.py") 1884)]), #[]⟩
def o1293 (P : Params) : Obj := ⟨(.type "frame"), none, .plain, #[(some (.ref 1292)), (some (.ref 3)), (some (.ref 1289)), none, (some (.str (S "meettasks.errors") 187)), none, (some (.ref 0))]⟩
def o1294 (P : Params) : Obj := ⟨(.type "tuple"), none, (.seq #[] 0), #[]⟩
def o1295 (P : Params) : Obj := ⟨.none, none, (.fields #[]), #[]⟩
def o1296 (P : Params) : Obj := ⟨(.type "tuple"), none, (.seq #[(.str (S "self") 1893), (.str (S "name") 1894)] 0), #[]⟩
def o1297 (P : Params) : Obj := ⟨(.type "tuple"), none, (.seq #[] 0), #[]⟩
def o1298 (P : Params) : Obj := ⟨.none, none, (.func ⟨(S "__init__"), (S "Lacks.__init__"), (dM 69 0).params, .stmts (dM 69 0).body, (dM 69 0).scope, 0, [], .none, .none, .none, .none, none, .none, .none, 0⟩), #[]⟩
def o1299 (P : Params) : Obj := ⟨(.type "code"), none, (.fields #[(.str (S "__init__") 1890), (.str (S "Lacks.__init__") 1891), (.str (S "/claim/cut.py") 1892), (.int 277 0), (.int 2 0), (.int 0 0), (.int 0 0), (.int 3 0), (.ref 1294), (.bool true), (.int 181 0), (.ref 1295), .none, (.ref 1296), (.ref 1297), (.ref 1298), (.int 1895 0), (.int 277 0), (.str (S "/claim/cut.py") 1896)]), #[]⟩
def o1300 (P : Params) : Obj := ⟨(.type "function"), none, (.func ⟨(S "__init__"), (S "Lacks.__init__"), (dM 69 0).params, .stmts (dM 69 0).body, (dM 69 0).scope, 3, [], .none, .none, .none, (.str (S "meettasks.errors") 187), none, (.ref 1299), .none, 0⟩), #[]⟩
def o1301 (P : Params) : Obj := ⟨(.type "tuple"), none, (.seq #[(.str (S "name") 1898)] 0), #[]⟩
def o1302 (P : Params) : Obj := ⟨(.type "dict"), none, (.dict #[E P "__module__" 1885 (.str (S "meettasks.errors") 187), E P "__firstlineno__" 1889 (.int 275 1888), E P "__init__" 1897 (.ref 1300), E P "__static_attributes__" 1899 (.ref 1301), E P "__doc__" 1900 .none] 2), #[]⟩
def o1303 (P : Params) : Obj := ⟨(.type "type"), none, (.cls ⟨(S "Lacks"), [(.ref 24)], [(.ref 1303), (.ref 24), (.type "ValueError"), (.type "Exception"), (.type "BaseException"), (.type "object")], 1302, (S "Lacks"), true, [], [], false, none, false⟩), #[(some (.ref 1287)), none, (some (.str (S "Lacks") 1878)), (some (.str (S "Lacks") 1886)), (some (.builtin "ValueError.__new__")), (some (.bool true))]⟩
def o1304 (P : Params) : Obj := ⟨(.type "super"), none, (.fields #[(.ref 1303), (.ref 1303), (.ref 1303)]), #[]⟩
def o1305 (P : Params) : Obj := ⟨(.type "builtin_function_or_method"), none, (.fields #[(.builtin "object.__init_subclass__"), (.ref 1303)]), #[]⟩
def o1306 (P : Params) : Obj := ⟨(.type "tuple"), none, (.seq #[(.ref 24)] 0), #[]⟩
def o1307 (P : Params) : Obj := ⟨(.type "builtin_function_or_method"), none, (.fields #[(.builtin "type.__prepare__"), (.type "type")]), #[]⟩
def o1308 (P : Params) : Obj := ⟨(.type "dict"), none, (.dict #[E P "__module__" 1910 (.str (S "meettasks.errors") 187), E P "__qualname__" 1912 (.str (S "NotOf") 1911), E P "__firstlineno__" 1914 (.int 279 1913), E P "__init__" 1922 (.ref 1319), E P "__static_attributes__" 1924 (.ref 1320)] 5), #[]⟩
def o1309 (P : Params) : Obj := ⟨(.type "tuple"), none, (.seq #[] 0), #[]⟩
def o1310 (P : Params) : Obj := ⟨.none, none, (.fields #[(.int 281 0), (.int 4 0), (.ref 1318)]), #[]⟩
def o1311 (P : Params) : Obj := ⟨(.type "code"), none, (.fields #[(.str (S "NotOf") 1905), (.str (S "NotOf") 1906), (.str (S "/claim/cut.py") 1907), (.int 279 0), (.int 0 0), (.int 0 0), (.int 0 0), (.int 0 0), (.ref 1309), (.bool false), (.int 181 0), (.ref 1310), .none, .none, .none, .none, (.int 1908 0), (.int 279 0), (.str (S "/claim/cut.py") 1909)]), #[]⟩
def o1312 (P : Params) : Obj := ⟨(.type "frame"), none, .plain, #[(some (.ref 1311)), (some (.ref 3)), (some (.ref 1308)), none, (some (.str (S "meettasks.errors") 187)), none, (some (.ref 0))]⟩
def o1313 (P : Params) : Obj := ⟨(.type "tuple"), none, (.seq #[] 0), #[]⟩
def o1314 (P : Params) : Obj := ⟨.none, none, (.fields #[]), #[]⟩
def o1315 (P : Params) : Obj := ⟨(.type "tuple"), none, (.seq #[(.str (S "self") 1918), (.str (S "name") 1919)] 0), #[]⟩
def o1316 (P : Params) : Obj := ⟨(.type "tuple"), none, (.seq #[] 0), #[]⟩
def o1317 (P : Params) : Obj := ⟨.none, none, (.func ⟨(S "__init__"), (S "NotOf.__init__"), (dM 70 0).params, .stmts (dM 70 0).body, (dM 70 0).scope, 0, [], .none, .none, .none, .none, none, .none, .none, 0⟩), #[]⟩
def o1318 (P : Params) : Obj := ⟨(.type "code"), none, (.fields #[(.str (S "__init__") 1915), (.str (S "NotOf.__init__") 1916), (.str (S "/claim/cut.py") 1917), (.int 281 0), (.int 2 0), (.int 0 0), (.int 0 0), (.int 3 0), (.ref 1313), (.bool true), (.int 181 0), (.ref 1314), .none, (.ref 1315), (.ref 1316), (.ref 1317), (.int 1920 0), (.int 281 0), (.str (S "/claim/cut.py") 1921)]), #[]⟩
def o1319 (P : Params) : Obj := ⟨(.type "function"), none, (.func ⟨(S "__init__"), (S "NotOf.__init__"), (dM 70 0).params, .stmts (dM 70 0).body, (dM 70 0).scope, 3, [], .none, .none, .none, (.str (S "meettasks.errors") 187), none, (.ref 1318), .none, 0⟩), #[]⟩
def o1320 (P : Params) : Obj := ⟨(.type "tuple"), none, (.seq #[(.str (S "name") 1923)] 0), #[]⟩
def o1321 (P : Params) : Obj := ⟨(.type "dict"), none, (.dict #[E P "__module__" 1910 (.str (S "meettasks.errors") 187), E P "__firstlineno__" 1914 (.int 279 1913), E P "__init__" 1922 (.ref 1319), E P "__static_attributes__" 1924 (.ref 1320), E P "__doc__" 1925 .none] 2), #[]⟩
def o1322 (P : Params) : Obj := ⟨(.type "type"), none, (.cls ⟨(S "NotOf"), [(.ref 24)], [(.ref 1322), (.ref 24), (.type "ValueError"), (.type "Exception"), (.type "BaseException"), (.type "object")], 1321, (S "NotOf"), true, [], [], false, none, false⟩), #[(some (.ref 1306)), none, (some (.str (S "NotOf") 1903)), (some (.str (S "NotOf") 1911)), (some (.builtin "ValueError.__new__")), (some (.bool true))]⟩
def o1323 (P : Params) : Obj := ⟨(.type "super"), none, (.fields #[(.ref 1322), (.ref 1322), (.ref 1322)]), #[]⟩
def o1324 (P : Params) : Obj := ⟨(.type "builtin_function_or_method"), none, (.fields #[(.builtin "object.__init_subclass__"), (.ref 1322)]), #[]⟩
def o1325 (P : Params) : Obj := ⟨(.type "tuple"), none, (.seq #[(.ref 24)] 0), #[]⟩
def o1326 (P : Params) : Obj := ⟨(.type "builtin_function_or_method"), none, (.fields #[(.builtin "type.__prepare__"), (.type "type")]), #[]⟩
def o1327 (P : Params) : Obj := ⟨(.type "dict"), none, (.dict #[E P "__module__" 1935 (.str (S "meettasks.errors") 187), E P "__qualname__" 1937 (.str (S "NoName") 1936), E P "__firstlineno__" 1939 (.int 283 1938), E P "__init__" 1947 (.ref 1338), E P "__static_attributes__" 1949 (.ref 1339)] 5), #[]⟩
def o1328 (P : Params) : Obj := ⟨(.type "tuple"), none, (.seq #[] 0), #[]⟩
def o1329 (P : Params) : Obj := ⟨.none, none, (.fields #[(.int 285 0), (.int 4 0), (.ref 1337)]), #[]⟩
def o1330 (P : Params) : Obj := ⟨(.type "code"), none, (.fields #[(.str (S "NoName") 1930), (.str (S "NoName") 1931), (.str (S "/claim/cut.py") 1932), (.int 283 0), (.int 0 0), (.int 0 0), (.int 0 0), (.int 0 0), (.ref 1328), (.bool false), (.int 181 0), (.ref 1329), .none, .none, .none, .none, (.int 1933 0), (.int 283 0), (.str (S "/claim/cut.py") 1934)]), #[]⟩
def o1331 (P : Params) : Obj := ⟨(.type "frame"), none, .plain, #[(some (.ref 1330)), (some (.ref 3)), (some (.ref 1327)), none, (some (.str (S "meettasks.errors") 187)), none, (some (.ref 0))]⟩
def o1332 (P : Params) : Obj := ⟨(.type "tuple"), none, (.seq #[] 0), #[]⟩
def o1333 (P : Params) : Obj := ⟨.none, none, (.fields #[]), #[]⟩
def o1334 (P : Params) : Obj := ⟨(.type "tuple"), none, (.seq #[(.str (S "self") 1943), (.str (S "name") 1944)] 0), #[]⟩
def o1335 (P : Params) : Obj := ⟨(.type "tuple"), none, (.seq #[] 0), #[]⟩
def o1336 (P : Params) : Obj := ⟨.none, none, (.func ⟨(S "__init__"), (S "NoName.__init__"), (dM 71 0).params, .stmts (dM 71 0).body, (dM 71 0).scope, 0, [], .none, .none, .none, .none, none, .none, .none, 0⟩), #[]⟩
def o1337 (P : Params) : Obj := ⟨(.type "code"), none, (.fields #[(.str (S "__init__") 1940), (.str (S "NoName.__init__") 1941), (.str (S "/claim/cut.py") 1942), (.int 285 0), (.int 2 0), (.int 0 0), (.int 0 0), (.int 3 0), (.ref 1332), (.bool true), (.int 181 0), (.ref 1333), .none, (.ref 1334), (.ref 1335), (.ref 1336), (.int 1945 0), (.int 285 0), (.str (S "/claim/cut.py") 1946)]), #[]⟩
def o1338 (P : Params) : Obj := ⟨(.type "function"), none, (.func ⟨(S "__init__"), (S "NoName.__init__"), (dM 71 0).params, .stmts (dM 71 0).body, (dM 71 0).scope, 3, [], .none, .none, .none, (.str (S "meettasks.errors") 187), none, (.ref 1337), .none, 0⟩), #[]⟩
def o1339 (P : Params) : Obj := ⟨(.type "tuple"), none, (.seq #[(.str (S "name") 1948)] 0), #[]⟩
def o1340 (P : Params) : Obj := ⟨(.type "dict"), none, (.dict #[E P "__module__" 1935 (.str (S "meettasks.errors") 187), E P "__firstlineno__" 1939 (.int 283 1938), E P "__init__" 1947 (.ref 1338), E P "__static_attributes__" 1949 (.ref 1339), E P "__doc__" 1950 .none] 2), #[]⟩
def o1341 (P : Params) : Obj := ⟨(.type "type"), none, (.cls ⟨(S "NoName"), [(.ref 24)], [(.ref 1341), (.ref 24), (.type "ValueError"), (.type "Exception"), (.type "BaseException"), (.type "object")], 1340, (S "NoName"), true, [], [], false, none, false⟩), #[(some (.ref 1325)), none, (some (.str (S "NoName") 1928)), (some (.str (S "NoName") 1936)), (some (.builtin "ValueError.__new__")), (some (.bool true))]⟩
def o1342 (P : Params) : Obj := ⟨(.type "super"), none, (.fields #[(.ref 1341), (.ref 1341), (.ref 1341)]), #[]⟩
def o1343 (P : Params) : Obj := ⟨(.type "builtin_function_or_method"), none, (.fields #[(.builtin "object.__init_subclass__"), (.ref 1341)]), #[]⟩
def o1344 (P : Params) : Obj := ⟨(.type "tuple"), none, (.seq #[(.ref 24)] 0), #[]⟩
def o1345 (P : Params) : Obj := ⟨(.type "builtin_function_or_method"), none, (.fields #[(.builtin "type.__prepare__"), (.type "type")]), #[]⟩
def o1346 (P : Params) : Obj := ⟨(.type "dict"), none, (.dict #[E P "__module__" 1960 (.str (S "meettasks.errors") 187), E P "__qualname__" 1962 (.str (S "Needed") 1961), E P "__firstlineno__" 1964 (.int 287 1963), E P "__init__" 1973 (.ref 1357), E P "__static_attributes__" 1976 (.ref 1358)] 5), #[]⟩
def o1347 (P : Params) : Obj := ⟨(.type "tuple"), none, (.seq #[] 0), #[]⟩
def o1348 (P : Params) : Obj := ⟨.none, none, (.fields #[(.int 289 0), (.int 4 0), (.ref 1356)]), #[]⟩
def o1349 (P : Params) : Obj := ⟨(.type "code"), none, (.fields #[(.str (S "Needed") 1955), (.str (S "Needed") 1956), (.str (S "/claim/cut.py") 1957), (.int 287 0), (.int 0 0), (.int 0 0), (.int 0 0), (.int 0 0), (.ref 1347), (.bool false), (.int 181 0), (.ref 1348), .none, .none, .none, .none, (.int 1958 0), (.int 287 0), (.str (S "/claim/cut.py") 1959)]), #[]⟩
def o1350 (P : Params) : Obj := ⟨(.type "frame"), none, .plain, #[(some (.ref 1349)), (some (.ref 3)), (some (.ref 1346)), none, (some (.str (S "meettasks.errors") 187)), none, (some (.ref 0))]⟩
def o1351 (P : Params) : Obj := ⟨(.type "tuple"), none, (.seq #[] 0), #[]⟩
def o1352 (P : Params) : Obj := ⟨.none, none, (.fields #[]), #[]⟩
def o1353 (P : Params) : Obj := ⟨(.type "tuple"), none, (.seq #[(.str (S "self") 1968), (.str (S "name") 1969), (.str (S "by") 1970)] 0), #[]⟩
def o1354 (P : Params) : Obj := ⟨(.type "tuple"), none, (.seq #[] 0), #[]⟩
def o1355 (P : Params) : Obj := ⟨.none, none, (.func ⟨(S "__init__"), (S "Needed.__init__"), (dM 72 0).params, .stmts (dM 72 0).body, (dM 72 0).scope, 0, [], .none, .none, .none, .none, none, .none, .none, 0⟩), #[]⟩
def o1356 (P : Params) : Obj := ⟨(.type "code"), none, (.fields #[(.str (S "__init__") 1965), (.str (S "Needed.__init__") 1966), (.str (S "/claim/cut.py") 1967), (.int 289 0), (.int 3 0), (.int 0 0), (.int 0 0), (.int 3 0), (.ref 1351), (.bool true), (.int 181 0), (.ref 1352), .none, (.ref 1353), (.ref 1354), (.ref 1355), (.int 1971 0), (.int 289 0), (.str (S "/claim/cut.py") 1972)]), #[]⟩
def o1357 (P : Params) : Obj := ⟨(.type "function"), none, (.func ⟨(S "__init__"), (S "Needed.__init__"), (dM 72 0).params, .stmts (dM 72 0).body, (dM 72 0).scope, 3, [], .none, .none, .none, (.str (S "meettasks.errors") 187), none, (.ref 1356), .none, 0⟩), #[]⟩
def o1358 (P : Params) : Obj := ⟨(.type "tuple"), none, (.seq #[(.str (S "by") 1974), (.str (S "name") 1975)] 0), #[]⟩
def o1359 (P : Params) : Obj := ⟨(.type "dict"), none, (.dict #[E P "__module__" 1960 (.str (S "meettasks.errors") 187), E P "__firstlineno__" 1964 (.int 287 1963), E P "__init__" 1973 (.ref 1357), E P "__static_attributes__" 1976 (.ref 1358), E P "__doc__" 1977 .none] 2), #[]⟩
def o1360 (P : Params) : Obj := ⟨(.type "type"), none, (.cls ⟨(S "Needed"), [(.ref 24)], [(.ref 1360), (.ref 24), (.type "ValueError"), (.type "Exception"), (.type "BaseException"), (.type "object")], 1359, (S "Needed"), true, [], [], false, none, false⟩), #[(some (.ref 1344)), none, (some (.str (S "Needed") 1953)), (some (.str (S "Needed") 1961)), (some (.builtin "ValueError.__new__")), (some (.bool true))]⟩
def o1361 (P : Params) : Obj := ⟨(.type "super"), none, (.fields #[(.ref 1360), (.ref 1360), (.ref 1360)]), #[]⟩
def o1362 (P : Params) : Obj := ⟨(.type "builtin_function_or_method"), none, (.fields #[(.builtin "object.__init_subclass__"), (.ref 1360)]), #[]⟩
def o1363 (P : Params) : Obj := ⟨(.type "tuple"), none, (.seq #[(.ref 24)] 0), #[]⟩
def o1364 (P : Params) : Obj := ⟨(.type "builtin_function_or_method"), none, (.fields #[(.builtin "type.__prepare__"), (.type "type")]), #[]⟩
def o1365 (P : Params) : Obj := ⟨(.type "dict"), none, (.dict #[E P "__module__" 1987 (.str (S "meettasks.errors") 187), E P "__qualname__" 1989 (.str (S "Nothing") 1988), E P "__firstlineno__" 1991 (.int 292 1990), E P "__static_attributes__" 1992 (.ref 1370)] 4), #[]⟩
def o1366 (P : Params) : Obj := ⟨(.type "tuple"), none, (.seq #[] 0), #[]⟩
def o1367 (P : Params) : Obj := ⟨.none, none, (.fields #[]), #[]⟩
def o1368 (P : Params) : Obj := ⟨(.type "code"), none, (.fields #[(.str (S "Nothing") 1982), (.str (S "Nothing") 1983), (.str (S "/claim/cut.py") 1984), (.int 292 0), (.int 0 0), (.int 0 0), (.int 0 0), (.int 0 0), (.ref 1366), (.bool false), (.int 181 0), (.ref 1367), .none, .none, .none, .none, (.int 1985 0), (.int 292 0), (.str (S "/claim/cut.py") 1986)]), #[]⟩
def o1369 (P : Params) : Obj := ⟨(.type "frame"), none, .plain, #[(some (.ref 1368)), (some (.ref 3)), (some (.ref 1365)), none, (some (.str (S "meettasks.errors") 187)), none, (some (.ref 0))]⟩
def o1370 (P : Params) : Obj := ⟨(.type "tuple"), none, (.seq #[] 0), #[]⟩
def o1371 (P : Params) : Obj := ⟨(.type "dict"), none, (.dict #[E P "__module__" 1987 (.str (S "meettasks.errors") 187), E P "__firstlineno__" 1991 (.int 292 1990), E P "__static_attributes__" 1992 (.ref 1370), E P "__doc__" 1993 .none] 2), #[]⟩
def o1372 (P : Params) : Obj := ⟨(.type "type"), none, (.cls ⟨(S "Nothing"), [(.ref 24)], [(.ref 1372), (.ref 24), (.type "ValueError"), (.type "Exception"), (.type "BaseException"), (.type "object")], 1371, (S "Nothing"), true, [], [], false, none, false⟩), #[(some (.ref 1363)), none, (some (.str (S "Nothing") 1980)), (some (.str (S "Nothing") 1988)), (some (.builtin "ValueError.__new__")), (some (.bool true))]⟩
def o1373 (P : Params) : Obj := ⟨(.type "super"), none, (.fields #[(.ref 1372), (.ref 1372), (.ref 1372)]), #[]⟩
def o1374 (P : Params) : Obj := ⟨(.type "builtin_function_or_method"), none, (.fields #[(.builtin "object.__init_subclass__"), (.ref 1372)]), #[]⟩
def o1375 (P : Params) : Obj := ⟨(.type "tuple"), none, (.seq #[] 0), #[]⟩
def o1376 (P : Params) : Obj := ⟨.none, none, (.fields #[]), #[]⟩
def o1377 (P : Params) : Obj := ⟨(.type "tuple"), none, (.seq #[(.str (S "_law_script") 2001), (.str (S "_law_turn") 2002), (.str (S "_law_cell") 2003), (.str (S "_law_seed") 2004), (.str (S "_law_one") 2005)] 0), #[]⟩
def o1378 (P : Params) : Obj := ⟨(.type "tuple"), none, (.seq #[] 0), #[]⟩
def o1379 (P : Params) : Obj := ⟨.none, none, (.func ⟨(S "_law_pool"), (S "_law_pool"), (dT 75).params, .stmts (dT 75).body, (dT 75).scope, 0, [], .none, .none, .none, .none, none, .none, .none, 0⟩), #[]⟩
def o1380 (P : Params) : Obj := ⟨(.type "code"), none, (.fields #[(.str (S "_law_pool") 1998), (.str (S "_law_pool") 1999), (.str (S "/claim/cut.py") 2000), (.int 295 0), (.int 2 0), (.int 0 0), (.int 0 0), (.int 3 0), (.ref 1375), (.bool true), (.int 181 0), (.ref 1376), .none, (.ref 1377), (.ref 1378), (.ref 1379), (.int 2006 0), (.int 295 0), (.str (S "/claim/cut.py") 2007)]), #[]⟩
def o1381 (P : Params) : Obj := ⟨(.type "function"), none, (.func ⟨(S "_law_pool"), (S "_law_pool"), (dT 75).params, .stmts (dT 75).body, (dT 75).scope, 3, [], .none, .none, .none, (.str (S "law_meettasks_k00_errors_made") 1996), none, (.ref 1380), .none, 0⟩), #[]⟩
def o1382 (P : Params) : Obj := ⟨(.type "tuple"), none, (.seq #[] 0), #[]⟩
def o1383 (P : Params) : Obj := ⟨.none, none, (.fields #[]), #[]⟩
def o1384 (P : Params) : Obj := ⟨(.type "tuple"), none, (.seq #[(.str (S "_law_pool_here") 2012), (.str (S "_law_many") 2013), (.str (S "_law_draw") 2014), (.str (S "_law_mixed_here") 2015)] 0), #[]⟩
def o1385 (P : Params) : Obj := ⟨(.type "tuple"), none, (.seq #[] 0), #[]⟩
def o1386 (P : Params) : Obj := ⟨.none, none, (.func ⟨(S "_law_take"), (S "_law_take"), (dT 76).params, .stmts (dT 76).body, (dT 76).scope, 0, [], .none, .none, .none, .none, none, .none, .none, 0⟩), #[]⟩
def o1387 (P : Params) : Obj := ⟨(.type "code"), none, (.fields #[(.str (S "_law_take") 2009), (.str (S "_law_take") 2010), (.str (S "/claim/cut.py") 2011), (.int 301 0), (.int 2 0), (.int 0 0), (.int 0 0), (.int 3 0), (.ref 1382), (.bool true), (.int 181 0), (.ref 1383), .none, (.ref 1384), (.ref 1385), (.ref 1386), (.int 2016 0), (.int 301 0), (.str (S "/claim/cut.py") 2017)]), #[]⟩
def o1388 (P : Params) : Obj := ⟨(.type "function"), none, (.func ⟨(S "_law_take"), (S "_law_take"), (dT 76).params, .stmts (dT 76).body, (dT 76).scope, 3, [], .none, .none, .none, (.str (S "law_meettasks_k00_errors_made") 1996), none, (.ref 1387), .none, 0⟩), #[]⟩
def o1389 (P : Params) : Obj := ⟨(.type "tuple"), none, (.seq #[] 0), #[]⟩
def o1390 (P : Params) : Obj := ⟨.none, none, (.fields #[]), #[]⟩
def o1391 (P : Params) : Obj := ⟨(.type "tuple"), none, (.seq #[(.str (S "_law_pool_here") 2022), (.str (S "_law_things") 2023), (.str (S "_law_left") 2024), (.str (S "_law_found") 2025), (.str (S "_law_k") 2026), (.str (S "_law_at") 2027)] 0), #[]⟩
def o1392 (P : Params) : Obj := ⟨(.type "tuple"), none, (.seq #[] 0), #[]⟩
def o1393 (P : Params) : Obj := ⟨.none, none, (.func ⟨(S "_law_mixed"), (S "_law_mixed"), (dT 77).params, .stmts (dT 77).body, (dT 77).scope, 0, [], .none, .none, .none, .none, none, .none, .none, 0⟩), #[]⟩
def o1394 (P : Params) : Obj := ⟨(.type "code"), none, (.fields #[(.str (S "_law_mixed") 2019), (.str (S "_law_mixed") 2020), (.str (S "/claim/cut.py") 2021), (.int 309 0), (.int 2 0), (.int 0 0), (.int 0 0), (.int 3 0), (.ref 1389), (.bool true), (.int 181 0), (.ref 1390), .none, (.ref 1391), (.ref 1392), (.ref 1393), (.int 2028 0), (.int 309 0), (.str (S "/claim/cut.py") 2029)]), #[]⟩
def o1395 (P : Params) : Obj := ⟨(.type "function"), none, (.func ⟨(S "_law_mixed"), (S "_law_mixed"), (dT 77).params, .stmts (dT 77).body, (dT 77).scope, 3, [], .none, .none, .none, (.str (S "law_meettasks_k00_errors_made") 1996), none, (.ref 1394), .none, 0⟩), #[]⟩
def o1396 (P : Params) : Obj := ⟨(.type "tuple"), none, (.seq #[] 0), #[]⟩
def o1397 (P : Params) : Obj := ⟨.none, none, (.fields #[]), #[]⟩
def o1398 (P : Params) : Obj := ⟨(.type "tuple"), none, (.seq #[(.str (S "_law_x") 2034), (.str (S "_law_y") 2035), (.str (S "_law_found") 2036)] 0), #[]⟩
def o1399 (P : Params) : Obj := ⟨(.type "tuple"), none, (.seq #[] 0), #[]⟩
def o1400 (P : Params) : Obj := ⟨.none, none, (.func ⟨(S "_law_made_a"), (S "_law_made_a"), (dT 78).params, .stmts (dT 78).body, (dT 78).scope, 0, [], .none, .none, .none, .none, none, .none, .none, 0⟩), #[]⟩
def o1401 (P : Params) : Obj := ⟨(.type "code"), none, (.fields #[(.str (S "_law_made_a") 2031), (.str (S "_law_made_a") 2032), (.str (S "/claim/cut.py") 2033), (.int 316 0), (.int 2 0), (.int 0 0), (.int 0 0), (.int 3 0), (.ref 1396), (.bool true), (.int 181 0), (.ref 1397), .none, (.ref 1398), (.ref 1399), (.ref 1400), (.int 2037 0), (.int 316 0), (.str (S "/claim/cut.py") 2038)]), #[]⟩
def o1402 (P : Params) : Obj := ⟨(.type "function"), none, (.func ⟨(S "_law_made_a"), (S "_law_made_a"), (dT 78).params, .stmts (dT 78).body, (dT 78).scope, 3, [], .none, .none, .none, (.str (S "law_meettasks_k00_errors_made") 1996), none, (.ref 1401), .none, 0⟩), #[]⟩
def o1403 (P : Params) : Obj := ⟨(.type "tuple"), none, (.seq #[] 0), #[]⟩
def o1404 (P : Params) : Obj := ⟨.none, none, (.fields #[]), #[]⟩
def o1405 (P : Params) : Obj := ⟨(.type "tuple"), none, (.seq #[(.str (S "_law_x") 2043), (.str (S "_law_y") 2044), (.str (S "_law_found") 2045)] 0), #[]⟩
def o1406 (P : Params) : Obj := ⟨(.type "tuple"), none, (.seq #[] 0), #[]⟩
def o1407 (P : Params) : Obj := ⟨.none, none, (.func ⟨(S "_law_made_b"), (S "_law_made_b"), (dT 79).params, .stmts (dT 79).body, (dT 79).scope, 0, [], .none, .none, .none, .none, none, .none, .none, 0⟩), #[]⟩
def o1408 (P : Params) : Obj := ⟨(.type "code"), none, (.fields #[(.str (S "_law_made_b") 2040), (.str (S "_law_made_b") 2041), (.str (S "/claim/cut.py") 2042), (.int 344 0), (.int 2 0), (.int 0 0), (.int 0 0), (.int 3 0), (.ref 1403), (.bool true), (.int 181 0), (.ref 1404), .none, (.ref 1405), (.ref 1406), (.ref 1407), (.int 2046 0), (.int 344 0), (.str (S "/claim/cut.py") 2047)]), #[]⟩
def o1409 (P : Params) : Obj := ⟨(.type "function"), none, (.func ⟨(S "_law_made_b"), (S "_law_made_b"), (dT 79).params, .stmts (dT 79).body, (dT 79).scope, 3, [], .none, .none, .none, (.str (S "law_meettasks_k00_errors_made") 1996), none, (.ref 1408), .none, 0⟩), #[]⟩
def o1410 (P : Params) : Obj := ⟨(.type "tuple"), none, (.seq #[] 0), #[]⟩
def o1411 (P : Params) : Obj := ⟨.none, none, (.fields #[]), #[]⟩
def o1412 (P : Params) : Obj := ⟨(.type "tuple"), none, (.seq #[(.str (S "_law_x") 2052), (.str (S "_law_y") 2053), (.str (S "_law_found") 2054)] 0), #[]⟩
def o1413 (P : Params) : Obj := ⟨(.type "tuple"), none, (.seq #[] 0), #[]⟩
def o1414 (P : Params) : Obj := ⟨.none, none, (.func ⟨(S "_law_made_c"), (S "_law_made_c"), (dT 80).params, .stmts (dT 80).body, (dT 80).scope, 0, [], .none, .none, .none, .none, none, .none, .none, 0⟩), #[]⟩
def o1415 (P : Params) : Obj := ⟨(.type "code"), none, (.fields #[(.str (S "_law_made_c") 2049), (.str (S "_law_made_c") 2050), (.str (S "/claim/cut.py") 2051), (.int 372 0), (.int 2 0), (.int 0 0), (.int 0 0), (.int 3 0), (.ref 1410), (.bool true), (.int 181 0), (.ref 1411), .none, (.ref 1412), (.ref 1413), (.ref 1414), (.int 2055 0), (.int 372 0), (.str (S "/claim/cut.py") 2056)]), #[]⟩
def o1416 (P : Params) : Obj := ⟨(.type "function"), none, (.func ⟨(S "_law_made_c"), (S "_law_made_c"), (dT 80).params, .stmts (dT 80).body, (dT 80).scope, 3, [], .none, .none, .none, (.str (S "law_meettasks_k00_errors_made") 1996), none, (.ref 1415), .none, 0⟩), #[]⟩
def o1417 (P : Params) : Obj := ⟨(.type "tuple"), none, (.seq #[] 0), #[]⟩
def o1418 (P : Params) : Obj := ⟨.none, none, (.fields #[]), #[]⟩
def o1419 (P : Params) : Obj := ⟨(.type "tuple"), none, (.seq #[(.str (S "_law_e") 2061), (.str (S "_law_found") 2062)] 0), #[]⟩
def o1420 (P : Params) : Obj := ⟨(.type "tuple"), none, (.seq #[] 0), #[]⟩
def o1421 (P : Params) : Obj := ⟨.none, none, (.func ⟨(S "_law_kinds_a"), (S "_law_kinds_a"), (dT 81).params, .stmts (dT 81).body, (dT 81).scope, 0, [], .none, .none, .none, .none, none, .none, .none, 0⟩), #[]⟩
def o1422 (P : Params) : Obj := ⟨(.type "code"), none, (.fields #[(.str (S "_law_kinds_a") 2058), (.str (S "_law_kinds_a") 2059), (.str (S "/claim/cut.py") 2060), (.int 394 0), (.int 1 0), (.int 0 0), (.int 0 0), (.int 3 0), (.ref 1417), (.bool true), (.int 181 0), (.ref 1418), .none, (.ref 1419), (.ref 1420), (.ref 1421), (.int 2063 0), (.int 394 0), (.str (S "/claim/cut.py") 2064)]), #[]⟩
def o1423 (P : Params) : Obj := ⟨(.type "function"), none, (.func ⟨(S "_law_kinds_a"), (S "_law_kinds_a"), (dT 81).params, .stmts (dT 81).body, (dT 81).scope, 3, [], .none, .none, .none, (.str (S "law_meettasks_k00_errors_made") 1996), none, (.ref 1422), .none, 0⟩), #[]⟩
def o1424 (P : Params) : Obj := ⟨(.type "tuple"), none, (.seq #[] 0), #[]⟩
def o1425 (P : Params) : Obj := ⟨.none, none, (.fields #[]), #[]⟩
def o1426 (P : Params) : Obj := ⟨(.type "tuple"), none, (.seq #[(.str (S "_law_e") 2069), (.str (S "_law_found") 2070)] 0), #[]⟩
def o1427 (P : Params) : Obj := ⟨(.type "tuple"), none, (.seq #[] 0), #[]⟩
def o1428 (P : Params) : Obj := ⟨.none, none, (.func ⟨(S "_law_kinds_b"), (S "_law_kinds_b"), (dT 82).params, .stmts (dT 82).body, (dT 82).scope, 0, [], .none, .none, .none, .none, none, .none, .none, 0⟩), #[]⟩
def o1429 (P : Params) : Obj := ⟨(.type "code"), none, (.fields #[(.str (S "_law_kinds_b") 2066), (.str (S "_law_kinds_b") 2067), (.str (S "/claim/cut.py") 2068), (.int 409 0), (.int 1 0), (.int 0 0), (.int 0 0), (.int 3 0), (.ref 1424), (.bool true), (.int 181 0), (.ref 1425), .none, (.ref 1426), (.ref 1427), (.ref 1428), (.int 2071 0), (.int 409 0), (.str (S "/claim/cut.py") 2072)]), #[]⟩
def o1430 (P : Params) : Obj := ⟨(.type "function"), none, (.func ⟨(S "_law_kinds_b"), (S "_law_kinds_b"), (dT 82).params, .stmts (dT 82).body, (dT 82).scope, 3, [], .none, .none, .none, (.str (S "law_meettasks_k00_errors_made") 1996), none, (.ref 1429), .none, 0⟩), #[]⟩
def o1431 (P : Params) : Obj := ⟨(.type "tuple"), none, (.seq #[] 0), #[]⟩
def o1432 (P : Params) : Obj := ⟨.none, none, (.fields #[]), #[]⟩
def o1433 (P : Params) : Obj := ⟨(.type "tuple"), none, (.seq #[(.str (S "_law_e") 2077), (.str (S "_law_found") 2078)] 0), #[]⟩
def o1434 (P : Params) : Obj := ⟨(.type "tuple"), none, (.seq #[] 0), #[]⟩
def o1435 (P : Params) : Obj := ⟨.none, none, (.func ⟨(S "_law_kinds_c"), (S "_law_kinds_c"), (dT 83).params, .stmts (dT 83).body, (dT 83).scope, 0, [], .none, .none, .none, .none, none, .none, .none, 0⟩), #[]⟩
def o1436 (P : Params) : Obj := ⟨(.type "code"), none, (.fields #[(.str (S "_law_kinds_c") 2074), (.str (S "_law_kinds_c") 2075), (.str (S "/claim/cut.py") 2076), (.int 424 0), (.int 1 0), (.int 0 0), (.int 0 0), (.int 3 0), (.ref 1431), (.bool true), (.int 181 0), (.ref 1432), .none, (.ref 1433), (.ref 1434), (.ref 1435), (.int 2079 0), (.int 424 0), (.str (S "/claim/cut.py") 2080)]), #[]⟩
def o1437 (P : Params) : Obj := ⟨(.type "function"), none, (.func ⟨(S "_law_kinds_c"), (S "_law_kinds_c"), (dT 83).params, .stmts (dT 83).body, (dT 83).scope, 3, [], .none, .none, .none, (.str (S "law_meettasks_k00_errors_made") 1996), none, (.ref 1436), .none, 0⟩), #[]⟩
def o1438 (P : Params) : Obj := ⟨(.type "tuple"), none, (.seq #[] 0), #[]⟩
def o1439 (P : Params) : Obj := ⟨.none, none, (.fields #[]), #[]⟩
def o1440 (P : Params) : Obj := ⟨.none, none, (.func ⟨(S "_law_is_own"), (S "_law_is_own"), (dT 84).params, .stmts (dT 84).body, (dT 84).scope, 0, [], .none, .none, .none, .none, none, .none, .none, 0⟩), #[]⟩
def o1441 (P : Params) : Obj := ⟨(.type "code"), none, (.fields #[(.str (S "_law_is_own") 2082), (.str (S "_law_is_own") 2083), (.str (S "/claim/cut.py") 2084), (.int 439 0), (.int 2 0), (.int 0 0), (.int 0 0), (.int 3 0), (.ref 1438), (.bool true), (.int 181 0), (.ref 1439), .none, .none, .none, (.ref 1440), (.int 2085 0), (.int 439 0), (.str (S "/claim/cut.py") 2086)]), #[]⟩
def o1442 (P : Params) : Obj := ⟨(.type "function"), none, (.func ⟨(S "_law_is_own"), (S "_law_is_own"), (dT 84).params, .stmts (dT 84).body, (dT 84).scope, 3, [], .none, .none, .none, (.str (S "law_meettasks_k00_errors_made") 1996), none, (.ref 1441), .none, 0⟩), #[]⟩
def o1443 (P : Params) : Obj := ⟨(.type "tuple"), none, (.seq #[] 0), #[]⟩
def o1444 (P : Params) : Obj := ⟨.none, none, (.fields #[]), #[]⟩
def o1445 (P : Params) : Obj := ⟨(.type "tuple"), none, (.seq #[(.str (S "_law_found") 2091), (.str (S "_law_due") 2092)] 0), #[]⟩
def o1446 (P : Params) : Obj := ⟨(.type "tuple"), none, (.seq #[] 0), #[]⟩
def o1447 (P : Params) : Obj := ⟨.none, none, (.func ⟨(S "_law_same"), (S "_law_same"), (dT 85).params, .stmts (dT 85).body, (dT 85).scope, 0, [], .none, .none, .none, .none, none, .none, .none, 0⟩), #[]⟩
def o1448 (P : Params) : Obj := ⟨(.type "code"), none, (.fields #[(.str (S "_law_same") 2088), (.str (S "_law_same") 2089), (.str (S "/claim/cut.py") 2090), (.int 443 0), (.int 2 0), (.int 0 0), (.int 0 0), (.int 3 0), (.ref 1443), (.bool true), (.int 181 0), (.ref 1444), .none, (.ref 1445), (.ref 1446), (.ref 1447), (.int 2093 0), (.int 443 0), (.str (S "/claim/cut.py") 2094)]), #[]⟩
def o1449 (P : Params) : Obj := ⟨(.type "function"), none, (.func ⟨(S "_law_same"), (S "_law_same"), (dT 85).params, .stmts (dT 85).body, (dT 85).scope, 3, [], .none, .none, .none, (.str (S "law_meettasks_k00_errors_made") 1996), none, (.ref 1448), .none, 0⟩), #[]⟩
def o1450 (P : Params) : Obj := ⟨(.type "tuple"), none, (.seq #[] 0), #[]⟩
def o1451 (P : Params) : Obj := ⟨.none, none, (.fields #[]), #[]⟩
def o1452 (P : Params) : Obj := ⟨(.type "tuple"), none, (.seq #[(.str (S "_law_script") 2099), (.str (S "_law_pool_here") 2100), (.str (S "_law_some") 2101), (.str (S "_law_x") 2102), (.str (S "_law_y") 2103), (.str (S "_law_made") 2104), (.str (S "_law_at") 2105), (.str (S "_law_mine") 2106), (.str (S "_law_twin") 2107), (.str (S "_law_field") 2108), (.str (S "_law_due") 2109), (.str (S "_law_k") 2110), (.str (S "_law_e") 2111), (.str (S "_law_held") 2112), (.str (S "_law_kept") 2113), (.str (S "_law_base") 2114)] 0), #[]⟩
def o1453 (P : Params) : Obj := ⟨(.type "tuple"), none, (.seq #[] 0), #[]⟩
def o1454 (P : Params) : Obj := ⟨.none, none, (.func ⟨(S "law"), (S "law"), (dT 86).params, .stmts (dT 86).body, (dT 86).scope, 0, [], .none, .none, .none, .none, none, .none, .none, 0⟩), #[]⟩
def o1455 (P : Params) : Obj := ⟨(.type "code"), none, (.fields #[(.str (S "law") 2096), (.str (S "law") 2097), (.str (S "/claim/cut.py") 2098), (.int 445 0), (.int 1 0), (.int 0 0), (.int 0 0), (.int 3 0), (.ref 1450), (.bool true), (.int 181 0), (.ref 1451), .none, (.ref 1452), (.ref 1453), (.ref 1454), (.int 2115 0), (.int 445 0), (.str (S "/claim/cut.py") 2116)]), #[]⟩
def o1456 (P : Params) : Obj := ⟨(.type "function"), none, (.func ⟨(S "law"), (S "law"), (dT 86).params, .stmts (dT 86).body, (dT 86).scope, 3, [], .none, .none, .none, (.str (S "law_meettasks_k00_errors_made") 1996), none, (.ref 1455), .none, 0⟩), #[]⟩
def T4 (P : Params) : BT := (N (boot_o_0 P) (N (boot_o_1 P) (N (o1075 P) (N (boot_o_7 P) (N (o6 P) (N (o22 P) (N (o54 P) (N (o118 P) (N (o246 P) (N (o505 P) (N (o1020 P) e e) e) (N (o764 P) (N (o1279 P) e e) e)) (N (o377 P) (N (o633 P) (N (o1151 P) e e) e) (N (o892 P) (N (o1407 P) e e) e))) (N (o182 P) (N (o310 P) (N (o569 P) (N (o1087 P) e e) e) (N (o828 P) (N (o1343 P) e e) e)) (N (o441 P) (N (o697 P) (N (o1215 P) e e) e) (N (o956 P) e e)))) (N (o86 P) (N (o150 P) (N (o278 P) (N (o537 P) (N (o1052 P) e e) e) (N (o796 P) (N (o1311 P) e e) e)) (N (o409 P) (N (o665 P) (N (o1183 P) e e) e) (N (o924 P) (N (o1439 P) e e) e))) (N (o214 P) (N (o342 P) (N (o601 P) (N (o1119 P) e e) e) (N (o860 P) (N (o1375 P) e e) e)) (N (o473 P) (N (o732 P) (N (o1247 P) e e) e) (N (o988 P) e e))))) (N (o38 P) (N (o70 P) (N (o134 P) (N (o262 P) (N (o521 P) (N (o1036 P) e e) e) (N (o780 P) (N (o1295 P) e e) e)) (N (o393 P) (N (o649 P) (N (o1167 P) e e) e) (N (o908 P) (N (o1423 P) e e) e))) (N (o198 P) (N (o326 P) (N (o585 P) (N (o1103 P) e e) e) (N (o844 P) (N (o1359 P) e e) e)) (N (o457 P) (N (o713 P) (N (o1231 P) e e) e) (N (o972 P) e e)))) (N (o102 P) (N (o166 P) (N (o294 P) (N (o553 P) (N (o1068 P) e e) e) (N (o812 P) (N (o1327 P) e e) e)) (N (o425 P) (N (o681 P) (N (o1199 P) e e) e) (N (o940 P) (N (o1455 P) e e) e))) (N (o230 P) (N (o358 P) (N (o617 P) (N (o1135 P) e e) e) (N (o876 P) (N (o1391 P) e e) e)) (N (o489 P) (N (o748 P) (N (o1263 P) e e) e) (N (o1004 P) e e)))))) (N (o14 P) (N (o30 P) (N (o62 P) (N (o126 P) (N (o254 P) (N (o513 P) (N (o1028 P) e e) e) (N (o772 P) (N (o1287 P) e e) e)) (N (o385 P) (N (o641 P) (N (o1159 P) e e) e) (N (o900 P) (N (o1415 P) e e) e))) (N (o190 P) (N (o318 P) (N (o577 P) (N (o1095 P) e e) e) (N (o836 P) (N (o1351 P) e e) e)) (N (o449 P) (N (o705 P) (N (o1223 P) e e) e) (N (o964 P) e e)))) (N (o94 P) (N (o158 P) (N (o286 P) (N (o545 P) (N (o1060 P) e e) e) (N (o804 P) (N (o1319 P) e e) e)) (N (o417 P) (N (o673 P) (N (o1191 P) e e) e) (N (o932 P) (N (o1447 P) e e) e))) (N (o222 P) (N (o350 P) (N (o609 P) (N (o1127 P) e e) e) (N (o868 P) (N (o1383 P) e e) e)) (N (o481 P) (N (o740 P) (N (o1255 P) e e) e) (N (o996 P) e e))))) (N (o46 P) (N (o78 P) (N (o142 P) (N (o270 P) (N (o529 P) (N (o1044 P) e e) e) (N (o788 P) (N (o1303 P) e e) e)) (N (o401 P) (N (o657 P) (N (o1175 P) e e) e) (N (o916 P) (N (o1431 P) e e) e))) (N (o206 P) (N (o334 P) (N (o593 P) (N (o1111 P) e e) e) (N (o852 P) (N (o1367 P) e e) e)) (N (o465 P) (N (o724 P) (N (o1239 P) e e) e) (N (o980 P) e e)))) (N (o110 P) (N (o174 P) (N (o302 P) (N (o561 P) (N (o1079 P) e e) e) (N (o820 P) (N (o1335 P) e e) e)) (N (o433 P) (N (o689 P) (N (o1207 P) e e) e) (N (o948 P) e e))) (N (o238 P) (N (o369 P) (N (o625 P) (N (o1143 P) e e) e) (N (o884 P) (N (o1399 P) e e) e)) (N (o497 P) (N (o756 P) (N (o1271 P) e e) e) (N (o1012 P) e e))))))) (N (o0 P) (N (o10 P) (N (o26 P) (N (o58 P) (N (o122 P) (N (o250 P) (N (o509 P) (N (o1024 P) e e) e) (N (o768 P) (N (o1283 P) e e) e)) (N (o381 P) (N (o637 P) (N (o1155 P) e e) e) (N (o896 P) (N (o1411 P) e e) e))) (N (o186 P) (N (o314 P) (N (o573 P) (N (o1091 P) e e) e) (N (o832 P) (N (o1347 P) e e) e)) (N (o445 P) (N (o701 P) (N (o1219 P) e e) e) (N (o960 P) e e)))) (N (o90 P) (N (o154 P) (N (o282 P) (N (o541 P) (N (o1056 P) e e) e) (N (o800 P) (N (o1315 P) e e) e)) (N (o413 P) (N (o669 P) (N (o1187 P) e e) e) (N (o928 P) (N (o1443 P) e e) e))) (N (o218 P) (N (o346 P) (N (o605 P) (N (o1123 P) e e) e) (N (o864 P) (N (o1379 P) e e) e)) (N (o477 P) (N (o736 P) (N (o1251 P) e e) e) (N (o992 P) e e))))) (N (o42 P) (N (o74 P) (N (o138 P) (N (o266 P) (N (o525 P) (N (o1040 P) e e) e) (N (o784 P) (N (o1299 P) e e) e)) (N (o397 P) (N (o653 P) (N (o1171 P) e e) e) (N (o912 P) (N (o1427 P) e e) e))) (N (o202 P) (N (o330 P) (N (o589 P) (N (o1107 P) e e) e) (N (o848 P) (N (o1363 P) e e) e)) (N (o461 P) (N (o717 P) (N (o1235 P) e e) e) (N (o976 P) e e)))) (N (o106 P) (N (o170 P) (N (o298 P) (N (o557 P) (N (o1072 P) e e) e) (N (o816 P) (N (o1331 P) e e) e)) (N (o429 P) (N (o685 P) (N (o1203 P) e e) e) (N (o944 P) e e))) (N (o234 P) (N (o365 P) (N (o621 P) (N (o1139 P) e e) e) (N (o880 P) (N (o1395 P) e e) e)) (N (o493 P) (N (o752 P) (N (o1267 P) e e) e) (N (o1008 P) e e)))))) (N (o18 P) (N (o34 P) (N (o66 P) (N (o130 P) (N (o258 P) (N (o517 P) (N (o1032 P) e e) e) (N (o776 P) (N (o1291 P) e e) e)) (N (o389 P) (N (o645 P) (N (o1163 P) e e) e) (N (o904 P) (N (o1419 P) e e) e))) (N (o194 P) (N (o322 P) (N (o581 P) (N (o1099 P) e e) e) (N (o840 P) (N (o1355 P) e e) e)) (N (o453 P) (N (o709 P) (N (o1227 P) e e) e) (N (o968 P) e e)))) (N (o98 P) (N (o162 P) (N (o290 P) (N (o549 P) (N (o1064 P) e e) e) (N (o808 P) (N (o1323 P) e e) e)) (N (o421 P) (N (o677 P) (N (o1195 P) e e) e) (N (o936 P) (N (o1451 P) e e) e))) (N (o226 P) (N (o354 P) (N (o613 P) (N (o1131 P) e e) e) (N (o872 P) (N (o1387 P) e e) e)) (N (o485 P) (N (o744 P) (N (o1259 P) e e) e) (N (o1000 P) e e))))) (N (o50 P) (N (o82 P) (N (o146 P) (N (o274 P) (N (o533 P) (N (o1048 P) e e) e) (N (o792 P) (N (o1307 P) e e) e)) (N (o405 P) (N (o661 P) (N (o1179 P) e e) e) (N (o920 P) (N (o1435 P) e e) e))) (N (o210 P) (N (o338 P) (N (o597 P) (N (o1115 P) e e) e) (N (o856 P) (N (o1371 P) e e) e)) (N (o469 P) (N (o728 P) (N (o1243 P) e e) e) (N (o984 P) e e)))) (N (o114 P) (N (o178 P) (N (o306 P) (N (o565 P) (N (o1083 P) e e) e) (N (o824 P) (N (o1339 P) e e) e)) (N (o437 P) (N (o693 P) (N (o1211 P) e e) e) (N (o952 P) e e))) (N (o242 P) (N (o373 P) (N (o629 P) (N (o1147 P) e e) e) (N (o888 P) (N (o1403 P) e e) e)) (N (o501 P) (N (o760 P) (N (o1275 P) e e) e) (N (o1016 P) e e)))))))) (N (boot_o_5 P) (N (boot_o_9 P) (N (o8 P) (N (o24 P) (N (o56 P) (N (o120 P) (N (o248 P) (N (o507 P) (N (o1022 P) e e) e) (N (o766 P) (N (o1281 P) e e) e)) (N (o379 P) (N (o635 P) (N (o1153 P) e e) e) (N (o894 P) (N (o1409 P) e e) e))) (N (o184 P) (N (o312 P) (N (o571 P) (N (o1089 P) e e) e) (N (o830 P) (N (o1345 P) e e) e)) (N (o443 P) (N (o699 P) (N (o1217 P) e e) e) (N (o958 P) e e)))) (N (o88 P) (N (o152 P) (N (o280 P) (N (o539 P) (N (o1054 P) e e) e) (N (o798 P) (N (o1313 P) e e) e)) (N (o411 P) (N (o667 P) (N (o1185 P) e e) e) (N (o926 P) (N (o1441 P) e e) e))) (N (o216 P) (N (o344 P) (N (o603 P) (N (o1121 P) e e) e) (N (o862 P) (N (o1377 P) e e) e)) (N (o475 P) (N (o734 P) (N (o1249 P) e e) e) (N (o990 P) e e))))) (N (o40 P) (N (o72 P) (N (o136 P) (N (o264 P) (N (o523 P) (N (o1038 P) e e) e) (N (o782 P) (N (o1297 P) e e) e)) (N (o395 P) (N (o651 P) (N (o1169 P) e e) e) (N (o910 P) (N (o1425 P) e e) e))) (N (o200 P) (N (o328 P) (N (o587 P) (N (o1105 P) e e) e) (N (o846 P) (N (o1361 P) e e) e)) (N (o459 P) (N (o715 P) (N (o1233 P) e e) e) (N (o974 P) e e)))) (N (o104 P) (N (o168 P) (N (o296 P) (N (o555 P) (N (o1070 P) e e) e) (N (o814 P) (N (o1329 P) e e) e)) (N (o427 P) (N (o683 P) (N (o1201 P) e e) e) (N (o942 P) e e))) (N (o232 P) (N (o360 P) (N (o619 P) (N (o1137 P) e e) e) (N (o878 P) (N (o1393 P) e e) e)) (N (o491 P) (N (o750 P) (N (o1265 P) e e) e) (N (o1006 P) e e)))))) (N (o16 P) (N (o32 P) (N (o64 P) (N (o128 P) (N (o256 P) (N (o515 P) (N (o1030 P) e e) e) (N (o774 P) (N (o1289 P) e e) e)) (N (o387 P) (N (o643 P) (N (o1161 P) e e) e) (N (o902 P) (N (o1417 P) e e) e))) (N (o192 P) (N (o320 P) (N (o579 P) (N (o1097 P) e e) e) (N (o838 P) (N (o1353 P) e e) e)) (N (o451 P) (N (o707 P) (N (o1225 P) e e) e) (N (o966 P) e e)))) (N (o96 P) (N (o160 P) (N (o288 P) (N (o547 P) (N (o1062 P) e e) e) (N (o806 P) (N (o1321 P) e e) e)) (N (o419 P) (N (o675 P) (N (o1193 P) e e) e) (N (o934 P) (N (o1449 P) e e) e))) (N (o224 P) (N (o352 P) (N (o611 P) (N (o1129 P) e e) e) (N (o870 P) (N (o1385 P) e e) e)) (N (o483 P) (N (o742 P) (N (o1257 P) e e) e) (N (o998 P) e e))))) (N (o48 P) (N (o80 P) (N (o144 P) (N (o272 P) (N (o531 P) (N (o1046 P) e e) e) (N (o790 P) (N (o1305 P) e e) e)) (N (o403 P) (N (o659 P) (N (o1177 P) e e) e) (N (o918 P) (N (o1433 P) e e) e))) (N (o208 P) (N (o336 P) (N (o595 P) (N (o1113 P) e e) e) (N (o854 P) (N (o1369 P) e e) e)) (N (o467 P) (N (o726 P) (N (o1241 P) e e) e) (N (o982 P) e e)))) (N (o112 P) (N (o176 P) (N (o304 P) (N (o563 P) (N (o1081 P) e e) e) (N (o822 P) (N (o1337 P) e e) e)) (N (o435 P) (N (o691 P) (N (o1209 P) e e) e) (N (o950 P) e e))) (N (o240 P) (N (o371 P) (N (o627 P) (N (o1145 P) e e) e) (N (o886 P) (N (o1401 P) e e) e)) (N (o499 P) (N (o758 P) (N (o1273 P) e e) e) (N (o1014 P) e e))))))) (N (o2 P) (N (o12 P) (N (o28 P) (N (o60 P) (N (o124 P) (N (o252 P) (N (o511 P) (N (o1026 P) e e) e) (N (o770 P) (N (o1285 P) e e) e)) (N (o383 P) (N (o639 P) (N (o1157 P) e e) e) (N (o898 P) (N (o1413 P) e e) e))) (N (o188 P) (N (o316 P) (N (o575 P) (N (o1093 P) e e) e) (N (o834 P) (N (o1349 P) e e) e)) (N (o447 P) (N (o703 P) (N (o1221 P) e e) e) (N (o962 P) e e)))) (N (o92 P) (N (o156 P) (N (o284 P) (N (o543 P) (N (o1058 P) e e) e) (N (o802 P) (N (o1317 P) e e) e)) (N (o415 P) (N (o671 P) (N (o1189 P) e e) e) (N (o930 P) (N (o1445 P) e e) e))) (N (o220 P) (N (o348 P) (N (o607 P) (N (o1125 P) e e) e) (N (o866 P) (N (o1381 P) e e) e)) (N (o479 P) (N (o738 P) (N (o1253 P) e e) e) (N (o994 P) e e))))) (N (o44 P) (N (o76 P) (N (o140 P) (N (o268 P) (N (o527 P) (N (o1042 P) e e) e) (N (o786 P) (N (o1301 P) e e) e)) (N (o399 P) (N (o655 P) (N (o1173 P) e e) e) (N (o914 P) (N (o1429 P) e e) e))) (N (o204 P) (N (o332 P) (N (o591 P) (N (o1109 P) e e) e) (N (o850 P) (N (o1365 P) e e) e)) (N (o463 P) (N (o722 P) (N (o1237 P) e e) e) (N (o978 P) e e)))) (N (o108 P) (N (o172 P) (N (o300 P) (N (o559 P) (N (o1074 P) e e) e) (N (o818 P) (N (o1333 P) e e) e)) (N (o431 P) (N (o687 P) (N (o1205 P) e e) e) (N (o946 P) e e))) (N (o236 P) (N (o367 P) (N (o623 P) (N (o1141 P) e e) e) (N (o882 P) (N (o1397 P) e e) e)) (N (o495 P) (N (o754 P) (N (o1269 P) e e) e) (N (o1010 P) e e)))))) (N (o20 P) (N (o36 P) (N (o68 P) (N (o132 P) (N (o260 P) (N (o519 P) (N (o1034 P) e e) e) (N (o778 P) (N (o1293 P) e e) e)) (N (o391 P) (N (o647 P) (N (o1165 P) e e) e) (N (o906 P) (N (o1421 P) e e) e))) (N (o196 P) (N (o324 P) (N (o583 P) (N (o1101 P) e e) e) (N (o842 P) (N (o1357 P) e e) e)) (N (o455 P) (N (o711 P) (N (o1229 P) e e) e) (N (o970 P) e e)))) (N (o100 P) (N (o164 P) (N (o292 P) (N (o551 P) (N (o1066 P) e e) e) (N (o810 P) (N (o1325 P) e e) e)) (N (o423 P) (N (o679 P) (N (o1197 P) e e) e) (N (o938 P) (N (o1453 P) e e) e))) (N (o228 P) (N (o356 P) (N (o615 P) (N (o1133 P) e e) e) (N (o874 P) (N (o1389 P) e e) e)) (N (o487 P) (N (o746 P) (N (o1261 P) e e) e) (N (o1002 P) e e))))) (N (o52 P) (N (o84 P) (N (o148 P) (N (o276 P) (N (o535 P) (N (o1050 P) e e) e) (N (o794 P) (N (o1309 P) e e) e)) (N (o407 P) (N (o663 P) (N (o1181 P) e e) e) (N (o922 P) (N (o1437 P) e e) e))) (N (o212 P) (N (o340 P) (N (o599 P) (N (o1117 P) e e) e) (N (o858 P) (N (o1373 P) e e) e)) (N (o471 P) (N (o730 P) (N (o1245 P) e e) e) (N (o986 P) e e)))) (N (o116 P) (N (o180 P) (N (o308 P) (N (o567 P) (N (o1085 P) e e) e) (N (o826 P) (N (o1341 P) e e) e)) (N (o439 P) (N (o695 P) (N (o1213 P) e e) e) (N (o954 P) e e))) (N (o244 P) (N (o375 P) (N (o631 P) (N (o1149 P) e e) e) (N (o890 P) (N (o1405 P) e e) e)) (N (o503 P) (N (o762 P) (N (o1277 P) e e) e) (N (o1018 P) e e))))))))) (N (boot_o_2 P) (N (boot_o_4 P) (N (boot_o_8 P) (N (o7 P) (N (o23 P) (N (o55 P) (N (o119 P) (N (o247 P) (N (o506 P) (N (o1021 P) e e) e) (N (o765 P) (N (o1280 P) e e) e)) (N (o378 P) (N (o634 P) (N (o1152 P) e e) e) (N (o893 P) (N (o1408 P) e e) e))) (N (o183 P) (N (o311 P) (N (o570 P) (N (o1088 P) e e) e) (N (o829 P) (N (o1344 P) e e) e)) (N (o442 P) (N (o698 P) (N (o1216 P) e e) e) (N (o957 P) e e)))) (N (o87 P) (N (o151 P) (N (o279 P) (N (o538 P) (N (o1053 P) e e) e) (N (o797 P) (N (o1312 P) e e) e)) (N (o410 P) (N (o666 P) (N (o1184 P) e e) e) (N (o925 P) (N (o1440 P) e e) e))) (N (o215 P) (N (o343 P) (N (o602 P) (N (o1120 P) e e) e) (N (o861 P) (N (o1376 P) e e) e)) (N (o474 P) (N (o733 P) (N (o1248 P) e e) e) (N (o989 P) e e))))) (N (o39 P) (N (o71 P) (N (o135 P) (N (o263 P) (N (o522 P) (N (o1037 P) e e) e) (N (o781 P) (N (o1296 P) e e) e)) (N (o394 P) (N (o650 P) (N (o1168 P) e e) e) (N (o909 P) (N (o1424 P) e e) e))) (N (o199 P) (N (o327 P) (N (o586 P) (N (o1104 P) e e) e) (N (o845 P) (N (o1360 P) e e) e)) (N (o458 P) (N (o714 P) (N (o1232 P) e e) e) (N (o973 P) e e)))) (N (o103 P) (N (o167 P) (N (o295 P) (N (o554 P) (N (o1069 P) e e) e) (N (o813 P) (N (o1328 P) e e) e)) (N (o426 P) (N (o682 P) (N (o1200 P) e e) e) (N (o941 P) (N (o1456 P) e e) e))) (N (o231 P) (N (o359 P) (N (o618 P) (N (o1136 P) e e) e) (N (o877 P) (N (o1392 P) e e) e)) (N (o490 P) (N (o749 P) (N (o1264 P) e e) e) (N (o1005 P) e e)))))) (N (o1077 P) (N (o31 P) (N (o63 P) (N (o127 P) (N (o255 P) (N (o514 P) (N (o1029 P) e e) e) (N (o773 P) (N (o1288 P) e e) e)) (N (o386 P) (N (o642 P) (N (o1160 P) e e) e) (N (o901 P) (N (o1416 P) e e) e))) (N (o191 P) (N (o319 P) (N (o578 P) (N (o1096 P) e e) e) (N (o837 P) (N (o1352 P) e e) e)) (N (o450 P) (N (o706 P) (N (o1224 P) e e) e) (N (o965 P) e e)))) (N (o95 P) (N (o159 P) (N (o287 P) (N (o546 P) (N (o1061 P) e e) e) (N (o805 P) (N (o1320 P) e e) e)) (N (o418 P) (N (o674 P) (N (o1192 P) e e) e) (N (o933 P) (N (o1448 P) e e) e))) (N (o223 P) (N (o351 P) (N (o610 P) (N (o1128 P) e e) e) (N (o869 P) (N (o1384 P) e e) e)) (N (o482 P) (N (o741 P) (N (o1256 P) e e) e) (N (o997 P) e e))))) (N (o47 P) (N (o79 P) (N (o143 P) (N (o271 P) (N (o530 P) (N (o1045 P) e e) e) (N (o789 P) (N (o1304 P) e e) e)) (N (o402 P) (N (o658 P) (N (o1176 P) e e) e) (N (o917 P) (N (o1432 P) e e) e))) (N (o207 P) (N (o335 P) (N (o594 P) (N (o1112 P) e e) e) (N (o853 P) (N (o1368 P) e e) e)) (N (o466 P) (N (o725 P) (N (o1240 P) e e) e) (N (o981 P) e e)))) (N (o111 P) (N (o175 P) (N (o303 P) (N (o562 P) (N (o1080 P) e e) e) (N (o821 P) (N (o1336 P) e e) e)) (N (o434 P) (N (o690 P) (N (o1208 P) e e) e) (N (o949 P) e e))) (N (o239 P) (N (o370 P) (N (o626 P) (N (o1144 P) e e) e) (N (o885 P) (N (o1400 P) e e) e)) (N (o498 P) (N (o757 P) (N (o1272 P) e e) e) (N (o1013 P) e e))))))) (N (o1076 P) (N (o11 P) (N (o27 P) (N (o59 P) (N (o123 P) (N (o251 P) (N (o510 P) (N (o1025 P) e e) e) (N (o769 P) (N (o1284 P) e e) e)) (N (o382 P) (N (o638 P) (N (o1156 P) e e) e) (N (o897 P) (N (o1412 P) e e) e))) (N (o187 P) (N (o315 P) (N (o574 P) (N (o1092 P) e e) e) (N (o833 P) (N (o1348 P) e e) e)) (N (o446 P) (N (o702 P) (N (o1220 P) e e) e) (N (o961 P) e e)))) (N (o91 P) (N (o155 P) (N (o283 P) (N (o542 P) (N (o1057 P) e e) e) (N (o801 P) (N (o1316 P) e e) e)) (N (o414 P) (N (o670 P) (N (o1188 P) e e) e) (N (o929 P) (N (o1444 P) e e) e))) (N (o219 P) (N (o347 P) (N (o606 P) (N (o1124 P) e e) e) (N (o865 P) (N (o1380 P) e e) e)) (N (o478 P) (N (o737 P) (N (o1252 P) e e) e) (N (o993 P) e e))))) (N (o43 P) (N (o75 P) (N (o139 P) (N (o267 P) (N (o526 P) (N (o1041 P) e e) e) (N (o785 P) (N (o1300 P) e e) e)) (N (o398 P) (N (o654 P) (N (o1172 P) e e) e) (N (o913 P) (N (o1428 P) e e) e))) (N (o203 P) (N (o331 P) (N (o590 P) (N (o1108 P) e e) e) (N (o849 P) (N (o1364 P) e e) e)) (N (o462 P) (N (o721 P) (N (o1236 P) e e) e) (N (o977 P) e e)))) (N (o107 P) (N (o171 P) (N (o299 P) (N (o558 P) (N (o1073 P) e e) e) (N (o817 P) (N (o1332 P) e e) e)) (N (o430 P) (N (o686 P) (N (o1204 P) e e) e) (N (o945 P) e e))) (N (o235 P) (N (o366 P) (N (o622 P) (N (o1140 P) e e) e) (N (o881 P) (N (o1396 P) e e) e)) (N (o494 P) (N (o753 P) (N (o1268 P) e e) e) (N (o1009 P) e e)))))) (N (o19 P) (N (o35 P) (N (o67 P) (N (o131 P) (N (o259 P) (N (o518 P) (N (o1033 P) e e) e) (N (o777 P) (N (o1292 P) e e) e)) (N (o390 P) (N (o646 P) (N (o1164 P) e e) e) (N (o905 P) (N (o1420 P) e e) e))) (N (o195 P) (N (o323 P) (N (o582 P) (N (o1100 P) e e) e) (N (o841 P) (N (o1356 P) e e) e)) (N (o454 P) (N (o710 P) (N (o1228 P) e e) e) (N (o969 P) e e)))) (N (o99 P) (N (o163 P) (N (o291 P) (N (o550 P) (N (o1065 P) e e) e) (N (o809 P) (N (o1324 P) e e) e)) (N (o422 P) (N (o678 P) (N (o1196 P) e e) e) (N (o937 P) (N (o1452 P) e e) e))) (N (o227 P) (N (o355 P) (N (o614 P) (N (o1132 P) e e) e) (N (o873 P) (N (o1388 P) e e) e)) (N (o486 P) (N (o745 P) (N (o1260 P) e e) e) (N (o1001 P) e e))))) (N (o51 P) (N (o83 P) (N (o147 P) (N (o275 P) (N (o534 P) (N (o1049 P) e e) e) (N (o793 P) (N (o1308 P) e e) e)) (N (o406 P) (N (o662 P) (N (o1180 P) e e) e) (N (o921 P) (N (o1436 P) e e) e))) (N (o211 P) (N (o339 P) (N (o598 P) (N (o1116 P) e e) e) (N (o857 P) (N (o1372 P) e e) e)) (N (o470 P) (N (o729 P) (N (o1244 P) e e) e) (N (o985 P) e e)))) (N (o115 P) (N (o179 P) (N (o307 P) (N (o566 P) (N (o1084 P) e e) e) (N (o825 P) (N (o1340 P) e e) e)) (N (o438 P) (N (o694 P) (N (o1212 P) e e) e) (N (o953 P) e e))) (N (o243 P) (N (o374 P) (N (o630 P) (N (o1148 P) e e) e) (N (o889 P) (N (o1404 P) e e) e)) (N (o502 P) (N (o761 P) (N (o1276 P) e e) e) (N (o1017 P) e e)))))))) (N (boot_o_6 P) (N (boot_o_10 P) (N (o9 P) (N (o25 P) (N (o57 P) (N (o121 P) (N (o249 P) (N (o508 P) (N (o1023 P) e e) e) (N (o767 P) (N (o1282 P) e e) e)) (N (o380 P) (N (o636 P) (N (o1154 P) e e) e) (N (o895 P) (N (o1410 P) e e) e))) (N (o185 P) (N (o313 P) (N (o572 P) (N (o1090 P) e e) e) (N (o831 P) (N (o1346 P) e e) e)) (N (o444 P) (N (o700 P) (N (o1218 P) e e) e) (N (o959 P) e e)))) (N (o89 P) (N (o153 P) (N (o281 P) (N (o540 P) (N (o1055 P) e e) e) (N (o799 P) (N (o1314 P) e e) e)) (N (o412 P) (N (o668 P) (N (o1186 P) e e) e) (N (o927 P) (N (o1442 P) e e) e))) (N (o217 P) (N (o345 P) (N (o604 P) (N (o1122 P) e e) e) (N (o863 P) (N (o1378 P) e e) e)) (N (o476 P) (N (o735 P) (N (o1250 P) e e) e) (N (o991 P) e e))))) (N (o41 P) (N (o73 P) (N (o137 P) (N (o265 P) (N (o524 P) (N (o1039 P) e e) e) (N (o783 P) (N (o1298 P) e e) e)) (N (o396 P) (N (o652 P) (N (o1170 P) e e) e) (N (o911 P) (N (o1426 P) e e) e))) (N (o201 P) (N (o329 P) (N (o588 P) (N (o1106 P) e e) e) (N (o847 P) (N (o1362 P) e e) e)) (N (o460 P) (N (o716 P) (N (o1234 P) e e) e) (N (o975 P) e e)))) (N (o105 P) (N (o169 P) (N (o297 P) (N (o556 P) (N (o1071 P) e e) e) (N (o815 P) (N (o1330 P) e e) e)) (N (o428 P) (N (o684 P) (N (o1202 P) e e) e) (N (o943 P) e e))) (N (o233 P) (N (o364 P) (N (o620 P) (N (o1138 P) e e) e) (N (o879 P) (N (o1394 P) e e) e)) (N (o492 P) (N (o751 P) (N (o1266 P) e e) e) (N (o1007 P) e e)))))) (N (o17 P) (N (o33 P) (N (o65 P) (N (o129 P) (N (o257 P) (N (o516 P) (N (o1031 P) e e) e) (N (o775 P) (N (o1290 P) e e) e)) (N (o388 P) (N (o644 P) (N (o1162 P) e e) e) (N (o903 P) (N (o1418 P) e e) e))) (N (o193 P) (N (o321 P) (N (o580 P) (N (o1098 P) e e) e) (N (o839 P) (N (o1354 P) e e) e)) (N (o452 P) (N (o708 P) (N (o1226 P) e e) e) (N (o967 P) e e)))) (N (o97 P) (N (o161 P) (N (o289 P) (N (o548 P) (N (o1063 P) e e) e) (N (o807 P) (N (o1322 P) e e) e)) (N (o420 P) (N (o676 P) (N (o1194 P) e e) e) (N (o935 P) (N (o1450 P) e e) e))) (N (o225 P) (N (o353 P) (N (o612 P) (N (o1130 P) e e) e) (N (o871 P) (N (o1386 P) e e) e)) (N (o484 P) (N (o743 P) (N (o1258 P) e e) e) (N (o999 P) e e))))) (N (o49 P) (N (o81 P) (N (o145 P) (N (o273 P) (N (o532 P) (N (o1047 P) e e) e) (N (o791 P) (N (o1306 P) e e) e)) (N (o404 P) (N (o660 P) (N (o1178 P) e e) e) (N (o919 P) (N (o1434 P) e e) e))) (N (o209 P) (N (o337 P) (N (o596 P) (N (o1114 P) e e) e) (N (o855 P) (N (o1370 P) e e) e)) (N (o468 P) (N (o727 P) (N (o1242 P) e e) e) (N (o983 P) e e)))) (N (o113 P) (N (o177 P) (N (o305 P) (N (o564 P) (N (o1082 P) e e) e) (N (o823 P) (N (o1338 P) e e) e)) (N (o436 P) (N (o692 P) (N (o1210 P) e e) e) (N (o951 P) e e))) (N (o241 P) (N (o372 P) (N (o628 P) (N (o1146 P) e e) e) (N (o887 P) (N (o1402 P) e e) e)) (N (o500 P) (N (o759 P) (N (o1274 P) e e) e) (N (o1015 P) e e))))))) (N (o3 P) (N (o13 P) (N (o29 P) (N (o61 P) (N (o125 P) (N (o253 P) (N (o512 P) (N (o1027 P) e e) e) (N (o771 P) (N (o1286 P) e e) e)) (N (o384 P) (N (o640 P) (N (o1158 P) e e) e) (N (o899 P) (N (o1414 P) e e) e))) (N (o189 P) (N (o317 P) (N (o576 P) (N (o1094 P) e e) e) (N (o835 P) (N (o1350 P) e e) e)) (N (o448 P) (N (o704 P) (N (o1222 P) e e) e) (N (o963 P) e e)))) (N (o93 P) (N (o157 P) (N (o285 P) (N (o544 P) (N (o1059 P) e e) e) (N (o803 P) (N (o1318 P) e e) e)) (N (o416 P) (N (o672 P) (N (o1190 P) e e) e) (N (o931 P) (N (o1446 P) e e) e))) (N (o221 P) (N (o349 P) (N (o608 P) (N (o1126 P) e e) e) (N (o867 P) (N (o1382 P) e e) e)) (N (o480 P) (N (o739 P) (N (o1254 P) e e) e) (N (o995 P) e e))))) (N (o45 P) (N (o77 P) (N (o141 P) (N (o269 P) (N (o528 P) (N (o1043 P) e e) e) (N (o787 P) (N (o1302 P) e e) e)) (N (o400 P) (N (o656 P) (N (o1174 P) e e) e) (N (o915 P) (N (o1430 P) e e) e))) (N (o205 P) (N (o333 P) (N (o592 P) (N (o1110 P) e e) e) (N (o851 P) (N (o1366 P) e e) e)) (N (o464 P) (N (o723 P) (N (o1238 P) e e) e) (N (o979 P) e e)))) (N (o109 P) (N (o173 P) (N (o301 P) (N (o560 P) (N (o1078 P) e e) e) (N (o819 P) (N (o1334 P) e e) e)) (N (o432 P) (N (o688 P) (N (o1206 P) e e) e) (N (o947 P) e e))) (N (o237 P) (N (o368 P) (N (o624 P) (N (o1142 P) e e) e) (N (o883 P) (N (o1398 P) e e) e)) (N (o496 P) (N (o755 P) (N (o1270 P) e e) e) (N (o1011 P) e e)))))) (N (o21 P) (N (o37 P) (N (o69 P) (N (o133 P) (N (o261 P) (N (o520 P) (N (o1035 P) e e) e) (N (o779 P) (N (o1294 P) e e) e)) (N (o392 P) (N (o648 P) (N (o1166 P) e e) e) (N (o907 P) (N (o1422 P) e e) e))) (N (o197 P) (N (o325 P) (N (o584 P) (N (o1102 P) e e) e) (N (o843 P) (N (o1358 P) e e) e)) (N (o456 P) (N (o712 P) (N (o1230 P) e e) e) (N (o971 P) e e)))) (N (o101 P) (N (o165 P) (N (o293 P) (N (o552 P) (N (o1067 P) e e) e) (N (o811 P) (N (o1326 P) e e) e)) (N (o424 P) (N (o680 P) (N (o1198 P) e e) e) (N (o939 P) (N (o1454 P) e e) e))) (N (o229 P) (N (o357 P) (N (o616 P) (N (o1134 P) e e) e) (N (o875 P) (N (o1390 P) e e) e)) (N (o488 P) (N (o747 P) (N (o1262 P) e e) e) (N (o1003 P) e e))))) (N (o53 P) (N (o85 P) (N (o149 P) (N (o277 P) (N (o536 P) (N (o1051 P) e e) e) (N (o795 P) (N (o1310 P) e e) e)) (N (o408 P) (N (o664 P) (N (o1182 P) e e) e) (N (o923 P) (N (o1438 P) e e) e))) (N (o213 P) (N (o341 P) (N (o600 P) (N (o1118 P) e e) e) (N (o859 P) (N (o1374 P) e e) e)) (N (o472 P) (N (o731 P) (N (o1246 P) e e) e) (N (o987 P) e e)))) (N (o117 P) (N (o181 P) (N (o309 P) (N (o568 P) (N (o1086 P) e e) e) (N (o827 P) (N (o1342 P) e e) e)) (N (o440 P) (N (o696 P) (N (o1214 P) e e) e) (N (o955 P) e e))) (N (o245 P) (N (o376 P) (N (o632 P) (N (o1150 P) e e) e) (N (o891 P) (N (o1406 P) e e) e)) (N (o504 P) (N (o763 P) (N (o1278 P) e e) e) (N (o1019 P) e e))))))))))
def S4 (w : World) (os : OsState) : SharedT := ⟨T4 w.params, 1457, ⟨[], [], [], 0, [], [], false, #[], [], 0, false, false, false, 0, [2000, 10, 10], false, 0, true, [], [], 0, false⟩, #[], ⟨0, 0, 0, 0⟩, 2118, os⟩
def pos4 : Pos := ⟨445, 0, 464, 136⟩
def Tz (P : Params) : BT := (N (boot_o_0 P) (N (boot_o_1 P) (N (o1075 P) (N (boot_o_7 P) (N (o6 P) (N (o22 P) (N (o54 P) (N (o118 P) (N (o246 P) (N (o505 P) (N (o1020 P) e e) e) (N (o764 P) (N (o1279 P) e e) e)) (N (o377 P) (N (o633 P) (N (o1151 P) e e) e) (N (o892 P) (N (o1407 P) e e) e))) (N (o182 P) (N (o310 P) (N (o569 P) (N (o1087 P) e e) e) (N (o828 P) (N (o1343 P) e e) e)) (N (o441 P) (N (o697 P) (N (o1215 P) e e) e) (N (o956 P) e e)))) (N (o86 P) (N (o150 P) (N (o278 P) (N (o537 P) (N (o1052 P) e e) e) (N (o796 P) (N (o1311 P) e e) e)) (N (o409 P) (N (o665 P) (N (o1183 P) e e) e) (N (o924 P) (N (o1439 P) e e) e))) (N (o214 P) (N (o342 P) (N (o601 P) (N (o1119 P) e e) e) (N (o860 P) (N (o1375 P) e e) e)) (N (o473 P) (N (o732 P) (N (o1247 P) e e) e) (N (o988 P) e e))))) (N (o38 P) (N (o70 P) (N (o134 P) (N (o262 P) (N (o521 P) (N (o1036 P) e e) e) (N (o780 P) (N (o1295 P) e e) e)) (N (o393 P) (N (o649 P) (N (o1167 P) e e) e) (N (o908 P) (N (o1423 P) e e) e))) (N (o198 P) (N (o326 P) (N (o585 P) (N (o1103 P) e e) e) (N (o844 P) (N (o1359 P) e e) e)) (N (o457 P) (N (o713 P) (N (o1231 P) e e) e) (N (o972 P) e e)))) (N (o102 P) (N (o166 P) (N (o294 P) (N (o553 P) (N (o1068 P) e e) e) (N (o812 P) (N (o1327 P) e e) e)) (N (o425 P) (N (o681 P) (N (o1199 P) e e) e) (N (o940 P) (N (o1455 P) e e) e))) (N (o230 P) (N (o358 P) (N (o617 P) (N (o1135 P) e e) e) (N (o876 P) (N (o1391 P) e e) e)) (N (o489 P) (N (o748 P) (N (o1263 P) e e) e) (N (o1004 P) e e)))))) (N (o14 P) (N (o30 P) (N (o62 P) (N (o126 P) (N (o254 P) (N (o513 P) (N (o1028 P) e e) e) (N (o772 P) (N (o1287 P) e e) e)) (N (o385 P) (N (o641 P) (N (o1159 P) e e) e) (N (o900 P) (N (o1415 P) e e) e))) (N (o190 P) (N (o318 P) (N (o577 P) (N (o1095 P) e e) e) (N (o836 P) (N (o1351 P) e e) e)) (N (o449 P) (N (o705 P) (N (o1223 P) e e) e) (N (o964 P) e e)))) (N (o94 P) (N (o158 P) (N (o286 P) (N (o545 P) (N (o1060 P) e e) e) (N (o804 P) (N (o1319 P) e e) e)) (N (o417 P) (N (o673 P) (N (o1191 P) e e) e) (N (o932 P) (N (o1447 P) e e) e))) (N (o222 P) (N (o350 P) (N (o609 P) (N (o1127 P) e e) e) (N (o868 P) (N (o1383 P) e e) e)) (N (o481 P) (N (o740 P) (N (o1255 P) e e) e) (N (o996 P) e e))))) (N (o46 P) (N (o78 P) (N (o142 P) (N (o270 P) (N (o529 P) (N (o1044 P) e e) e) (N (o788 P) (N (o1303 P) e e) e)) (N (o401 P) (N (o657 P) (N (o1175 P) e e) e) (N (o916 P) (N (o1431 P) e e) e))) (N (o206 P) (N (o334 P) (N (o593 P) (N (o1111 P) e e) e) (N (o852 P) (N (o1367 P) e e) e)) (N (o465 P) (N (o724 P) (N (o1239 P) e e) e) (N (o980 P) e e)))) (N (o110 P) (N (o174 P) (N (o302 P) (N (o561 P) (N (o1079 P) e e) e) (N (o820 P) (N (o1335 P) e e) e)) (N (o433 P) (N (o689 P) (N (o1207 P) e e) e) (N (o948 P) e e))) (N (o238 P) (N (o369 P) (N (o625 P) (N (o1143 P) e e) e) (N (o884 P) (N (o1399 P) e e) e)) (N (o497 P) (N (o756 P) (N (o1271 P) e e) e) (N (o1012 P) e e))))))) (N (o0 P) (N (o10 P) (N (o26 P) (N (o58 P) (N (o122 P) (N (o250 P) (N (o509 P) (N (o1024 P) e e) e) (N (o768 P) (N (o1283 P) e e) e)) (N (o381 P) (N (o637 P) (N (o1155 P) e e) e) (N (o896 P) (N (o1411 P) e e) e))) (N (o186 P) (N (o314 P) (N (o573 P) (N (o1091 P) e e) e) (N (o832 P) (N (o1347 P) e e) e)) (N (o445 P) (N (o701 P) (N (o1219 P) e e) e) (N (o960 P) e e)))) (N (o90 P) (N (o154 P) (N (o282 P) (N (o541 P) (N (o1056 P) e e) e) (N (o800 P) (N (o1315 P) e e) e)) (N (o413 P) (N (o669 P) (N (o1187 P) e e) e) (N (o928 P) (N (o1443 P) e e) e))) (N (o218 P) (N (o346 P) (N (o605 P) (N (o1123 P) e e) e) (N (o864 P) (N (o1379 P) e e) e)) (N (o477 P) (N (o736 P) (N (o1251 P) e e) e) (N (o992 P) e e))))) (N (o42 P) (N (o74 P) (N (o138 P) (N (o266 P) (N (o525 P) (N (o1040 P) e e) e) (N (o784 P) (N (o1299 P) e e) e)) (N (o397 P) (N (o653 P) (N (o1171 P) e e) e) (N (o912 P) (N (o1427 P) e e) e))) (N (o202 P) (N (o330 P) (N (o589 P) (N (o1107 P) e e) e) (N (o848 P) (N (o1363 P) e e) e)) (N (o461 P) (N (o717 P) (N (o1235 P) e e) e) (N (o976 P) e e)))) (N (o106 P) (N (o170 P) (N (o298 P) (N (o557 P) (N (o1072 P) e e) e) (N (o816 P) (N (o1331 P) e e) e)) (N (o429 P) (N (o685 P) (N (o1203 P) e e) e) (N (o944 P) e e))) (N (o234 P) (N (o365 P) (N (o621 P) (N (o1139 P) e e) e) (N (o880 P) (N (o1395 P) e e) e)) (N (o493 P) (N (o752 P) (N (o1267 P) e e) e) (N (o1008 P) e e)))))) (N (o18 P) (N (o34 P) (N (o66 P) (N (o130 P) (N (o258 P) (N (o517 P) (N (o1032 P) e e) e) (N (o776 P) (N (o1291 P) e e) e)) (N (o389 P) (N (o645 P) (N (o1163 P) e e) e) (N (o904 P) (N (o1419 P) e e) e))) (N (o194 P) (N (o322 P) (N (o581 P) (N (o1099 P) e e) e) (N (o840 P) (N (o1355 P) e e) e)) (N (o453 P) (N (o709 P) (N (o1227 P) e e) e) (N (o968 P) e e)))) (N (o98 P) (N (o162 P) (N (o290 P) (N (o549 P) (N (o1064 P) e e) e) (N (o808 P) (N (o1323 P) e e) e)) (N (o421 P) (N (o677 P) (N (o1195 P) e e) e) (N (o936 P) (N (o1451 P) e e) e))) (N (o226 P) (N (o354 P) (N (o613 P) (N (o1131 P) e e) e) (N (o872 P) (N (o1387 P) e e) e)) (N (o485 P) (N (o744 P) (N (o1259 P) e e) e) (N (o1000 P) e e))))) (N (o50 P) (N (o82 P) (N (o146 P) (N (o274 P) (N (o533 P) (N (o1048 P) e e) e) (N (o792 P) (N (o1307 P) e e) e)) (N (o405 P) (N (o661 P) (N (o1179 P) e e) e) (N (o920 P) (N (o1435 P) e e) e))) (N (o210 P) (N (o338 P) (N (o597 P) (N (o1115 P) e e) e) (N (o856 P) (N (o1371 P) e e) e)) (N (o469 P) (N (o728 P) (N (o1243 P) e e) e) (N (o984 P) e e)))) (N (o114 P) (N (o178 P) (N (o306 P) (N (o565 P) (N (o1083 P) e e) e) (N (o824 P) (N (o1339 P) e e) e)) (N (o437 P) (N (o693 P) (N (o1211 P) e e) e) (N (o952 P) e e))) (N (o242 P) (N (o373 P) (N (o629 P) (N (o1147 P) e e) e) (N (o888 P) (N (o1403 P) e e) e)) (N (o501 P) (N (o760 P) (N (o1275 P) e e) e) (N (o1016 P) e e)))))))) (N (boot_o_5 P) (N (boot_o_9 P) (N (o8 P) (N (o24 P) (N (o56 P) (N (o120 P) (N (o248 P) (N (o507 P) (N (o1022 P) e e) e) (N (o766 P) (N (o1281 P) e e) e)) (N (o379 P) (N (o635 P) (N (o1153 P) e e) e) (N (o894 P) (N (o1409 P) e e) e))) (N (o184 P) (N (o312 P) (N (o571 P) (N (o1089 P) e e) e) (N (o830 P) (N (o1345 P) e e) e)) (N (o443 P) (N (o699 P) (N (o1217 P) e e) e) (N (o958 P) e e)))) (N (o88 P) (N (o152 P) (N (o280 P) (N (o539 P) (N (o1054 P) e e) e) (N (o798 P) (N (o1313 P) e e) e)) (N (o411 P) (N (o667 P) (N (o1185 P) e e) e) (N (o926 P) (N (o1441 P) e e) e))) (N (o216 P) (N (o344 P) (N (o603 P) (N (o1121 P) e e) e) (N (o862 P) (N (o1377 P) e e) e)) (N (o475 P) (N (o734 P) (N (o1249 P) e e) e) (N (o990 P) e e))))) (N (o40 P) (N (o72 P) (N (o136 P) (N (o264 P) (N (o523 P) (N (o1038 P) e e) e) (N (o782 P) (N (o1297 P) e e) e)) (N (o395 P) (N (o651 P) (N (o1169 P) e e) e) (N (o910 P) (N (o1425 P) e e) e))) (N (o200 P) (N (o328 P) (N (o587 P) (N (o1105 P) e e) e) (N (o846 P) (N (o1361 P) e e) e)) (N (o459 P) (N (o715 P) (N (o1233 P) e e) e) (N (o974 P) e e)))) (N (o104 P) (N (o168 P) (N (o296 P) (N (o555 P) (N (o1070 P) e e) e) (N (o814 P) (N (o1329 P) e e) e)) (N (o427 P) (N (o683 P) (N (o1201 P) e e) e) (N (o942 P) e e))) (N (o232 P) (N (o360 P) (N (o619 P) (N (o1137 P) e e) e) (N (o878 P) (N (o1393 P) e e) e)) (N (o491 P) (N (o750 P) (N (o1265 P) e e) e) (N (o1006 P) e e)))))) (N (o16 P) (N (o32 P) (N (o64 P) (N (o128 P) (N (o256 P) (N (o515 P) (N (o1030 P) e e) e) (N (o774 P) (N (o1289 P) e e) e)) (N (o387 P) (N (o643 P) (N (o1161 P) e e) e) (N (o902 P) (N (o1417 P) e e) e))) (N (o192 P) (N (o320 P) (N (o579 P) (N (o1097 P) e e) e) (N (o838 P) (N (o1353 P) e e) e)) (N (o451 P) (N (o707 P) (N (o1225 P) e e) e) (N (o966 P) e e)))) (N (o96 P) (N (o160 P) (N (o288 P) (N (o547 P) (N (o1062 P) e e) e) (N (o806 P) (N (o1321 P) e e) e)) (N (o419 P) (N (o675 P) (N (o1193 P) e e) e) (N (o934 P) (N (o1449 P) e e) e))) (N (o224 P) (N (o352 P) (N (o611 P) (N (o1129 P) e e) e) (N (o870 P) (N (o1385 P) e e) e)) (N (o483 P) (N (o742 P) (N (o1257 P) e e) e) (N (o998 P) e e))))) (N (o48 P) (N (o80 P) (N (o144 P) (N (o272 P) (N (o531 P) (N (o1046 P) e e) e) (N (o790 P) (N (o1305 P) e e) e)) (N (o403 P) (N (o659 P) (N (o1177 P) e e) e) (N (o918 P) (N (o1433 P) e e) e))) (N (o208 P) (N (o336 P) (N (o595 P) (N (o1113 P) e e) e) (N (o854 P) (N (o1369 P) e e) e)) (N (o467 P) (N (o726 P) (N (o1241 P) e e) e) (N (o982 P) e e)))) (N (o112 P) (N (o176 P) (N (o304 P) (N (o563 P) (N (o1081 P) e e) e) (N (o822 P) (N (o1337 P) e e) e)) (N (o435 P) (N (o691 P) (N (o1209 P) e e) e) (N (o950 P) e e))) (N (o240 P) (N (o371 P) (N (o627 P) (N (o1145 P) e e) e) (N (o886 P) (N (o1401 P) e e) e)) (N (o499 P) (N (o758 P) (N (o1273 P) e e) e) (N (o1014 P) e e))))))) (N (o2 P) (N (o12 P) (N (o28 P) (N (o60 P) (N (o124 P) (N (o252 P) (N (o511 P) (N (o1026 P) e e) e) (N (o770 P) (N (o1285 P) e e) e)) (N (o383 P) (N (o639 P) (N (o1157 P) e e) e) (N (o898 P) (N (o1413 P) e e) e))) (N (o188 P) (N (o316 P) (N (o575 P) (N (o1093 P) e e) e) (N (o834 P) (N (o1349 P) e e) e)) (N (o447 P) (N (o703 P) (N (o1221 P) e e) e) (N (o962 P) e e)))) (N (o92 P) (N (o156 P) (N (o284 P) (N (o543 P) (N (o1058 P) e e) e) (N (o802 P) (N (o1317 P) e e) e)) (N (o415 P) (N (o671 P) (N (o1189 P) e e) e) (N (o930 P) (N (o1445 P) e e) e))) (N (o220 P) (N (o348 P) (N (o607 P) (N (o1125 P) e e) e) (N (o866 P) (N (o1381 P) e e) e)) (N (o479 P) (N (o738 P) (N (o1253 P) e e) e) (N (o994 P) e e))))) (N (o44 P) (N (o76 P) (N (o140 P) (N (o268 P) (N (o527 P) (N (o1042 P) e e) e) (N (o786 P) (N (o1301 P) e e) e)) (N (o399 P) (N (o655 P) (N (o1173 P) e e) e) (N (o914 P) (N (o1429 P) e e) e))) (N (o204 P) (N (o332 P) (N (o591 P) (N (o1109 P) e e) e) (N (o850 P) (N (o1365 P) e e) e)) (N (o463 P) (N (o722 P) (N (o1237 P) e e) e) (N (o978 P) e e)))) (N (o108 P) (N (o172 P) (N (o300 P) (N (o559 P) (N (o1074 P) e e) e) (N (o818 P) (N (o1333 P) e e) e)) (N (o431 P) (N (o687 P) (N (o1205 P) e e) e) (N (o946 P) e e))) (N (o236 P) (N (o367 P) (N (o623 P) (N (o1141 P) e e) e) (N (o882 P) (N (o1397 P) e e) e)) (N (o495 P) (N (o754 P) (N (o1269 P) e e) e) (N (o1010 P) e e)))))) (N (o20 P) (N (o36 P) (N (o68 P) (N (o132 P) (N (o260 P) (N (o519 P) (N (o1034 P) e e) e) (N (o778 P) (N (o1293 P) e e) e)) (N (o391 P) (N (o647 P) (N (o1165 P) e e) e) (N (o906 P) (N (o1421 P) e e) e))) (N (o196 P) (N (o324 P) (N (o583 P) (N (o1101 P) e e) e) (N (o842 P) (N (o1357 P) e e) e)) (N (o455 P) (N (o711 P) (N (o1229 P) e e) e) (N (o970 P) e e)))) (N (o100 P) (N (o164 P) (N (o292 P) (N (o551 P) (N (o1066 P) e e) e) (N (o810 P) (N (o1325 P) e e) e)) (N (o423 P) (N (o679 P) (N (o1197 P) e e) e) (N (o938 P) (N (o1453 P) e e) e))) (N (o228 P) (N (o356 P) (N (o615 P) (N (o1133 P) e e) e) (N (o874 P) (N (o1389 P) e e) e)) (N (o487 P) (N (o746 P) (N (o1261 P) e e) e) (N (o1002 P) e e))))) (N (o52 P) (N (o84 P) (N (o148 P) (N (o276 P) (N (o535 P) (N (o1050 P) e e) e) (N (o794 P) (N (o1309 P) e e) e)) (N (o407 P) (N (o663 P) (N (o1181 P) e e) e) (N (o922 P) (N (o1437 P) e e) e))) (N (o212 P) (N (o340 P) (N (o599 P) (N (o1117 P) e e) e) (N (o858 P) (N (o1373 P) e e) e)) (N (o471 P) (N (o730 P) (N (o1245 P) e e) e) (N (o986 P) e e)))) (N (o116 P) (N (o180 P) (N (o308 P) (N (o567 P) (N (o1085 P) e e) e) (N (o826 P) (N (o1341 P) e e) e)) (N (o439 P) (N (o695 P) (N (o1213 P) e e) e) (N (o954 P) e e))) (N (o244 P) (N (o375 P) (N (o631 P) (N (o1149 P) e e) e) (N (o890 P) (N (o1405 P) e e) e)) (N (o503 P) (N (o762 P) (N (o1277 P) e e) e) (N (o1018 P) e e))))))))) (N (boot_o_2 P) (N (boot_o_4 P) (N (boot_o_8 P) (N (o7 P) (N (o23 P) (N (o55 P) (N (o119 P) (N (o247 P) (N (o506 P) (N (o1021 P) e e) e) (N (o765 P) (N (o1280 P) e e) e)) (N (o378 P) (N (o634 P) (N (o1152 P) e e) e) (N (o893 P) (N (o1408 P) e e) e))) (N (o183 P) (N (o311 P) (N (o570 P) (N (o1088 P) e e) e) (N (o829 P) (N (o1344 P) e e) e)) (N (o442 P) (N (o698 P) (N (o1216 P) e e) e) (N (o957 P) e e)))) (N (o87 P) (N (o151 P) (N (o279 P) (N (o538 P) (N (o1053 P) e e) e) (N (o797 P) (N (o1312 P) e e) e)) (N (o410 P) (N (o666 P) (N (o1184 P) e e) e) (N (o925 P) (N (o1440 P) e e) e))) (N (o215 P) (N (o343 P) (N (o602 P) (N (o1120 P) e e) e) (N (o861 P) (N (o1376 P) e e) e)) (N (o474 P) (N (o733 P) (N (o1248 P) e e) e) (N (o989 P) e e))))) (N (o39 P) (N (o71 P) (N (o135 P) (N (o263 P) (N (o522 P) (N (o1037 P) e e) e) (N (o781 P) (N (o1296 P) e e) e)) (N (o394 P) (N (o650 P) (N (o1168 P) e e) e) (N (o909 P) (N (o1424 P) e e) e))) (N (o199 P) (N (o327 P) (N (o586 P) (N (o1104 P) e e) e) (N (o845 P) (N (o1360 P) e e) e)) (N (o458 P) (N (o714 P) (N (o1232 P) e e) e) (N (o973 P) e e)))) (N (o103 P) (N (o167 P) (N (o295 P) (N (o554 P) (N (o1069 P) e e) e) (N (o813 P) (N (o1328 P) e e) e)) (N (o426 P) (N (o682 P) (N (o1200 P) e e) e) (N (o941 P) (N (o1456 P) e e) e))) (N (o231 P) (N (o359 P) (N (o618 P) (N (o1136 P) e e) e) (N (o877 P) (N (o1392 P) e e) e)) (N (o490 P) (N (o749 P) (N (o1264 P) e e) e) (N (o1005 P) e e)))))) (N (o1077 P) (N (o31 P) (N (o63 P) (N (o127 P) (N (o255 P) (N (o514 P) (N (o1029 P) e e) e) (N (o773 P) (N (o1288 P) e e) e)) (N (o386 P) (N (o642 P) (N (o1160 P) e e) e) (N (o901 P) (N (o1416 P) e e) e))) (N (o191 P) (N (o319 P) (N (o578 P) (N (o1096 P) e e) e) (N (o837 P) (N (o1352 P) e e) e)) (N (o450 P) (N (o706 P) (N (o1224 P) e e) e) (N (o965 P) e e)))) (N (o95 P) (N (o159 P) (N (o287 P) (N (o546 P) (N (o1061 P) e e) e) (N (o805 P) (N (o1320 P) e e) e)) (N (o418 P) (N (o674 P) (N (o1192 P) e e) e) (N (o933 P) (N (o1448 P) e e) e))) (N (o223 P) (N (o351 P) (N (o610 P) (N (o1128 P) e e) e) (N (o869 P) (N (o1384 P) e e) e)) (N (o482 P) (N (o741 P) (N (o1256 P) e e) e) (N (o997 P) e e))))) (N (o47 P) (N (o79 P) (N (o143 P) (N (o271 P) (N (o530 P) (N (o1045 P) e e) e) (N (o789 P) (N (o1304 P) e e) e)) (N (o402 P) (N (o658 P) (N (o1176 P) e e) e) (N (o917 P) (N (o1432 P) e e) e))) (N (o207 P) (N (o335 P) (N (o594 P) (N (o1112 P) e e) e) (N (o853 P) (N (o1368 P) e e) e)) (N (o466 P) (N (o725 P) (N (o1240 P) e e) e) (N (o981 P) e e)))) (N (o111 P) (N (o175 P) (N (o303 P) (N (o562 P) (N (o1080 P) e e) e) (N (o821 P) (N (o1336 P) e e) e)) (N (o434 P) (N (o690 P) (N (o1208 P) e e) e) (N (o949 P) e e))) (N (o239 P) (N (o370 P) (N (o626 P) (N (o1144 P) e e) e) (N (o885 P) (N (o1400 P) e e) e)) (N (o498 P) (N (o757 P) (N (o1272 P) e e) e) (N (o1013 P) e e))))))) (N (o1076 P) (N (o11 P) (N (o27 P) (N (o59 P) (N (o123 P) (N (o251 P) (N (o510 P) (N (o1025 P) e e) e) (N (o769 P) (N (o1284 P) e e) e)) (N (o382 P) (N (o638 P) (N (o1156 P) e e) e) (N (o897 P) (N (o1412 P) e e) e))) (N (o187 P) (N (o315 P) (N (o574 P) (N (o1092 P) e e) e) (N (o833 P) (N (o1348 P) e e) e)) (N (o446 P) (N (o702 P) (N (o1220 P) e e) e) (N (o961 P) e e)))) (N (o91 P) (N (o155 P) (N (o283 P) (N (o542 P) (N (o1057 P) e e) e) (N (o801 P) (N (o1316 P) e e) e)) (N (o414 P) (N (o670 P) (N (o1188 P) e e) e) (N (o929 P) (N (o1444 P) e e) e))) (N (o219 P) (N (o347 P) (N (o606 P) (N (o1124 P) e e) e) (N (o865 P) (N (o1380 P) e e) e)) (N (o478 P) (N (o737 P) (N (o1252 P) e e) e) (N (o993 P) e e))))) (N (o43 P) (N (o75 P) (N (o139 P) (N (o267 P) (N (o526 P) (N (o1041 P) e e) e) (N (o785 P) (N (o1300 P) e e) e)) (N (o398 P) (N (o654 P) (N (o1172 P) e e) e) (N (o913 P) (N (o1428 P) e e) e))) (N (o203 P) (N (o331 P) (N (o590 P) (N (o1108 P) e e) e) (N (o849 P) (N (o1364 P) e e) e)) (N (o462 P) (N (o721 P) (N (o1236 P) e e) e) (N (o977 P) e e)))) (N (o107 P) (N (o171 P) (N (o299 P) (N (o558 P) (N (o1073 P) e e) e) (N (o817 P) (N (o1332 P) e e) e)) (N (o430 P) (N (o686 P) (N (o1204 P) e e) e) (N (o945 P) e e))) (N (o235 P) (N (o366 P) (N (o622 P) (N (o1140 P) e e) e) (N (o881 P) (N (o1396 P) e e) e)) (N (o494 P) (N (o753 P) (N (o1268 P) e e) e) (N (o1009 P) e e)))))) (N (o19 P) (N (o35 P) (N (o67 P) (N (o131 P) (N (o259 P) (N (o518 P) (N (o1033 P) e e) e) (N (o777 P) (N (o1292 P) e e) e)) (N (o390 P) (N (o646 P) (N (o1164 P) e e) e) (N (o905 P) (N (o1420 P) e e) e))) (N (o195 P) (N (o323 P) (N (o582 P) (N (o1100 P) e e) e) (N (o841 P) (N (o1356 P) e e) e)) (N (o454 P) (N (o710 P) (N (o1228 P) e e) e) (N (o969 P) e e)))) (N (o99 P) (N (o163 P) (N (o291 P) (N (o550 P) (N (o1065 P) e e) e) (N (o809 P) (N (o1324 P) e e) e)) (N (o422 P) (N (o678 P) (N (o1196 P) e e) e) (N (o937 P) (N (o1452 P) e e) e))) (N (o227 P) (N (o355 P) (N (o614 P) (N (o1132 P) e e) e) (N (o873 P) (N (o1388 P) e e) e)) (N (o486 P) (N (o745 P) (N (o1260 P) e e) e) (N (o1001 P) e e))))) (N (o51 P) (N (o83 P) (N (o147 P) (N (o275 P) (N (o534 P) (N (o1049 P) e e) e) (N (o793 P) (N (o1308 P) e e) e)) (N (o406 P) (N (o662 P) (N (o1180 P) e e) e) (N (o921 P) (N (o1436 P) e e) e))) (N (o211 P) (N (o339 P) (N (o598 P) (N (o1116 P) e e) e) (N (o857 P) (N (o1372 P) e e) e)) (N (o470 P) (N (o729 P) (N (o1244 P) e e) e) (N (o985 P) e e)))) (N (o115 P) (N (o179 P) (N (o307 P) (N (o566 P) (N (o1084 P) e e) e) (N (o825 P) (N (o1340 P) e e) e)) (N (o438 P) (N (o694 P) (N (o1212 P) e e) e) (N (o953 P) e e))) (N (o243 P) (N (o374 P) (N (o630 P) (N (o1148 P) e e) e) (N (o889 P) (N (o1404 P) e e) e)) (N (o502 P) (N (o761 P) (N (o1276 P) e e) e) (N (o1017 P) e e)))))))) (N (boot_o_6 P) (N (boot_o_10 P) (N (o9 P) (N (o25 P) (N (o57 P) (N (o121 P) (N (o249 P) (N (o508 P) (N (o1023 P) e e) e) (N (o767 P) (N (o1282 P) e e) e)) (N (o380 P) (N (o636 P) (N (o1154 P) e e) e) (N (o895 P) (N (o1410 P) e e) e))) (N (o185 P) (N (o313 P) (N (o572 P) (N (o1090 P) e e) e) (N (o831 P) (N (o1346 P) e e) e)) (N (o444 P) (N (o700 P) (N (o1218 P) e e) e) (N (o959 P) e e)))) (N (o89 P) (N (o153 P) (N (o281 P) (N (o540 P) (N (o1055 P) e e) e) (N (o799 P) (N (o1314 P) e e) e)) (N (o412 P) (N (o668 P) (N (o1186 P) e e) e) (N (o927 P) (N (o1442 P) e e) e))) (N (o217 P) (N (o345 P) (N (o604 P) (N (o1122 P) e e) e) (N (o863 P) (N (o1378 P) e e) e)) (N (o476 P) (N (o735 P) (N (o1250 P) e e) e) (N (o991 P) e e))))) (N (o41 P) (N (o73 P) (N (o137 P) (N (o265 P) (N (o524 P) (N (o1039 P) e e) e) (N (o783 P) (N (o1298 P) e e) e)) (N (o396 P) (N (o652 P) (N (o1170 P) e e) e) (N (o911 P) (N (o1426 P) e e) e))) (N (o201 P) (N (o329 P) (N (o588 P) (N (o1106 P) e e) e) (N (o847 P) (N (o1362 P) e e) e)) (N (o460 P) (N (o716 P) (N (o1234 P) e e) e) (N (o975 P) e e)))) (N (o105 P) (N (o169 P) (N (o297 P) (N (o556 P) (N (o1071 P) e e) e) (N (o815 P) (N (o1330 P) e e) e)) (N (o428 P) (N (o684 P) (N (o1202 P) e e) e) (N (o943 P) e e))) (N (o233 P) (N (o364 P) (N (o620 P) (N (o1138 P) e e) e) (N (o879 P) (N (o1394 P) e e) e)) (N (o492 P) (N (o751 P) (N (o1266 P) e e) e) (N (o1007 P) e e)))))) (N (o17 P) (N (o33 P) (N (o65 P) (N (o129 P) (N (o257 P) (N (o516 P) (N (o1031 P) e e) e) (N (o775 P) (N (o1290 P) e e) e)) (N (o388 P) (N (o644 P) (N (o1162 P) e e) e) (N (o903 P) (N (o1418 P) e e) e))) (N (o193 P) (N (o321 P) (N (o580 P) (N (o1098 P) e e) e) (N (o839 P) (N (o1354 P) e e) e)) (N (o452 P) (N (o708 P) (N (o1226 P) e e) e) (N (o967 P) e e)))) (N (o97 P) (N (o161 P) (N (o289 P) (N (o548 P) (N (o1063 P) e e) e) (N (o807 P) (N (o1322 P) e e) e)) (N (o420 P) (N (o676 P) (N (o1194 P) e e) e) (N (o935 P) (N (o1450 P) e e) e))) (N (o225 P) (N (o353 P) (N (o612 P) (N (o1130 P) e e) e) (N (o871 P) (N (o1386 P) e e) e)) (N (o484 P) (N (o743 P) (N (o1258 P) e e) e) (N (o999 P) e e))))) (N (o49 P) (N (o81 P) (N (o145 P) (N (o273 P) (N (o532 P) (N (o1047 P) e e) e) (N (o791 P) (N (o1306 P) e e) e)) (N (o404 P) (N (o660 P) (N (o1178 P) e e) e) (N (o919 P) (N (o1434 P) e e) e))) (N (o209 P) (N (o337 P) (N (o596 P) (N (o1114 P) e e) e) (N (o855 P) (N (o1370 P) e e) e)) (N (o468 P) (N (o727 P) (N (o1242 P) e e) e) (N (o983 P) e e)))) (N (o113 P) (N (o177 P) (N (o305 P) (N (o564 P) (N (o1082 P) e e) e) (N (o823 P) (N (o1338 P) e e) e)) (N (o436 P) (N (o692 P) (N (o1210 P) e e) e) (N (o951 P) e e))) (N (o241 P) (N (o372 P) (N (o628 P) (N (o1146 P) e e) e) (N (o887 P) (N (o1402 P) e e) e)) (N (o500 P) (N (o759 P) (N (o1274 P) e e) e) (N (o1015 P) e e))))))) (N (o3 P) (N (o13 P) (N (o29 P) (N (o61 P) (N (o125 P) (N (o253 P) (N (o512 P) (N (o1027 P) e e) e) (N (o771 P) (N (o1286 P) e e) e)) (N (o384 P) (N (o640 P) (N (o1158 P) e e) e) (N (o899 P) (N (o1414 P) e e) e))) (N (o189 P) (N (o317 P) (N (o576 P) (N (o1094 P) e e) e) (N (o835 P) (N (o1350 P) e e) e)) (N (o448 P) (N (o704 P) (N (o1222 P) e e) e) (N (o963 P) e e)))) (N (o93 P) (N (o157 P) (N (o285 P) (N (o544 P) (N (o1059 P) e e) e) (N (o803 P) (N (o1318 P) e e) e)) (N (o416 P) (N (o672 P) (N (o1190 P) e e) e) (N (o931 P) (N (o1446 P) e e) e))) (N (o221 P) (N (o349 P) (N (o608 P) (N (o1126 P) e e) e) (N (o867 P) (N (o1382 P) e e) e)) (N (o480 P) (N (o739 P) (N (o1254 P) e e) e) (N (o995 P) e e))))) (N (o45 P) (N (o77 P) (N (o141 P) (N (o269 P) (N (o528 P) (N (o1043 P) e e) e) (N (o787 P) (N (o1302 P) e e) e)) (N (o400 P) (N (o656 P) (N (o1174 P) e e) e) (N (o915 P) (N (o1430 P) e e) e))) (N (o205 P) (N (o333 P) (N (o592 P) (N (o1110 P) e e) e) (N (o851 P) (N (o1366 P) e e) e)) (N (o464 P) (N (o723 P) (N (o1238 P) e e) e) (N (o979 P) e e)))) (N (o109 P) (N (o173 P) (N (o301 P) (N (o560 P) (N (o1078 P) e e) e) (N (o819 P) (N (o1334 P) e e) e)) (N (o432 P) (N (o688 P) (N (o1206 P) e e) e) (N (o947 P) e e))) (N (o237 P) (N (o368 P) (N (o624 P) (N (o1142 P) e e) e) (N (o883 P) (N (o1398 P) e e) e)) (N (o496 P) (N (o755 P) (N (o1270 P) e e) e) (N (o1011 P) e e)))))) (N (o21 P) (N (o37 P) (N (o69 P) (N (o133 P) (N (o261 P) (N (o520 P) (N (o1035 P) e e) e) (N (o779 P) (N (o1294 P) e e) e)) (N (o392 P) (N (o648 P) (N (o1166 P) e e) e) (N (o907 P) (N (o1422 P) e e) e))) (N (o197 P) (N (o325 P) (N (o584 P) (N (o1102 P) e e) e) (N (o843 P) (N (o1358 P) e e) e)) (N (o456 P) (N (o712 P) (N (o1230 P) e e) e) (N (o971 P) e e)))) (N (o101 P) (N (o165 P) (N (o293 P) (N (o552 P) (N (o1067 P) e e) e) (N (o811 P) (N (o1326 P) e e) e)) (N (o424 P) (N (o680 P) (N (o1198 P) e e) e) (N (o939 P) (N (o1454 P) e e) e))) (N (o229 P) (N (o357 P) (N (o616 P) (N (o1134 P) e e) e) (N (o875 P) (N (o1390 P) e e) e)) (N (o488 P) (N (o747 P) (N (o1262 P) e e) e) (N (o1003 P) e e))))) (N (o53 P) (N (o85 P) (N (o149 P) (N (o277 P) (N (o536 P) (N (o1051 P) e e) e) (N (o795 P) (N (o1310 P) e e) e)) (N (o408 P) (N (o664 P) (N (o1182 P) e e) e) (N (o923 P) (N (o1438 P) e e) e))) (N (o213 P) (N (o341 P) (N (o600 P) (N (o1118 P) e e) e) (N (o859 P) (N (o1374 P) e e) e)) (N (o472 P) (N (o731 P) (N (o1246 P) e e) e) (N (o987 P) e e)))) (N (o117 P) (N (o181 P) (N (o309 P) (N (o568 P) (N (o1086 P) e e) e) (N (o827 P) (N (o1342 P) e e) e)) (N (o440 P) (N (o696 P) (N (o1214 P) e e) e) (N (o955 P) e e))) (N (o245 P) (N (o376 P) (N (o632 P) (N (o1150 P) e e) e) (N (o891 P) (N (o1406 P) e e) e)) (N (o504 P) (N (o763 P) (N (o1278 P) e e) e) (N (o1019 P) e e))))))))))
def Sz (w : World) (os : OsState) : SharedT := ⟨Tz w.params, 1457, ⟨[], [], [], 0, [], [], false, #[], [], 0, false, false, false, 0, [2000, 10, 10], false, 0, true, [], [], 0, false⟩, #[], ⟨0, 0, 0, 0⟩, 2118, os⟩
def posz : Pos := ⟨445, 0, 464, 136⟩
abbrev bd : List Stmt := behindTheImports Pg
def env : Env := { scope := Pg.main.scope, locals := mainNs, globals := mainNs, cells := [], code := (.ref 13), frame := some 14 }
abbrev cE : Code := .body bd env
abbrev qf : Pos := ⟨0, 0, 0, 0⟩
abbrev cut (a b : Nat) : List Stmt := (bd.drop a).take (b - a)
end K00H

end
noncomputable section
namespace K00H
open PySem PySem.W PySem.Calls PyProof.Rows HandSHeadRun HG
theorem g0 (w : World) (os : OsState) : first (stepQ (denQ tabQ) Pg w) 12 Pg w os = some (Sa w os, ⟨denQ tabQ cE, cE, posa, [topFrame qf]⟩) := by kernel_rfl
theorem gb (w : World) (os : OsState) : block (stepQ (denQ tabQ) Pg w) 11 an6 1 (Sa w os) ⟨(PySem.W.Fast.tw1066825118222455980 bd env).wrap (fun _ => doneF .next) deadEnd id id, cE, posa, [topFrame qf]⟩ = some (.next, Sa w os, cE, posa) := by kernel_rfl
theorem g1 (w : World) (os : OsState) : block (stepQ (denQ tabQ) Pg w) 11 an6 4608 (Sa w os) ⟨(exQ (cut 0 20) env).wrap doneF deadEnd id id, cE, posa, [topFrame qf]⟩ = some (.next, S1 w os, cE, pos1) := by kernel_rfl
theorem g2 (w : World) (os : OsState) : block (stepQ (denQ tabQ) Pg w) 11 an6 4628 (S1 w os) ⟨(exQ (cut 20 39) env).wrap doneF deadEnd id id, cE, pos1, [topFrame qf]⟩ = some (.next, S2 w os, cE, pos2) := by kernel_rfl
theorem g3 (w : World) (os : OsState) : block (stepQ (denQ tabQ) Pg w) 11 an6 4632 (S2 w os) ⟨(exQ (cut 39 58) env).wrap doneF deadEnd id id, cE, pos2, [topFrame qf]⟩ = some (.next, S3 w os, cE, pos3) := by kernel_rfl
theorem g4 (w : World) (os : OsState) : block (stepQ (denQ tabQ) Pg w) 11 an6 4282 (S3 w os) ⟨(exQ (cut 58 87) env).wrap doneF deadEnd id id, cE, pos3, [topFrame qf]⟩ = some (.next, S4 w os, cE, pos4) := by kernel_rfl
theorem gz (w : World) (os : OsState) : goF (stepQ (denQ tabQ) Pg w) 11 an6 2 (S4 w os) ⟨doneF .next, cE, pos4, [topFrame qf]⟩ = some (Sz w os) := by kernel_rfl
theorem body_cut : bd = cut 0 20 ++ (cut 20 39 ++ (cut 39 58 ++ (cut 58 87 ++ []))) := by kernel_rfl
theorem top (w : World) (os : OsState) : topRun treeTable Pg w 11 an6 18165 (bootS w os) (topStub Pg) = some (Sz w os).abs := by
  refine begin_ (g0 w os) (gb w os) (N := 18152) ?_
  have z : topRun treeTable Pg w 11 an6 (4608 + (4628 + (4632 + (4282 + 2)))) (Sa w os).abs (restOf (cut 0 20 ++ (cut 20 39 ++ (cut 39 58 ++ (cut 58 87 ++ [])))) env cE posa [topFrame qf]) = some (Sz w os).abs := piece (g1 w os) (piece (g2 w os) (piece (g3 w os) (piece (g4 w os) (last (gz w os)))))
  rw [← body_cut] at z
  exact z
end K00H

end
/-! E1: a class over ValueError with an own __init__ is called, with keywords too (at the model's level). -/
namespace XMake
open PySem
/-- at C stands such a class, its line of ancestors behind itself is bm -/
def At (h : Heap) (C : Addr) (bm : List Value) : Prop := ∃ nm q N bs dct sn sub ab col dd a0 a1 a2 a3 a5, h.get? C = some (excClassObj nm q C N bs bm dct sn sub ab col dd a0 a1 a2 a3 a5 "ValueError.__new__")
/-- the built-in classes among bm are ValueError's -/
def Over (bm : List Value) : Prop := ∀ T : String, bm.contains (.type T) = [Value.type "ValueError", .type "Exception", .type "BaseException", .type "object"].contains (.type T)
theorem Over.has {bm : List Value} (o : Over bm) (C : Addr) (T : String) (b : Bool) (e : [Value.type "ValueError", .type "Exception", .type "BaseException", .type "object"].contains (.type T) = b) : (Value.ref C :: bm).contains (.type T) = b := by
  have z : (Value.type T == Value.ref C) = false := rfl
  rw [List.contains_cons, z, Bool.false_or]
  exact (o T).trans e
abbrev vf := PySem.F.excBase_ValueError
/-- the heap with a tuple of the arguments and the bare exception behind it -/
abbrev made (h : Heap) (C : Addr) (us : List Value) : Heap := (h.push (W.kdv_tup us)).push (HandSPX.excO C h.objs.size)
section
variable {P : Program} {w : World} {A : Around} {C : Addr} {bm us : List Value} {kw : List (Str × Value)} {h : Heap} {g : Array GenState} {d : Drawn} {t : Nat} {os : OsState}
theorem let_by {M : Model} {E : Value → Shared → Prop} {Q : Unit → Shared → Prop} (c : At h C bm) (o : Over bm) (k : Q () ⟨h, g, d, t, os⟩) : wpAny M A (checkBuiltinCall "ValueError.__new__" ⟨.ref C :: us, kw⟩) Q E ⟨h, g, d, t, os⟩ := by
  obtain ⟨nm, q, N, bs, dct, sn, sub, ab, col, dd, a0, a1, a2, a3, a5, c⟩ := c
  have v := o.has C "ValueError" true rfl
  have star := vf.noStar
  unfold checkBuiltinCall
  simp only [vf.newRow, vf.newSplit, vf.newKind]
  repeat
    first
      | (refine wpAny_isSubtype_exc c ?_
         rw [v])
      | refine wpAny_staticBase_exc c ?_
      | refine wpAny_madeBy_exc c ?_
      | refine wpAny_loadPart_at c ?_
      | simp only [if_false, Bool.false_eq_true, bne_self_eq_false]
      | wp_step
  exact k
theorem new {R : Result → Shared → Prop} (c : At h C bm) (o : Over bm) (l : us.length ≤ sizeLine) (k : R (.ok (.ret (.ref (h.objs.size + 1)))) ⟨made h C us, g, d, t, os⟩) :
    codeAny (model P w) A (.builtin "ValueError.__new__" ⟨.ref C :: us, kw⟩) R ⟨h, g, d, t, os⟩ := by
  obtain ⟨nm, q, N, bs, dct, sn, sub, ab, col, dd, a0, a1, a2, a3, a5, c⟩ := c
  have v := o.has C "ValueError" true rfl
  have v1 := o.has C "AttributeError" false (by decide)
  have v2 := o.has C "NameError" false (by decide)
  have ends := vf.ends
  refine codeAny_builtinAt vf.entry (wpAt_bind ?_)
  refine wpAt_bind (wpAt_stack fun _ _ => wpAt_of_wpAny ?_)
  wp_walk
  refine wpAt_of_wpAny ?_
  rw [vf.owner]
  repeat
    first
      | (with_reducible refine wpAny_isSubtype_exc c ?_
         first
           | rw [v]
           | rw [v1]
           | rw [v2])
      | with_reducible refine wpAny_madeHere_exc vf.canon c ?_
      | with_reducible refine wpAny_loadPart_at c ?_
      | wp_step
  show R (.ok (.ret (.ref (Heap.push h _).objs.size))) _
  rw [Heap.size_push]
  exact k
theorem At.on {h' : Heap} (c : At h C bm) (k : ∀ b o, h.get? b = some o → h'.get? b = some o) : At h' C bm := by
  obtain ⟨nm, q, N, bs, dct, sn, sub, ab, col, dd, a0, a1, a2, a3, a5, c⟩ := c
  exact ⟨nm, q, N, bs, dct, sn, sub, ab, col, dd, a0, a1, a2, a3, a5, k _ _ c⟩
theorem made_keeps (b : Addr) (o : Obj) (e : h.get? b = some o) : (made h C us).get? b = some o := by
  unfold made
  exact Heap.get?_push_of_some _ (Heap.get?_push_of_some _ e)
theorem made_here : (made h C us).get? (h.objs.size + 1) = some (HandSPX.excO C h.objs.size) := by
  unfold made
  heap_get
/-- type.__call__ of the class: made, then its __init__, at f -/
theorem by_type {E : Value → Shared → Prop} {Q : Fin → Shared → Prop} {f : Addr} (c : At h C bm) (o : Over bm) (l : us.length ≤ sizeLine)
    (i : W.Looks (model P w) h (typeLookup (.ref C) "__init__") (some (.ref f))) (b : ∀ x, W.Looks (model P w) h (bindSpecial (.ref f) x) (.ref f, [x]))
    (k : codeAny (model P w) A (.call (.ref f) ⟨.ref (h.objs.size + 1) :: us, kw⟩) (fun r s' => match r with
      | .error e => E e s'
      | .ok (.ret v) => v = .none ∧ Q (.done (.ret (.ref (h.objs.size + 1)))) s'
      | .ok _ => False) ⟨made h C us, g, d, t, os⟩) :
    wpAny (model P w) A (Builtin.«type.__call__» ⟨.ref C :: us, kw⟩) Q E ⟨h, g, d, t, os⟩ := by
  have c' := c
  obtain ⟨nm, q, N, bs, dct, sn, sub, ab, col, dd, a0, a1, a2, a3, a5, z⟩ := c'
  have z2 := made_keeps (C := C) (us := us) _ _ z
  have self := made_here (h := h) (C := C) (us := us)
  have own : (Value.ref C :: bm).contains (.ref C) = true := List.contains_iff_mem.mpr List.mem_cons_self
  have i2 := i.keeps (made_keeps (C := C) (us := us))
  have b2 := (b (.ref (h.objs.size + 1))).keeps (made_keeps (C := C) (us := us))
  repeat
    first
      | with_reducible refine wpAny_madeBy_exc z ?_
      | with_reducible refine wpAny_loadPart_at z ?_
      | wp_step
  refine codeAny_call_builtin_code (Code.quiet_builtin _ vf.quiet) (let_by c o (new c o l ?_))
  show wpAny _ _ _ _ _ _
  unfold isInstance
  repeat
    first
      | (with_reducible refine wpAny_isSubtype_exc z2 ?_
         rw [own])
      | with_reducible refine wpAny_loadPart_at self ?_
      | wp_step
  refine i2.at (wpAny_holding (wpAny_bind (b2.at (wpAny_bind (wpAny_call (codeAny_mono k fun r s' y => ?_))))))
  match r, y with
  | .error e, y => exact y
  | .ok (.ret v), y =>
    obtain ⟨rfl, y⟩ := y
    first
      | exact wpAny_pure (wpAny_pure y)
      | (wp_walk; exact y)
  | .ok .next, y => exact y.elim
  | .ok .brk, y => exact y.elim
  | .ok .cont, y => exact y.elim
/-- the class is called -/
theorem called {R : Result → Shared → Prop} {f : Addr} (c : At h C bm) (o : Over bm) (l : us.length ≤ sizeLine)
    (i : W.Looks (model P w) h (typeLookup (.ref C) "__init__") (some (.ref f))) (b : ∀ x, W.Looks (model P w) h (bindSpecial (.ref f) x) (.ref f, [x]))
    (k : codeAny (model P w) (A.under (.builtin "type.__call__" ⟨.ref C :: us, kw⟩)) (.call (.ref f) ⟨.ref (h.objs.size + 1) :: us, kw⟩) (W.InitBack (h.objs.size + 1) R) ⟨made h C us, g, d, t, os⟩) :
    codeAny (model P w) A (.call (.ref C) ⟨us, kw⟩) R ⟨h, g, d, t, os⟩ := by
  have c' := c
  obtain ⟨nm, q, N, bs, dct, sn, sub, ab, col, dd, a0, a1, a2, a3, a5, z⟩ := c'
  have t1 := tc_bind (.ref C)
  have t2 := tc_lookup
  have ty : (⟨h, g, d, t, os⟩ : Shared).TypeIs (.ref C) "type" := ⟨_, z, rfl⟩
  apply codeAny_of_tree
  show wpAny (model P w) _ (callAny (.ref C) _) _ _ _
  repeat
    any_goals
      first
        | with_reducible refine wpAny_loadPart_at z ?_
        | assumption
        | wp_step
  refine ⟨rfl, codeAny_call_builtin_at (Code.quiet_builtin _ (by decide +kernel)) entry_typeCall (wpAny_check_type_call_sub z (by_type c o l i b (codeAny_mono k fun r s' y => ?_)))⟩
  match r, y with
  | .error e, y => exact y
  | .ok (.ret v), y => exact y
  | .ok .next, y => exact y
  | .ok .brk, y => exact y
  | .ok .cont, y => exact y
end
end XMake

namespace L2
open PySem PySem.Spec PyProof.Rows
/-- C(.., k = v, ..), C an exception class of one's own with its own __init__: the new exception is a value -/
def tMkX (C : Addr) (n m : Nat) (sp : Sp) (gV : List V → List V → List V) (t tk : TA) : TE := fun σ H Q => t σ H fun vs H1 => tk σ H1 fun zs H2 => vs.length = n ∧ n ≤ 1000 ∧ zs.length = m ∧
  ∀ a, H2 a = none → sp (gV (.ref a :: vs) zs) (upd H2 a (exo a C none)) (fun v H3 => v = .non ∧ Q (.ref a) H3) (fun _ _ _ => False)
section
variable {X : Cx} {CX : CXT} {k n : Nat} {f C : Addr} {fd : FuncData} {ps ks : List Str} {sp : Sp} {x : Str} {p pos : Pos} {e : Expr} {es : List Expr} {kws : List Keyword} {t tk : TA} {g : List Value → List Value → List Value} {gV : List V → List V → List V}
/-- what is known of the class and of its __init__ -/
structure MkX (X : Cx) (CX : CXT) (k : Nat) (C f : Addr) (fd : FuncData) (ps : List Str) (sp : Sp) : Prop where
  cls : OexC X.K C
  ini : PySem.W.findIn X.K (.ref C) "__init__" = some (some (.ref f))
  fun_ : PySem.W.typeIn X.K (.ref f) = some (.type "function")
  ok : FnOk X.prog X.w X.K X.mg X.base CX k f fd ps sp
  room : Room (k + 1) X.A
  pass : Passes CX X (fun _ _ _ => False)
theorem MkX.run {pins : List (Addr × Obj)} {σ : St} {H : Hp} {s : Shared} {Q : VK} {us ws : List Value} {vs zs : List V} (M : MkX X CX k C f fd ps sp) (B : KBn X.K fd ps (n + 1) ks g gV)
    (I : Inv X pins σ H s) (r : Vals vs us) (rz : Vals zs ws) (l1 : vs.length = n) (l0 : n ≤ 1000) (l2 : zs.length = ks.length)
    (go : ∀ a, H a = none → sp (gV (.ref a :: vs) zs) (upd H a (exo a C none)) (fun v H2 => v = .non ∧ Q (.ref a) H2) (fun _ _ _ => False)) :
    wpAny (model X.prog X.w) X.A (call (.ref C) us (ks.zip ws)) (EP X pins σ Q) X.xe s := by
  obtain ⟨hp, gs, dr, tk, os⟩ := s
  obtain ⟨nm, q, N, bs, bm, sn, sub, ab, col, dd, a0, a1, a2, a3, a5, lk, anc⟩ := M.cls.cls
  have at_ : XMake.At hp C bm := ⟨nm, q, N, bs, true, sn, sub, ab, col, dd, a0, a1, a2, a3, a5, I.kIn _ _ lk⟩
  have over : XMake.Over bm := fun T => PySem.HandSPX.refsVE_contains T bm anc
  have few : us.length ≤ sizeLine := by
    have z := r.length
    rw [sizeLine_eq]
    omega
  -- the new exception's address
  obtain ⟨a, ea⟩ : ∃ a, a = hp.objs.size + 1 := ⟨_, rfl⟩
  have le : hp.objs.size ≤ a := by omega
  have free : H a = none := I.hok.fresh le
  have here : (XMake.made hp C us).get? a = some (PySem.HandSPX.excO C hp.objs.size) := by
    rw [ea]
    exact XMake.made_here
  have J : Inv X pins σ (upd H a (exo a C none)) ⟨XMake.made hp C us, gs, dr, tk, os⟩ := I.laid (t' := tk) (h' := XMake.made hp C us) XMake.made_keeps le (exo_ok here)
  have num : (Value.ref a :: us).length = n + 1 := by
    have z := r.length
    simp only [List.length_cons]
    omega
  have bound := B.to ⟨XMake.made hp C us, gs, dr, tk, os⟩ (Value.ref a :: us) ws J.kIn num (rz.length.symm.trans l2)
  have init := M.ok.run _ X.stack _ _ ⟨Value.ref a :: us, ks.zip ws⟩ (g (Value.ref a :: us) ws) _ _ (fun _ _ _ => False) (M.room.make C us (ks.zip ws)) (J.env0.make C us (ks.zip ws)) bound (B.rel (show Vals (V.ref a :: vs) (Value.ref a :: us) from .cons rfl r) rz) (go a free)
  refine wpAny_call (XMake.called at_ over few (PySem.W.looks_findIn I.kIn M.ini) (fun z => PySem.W.bind_fn I.kIn z M.fun_) ?_)
  rw [← ea]
  refine codeAny_mono init fun r s' z => ?_
  match r, z with
  | .error u, z => exact M.pass pins σ _ _ u s' J z
  | .ok (.ret u), z =>
    obtain ⟨v, H', L, rv, ev, y⟩ := J.after z
    rw [ev] at rv
    exact ⟨rv, .ref a, H', L, rfl, y⟩
  | .ok .next, z => exact z.elim
  | .ok .brk, z => exact z.elim
  | .ok .cont, z => exact z.elim
/-- C(e, ..) -/
theorem pe_mkX (T : OexC X.K C) (iC : PySem.W.findIn X.K (.ref C) "__init__" = some (some (.ref f))) (tI : PySem.W.typeIn X.K (.ref f) = some (.type "function"))
    (F : FnOk X.prog X.w X.K X.mg X.base CX k f fd ps sp) (hr : Room (k + 1) X.A) (hb : KBn X.K fd ps (n + 1) [] g gV) (hx : Passes CX X (fun _ _ _ => False)) (hg : Gl X x) (hm : X.mg x = some (.ref C)) (ha : PA X (e :: es) t)
    (dbg : (x == ("__debug__" : Str)) = false := by decide) (stars : starEach (e :: es) X.env = (false, eval e X.env) :: starEach es X.env := by rfl) (plain : (backTo pos (starEach es X.env)).any (·.1) = false := by rfl) :
    PE X (.Call (.Name x p) (e :: es) [] pos) (tMkX C n 0 sp gV t tNil) := ⟨fun pins s σ H Q I h => wpAny_Call_Name_kw (ld_glob I hg hm (PySem.W.callWith_K (h₀ := X.base) I.ok.mod.kin T.kC (thn (ha.run pos pins s σ H _ I h) fun us s1 ⟨vs, H1, I1, r1, l1, l0, _, q1⟩ =>
      ⟨I1.kIn, MkX.run (ks := []) (ws := []) (zs := []) ⟨T, iC, tI, F, hr, hx⟩ hb I1 r1 .nil l1 l0 rfl q1⟩) stars plain) dbg)⟩
/-- C(k = v, ..) -/
theorem pe_mkXK (T : OexC X.K C) (iC : PySem.W.findIn X.K (.ref C) "__init__" = some (some (.ref f))) (tI : PySem.W.typeIn X.K (.ref f) = some (.type "function"))
    (F : FnOk X.prog X.w X.K X.mg X.base CX k f fd ps sp) (hr : Room (k + 1) X.A) (hb : KBn X.K fd ps 1 ks g gV) (hx : Passes CX X (fun _ _ _ => False)) (hg : Gl X x) (hm : X.mg x = some (.ref C)) (hkw : PK X kws tk)
    (named : (backToKw pos (keywordEach kws X.env)).all (·.1.isSome) = true := by rfl) (names : (backToKw pos (keywordEach kws X.env)).filterMap (·.1) = ks := by rfl) (dbg : (x == ("__debug__" : Str)) = false := by decide)
    (plain : ((backTo pos (starEach [] X.env)).any (·.1) || (backToKw pos (keywordEach kws X.env)).any (·.1.isNone)) = false := by rfl) :
    PE X (.Call (.Name x p) [] kws pos) (tMkX C 0 ks.length sp gV tNil tk) := ⟨fun pins s σ H Q I h => wpAny_Call_Name_kw (ld_glob I hg hm (PySem.W.callWith_KW0 (h₀ := X.base) I.ok.mod.kin T.kC named (thn (hkw.run pos pins s σ H _ I h) fun ws s2 ⟨zs, H2, I2, rz, l1, l0, l2, q2⟩ =>
      ⟨I2.kIn, by
        rw [names]
        exact MkX.run (us := []) (vs := []) (n := 0) ⟨T, iC, tI, F, hr, hx⟩ hb I2 .nil rz rfl l0 l2 q2⟩) plain) dbg)⟩
end
/-! ### reading a field, isinstance -/
/-- e.f of an exception that is a value -/
def tXv (K : PySem.W.Frag) (f : Str) (te : TE) : TE := fun σ H Q => te σ H fun x H1 => ∃ (a C d : Addr) (fs : List (Str × V)) (v : V), x = .ref a ∧ H1 a = some (exo a C (some d)) ∧ H1 d = some (exd d fs) ∧ XfC K C ∧ PySem.W.findIn K (.ref C) f = some none ∧ fs.lookup f = some v ∧ Q v H1
theorem pe_xv {X : Cx} {e : Expr} {te : TE} {pos : Pos} {n : Str} (he : PE X e te) (base : attributeBase e n X.env (eval e X.env) = eval e X.env := by rfl) : PE X (.Attribute e n pos) (tXv X.K n te) := ⟨fun pins s σ H Q I h => attr_of base (thn (he.run pins s σ H _ I h) fun u s1 hh => by
  obtain ⟨x, H1, J, rx, a, C, d, fs, v, rfl, ea, ed, T, no, lf, q⟩ := hh
  obtain ⟨m, hm, rel⟩ := exd_at J.hok ed
  obtain ⟨od, at_, look⟩ := lookIn_ns hm
  obtain ⟨y, hy, ry⟩ := RelO.some_of (v := v) (o := m n) (lf ▸ rel n)
  obtain ⟨_, ho⟩ := exo_at J.hok ea
  have rx : u = Value.ref a := rx
  subst rx
  have own : PySem.W.InstAt s1.heap a _ C (some od) := ⟨ho, rfl, rfl, at_⟩
  exact HandSPX.exc_get J.kIn own T.ga T.gg T.exC (PySem.W.findObj_own T.hdC no rfl ((look n).trans (by rw [hy]))) (handed_of ry) ⟨v, H1, J.tok _, ry, q⟩)⟩
end L2

namespace L2
open PySem PySem.Spec PyProof.Rows
/-- an exception that is a value: of the class D -/
def IsX (H : Hp) (a D : Addr) : Prop := H a = some (exo a D none) ∨ ∃ d fs, H a = some (exo a D (some d)) ∧ H d = some (exd d fs)
def rIsX (K : PySem.W.Frag) : List V → Hp → VK → Prop := fun xs H Q => ∃ (a D : Addr) (c : V) (cv : Value) (b : Bool), xs = [.ref a, c] ∧ IsX H a D ∧ ExcC K D ∧ (∀ u, RelV c u → u = cv) ∧ PySem.W.kitOne K (.ref D) cv = some b ∧ Q (.bl b) H
theorem ExcC.kit {K : PySem.W.Frag} {D x : Addr} {ox : Obj} {od : Option Obj} (C : ExcC K D) : PySem.W.KitX K (.ref x) (.ref D) fun h => PySem.W.InstAt h x ox D od := by
  obtain ⟨cd, hc, _⟩ := PySem.W.any_some C.hd
  exact PySem.W.kitx_exc (by rw [hc]; rfl) C.hg C.hk C.hs C.ha C.hn C.ht C.hm
/-- such an exception stands in memory as an instance of its class -/
theorem IsX.inst {P : Program} {w : World} {H : Hp} {h : Heap} {a D : Addr} (k : HOk P w H h) (x : IsX H a D) : ∃ ox od, PySem.W.InstAt h a ox D od := by
  rcases x with x | ⟨d, fs, x, y⟩
  · obtain ⟨_, e⟩ := exo_at k x
    exact ⟨_, none, e, rfl, rfl, trivial⟩
  · obtain ⟨_, e⟩ := exo_at k x
    obtain ⟨m, n, _⟩ := exd_at k y
    obtain ⟨od, z, _⟩ := lookIn_ns n
    exact ⟨_, some od, e, rfl, rfl, z⟩
theorem call_isX {X : Cx} : CallR X (.builtin "isinstance") (rIsX X.K) := fun pins s σ H xs us Q I rel ⟨a, D, c, cv, b, ex, x, C, one, ans, q⟩ => by
  subst ex
  obtain ⟨u, v, rfl, ru, rv⟩ := vals2 rel
  have ru : u = Value.ref a := ru
  have ev := one v rv
  subst ru ev
  obtain ⟨ox, od, J⟩ := x.inst I.hok
  exact PySem.W.kia_one C.kit I.kIn J ans (fun z => nomatch z) fun tt => ⟨.bl b, H, I.kept (t' := tt) fun _ _ z => z, rfl, q⟩
/-- C(), no __init__ of its own -/
def tMk0 (C : Addr) : TE := fun σ H Q => ∀ a, H a = none → Q (.ref a) (upd H a (exo a C none))
theorem pe_mk0 {X : Cx} {C : Addr} {bmB : List Value} {B newId initId : String} {x : Str} {p pos : Pos} (F : ExcBaseFacts B newId initId bmB) (q : PySem.W.excIn X.K C bmB newId = true) (gC : X.mg x = some (.ref C)) (kC : PySem.W.keepIn X.K (.ref C) = true) (hg : Gl X x)
    (dbg : (x == ("__debug__" : Str)) = false := by decide) : PE X (.Call (.Name x p) [] [] pos) (tMk0 C) := ⟨fun pins s σ H Q I h => by
  refine wpAny_Call_Name_kw (ld_glob I hg gC (PySem.W.callWith_K0 I.kIn kC ?_) dbg)
  obtain ⟨bm, N, nm, qn, bs, dct, sn, sub, ab, col, dd, a0, a1, a2, a3, a5, mN, c1, c2, c3, T⟩ := exc_obj I.kIn q
  obtain ⟨hp, gs, dr, t, os⟩ := s
  refine wpAny_call_exc_subT F T c1 c2 c3 (fun h' e m => ?_) (Nat.zero_le sizeLine)
  have free : H e = none := I.hok.gone m.new
  obtain ⟨_, here, _, _⟩ := m.there
  exact ⟨.ref e, _, I.laidN (t' := t) m.keeps m.new free (exo_ok here), rfl, h e free⟩⟩
end L2

namespace LamV
open PySem PySem.Spec PyProof.Rows L2 LamX NdefX
/-- the words of a lambda that captures nothing -/
structure LF where
  qual : Str
  params : Arguments
  body : Expr
  scope : Scope
/-- the object at f is the lambda F with the code object c -/
def LamO (f c : Addr) (F : LF) : HO := .ext fun h => ∃ (pm ctv : Value), h.get? f = some (PySem.W.kla_obj "<lambda>" F.qual F.params F.body F.scope [] pm c ctv)
theorem lamO_at {P : Program} {w : World} {H : Hp} {h : Heap} {f c : Addr} {F : LF} (hok : HOk P w H h) (e : H f = some (LamO f c F)) : ∃ (pm ctv : Value), h.get? f = some (PySem.W.kla_obj "<lambda>" F.qual F.params F.body F.scope [] pm c ctv) := by
  obtain ⟨z, _, _⟩ := hok f _ e
  exact z
def IsLam (H : Hp) (f : Addr) (F : LF) : Prop := ∃ c, H f = some (LamO f c F) ∧ H c = some (CodeO c F.qual)
section
variable {X : Cx} {pins : List (Addr × Obj)} {σ : L2.St} {H : Hp} {s : Shared}
theorem clo_none {cells : List (Str × Addr)} {names : List (Str × NameKind)} (h : ∀ y ∈ names, y.2 ≠ .free) : cloFrom cells names [] = [] := by
  cases e : cloFrom cells names [] with
  | nil => rfl
  | cons p l =>
    have m : (p.1, p.2) ∈ cloFrom cells names [] := e ▸ List.mem_cons_self
    rcases cloFrom_mem m with z | ⟨z, _⟩
    · exact nomatch z
    · exact (h _ z rfl).elim
/-- the abstract heap with one more code object c in the table P -/
noncomputable abbrev more (H : Hp) (P : Addr) (ps : Array Value) (pos : Pos) (c : Addr) (q : Str) : Hp := upd (upd H P (.tbl (ps ++ #[rawInt pos.line, rawInt pos.col, .ref c]))) c (CodeO c q)
theorem more_ext {P c : Addr} {ps : Array Value} {pos : Pos} {q : Str} (hP : H P = some (.tbl ps)) (free : H c = none) : ExtN H (more H P ps pos c q) := by
  intro b o e n
  have ne : b ≠ P := by
    rintro rfl
    exact n ps (Option.some.inj (e.symm.trans hP))
  exact (upd_ne (ne_of_none e free)).trans ((upd_ne ne).trans e)
theorem more_tabs {T : List (Addr × Str)} {P c : Addr} {ps : Array Value} {pos : Pos} {q : Str} (t : Tabs T H) (only : ∀ p ∈ T, p.1 = P → p.2 = q) (hP : H P = some (.tbl ps)) (free : H c = none) : Tabs T (more H P ps pos c q) := by
  have ext := more_ext (pos := pos) (q := q) hP free
  rintro ⟨A, r⟩ m
  obtain ⟨rs, e, ok, tells⟩ := t _ m
  by_cases z : A = P
  · subst z
    cases e.symm.trans hP
    have eq : r = q := only _ m rfl
    subst eq
    have l : (ps ++ #[rawInt pos.line, rawInt pos.col, .ref c]).toList = ps.toList ++ [rawInt pos.line, rawInt pos.col, .ref c] := by rw [Array.toList_append]
    refine ⟨_, (upd_ne (ne_of_none hP free)).trans upd_same, l ▸ TriplesOk_snoc _ _ _ _ ok, fun p' cv y => ?_⟩
    rw [l] at y
    rcases among_app _ ok y with y | y
    · obtain ⟨d, d1, d2⟩ := tells p' cv y
      exact ⟨d, d1, ext _ _ d2 codeO_ne⟩
    · exact ⟨c, y, upd_same⟩
  · refine ⟨rs, (upd_ne (ne_of_none e free)).trans ((upd_ne z).trans e), ok, fun p' cv y => ?_⟩
    obtain ⟨d, d1, d2⟩ := tells p' cv y
    exact ⟨d, d1, ext _ _ d2 codeO_ne⟩
/-- the function object is laid down -/
theorem lam_laid {F : LF} {c : Addr} {tk : Nat} {pm ctv : Value} {H0 : Hp} {T : List (Addr × Str)} (J : Inv X pins σ H s) (ext : ExtN H0 H) (t : Tabs T H) (hc : H c = some (CodeO c F.qual)) :
    ∃ H1, Inv X pins σ H1 { s with heap := s.heap.push (PySem.W.kla_obj "<lambda>" F.qual F.params F.body F.scope [] pm c ctv), toks := tk } ∧ ExtN H0 H1 ∧ Tabs T H1 ∧ IsLam H1 s.heap.objs.size F := by
  have free : H s.heap.objs.size = none := J.hok.fresh (Nat.le_refl _)
  have at_ : (s.heap.push (PySem.W.kla_obj "<lambda>" F.qual F.params F.body F.scope [] pm c ctv)).get? s.heap.objs.size = some _ := Heap.get?_push_size s.heap rfl
  have keep : ∀ b o, H b = some o → upd H s.heap.objs.size (LamO s.heap.objs.size c F) b = some o := fun b o e => (upd_ne (ne_of_none e free)).trans e
  refine ⟨upd H s.heap.objs.size (LamO s.heap.objs.size c F), J.laid (fun b u e => Heap.get?_push_of_some _ e) (Nat.le_refl _) ⟨⟨pm, ctv, at_⟩, ⟨_, at_⟩, ?_⟩, fun b o e n => keep b o (ext b o e n), t.ext keep, c, upd_same, keep _ _ hc⟩
  rintro _ _ ⟨p, u, z⟩ st
  exact ⟨p, u, st _ z⟩
theorem lam_makeV {T : List (Addr × Str)} {c P : Addr} {params : Arguments} {body : Expr} {scope : Scope} {pos : Pos} {E : Value → Shared → Prop} {Q : Value → Shared → Prop} (I : Inv X pins σ H s) (TB : TabB X.base X.mg c P) (own : X.env.code = .ref c)
    (hm : (P, X.env.qual ++ "<lambda>") ∈ T) (only : ∀ p ∈ T, p.1 = P → p.2 = X.env.qual ++ "<lambda>") (t : Tabs T H) (hdef : defaultsOf params X.env = ([], [])) (hfree : ∀ y ∈ scope.names, y.2 ≠ .free)
    (h : ∀ (f : Addr) (H1 : Hp) (s' : Shared), Inv X pins σ H1 s' → ExtN H H1 → Tabs T H1 → H f = none → IsLam H1 f ⟨X.env.qual ++ "<lambda>", params, body, scope⟩ → Q (.ref f) s') :
    wpAny (model X.prog X.w) X.A (eval (.Lambda params body scope pos) X.env) Q E s := by
  obtain ⟨ps, eP, ok, tells⟩ := t _ hm
  have clo : closureFor scope X.env = pure [] := (closure_ok (scope := scope) (env := X.env) fun y m z => (hfree y m z).elim).trans (congrArg pure (clo_none hfree))
  have glob := I.mod.glob.keeps I.bk
  have code := TB.code.keeps I.bk
  have rows : s.heap.get? P = some { cls := .none, data := .fields ps } := I.hok P _ eP
  refine PySem.W.kla_eval hdef ?_
  cases am : codeAmong pos ps.toList with
  | some cv =>
    obtain ⟨d, rfl, d2⟩ := tells pos cv am
    refine PySem.W.kla_makeFunctionHit (mg := X.mg) (c := c) (P := P) (ps := ps) clo I.ok.glob glob own code rows ok am (TB.bm.keeps I.bk) fun ctv h' tk keep _ => ?_
    have J : Inv X pins σ H { s with heap := h', toks := tk } := I.kept keep
    obtain ⟨H1, J1, e1, t1, l1⟩ := lam_laid (F := ⟨X.env.qual ++ "<lambda>", params, body, scope⟩) (tk := tk) (pm := (X.mg "__name__").getD .none) (ctv := ctv) J (ExtN.refl H) t d2
    exact h _ H1 _ J1 e1 t1 (J.hok.fresh (Nat.le_refl _)) l1
  | none =>
    refine PySem.W.kla_makeFunction (mg := X.mg) (c := c) (P := P) (ps := ps) clo I.ok.glob glob own code rows ok am TB.gP (TB.bm.keeps I.bk) fun d ctv h' tk keep ge lt rec grew => ?_
    obtain ⟨d', oc, vs, tok, ed, r1, r2, r3⟩ := rec
    cases ed
    have free : H d = none := I.hok.fresh ge
    have J := inv_table (t' := tk) (more := #[rawInt pos.line, rawInt pos.col, .ref d]) I eP (fun b o n e => keep b o n e) grew ge ⟨oc, vs, tok, r1, r2, r3⟩
    obtain ⟨H1, J1, e1, t1, l1⟩ := lam_laid (F := ⟨X.env.qual ++ "<lambda>", params, body, scope⟩) (tk := tk) (pm := (X.mg "__name__").getD .none) (ctv := ctv) J (more_ext eP free) (more_tabs t only eP free) upd_same
    exact h _ H1 _ J1 e1 t1 (I.hok.fresh (Nat.le_trans ge (Nat.le_of_lt lt))) l1
end
/-- the reading of a lambda as a value -/
def tLamV (T : List (Addr × Str)) (F : LF) : TE := fun σ H Q => Tabs T H ∧ ∀ (f : Addr) (H1 : Hp), ExtN H H1 → Tabs T H1 → H f = none → IsLam H1 f F → Q (.ref f) H1
theorem pe_lamV {X : Cx} {T : List (Addr × Str)} {c P : Addr} {params : Arguments} {body : Expr} {scope : Scope} {pos : Pos} {q : Str} (TB : TabB X.base X.mg c P) (hcode : X.env.code = .ref c) (hq : X.env.qual ++ "<lambda>" = q)
    (hm : (P, q) ∈ T) (hu : ∀ p ∈ T, p.1 = P → p.2 = q) (hdef : defaultsOf params X.env = ([], [])) (hfree : ∀ y ∈ scope.names, y.2 ≠ .free) : PE X (.Lambda params body scope pos) (tLamV T ⟨q, params, body, scope⟩) := by
  subst hq
  refine ⟨fun pins s σ H Q I h => ?_⟩
  obtain ⟨hT, h⟩ := h
  exact lam_makeV I TB hcode hm hu hT hdef hfree fun f H1 s' I1 e1 e2 e3 e4 => ⟨.ref f, H1, I1, rfl, h f H1 e1 e2 e3 e4⟩
/-! ### its promise -/
structure LOk (P : Program) (w : World) (K : PySem.W.Frag) (mg : Str → Option Value) (base : Heap) (CX : CXT) (k : Nat) (F : LF) (sp : Sp) : Prop where
  run : ∀ (f : Addr) (A : Around) (outer : List Env) (s : Shared) (H : Hp) (us : List Value) (vs : List V) (Q : VK) (E : XK), Room k A → Env0 P w K mg base A outer s H → IsLam H f F → Vals vs us → sp vs H Q E →
    codeAny (model P w) A (.call (.ref f) ⟨us, []⟩) (CR CX outer P w H s Q E) s
abbrev nfOf (F : LF) (c : Addr) : NF := ⟨"<lambda>", F.qual, F.params, [], F.scope, [], c⟩
theorem lok_of {CX : CXT} {P : Program} {w : World} {K : PySem.W.Frag} {mg : Str → Option Value} {base : Heap} {ps : List Str} {F : LF} {k : Nat} {sp : Sp} (S : NScope ps ps [] F.scope)
    (bind : ∀ (pm cv ctv : Value) (us : List Value), us.length = ps.length → bindArgs (PySem.W.kla_fn "<lambda>" F.qual F.params F.body F.scope [] pm cv ctv) ⟨us, []⟩ = pure (ps.zip us)) (len : ∀ vs H Q E, sp vs H Q E → vs.length = ps.length)
    (hbody : ∀ (f c : Addr) (A : Around) (outer : List Env) (s : Shared) (H : Hp) (vs : List V) (Q : VK) (E : XK), Room k (A.deeper (envF (nfOf F c) f s.heap.objs.size)) → sp vs H Q E →
      ∃ t, PE (ncx CX P w K mg base ps (nfOf F c) f A outer s H E) F.body t ∧ t (startF ps vs []) H Q) : LOk P w K mg base CX (k + 1) F sp := ⟨fun f A outer s H us vs Q E room e0 ⟨c, isF, isC⟩ rel want => by
  have many := len _ _ _ _ want
  obtain ⟨pm, ctv, obj⟩ := lamO_at e0.hok isF
  obtain ⟨t, pe, rd⟩ := hbody f c A outer s H vs Q E (room.deeper _) want
  have nl : s.heap.NoLimit := e0.mod.nolimit.keeps fun b o z => (e0.bs b o z).1
  have cells : CellsAt (nfOf F c).cl [] [] s.heap H := ⟨rfl, fun _ _ z => (nomatch (show (none : Option Addr) = some _ from z)), fun _ _ _ z => (nomatch (show (none : Option Addr) = some _ from z)), fun _ _ z => by simp at z⟩
  refine PySem.W.kla_callFunE room.depth obj rfl S.co S.gen rfl (codeO_at e0.hok isC) ?_
  rw [bind pm (.ref c) ctv us (rel.length.symm.trans many)]
  refine wpAny_pure (wpAny_newFunctionEnv S.nocell (fun y m => S.par y.1 (List.of_mem_zip m).1) (fun g space but => ⟨nl.fresh _ but, ?_⟩) S.kind)
  have J : Inv (ncx CX P w K mg base ps (nfOf F c) f A outer s H E) [] (startF ps vs []) H { s with heap := g, toks := s.toks + (ps.zip us).length } :=
    inv_startN S room.hd e0 many rel cells space fun b o z => but.extBut b o (Nat.ne_of_lt (Heap.lt_size z)) (Heap.get?_push_of_some _ z)
  show codeAny (model P w) _ (.expr F.body _) _ _
  refine PySem.W.kla_codeExpr (wpAny_mono (pe.run [] _ _ H Q J rd) ?_ fun _ _ z => z)
  rintro v s' ⟨x, H', L, rx, q⟩
  exact ⟨x, H', L.os, L.bare, L.base, L.hok, rx, q⟩⟩
/-! ### a call of a name that holds a lambda -/
def tLCall (i : Nat) (LK : LF → Sp → Prop) (E : XK) (ta : TA) : TE := fun σ H Q => ∃ (f : Addr) (F : LF) (sp : Sp), σ[i]? = some (some (.ref f)) ∧ IsLam H f F ∧ LK F sp ∧ ta σ H fun vs H1 => IsLam H1 f F ∧ sp vs H1 Q E
theorem IsLam.fn {X : Cx} {pins : List (Addr × Obj)} {σ : L2.St} {H : Hp} {s : Shared} {f : Addr} {F : LF} (l : IsLam H f F) (J : Inv X pins σ H s) : PySem.W.FnAt f s.heap := by
  obtain ⟨c, isF, _⟩ := l
  obtain ⟨pm, ctv, z⟩ := lamO_at J.hok isF
  exact ⟨_, _, _, _, z⟩
theorem pe_lcall {X : Cx} {CX : CXT} {k i : Nat} {x : Str} {e : Expr} {es : List Expr} {ta : TA} {p pos : Pos} {LK : LF → Sp → Prop} {E : XK} (hL : ∀ F sp, LK F sp → LOk X.prog X.w X.K X.mg X.base CX k F sp) (hr : Room k X.A) (hx : Passes CX X E)
    (hN : X.N[i]? = some x) (hv : Vis X.env.scope x) (ha : PA X (e :: es) ta) (hd : (x == ("__debug__" : Str)) = false := by decide) (hcd : (x == ("__classdict__" : Str)) = false := by decide)
    (stars : starEach (e :: es) X.env = (false, eval e X.env) :: starEach es X.env := by rfl) (plain : (backTo pos (starEach es X.env)).any (·.1) = false := by rfl) :
    PE X (.Call (.Name x p) (e :: es) [] pos) (tLCall i LK E ta) := ⟨fun pins s σ H Q I ⟨f, F, sp, at_, lam, ok, h⟩ => by
  refine wpAny_Call_Name_kw (thn ((pe_var (pos := p) (i := i) hN hv hd hcd).run pins s σ H (fun v H1 => v = .ref f ∧ H1 = H) I ⟨.ref f, at_, rfl, rfl⟩) ?_)
  rintro u s1 ⟨v, H1, J, ru, ev, eH⟩
  rw [ev] at ru
  rw [eH] at J
  have ru : u = Value.ref f := ru
  subst ru
  refine PySem.W.callWith_F (lam.fn J) (thn (ha.run pos pins s1 σ H _ J h) ?_) stars plain
  rintro us s2 ⟨vs, H2, L, rel, lam2, want⟩
  refine ⟨lam2.fn L, wpAny_call (codeAny_mono ((hL F sp ok).run f X.A X.stack s2 H2 us vs Q E hr L.env0 lam2 rel want) fun r s' z => ?_)⟩
  match r, z with
  | .error y, z => exact hx pins σ H2 s2 y s' L z
  | .ok (.ret y), z => exact L.after z
  | .ok .next, z => exact z.elim
  | .ok .brk, z => exact z.elim
  | .ok .cont, z => exact z.elim⟩
end LamV

namespace L2
open PySem PySem.Spec PyProof.Rows
def keyD : Key → PyData
  | .inl i => .int i
  | .inr x => .str x
/-- the value v, read through H, is the datum d; nesting below n -/
def RdD (H : Hp) : Nat → V → PyData → Prop
  | 0 => fun _ _ => False
  | n + 1 => fun v d => match d with
    | .none => v = .non
    | .bool b => v = .bl b
    | .int i => v = .int i
    | .str x => v = .str x
    | .list xs => ∃ a ys, v = .ref a ∧ H a = some (.lst ys) ∧ Paired (RdD H n) ys xs
    | .tuple xs => ∃ a ys, v = .ref a ∧ H a = some (.tup ys) ∧ Paired (RdD H n) ys xs
    | .dict kvs => ∃ a ks, v = .ref a ∧ H a = some (.dK ks) ∧ Paired (fun (p : Key × V) (q : PyData × PyData) => q.1 = keyD p.1 ∧ RdD H n p.2 q.2) ks kvs
theorem RdD.ext {H H' : Hp} (e : ∀ b o, H b = some o → (∃ xs, o = .lst xs) ∨ (∃ xs, o = .tup xs) ∨ (∃ xs, o = .dK xs) → H' b = some o) : ∀ {n : Nat} {v : V} {d : PyData}, RdD H n v d → RdD H' n v d
  | 0, _, _, h => h.elim
  | n + 1, v, d, h => by
    cases d with
    | none => exact h
    | bool b => exact h
    | int i => exact h
    | str x => exact h
    | list xs =>
      obtain ⟨a, ys, h1, h2, h3⟩ := h
      exact ⟨a, ys, h1, e _ _ h2 (.inl ⟨_, rfl⟩), Paired.mapP h3 fun _ _ z => RdD.ext e z⟩
    | tuple xs =>
      obtain ⟨a, ys, h1, h2, h3⟩ := h
      exact ⟨a, ys, h1, e _ _ h2 (.inr (.inl ⟨_, rfl⟩)), Paired.mapP h3 fun _ _ z => RdD.ext e z⟩
    | dict kvs =>
      obtain ⟨a, ys, h1, h2, h3⟩ := h
      exact ⟨a, ys, h1, e _ _ h2 (.inr (.inr ⟨_, rfl⟩)), Paired.mapP h3 fun _ _ z => ⟨z.1, RdD.ext e z.2⟩⟩
section
variable {P : Program} {w : World} {H : Hp} {h : Heap}
theorem reads_all {F : V → PyData → Prop} (ih : ∀ v d u, F v d → RelV v u → ∃ as, Reads h u d as ∧ sysModules ∉ as) : ∀ {ys : List V} {xs : List PyData} {us : List Value}, Paired F ys xs → Vals ys us → ∃ as, ReadsAll h us xs as ∧ sysModules ∉ as
  | _, _, _, .nil, .nil => ⟨[], .nil, by simp⟩
  | _, _, _, .cons f t, .cons r q => by
    obtain ⟨a1, r1, n1⟩ := ih _ _ _ f r
    obtain ⟨a2, r2, n2⟩ := reads_all ih t q
    exact ⟨a1 ++ a2, .cons r1 r2, fun z => (List.mem_append.mp z).elim n1 n2⟩
theorem reads_keys {F : V → PyData → Prop} : ∀ {ks : List (Key × V)} {vs : List (Key × Value)} {es : List DictEntry} {kvs : List (PyData × PyData)}, KV ks vs → Pairs (mixKind P w) es vs → Paired (fun (p : Key × V) (q : PyData × PyData) => q.1 = keyD p.1 ∧ F p.2 q.2) ks kvs →
    ReadsAll h (es.map (·.key)) (kvs.map (·.1)) [] ∧ Vals (ks.map (·.2)) (es.map (·.val)) ∧ Paired F (ks.map (·.2)) (kvs.map (·.2))
  | _, _, _, _, .nil, .nil, .nil => ⟨.nil, .nil, .nil⟩
  | _, _, _, _, .cons (a := p) (b := q) r t, .cons (e := e) h1 h2 t2, .cons (b := z) f t3 => by
    obtain ⟨i1, i2, i3⟩ := reads_keys t t2 t3
    obtain ⟨r1, r2⟩ := r
    obtain ⟨f1, f2⟩ := f
    have hk : Reads h e.key z.1 [] := by
      rw [f1, r1]
      have h1' : keyIs q.1 e.key = true := h1
      rcases keyIs_shape h1' with ⟨i, t, e1, e2⟩ | ⟨x, t, e1, e2⟩
      · rw [e1, e2]; exact .int i t
      · rw [e1, e2]; exact .str x t
    refine ⟨.cons (as := []) (bs := []) hk i1, .cons ?_ i2, .cons f2 i3⟩
    show RelV p.2 e.val
    rw [h2]; exact r2
theorem rdD_reads (hok : HOk P w H h) (hs : H sysModules = none) : ∀ (n : Nat) (v : V) (d : PyData) (u : Value), RdD H n v d → RelV v u → ∃ as, Reads h u d as ∧ sysModules ∉ as
  | 0, _, _, _, r, _ => r.elim
  | n + 1, v, d, u, r, rv => by
    have ne : ∀ {a : Addr} {o : HO}, H a = some o → sysModules ≠ a := fun {a o} e z => by
      rw [← z, hs] at e
      cases e
    cases d with
    | none =>
      have r' : v = .non := r
      subst r'
      obtain rfl : u = Value.none := rv
      exact ⟨[], .none, by simp⟩
    | bool b =>
      have r' : v = .bl b := r
      subst r'
      obtain rfl : u = Value.bool b := rv
      exact ⟨[], .bool b, by simp⟩
    | int i =>
      have r' : v = .int i := r
      subst r'
      obtain ⟨t, rfl⟩ := rv
      exact ⟨[], .int i t, by simp⟩
    | str x =>
      have r' : v = .str x := r
      subst r'
      obtain ⟨t, rfl⟩ := rv
      exact ⟨[], .str x t, by simp⟩
    | list xs =>
      obtain ⟨a, ys, rfl, h2, h3⟩ := r
      obtain rfl : u = Value.ref a := rv
      obtain ⟨_, its, m, rr, e⟩ := hok a _ h2
      obtain ⟨as, q1, q2⟩ := reads_all (fun v d u => rdD_reads hok hs n v d u) h3 rr
      exact ⟨a :: as, .list e rfl rfl (by simpa using q1), fun z => (List.mem_cons.mp z).elim (ne h2) q2⟩
    | tuple xs =>
      obtain ⟨a, ys, rfl, h2, h3⟩ := r
      obtain rfl : u = Value.ref a := rv
      obtain ⟨_, its, rr, o, e, ec, m, ed⟩ := hok a _ h2
      obtain ⟨as, q1, q2⟩ := reads_all (fun v d u => rdD_reads hok hs n v d u) h3 rr
      exact ⟨as, .tuple e ec ed (by simpa using q1), q2⟩
    | dict kvs =>
      obtain ⟨a, ks, rfl, h2, h3⟩ := r
      obtain rfl : u = Value.ref a := rv
      obtain ⟨_, _, vs, rr, o, es, ep, e, ex, ed, _, pr, _⟩ := hok a _ h2
      obtain ⟨k1, k2, k3⟩ := reads_keys (h := h) rr pr h3
      obtain ⟨as, q1, q2⟩ := reads_all (fun v d u => rdD_reads hok hs n v d u) k3 k2
      exact ⟨a :: [] ++ as, .dict e ex.1 ed k1 q1, fun z => (List.mem_cons.mp z).elim (ne h2) q2⟩
end
/-- repr of a list, tuple, dict -/
def rRepr : List V → Hp → VK → Prop := fun xs H Q => ∃ (a : Addr) (n : Nat) (d : PyData), xs = [.ref a] ∧ RdD H n (.ref a) d ∧ d.showable = true ∧ d.depth ≤ 40 ∧ d.shown.length ≤ sizeLine ∧ Q (.str d.shown) H
theorem call_reprD {X : Cx} (hG : X.A.guards = some []) (hu : X.A.units + 64 < cLine) (hS : (X.K.lookup sysModules).isSome = true) : CallR X (.builtin "repr") rRepr := by
  intro pins s σ H xs us Q I r h
  obtain ⟨a, n, d, rfl, hd, hs, hdp, hsz, q⟩ := h
  obtain ⟨u1, rfl, r1⟩ := vals1 r
  obtain rfl : u1 = Value.ref a := r1
  obtain ⟨o, ho⟩ := Option.isSome_iff_exists.mp hS
  have hn : H sysModules = none := (I.bs _ _ (I.ok.mod.kin _ _ ho)).2
  obtain ⟨as, hr, hm⟩ := rdD_reads I.hok hn n (.ref a) d (.ref a) hd rfl
  exact repr_of_reads' hr hs (fun _ => hm) hG (by omega) (fun _ _ z => z) (fun h' u tk hk => ⟨.str d.shown, H, I.kept (t' := tk) hk, ⟨u, rfl⟩, q⟩) hsz
end L2

/-! the law's call, asked at the caller's own surroundings: what is tracked at its begin, and what its end leaves -/
namespace LamX
open PySem PySem.Spec PyProof.Rows L2
abbrev noRows : Obj := { cls := .none, data := .fields #[] }
abbrev scrO (us : List Value) : Obj := { cls := .type "list", data := .seq us.toArray }
/-- the begin: the script at a; ts: code objects with their tables, which are empty -/
structure Beg (K : PySem.W.Frag) (mg mb : Str → Option Value) (ts : List (Addr × Addr)) (s : Shared) (a : Addr) (us : List Value) (ns : List Int) : Prop where
  frag : K.In s.heap
  glob : s.heap.Ns mainGlobals mg
  blt : s.heap.Ns builtinsNs mb
  bltW : ∀ x : Str, x ≠ "__name__" → mb x = bootBuiltins x
  lim : s.heap.NoLimit
  gens : s.gens = #[]
  rows : ∀ p, p ∈ ts → s.heap.get? p.2 = some noRows
  out : ∀ p, p ∈ ts → K.lookup p.2 = none
  code : ∀ p, p ∈ ts → PySem.W.CodeHd s.heap p.1 p.2
  bmod : ∃ (m : Addr) (o : Obj), mg "__builtins__" = some (.ref m) ∧ m ≠ builtinsNs ∧ s.heap.get? m = some o ∧ o.cls = .type "module" ∧ o.dict = some builtinsNs ∧ o.data = .plain
  scr : s.heap.get? a = some (scrO us)
  nums : IntsAre us ns
  few : ns.length ≤ sizeLine
/-- what is tracked at the begin -/
noncomputable def begH (K : PySem.W.Frag) (ts : List (Addr × Addr)) (a : Addr) (us : List Value) (ns : List Int) : Hp := fun b =>
  match decide (b ∈ ts.map Prod.snd), decide (b = a), K.lookup a with
  | true, _, _ => some (.tbl #[])
  | false, true, none => some (.frz (scrO us) (.lst (ns.map V.int)))
  | false, true, some _ => none
  | false, false, _ => none
section
variable {K : PySem.W.Frag} {mg mb : Str → Option Value} {ts : List (Addr × Addr)} {s : Shared} {a : Addr} {us : List Value} {ns : List Int}
theorem begH_ways (b : Addr) : (b ∈ ts.map Prod.snd ∧ begH K ts a us ns b = some (.tbl #[])) ∨ (b ∉ ts.map Prod.snd ∧ b = a ∧ K.lookup a = none ∧ begH K ts a us ns b = some (.frz (scrO us) (.lst (ns.map V.int)))) ∨
    (b ∉ ts.map Prod.snd ∧ begH K ts a us ns b = none ∧ (b = a → K.lookup a ≠ none)) := by
  unfold begH
  by_cases m : b ∈ ts.map Prod.snd
  · exact .inl ⟨m, by rw [decide_eq_true m]⟩
  · rw [decide_eq_false m]
    by_cases q : b = a
    · rw [decide_eq_true q]
      cases k : K.lookup a with
      | none => exact .inr (.inl ⟨m, q, rfl, rfl⟩)
      | some o => exact .inr (.inr ⟨m, rfl, fun _ z => by cases z⟩)
    · rw [decide_eq_false q]
      exact .inr (.inr ⟨m, rfl, fun z => absurd z q⟩)
theorem snd_mem {p : Addr × Addr} (h : p ∈ ts) : p.2 ∈ ts.map Prod.snd := List.mem_map_of_mem h
theorem begH_tab {p : Addr × Addr} (h : p ∈ ts) : begH K ts a us ns p.2 = some (.tbl #[]) := by
  unfold begH
  rw [decide_eq_true (snd_mem h)]
namespace Beg
variable (B : Beg K mg mb ts s a us ns)
include B
theorem at_tab {b : Addr} (h : b ∈ ts.map Prod.snd) : s.heap.get? b = some noRows := by
  obtain ⟨p, m, rfl⟩ := List.mem_map.mp h
  exact B.rows p m
theorem no_tab : a ∉ ts.map Prod.snd := fun z => by
  have q := (B.at_tab z).symm.trans B.scr
  cases q
/-- neither a list nor a table without rows: it is not tracked -/
theorem loose {b : Addr} {o : Obj} (e : s.heap.get? b = some o) (h : match o.data with
    | .seq _ _ => False
    | .fields vs => vs ≠ #[]
    | _ => True) : begH K ts a us ns b = none := by
  rcases begH_ways (K := K) (ts := ts) (a := a) (us := us) (ns := ns) b with ⟨m, _⟩ | ⟨_, q, _, _⟩ | ⟨_, z, _⟩
  · cases (B.at_tab m).symm.trans e
    exact absurd rfl h
  · subst q
    cases B.scr.symm.trans e
    exact h.elim
  · exact z
noncomputable abbrev base (_ : Beg K mg mb ts s a us ns) : Heap := hidT s.heap (begH K ts a us ns)
theorem seen {b : Addr} {o : Obj} (e : s.heap.get? b = some o) (h : match o.data with
    | .seq _ _ => False
    | .fields vs => vs ≠ #[]
    | _ => True) : B.base.get? b = some o := hidT_get e (B.loose e h)
theorem space {b : Addr} {m : Str → Option Value} (z : s.heap.Ns b m) : B.base.Ns b m := by
  obtain ⟨o, es, ep, e, d, r⟩ := z
  exact ⟨o, es, ep, B.seen e (by rw [d]; trivial), d, r⟩
theorem kin : K.In B.base := fun b o e => by
  refine hidT_get (B.frag b o e) ?_
  rcases begH_ways (K := K) (ts := ts) (a := a) (us := us) (ns := ns) b with ⟨m, _⟩ | ⟨_, q, k, _⟩ | ⟨_, z, _⟩
  · obtain ⟨p, hp, rfl⟩ := List.mem_map.mp m
    rw [B.out p hp] at e
    cases e
  · rw [q, k] at e
    cases e
  · exact z
theorem module_ : L2.Mod K mg B.base where
  kin := B.kin
  glob := B.space B.glob
  blt := ⟨mb, B.space B.blt, B.bltW⟩
  nolimit := by
    obtain ⟨mc, z, q⟩ := B.lim
    exact ⟨mc, B.space z, q⟩
theorem table {p : Addr × Addr} (hp : p ∈ ts) : TabB B.base mg p.1 p.2 where
  code := by
    obtain ⟨o, vs, c1, c2, c3, c4, c5, c6, c7, e, d1, d2, d3, d4⟩ := B.code p hp
    refine ⟨o, vs, c1, c2, c3, c4, c5, c6, c7, B.seen e ?_, d1, d2, d3, d4⟩
    rw [d2]
    intro z
    rw [z] at d3
    cases d3
  bm := by
    obtain ⟨m, o, e1, e2, e3, e4, e5, e6⟩ := B.bmod
    refine ⟨m, o, e1, e2, fun z => ?_, fun z => ?_, B.seen e3 (by rw [e6]; trivial), e4, e5, e6⟩
    · obtain ⟨u, es, ep, g1, g2, _⟩ := B.glob
      rw [z, g1] at e3
      rw [Option.some.inj e3, e6] at g2
      cases g2
    · rw [z, B.rows p hp] at e3
      rw [← Option.some.inj e3] at e6
      cases e6
  gP := fun z => by
    obtain ⟨u, es, ep, g1, g2, _⟩ := B.glob
    rw [z, B.rows p hp] at g1
    rw [← Option.some.inj g1] at g2
    cases g2
theorem fine {P : Program} {w : World} : HOk P w (begH K ts a us ns) s.heap := fun b o e => by
  rcases begH_ways (K := K) (ts := ts) (a := a) (us := us) (ns := ns) b with ⟨m, q⟩ | ⟨_, q1, _, q⟩ | ⟨_, q, _⟩
  · cases q.symm.trans e
    exact B.at_tab m
  · cases q.symm.trans e
    subst q1
    exact ⟨B.scr, by rw [List.length_map]; exact B.few, us, _, vals_ints B.nums, B.scr⟩
  · cases q.symm.trans e
theorem script : SqL K (begH K ts a us ns) a (ns.map V.int) := by
  rcases begH_ways (K := K) (ts := ts) (a := a) (us := us) (ns := ns) a with ⟨m, _⟩ | ⟨_, _, _, q⟩ | ⟨_, _, q⟩
  · exact absurd m B.no_tab
  · exact .inl (.inr ⟨_, q⟩)
  · cases k : K.lookup a with
    | none => exact absurd k (q rfl)
    | some o =>
      cases (B.frag a o k).symm.trans B.scr
      exact .inr ⟨_, us.toArray, _, k, rfl, rfl, rfl, by rw [List.size_toArray, B.nums.length]; exact B.few, vals_ints B.nums⟩
theorem env {P : Program} {w : World} : Env0 P w K mg B.base callerA [] s (begH K ts a us ns) where
  frames := rfl
  mod := B.module_
  bs := fun _ _ e => of_hidT e
  bsz := Nat.le_of_eq (hidT_size s.heap _)
  funs := trivial
  frf := fun b m => nomatch m
  hok := B.fine
  bare := .of_eq B.gens
/-- behind the call -/
theorem left {P : Program} {w : World} {H : Hp} {s' : Shared} (u : Un [] [] (begH K ts a us ns) H s.heap s'.heap) (k : HOk P w H s'.heap) : OldK s.heap s'.heap := by
  have tb : ∀ {b : Addr}, b ∈ ts.map Prod.snd → ∃ vs : Array Value, s'.heap.get? b = some { cls := .none, data := .fields vs } := fun {b} m => by
    obtain ⟨p, hp, rfl⟩ := List.mem_map.mp m
    obtain ⟨vs, q⟩ := u.tbls p.2 #[] (begH_tab hp)
    exact ⟨_, k p.2 _ q⟩
  have nt : ∀ {b : Addr} {o : Obj}, b ∉ ts.map Prod.snd → s.heap.get? b = some o → s'.heap.get? b = some o := fun {b o} n e => by
    rcases begH_ways (K := K) (ts := ts) (a := a) (us := us) (ns := ns) b with ⟨m, _⟩ | ⟨_, q1, _, q⟩ | ⟨_, q, _⟩
    · exact absurd m n
    · subst q1
      cases B.scr.symm.trans e
      exact (k b _ (u.frzs b _ _ q)).1
    · exact u.keep b o e q List.not_mem_nil List.not_mem_nil
  constructor
  · intro b o e
    by_cases m : b ∈ ts.map Prod.snd
    · obtain ⟨vs, q⟩ := tb m
      obtain ⟨p, hp, rfl⟩ := List.mem_map.mp m
      cases (B.rows p hp).symm.trans e
      exact .inr (.inl ⟨((B.code p hp).tab (B.rows p hp)).isCodeTable, rfl, #[], vs, rfl, by rw [Array.empty_append]; exact q⟩)
    · exact .inl (nt m e)
  · intro b o e
    by_cases m : b ∈ ts.map Prod.snd
    · obtain ⟨vs, q⟩ := tb m
      exact ⟨_, q⟩
    · exact ⟨o, nt m e⟩
end Beg
end
/-- what is asked of a law: its call at the caller's own surroundings, whatever is tracked besides the script and the tables -/
def AskG (l : PySem.W.OpenLaw) (CX : CXT) (n : Nat) (w : World) (mg : Str → Option Value) (fa : Addr) (K : PySem.W.Frag) (ts : List (Addr × Addr)) : Prop := ∀ b : Heap, K.In b → b.Ns mainGlobals mg → (∀ p, p ∈ ts → TabB b mg p.1 p.2) →
  ∀ (s : Shared) (H : Hp) (a : Addr) (ns : List Int), ns.length ≤ n → (∀ p, p ∈ ts → H p.2 = some (.tbl #[])) → SqL K H a (ns.map V.int) → Env0 l.prog w K mg b callerA [] s H →
    codeAny (model l.prog w) callerA (.call (.ref fa) ⟨[.ref a], []⟩) (CR CX [] l.prog w H s (fun v _ => v = .bl true) fun _ _ _ => False) s
theorem walk_ofG {l : PySem.W.OpenLaw} {n : Nat} {q : Program} {loose : List Str} {XP : (Str → Option Value) → Heap → Prop} {YP : World → Heap → Prop} {d : DefRec} {CX : CXT} (h1 : l.most = some n) (h2 : n ≤ sizeLine) (h3 : d.params.defaults = [])
    (F : ∀ (w : World) (mg : Str → Option Value) (fa : Addr) (h : Heap), YP w h → h.Ns mainGlobals mg → mg d.name = some (.ref fa) → ∃ (K : PySem.W.Frag) (ts : List (Addr × Addr)),
      K.In h ∧ (∀ p, p ∈ ts → h.get? p.2 = some noRows) ∧ (∀ p, p ∈ ts → K.lookup p.2 = none) ∧ (∀ p, p ∈ ts → PySem.W.CodeHd h p.1 p.2) ∧ AskG l CX n w mg fa K ts)
    (h4 : ∀ (H : Hp) (s : Shared) (e : Value) (s' : Shared), CX [] H s (fun _ _ _ => False) e s' → False) : PySem.W.WalkO q loose XP YP l.row.toRowW d [] fun f vs => PySem.call f vs := by
  refine Att.attach_callB h1 h3 fun w _ s mg mb fa _ _ _ _ a us ns G Y _ _ _ m scr nums few _ gens => ?_
  obtain ⟨K, ts, k1, k2, k3, k4, ask⟩ := F w mg fa _ Y G.T.g m
  have B : Beg K mg mb ts s a us ns := ⟨k1, G.T.g, G.T.b, G.T.builtins, G.T.nolimit, gens, k2, k3, k4, G.T.bmain, scr, nums, Nat.le_trans few h2⟩
  refine codeAny_mono (ask B.base B.kin (B.space B.glob) (fun p hp => B.table hp) s _ a ns few (fun p hp => begH_tab hp) B.script B.env) fun r s' z => ?_
  match r, z with
  | .error e, z => exact (h4 _ _ e s' z).elim
  | .ok (.ret v), z =>
    obtain ⟨x, H, o1, o2, u, k, rx, ex⟩ := z
    have ex : x = .bl true := ex
    subst ex
    have rx : v = Value.bool true := rx
    subst rx
    exact ⟨rfl, B.left u k, o1, o2⟩
  | .ok .next, z => exact z.elim
  | .ok .brk, z => exact z.elim
  | .ok .cont, z => exact z.elim
end LamX

namespace XK0
open PySem PySem.Spec PyProof.Rows L2
theorem upd3 {H : Hp} {a d : Addr} {o1 o2 o3 : HO} (h : d ≠ a) : upd (upd (upd H a o1) d o2) a o3 = upd (upd H d o2) a o3 := by
  funext b
  by_cases e : b = a
  · rw [e, upd_same, upd_same]
  · rw [upd_ne e, upd_ne e]
    by_cases e2 : b = d
    · rw [e2, upd_same, upd_same]
    · rw [upd_ne e2, upd_ne e2, upd_ne e]
/-- the promise of an __init__ that keeps one thing -/
def spI1 (K : PySem.W.Frag) (f : Str) : Sp := fun vs H Q _ => ∃ (a C : Addr) (y : V), vs = [.ref a, y] ∧ OexC K C ∧ PySem.W.findIn K (.ref C) f = some none ∧ H a = some (exo a C none) ∧ ∀ d, H d = none → d ≠ a → Q .non (upd (upd H d (exd d [(f, y)])) a (exo a C (some d)))
def spI2 (K : PySem.W.Frag) (f g : Str) : Sp := fun vs H Q _ => ∃ (a C : Addr) (y z : V), vs = [.ref a, y, z] ∧ OexC K C ∧ PySem.W.findIn K (.ref C) f = some none ∧ PySem.W.findIn K (.ref C) g = some none ∧ H a = some (exo a C none) ∧
  ∀ d, H d = none → d ≠ a → Q .non (upd (upd H d (exd d [(g, z), (f, y)])) a (exo a C (some d)))
section
variable {P : Program} {w : World} {K : PySem.W.Frag} {mg : Str → Option Value} {base : Heap} {fI : Addr} {fd : FuncData} {params : Arguments} {body : List Stmt} {scope : Scope} {qual f g : Str} {p1 p2 p3 p4 q1 q2 q3 q4 : Pos}
theorem vis_par {N P : List Str} {sc : Scope} (S : FnScope N P sc) {x : Str} (h : x ∈ P) : Vis sc x := (S.par x h).elim (fun z => .inl z) (fun z => .inr (.inl z))
theorem ok_init1 (F : FunD K "__init__" qual params [.Assign [.Attribute (.Name "self" p1) f p2] (.Name f p3) p4] scope [] [] fI fd) (S : FnScope ["self", f] ["self", f] scope) (hd : (f == ("__debug__" : Str)) = false) (hc : (f == ("__classdict__" : Str)) = false) :
    FnOk P w K mg base CX0 1 fI fd ["self", f] (spI1 K f) := by
  refine F.ok S (fun vs H Q E h => ?_) (fun cdv A outer s H vs Q E hr h => ⟨_, PSs.nox (pss_one (ps_ost (pe_var (i := 0) rfl (vis_par S List.mem_cons_self)) (pe_var (i := 1) rfl (vis_par S (List.mem_cons_of_mem _ List.mem_cons_self)) hd hc))), ?_⟩)
  · obtain ⟨a, C, y, rfl, _⟩ := h
    rfl
  · obtain ⟨a, C, y, rfl, T, hno, ha, q⟩ := h
    exact ⟨y, rfl, .ref a, rfl, a, C, rfl, T, hno, .inl ⟨ha, fun dx n ne => q dx n ne⟩⟩
theorem ok_init2 (F : FunD K "__init__" qual params [.Assign [.Attribute (.Name "self" p1) f p2] (.Name f p3) p4, .Assign [.Attribute (.Name "self" q1) g q2] (.Name g q3) q4] scope [] [] fI fd) (S : FnScope ["self", f, g] ["self", f, g] scope)
    (hd : (f == ("__debug__" : Str)) = false) (hc : (f == ("__classdict__" : Str)) = false) (hd2 : (g == ("__debug__" : Str)) = false) (hc2 : (g == ("__classdict__" : Str)) = false) :
    FnOk P w K mg base CX0 1 fI fd ["self", f, g] (spI2 K f g) := by
  refine F.ok S (fun vs H Q E h => ?_) (fun cdv A outer s H vs Q E hr h => ⟨_, PSs.nox (pss_cons (ps_ost (pe_var (i := 0) rfl (vis_par S List.mem_cons_self)) (pe_var (i := 1) rfl (vis_par S (List.mem_cons_of_mem _ List.mem_cons_self)) hd hc))
    (pss_one (ps_ost (pe_var (i := 0) rfl (vis_par S List.mem_cons_self)) (pe_var (i := 2) rfl (vis_par S (List.mem_cons_of_mem _ (List.mem_cons_of_mem _ List.mem_cons_self))) hd2 hc2)))), ?_⟩)
  · obtain ⟨a, C, y, z, rfl, _⟩ := h
    rfl
  · obtain ⟨a, C, y, z, rfl, T, hno, hno2, ha, q⟩ := h
    refine ⟨y, rfl, .ref a, rfl, a, C, rfl, T, hno, .inl ⟨ha, fun dx n ne => ?_⟩⟩
    refine ⟨z, rfl, .ref a, rfl, a, C, rfl, T, hno2, .inr ⟨dx, [(f, y)], upd_same, ?_, by show 1 ≤ 900; omega, ?_⟩⟩
    · rw [upd_ne ne, upd_same]
    · have e : upd (upd (upd H dx (exd dx [(f, y)])) a (exo a C (some dx))) dx (exd dx [(g, z), (f, y)]) = upd (upd H dx (exd dx [(g, z), (f, y)])) a (exo a C (some dx)) := by
        funext b
        by_cases e1 : b = dx
        · rw [e1, upd_same, upd_ne ne, upd_same]
        · rw [upd_ne e1]
          by_cases e2 : b = a
          · rw [e2, upd_same, upd_same]
          · rw [upd_ne e2, upd_ne e1, upd_ne e2, upd_ne e1]
      rw [e]
      exact q dx n ne
end
theorem kbn_of {K : PySem.W.Frag} {x qual : Str} {params : Arguments} {body : List Stmt} {scope : Scope} {f : Addr} {fd : FuncData} {ps : List Str} (F : FunD K x qual params body scope [] [] f fd) (n : Nat) (ks : List Str) (g : {α : Type} → List α → List α → List α)
    (hrel : ∀ {vs zs : List V} {us ws : List Value}, Vals vs us → Vals zs ws → Vals (g vs zs) (g us ws))
    (h : ∀ (kV doc pm : Value) (an : Option Addr) (cdv ct : Value) (us ws : List Value), us.length = n → ws.length = ks.length → bindArgs (PySem.W.fnOf x qual params body scope .none kV doc pm an cdv ct) ⟨us, ks.zip ws⟩ = pure (ps.zip (g us ws))) : KBn K fd ps n ks g g := by
  obtain ⟨oc, od, dV, kV, doc, pm, an, cdv, ct, osl, rfl, lk, hcd, hD, hK⟩ := F.ex
  rcases hD with ⟨_, rfl⟩ | ⟨e, _⟩
  · exact ⟨fun s us ws X l1 l2 => .of_eq (h kV doc pm an cdv ct us ws l1 l2), fun r1 r2 => hrel r1 r2⟩
  · exact absurd rfl e
/-! ### a class of one field, of two -/
structure Ec1 (K : PySem.W.Frag) (mg : Str → Option Value) (x f : Str) (C : Addr) : Prop where
  ox : OexC K C
  gl : mg x = some (.ref C)
  no : PySem.W.findIn K (.ref C) f = some none
  ini : ∃ (fI : Addr) (fd : FuncData), PySem.W.findIn K (.ref C) "__init__" = some (some (.ref fI)) ∧ PySem.W.typeIn K (.ref fI) = some (.type "function") ∧
    (∀ (P : Program) (w : World) (base : Heap), FnOk P w K mg base CX0 1 fI fd ["self", f] (spI1 K f)) ∧ KBn K fd ["self", f] 2 [] (fun us ws => us) (fun us ws => us) ∧ KBn K fd ["self", f] 1 [f] (fun us ws => us ++ ws) (fun us ws => us ++ ws)
structure Ec2 (K : PySem.W.Frag) (mg : Str → Option Value) (x f g : Str) (C : Addr) : Prop where
  ox : OexC K C
  gl : mg x = some (.ref C)
  no : PySem.W.findIn K (.ref C) f = some none
  no2 : PySem.W.findIn K (.ref C) g = some none
  ini : ∃ (fI : Addr) (fd : FuncData), PySem.W.findIn K (.ref C) "__init__" = some (some (.ref fI)) ∧ PySem.W.typeIn K (.ref fI) = some (.type "function") ∧
    (∀ (P : Program) (w : World) (base : Heap), FnOk P w K mg base CX0 1 fI fd ["self", f, g] (spI2 K f g)) ∧ KBn K fd ["self", f, g] 3 [] (fun us ws => us) (fun us ws => us) ∧ KBn K fd ["self", f, g] 1 [g, f] (fun us ws => us ++ ws.reverse) (fun us ws => us ++ ws.reverse)
/-- the reading of a new error -/
def tNew (C : Addr) (fs : List (Str × V)) (Q : VK) (H : Hp) : Prop := ∀ a d, H a = none → H d = none → d ≠ a → Q (.ref a) (upd (upd H d (exd d fs)) a (exo a C (some d)))
section
variable {X : Cx} {x f g : Str} {C : Addr} {e1 e2 : Expr} {t1 t2 : TE} {p pos kp1 kp2 : Pos}
theorem fresh_of {H : Hp} {a d : Addr} {o : HO} (h : upd H a o d = none) : H d = none ∧ d ≠ a := by
  by_cases e : d = a
  · rw [e, upd_same] at h
    cases h
  · rw [upd_ne e] at h
    exact ⟨h, e⟩
def Mo (t : TE) : Prop := ∀ (σ : L2.St) (H : Hp) (Q Q' : VK), (∀ v H', Q v H' → Q' v H') → t σ H Q → t σ H Q'
theorem mo_var (i : Nat) : Mo (tVar i) := fun σ H Q Q' k ⟨v, e, h⟩ => ⟨v, e, k _ _ h⟩
theorem new1_ok {K : PySem.W.Frag} {mg : Str → Option Value} (E : Ec1 K mg x f C) {Q : VK} {H : Hp} {y : V} (h : tNew C [(f, y)] Q H) {a : Addr} (ha : H a = none) : spI1 K f [.ref a, y] (upd H a (exo a C none)) (fun v H2 => v = .non ∧ Q (.ref a) H2) (fun _ _ _ => False) := by
  refine ⟨a, C, y, rfl, E.ox, E.no, upd_same, fun d hd hne => ⟨rfl, ?_⟩⟩
  rw [upd3 hne]
  exact h a d ha (fresh_of hd).1 hne
theorem new2_ok {K : PySem.W.Frag} {mg : Str → Option Value} (E : Ec2 K mg x f g C) {Q : VK} {H : Hp} {y z : V} (h : tNew C [(g, z), (f, y)] Q H) {a : Addr} (ha : H a = none) : spI2 K f g [.ref a, y, z] (upd H a (exo a C none)) (fun v H2 => v = .non ∧ Q (.ref a) H2) (fun _ _ _ => False) := by
  refine ⟨a, C, y, z, rfl, E.ox, E.no, E.no2, upd_same, fun d hd hne => ⟨rfl, ?_⟩⟩
  rw [upd3 hne]
  exact h a d ha (fresh_of hd).1 hne
theorem pe_new1 (E : Ec1 X.K X.mg x f C) (hr : Room 2 X.A) (hg : Gl X x) (h1 : PE X e1 t1) (m1 : Mo t1) (hdb : (x == ("__debug__" : Str)) = false := by decide)
    (he : starEach [e1] X.env = (false, eval e1 X.env) :: starEach [] X.env := by rfl) : PE X (.Call (.Name x p) [e1] [] pos) (fun σ H Q => t1 σ H fun y H1 => tNew C [(f, y)] Q H1) := by
  obtain ⟨fI, fd, i1, i2, i3, i4, _⟩ := E.ini
  have q := pe_mkX (p := p) (pos := pos) (X := X) E.ox i1 i2 (i3 X.prog X.w X.base) hr i4 pass0 hg E.gl (pa_cons h1 pa_nil he) hdb he rfl
  refine ⟨fun pins s σ H Q I h => q.run pins s σ H Q I (m1 _ _ _ _ (fun y H1 h => ?_) h)⟩
  exact ⟨rfl, by omega, rfl, fun a ha => new1_ok E h ha⟩
theorem pe_new1K (E : Ec1 X.K X.mg x f C) (hr : Room 2 X.A) (hg : Gl X x) (h1 : PE X e1 t1) (m1 : Mo t1) (hdb : (x == ("__debug__" : Str)) = false := by decide)
    (hall : (backToKw pos (keywordEach [⟨some f, e1, kp1⟩] X.env)).all (·.1.isSome) = true := by rfl) (hks : (backToKw pos (keywordEach [⟨some f, e1, kp1⟩] X.env)).filterMap (·.1) = [f] := by rfl)
    (hpl : ((backTo pos (starEach [] X.env)).any (·.1) || (backToKw pos (keywordEach [⟨some f, e1, kp1⟩] X.env)).any (·.1.isNone)) = false := by rfl) :
    PE X (.Call (.Name x p) [] [⟨some f, e1, kp1⟩] pos) (fun σ H Q => t1 σ H fun y H1 => tNew C [(f, y)] Q H1) := by
  obtain ⟨fI, fd, i1, i2, i3, _, i5⟩ := E.ini
  have q := pe_mkXK (p := p) (pos := pos) (X := X) E.ox i1 i2 (i3 X.prog X.w X.base) hr i5 pass0 hg E.gl (pk_cons (nm := some f) (kpos := kp1) h1 pk_nil) hall hks hdb hpl
  refine ⟨fun pins s σ H Q I h => q.run pins s σ H Q I (m1 _ _ _ _ (fun y H1 h => ?_) h)⟩
  exact ⟨rfl, by omega, rfl, fun a ha => new1_ok E h ha⟩
theorem pe_new2 (E : Ec2 X.K X.mg x f g C) (hr : Room 2 X.A) (hg : Gl X x) (h1 : PE X e1 t1) (m1 : Mo t1) (h2 : PE X e2 t2) (m2 : Mo t2) (hdb : (x == ("__debug__" : Str)) = false := by decide)
    (he : starEach [e1, e2] X.env = (false, eval e1 X.env) :: starEach [e2] X.env := by rfl) (he2 : starEach [e2] X.env = (false, eval e2 X.env) :: starEach [] X.env := by rfl) (hpl : (backTo pos (starEach [e2] X.env)).any (·.1) = false := by rfl) :
    PE X (.Call (.Name x p) [e1, e2] [] pos) (fun σ H Q => t1 σ H fun y H1 => t2 σ H1 fun z H2 => tNew C [(g, z), (f, y)] Q H2) := by
  obtain ⟨fI, fd, i1, i2, i3, i4, _⟩ := E.ini
  have q := pe_mkX (p := p) (pos := pos) (X := X) E.ox i1 i2 (i3 X.prog X.w X.base) hr i4 pass0 hg E.gl (pa_cons h1 (pa_cons h2 pa_nil he2) he) hdb he hpl
  refine ⟨fun pins s σ H Q I h => q.run pins s σ H Q I (m1 _ _ _ _ (fun y H1 h => m2 _ _ _ _ (fun z H2 h => ?_) h) h)⟩
  exact ⟨rfl, by omega, rfl, fun a ha => new2_ok E h ha⟩
/-- C(g = e2, f = e1) -/
theorem pe_new2K (E : Ec2 X.K X.mg x f g C) (hr : Room 2 X.A) (hg : Gl X x) (h1 : PE X e1 t1) (m1 : Mo t1) (h2 : PE X e2 t2) (m2 : Mo t2) (hdb : (x == ("__debug__" : Str)) = false := by decide)
    (hall : (backToKw pos (keywordEach [⟨some g, e2, kp1⟩, ⟨some f, e1, kp2⟩] X.env)).all (·.1.isSome) = true := by rfl) (hks : (backToKw pos (keywordEach [⟨some g, e2, kp1⟩, ⟨some f, e1, kp2⟩] X.env)).filterMap (·.1) = [g, f] := by rfl)
    (hpl : ((backTo pos (starEach [] X.env)).any (·.1) || (backToKw pos (keywordEach [⟨some g, e2, kp1⟩, ⟨some f, e1, kp2⟩] X.env)).any (·.1.isNone)) = false := by rfl) :
    PE X (.Call (.Name x p) [] [⟨some g, e2, kp1⟩, ⟨some f, e1, kp2⟩] pos) (fun σ H Q => t2 σ H fun z H1 => t1 σ H1 fun y H2 => tNew C [(g, z), (f, y)] Q H2) := by
  obtain ⟨fI, fd, i1, i2, i3, _, i5⟩ := E.ini
  have q := pe_mkXK (p := p) (pos := pos) (X := X) E.ox i1 i2 (i3 X.prog X.w X.base) hr i5 pass0 hg E.gl (pk_cons (nm := some g) (kpos := kp1) h2 (pk_cons (nm := some f) (kpos := kp2) h1 pk_nil)) hall hks hdb hpl
  refine ⟨fun pins s σ H Q I h => q.run pins s σ H Q I (m2 _ _ _ _ (fun z H1 h => m1 _ _ _ _ (fun y H2 h => ?_) h) h)⟩
  exact ⟨rfl, by omega, rfl, fun a ha => new2_ok E h ha⟩
end
end XK0

namespace XK0
open PySem PySem.Spec PyProof.Rows L2 LamX LamV
/-- a made pair of errors, the look at their fields, and what is due -/
structure It where
  C : Addr
  fs : List (Str × V)
  due : List V
  ns : List Str
/-- a lambda that tells the named fields of its argument in a list -/
structure Lm (F : LF) (ns : List Str) : Prop where
  sc : NdefX.NScope ["_law_e"] ["_law_e"] [] F.scope
  bd : ∀ (pm cv ctv : Value) (us : List Value), us.length = 1 → bindArgs (PySem.W.kla_fn "<lambda>" F.qual F.params F.body F.scope [] pm cv ctv) ⟨us, []⟩ = pure ((["_law_e"] : List Str).zip us)
  sh : (∃ (f : Str) (p1 p2 p3 : Pos), ns = [f] ∧ F.body = .List [.Attribute (.Name "_law_e" p1) f p2] p3) ∨ ∃ (f g : Str) (p1 p2 p3 p4 p5 : Pos), ns = [f, g] ∧ F.body = .List [.Attribute (.Name "_law_e" p1) f p2, .Attribute (.Name "_law_e" p3) g p4] p5
def Item (L : Addr) (H : Hp) (i : It) (v : V) : Prop := ∃ t m1 d1 m2 d2 f dl, v = .ref t ∧ H t = some (.tup [.ref m1, .ref m2, .ref f, .ref dl]) ∧ H m1 = some (exo m1 i.C (some d1)) ∧ H d1 = some (exd d1 i.fs) ∧
  H m2 = some (exo m2 i.C (some d2)) ∧ H d2 = some (exd d2 i.fs) ∧ (∃ F, Lm F i.ns ∧ IsLam H f F) ∧ H dl = some (.lst i.due) ∧ dl ≠ L
/-- all but tables and the list at L stays -/
def Kp (L : Addr) (H H' : Hp) : Prop := ∀ b o, H b = some o → (∀ ps, o ≠ .tbl ps) → b ≠ L → H' b = some o
theorem Kp.refl {L : Addr} {H : Hp} : Kp L H H := fun _ _ h _ _ => h
theorem Kp.trans {L : Addr} {H H1 H2 : Hp} (a : Kp L H H1) (b : Kp L H1 H2) : Kp L H H2 := fun c o h n m => b c o (a c o h n m) n m
theorem Kp.new {L a : Addr} {H : Hp} {o : HO} (h : H a = none) : Kp L H (upd H a o) := fun b u e _ _ => by rw [upd_ne (ne_of_none e h)]; exact e
theorem Kp.extN {L : Addr} {H H' : Hp} (h : ExtN H H') : Kp L H H' := fun b o e n _ => h b o e n
theorem exd_tbl {e : Addr} {fs : List (Str × V)} (ps : Array Value) : exd e fs ≠ .tbl ps := fun z => by
  have z' : HO.ext _ = HO.tbl ps := z
  cases z'
theorem lamO_tbl {f c : Addr} {F : LF} (ps : Array Value) : LamO f c F ≠ .tbl ps := fun z => by
  have z' : HO.ext _ = HO.tbl ps := z
  cases z'
theorem not_at {H : Hp} {b L : Addr} {o : HO} {xs : List V} (hL : H L = some (.lst xs)) (h : H b = some o) (n : o ≠ .lst xs) : b ≠ L := fun z => by
  rw [z, hL] at h
  exact n (Option.some.inj h).symm
theorem exo_lst {e C : Addr} {d : Option Addr} (xs : List V) : exo e C d ≠ .lst xs := fun z => by
  have z' : HO.ext _ = HO.lst xs := z
  cases z'
theorem exd_lst {e : Addr} {fs : List (Str × V)} (ps : List V) : exd e fs ≠ .lst ps := fun z => by
  have z' : HO.ext _ = HO.lst ps := z
  cases z'
theorem lamO_lst {f c : Addr} {F : LF} (ps : List V) : LamO f c F ≠ .lst ps := fun z => by
  have z' : HO.ext _ = HO.lst ps := z
  cases z'
theorem codeO_lst {c : Addr} {q : Str} (ps : List V) : CodeO c q ≠ .lst ps := fun z => by
  have z' : HO.ext _ = HO.lst ps := z
  cases z'
theorem isLam_kp {L f : Addr} {H H' : Hp} {F : LF} {xs : List V} (hL : H L = some (.lst xs)) (k : Kp L H H') (h : IsLam H f F) : IsLam H' f F := by
  obtain ⟨c, h1, h2⟩ := h
  exact ⟨c, k _ _ h1 (fun ps => lamO_tbl ps) (not_at hL h1 (lamO_lst _)), k _ _ h2 (fun ps => codeO_ne ps) (not_at hL h2 (codeO_lst _))⟩
theorem Item.kp {L : Addr} {H H' : Hp} {i : It} {v : V} {xs : List V} (hL : H L = some (.lst xs)) (k : Kp L H H') (h : Item L H i v) : Item L H' i v := by
  obtain ⟨t, m1, d1, m2, d2, f, dl, rfl, h1, h2, h3, h4, h5, ⟨F, h6a, h6⟩, h7, h8⟩ := h
  exact ⟨t, m1, d1, m2, d2, f, dl, rfl, k _ _ h1 (fun _ z => nomatch z) (not_at hL h1 (fun z => nomatch z)), k _ _ h2 (fun _ => exo_tbl) (not_at hL h2 (exo_lst _)), k _ _ h3 exd_tbl (not_at hL h3 (exd_lst _)),
    k _ _ h4 (fun _ => exo_tbl) (not_at hL h4 (exo_lst _)), k _ _ h5 exd_tbl (not_at hL h5 (exd_lst _)), ⟨F, h6a, isLam_kp hL k h6⟩, k _ _ h7 (fun _ z => nomatch z) h8, h8⟩
/-- the state: the list at L holds these items -/
structure MS (T : List (Addr × Str)) (L : Addr) (its : List It) (H : Hp) : Prop where
  tab : Tabs T H
  lst : ∃ vs, H L = some (.lst vs) ∧ Paired (Item L H) its vs
theorem Paired.snoc {α β : Type} {F : α → β → Prop} : ∀ {l₁ : List α} {l₂ : List β} {a : α} {b : β}, Paired F l₁ l₂ → F a b → Paired F (l₁ ++ [a]) (l₂ ++ [b])
  | _, _, _, _, .nil, h => .cons h .nil
  | _, _, _, _, .cons r t, h => .cons r (Paired.snoc t h)
theorem Tabs.keep {T : List (Addr × Str)} {H H' : Hp} (t : Tabs T H) (k : ∀ b o, H b = some o → (∀ xs, o ≠ .lst xs) → H' b = some o) : Tabs T H' := fun p hp => by
  obtain ⟨ps, h1, h2, h3⟩ := t p hp
  refine ⟨ps, k _ _ h1 (fun _ z => nomatch z), h2, fun pos cv hc => ?_⟩
  obtain ⟨c, e1, e2⟩ := h3 pos cv hc
  exact ⟨c, e1, k _ _ e2 (fun _ => codeO_lst _)⟩
section
variable {K : PySem.W.Frag} {T : List (Addr × Str)} {L C : Addr} {fs : List (Str × V)} {due : List V} {ns : List Str} {F : LF} {its : List It} {A B tD tL : TE} {σ : L2.St} {H : Hp} {D : Ends}
theorem new_kp {a d : Addr} (ha : H a = none) (hd : H d = none) (hne : d ≠ a) : Kp L H (upd (upd H d (exd d fs)) a (exo a C (some d))) :=
  (Kp.new hd).trans (Kp.new (by rw [upd_ne hne.symm]; exact ha))
theorem new_ext {a d : Addr} (ha : H a = none) (hd : H d = none) : ∀ b o, H b = some o → upd (upd H d (exd d fs)) a (exo a C (some d)) b = some o := fun b o e => by
  rw [upd_ne (ne_of_none e ha), upd_ne (ne_of_none e hd)]
  exact e
/-- found.append((C(..), C(..), lambda e: .., [..])) -/
theorem line (hF : Lm F ns) (hL : tL = tVar 2) (hs : σ[2]? = some (some (.ref L))) (ms : MS T L its H) (hn : its.length < 1000) (hA : ∀ H Q, tNew C fs Q H → A σ H Q) (hB : ∀ H Q, tNew C fs Q H → B σ H Q) (hD : ∀ H Q, (∀ p, H p = none → Q (.ref p) (upd H p (.lst due))) → tD σ H Q)
    (k : ∀ H', MS T L (its ++ [⟨C, fs, due, ns⟩]) H' → Kp L H H' → D.nx σ H') : tDrop (tBM K "list" rAppend tL (tCons (tTup (tCons A (tCons B (tCons (tLamV T F) (tCons tD tNil))))) tNil)) D σ H := by
  subst hL
  obtain ⟨tab, vs, hl, hp⟩ := ms
  have hlen : vs.length = its.length := (Paired.length hp).symm
  refine ⟨.ref L, hs, .inl ⟨rfl, vs, .inl (.inl hl)⟩, ?_⟩
  refine hA _ _ fun m1 d1 a1 b1 c1 => ?_
  have e1 := new_ext (C := C) (fs := fs) a1 b1
  have k1 : Kp L H _ := new_kp (C := C) (fs := fs) a1 b1 c1
  have g1 : upd (upd H d1 (exd d1 fs)) m1 (exo m1 C (some d1)) m1 = some (exo m1 C (some d1)) := upd_same
  have g1d : upd (upd H d1 (exd d1 fs)) m1 (exo m1 C (some d1)) d1 = some (exd d1 fs) := by rw [upd_ne c1, upd_same]
  generalize upd (upd H d1 (exd d1 fs)) m1 (exo m1 C (some d1)) = H1 at e1 k1 g1 g1d ⊢
  refine hB _ _ fun m2 d2 a2 b2 c2 => ?_
  have e2 := new_ext (C := C) (fs := fs) a2 b2
  have k2 : Kp L H1 _ := new_kp (C := C) (fs := fs) a2 b2 c2
  have g2 : upd (upd H1 d2 (exd d2 fs)) m2 (exo m2 C (some d2)) m2 = some (exo m2 C (some d2)) := upd_same
  have g2d : upd (upd H1 d2 (exd d2 fs)) m2 (exo m2 C (some d2)) d2 = some (exd d2 fs) := by rw [upd_ne c2, upd_same]
  generalize upd (upd H1 d2 (exd d2 fs)) m2 (exo m2 C (some d2)) = H2 at e2 k2 g2 g2d ⊢
  refine ⟨tab.ext fun b o e => e2 b o (e1 b o e), fun f H3 x3 t3 f3 l3 => ?_⟩
  refine hD _ _ fun dl a4 => ?_
  have k3 : Kp L H2 H3 := .extN x3
  have k4 : Kp L H3 (upd H3 dl (.lst due)) := .new a4
  have hl3 : H3 L = some (.lst vs) := x3 _ _ (e2 _ _ (e1 _ _ hl)) (fun _ z => nomatch z)
  have hdl : dl ≠ L := fun z => by rw [z, hl3] at a4; cases a4
  have g4 : upd H3 dl (.lst due) dl = some (.lst due) := upd_same
  have e4 : ∀ b o, H3 b = some o → upd H3 dl (.lst due) b = some o := fun b o e => by rw [upd_ne (ne_of_none e a4)]; exact e
  generalize upd H3 dl (.lst due) = H4 at k4 g4 e4 ⊢
  refine ⟨by rw [sizeLine_eq]; show 4 ≤ _; omega, fun t a5 => ?_⟩
  have k5 : Kp L H4 (upd H4 t (.tup [.ref m1, .ref m2, .ref f, .ref dl])) := .new a5
  have g5 : upd H4 t (.tup [.ref m1, .ref m2, .ref f, .ref dl]) t = some (.tup [.ref m1, .ref m2, .ref f, .ref dl]) := upd_same
  have e5 : ∀ b o, H4 b = some o → upd H4 t (.tup [.ref m1, .ref m2, .ref f, .ref dl]) b = some o := fun b o e => by rw [upd_ne (ne_of_none e a5)]; exact e
  generalize upd H4 t (.tup [.ref m1, .ref m2, .ref f, .ref dl]) = H5 at k5 g5 e5 ⊢
  have hl5 : H5 L = some (.lst vs) := e5 _ _ (e4 _ _ hl3)
  refine ⟨L, vs, .ref t, rfl, rfl, hl5, by rw [sizeLine_eq]; omega, ?_⟩
  have k6 : Kp L H5 (upd H5 L (.lst (vs ++ [.ref t]))) := fun b o e _ n => by rw [upd_ne n]; exact e
  have t6 : Tabs T (upd H5 L (.lst (vs ++ [.ref t]))) := Tabs.keep (t3.ext fun b o e => e5 _ _ (e4 _ _ e)) fun b o e n => by rw [upd_ne (not_at hl5 e (n _))]; exact e
  have all : Kp L H (upd H5 L (.lst (vs ++ [.ref t]))) := ((((k1.trans k2).trans k3).trans k4).trans k5).trans k6
  have hl1 : H1 L = some (.lst vs) := e1 _ _ hl
  have hl2 : H2 L = some (.lst vs) := e2 _ _ hl1
  have hl4 : H4 L = some (.lst vs) := e4 _ _ hl3
  have kk : Kp L H2 (upd H5 L (.lst (vs ++ [.ref t]))) := ((k3.trans k4).trans k5).trans k6
  have kk1 : Kp L H1 (upd H5 L (.lst (vs ++ [.ref t]))) := k2.trans kk
  refine k _ ⟨t6, vs ++ [.ref t], upd_same, Paired.snoc (Paired.mapP hp fun i v z => Item.kp hl all z) ?_⟩ all
  refine ⟨t, m1, d1, m2, d2, f, dl, rfl, k6 _ _ g5 (fun _ z => nomatch z) (not_at hl5 g5 (fun z => nomatch z)), kk1 _ _ g1 (fun _ => exo_tbl) (not_at hl1 g1 (exo_lst _)), kk1 _ _ g1d exd_tbl (not_at hl1 g1d (exd_lst _)),
    kk _ _ g2 (fun _ => exo_tbl) (not_at hl2 g2 (exo_lst _)), kk _ _ g2d exd_tbl (not_at hl2 g2d (exd_lst _)), ⟨F, hF, isLam_kp hl3 ((k4.trans k5).trans k6) l3⟩, (k5.trans k6) _ _ g4 (fun _ z => nomatch z) hdl, hdl⟩
end
end XK0

namespace XK0
open PySem PySem.Spec PyProof.Rows L2 LamX LamV
/-- one line of a maker: what it adds, of x and y -/
def LineOk (X : Cx) (T : List (Addr × Str)) (st : Stmt) (it : V → V → It) : Prop := ∃ t, PS X st t ∧ ∀ (L : Addr) (x y : V) (its : List It) (σ : L2.St) (H : Hp) (D : Ends), σ[0]? = some (some x) → σ[1]? = some (some y) → σ[2]? = some (some (.ref L)) →
  MS T L its H → its.length < 1000 → (∀ H', MS T L (its ++ [it x y]) H' → Kp L H H' → D.nx σ H') → t D σ H
/-- where the maker stands: its table -/
structure Mkr (X : Cx) (T : List (Addr × Str)) (q : Str) : Prop where
  rm : Room 2 X.A
  nn : X.N = (["_law_x", "_law_y", "_law_found"] : List Str)
  vx : Vis X.env.scope "_law_x"
  vy : Vis X.env.scope "_law_y"
  vf : Vis X.env.scope "_law_found"
  tb : ∃ c P, TabB X.base X.mg c P ∧ X.env.code = .ref c ∧ (P, q) ∈ T ∧ ∀ p ∈ T, p.1 = P → p.2 = q
  qu : X.env.qual ++ "<lambda>" = q
section
variable {X : Cx} {T : List (Addr × Str)} {q cx f g : Str} {C : Addr} {params : Arguments} {body : Expr} {scope : Scope} {p1 p2 p3 p4 p5 p6 p7 p8 p9 p10 p11 p12 p13 p14 p15 p16 p17 p18 p19 : Pos} {k : Nat}
theorem line1_ok (M : Mkr X T q) (E : Ec1 X.K X.mg cx f C) (hg : Gl X cx) (hF : Lm ⟨q, params, body, scope⟩ [f]) (hdef : defaultsOf params X.env = ([], [])) (hfree : ∀ y ∈ scope.names, y.2 ≠ .free) (hdb : (cx == ("__debug__" : Str)) = false)
    (hline : (p2.endLine == p14.line) = true) :
    LineOk X T (.Expr (.Call (.Attribute (.Name "_law_found" p1) "append" p2) [.Tuple [.Call (.Name cx p3) [.Name "_law_x" p4] [] p5, .Call (.Name cx p6) [] [⟨some f, .Name "_law_x" p7, p8⟩] p9, .Lambda params body scope p10, .List [.Name "_law_x" p11] p12] k p13] [] p14) p15)
      (fun x y => ⟨C, [(f, x)], [x], [f]⟩) := by
  obtain ⟨c, P, TB, hc, hm, hu⟩ := M.tb
  have vX : ∀ p, PE X (.Name "_law_x" p) (tVar 0) := fun p => pe_var (by rw [M.nn]; rfl) M.vx
  have vF : ∀ p, PE X (.Name "_law_found" p) (tVar 2) := fun p => pe_var (by rw [M.nn]; rfl) M.vf
  refine ⟨_, ps_expr (pe_bm PySem.F.plainAttrs_list PySem.F.slot_list_append PySem.F.type_list_append mt_append (vF p1) (pa_cons (pe_tup (pa_cons (pe_new1 E M.rm hg (vX p4) (mo_var 0) hdb) (pa_cons (pe_new1K E M.rm hg (vX p7) (mo_var 0) hdb)
    (pa_cons (pe_lamV TB hc M.qu hm hu hdef hfree) (pa_cons (pe_lst (pa_cons (vX p11) pa_nil)) pa_nil))))) pa_nil) rfl rfl hline), ?_⟩
  intro L x y its σ H D hx hy hL ms hn kk
  exact line hF rfl hL ms hn (fun H Q h => ⟨x, hx, h⟩) (fun H Q h => ⟨x, hx, h⟩) (fun H Q h => ⟨x, hx, by rw [sizeLine_eq]; show 1 ≤ _; omega, fun p hp => h p hp⟩) kk
theorem line2_ok (M : Mkr X T q) (E : Ec2 X.K X.mg cx f g C) (hg : Gl X cx) (hF : Lm ⟨q, params, body, scope⟩ [f, g]) (hdef : defaultsOf params X.env = ([], [])) (hfree : ∀ y ∈ scope.names, y.2 ≠ .free) (hdb : (cx == ("__debug__" : Str)) = false)
    (hline : (p2.endLine == p14.line) = true) :
    LineOk X T (.Expr (.Call (.Attribute (.Name "_law_found" p1) "append" p2) [.Tuple [.Call (.Name cx p3) [.Name "_law_x" p4, .Name "_law_y" p16] [] p5, .Call (.Name cx p6) [] [⟨some g, .Name "_law_y" p7, p8⟩, ⟨some f, .Name "_law_x" p17, p18⟩] p9, .Lambda params body scope p10, .List [.Name "_law_x" p11, .Name "_law_y" p19] p12] k p13] [] p14) p15)
      (fun x y => ⟨C, [(g, y), (f, x)], [x, y], [f, g]⟩) := by
  obtain ⟨c, P, TB, hc, hm, hu⟩ := M.tb
  have vX : ∀ p, PE X (.Name "_law_x" p) (tVar 0) := fun p => pe_var (by rw [M.nn]; rfl) M.vx
  have vY : ∀ p, PE X (.Name "_law_y" p) (tVar 1) := fun p => pe_var (by rw [M.nn]; rfl) M.vy
  have vF : ∀ p, PE X (.Name "_law_found" p) (tVar 2) := fun p => pe_var (by rw [M.nn]; rfl) M.vf
  refine ⟨_, ps_expr (pe_bm PySem.F.plainAttrs_list PySem.F.slot_list_append PySem.F.type_list_append mt_append (vF p1) (pa_cons (pe_tup (pa_cons (pe_new2 E M.rm hg (vX p4) (mo_var 0) (vY p16) (mo_var 1) hdb) (pa_cons (pe_new2K E M.rm hg (vX p17) (mo_var 0) (vY p7) (mo_var 1) hdb)
    (pa_cons (pe_lamV TB hc M.qu hm hu hdef hfree) (pa_cons (pe_lst (pa_cons (vX p11) (pa_cons (vY p19) pa_nil))) pa_nil))))) pa_nil) rfl rfl hline), ?_⟩
  intro L x y its σ H D hx hy hL ms hn kk
  exact line hF rfl hL ms hn (fun H Q h => ⟨x, hx, y, hy, h⟩) (fun H Q h => ⟨y, hy, x, hx, h⟩) (fun H Q h => ⟨x, hx, y, hy, by rw [sizeLine_eq]; show 2 ≤ _; omega, fun p hp => h p hp⟩) kk
/-- lines one behind another, then the rest -/
theorem block_ok {rest : List Stmt} {tr : TS} (hr : PSs X rest tr) : ∀ {sts : List Stmt} {itf : List (V → V → It)}, Paired (LineOk X T) sts itf → ∃ t, PSs X (sts ++ rest) t ∧ ∀ (L : Addr) (x y : V) (its : List It) (σ : L2.St) (H : Hp) (D : Ends),
    σ[0]? = some (some x) → σ[1]? = some (some y) → σ[2]? = some (some (.ref L)) → MS T L its H → its.length + itf.length < 1000 → (∀ H', MS T L (its ++ itf.map (fun i => i x y)) H' → Kp L H H' → tr D σ H') → t D σ H
  | _, _, .nil => ⟨tr, hr, fun L x y its σ H D _ _ _ ms _ k => k H (by simpa using ms) Kp.refl⟩
  | _, _, .cons (b := i) (l₂ := r) h t => by
    obtain ⟨t1, p1, q1⟩ := h
    obtain ⟨t2, p2, q2⟩ := block_ok hr t
    refine ⟨tSeq t1 t2, pss_cons p1 p2, fun L x y its σ H D hx hy hL ms hn k => ?_⟩
    refine q1 L x y its σ H _ hx hy hL ms (by simp at hn; omega) fun H1 ms1 k1 => ?_
    refine q2 L x y _ σ H1 D hx hy hL ms1 (by simp at hn ⊢; omega) fun H2 ms2 k2 => k H2 (by simpa using ms2) (k1.trans k2)
end
/-- what a maker promises -/
def spMade (T : List (Addr × Str)) (itf : List (V → V → It)) : Sp := fun vs H Q _ => ∃ x y, vs = [x, y] ∧ Tabs T H ∧ ∀ L H', H L = none → MS T L (itf.map fun i => i x y) H' → Kp L H H' → Q (.ref L) H'
def codeOf (K : PySem.W.Frag) (f : Addr) : Option Value := match K.lookup f with
  | some ⟨_, _, .func fd, _⟩ => some fd.code
  | _ => none
theorem made_ok {P : Program} {w : World} {K : PySem.W.Frag} {mg : Str → Option Value} {base : Heap} {x : Str} {params : Arguments} {body sts : List Stmt} {scope : Scope} {f c Pt : Addr} {fd : FuncData} {T : List (Addr × Str)} {itf : List (V → V → It)} {p1 p2 p3 p4 p5 : Pos}
    (F : FunD K x x params body scope [] [] f fd) (hcode : codeOf K f = some (.ref c)) (TB : TabB base mg c Pt) (hm : (Pt, x ++ ".<locals>." ++ "<lambda>") ∈ T) (hu : ∀ p ∈ T, p.1 = Pt → p.2 = x ++ ".<locals>." ++ "<lambda>")
    (S : FnScope ["_law_x", "_law_y", "_law_found"] ["_law_x", "_law_y"] scope) (vf : scope.names.lookup ("_law_found" : Str) = some NameKind.local)
    (hb : body = .Assign [.Name "_law_found" p1] (.List [] p2) p3 :: (sts ++ [.Return (some (.Name "_law_found" p4)) p5])) (hn : itf.length < 900)
    (hl : ∀ X : Cx, X.K = K → X.mg = mg → X.env.scope = scope → Mkr X T (x ++ ".<locals>." ++ "<lambda>") → Paired (LineOk X T) sts itf) :
    FnOk P w K mg base CX0 3 f fd ["_law_x", "_law_y"] (spMade T itf) := by
  obtain ⟨oc, od, dV, kV, doc, pm, an, cdv, ct, osl, rfl, lk, hcd, _, _⟩ := F.ex
  have ec : cdv = .ref c := by
    unfold codeOf at hcode
    rw [lk] at hcode
    exact Option.some.inj hcode
  subst ec
  refine fn_of lk hcd S (fun vs H Q E h => ?_) fun A outer s H vs Q E hr h => ?_
  · obtain ⟨x, y, rfl, _⟩ := h
    rfl
  · subst hb
    obtain ⟨vx, vy, rfl, hT, hQ⟩ := h
    have M : Mkr (cxOf CX0 P w K mg base ["_law_x", "_law_y", "_law_found"] x scope f (.ref c) A outer s H E).nox T (x ++ ".<locals>." ++ "<lambda>") :=
      ⟨hr, rfl, vis_par S List.mem_cons_self, vis_par S (List.mem_cons_of_mem _ List.mem_cons_self), .inl vf, ⟨c, Pt, TB, rfl, hm, hu⟩, rfl⟩
    obtain ⟨t, ht, hq⟩ := block_ok (pss_one (ps_ret (pos := p5) (pe_var (pos := p4) (i := 2) (X := (cxOf CX0 P w K mg base ["_law_x", "_law_y", "_law_found"] x scope f (.ref c) A outer s H E).nox) rfl (.inl vf)))) (hl _ rfl rfl rfl M)
    refine ⟨_, PSs.nox (pss_cons (ps_set (i := 2) S.nd rfl (.inl vf) (pe_lst pa_nil)) ht), ?_⟩
    refine ⟨Nat.zero_le _, fun L hL => ?_⟩
    refine hq L vx vy [] _ _ _ rfl rfl rfl ⟨hT.ext fun b o e => by rw [upd_ne (ne_of_none e hL)]; exact e, [], upd_same, .nil⟩ (by simpa using (by omega : itf.length < 1000)) fun H' ms k => ?_
    refine ⟨.ref L, rfl, hQ L H' hL (by simpa using ms) ((Kp.new hL).trans k)⟩
end XK0

namespace XK0
open PySem PySem.Spec PyProof.Rows L2 LamX LamV
/-- nothing is lost -/
def Ex (H H' : Hp) : Prop := ∀ b o, H b = some o → H' b = some o
theorem Ex.refl {H : Hp} : Ex H H := fun _ _ h => h
theorem Ex.trans {H H1 H2 : Hp} (a : Ex H H1) (b : Ex H1 H2) : Ex H H2 := fun c o h => b c o (a c o h)
theorem Ex.new {H : Hp} {a : Addr} {o : HO} (h : H a = none) : Ex H (upd H a o) := fun b u e => by rw [upd_ne (ne_of_none e h)]; exact e
theorem Ex.kp {H H' : Hp} {L : Addr} (h : Ex H H') : Kp L H H' := fun b o e _ _ => h b o e
theorem isX_ex {H H' : Hp} {a D : Addr} (k : Ex H H') (h : IsX H a D) : IsX H' a D := by
  rcases h with h | ⟨d, fs, h1, h2⟩
  · exact .inl (k _ _ h)
  · exact .inr ⟨d, fs, k _ _ h1, k _ _ h2⟩
/-- isinstance tells D from the classes of the list -/
def KD (K : PySem.W.Frag) (D : Addr) (cs : List Addr) : Prop := ∀ C ∈ cs, PySem.W.kitOne K (.ref D) (.ref C) = some (decide (D = C))
def isV (D : Addr) (cs : List Addr) : List V := cs.map fun C => .bl (decide (D = C))
def KLine (X : Cx) (st : Stmt) (cs : List Addr) : Prop := ∃ t, PS X st t ∧ ∀ (m D L : Addr) (xs : List V) (σ : L2.St) (H : Hp) (E : Ends), σ[0]? = some (some (.ref m)) → σ[1]? = some (some (.ref L)) → H L = some (.lst xs) → IsX H m D → ExcC X.K D → KD X.K D cs → xs.length + cs.length < 1000 →
  (∀ L' H', Ex H H' → H' L' = some (.lst (xs ++ isV D cs)) → E.nx (σ.set 1 (some (.ref L'))) H') → t E σ H
structure Kdr (X : Cx) : Prop where
  nn : X.N = (["_law_e", "_law_found"] : List Str)
  ve : Vis X.env.scope "_law_e"
  vf : X.env.scope.names.lookup ("_law_found" : Str) = some NameKind.local
  gi : Gl X "isinstance"
  mi : X.mg "isinstance" = none
section
variable {X : Cx} {x1 x2 : Str} {C1 C2 : Addr} {p1 p2 p3 p4 p5 p6 p7 p8 p9 p10 p11 p12 p13 : Pos}
theorem kline_ok (M : Kdr X) (g1 : Gl X x1) (g2 : Gl X x2) (m1 : X.mg x1 = some (.ref C1)) (m2 : X.mg x2 = some (.ref C2)) (d1 : (x1 == ("__debug__" : Str)) = false) (d2 : (x2 == ("__debug__" : Str)) = false) :
    KLine X (.Assign [.Name "_law_found" p1] (.BinOp (.Name "_law_found" p2) .Add (.List [.Call (.Name "isinstance" p3) [.Name "_law_e" p4, .Name x1 p5] [] p6, .Call (.Name "isinstance" p7) [.Name "_law_e" p8, .Name x2 p9] [] p10] p11) p12) p13) [C1, C2] := by
  have vE : ∀ p, PE X (.Name "_law_e" p) (tVar 0) := fun p => pe_var (by rw [M.nn]; rfl) M.ve
  have vF : ∀ p, PE X (.Name "_law_found" p) (tVar 1) := fun p => pe_var (by rw [M.nn]; rfl) (.inl M.vf)
  have is1 : PE X (.Call (.Name "isinstance" p3) [.Name "_law_e" p4, .Name x1 p5] [] p6) _ := pe_callB call_isX M.gi M.mi boot_isinstance (pa_cons (vE p4) (pa_cons (pe_glob (v := .ref C1) g1 m1 rfl d1) pa_nil))
  have is2 : PE X (.Call (.Name "isinstance" p7) [.Name "_law_e" p8, .Name x2 p9] [] p10) _ := pe_callB call_isX M.gi M.mi boot_isinstance (pa_cons (vE p8) (pa_cons (pe_glob (v := .ref C2) g2 m2 rfl d2) pa_nil))
  refine ⟨_, ps_set (i := 1) (by rw [M.nn]; decide) (by rw [M.nn]; rfl) (.inl M.vf) (pe_op op_cat (vF p2) (pe_lst (pa_cons is1 (pa_cons is2 pa_nil)))) rfl (.inr M.vf), ?_⟩
  intro m D L xs σ H E h0 h1 hL hx hC hk hn k
  refine ⟨.ref L, h1, .ref m, h0, m, D, .ref C1, .ref C1, _, rfl, hx, hC, fun u r => r, hk C1 List.mem_cons_self, .ref m, h0, m, D, .ref C2, .ref C2, _, rfl, hx, hC, fun u r => r, hk C2 (List.mem_cons_of_mem _ List.mem_cons_self), by rw [sizeLine_eq]; show 2 ≤ _; omega, fun p hp => ?_⟩
  have e1 : Ex H (upd H p (.lst [.bl (decide (D = C1)), .bl (decide (D = C2))])) := Ex.new hp
  refine ⟨L, p, xs, _, rfl, rfl, e1 _ _ hL, upd_same, by rw [sizeLine_eq]; simp at hn ⊢; omega, fun q hq => ?_⟩
  exact k q _ (e1.trans (Ex.new hq)) upd_same
theorem kblock_ok {rest : List Stmt} {tr : TS} (hr : PSs X rest tr) : ∀ {sts : List Stmt} {css : List (List Addr)}, Paired (KLine X) sts css → ∃ t, PSs X (sts ++ rest) t ∧ ∀ (m D L : Addr) (xs : List V) (σ : L2.St) (H : Hp) (E : Ends), σ[0]? = some (some (.ref m)) → σ[1]? = some (some (.ref L)) → H L = some (.lst xs) → IsX H m D → ExcC X.K D → KD X.K D css.flatten → xs.length + css.flatten.length < 1000 →
    (∀ L' σ' H', Ex H H' → H' L' = some (.lst (xs ++ isV D css.flatten)) → σ'[1]? = some (some (.ref L')) → tr E σ' H') → t E σ H
  | _, _, .nil => ⟨tr, hr, fun m D L xs σ H E h0 h1 hL hx hC hk hn k => k L σ H Ex.refl (by simpa [isV] using hL) h1⟩
  | _, _, .cons (b := c) (l₂ := r) h t => by
    obtain ⟨t1, p1, q1⟩ := h
    obtain ⟨t2, p2, q2⟩ := kblock_ok hr t
    refine ⟨tSeq t1 t2, pss_cons p1 p2, fun m D L xs σ H E h0 h1 hL hx hC hk hn k => ?_⟩
    simp only [List.flatten_cons, List.length_append] at hn
    refine q1 m D L xs σ H _ h0 h1 hL hx hC (fun C hc => hk C (by simp only [List.flatten_cons]; exact List.mem_append_left _ hc)) (by omega) fun L1 H1 x1 l1 => ?_
    have hs : 1 < σ.length := by
      rcases Nat.lt_or_ge 1 σ.length with z | z
      · exact z
      · rw [List.getElem?_eq_none_iff.mpr z] at h1; cases h1
    refine q2 m D L1 _ _ H1 E (by rw [List.getElem?_set_ne (by decide)]; exact h0) (by rw [List.getElem?_set_self hs]) l1 (isX_ex x1 hx) hC (fun C hc => hk C (by simp only [List.flatten_cons]; exact List.mem_append_right _ hc)) (by simp only [isV, List.length_append, List.length_map]; omega) fun L2 σ2 H2 x2 l2 s2 => ?_
    exact k L2 σ2 H2 (x1.trans x2) (by rw [l2]; simp [isV]) s2
end
/-- what _law_kinds_.. promises -/
def spKinds (K : PySem.W.Frag) (cs : List Addr) : Sp := fun vs H Q _ => ∃ m D, vs = [.ref m] ∧ IsX H m D ∧ ExcC K D ∧ KD K D cs ∧ ∀ L H', Ex H H' → H' L = some (.lst (isV D cs)) → Q (.ref L) H'
theorem kinds_ok {P : Program} {w : World} {K : PySem.W.Frag} {mg : Str → Option Value} {base : Heap} {x : Str} {params : Arguments} {body sts : List Stmt} {scope : Scope} {f : Addr} {fd : FuncData} {css : List (List Addr)} {p1 p2 p3 p4 p5 : Pos}
    (F : FunD K x x params body scope [] [] f fd) (S : FnScope ["_law_e", "_law_found"] ["_law_e"] scope) (vf : scope.names.lookup ("_law_found" : Str) = some NameKind.local) (gi : scope.names.lookup ("isinstance" : Str) = some .globalImplicit) (mi : mg "isinstance" = none)
    (hb : body = .Assign [.Name "_law_found" p1] (.List [] p2) p3 :: (sts ++ [.Return (some (.Name "_law_found" p4)) p5])) (hn : css.flatten.length < 900)
    (hl : ∀ X : Cx, X.K = K → X.mg = mg → X.env.scope = scope → Kdr X → Paired (KLine X) sts css) : FnOk P w K mg base CX0 1 f fd ["_law_e"] (spKinds K css.flatten) := by
  refine F.ok S (fun vs H Q E h => ?_) fun cdv A outer s H vs Q E hr h => ?_
  · obtain ⟨m, D, rfl, _⟩ := h
    rfl
  · subst hb
    obtain ⟨m, D, rfl, hx, hC, hk, hQ⟩ := h
    have M : Kdr (cxOf CX0 P w K mg base ["_law_e", "_law_found"] x scope f cdv A outer s H E).nox := ⟨rfl, vis_par S List.mem_cons_self, vf, gi, mi⟩
    obtain ⟨t, ht, hq⟩ := kblock_ok (pss_one (ps_ret (pos := p5) (pe_var (pos := p4) (i := 1) (X := (cxOf CX0 P w K mg base ["_law_e", "_law_found"] x scope f cdv A outer s H E).nox) rfl (.inl vf)))) (hl _ rfl rfl rfl M)
    refine ⟨_, PSs.nox (pss_cons (ps_set (i := 1) S.nd rfl (.inl vf) (pe_lst pa_nil)) ht), ?_⟩
    refine ⟨Nat.zero_le _, fun L hL => ?_⟩
    refine hq m D L [] _ _ _ rfl rfl upd_same (isX_ex (Ex.new hL) hx) hC hk (by simpa using (by omega : css.flatten.length < 1000)) fun L' σ' H' x' l' s' => ?_
    exact ⟨.ref L', s', hQ L' H' ((Ex.new hL).trans x') (by simpa using l')⟩
end XK0

namespace K00
open PySem PySem.Spec PyProof.Rows L2 LamX LamV XK0
def top (i : Nat) : Stmt := PySem.Challenge.pw_meettasks_k00_errors_made.main.body.getD i (.Pass ⟨0, 0, 0, 0⟩)
abbrev sPool : Stmt := top 75
abbrev sTake : Stmt := top 76
abbrev sMixed : Stmt := top 77
abbrev sMadeA : Stmt := top 78
abbrev sMadeB : Stmt := top 79
abbrev sMadeC : Stmt := top 80
abbrev sKindsA : Stmt := top 81
abbrev sKindsB : Stmt := top 82
abbrev sKindsC : Stmt := top 83
abbrev sOwn : Stmt := top 84
abbrev sSame : Stmt := top 85
abbrev sLaw : Stmt := top 86
abbrev FnP (K : PySem.W.Frag) (x : Str) (st : Stmt) (f : Addr) (fd : FuncData) : Prop := FunD K x x (defArgs st) (defBody st) (defScope st) [] [] f fd
/-! ### is_own -/
def spOwn (K : PySem.W.Frag) (ca cb cc : List Addr) (TE : Addr) : Sp := fun vs H Q _ => ∃ (m D : Addr) (i : Int), vs = [.ref m, .int i] ∧ IsX H m D ∧ ExcC K D ∧ KD K D ca ∧ KD K D cb ∧ KD K D cc ∧ PySem.W.kitOne K (.ref D) (.ref TE) = some true ∧ PySem.W.kitOne K (.ref D) (.type "ValueError") = some true ∧
  PySem.W.kitOne K (.ref D) (.type "LookupError") = some false ∧ isV D ca ++ isV D cb ++ isV D cc = (List.range 72).map (fun (k : Nat) => V.bl (decide ((k : Int) = i))) ∧ ∀ H', Ex H H' → Q (.bl true) H'
theorem isV_len (D : Addr) (cs : List Addr) : (isV D cs).length = cs.length := List.length_map _
theorem paired_refl {α : Type} {F : α → α → Prop} : ∀ {l : List α}, (∀ a ∈ l, F a a) → Paired F l l
  | [], _ => .nil
  | a :: l, h => .cons (h a List.mem_cons_self) (paired_refl fun b hb => h b (List.mem_cons_of_mem _ hb))
section
variable {P : Program} {w : World} {K : PySem.W.Frag} {mg : Str → Option Value} {base : Heap} {f fa fb fc TE : Addr} {fd fda fdb fdc : FuncData} {ca cb cc : List Addr}
theorem scOwn : FnScope ["_law_e", "_law_at", "_law_k"] ["_law_e", "_law_at"] (defScope sOwn) := ⟨rfl, rfl, rfl, by decide +kernel, rfl, by decide +kernel, by decide +kernel⟩
theorem ok_own (F : FnP K "_law_is_own" sOwn f fd) (FA : FnOk P w K mg base CX0 1 fa fda ["_law_e"] (spKinds K ca)) (FB : FnOk P w K mg base CX0 1 fb fdb ["_law_e"] (spKinds K cb)) (FC : FnOk P w K mg base CX0 1 fc fdc ["_law_e"] (spKinds K cc))
    (ga : mg "_law_kinds_a" = some (.ref fa)) (gb : mg "_law_kinds_b" = some (.ref fb)) (gc : mg "_law_kinds_c" = some (.ref fc)) (ka : PySem.W.keepIn K (.ref fa) = true) (kb : PySem.W.keepIn K (.ref fb) = true) (kc : PySem.W.keepIn K (.ref fc) = true)
    (ba : Binds K fda ["_law_e"] []) (bb : Binds K fdb ["_law_e"] []) (bc : Binds K fdc ["_law_e"] []) (gt : mg "TaskError" = some (.ref TE)) (gi : mg "isinstance" = none) (gv : mg "ValueError" = none) (gl : mg "LookupError" = none) (gr : mg "range" = none)
    (la : ca.length ≤ 100) (lb : cb.length ≤ 100) (lc : cc.length ≤ 100) : FnOk P w K mg base CX0 2 f fd ["_law_e", "_law_at"] (spOwn K ca cb cc TE) := by
  refine F.ok scOwn (fun vs H Q E h => ?_) (fun cdv A outer s H vs Q E hr h => ?_)
  · obtain ⟨m, D, i, rfl, _⟩ := h
    rfl
  · refine ⟨_, PSs.nox (pss_cons (ps_if (PW.pt (pw_or (pt_not (pt_val (pe_callB call_isX rfl gi boot_isinstance (pa_cons (pv 0) (pa_cons (pe_glob (v := .ref TE) rfl gt rfl) pa_nil)))))
      (pw_or (pt_not (pt_val (pe_callB call_isX rfl gi boot_isinstance (pa_cons (pv 0) (pa_cons (pe_bltn (v := .ty "ValueError") rfl gv PyProof.Rows.Boot.«ValueError» rfl) pa_nil)))))
      (pw_or1 (pt_val (pe_callB call_isX rfl gi boot_isinstance (pa_cons (pv 0) (pa_cons (pe_bltn (v := .ty "LookupError") rfl gl PyProof.Rows.Boot.«LookupError» rfl) pa_nil)))))))) (pss_one (ps_ret pe_bl)) pss_nil)
      (pss_one (ps_ret (pe_cmpR (op_eqV hr.units) (pe_op op_cat (pe_op op_cat (pe_call FA hr rfl ga ka ba .nil pass0 (pa_cons (pv 0) pa_nil)) (pe_call FB hr rfl gb kb bb .nil pass0 (pa_cons (pv 0) pa_nil))) (pe_call FC hr rfl gc kc bc .nil pass0 (pa_cons (pv 0) pa_nil)))
        (pe_lc (own := [("_law_k", 2)]) rfl scOwn.nd (pi_range1 rfl gr (pa_cons pe_int pa_nil)) (blkOk_by (by kernel_rfl)) (fun s H C cl fp => pg_name (i := 2) scOwn.nd rfl (.inl rfl) (.inr rfl)) (fun s H C cl fp => pts_nil)
          (fun s H C cl fp => pe_cmpR op_eq (pv 2) (pv 1) (nomark _))) (nomark _))))), ?_⟩
    obtain ⟨m, D, i, rfl, hx, hC, h1, h2, h3, t1, t2, t3, hv, hQ⟩ := h
    refine ⟨.ref m, rfl, m, D, .ref TE, .ref TE, true, rfl, hx, hC, fun u r => r, t1, true, rfl, ?_⟩
    refine ⟨.ref m, rfl, m, D, .ty "ValueError", .type "ValueError", true, rfl, hx, hC, fun u r => r, t2, true, rfl, ?_⟩
    refine ⟨.ref m, rfl, m, D, .ty "LookupError", .type "LookupError", false, rfl, hx, hC, fun u r => r, t3, false, rfl, ?_⟩
    refine ⟨.ref m, rfl, m, D, rfl, hx, hC, h1, fun La Ha xa la' => ?_⟩
    refine ⟨.ref m, rfl, m, D, rfl, isX_ex xa hx, hC, h2, fun Lb Hb xb lb' => ?_⟩
    have ea := isV_len D ca
    have eb := isV_len D cb
    have ec := isV_len D cc
    refine ⟨La, Lb, _, _, rfl, rfl, xb _ _ la', lb', by rw [sizeLine_eq]; omega, fun p hp => ?_⟩
    have xp : Ex Hb (upd Hb p (.lst (isV D ca ++ isV D cb))) := Ex.new hp
    refine ⟨.ref m, rfl, m, D, rfl, isX_ex ((xa.trans xb).trans xp) hx, hC, h3, fun Lc Hc xc lc' => ?_⟩
    refine ⟨p, Lc, _, _, rfl, rfl, xc _ _ upd_same, lc', by rw [sizeLine_eq, List.length_append]; omega, fun q hq => ?_⟩
    have xq : Ex Hc (upd Hc q (.lst (isV D ca ++ isV D cb ++ isV D cc))) := Ex.new hq
    refine ⟨72, rfl, by decide, by decide, fun L hL => ?_⟩
    have xL : Ex (upd Hc q (.lst (isV D ca ++ isV D cb ++ isV D cc))) (upd (upd Hc q (.lst (isV D ca ++ isV D cb ++ isV D cc))) L (.lst [])) := Ex.new hL
    have hqL : q ≠ L := fun z => by rw [← z, upd_same] at hL; cases hL
    refine lc_range (fun n H2 => H2 = upd (upd Hc q (.lst (isV D ca ++ isV D cb ++ isV D cc))) L (.lst ((List.range n).map fun (k : Nat) => V.bl (decide ((k : Int) = i))))) rfl (fun n H2 hn e => ?_) fun H2 e => ?_
    · subst e
      refine ⟨rfl, .int (0 + n), rfl, .int i, rfl, rfl, (List.range n).map fun (k : Nat) => V.bl (decide ((k : Int) = i)), upd_same, ?_, ?_⟩
      · rw [sizeLine_eq, List.length_map, List.length_range]
        have : n < 72 := hn
        omega
      · rw [upd_upd, List.range_succ, List.map_append]
        have e1 : decide (V.int (0 + (n : Int)) = V.int i) = decide ((n : Int) = i) := by
          rw [Int.zero_add, dec_int]
          by_cases z : (n : Int) = i
          · rw [z]; simp
          · rw [decide_eq_false z]; simpa using z
        show upd _ L (.lst (_ ++ [V.bl (decide (V.int (0 + (n : Int)) = V.int i))])) = _
        rw [e1]
        rfl
    · subst e
      refine ⟨0 + 1, by decide, .inl ⟨q, L, isV D ca ++ isV D cb ++ isV D cc, (List.range 72).map fun (k : Nat) => V.bl (decide ((k : Int) = i)), rfl, rfl, .inl (.inl ?_), .inl (.inl upd_same), ?_⟩, ?_⟩
      · rw [upd_ne hqL, upd_same]
      · rw [hv]
        exact paired_refl fun v hv' => .inl ⟨rfl, by
          obtain ⟨k, _, rfl⟩ := List.mem_map.mp hv'
          rfl⟩
      · refine hQ _ ((((xa.trans xb).trans xp).trans xc).trans (xq.trans ?_))
        exact Ex.new hL
end
end K00

namespace K00
open PySem PySem.Spec PyProof.Rows L2 LamX LamV XK0
/-! ### promises where nothing is being shown -/
structure FnOkG (P : Program) (w : World) (K : PySem.W.Frag) (mg : Str → Option Value) (base : Heap) (CX : CXT) (k : Nat) (f : Addr) (fd : FuncData) (ps : List Str) (sp : Sp) : Prop where
  len : ∀ vs H Q E, sp vs H Q E → vs.length = ps.length
  run : ∀ (A : Around) (outer : List Env) (s : Shared) (H : Hp) (args : Args) (us : List Value) (vs : List V) (Q : VK) (E : XK), A.guards = some [] → Room k A → Env0 P w K mg base A outer s H → BindsTo s fd args (ps.zip us) → Vals vs us → sp vs H Q E →
    codeAny (model P w) A (.call (.ref f) args) (CR CX outer P w H s Q E) s
theorem okG {P : Program} {w : World} {K : PySem.W.Frag} {mg : Str → Option Value} {base : Heap} {x qual : Str} {params : Arguments} {body : List Stmt} {scope : Scope} {dvs : List V} {kws : List (Str × V)} {f : Addr} {fd : FuncData} {CX : CXT} {N ps : List Str} {k : Nat} {sp : Sp}
    (F : FunD K x qual params body scope dvs kws f fd) (S : FnScope N ps scope) (len : ∀ vs H Q E, sp vs H Q E → vs.length = ps.length)
    (hbody : ∀ (cdv : Value) (A : Around) (outer : List Env) (s : Shared) (H : Hp) (vs : List V) (Q : VK) (E : XK), A.guards = some [] → Room k (A.deeper (envOfC qual scope s.heap.objs.size f cdv)) → sp vs H Q E →
      ∃ t, PSs (cxOf CX P w K mg base N qual scope f cdv A outer s H E) body t ∧ t { nx := fun _ H' => Q .non H', rt := Q } (start N vs) H) : FnOkG P w K mg base CX (k + 1) f fd ps sp := by
  obtain ⟨oc, od, dV, kV, doc, pm, an, cdv, ct, osl, rfl, lk, hcd, _, _⟩ := F.ex
  refine ⟨len, fun A outer s H args us vs Q E hG hr e0 hb r hsp => ?_⟩
  exact run_ofS lk hcd S hr e0 hb r (len _ _ _ _ hsp) fun hr' => hbody cdv A outer s H vs Q E hG hr' hsp
theorem pe_callG {X : Cx} {CX : CXT} {k : Nat} {f : Addr} {fd : FuncData} {ps : List Str} {sp : Sp} {E : XK} {x : Str} {p pos : Pos} {e : Expr} {es : List Expr} {t : TA} (hG : X.A.guards = some []) (F : FnOkG X.prog X.w X.K X.mg X.base CX k f fd ps sp) (hr : Room k X.A) (hg : Gl X x) (hm : X.mg x = some (.ref f)) (hk : PySem.W.keepIn X.K (.ref f) = true) (hb : Binds X.K fd ps []) (hx : Passes CX X E)
    (ha : PA X (e :: es) t) (dbg : (x == ("__debug__" : Str)) = false := by decide) (stars : starEach (e :: es) X.env = (false, eval e X.env) :: starEach es X.env := by rfl) (plain : (backTo pos (starEach es X.env)).any (·.1) = false := by rfl) :
    PE X (.Call (.Name x p) (e :: es) [] pos) (tCall sp [] E t) := ⟨fun pins s σ H Q I h => wpAny_Call_Name_kw (ld_glob I hg hm (PySem.W.callWith_K (h₀ := X.base) I.ok.mod.kin hk (thn (ha.run pos pins s σ H _ I h) fun us s1 ⟨vs, H1, J, rel, want⟩ => ⟨J.kIn, by
  have want : sp vs H1 Q E := by
    rw [← List.append_nil vs]
    exact want
  have many : us.length = ps.length := rel.length.symm.trans (F.len _ _ _ _ want)
  have bound := hb s1 us J.kIn (by rw [List.append_nil]; exact many)
  rw [List.append_nil] at bound
  refine wpAny_call (codeAny_mono (F.run X.A X.stack s1 H1 ⟨us, []⟩ us vs Q E hG hr J.env0 bound rel want) fun r s' z => ?_)
  match r, z with
  | .error y, z => exact hx pins σ H1 s1 y s' J z
  | .ok (.ret y), z => exact J.after z
  | .ok .next, z => exact z.elim
  | .ok .brk, z => exact z.elim
  | .ok .cont, z => exact z.elim⟩) stars plain) dbg)⟩
/-! ### same -/
def spSame : Sp := fun vs H Q _ => ∃ (a b : Addr) (n : Nat) (d : PyData) (xs : List V), vs = [.ref a, .ref b] ∧ RdD H n (.ref a) d ∧ RdD H n (.ref b) d ∧ d.showable = true ∧ d.depth ≤ 40 ∧ d.shown.length ≤ sizeLine ∧ H a = some (.lst xs) ∧ H b = some (.lst xs) ∧ (∀ v ∈ xs, flatB v = true ∨ ∃ c, v = .ref c) ∧ Q (.bl true) H
section
variable {P : Program} {w : World} {K : PySem.W.Frag} {mg : Str → Option Value} {base : Heap} {f : Addr} {fd : FuncData}
theorem scSame : FnScope ["_law_found", "_law_due"] ["_law_found", "_law_due"] (defScope sSame) := ⟨rfl, rfl, rfl, by decide +kernel, rfl, by decide +kernel, by decide +kernel⟩
theorem ok_same (F : FnP K "_law_same" sSame f fd) (gr : mg "repr" = none) (hS : (K.lookup sysModules).isSome = true) : FnOkG P w K mg base CX0 2 f fd ["_law_found", "_law_due"] spSame := by
  refine okG F scSame (fun vs H Q E h => ?_) (fun cdv A outer s H vs Q E hG hr h => ?_)
  · obtain ⟨a, b, n, d, xs, rfl, _⟩ := h
    rfl
  · refine ⟨_, PSs.nox (pss_one (ps_ret (pe_and (pe_cmpR op_eq (pe_callB (call_reprD hG hr.units hS) rfl gr PyProof.Rows.boot_repr (pa_cons (pv 0) pa_nil)) (pe_callB (call_reprD hG hr.units hS) rfl gr PyProof.Rows.boot_repr (pa_cons (pv 1) pa_nil)) (nomark _))
      (pe_one (pe_cmpR (op_eqV hr.units) (pv 0) (pv 1) (nomark _)))))), ?_⟩
    obtain ⟨a, b, n, d, xs, rfl, h1, h2, h3, h4, h5, h6, h7, h8, q⟩ := h
    refine ⟨.ref a, rfl, a, n, d, rfl, h1, h3, h4, h5, .ref b, rfl, b, n, d, rfl, h2, h3, h4, h5, rfl, true, by simp, ?_⟩
    rw [if_pos rfl]
    refine ⟨.ref a, rfl, .ref b, rfl, 1, by decide, .inl ⟨a, b, xs, xs, rfl, rfl, .inl (.inl h6), .inl (.inl h7), paired_refl fun v hv => ?_⟩, q⟩
    rcases h8 v hv with z | ⟨c, rfl⟩
    · exact .inl ⟨rfl, z⟩
    · exact .inr (.inl ⟨c, rfl, rfl⟩)
end
/-! ### the looks -/
def spLm (K : PySem.W.Frag) (ns : List Str) : Sp := fun vs H Q _ => ∃ (m C d : Addr) (fs : List (Str × V)) (ys : List V), vs = [.ref m] ∧ H m = some (exo m C (some d)) ∧ H d = some (exd d fs) ∧ XfC K C ∧ (∀ f ∈ ns, PySem.W.findIn K (.ref C) f = some none) ∧ ns.map (fun f => fs.lookup f) = ys.map some ∧
  ∀ p, H p = none → Q (.ref p) (upd H p (.lst ys))
theorem lm_ok {P : Program} {w : World} {K : PySem.W.Frag} {mg : Str → Option Value} {base : Heap} {F : LF} {ns : List Str} (h : Lm F ns) : LOk P w K mg base CX0 1 F (spLm K ns) := by
  refine lok_of (k := 0) (ps := ["_law_e"]) h.sc h.bd (fun vs H Q E z => ?_) fun f c A outer s H vs Q E hr z => ?_
  · obtain ⟨m, C, d, fs, ys, rfl, _⟩ := z
    rfl
  · obtain ⟨m, C, d, fs, ys, rfl, h1, h2, h3, h4, h5, q⟩ := z
    have vE : ∀ p, PE (NdefX.ncx CX0 P w K mg base ["_law_e"] (nfOf F c) f A outer s H E) (.Name "_law_e" p) (tVar 0) := fun p => pe_var rfl (.inl (h.sc.par _ List.mem_cons_self))
    rcases h.sh with ⟨f1, p1, p2, p3, rfl, hb⟩ | ⟨f1, f2, p1, p2, p3, p4, p5, rfl, hb⟩
    · rw [hb]
      refine ⟨_, pe_lst (pa_cons (pe_xv (vE p1)) pa_nil), ?_⟩
      obtain ⟨y, rfl⟩ : ∃ y, ys = [y] := by
        have hl := congrArg List.length h5
        simp only [List.length_map, List.length_cons, List.length_nil] at hl
        exact List.length_eq_one_iff.mp hl.symm
      · have e1 : fs.lookup f1 = some y := by simpa using h5
        exact ⟨.ref m, rfl, m, C, d, fs, y, rfl, h1, h2, h3, h4 f1 List.mem_cons_self, e1, by rw [sizeLine_eq]; show 1 ≤ _; omega, q⟩
    · rw [hb]
      refine ⟨_, pe_lst (pa_cons (pe_xv (vE p1)) (pa_cons (pe_xv (vE p3)) pa_nil)), ?_⟩
      obtain ⟨y, z, rfl⟩ : ∃ y z, ys = [y, z] := by
        have hl := congrArg List.length h5
        simp only [List.length_map, List.length_cons, List.length_nil] at hl
        rcases ys with _ | ⟨y, _ | ⟨z, _ | ⟨u, r⟩⟩⟩
        · cases hl
        · cases hl
        · exact ⟨y, z, rfl⟩
        · simp at hl
      · have e1 : fs.lookup f1 = some y ∧ fs.lookup f2 = some z := by simpa using h5
        exact ⟨.ref m, rfl, m, C, d, fs, y, rfl, h1, h2, h3, h4 f1 List.mem_cons_self, e1.1, .ref m, rfl, m, C, d, fs, z, rfl, h1, h2, h3, h4 f2 (List.mem_cons_of_mem _ List.mem_cons_self), e1.2, by rw [sizeLine_eq]; show 2 ≤ _; omega, q⟩
end K00

namespace K00
open PySem PySem.Spec PyProof.Rows L2 LamX LamV XK0
theorem sq_ex {K : PySem.W.Frag} {H H' : Hp} {a : Addr} {xs : List V} (k : Ex H H') (h : SqL K H a xs) : SqL K H' a xs := by
  rcases h with (h | ⟨o, h⟩) | h
  · exact .inl (.inl (k _ _ h))
  · exact .inl (.inr ⟨o, k _ _ h⟩)
  · exact .inr h
/-- a pool: a number at least 0 that is drawn down, a seed below 2^31, a count -/
def Pl (H : Hp) (p : Addr) : Prop := ∃ i j c : Int, H p = some (.lst [.int i, .int j, .int c]) ∧ 0 ≤ i ∧ 0 ≤ j ∧ j < 2147483647 ∧ 0 ≤ c ∧ c < 1000000
def PlN (H : Hp) (p : Addr) (n : Int) : Prop := ∃ i j c : Int, H p = some (.lst [.int i, .int j, .int c]) ∧ 0 ≤ i ∧ 0 ≤ j ∧ j < 2147483647 ∧ 0 ≤ c ∧ c ≤ n
def spPool (K : PySem.W.Frag) : Sp := fun vs H Q _ => ∃ (a : Addr) (ns : List Int), vs = [.ref a, .int 0] ∧ SqL K H a (ns.map V.int) ∧ ns.length ≤ 1000 ∧ ∀ p H', Ex H H' → H p = none → PlN H' p 0 → Q (.ref p) H'
section
variable {P : Program} {w : World} {K : PySem.W.Frag} {mg : Str → Option Value} {base : Heap} {f : Addr} {fd : FuncData}
theorem scPool : FnScope ["_law_script", "_law_turn", "_law_cell", "_law_seed", "_law_one"] ["_law_script", "_law_turn"] (defScope sPool) := ⟨rfl, rfl, rfl, by decide +kernel, rfl, by decide +kernel, by decide +kernel⟩
theorem ok_pool (F : FnP K "_law_pool" sPool f fd) (gl : mg "len" = none) (gs : mg "sum" = none) (gi : mg "int" = none) (ga : mg "abs" = none) : FnOk P w K mg base CX0 1 f fd ["_law_script", "_law_turn"] (spPool K) := by
  refine F.ok scPool (fun vs H Q E h => ?_) (fun cdv A outer s H vs Q E hr h => ?_)
  · obtain ⟨a, ns, rfl, _⟩ := h
    rfl
  · refine ⟨_, PSs.nox (pss_cons (ps_set (i := 2) scPool.nd rfl (.inl rfl) (pe_ifExp (pt_cmpR op_lt (pv 1) (pe_callB call_len rfl gl boot_len (pa_cons (pv 0) pa_nil)) (nomark _)) (pe_ix ix_list (pv 0) (pv 1) (fun _ _ => rfl))
        (pe_op op_add (pe_op op_mod (pe_callB (cr_sum rfl) rfl gs boot_sum (pa_cons (pe_slice sl_list (pv 0) po_none (po_some pe_int)) pa_nil)) pe_int) (pv 1))))
      (pss_cons (ps_set (i := 3) scPool.nd rfl (.inl rfl) (pe_op op_add pe_int (pv 1)))
      (pss_cons (ps_for PassesOwn.never rfl (pi_list (pe_slice sl_list (pv 0) po_none (po_some pe_int))) (pg_name (i := 4) scPool.nd rfl (.inl rfl))
        (pss_one (ps_set (i := 3) scPool.nd rfl (.inl rfl) (pe_op op_mod (pe_callTy call_int1 rfl gi boot_int (pa_cons (pe_op op_add (pe_op op_mul (pv 3) pe_int) (pv 4)) pa_nil)) pe_int))))
      (pss_one (ps_ret (pe_lst (pa_cons (pe_ifExp (pt_cmpR op_ge (pe_callB call_abs rfl ga boot_abs (pa_cons (pv 2) pa_nil)) (pe_op op_pow pe_int pe_int) (nomark _)) (pe_callB call_abs rfl ga boot_abs (pa_cons (pv 2) pa_nil)) pe_int)
        (pa_cons (pe_op op_mod (pe_callTy call_int1 rfl gi boot_int (pa_cons (pe_op op_add (pe_op op_mul (pv 3) pe_int) (pv 2)) pa_nil)) pe_int) (pa_cons pe_int pa_nil))))))))), ?_⟩
    obtain ⟨a, ns, rfl, hS, hn, hQ⟩ := h
    have cell : ∀ Q' : VK, (∀ (c : Int) (H1 : Hp), Ex H H1 → Q' (.int c) H1) → tIf (tTest (tOp (rI0 fun i j => .bl (decide (i < j))) (tVar 1) (tCB (fun xs H Q => ∃ x n, xs = [x] ∧ LenV K x H n ∧ Q (.int n) H) (tCons (tVar 0) tNil)))) (tOp (rIxL K) (tVar 0) (tVar 1))
        (tOp (rI0 fun i j => .int (i + j)) (tOp (rI (fun _ j => 0 < j) fun i j => .int (i % j)) (tCB (rSum K) (tCons (tSl (rSlL K) (tVar 0) tNoPart (tPart (tC (.int 1)))) tNil)) (tC (.int 1000003))) (tVar 1)) [some (.ref a), some (.int 0), none, none, none] H Q' := by
      intro Q' k
      refine ⟨.int 0, rfl, .ref a, rfl, .ref a, _, rfl, .inl ⟨_, hS, rfl⟩, 0, _, rfl, rfl, _, rfl, ?_⟩
      cases ns with
      | nil =>
        rw [if_neg (by simp)]
        refine ⟨.ref a, rfl, 1, rfl, a, _, rfl, hS, fun c nc => ?_⟩
        refine ⟨c, [], rfl, .inl (.inl upd_same), _, _, rfl, rfl, by decide, .int 0, rfl, _, _, rfl, rfl, ?_⟩
        exact k _ _ (Ex.new nc)
      | cons n0 r =>
        rw [if_pos (by simp)]
        exact ⟨.ref a, rfl, .int 0, rfl, a, _, 0, .int n0, rfl, rfl, hS, by simp [atI, ixN], k n0 H Ex.refl⟩
    refine cell _ fun c H1 x1 => ?_
    refine ⟨.int 0, rfl, 29, 0, rfl, rfl, ?_⟩
    refine ⟨.ref a, rfl, 6, rfl, a, _, rfl, sq_ex x1 hS, fun sl nsl => ?_⟩
    have x2 : Ex H1 (upd H1 sl (.lst (cutV (ns.map V.int) none (some 6)))) := Ex.new nsl
    have hc : ∃ ms : List Int, cutV (ns.map V.int) none (some 6) = ms.map V.int := ⟨(ns.drop (HT.sIx (ns.map V.int).length 0 none)).take (HT.sIx (ns.map V.int).length (ns.map V.int).length (some 6) - HT.sIx (ns.map V.int).length 0 none), by
      unfold cutV
      rw [List.map_take, List.map_drop]⟩
    obtain ⟨ms, hms⟩ := hc
    rw [hms] at x2 ⊢
    refine ⟨sl, rfl, ⟨_, .inl (.inl upd_same)⟩, ?_⟩
    refine for_list (K := K) (xs := ms.map V.int) (fun i σ H2 => H2 = upd H1 sl (.lst (ms.map V.int)) ∧ ∃ (sd : Int) (o : Option V), σ = [some (.ref a), some (.int 0), some (.int c), some (.int sd), o] ∧ 0 ≤ sd ∧ sd < 2147483647) ⟨rfl, 29 + 0, none, rfl, by decide, by decide⟩ (fun i σ H2 _ h => ?_) (fun i v σ H2 hv h => ?_) fun σ H2 h => ?_
    · rw [h.1]
      exact .inl (.inl upd_same)
    · obtain ⟨rfl, sd, o, rfl, s1, s2⟩ := h
      rw [List.getElem?_map] at hv
      obtain ⟨m, _, rfl⟩ := Option.map_eq_some_iff.mp hv
      refine ⟨.int sd, rfl, sd, 37, rfl, rfl, .inl (by constructor <;> omega), .int m, rfl, _, _, rfl, rfl, .inl ⟨_, rfl, _, _, rfl, rfl, (by decide : (0 : Int) < 2147483647), rfl, _, _, rfl, ?_, ?_⟩⟩
      · exact Int.emod_nonneg _ (by decide)
      · exact Int.emod_lt_of_pos _ (by decide)
    · obtain ⟨rfl, sd, o, rfl, s1, s2⟩ := h
      have key : ∀ (z : Int), 0 ≤ z → (∀ Q' : VK, (∀ (z : Int), 0 ≤ z → Q' (.int z) (upd H1 sl (.lst (ms.map V.int)))) → Q' (.int z) (upd H1 sl (.lst (ms.map V.int)))) := fun z hz Q' k => k z hz
      have first : ∀ Q' : VK, (∀ z : Int, 0 ≤ z → Q' (.int z) (upd H1 sl (.lst (ms.map V.int)))) → tIf (tTest (tOp (rI0 fun i j => .bl (decide (j ≤ i))) (tCB (fun xs H Q => ∃ i, xs = [.int i] ∧ Q (.int (if i < 0 then -i else i)) H) (tCons (tVar 2) tNil)) (tOp (rI CPow fun i j => .int (i ^ j.toNat)) (tC (.int 10)) (tC (.int 18)))))
          (tCB (fun xs H Q => ∃ i, xs = [.int i] ∧ Q (.int (if i < 0 then -i else i)) H) (tCons (tVar 2) tNil)) (tC (.int 0)) [some (.ref a), some (.int 0), some (.int c), some (.int sd), o] (upd H1 sl (.lst (ms.map V.int))) Q' := by
        intro Q' k
        refine ⟨.int c, rfl, c, rfl, _, _, rfl, rfl, by refine ⟨by decide, by decide, by decide⟩, _, _, rfl, rfl, _, rfl, ?_⟩
        generalize decide ((10 : Int) ^ Int.toNat 18 ≤ if c < 0 then -c else c) = bb
        cases bb with
        | true =>
          rw [if_pos rfl]
          refine ⟨.int c, rfl, c, rfl, k _ ?_⟩
          split <;> omega
        | false =>
          rw [if_neg (by decide)]
          exact k 0 (by decide)
      refine first _ fun z hz => ?_
      refine ⟨.int sd, rfl, sd, 31, rfl, rfl, .inl (by constructor <;> omega), .int c, rfl, _, _, rfl, rfl, .inl ⟨_, rfl, _, _, rfl, rfl, (by decide : (0 : Int) < 2147483647), ?_⟩⟩
      refine ⟨by rw [sizeLine_eq]; show 3 ≤ _; omega, fun p hp => ?_⟩
      have hp0 : H p = none := by
        cases q : H p with
        | none => rfl
        | some o => rw [x2 _ _ (x1 _ _ q)] at hp; cases hp
      refine hQ p _ ((x1.trans x2).trans (Ex.new hp)) hp0 ⟨z, _, 0, upd_same, hz, Int.emod_nonneg _ (by decide), Int.emod_lt_of_pos _ (by decide), by decide, by decide⟩
end
end K00

namespace K00
open PySem PySem.Spec PyProof.Rows L2 LamX LamV XK0
def spTake : Sp := fun vs H Q _ => ∃ (p : Addr) (m n : Int), vs = [.ref p, .int m] ∧ PlN H p n ∧ n ≤ 1000 ∧ 1 ≤ m ∧ m ≤ 100 ∧ ∀ (d : Int) (xs : List V), 0 ≤ d → d < m → PlN (upd H p (.lst xs)) p (n + 1) → Q (.int d) (upd H p (.lst xs))
section
variable {P : Program} {w : World} {K : PySem.W.Frag} {mg : Str → Option Value} {base : Heap} {f fT : Addr} {fd fdT : FuncData}
theorem scTake : FnScope ["_law_pool_here", "_law_many", "_law_draw", "_law_mixed_here"] ["_law_pool_here", "_law_many"] (defScope sTake) := ⟨rfl, rfl, rfl, by decide +kernel, rfl, by decide +kernel, by decide +kernel⟩
theorem ok_take (F : FnP K "_law_take" sTake f fd) (gi : mg "int" = none) : FnOk P w K mg base CX0 1 f fd ["_law_pool_here", "_law_many"] spTake := by
  refine F.ok scTake (fun vs H Q E h => ?_) (fun cdv A outer s H vs Q E hr h => ?_)
  · obtain ⟨p, m, n, rfl, _⟩ := h
    rfl
  · refine ⟨_, PSs.nox (pss_cons (ps_if (pt_cmpR op_gt (pe_ix ix_list (pv 0) pe_int (fun _ _ => rfl)) pe_int (nomark _))
        (pss_cons (ps_set (i := 2) scTake.nd rfl (.inl rfl) (pe_op op_mod (pe_callTy call_int1 rfl gi boot_int (pa_cons (pe_ix ix_list (pv 0) pe_int (fun _ _ => rfl)) pa_nil)) (pv 1)))
          (pss_cons (ps_asg (pe_op op_fdiv (pe_ix ix_list (pv 0) pe_int (fun _ _ => rfl)) (pv 1)) (pg_sub (pv 0) pe_int set_list)) (pss_one (ps_ret (pv 2))))) pss_nil)
      (pss_cons (ps_asg (pe_op op_add (pe_ix ix_list (pv 0) pe_int (fun _ _ => rfl)) pe_int) (pg_sub (pv 0) pe_int set_list))
      (pss_cons (ps_set (i := 3) scTake.nd rfl (.inl rfl) (pe_op op_mod (pe_callTy call_int1 rfl gi boot_int (pa_cons (pe_op op_pow (pe_op op_add (pe_op op_add (pe_ix ix_list (pv 0) pe_int (fun _ _ => rfl)) (pe_op op_mul pe_int (pe_ix ix_list (pv 0) pe_int (fun _ _ => rfl)))) pe_int) pe_int) pa_nil)) pe_int))
      (pss_one (ps_ret (pe_op op_mod (pe_op op_mod (pe_callTy call_int1 rfl gi boot_int (pa_cons (pe_op op_mul (pe_op op_add (pv 3) (pe_ix ix_list (pv 0) pe_int (fun _ _ => rfl))) pe_int) pa_nil)) pe_int) (pv 1))))))), ?_⟩
    obtain ⟨p, m, n, rfl, ⟨i, j, c, hp, i0, j0, j1, c0, c1⟩, hn, m1, m2, hQ⟩ := h
    have sq : SqL K H p [.int i, .int j, .int c] := .inl (.inl hp)
    have mpos : (0 : Int) < m := by omega
    refine ⟨.ref p, rfl, p, _, 0, .int i, rfl, rfl, sq, rfl, i, 0, rfl, rfl, _, rfl, ?_⟩
    by_cases hi : 0 < i
    · show (if decide (0 < i) = true then _ else _)
      rw [if_pos (decide_eq_true hi)]
      refine ⟨.ref p, rfl, p, _, 0, .int i, rfl, rfl, sq, rfl, .inl ⟨i, rfl, .int m, rfl, i, m, rfl, rfl, mpos, ?_⟩⟩
      refine ⟨.ref p, rfl, p, _, 0, .int i, rfl, rfl, sq, rfl, .int m, rfl, i, m, rfl, rfl, ⟨mpos, by omega⟩, ?_⟩
      refine ⟨.ref p, rfl, p, _, 0, 0, rfl, rfl, hp, rfl, .int (i % m), rfl, ?_⟩
      exact hQ (i % m) _ (Int.emod_nonneg _ (by omega)) (Int.emod_lt_of_pos _ mpos) ⟨i / m, j, c, upd_same, Int.ediv_nonneg i0 (by omega), j0, j1, c0, by omega⟩
    · show (if decide (0 < i) = true then _ else _)
      rw [if_neg (show ¬ (decide (0 < i) = true) from by simpa using hi)]
      refine ⟨.ref p, rfl, p, _, 2, .int c, rfl, rfl, sq, rfl, c, 1, rfl, rfl, ?_⟩
      refine ⟨.ref p, rfl, p, _, 2, 2, rfl, rfl, hp, rfl, ?_⟩
      have sq2 : SqL K (upd H p (.lst [.int i, .int j, .int (c + 1)])) p [.int i, .int j, .int (c + 1)] := .inl (.inl upd_same)
      refine ⟨.ref p, rfl, p, _, 1, .int j, rfl, rfl, sq2, rfl, .ref p, rfl, p, _, 2, .int (c + 1), rfl, rfl, sq2, rfl, 7919, c + 1, rfl, rfl, .inl (by decide), j, _, rfl, rfl, _, _, rfl, rfl, _, 5, rfl, rfl, ⟨by decide, by decide, by omega⟩, .inl ⟨_, rfl, _, _, rfl, rfl, (by decide : (0 : Int) < 2147483647), ?_⟩⟩
      refine ⟨_, rfl, .ref p, rfl, p, _, 2, .int (c + 1), rfl, rfl, sq2, rfl, _, c + 1, rfl, rfl, _, _, rfl, rfl, .inr (by decide), .inl ⟨_, rfl, _, _, rfl, rfl, (by decide : (0 : Int) < 2147483629), .int m, rfl, _, m, rfl, rfl, mpos, ?_⟩⟩
      exact hQ _ _ (Int.emod_nonneg _ (by omega)) (Int.emod_lt_of_pos _ mpos) ⟨i, j, c + 1, upd_same, i0, j0, j1, by omega, by omega⟩
/-! ### mixed -/
theorem at_nat {xs : List V} {k : Nat} (h : k < xs.length) : atI xs (k : Int) = some xs[k] := by
  unfold atI ixN
  rw [if_pos (Int.natCast_nonneg k), if_pos (by omega), Option.bind_some, Int.toNat_natCast]
  exact List.getElem?_eq_getElem h
theorem cut_to {xs : List V} (k : Nat) (h : k ≤ xs.length) : cutV xs none (some (k : Int)) = xs.take k := by
  unfold cutV
  rw [HT.sIx_none, HT.sIx_nat, Nat.min_eq_left h]
  simp
theorem cut_from {xs : List V} (k : Nat) (h : k < xs.length) : cutV xs (some ((k : Int) + 1)) none = xs.drop (k + 1) := by
  unfold cutV
  rw [HT.sIx_none, show HT.sIx xs.length 0 (some ((k : Int) + 1)) = min (k + 1) xs.length from HT.sIx_nat xs.length 0 (k + 1), Nat.min_eq_left (by omega)]
  exact List.take_of_length_le (by rw [List.length_drop]; omega)
def spMixed (K : PySem.W.Frag) : Sp := fun vs H Q _ => ∃ (p t : Addr) (n : Int) (xs : List V), vs = [.ref p, .ref t] ∧ PlN H p n ∧ 0 ≤ n ∧ n ≤ 100 ∧ H t = some (.lst xs) ∧ t ≠ p ∧ xs.length ≤ 60 ∧
  ∀ (q : Addr) (H' : Hp) (ys : List V), (∀ b o, H b = some o → b ≠ p → H' b = some o) → H q = none → H' q = some (.lst ys) → ys.length = xs.length → (∀ y ∈ ys, y ∈ xs) → Q (.ref q) H'
theorem scMixed : FnScope ["_law_pool_here", "_law_things", "_law_left", "_law_found", "_law_k", "_law_at"] ["_law_pool_here", "_law_things"] (defScope sMixed) := ⟨rfl, rfl, rfl, by decide +kernel, rfl, by decide +kernel, by decide +kernel⟩
theorem ok_mixed (F : FnP K "_law_mixed" sMixed f fd) (FT : FnOk P w K mg base CX0 1 fT fdT ["_law_pool_here", "_law_many"] spTake) (gT : mg "_law_take" = some (.ref fT)) (kT : PySem.W.keepIn K (.ref fT) = true) (bT : Binds K fdT ["_law_pool_here", "_law_many"] [])
    (gl : mg "list" = none) (gn : mg "len" = none) (gr : mg "range" = none) : FnOk P w K mg base CX0 2 f fd ["_law_pool_here", "_law_things"] (spMixed K) := by
  refine F.ok scMixed (fun vs H Q E h => ?_) (fun cdv A outer s H vs Q E hr h => ?_)
  · obtain ⟨p, t, n, xs, rfl, _⟩ := h
    rfl
  · refine ⟨_, PSs.nox (pss_cons (ps_par (i := 2) (j := 3) rfl scMixed.nd rfl rfl (by decide) rfl rfl (pa_cons (pe_callTy call_list_of rfl gl boot_list (pa_cons (pv 1) pa_nil)) (pa_cons (pe_lst pa_nil) pa_nil)) rfl)
      (pss_cons (ps_for PassesOwn.never rfl (pi_range1 rfl gr (pa_cons (pe_callB call_len rfl gn boot_len (pa_cons (pv 1) pa_nil)) pa_nil)) (pg_name (i := 4) scMixed.nd rfl (.inl rfl))
        (pss_cons (ps_set (i := 5) scMixed.nd rfl (.inl rfl) (pe_call FT hr rfl gT kT bT .nil pass0 (pa_cons (pv 0) (pa_cons (pe_callB call_len rfl gn boot_len (pa_cons (pv 2) pa_nil)) pa_nil))))
        (pss_cons (ps_expr (pe_bm PySem.F.plainAttrs_list PySem.F.slot_list_append PySem.F.type_list_append mt_append (pv 3) (pa_cons (pe_ix ix_list (pv 2) (pv 5) (fun _ _ => rfl)) pa_nil)))
        (pss_one (ps_set (i := 2) scMixed.nd rfl (.inl rfl) (pe_op op_cat (pe_slice sl_list (pv 2) po_none (po_some (pv 5))) (pe_slice sl_list (pv 2) (po_some (pe_op op_add (pv 5) pe_int)) po_none)))))))
      (pss_one (ps_ret (pv 3))))), ?_⟩
    obtain ⟨p, t, n, xs, rfl, hp, n0, n1, ht, htp, hl, hQ⟩ := h
    have sq : SqL K H t xs := .inl (.inl ht)
    obtain ⟨i0, j0, c0, hp0, hpr⟩ := hp
    have pin : PlN H p n := ⟨i0, j0, c0, hp0, hpr⟩
    refine ⟨.ref t, rfl, t, xs, rfl, .inl sq, fun l nl => ⟨Nat.zero_le _, fun fo nf => ⟨_, _, rfl, ?_⟩⟩⟩
    have xl : Ex H (upd H l (.lst xs)) := Ex.new nl
    have xf : Ex (upd H l (.lst xs)) (upd (upd H l (.lst xs)) fo (.lst [])) := Ex.new nf
    have nfH : H fo = none := by
      cases q : H fo with
      | none => rfl
      | some o => rw [xl _ _ q] at nf; cases nf
    have lp : l ≠ p := fun z => by rw [z, hp0] at nl; cases nl
    have fp : fo ≠ p := fun z => by rw [z, hp0] at nfH; cases nfH
    have lf : l ≠ fo := fun z => by rw [← z, upd_same] at nf; cases nf
    have x1 := xl.trans xf
    refine ⟨.ref t, rfl, .ref t, _, rfl, .inl ⟨xs, sq_ex x1 sq, rfl⟩, _, rfl, by omega, by omega, ?_⟩
    rw [Int.toNat_natCast]
    refine for_range (fun i σ H2 => ∃ (l : Addr) (ls fs : List V) (o4 o5 : Option V), σ = [some (.ref p), some (.ref t), some (.ref l), some (.ref fo), o4, o5] ∧ H2 l = some (.lst ls) ∧ l ≠ p ∧ l ≠ fo ∧ ls.length = xs.length - i ∧ (∀ y ∈ ls, y ∈ xs) ∧ H2 fo = some (.lst fs) ∧ fs.length = i ∧ (∀ y ∈ fs, y ∈ xs) ∧
        PlN H2 p (n + i) ∧ (∀ b o, H b = some o → b ≠ p → H2 b = some o)) ⟨l, xs, [], none, none, rfl, xf _ _ upd_same, lp, lf, rfl, (fun y h => h), upd_same, rfl, (fun y h => by cases h), ?_, fun b o e _ => x1 _ _ e⟩ (fun i σ H2 hi h => ?_) fun σ H2 h => ?_
    · refine ⟨i0, j0, c0, x1 _ _ hp0, hpr.1, hpr.2.1, hpr.2.2.1, hpr.2.2.2.1, ?_⟩
      have := hpr.2.2.2.2
      simpa using this
    · obtain ⟨l, ls, fs, o4, o5, rfl, hll, lp, lf, el, ml, hfo, ef, mf, hP, old⟩ := h
      have sql : SqL K H2 l ls := .inl (.inl hll)
      refine ⟨.ref p, rfl, .ref l, rfl, .ref l, _, rfl, .inl ⟨ls, sql, rfl⟩, p, _, n + i, rfl, hP, by omega, by omega, by omega, fun d zs d0 d1 hP' => ?_⟩
      have l3 : upd H2 p (.lst zs) l = some (.lst ls) := by rw [upd_ne lp]; exact hll
      have f3 : upd H2 p (.lst zs) fo = some (.lst fs) := by rw [upd_ne fp]; exact hfo
      have old3 : ∀ b o, H b = some o → b ≠ p → upd H2 p (.lst zs) b = some o := fun b o e nb => by rw [upd_ne nb]; exact old b o e nb
      generalize upd H2 p (.lst zs) = H3 at hP' l3 f3 old3 ⊢
      obtain ⟨k, rfl⟩ := Int.eq_ofNat_of_zero_le d0
      have hk : k < ls.length := by omega
      refine ⟨.ref fo, rfl, .inl ⟨rfl, fs, .inl (.inl f3)⟩, .ref l, rfl, .int k, rfl, l, ls, k, ls[k], rfl, rfl, .inl (.inl l3), at_nat hk, fo, fs, ls[k], rfl, rfl, f3, by rw [sizeLine_eq]; omega, ?_⟩
      have l4 : upd H3 fo (.lst (fs ++ [ls[k]])) l = some (.lst ls) := by rw [upd_ne lf]; exact l3
      have f4 : upd H3 fo (.lst (fs ++ [ls[k]])) fo = some (.lst (fs ++ [ls[k]])) := upd_same
      have old4 : ∀ b o, H b = some o → b ≠ p → upd H3 fo (.lst (fs ++ [ls[k]])) b = some o := fun b o e nb => by rw [upd_ne (ne_of_none e nfH)]; exact old3 b o e nb
      have P4 : PlN (upd H3 fo (.lst (fs ++ [ls[k]]))) p (n + i + 1) := by
        obtain ⟨a1, a2, a3, a4, a5⟩ := hP'
        exact ⟨a1, a2, a3, by rw [upd_ne fp.symm]; exact a4, a5⟩
      generalize upd H3 fo (.lst (fs ++ [ls[k]])) = H4 at l4 f4 old4 P4 ⊢
      refine ⟨.ref l, rfl, .int k, rfl, k, rfl, l, ls, rfl, .inl (.inl l4), fun c1 n1 => ?_⟩
      have y1 : Ex H4 (upd H4 c1 (.lst (cutV ls none (some k)))) := Ex.new n1
      refine ⟨.ref l, rfl, .int k, rfl, k, 1, rfl, rfl, _, rfl, l, ls, rfl, .inl (.inl (y1 _ _ l4)), fun c2 n2 => ?_⟩
      have y2 : Ex (upd H4 c1 (.lst (cutV ls none (some k)))) (upd (upd H4 c1 (.lst (cutV ls none (some k)))) c2 (.lst (cutV ls (some (k + 1)) none))) := Ex.new n2
      have g1 := y2 _ _ (show upd H4 c1 (.lst (cutV ls none (some k))) c1 = _ from upd_same)
      have g2 : upd (upd H4 c1 (.lst (cutV ls none (some k)))) c2 (.lst (cutV ls (some (k + 1)) none)) c2 = _ := upd_same
      have y12 := y1.trans y2
      generalize upd (upd H4 c1 (.lst (cutV ls none (some k)))) c2 (.lst (cutV ls (some (k + 1)) none)) = H5 at y2 g1 g2 y12 ⊢
      rw [cut_to k (by omega)] at g1
      rw [cut_from k hk] at g2
      refine ⟨c1, c2, _, _, rfl, rfl, g1, g2, by rw [sizeLine_eq, List.length_take, List.length_drop]; omega, fun q nq => ?_⟩
      have yq : Ex H5 (upd H5 q (.lst (ls.take k ++ ls.drop (k + 1)))) := Ex.new nq
      have all := y12.trans yq
      have nq4 : H4 q = none := by
        cases z : H4 q with
        | none => rfl
        | some o => rw [y12 _ _ z] at nq; cases nq
      obtain ⟨a1, a2, a3, a4, a5⟩ := P4
      refine ⟨q, ls.take k ++ ls.drop (k + 1), fs ++ [ls[k]], _, _, rfl, upd_same, fun z => ?_, fun z => ?_, ?_, fun y hy => ?_, all _ _ f4, by simp [ef], fun y hy => ?_, ⟨a1, a2, a3, all _ _ a4, a5.1, a5.2.1, a5.2.2.1, a5.2.2.2.1, by have := a5.2.2.2.2; omega⟩, fun b o e nb => all _ _ (old4 b o e nb)⟩
      · rw [z, a4] at nq4; cases nq4
      · rw [z, f4] at nq4; cases nq4
      · rw [List.length_append, List.length_take, List.length_drop]; omega
      · rcases List.mem_append.mp hy with h | h
        · exact ml y (List.mem_of_mem_take h)
        · exact ml y (List.mem_of_mem_drop h)
      · rcases List.mem_append.mp hy with h | h
        · exact mf y h
        · rw [List.mem_singleton.mp h]
          exact ml _ (List.getElem_mem hk)
    · obtain ⟨l, ls, fs, o4, o5, rfl, hll, lp, lf, el, ml, hfo, ef, mf, hP, old⟩ := h
      exact ⟨.ref fo, rfl, hQ fo H2 fs old nfH hfo ef mf⟩
end
end K00

namespace K00
open PySem PySem.Spec PyProof.Rows L2 LamX LamV XK0
/-! ### the drawn objects -/
def menuD : List PyData := [.none, .int 5, .int (-1), .bool true, .str "a", .str "", .list [.int 1, .str "b"], .tuple [.int 2, .none], .dict [(.str "a", .int 1)], .list [.list [.str "x"]], .int (10 ^ 30), .tuple [.str "note", .none], .bool false]
structure Objs (H : Hp) (a6 a7 a8 a9i a9 a11 : Addr) : Prop where
  h6 : H a6 = some (.lst [.int 1, .str "b"])
  h7 : H a7 = some (.tup [.int 2, .non])
  h8 : H a8 = some (.dK [(.inr "a", .int 1)])
  h9i : H a9i = some (.lst [.str "x"])
  h9 : H a9 = some (.lst [.ref a9i])
  h11 : H a11 = some (.tup [.str "note", .non])
def things (a6 a7 a8 a9 a11 : Addr) : List V := [.non, .int 5, .int (-1), .bl true, .str "a", .str "", .ref a6, .ref a7, .ref a8, .ref a9, .int (10 ^ 30), .ref a11, .bl false]
theorem menu_rd {H : Hp} {a6 a7 a8 a9i a9 a11 : Addr} (O : Objs H a6 a7 a8 a9i a9 a11) : ∀ v ∈ things a6 a7 a8 a9 a11, ∃ d ∈ menuD, RdD H 4 v d ∧ (flatB v = true ∨ ∃ c, v = .ref c) := by
  intro v hv
  simp only [things, List.mem_cons, List.mem_nil_iff, or_false] at hv
  rcases hv with rfl | rfl | rfl | rfl | rfl | rfl | rfl | rfl | rfl | rfl | rfl | rfl | rfl
  · exact ⟨.none, by simp [menuD], rfl, .inl rfl⟩
  · exact ⟨.int 5, by simp [menuD], rfl, .inl rfl⟩
  · exact ⟨.int (-1), by simp [menuD], rfl, .inl rfl⟩
  · exact ⟨.bool true, by simp [menuD], rfl, .inl rfl⟩
  · exact ⟨.str "a", by simp [menuD], rfl, .inl rfl⟩
  · exact ⟨.str "", by simp [menuD], rfl, .inl rfl⟩
  · exact ⟨.list [.int 1, .str "b"], by simp [menuD], ⟨a6, _, rfl, O.h6, .cons rfl (.cons rfl .nil)⟩, .inr ⟨a6, rfl⟩⟩
  · exact ⟨.tuple [.int 2, .none], by simp [menuD], ⟨a7, _, rfl, O.h7, .cons rfl (.cons rfl .nil)⟩, .inr ⟨a7, rfl⟩⟩
  · exact ⟨.dict [(.str "a", .int 1)], by simp [menuD], ⟨a8, _, rfl, O.h8, .cons ⟨rfl, rfl⟩ .nil⟩, .inr ⟨a8, rfl⟩⟩
  · exact ⟨.list [.list [.str "x"]], by simp [menuD], ⟨a9, _, rfl, O.h9, .cons ⟨a9i, _, rfl, O.h9i, .cons rfl .nil⟩ .nil⟩, .inr ⟨a9, rfl⟩⟩
  · exact ⟨.int (10 ^ 30), by simp [menuD], rfl, .inl rfl⟩
  · exact ⟨.tuple [.str "note", .none], by simp [menuD], ⟨a11, _, rfl, O.h11, .cons rfl (.cons rfl .nil)⟩, .inr ⟨a11, rfl⟩⟩
  · exact ⟨.bool false, by simp [menuD], rfl, .inl rfl⟩
def showB (d : PyData) : Bool := d.showable && (decide (d.depth ≤ 40) && decide (d.shown.length ≤ 1000))
theorem show1 : menuD.all (fun d => showB (.list [d])) = true := by decide +kernel
theorem show2 : menuD.all (fun d => menuD.all fun e => showB (.list [d, e])) = true := by decide +kernel
theorem showB_ok {d : PyData} (h : showB d = true) : d.showable = true ∧ d.depth ≤ 40 ∧ d.shown.length ≤ sizeLine := by
  unfold showB at h
  simp only [Bool.and_eq_true, decide_eq_true_eq] at h
  exact ⟨h.1, h.2.1, by rw [sizeLine_eq]; omega⟩
theorem Objs.keep {H H' : Hp} {a6 a7 a8 a9i a9 a11 : Addr} (O : Objs H a6 a7 a8 a9i a9 a11) (k : ∀ b o, H b = some o → (∀ ps, o ≠ .tbl ps) → H' b = some o) : Objs H' a6 a7 a8 a9i a9 a11 :=
  ⟨k _ _ O.h6 (fun _ z => nomatch z), k _ _ O.h7 (fun _ z => nomatch z), k _ _ O.h8 (fun _ z => nomatch z), k _ _ O.h9i (fun _ z => nomatch z), k _ _ O.h9 (fun _ z => nomatch z), k _ _ O.h11 (fun _ z => nomatch z)⟩
/-- due lists of what was drawn are shown -/
theorem due_rd {H : Hp} {a6 a7 a8 a9i a9 a11 : Addr} (O : Objs H a6 a7 a8 a9i a9 a11) {x y : V} (hx : x ∈ things a6 a7 a8 a9 a11) (hy : y ∈ things a6 a7 a8 a9 a11) {due : List V} (hd : due = [x] ∨ due = [x, y]) :
    ∃ ds, Paired (RdD H 4) due ds ∧ (PyData.list ds).showable = true ∧ (PyData.list ds).depth ≤ 40 ∧ (PyData.list ds).shown.length ≤ sizeLine ∧ ∀ v ∈ due, flatB v = true ∨ ∃ c, v = .ref c := by
  obtain ⟨dx, mx, rx, fx⟩ := menu_rd O x hx
  obtain ⟨dy, my, ry, fy⟩ := menu_rd O y hy
  rcases hd with rfl | rfl
  · obtain ⟨s1, s2, s3⟩ := showB_ok (List.all_eq_true.mp show1 dx mx)
    exact ⟨[dx], .cons rx .nil, s1, s2, s3, fun v hv => by rw [List.mem_singleton.mp hv]; exact fx⟩
  · obtain ⟨s1, s2, s3⟩ := showB_ok (List.all_eq_true.mp (List.all_eq_true.mp show2 dx mx) dy my)
    refine ⟨[dx, dy], .cons rx (.cons ry .nil), s1, s2, s3, fun v hv => ?_⟩
    rcases List.mem_cons.mp hv with rfl | h
    · exact fx
    · rw [List.mem_singleton.mp h]; exact fy
end K00

namespace K00
open PySem PySem.Spec PyProof.Rows L2 LamX LamV XK0
theorem item_ext {L : Addr} {H H' : Hp} {i : XK0.It} {v : V} (k : ExtN H H') (h : Item L H i v) : Item L H' i v := by
  obtain ⟨t, m1, d1, m2, d2, f, dl, rfl, h1, h2, h3, h4, h5, ⟨F, hF, c, h6, h7⟩, h8, h9⟩ := h
  exact ⟨t, m1, d1, m2, d2, f, dl, rfl, k _ _ h1 (fun _ z => nomatch z), k _ _ h2 (fun _ => exo_tbl), k _ _ h3 exd_tbl, k _ _ h4 (fun _ => exo_tbl), k _ _ h5 exd_tbl, ⟨F, hF, c, k _ _ h6 (fun ps => lamO_tbl ps), k _ _ h7 (fun ps => codeO_ne ps)⟩, k _ _ h8 (fun _ z => nomatch z), h9⟩
theorem paired_app {α β : Type} {F : α → β → Prop} : ∀ {l1 r1 : List α} {l2 r2 : List β}, Paired F l1 l2 → Paired F r1 r2 → Paired F (l1 ++ r1) (l2 ++ r2)
  | _, _, _, _, .nil, h => h
  | _, _, _, _, .cons a t, h => .cons a (paired_app t h)
theorem paired_of_map {α β γ : Type} {F : β → γ → Prop} {g : α → β} : ∀ {l : List α} {r : List γ}, Paired F (l.map g) r → Paired (fun a c => F (g a) c) l r
  | [], _, h => by cases h; exact .nil
  | a :: l, _, h => by
    cases h with
    | cons h t => exact .cons h (paired_of_map t)
theorem paired_get {α β : Type} {F : α → β → Prop} : ∀ {l : List α} {r : List β} {i : Nat} {b : β}, Paired F l r → r[i]? = some b → ∃ a, l[i]? = some a ∧ F a b
  | _, _, _, _, .nil, h => by simp at h
  | _, _, 0, _, .cons a t, h => by simp at h; subst h; exact ⟨_, rfl, a⟩
  | _, _, i + 1, _, .cons a t, h => by
    obtain ⟨c, h1, h2⟩ := paired_get (i := i) t (by simpa using h)
    exact ⟨c, by simpa using h1, h2⟩
/-! ### the defs by their names -/
def Has (P : Program) (w : World) (K : PySem.W.Frag) (mg : Str → Option Value) (base : Heap) (x : Str) (k : Nat) (ps : List Str) (sp : Sp) : Prop := ∃ f fd, mg x = some (.ref f) ∧ PySem.W.keepIn K (.ref f) = true ∧ Binds K fd ps [] ∧ FnOk P w K mg base CX0 k f fd ps sp
def HasG (P : Program) (w : World) (K : PySem.W.Frag) (mg : Str → Option Value) (base : Heap) (x : Str) (k : Nat) (ps : List Str) (sp : Sp) : Prop := ∃ f fd, mg x = some (.ref f) ∧ PySem.W.keepIn K (.ref f) = true ∧ Binds K fd ps [] ∧ FnOkG P w K mg base CX0 k f fd ps sp
section
variable {X : Cx} {x : Str} {k : Nat} {ps : List Str} {sp : Sp} {e : Expr} {es : List Expr} {t : TA} {p pos : Pos}
theorem pe_has (F : Has X.prog X.w X.K X.mg X.base x k ps sp) (hr : Room k X.A) (hg : Gl X x) (ha : PA X (e :: es) t) (hdb : (x == ("__debug__" : Str)) = false := by decide)
    (he : starEach (e :: es) X.env = (false, eval e X.env) :: starEach es X.env := by rfl) (hpl : (backTo pos (starEach es X.env)).any (·.1) = false := by rfl) : PE X (.Call (.Name x p) (e :: es) [] pos) (tCall sp [] E0 t) := by
  obtain ⟨f, fd, g, kp, b, F⟩ := F
  exact pe_call F hr hg g kp b .nil pass0 ha hdb he hpl
theorem pe_hasG (hG : X.A.guards = some []) (F : HasG X.prog X.w X.K X.mg X.base x k ps sp) (hr : Room k X.A) (hg : Gl X x) (ha : PA X (e :: es) t) (hdb : (x == ("__debug__" : Str)) = false := by decide)
    (he : starEach (e :: es) X.env = (false, eval e X.env) :: starEach es X.env := by rfl) (hpl : (backTo pos (starEach es X.env)).any (·.1) = false := by rfl) : PE X (.Call (.Name x p) (e :: es) [] pos) (tCall sp [] E0 t) := by
  obtain ⟨f, fd, g, kp, b, F⟩ := F
  exact pe_callG hG F hr hg g kp b pass0 ha hdb he hpl
end
/-- the class D is the i-th of the seventy-two and right beneath TaskError -/
structure OwnC (K : PySem.W.Frag) (ca cb cc : List Addr) (TE : Addr) (D : Addr) (i : Nat) : Prop where
  xc : ExcC K D
  ka : KD K D ca
  kb : KD K D cb
  kc : KD K D cc
  te : PySem.W.kitOne K (.ref D) (.ref TE) = some true
  ve : PySem.W.kitOne K (.ref D) (.type "ValueError") = some true
  le : PySem.W.kitOne K (.ref D) (.type "LookupError") = some false
  is : isV D ca ++ isV D cb ++ isV D cc = (List.range 72).map (fun (k : Nat) => V.bl (decide ((k : Int) = (i : Int))))
/-- what is told of the i-th made pair -/
structure GoodI (K : PySem.W.Frag) (ca cb cc : List Addr) (TE : Addr) (i : Nat) (it : V → V → XK0.It) : Prop where
  ow : ∀ x y, OwnC K ca cb cc TE (it x y).C i
  xf : ∀ x y, XfC K (it x y).C
  no : ∀ x y, ∀ f ∈ (it x y).ns, PySem.W.findIn K (.ref (it x y).C) f = some none
  lk : ∀ x y, (it x y).ns.map (fun f => (it x y).fs.lookup f) = (it x y).due.map some
  du : ∀ x y, (it x y).due = [x] ∨ (it x y).due = [x, y]
structure LawF (P : Program) (w : World) (K : PySem.W.Frag) (mg : Str → Option Value) (base : Heap) (T : List (Addr × Str)) (ia ib ic : List (V → V → XK0.It)) (ca cb cc : List Addr) (TE : Addr) : Prop where
  pool : Has P w K mg base "_law_pool" 1 ["_law_script", "_law_turn"] (spPool K)
  mixed : Has P w K mg base "_law_mixed" 2 ["_law_pool_here", "_law_things"] (spMixed K)
  madeA : Has P w K mg base "_law_made_a" 3 ["_law_x", "_law_y"] (spMade T ia)
  madeB : Has P w K mg base "_law_made_b" 3 ["_law_x", "_law_y"] (spMade T ib)
  madeC : Has P w K mg base "_law_made_c" 3 ["_law_x", "_law_y"] (spMade T ic)
  kindsA : Has P w K mg base "_law_kinds_a" 1 ["_law_e"] (spKinds K ca)
  kindsB : Has P w K mg base "_law_kinds_b" 1 ["_law_e"] (spKinds K cb)
  kindsC : Has P w K mg base "_law_kinds_c" 1 ["_law_e"] (spKinds K cc)
  own : Has P w K mg base "_law_is_own" 2 ["_law_e", "_law_at"] (spOwn K ca cb cc TE)
  same : HasG P w K mg base "_law_same" 2 ["_law_found", "_law_due"] spSame
  good : ∀ i it, (ia ++ ib ++ ic)[i]? = some it → GoodI K ca cb cc TE i it
  len : (ia ++ ib ++ ic).length = 69
  lens : ia.length ≤ 100 ∧ ib.length ≤ 100 ∧ ic.length ≤ 100
  clen : ca.length ≤ 100 ∧ cb.length ≤ 100 ∧ cc.length ≤ 100
  three : ∃ C1 C2 C3, mg "UnlikeNames" = some (.ref C1) ∧ mg "UnlikeEntries" = some (.ref C2) ∧ mg "Nothing" = some (.ref C3) ∧ (∀ C ∈ [C1, C2, C3], ∃ (bmB : List Value) (B newId initId : String), ExcBaseFacts B newId initId bmB ∧ PySem.W.excIn K C bmB newId = true ∧ PySem.W.keepIn K (.ref C) = true) ∧
    OwnC K ca cb cc TE C1 69 ∧ OwnC K ca cb cc TE C2 70 ∧ OwnC K ca cb cc TE C3 71
  start : ∃ C, Ec1 K mg "BadStart" "thing" C ∧ XfC K C
  base : ∃ (bmB : List Value) (B newId initId : String), ExcBaseFacts B newId initId bmB ∧ mg "TaskError" = some (.ref TE) ∧ PySem.W.excIn K TE bmB newId = true ∧ PySem.W.keepIn K (.ref TE) = true ∧ ExcC K TE ∧ KD K TE ca ∧ KD K TE cb ∧ KD K TE cc ∧ TE ∉ ca ∧ TE ∉ cb ∧ TE ∉ cc ∧ PySem.W.kitOne K (.ref TE) (.type "ValueError") = some true
  gl : mg "len" = none
  ge : mg "enumerate" = none
  gi : mg "isinstance" = none
  gv : mg "ValueError" = none
theorem isV_no {D : Addr} : ∀ {cs : List Addr}, D ∉ cs → isV D cs = List.replicate cs.length (V.bl false)
  | [], _ => rfl
  | c :: cs, h => by
    have h1 : ¬ D = c := fun z => h (by rw [z]; exact List.mem_cons_self)
    have h2 := isV_no (cs := cs) (D := D) fun z => h (List.mem_cons_of_mem _ z)
    unfold isV at h2 ⊢
    rw [List.map_cons, h2, decide_eq_false h1]
    rfl
theorem no_flat {D : Addr} {ca cb cc : List Addr} : (isV D ca ++ isV D cb ++ isV D cc).all flatV = true := by
  rw [List.all_eq_true]
  intro v hv
  rcases List.mem_append.mp hv with h | h
  · rcases List.mem_append.mp h with h | h
    · obtain ⟨_, _, rfl⟩ := List.mem_map.mp h
      rfl
    · obtain ⟨_, _, rfl⟩ := List.mem_map.mp h
      rfl
  · obtain ⟨_, _, rfl⟩ := List.mem_map.mp h
    rfl
theorem no_in {D : Addr} {ca cb cc : List Addr} (ha : D ∉ ca) (hb : D ∉ cb) (hc : D ∉ cc) : (!inV (.bl true) (isV D ca ++ isV D cb ++ isV D cc)) = true := by
  rw [isV_no ha, isV_no hb, isV_no hc, Bool.not_eq_true']
  unfold inV
  rw [List.any_eq_false]
  intro v hv
  have e : v = .bl false := by
    rcases List.mem_append.mp hv with h | h
    · rcases List.mem_append.mp h with h | h
      · exact (List.mem_replicate.mp h).2
      · exact (List.mem_replicate.mp h).2
    · exact (List.mem_replicate.mp h).2
  rw [e]
  decide
section
variable {P : Program} {w : World} {K : PySem.W.Frag} {mg : Str → Option Value} {base : Heap} {f TE : Addr} {fd : FuncData} {T : List (Addr × Str)} {ia ib ic : List (V → V → XK0.It)} {ca cb cc : List Addr}
def spLaw (K : PySem.W.Frag) (T : List (Addr × Str)) : Sp := fun vs H Q _ => ∃ (a : Addr) (ns : List Int), vs = [.ref a] ∧ SqL K H a (ns.map V.int) ∧ ns.length ≤ 63 ∧ Tabs T H ∧ ∀ H', Q (.bl true) H'
theorem scLaw : FnScope ["_law_script", "_law_pool_here", "_law_some", "_law_x", "_law_y", "_law_made", "_law_at", "_law_mine", "_law_twin", "_law_field", "_law_due", "_law_k", "_law_e", "_law_held", "_law_kept", "_law_base"] ["_law_script"] (defScope sLaw) := ⟨rfl, rfl, rfl, by decide +kernel, rfl, by decide +kernel, by decide +kernel⟩
theorem ok_law (F : FnP K "law" sLaw f fd) (L : LawF P w K mg base T ia ib ic ca cb cc TE) : FnOkG P w K mg base CX0 4 f fd ["_law_script"] (spLaw K T) := by
  obtain ⟨C1, C2, C3, gU1, gU2, gU3, hU, o1, o2, o3⟩ := L.three
  obtain ⟨b1, B1, N1, I1, F1, x1, k1⟩ := hU C1 (by simp)
  obtain ⟨b2, B2, N2, I2, F2, x2, k2⟩ := hU C2 (by simp)
  obtain ⟨b3, B3, N3, I3, F3, x3, k3⟩ := hU C3 (by simp)
  obtain ⟨CS, ES, XS⟩ := L.start
  obtain ⟨b4, B4, N4, I4, F4, gT, x4, k4, xT, kTa, kTb, kTc, nTa, nTb, nTc, vT⟩ := L.base
  refine okG F scLaw (fun vs H Q E h => ?_) (fun cdv A outer s H vs Q E hG hr h => ?_)
  · obtain ⟨a, ns, rfl, _⟩ := h
    rfl
  · have hr2 : Room 2 (A.deeper (envOfC "law" (defScope sLaw) s.heap.objs.size f cdv)) := hr.mono (by decide)
    have hr1 : Room 1 (A.deeper (envOfC "law" (defScope sLaw) s.heap.objs.size f cdv)) := hr.mono (by decide)
    refine ⟨_, PSs.nox (pss_cons (ps_set (i := 1) scLaw.nd rfl (.inl rfl) (pe_has L.pool hr1 rfl (pa_cons (pv 0) (pa_cons pe_int pa_nil))))
      (pss_cons (ps_set (i := 2) scLaw.nd rfl (.inl rfl) (pe_lst (pa_cons pe_non (pa_cons pe_int (pa_cons (pe_un un_neg pe_int) (pa_cons pe_bl (pa_cons pe_str (pa_cons pe_str (pa_cons (pe_lst (pa_cons pe_int (pa_cons pe_str pa_nil))) (pa_cons (pe_tup (pa_cons pe_int (pa_cons pe_non pa_nil)))
        (pa_cons (pe_disp (pps_cons pe_str pe_int pps_nil) rfl rfl (by simp) (by decide)) (pa_cons (pe_lst (pa_cons (pe_lst (pa_cons pe_str pa_nil)) pa_nil)) (pa_cons (pe_op op_pow pe_int pe_int) (pa_cons (pe_tup (pa_cons pe_str (pa_cons pe_non pa_nil))) (pa_cons pe_bl pa_nil)))))))))))))))
      (pss_cons (ps_asg (pe_slice sl_list (pe_has L.mixed hr2 rfl (pa_cons (pv 1) (pa_cons (pv 2) pa_nil))) po_none (po_some pe_int)) (pg_lst rfl (pgs_cons (pg_name (i := 3) scLaw.nd rfl (.inl rfl)) (pgs_cons (pg_name (i := 4) scLaw.nd rfl (.inl rfl)) pgs_nil))))
      (pss_cons (ps_set (i := 5) scLaw.nd rfl (.inl rfl) (pe_op op_cat (pe_op op_cat (pe_has L.madeA hr rfl (pa_cons (pv 3) (pa_cons (pv 4) pa_nil))) (pe_has L.madeB hr rfl (pa_cons (pv 3) (pa_cons (pv 4) pa_nil)))) (pe_has L.madeC hr rfl (pa_cons (pv 3) (pa_cons (pv 4) pa_nil)))))
      (pss_cons (ps_for PassesOwn.never rfl (pi_enum rfl L.ge (pa_cons (pv 5) pa_nil)) (pg_tup rfl (pgs_cons (pg_name (i := 6) scLaw.nd rfl (.inl rfl)) (pgs_cons (pg_tup rfl (pgs_cons (pg_name (i := 7) scLaw.nd rfl (.inl rfl)) (pgs_cons (pg_name (i := 8) scLaw.nd rfl (.inl rfl)) (pgs_cons (pg_name (i := 9) scLaw.nd rfl (.inl rfl)) (pgs_cons (pg_name (i := 10) scLaw.nd rfl (.inl rfl)) pgs_nil))))) pgs_nil)))
        (pss_cons (ps_if (PW.pt (pw_or (pt_not (pt_val (pe_has L.own hr2 rfl (pa_cons (pv 7) (pa_cons (pv 6) pa_nil))))) (pw_or1 (pt_not (pt_val (pe_has L.own hr2 rfl (pa_cons (pv 8) (pa_cons (pv 6) pa_nil)))))))) (pss_one (ps_ret pe_bl)) pss_nil)
        (pss_one (ps_if (PW.pt (pw_or (pt_not (pt_val (pe_hasG hG L.same hr2 rfl (pa_cons (pe_lcall (i := 9) (LK := fun F sp => ∃ ns, Lm F ns ∧ sp = spLm K ns) (fun F sp ⟨ns, h, e⟩ => e ▸ lm_ok h) hr1 pass0 rfl (.inl rfl) (pa_cons (pv 7) pa_nil)) (pa_cons (pv 10) pa_nil)))))
          (pw_or1 (pt_not (pt_val (pe_hasG hG L.same hr2 rfl (pa_cons (pe_lcall (i := 9) (LK := fun F sp => ∃ ns, Lm F ns ∧ sp = spLm K ns) (fun F sp ⟨ns, h, e⟩ => e ▸ lm_ok h) hr1 pass0 rfl (.inl rfl) (pa_cons (pv 8) pa_nil)) (pa_cons (pv 10) pa_nil)))))))) (pss_one (ps_ret pe_bl)) pss_nil))))
      (pss_cons (ps_for PassesOwn.never rfl (pi_enum rfl L.ge (pa_cons (pe_lst (pa_cons (pe_mk0 F1 x1 gU1 k1 rfl) (pa_cons (pe_mk0 F2 x2 gU2 k2 rfl) (pa_cons (pe_mk0 F3 x3 gU3 k3 rfl) pa_nil)))) pa_nil)) (pg_tup rfl (pgs_cons (pg_name (i := 11) scLaw.nd rfl (.inl rfl)) (pgs_cons (pg_name (i := 12) scLaw.nd rfl (.inl rfl)) pgs_nil)))
        (pss_one (ps_if (pt_not (pt_val (pe_has L.own hr2 rfl (pa_cons (pv 12) (pa_cons (pe_op op_add (pe_callB call_len rfl L.gl boot_len (pa_cons (pv 5) pa_nil)) (pv 11)) pa_nil))))) (pss_one (ps_ret pe_bl)) pss_nil)))
      (pss_cons (ps_set (i := 13) scLaw.nd rfl (.inl rfl) (pe_lst (pa_cons pe_str pa_nil)))
      (pss_cons (ps_set (i := 14) scLaw.nd rfl (.inl rfl) (pe_new1 ES hr2 rfl (pv 13) (mo_var 13)))
      (pss_cons (ps_expr (pe_bm PySem.F.plainAttrs_list PySem.F.slot_list_append PySem.F.type_list_append mt_append (pv 13) (pa_cons pe_str pa_nil)))
      (pss_cons (ps_if (pt_cmpR (op_neD hr.units) (pe_xv (pv 14)) (pe_lst (pa_cons pe_str (pa_cons pe_str pa_nil))) (nomark _)) (pss_one (ps_ret pe_bl)) pss_nil)
      (pss_cons (ps_set (i := 15) scLaw.nd rfl (.inl rfl) (pe_mk0 F4 x4 gT k4 rfl))
      (pss_one (ps_ret (pe_and (pe_callB call_isX rfl L.gi boot_isinstance (pa_cons (pv 15) (pa_cons (pe_bltn (v := .ty "ValueError") rfl L.gv PyProof.Rows.Boot.«ValueError» rfl) pa_nil)))
        (pe_one (pe_cmpR op_notIn_seq pe_bl (pe_op op_cat (pe_op op_cat (pe_has L.kindsA hr1 rfl (pa_cons (pv 15) pa_nil)) (pe_has L.kindsB hr1 rfl (pa_cons (pv 15) pa_nil))) (pe_has L.kindsC hr1 rfl (pa_cons (pv 15) pa_nil))) (by with_unfolding_all rfl))))))))))))))))), ?_⟩
    obtain ⟨a, ns, rfl, hS, hn, hT, hQ⟩ := h
    refine ⟨.ref a, rfl, a, ns, rfl, hS, by omega, fun p H1 e1 np hP => ?_⟩
    have T1 : Tabs T H1 := hT.ext fun b o e => e1 b o e
    obtain ⟨pi, pj, pc, hp1, hpr⟩ := hP
    -- the thirteen objects
    refine ⟨1, rfl, by rw [sizeLine_eq]; show 2 ≤ _; omega, fun a6 n6 => ?_⟩
    have E6 : Ex H1 (upd H1 a6 (.lst [.int 1, .str "b"])) := Ex.new n6
    have g6 : upd H1 a6 (.lst [.int 1, .str "b"]) a6 = some (.lst [.int 1, .str "b"]) := upd_same
    generalize upd H1 a6 (.lst [.int 1, .str "b"]) = H6 at E6 g6 ⊢
    refine ⟨by rw [sizeLine_eq]; show 2 ≤ _; omega, fun a7 n7 => ?_⟩
    have E7 : Ex H6 (upd H6 a7 (.tup [.int 2, .non])) := Ex.new n7
    have g7 : upd H6 a7 (.tup [.int 2, .non]) a7 = some (.tup [.int 2, .non]) := upd_same
    generalize upd H6 a7 (.tup [.int 2, .non]) = H7 at E7 g7 ⊢
    refine fun a8 n8 => ⟨upd_same, [(.inr "a", .int 1)], rfl, by decide, ?_⟩
    rw [upd_upd]
    have E8 : Ex H7 (upd H7 a8 (.dK (mergeK [] [(.inr "a", .int 1)]))) := Ex.new n8
    have g8 : upd H7 a8 (.dK (mergeK [] [(.inr "a", .int 1)])) a8 = some (.dK [(.inr "a", .int 1)]) := by rw [upd_same]; rfl
    generalize upd H7 a8 (.dK (mergeK [] [(.inr "a", .int 1)])) = H8 at E8 g8 ⊢
    refine ⟨by rw [sizeLine_eq]; show 1 ≤ _; omega, fun a9i n9i => ?_⟩
    have E9i : Ex H8 (upd H8 a9i (.lst [.str "x"])) := Ex.new n9i
    have g9i : upd H8 a9i (.lst [.str "x"]) a9i = some (.lst [.str "x"]) := upd_same
    generalize upd H8 a9i (.lst [.str "x"]) = H9i at E9i g9i ⊢
    refine ⟨by rw [sizeLine_eq]; show 1 ≤ _; omega, fun a9 n9 => ?_⟩
    have E9 : Ex H9i (upd H9i a9 (.lst [.ref a9i])) := Ex.new n9
    have g9 : upd H9i a9 (.lst [.ref a9i]) a9 = some (.lst [.ref a9i]) := upd_same
    generalize upd H9i a9 (.lst [.ref a9i]) = H9 at E9 g9 ⊢
    refine ⟨10, 30, rfl, rfl, ⟨by decide, by decide, by decide⟩, by rw [sizeLine_eq]; show 2 ≤ _; omega, fun a11 n11 => ?_⟩
    have E11 : Ex H9 (upd H9 a11 (.tup [.str "note", .non])) := Ex.new n11
    have g11 : upd H9 a11 (.tup [.str "note", .non]) a11 = some (.tup [.str "note", .non]) := upd_same
    generalize upd H9 a11 (.tup [.str "note", .non]) = H11 at E11 g11 ⊢
    refine ⟨by rw [sizeLine_eq]; show 13 ≤ _; omega, fun so nso => ?_⟩
    have Eso : Ex H11 (upd H11 so (.lst (things a6 a7 a8 a9 a11))) := Ex.new nso
    have gso : upd H11 so (.lst (things a6 a7 a8 a9 a11)) so = some (.lst (things a6 a7 a8 a9 a11)) := upd_same
    show tSeq _ _ _ _ (upd H11 so (.lst (things a6 a7 a8 a9 a11)))
    generalize upd H11 so (.lst (things a6 a7 a8 a9 a11)) = HS at Eso gso ⊢
    have E1S : Ex H1 HS := ((((((E6.trans E7).trans E8).trans E9i).trans E9).trans E11).trans Eso)
    have pne : ∀ {Hx : Hp} {b : Addr}, Ex H1 Hx → Hx b = none → b ≠ p := fun {Hx b} ex nb z => by
      rw [z, ex _ _ hp1] at nb
      cases nb
    have p6 := pne Ex.refl n6
    have p7 := pne E6 n7
    have p8 := pne (E6.trans E7) n8
    have p9i := pne ((E6.trans E7).trans E8) n9i
    have p9 := pne (((E6.trans E7).trans E8).trans E9i) n9
    have p11 := pne ((((E6.trans E7).trans E8).trans E9i).trans E9) n11
    have pso := pne (((((E6.trans E7).trans E8).trans E9i).trans E9).trans E11) nso
    -- x, y
    refine ⟨.ref p, rfl, .ref so, rfl, p, so, 0, things a6 a7 a8 a9 a11, rfl, ⟨pi, pj, pc, E1S _ _ hp1, hpr⟩, by decide, by decide, gso, pso, by show 13 ≤ 60; omega, fun q H3 ys old nq hq ly my => ?_⟩
    have O3 : Objs H3 a6 a7 a8 a9i a9 a11 := ⟨old _ _ ((((((E7.trans E8).trans E9i).trans E9).trans E11).trans Eso) _ _ g6) p6, old _ _ (((((E8.trans E9i).trans E9).trans E11).trans Eso) _ _ g7) p7, old _ _ ((((E9i.trans E9).trans E11).trans Eso) _ _ g8) p8,
      old _ _ (((E9.trans E11).trans Eso) _ _ g9i) p9i, old _ _ ((E11.trans Eso) _ _ g9) p9, old _ _ (Eso _ _ g11) p11⟩
    have T3 : Tabs T H3 := Tabs.keep (T1.ext fun b o e => E1S b o e) fun b o e nl => old b o e fun z => by
      rw [z, E1S _ _ hp1] at e
      exact nl _ (Option.some.inj e).symm
    obtain ⟨x, y, r, rfl⟩ : ∃ x y r, ys = x :: y :: r := by
      rcases ys with _ | ⟨x, _ | ⟨y, r⟩⟩
      · cases ly
      · cases ly
      · exact ⟨x, y, r, rfl⟩
    have hx : x ∈ things a6 a7 a8 a9 a11 := my x List.mem_cons_self
    have hy : y ∈ things a6 a7 a8 a9 a11 := my y (List.mem_cons_of_mem _ List.mem_cons_self)
    refine ⟨2, rfl, q, _, rfl, .inl (.inl hq), fun sl nsl => ?_⟩
    have ecut : cutV (x :: y :: r) none (some (2 : Int)) = [x, y] := cut_to 2 (by simp)
    rw [ecut]
    have E4 : Ex H3 (upd H3 sl (.lst [x, y])) := Ex.new nsl
    have g4 : upd H3 sl (.lst [x, y]) sl = some (.lst [x, y]) := upd_same
    refine ⟨sl, [x, y], rfl, SqL.of g4, rfl, x, [y], rfl, y, [], rfl, rfl, ?_⟩
    generalize upd H3 sl (.lst [x, y]) = H4 at E4 g4 ⊢
    have T4 : Tabs T H4 := T3.ext fun b o e => E4 b o e
    -- made
    refine ⟨x, rfl, y, rfl, x, y, rfl, T4, fun LA HA nA mA kA => ?_⟩
    have NA : ExtN H4 HA := fun b o e nt => kA b o e nt (ne_of_none e nA)
    refine ⟨x, rfl, y, rfl, x, y, rfl, mA.tab, fun LB HB nB mB kB => ?_⟩
    have NB : ExtN HA HB := fun b o e nt => kB b o e nt (ne_of_none e nB)
    obtain ⟨vA, lA, pA⟩ := mA.lst
    obtain ⟨vB, lB, pB⟩ := mB.lst
    have lA' : HB LA = some (.lst vA) := NB _ _ lA (fun _ z => nomatch z)
    have eA : vA.length = ia.length := by rw [← Paired.length pA, List.length_map]
    have eB : vB.length = ib.length := by rw [← Paired.length pB, List.length_map]
    have hlens := L.lens
    refine ⟨LA, LB, vA, vB, rfl, rfl, lA', lB, by rw [sizeLine_eq]; omega, fun q1 nq1 => ?_⟩
    have E5 : Ex HB (upd HB q1 (.lst (vA ++ vB))) := Ex.new nq1
    have g5 : upd HB q1 (.lst (vA ++ vB)) q1 = some (.lst (vA ++ vB)) := upd_same
    generalize upd HB q1 (.lst (vA ++ vB)) = H5 at E5 g5 ⊢
    refine ⟨x, rfl, y, rfl, x, y, rfl, mB.tab.ext fun b o e => E5 b o e, fun LC HC nC mC kC => ?_⟩
    have NC : ExtN H5 HC := fun b o e nt => kC b o e nt (ne_of_none e nC)
    obtain ⟨vC, lC, pC⟩ := mC.lst
    have eC : vC.length = ic.length := by rw [← Paired.length pC, List.length_map]
    refine ⟨q1, LC, vA ++ vB, vC, rfl, rfl, NC _ _ g5 (fun _ z => nomatch z), lC, by rw [sizeLine_eq, List.length_append]; omega, fun q2 nq2 => ?_⟩
    have E6' : Ex HC (upd HC q2 (.lst (vA ++ vB ++ vC))) := Ex.new nq2
    have g6' : upd HC q2 (.lst (vA ++ vB ++ vC)) q2 = some (.lst (vA ++ vB ++ vC)) := upd_same
    show tSeq _ _ _ _ (upd HC q2 (.lst (vA ++ vB ++ vC)))
    generalize upd HC q2 (.lst (vA ++ vB ++ vC)) = HM at E6' g6' ⊢
    have NAM : ExtN HA HM := ((NB.trans (ExtN.of E5)).trans NC).trans (ExtN.of E6')
    have NBM : ExtN HB HM := ((ExtN.of E5).trans NC).trans (ExtN.of E6')
    have OM : Objs HM a6 a7 a8 a9i a9 a11 := O3.keep fun b o e nt => NAM b o (NA b o (E4 b o e) nt) nt
    have pM : Paired (fun (i : V → V → XK0.It) v => ∃ L, Item L HM (i x y) v) (ia ++ ib ++ ic) (vA ++ vB ++ vC) :=
      paired_app (paired_app (Paired.mapP (paired_of_map pA) fun i v z => ⟨LA, item_ext NAM z⟩) (Paired.mapP (paired_of_map pB) fun i v z => ⟨LB, item_ext NBM z⟩)) (Paired.mapP (paired_of_map pC) fun i v z => ⟨LC, item_ext (ExtN.of E6') z⟩)
    have eM : (vA ++ vB ++ vC).length = 69 := by rw [← Paired.length pM, L.len]
    generalize vA ++ vB ++ vC = vM at g6' pM eM ⊢
    -- the loop over what was made
    refine ⟨.ref q2, rfl, q2, vM, rfl, .inl (.inl g6'), ?_⟩
    refine ⟨fun i m σ H2 => m = 69 - i ∧ i ≤ 69 ∧ ExtN HM H2 ∧ ∃ o6 o7 o8 o9 o10 : Option V, σ = [some (.ref a), some (.ref p), some (.ref so), some x, some y, some (.ref q2), o6, o7, o8, o9, o10, none, none, none, none, none],
      ⟨69, rfl, by omega, ExtN.refl _, none, none, none, none, none, rfl⟩, fun i m σ H2 hW => ?_⟩
    obtain ⟨rfl, hi, NX, o6, o7, o8, o9, o10, rfl⟩ := hW
    have sqM : SqL K H2 q2 vM := .inl (.inl (NX _ _ g6' (fun _ z => nomatch z)))
    by_cases hlt : i < 69
    · have hv : i < vM.length := by omega
      refine .inr ⟨⟨vM, vM[i], sqM, List.getElem?_eq_getElem hv⟩, fun σ' H' => ExtN HM H' ∧ ∃ o6 o7 o8 o9 o10 : Option V, σ' = [some (.ref a), some (.ref p), some (.ref so), some x, some y, some (.ref q2), o6, o7, o8, o9, o10, none, none, none, none, none],
        fun σ' H' ⟨n', z⟩ => ⟨69 - (i + 1), by omega, rfl, by omega, n', z⟩, fun v H' hy => ?_⟩
      obtain ⟨Tp, xi, rfl, nT, rfl, fx⟩ := hy
      have exi : xi = vM[i] := Option.some.inj ((fx _ sqM).symm.trans (List.getElem?_eq_getElem hv))
      obtain ⟨it, hit, LI, t, m1, d1, m2, d2, fl, dl, ev, h1, h2, h3, h4, h5, ⟨Fl, hLm, cL, hl1, hl2⟩, h7, h8⟩ := paired_get pM (List.getElem?_eq_getElem hv)
      have G := L.good i it hit
      have ow := G.ow x y
      have ET : Ex H2 (upd H2 Tp (.tup [.int (i : Nat), xi])) := Ex.new nT
      have gT' : upd H2 Tp (.tup [.int (i : Nat), xi]) Tp = some (.tup [.int (i : Nat), xi]) := upd_same
      have NT : ExtN HM (upd H2 Tp (.tup [.int (i : Nat), xi])) := NX.trans (ExtN.of ET)
      generalize upd H2 Tp (.tup [.int (i : Nat), xi]) = HT at ET gT' NT ⊢
      refine ⟨Tp, [.int (i : Nat), xi], rfl, .inl (.inl gT'), rfl, .int (i : Nat), [xi], rfl, xi, [], rfl, t, [.ref m1, .ref m2, .ref fl, .ref dl], exi.trans ev, .inl (.inl (NT _ _ h1 (fun _ z => nomatch z))), rfl, .ref m1, _, rfl, .ref m2, _, rfl, .ref fl, _, rfl, .ref dl, [], rfl, rfl, rfl, ?_⟩
      have IX : ∀ {Hx : Hp}, ExtN HM Hx → IsX Hx m1 (it x y).C ∧ IsX Hx m2 (it x y).C := fun {Hx} k => ⟨.inr ⟨d1, _, k _ _ h2 (fun _ => exo_tbl), k _ _ h3 exd_tbl⟩, .inr ⟨d2, _, k _ _ h4 (fun _ => exo_tbl), k _ _ h5 exd_tbl⟩⟩
      refine ⟨.ref m1, rfl, .int (i : Nat), rfl, m1, _, _, rfl, (IX NT).1, ow.xc, ow.ka, ow.kb, ow.kc, ow.te, ow.ve, ow.le, ow.is, fun Ha xa => ⟨true, rfl, ?_⟩⟩
      have Na : ExtN HM Ha := NT.trans (ExtN.of xa)
      refine ⟨.ref m2, rfl, .int (i : Nat), rfl, m2, _, _, rfl, (IX Na).2, ow.xc, ow.ka, ow.kb, ow.kc, ow.te, ow.ve, ow.le, ow.is, fun Hb xb => ⟨true, rfl, ?_⟩⟩
      have Nb : ExtN HM Hb := Na.trans (ExtN.of xb)
      have IL : ∀ {Hx : Hp}, ExtN HM Hx → IsLam Hx fl Fl := fun {Hx} k => ⟨cL, k _ _ hl1 (fun ps => lamO_tbl ps), k _ _ hl2 (fun ps => codeO_ne ps)⟩
      refine ⟨fl, Fl, spLm K (it x y).ns, rfl, IL Nb, ⟨_, hLm, rfl⟩, .ref m1, rfl, IL Nb, m1, _, d1, _, _, rfl, Nb _ _ h2 (fun _ => exo_tbl), Nb _ _ h3 exd_tbl, G.xf x y, G.no x y, G.lk x y, fun pp npp => ?_⟩
      have Nc : ExtN HM (upd Hb pp (.lst (it x y).due)) := Nb.trans (ExtN.of (Ex.new npp))
      have gp : upd Hb pp (.lst (it x y).due) pp = some (.lst (it x y).due) := upd_same
      generalize upd Hb pp (.lst (it x y).due) = Hc at Nc gp ⊢
      obtain ⟨ds, pr, s1, s2, s3, sf⟩ := due_rd (OM.keep Nc) hx hy (G.du x y)
      have hdl : Hc dl = some (.lst (it x y).due) := Nc _ _ h7 (fun _ z => nomatch z)
      refine ⟨.ref dl, rfl, pp, dl, 5, .list ds, (it x y).due, rfl, ⟨pp, _, rfl, gp, pr⟩, ⟨dl, _, rfl, hdl, pr⟩, s1, s2, s3, gp, hdl, sf, ⟨true, rfl, ?_⟩⟩
      refine ⟨fl, Fl, spLm K (it x y).ns, rfl, IL Nc, ⟨_, hLm, rfl⟩, .ref m2, rfl, IL Nc, m2, _, d2, _, _, rfl, Nc _ _ h4 (fun _ => exo_tbl), Nc _ _ h5 exd_tbl, G.xf x y, G.no x y, G.lk x y, fun pq npq => ?_⟩
      have Nd : ExtN HM (upd Hc pq (.lst (it x y).due)) := Nc.trans (ExtN.of (Ex.new npq))
      have gq : upd Hc pq (.lst (it x y).due) pq = some (.lst (it x y).due) := upd_same
      generalize upd Hc pq (.lst (it x y).due) = Hd at Nd gq ⊢
      obtain ⟨ds2, pr2, z1, z2, z3, zf⟩ := due_rd (OM.keep Nd) hx hy (G.du x y)
      have hdl2 : Hd dl = some (.lst (it x y).due) := Nd _ _ h7 (fun _ z => nomatch z)
      refine ⟨.ref dl, rfl, pq, dl, 5, .list ds2, (it x y).due, rfl, ⟨pq, _, rfl, gq, pr2⟩, ⟨dl, _, rfl, hdl2, pr2⟩, z1, z2, z3, gq, hdl2, zf, ⟨true, rfl, ?_⟩⟩
      exact ⟨Nd, _, _, _, _, _, rfl⟩
    · refine .inl ⟨⟨vM, sqM, by omega⟩, ?_⟩
      -- the three without a field
      refine fun e1 m1 => ?_
      have EE1 : Ex H2 (upd H2 e1 (exo e1 C1 none)) := Ex.new m1
      have f1 : upd H2 e1 (exo e1 C1 none) e1 = some (exo e1 C1 none) := upd_same
      generalize upd H2 e1 (exo e1 C1 none) = Z1 at EE1 f1 ⊢
      refine fun e2 m2 => ?_
      have EE2 : Ex Z1 (upd Z1 e2 (exo e2 C2 none)) := Ex.new m2
      have f2 : upd Z1 e2 (exo e2 C2 none) e2 = some (exo e2 C2 none) := upd_same
      generalize upd Z1 e2 (exo e2 C2 none) = Z2 at EE2 f2 ⊢
      refine fun e3 m3 => ?_
      have EE3 : Ex Z2 (upd Z2 e3 (exo e3 C3 none)) := Ex.new m3
      have f3 : upd Z2 e3 (exo e3 C3 none) e3 = some (exo e3 C3 none) := upd_same
      generalize upd Z2 e3 (exo e3 C3 none) = Z3 at EE3 f3 ⊢
      refine ⟨by rw [sizeLine_eq]; show 3 ≤ _; omega, fun l3 nl3 => ?_⟩
      have EE4 : Ex Z3 (upd Z3 l3 (.lst [.ref e1, .ref e2, .ref e3])) := Ex.new nl3
      have f4 : upd Z3 l3 (.lst [.ref e1, .ref e2, .ref e3]) l3 = some (.lst [.ref e1, .ref e2, .ref e3]) := upd_same
      refine ⟨l3, [.ref e1, .ref e2, .ref e3], rfl, .inl (.inl f4), ?_⟩
      generalize upd Z3 l3 (.lst [.ref e1, .ref e2, .ref e3]) = Z4 at EE4 f4 ⊢
      have hZ : ∀ i, i < 3 → ∃ (e C : Addr), ([.ref e1, .ref e2, .ref e3] : List V)[i]? = some (.ref e) ∧ Z4 e = some (exo e C none) ∧ OwnC K ca cb cc TE C (69 + i) := fun i hi => by
        match i, hi with
        | 0, _ => exact ⟨e1, C1, rfl, (EE2.trans (EE3.trans EE4)) _ _ f1, o1⟩
        | 1, _ => exact ⟨e2, C2, rfl, (EE3.trans EE4) _ _ f2, o2⟩
        | 2, _ => exact ⟨e3, C3, rfl, EE4 _ _ f3, o3⟩
      have gq2 : Z4 q2 = some (.lst vM) := (EE1.trans (EE2.trans (EE3.trans EE4))) _ _ (NX _ _ g6' (fun _ z => nomatch z))
      refine ⟨fun i m σ H2 => m = 3 - i ∧ i ≤ 3 ∧ Ex Z4 H2 ∧ ∃ o11 o12 : Option V, σ = [some (.ref a), some (.ref p), some (.ref so), some x, some y, some (.ref q2), o6, o7, o8, o9, o10, o11, o12, none, none, none],
        ⟨3, rfl, by omega, Ex.refl, none, none, rfl⟩, fun i m σ H2 hW => ?_⟩
      obtain ⟨rfl, hi, NX2, o11, o12, rfl⟩ := hW
      have sq3 : SqL K H2 l3 [.ref e1, .ref e2, .ref e3] := .inl (.inl (NX2 _ _ f4))
      by_cases hl3 : i < 3
      · obtain ⟨e, C, he, hx', hO⟩ := hZ i hl3
        refine .inr ⟨⟨_, _, sq3, he⟩, fun σ' H' => Ex Z4 H' ∧ ∃ o11 o12 : Option V, σ' = [some (.ref a), some (.ref p), some (.ref so), some x, some y, some (.ref q2), o6, o7, o8, o9, o10, o11, o12, none, none, none],
          fun σ' H' ⟨n', z⟩ => ⟨3 - (i + 1), by omega, rfl, by omega, n', z⟩, fun v H' hy => ?_⟩
        obtain ⟨Tp, xi, rfl, nT, rfl, fx⟩ := hy
        have exi : xi = .ref e := Option.some.inj ((fx _ sq3).symm.trans he)
        subst exi
        have ET : Ex H2 (upd H2 Tp (.tup [.int (i : Nat), .ref e])) := Ex.new nT
        have gT' : upd H2 Tp (.tup [.int (i : Nat), .ref e]) Tp = some (.tup [.int (i : Nat), .ref e]) := upd_same
        generalize upd H2 Tp (.tup [.int (i : Nat), .ref e]) = HT at ET gT' ⊢
        have NT : Ex Z4 HT := NX2.trans ET
        have his : isV C ca ++ isV C cb ++ isV C cc = (List.range 72).map (fun (k : Nat) => V.bl (decide ((k : Int) = ((vM.length : Nat) : Int) + ((i : Nat) : Int)))) := by
          rw [hO.is, eM]
          rfl
        refine ⟨Tp, [.int (i : Nat), .ref e], rfl, .inl (.inl gT'), rfl, .int (i : Nat), [.ref e], rfl, .ref e, [], rfl, rfl, ?_⟩
        refine ⟨.ref e, rfl, .ref q2, rfl, .ref q2, _, rfl, .inl ⟨vM, .inl (.inl (NT _ _ gq2)), rfl⟩, .int (i : Nat), rfl, _, _, rfl, rfl, e, C, _, rfl, .inl (NT _ _ hx'), hO.xc, hO.ka, hO.kb, hO.kc, hO.te, hO.ve, hO.le, his, fun Ha xa => ⟨true, rfl, ?_⟩⟩
        exact ⟨NT.trans xa, _, _, rfl⟩
      · refine .inl ⟨⟨_, sq3, by show 3 ≤ i; omega⟩, ?_⟩
        -- held, kept
        refine ⟨by rw [sizeLine_eq]; show 1 ≤ _; omega, fun hd nhd => ?_⟩
        have EH : Ex H2 (upd H2 hd (.lst [.str "v"])) := Ex.new nhd
        have gH : upd H2 hd (.lst [.str "v"]) hd = some (.lst [.str "v"]) := upd_same
        show tSeq _ _ _ _ (upd H2 hd (.lst [.str "v"]))
        generalize upd H2 hd (.lst [.str "v"]) = J1 at EH gH ⊢
        refine ⟨.ref hd, rfl, fun ka kd nka nkd ne => ?_⟩
        have gk : upd (upd J1 kd (exd kd [("thing", .ref hd)])) ka (exo ka CS (some kd)) ka = some (exo ka CS (some kd)) := upd_same
        have gkd : upd (upd J1 kd (exd kd [("thing", .ref hd)])) ka (exo ka CS (some kd)) kd = some (exd kd [("thing", .ref hd)]) := by rw [upd_ne ne, upd_same]
        have EK : Ex J1 (upd (upd J1 kd (exd kd [("thing", .ref hd)])) ka (exo ka CS (some kd))) := new_ext nka nkd
        show tSeq _ _ _ _ (upd (upd J1 kd (exd kd [("thing", .ref hd)])) ka (exo ka CS (some kd)))
        generalize upd (upd J1 kd (exd kd [("thing", .ref hd)])) ka (exo ka CS (some kd)) = J2 at gk gkd EK ⊢
        have gH2 := EK _ _ gH
        refine ⟨.ref hd, rfl, .inl ⟨rfl, _, .inl (.inl gH2)⟩, hd, _, _, rfl, rfl, gH2, by rw [sizeLine_eq]; show 1 < _; omega, ?_⟩
        have gk3 : upd J2 hd (.lst ([.str "v"] ++ [.str "w"])) ka = some (exo ka CS (some kd)) := by rw [upd_ne (not_at gH2 gk (exo_lst _))]; exact gk
        have gkd3 : upd J2 hd (.lst ([.str "v"] ++ [.str "w"])) kd = some (exd kd [("thing", .ref hd)]) := by rw [upd_ne (not_at gH2 gkd (exd_lst _))]; exact gkd
        have gH3 : upd J2 hd (.lst ([.str "v"] ++ [.str "w"])) hd = some (.lst ([.str "v"] ++ [.str "w"])) := upd_same
        show tSeq _ _ _ _ (upd J2 hd (.lst ([.str "v"] ++ [.str "w"])))
        generalize upd J2 hd (.lst ([.str "v"] ++ [.str "w"])) = J3 at gk3 gkd3 gH3 ⊢
        refine ⟨.ref ka, rfl, ka, CS, kd, _, .ref hd, rfl, gk3, gkd3, XS, ES.no, rfl, by rw [sizeLine_eq]; show 2 ≤ _; omega, fun lw nlw => ?_⟩
        have EW : Ex J3 (upd J3 lw (.lst [.str "v", .str "w"])) := Ex.new nlw
        have gW : upd J3 lw (.lst [.str "v", .str "w"]) lw = some (.lst [.str "v", .str "w"]) := upd_same
        refine ⟨.list [.str "v", .str "w"], .list [.str "v", .str "w"], .lst (.inl (.inl (EW _ _ gH3))) (.cons (.str _) (.cons (.str _) .nil)), .lst (.inl (.inl gW)) (.cons (.str _) (.cons (.str _) .nil)), by decide +kernel, by decide +kernel, _, rfl, ?_⟩
        show (if (!PyData.eqv (.list [.str "v", .str "w"]) (.list [.str "v", .str "w"])) = true then _ else _)
        rw [if_neg (by decide +kernel)]
        refine fun bs nbs => ?_
        have EB : Ex (upd J3 lw (.lst [.str "v", .str "w"])) (upd (upd J3 lw (.lst [.str "v", .str "w"])) bs (exo bs TE none)) := Ex.new nbs
        have gB : upd (upd J3 lw (.lst [.str "v", .str "w"])) bs (exo bs TE none) bs = some (exo bs TE none) := upd_same
        refine ⟨.ref bs, rfl, bs, TE, .ty "ValueError", .type "ValueError", true, rfl, .inl gB, xT, fun u r => r, vT, true, rfl, ?_⟩
        rw [if_pos rfl]
        have hcl := L.clen
        have ea := isV_len TE ca
        have eb := isV_len TE cb
        have ec := isV_len TE cc
        refine ⟨.ref bs, rfl, bs, TE, rfl, .inl gB, xT, kTa, fun La Ha xa la' => ?_⟩
        refine ⟨.ref bs, rfl, bs, TE, rfl, .inl (xa _ _ gB), xT, kTb, fun Lb Hb xb lb' => ?_⟩
        refine ⟨La, Lb, _, _, rfl, rfl, xb _ _ la', lb', by rw [sizeLine_eq]; omega, fun u1 nu1 => ?_⟩
        have xp : Ex Hb (upd Hb u1 (.lst (isV TE ca ++ isV TE cb))) := Ex.new nu1
        refine ⟨.ref bs, rfl, bs, TE, rfl, .inl (((xa.trans xb).trans xp) _ _ gB), xT, kTc, fun Lc Hc xc lc' => ?_⟩
        refine ⟨u1, Lc, _, _, rfl, rfl, xc _ _ upd_same, lc', by rw [sizeLine_eq, List.length_append]; omega, fun u2 nu2 => ?_⟩
        refine ⟨u2, _, rfl, .inl (.inl (.inl upd_same)), rfl, no_flat, ?_⟩
        rw [if_pos rfl, no_in nTa nTb nTc]
        exact hQ _
end
end K00

namespace K00
open PySem PySem.Spec PyProof.Rows L2 LamX LamV XK0
/-! ### what is asked of a class, as a test of the head's part -/
def tailV : List Value := [.type "ValueError", .type "Exception", .type "BaseException", .type "object"]
def oexB (K : PySem.W.Frag) (C : Addr) : Bool := match K.lookup C with
  | some ⟨.type t, _, .cls cd, sl⟩ => decide (t = "type") && (!cd.hasDel && (cd.hasDict && ((match cd.mro with
      | .ref C' :: bm => decide (C' = C) && PySem.HandSPX.refsVE bm
      | _ => false) && (match sl.toList with
      | [_, _, _, _, some (.builtin n), _] => decide (n = "ValueError.__new__")
      | _ => false))))
  | _ => false
theorem oexB_ok {K : PySem.W.Frag} {C : Addr} (h : oexB K C = true) : ∃ nm q N bs bm sn sub ab col dd k0 k1 k2 k3 k5, K.lookup C = some (excClassObj nm q C N bs bm true sn sub ab col dd k0 k1 k2 k3 k5 "ValueError.__new__") ∧ PySem.HandSPX.refsVE bm = true := by
  unfold oexB at h
  split at h
  · rename_i t dd cd sl ho
    obtain ⟨nm, bs, mro, ns, qn, hd, sn, sub, ab, col, del⟩ := cd
    simp only [Bool.and_eq_true, decide_eq_true_eq, Bool.not_eq_true'] at h
    obtain ⟨rfl, h1, h2, h3, h4⟩ := h
    subst h1 h2
    split at h3
    · rename_i C' bm
      simp only [Bool.and_eq_true, decide_eq_true_eq] at h3
      obtain ⟨rfl, h3⟩ := h3
      split at h4
      · rename_i k0 k1 k2 k3 n k5 hs
        have hn : n = "ValueError.__new__" := of_decide_eq_true h4
        subst hn
        have hsl : sl = #[k0, k1, k2, k3, some (.builtin "ValueError.__new__"), k5] := by
          obtain ⟨l⟩ := sl
          simp only at hs
          rw [hs]
        subst hsl
        exact ⟨nm, qn, ns, bs, bm, sn, sub, ab, col, dd, k0, k1, k2, k3, k5, ho, h3⟩
      · cases h4
    · cases h3
  · cases h
def eqV' (a b : Option (Option Value)) : Bool := decide (a = b)
/-- the class by its name: right beneath TaskError (or it itself), as it stands behind the top -/
def clsB (K : PySem.W.Frag) (up : List Value) (x : Str) (fs : List Str) : Bool :=
  let C := He.ga K x
  He.eqO (PySem.W.nsIn K mainGlobals x) (some (some (.ref C))) && (oexB K C && (He.eqO (PySem.W.findIn K (.ref C) "__setattr__") (some (some (.builtin "object.__setattr__"))) && (xfB K C && (He.eqO (PySem.W.findIn K (.ref C) "__class__") (some (some (.builtin "object.__class__"))) &&
    (PySem.W.keepIn K (.ref C) && (decide (PySem.W.typeIn K (.ref C) = some (.type "type")) && ((PySem.W.clsIn K C).any (fun cd => decide (cd.mro = .ref C :: up)) && fs.all fun f => He.eqO (PySem.W.findIn K (.ref C) f) (some none))))))))
structure ClsF (K : PySem.W.Frag) (mg : Str → Option Value) (up : List Value) (x : Str) (fs : List Str) : Prop where
  gl : mg x = some (.ref (He.ga K x))
  ox : OexC K (He.ga K x)
  xf : XfC K (He.ga K x)
  ha : PySem.W.findIn K (.ref (He.ga K x)) "__class__" = some (some (.builtin "object.__class__"))
  mro : ∃ cd, PySem.W.clsIn K (He.ga K x) = some cd ∧ cd.mro = .ref (He.ga K x) :: up
  no : ∀ f ∈ fs, PySem.W.findIn K (.ref (He.ga K x)) f = some none
theorem any_ok {α : Type} {o : Option α} {p : α → Bool} (h : o.any p = true) : ∃ a, o = some a ∧ p a = true := by
  cases o with
  | none => cases h
  | some a => exact ⟨a, rfl, h⟩
theorem clsB_ok {K : PySem.W.Frag} {mg : Str → Option Value} {h : Heap} {up : List Value} {x : Str} {fs : List Str} (X : K.In h) (G : h.Ns mainGlobals mg) (c : clsB K up x fs = true) : ClsF K mg up x fs := by
  unfold clsB at c
  obtain ⟨c1, c⟩ := He.ba c
  obtain ⟨c2, c⟩ := He.ba c
  obtain ⟨c3, c⟩ := He.ba c
  obtain ⟨c4, c⟩ := He.ba c
  obtain ⟨c5, c⟩ := He.ba c
  obtain ⟨c6, c⟩ := He.ba c
  obtain ⟨c7, c⟩ := He.ba c
  obtain ⟨c8, c9⟩ := He.ba c
  have XF := xfB_ok c4
  obtain ⟨cd, hc, hm⟩ := any_ok c8
  exact ⟨PySem.W.mg_of X G (He.eqO_ok c1), ⟨oexB_ok c2, He.eqO_ok c3, XF.exC, of_decide_eq_true c7, c6⟩, XF, He.eqO_ok c5, ⟨cd, hc, of_decide_eq_true hm⟩, fun f hf => He.eqO_ok (List.all_eq_true.mp c9 f hf)⟩
/-- what does not hang on the class -/
structure Com (K : PySem.W.Frag) : Prop where
  hn : PySem.W.specialIn K (.builtin "object.__class__") "__get__" = some (some (.builtin "getset_descriptor.__get__"))
  ht : PySem.W.takesIn K (.builtin "object.__class__") = some true
section
variable {K : PySem.W.Frag} {mg : Str → Option Value} {up : List Value} {x : Str} {fs : List Str}
theorem ClsF.xc (c : ClsF K mg up x fs) (m : Com K) (hu : up.contains (.type "object") = true) : ExcC K (He.ga K x) := by
  obtain ⟨cd, hc, hm⟩ := c.mro
  refine ⟨c.xf.ga, c.xf.gg, c.xf.exC, c.xf.hdC, c.ha, m.hn, m.ht, ?_⟩
  unfold PySem.W.mroIn
  rw [hc, Option.bind_some, hm, if_neg (by simp), List.contains_cons, hu, Bool.or_true]
theorem ClsF.isC (c : ClsF K mg up x fs) : ((PySem.W.clsIn K (He.ga K x)).isSome && PySem.W.typeIn K (.ref (He.ga K x)) == some (.type "type")) = true := by
  obtain ⟨cd, hc, _⟩ := c.mro
  rw [hc, c.ox.tyC]
  rfl
theorem kit_ref (c : ClsF K mg up x fs) {C : Addr} (hne : He.ga K x ≠ C) (hC : ((PySem.W.clsIn K C).isSome && PySem.W.typeIn K (.ref C) == some (.type "type")) = true) : PySem.W.kitOne K (.ref (He.ga K x)) (.ref C) = some (up.contains (.ref C)) := by
  obtain ⟨cd, hc, hm⟩ := c.mro
  have e0 : (Value.ref (He.ga K x) == Value.ref C) = false := beq_eq_false_iff_ne.mpr fun z => hne (Value.ref.inj z)
  unfold PySem.W.kitOne
  rw [e0, if_neg (by decide)]
  show (if ((PySem.W.clsIn K C).isSome && PySem.W.typeIn K (.ref C) == some (.type "type")) = true then PySem.W.mroIn K (He.ga K x) (.ref C) else none) = _
  rw [if_pos hC]
  unfold PySem.W.mroIn
  rw [hc, Option.bind_some, hm, if_neg (by simp), List.contains_cons]
  have e1 : (Value.ref C == Value.ref (He.ga K x)) = false := beq_eq_false_iff_ne.mpr fun z => hne (Value.ref.inj z).symm
  rw [e1, Bool.false_or]
theorem kit_same {C : Addr} : PySem.W.kitOne K (.ref C) (.ref C) = some true := by
  unfold PySem.W.kitOne
  rw [if_pos (by simp)]
theorem kit_type (c : ClsF K mg up x fs) {T : String} (hT : PySem.W.kitMeta T = true) : PySem.W.kitOne K (.ref (He.ga K x)) (.type T) = some (up.contains (.type T)) := by
  obtain ⟨cd, hc, hm⟩ := c.mro
  unfold PySem.W.kitOne
  have e0 : (Value.ref (He.ga K x) == Value.type T) = false := beq_eq_false_iff_ne.mpr fun z => nomatch z
  rw [e0, if_neg (by decide)]
  show (if PySem.W.kitMeta T = true then PySem.W.mroIn K (He.ga K x) (.type T) else none) = _
  rw [if_pos hT]
  unfold PySem.W.mroIn
  rw [hc, Option.bind_some, hm, if_neg (by simp), List.contains_cons]
  have e1 : (Value.type T == Value.ref (He.ga K x)) = false := beq_eq_false_iff_ne.mpr fun z => nomatch z
  rw [e1, Bool.false_or]
end
/-! ### all classes -/
structure AllC (K : PySem.W.Frag) (mg : Str → Option Value) (nms : List (Str × List Str)) : Prop where
  com : Com K
  te : ClsF K mg tailV "TaskError" []
  all : ∀ p ∈ nms, ClsF K mg (.ref (He.ga K "TaskError") :: tailV) p.1 p.2
  nd : (He.ga K "TaskError" :: nms.map (fun p => He.ga K p.1)).Nodup
  ve : PySem.W.kitMeta "ValueError" = true
  le : PySem.W.kitMeta "LookupError" = true
section
variable {K : PySem.W.Frag} {mg : Str → Option Value} {nms : List (Str × List Str)}
abbrev ad (K : PySem.W.Frag) (l : List (Str × List Str)) : List Addr := l.map fun p => He.ga K p.1
theorem AllC.kd (A : AllC K mg nms) {D : Addr} {sub : List (Str × List Str)} (hs : ∀ p ∈ sub, p ∈ nms) (hD : D = He.ga K "TaskError" ∨ ∃ p ∈ nms, D = He.ga K p.1) : KD K D (ad K sub) := by
  intro C hC
  obtain ⟨q, hq, rfl⟩ := List.mem_map.mp hC
  have cq := A.all q (hs q hq)
  by_cases e : D = He.ga K q.1
  · rw [← e, decide_eq_true rfl]
    exact kit_same
  · rw [decide_eq_false e]
    have hnT : He.ga K q.1 ≠ He.ga K "TaskError" := fun z => (List.nodup_cons.mp A.nd).1 (List.mem_map.mpr ⟨q, hs q hq, z⟩)
    rcases hD with rfl | ⟨p, hp, rfl⟩
    · rw [kit_ref A.te e cq.isC]
      rfl
    · rw [kit_ref (A.all p hp) e cq.isC]
      have : (Value.ref (He.ga K q.1) == Value.ref (He.ga K "TaskError")) = false := beq_eq_false_iff_ne.mpr fun z => hnT (Value.ref.inj z)
      rw [List.contains_cons, this]
      rfl
theorem nodup_at : ∀ {l : List Addr} {i j : Nat}, l.Nodup → (hi : i < l.length) → (hj : j < l.length) → l[i] = l[j] → i = j := by
  intro l i j nd hi hj e
  rcases Nat.lt_trichotomy i j with z | z | z
  · exact absurd e (List.pairwise_iff_getElem.mp nd i j hi hj z)
  · exact z
  · exact absurd e.symm (List.pairwise_iff_getElem.mp nd j i hj hi z)
theorem is_at : ∀ {al : List Addr} {i : Nat} {D : Addr}, al.Nodup → al[i]? = some D → isV D al = (List.range al.length).map (fun (k : Nat) => V.bl (decide ((k : Int) = (i : Int)))) := by
  intro al i D nd h
  refine List.ext_getElem? fun k => ?_
  unfold isV
  rw [List.getElem?_map, List.getElem?_map]
  by_cases hk : k < al.length
  · rw [List.getElem?_eq_getElem hk, List.getElem?_range hk]
    obtain ⟨hi, e⟩ := List.getElem?_eq_some_iff.mp h
    simp only [Option.map_some, Option.some.injEq, V.bl.injEq]
    by_cases z : k = i
    · subst z
      rw [e]
      simp
    · have : ¬ D = al[k] := fun q => z (nodup_at nd hk hi (q.symm.trans e.symm))
      rw [decide_eq_false this, decide_eq_false (by omega)]
  · rw [List.getElem?_eq_none_iff.mpr (by omega), List.getElem?_eq_none_iff.mpr (by rw [List.length_range]; omega)]
    rfl
theorem AllC.own (A : AllC K mg nms) {na nb nc : List (Str × List Str)} (hn : nms = na ++ nb ++ nc) (hl : nms.length = 72) {i : Nat} {p : Str × List Str} (hp : nms[i]? = some p) : OwnC K (ad K na) (ad K nb) (ad K nc) (He.ga K "TaskError") (He.ga K p.1) i := by
  have mem := List.mem_of_getElem? hp
  have cp := A.all p mem
  have hnT : He.ga K p.1 ≠ He.ga K "TaskError" := fun z => (List.nodup_cons.mp A.nd).1 (List.mem_map.mpr ⟨p, mem, z⟩)
  refine ⟨cp.xc A.com (by simp [tailV]), A.kd (fun q hq => by rw [hn]; simp [hq]) (.inr ⟨p, mem, rfl⟩), A.kd (fun q hq => by rw [hn]; simp [hq]) (.inr ⟨p, mem, rfl⟩), A.kd (fun q hq => by rw [hn]; simp [hq]) (.inr ⟨p, mem, rfl⟩), ?_, ?_, ?_, ?_⟩
  · rw [kit_ref cp hnT A.te.isC]
    simp
  · rw [kit_type cp A.ve]
    simp [tailV]
  · rw [kit_type cp A.le]
    rfl
  · have e := is_at (i := i) (List.nodup_cons.mp A.nd).2 (show (ad K nms)[i]? = some (He.ga K p.1) by rw [List.getElem?_map, hp]; rfl)
    have e2 : isV (He.ga K p.1) (ad K na) ++ isV (He.ga K p.1) (ad K nb) ++ isV (He.ga K p.1) (ad K nc) = isV (He.ga K p.1) (ad K nms) := by
      rw [hn]
      unfold isV ad
      simp
    rw [e2, e, List.length_map, hl]
end
end K00

namespace K00
open PySem PySem.Spec PyProof.Rows L2 LamX LamV XK0
def dS : Stmt := .Pass ⟨0, 0, 0, 0⟩
def clsBody : Stmt → List Stmt
  | .ClassDef (body := b) .. => b
  | _ => []
def ini (i : Nat) : Stmt := (clsBody (top i)).getD 0 dS
def initB (K : PySem.W.Frag) (x : Str) : Bool := He.eqO (PySem.W.findIn K (.ref (He.ga K x)) "__init__") (some (some (.ref (He.fAd K (x, some "__init__"))))) && decide (PySem.W.typeIn K (.ref (He.fAd K (x, some "__init__"))) = some (.type "function"))
def na : List (Str × List Str) := [("BadValues", ["index"]), ("BadStart", ["thing"]), ("BadDeeds", ["name"]), ("BadEntries", ["name"]), ("BadThings", ["name"]), ("BadBody", ["task", "path"]), ("NoTask", ["task"]), ("NoPath", ["path"]), ("NoThing", ["thing"]), ("BadOrder", ["index"]), ("NoStand", ["number"]), ("BadSpots", ["thing"]), ("Endless", ["order"]), ("BadEvents", ["thing"]), ("NoDeed", ["thing"]), ("BadStretch", ["thing"]), ("BadKind", ["kind"]), ("BadMany", ["thing"]), ("NotClosing", ["task"]), ("BadTasks", ["index"]), ("BadOffers", ["index"]), ("BadSentence", ["name"]), ("BadTruth", ["thing"]), ("BadMarks", ["index"])]
def nb : List (Str × List Str) := [("NoEntryName", ["entry"]), ("BadNames", ["index"]), ("BadNumber", ["number"]), ("BadCalls", ["index"]), ("BadServers", ["task", "path"]), ("BadLike", ["path"]), ("BadWanted", ["thing"]), ("NoSpot", ["thing"]), ("BadStep", ["index"]), ("Restless", ["task", "path"]), ("BadRow", ["index"]), ("BadLot", ["thing"]), ("BadStates", ["index"]), ("BadMachine", ["thing"]), ("NoEntry", ["owner", "entry"]), ("BadJobs", ["job"]), ("NoJob", ["job"]), ("BadComings", ["job"]), ("BadCeiling", ["ceiling"]), ("BadEnds", ["job"]), ("BadTimed", ["task", "path"]), ("BadFates", ["thing"]), ("NoNote", ["word"]), ("NoComing", ["pair"])]
def nc : List (Str × List Str) := [("BadCourse", ["thing"]), ("BadCode", ["task", "number"]), ("Silent", ["task", "spot"]), ("BadCuts", ["index"]), ("NoRow", ["number"]), ("BadLog", ["index"]), ("BadGap", ["number"]), ("BadEvent", ["event"]), ("BadApart", ["task"]), ("BadLine", ["thing"]), ("BadKinds", ["index"]), ("BadText", ["index"]), ("BadOpen", ["index"]), ("BadFilling", ["task"]), ("BadAsk", ["thing"]), ("BadName", ["name"]), ("BadThing", ["thing"]), ("Lacks", ["name"]), ("NotOf", ["name"]), ("NoName", ["name"]), ("Needed", ["name", "by"]), ("UnlikeNames", []), ("UnlikeEntries", []), ("Nothing", [])]
def nms : List (Str × List Str) := na ++ nb ++ nc
theorem nms_len : nms.length = 72 := rfl
section
variable {K : PySem.W.Frag} {mg : Str → Option Value} {fd : FuncData}
theorem vals_app {vs zs : List V} {us ws : List Value} (a : Vals vs us) (b : Vals zs ws) : Vals (vs ++ zs) (us ++ ws) := a.append b
theorem vals_rev : ∀ {vs : List V} {us : List Value}, Vals vs us → Vals vs.reverse us.reverse
  | _, _, .nil => .nil
  | _, _, .cons r t => by
    rw [List.reverse_cons, List.reverse_cons]
    exact (vals_rev t).append (.cons r .nil)
theorem ec1_of {x f qual : Str} {params : Arguments} {scope : Scope} {up : List Value} {fs : List Str} {p1 p2 p3 p4 : Pos} (c : ClsF K mg up x fs) (hf : f ∈ fs) (hi : initB K x = true)
    (F : FunD K "__init__" qual params [.Assign [.Attribute (.Name "self" p1) f p2] (.Name f p3) p4] scope [] [] (He.fAd K (x, some "__init__")) fd) (S : FnScope ["self", f] ["self", f] scope) (hd : (f == ("__debug__" : Str)) = false) (hc : (f == ("__classdict__" : Str)) = false)
    (b1 : ∀ (kV doc pm : Value) (an : Option Addr) (cdv ct : Value) (us ws : List Value), us.length = 2 → ws.length = ([] : List Str).length → bindArgs (PySem.W.fnOf "__init__" qual params [.Assign [.Attribute (.Name "self" p1) f p2] (.Name f p3) p4] scope .none kV doc pm an cdv ct) ⟨us, ([] : List Str).zip ws⟩ = pure ((["self", f] : List Str).zip us))
    (b2 : ∀ (kV doc pm : Value) (an : Option Addr) (cdv ct : Value) (us ws : List Value), us.length = 1 → ws.length = [f].length → bindArgs (PySem.W.fnOf "__init__" qual params [.Assign [.Attribute (.Name "self" p1) f p2] (.Name f p3) p4] scope .none kV doc pm an cdv ct) ⟨us, [f].zip ws⟩ = pure ((["self", f] : List Str).zip (us ++ ws))) : Ec1 K mg x f (He.ga K x) := by
  obtain ⟨i1, i2⟩ := He.ba hi
  exact ⟨c.ox, c.gl, c.no f hf, _, fd, He.eqO_ok i1, of_decide_eq_true i2, fun P w base => ok_init1 F S hd hc, kbn_of F 2 [] (fun us ws => us) (fun a _ => a) b1, kbn_of F 1 [f] (fun us ws => us ++ ws) (fun a b => a.append b) b2⟩
theorem ec2_of {x f g qual : Str} {params : Arguments} {scope : Scope} {up : List Value} {fs : List Str} {p1 p2 p3 p4 q1 q2 q3 q4 : Pos} (c : ClsF K mg up x fs) (hf : f ∈ fs) (hg : g ∈ fs) (hi : initB K x = true)
    (F : FunD K "__init__" qual params [.Assign [.Attribute (.Name "self" p1) f p2] (.Name f p3) p4, .Assign [.Attribute (.Name "self" q1) g q2] (.Name g q3) q4] scope [] [] (He.fAd K (x, some "__init__")) fd) (S : FnScope ["self", f, g] ["self", f, g] scope)
    (hd : (f == ("__debug__" : Str)) = false) (hc : (f == ("__classdict__" : Str)) = false) (hd2 : (g == ("__debug__" : Str)) = false) (hc2 : (g == ("__classdict__" : Str)) = false)
    (b1 : ∀ (kV doc pm : Value) (an : Option Addr) (cdv ct : Value) (us ws : List Value), us.length = 3 → ws.length = ([] : List Str).length → bindArgs (PySem.W.fnOf "__init__" qual params [.Assign [.Attribute (.Name "self" p1) f p2] (.Name f p3) p4, .Assign [.Attribute (.Name "self" q1) g q2] (.Name g q3) q4] scope .none kV doc pm an cdv ct) ⟨us, ([] : List Str).zip ws⟩ = pure ((["self", f, g] : List Str).zip us))
    (b2 : ∀ (kV doc pm : Value) (an : Option Addr) (cdv ct : Value) (us ws : List Value), us.length = 1 → ws.length = [g, f].length → bindArgs (PySem.W.fnOf "__init__" qual params [.Assign [.Attribute (.Name "self" p1) f p2] (.Name f p3) p4, .Assign [.Attribute (.Name "self" q1) g q2] (.Name g q3) q4] scope .none kV doc pm an cdv ct) ⟨us, [g, f].zip ws⟩ = pure ((["self", f, g] : List Str).zip (us ++ ws.reverse))) : Ec2 K mg x f g (He.ga K x) := by
  obtain ⟨i1, i2⟩ := He.ba hi
  exact ⟨c.ox, c.gl, c.no f hf, c.no g hg, _, fd, He.eqO_ok i1, of_decide_eq_true i2, fun P w base => ok_init2 F S hd hc hd2 hc2, kbn_of F 3 [] (fun us ws => us) (fun a _ => a) b1, kbn_of F 1 [g, f] (fun us ws => us ++ ws.reverse) (fun a b => a.append (vals_rev b)) b2⟩
abbrev UpT (K : PySem.W.Frag) : List Value := .ref (He.ga K "TaskError") :: tailV
theorem ec_0 (c : ClsF K mg (UpT K) "BadValues" ["index"]) (hi : initB K "BadValues" = true) (F : FunD K "__init__" "BadValues.__init__" (defArgs (ini 2)) (defBody (ini 2)) (defScope (ini 2)) [] [] (He.fAd K ("BadValues", some "__init__")) fd) : Ec1 K mg "BadValues" "index" (He.ga K "BadValues") :=
  ec1_of c (by simp) hi F ⟨rfl, rfl, rfl, by decide +kernel, rfl, by decide +kernel, by decide +kernel⟩ (by decide) (by decide) (fun _ _ _ _ _ _ us ws hl _ => match us, hl with | [_, _], _ => rfl) (fun _ _ _ _ _ _ us ws hl hw => match us, hl, ws, hw with | [_], _, [_], _ => rfl)
theorem ec_1 (c : ClsF K mg (UpT K) "BadStart" ["thing"]) (hi : initB K "BadStart" = true) (F : FunD K "__init__" "BadStart.__init__" (defArgs (ini 3)) (defBody (ini 3)) (defScope (ini 3)) [] [] (He.fAd K ("BadStart", some "__init__")) fd) : Ec1 K mg "BadStart" "thing" (He.ga K "BadStart") :=
  ec1_of c (by simp) hi F ⟨rfl, rfl, rfl, by decide +kernel, rfl, by decide +kernel, by decide +kernel⟩ (by decide) (by decide) (fun _ _ _ _ _ _ us ws hl _ => match us, hl with | [_, _], _ => rfl) (fun _ _ _ _ _ _ us ws hl hw => match us, hl, ws, hw with | [_], _, [_], _ => rfl)
theorem ec_2 (c : ClsF K mg (UpT K) "BadDeeds" ["name"]) (hi : initB K "BadDeeds" = true) (F : FunD K "__init__" "BadDeeds.__init__" (defArgs (ini 4)) (defBody (ini 4)) (defScope (ini 4)) [] [] (He.fAd K ("BadDeeds", some "__init__")) fd) : Ec1 K mg "BadDeeds" "name" (He.ga K "BadDeeds") :=
  ec1_of c (by simp) hi F ⟨rfl, rfl, rfl, by decide +kernel, rfl, by decide +kernel, by decide +kernel⟩ (by decide) (by decide) (fun _ _ _ _ _ _ us ws hl _ => match us, hl with | [_, _], _ => rfl) (fun _ _ _ _ _ _ us ws hl hw => match us, hl, ws, hw with | [_], _, [_], _ => rfl)
theorem ec_3 (c : ClsF K mg (UpT K) "BadEntries" ["name"]) (hi : initB K "BadEntries" = true) (F : FunD K "__init__" "BadEntries.__init__" (defArgs (ini 5)) (defBody (ini 5)) (defScope (ini 5)) [] [] (He.fAd K ("BadEntries", some "__init__")) fd) : Ec1 K mg "BadEntries" "name" (He.ga K "BadEntries") :=
  ec1_of c (by simp) hi F ⟨rfl, rfl, rfl, by decide +kernel, rfl, by decide +kernel, by decide +kernel⟩ (by decide) (by decide) (fun _ _ _ _ _ _ us ws hl _ => match us, hl with | [_, _], _ => rfl) (fun _ _ _ _ _ _ us ws hl hw => match us, hl, ws, hw with | [_], _, [_], _ => rfl)
theorem ec_4 (c : ClsF K mg (UpT K) "BadThings" ["name"]) (hi : initB K "BadThings" = true) (F : FunD K "__init__" "BadThings.__init__" (defArgs (ini 6)) (defBody (ini 6)) (defScope (ini 6)) [] [] (He.fAd K ("BadThings", some "__init__")) fd) : Ec1 K mg "BadThings" "name" (He.ga K "BadThings") :=
  ec1_of c (by simp) hi F ⟨rfl, rfl, rfl, by decide +kernel, rfl, by decide +kernel, by decide +kernel⟩ (by decide) (by decide) (fun _ _ _ _ _ _ us ws hl _ => match us, hl with | [_, _], _ => rfl) (fun _ _ _ _ _ _ us ws hl hw => match us, hl, ws, hw with | [_], _, [_], _ => rfl)
theorem ec_5 (c : ClsF K mg (UpT K) "BadBody" ["task", "path"]) (hi : initB K "BadBody" = true) (F : FunD K "__init__" "BadBody.__init__" (defArgs (ini 7)) (defBody (ini 7)) (defScope (ini 7)) [] [] (He.fAd K ("BadBody", some "__init__")) fd) : Ec2 K mg "BadBody" "task" "path" (He.ga K "BadBody") :=
  ec2_of c (by simp) (by simp) hi F ⟨rfl, rfl, rfl, by decide +kernel, rfl, by decide +kernel, by decide +kernel⟩ (by decide) (by decide) (by decide) (by decide) (fun _ _ _ _ _ _ us ws hl _ => match us, hl with | [_, _, _], _ => rfl) (fun _ _ _ _ _ _ us ws hl hw => match us, hl, ws, hw with | [_], _, [_, _], _ => rfl)
theorem ec_6 (c : ClsF K mg (UpT K) "NoTask" ["task"]) (hi : initB K "NoTask" = true) (F : FunD K "__init__" "NoTask.__init__" (defArgs (ini 8)) (defBody (ini 8)) (defScope (ini 8)) [] [] (He.fAd K ("NoTask", some "__init__")) fd) : Ec1 K mg "NoTask" "task" (He.ga K "NoTask") :=
  ec1_of c (by simp) hi F ⟨rfl, rfl, rfl, by decide +kernel, rfl, by decide +kernel, by decide +kernel⟩ (by decide) (by decide) (fun _ _ _ _ _ _ us ws hl _ => match us, hl with | [_, _], _ => rfl) (fun _ _ _ _ _ _ us ws hl hw => match us, hl, ws, hw with | [_], _, [_], _ => rfl)
theorem ec_7 (c : ClsF K mg (UpT K) "NoPath" ["path"]) (hi : initB K "NoPath" = true) (F : FunD K "__init__" "NoPath.__init__" (defArgs (ini 9)) (defBody (ini 9)) (defScope (ini 9)) [] [] (He.fAd K ("NoPath", some "__init__")) fd) : Ec1 K mg "NoPath" "path" (He.ga K "NoPath") :=
  ec1_of c (by simp) hi F ⟨rfl, rfl, rfl, by decide +kernel, rfl, by decide +kernel, by decide +kernel⟩ (by decide) (by decide) (fun _ _ _ _ _ _ us ws hl _ => match us, hl with | [_, _], _ => rfl) (fun _ _ _ _ _ _ us ws hl hw => match us, hl, ws, hw with | [_], _, [_], _ => rfl)
theorem ec_8 (c : ClsF K mg (UpT K) "NoThing" ["thing"]) (hi : initB K "NoThing" = true) (F : FunD K "__init__" "NoThing.__init__" (defArgs (ini 10)) (defBody (ini 10)) (defScope (ini 10)) [] [] (He.fAd K ("NoThing", some "__init__")) fd) : Ec1 K mg "NoThing" "thing" (He.ga K "NoThing") :=
  ec1_of c (by simp) hi F ⟨rfl, rfl, rfl, by decide +kernel, rfl, by decide +kernel, by decide +kernel⟩ (by decide) (by decide) (fun _ _ _ _ _ _ us ws hl _ => match us, hl with | [_, _], _ => rfl) (fun _ _ _ _ _ _ us ws hl hw => match us, hl, ws, hw with | [_], _, [_], _ => rfl)
theorem ec_9 (c : ClsF K mg (UpT K) "BadOrder" ["index"]) (hi : initB K "BadOrder" = true) (F : FunD K "__init__" "BadOrder.__init__" (defArgs (ini 11)) (defBody (ini 11)) (defScope (ini 11)) [] [] (He.fAd K ("BadOrder", some "__init__")) fd) : Ec1 K mg "BadOrder" "index" (He.ga K "BadOrder") :=
  ec1_of c (by simp) hi F ⟨rfl, rfl, rfl, by decide +kernel, rfl, by decide +kernel, by decide +kernel⟩ (by decide) (by decide) (fun _ _ _ _ _ _ us ws hl _ => match us, hl with | [_, _], _ => rfl) (fun _ _ _ _ _ _ us ws hl hw => match us, hl, ws, hw with | [_], _, [_], _ => rfl)
theorem ec_10 (c : ClsF K mg (UpT K) "NoStand" ["number"]) (hi : initB K "NoStand" = true) (F : FunD K "__init__" "NoStand.__init__" (defArgs (ini 12)) (defBody (ini 12)) (defScope (ini 12)) [] [] (He.fAd K ("NoStand", some "__init__")) fd) : Ec1 K mg "NoStand" "number" (He.ga K "NoStand") :=
  ec1_of c (by simp) hi F ⟨rfl, rfl, rfl, by decide +kernel, rfl, by decide +kernel, by decide +kernel⟩ (by decide) (by decide) (fun _ _ _ _ _ _ us ws hl _ => match us, hl with | [_, _], _ => rfl) (fun _ _ _ _ _ _ us ws hl hw => match us, hl, ws, hw with | [_], _, [_], _ => rfl)
theorem ec_11 (c : ClsF K mg (UpT K) "BadSpots" ["thing"]) (hi : initB K "BadSpots" = true) (F : FunD K "__init__" "BadSpots.__init__" (defArgs (ini 13)) (defBody (ini 13)) (defScope (ini 13)) [] [] (He.fAd K ("BadSpots", some "__init__")) fd) : Ec1 K mg "BadSpots" "thing" (He.ga K "BadSpots") :=
  ec1_of c (by simp) hi F ⟨rfl, rfl, rfl, by decide +kernel, rfl, by decide +kernel, by decide +kernel⟩ (by decide) (by decide) (fun _ _ _ _ _ _ us ws hl _ => match us, hl with | [_, _], _ => rfl) (fun _ _ _ _ _ _ us ws hl hw => match us, hl, ws, hw with | [_], _, [_], _ => rfl)
theorem ec_12 (c : ClsF K mg (UpT K) "Endless" ["order"]) (hi : initB K "Endless" = true) (F : FunD K "__init__" "Endless.__init__" (defArgs (ini 14)) (defBody (ini 14)) (defScope (ini 14)) [] [] (He.fAd K ("Endless", some "__init__")) fd) : Ec1 K mg "Endless" "order" (He.ga K "Endless") :=
  ec1_of c (by simp) hi F ⟨rfl, rfl, rfl, by decide +kernel, rfl, by decide +kernel, by decide +kernel⟩ (by decide) (by decide) (fun _ _ _ _ _ _ us ws hl _ => match us, hl with | [_, _], _ => rfl) (fun _ _ _ _ _ _ us ws hl hw => match us, hl, ws, hw with | [_], _, [_], _ => rfl)
theorem ec_13 (c : ClsF K mg (UpT K) "BadEvents" ["thing"]) (hi : initB K "BadEvents" = true) (F : FunD K "__init__" "BadEvents.__init__" (defArgs (ini 15)) (defBody (ini 15)) (defScope (ini 15)) [] [] (He.fAd K ("BadEvents", some "__init__")) fd) : Ec1 K mg "BadEvents" "thing" (He.ga K "BadEvents") :=
  ec1_of c (by simp) hi F ⟨rfl, rfl, rfl, by decide +kernel, rfl, by decide +kernel, by decide +kernel⟩ (by decide) (by decide) (fun _ _ _ _ _ _ us ws hl _ => match us, hl with | [_, _], _ => rfl) (fun _ _ _ _ _ _ us ws hl hw => match us, hl, ws, hw with | [_], _, [_], _ => rfl)
theorem ec_14 (c : ClsF K mg (UpT K) "NoDeed" ["thing"]) (hi : initB K "NoDeed" = true) (F : FunD K "__init__" "NoDeed.__init__" (defArgs (ini 16)) (defBody (ini 16)) (defScope (ini 16)) [] [] (He.fAd K ("NoDeed", some "__init__")) fd) : Ec1 K mg "NoDeed" "thing" (He.ga K "NoDeed") :=
  ec1_of c (by simp) hi F ⟨rfl, rfl, rfl, by decide +kernel, rfl, by decide +kernel, by decide +kernel⟩ (by decide) (by decide) (fun _ _ _ _ _ _ us ws hl _ => match us, hl with | [_, _], _ => rfl) (fun _ _ _ _ _ _ us ws hl hw => match us, hl, ws, hw with | [_], _, [_], _ => rfl)
theorem ec_15 (c : ClsF K mg (UpT K) "BadStretch" ["thing"]) (hi : initB K "BadStretch" = true) (F : FunD K "__init__" "BadStretch.__init__" (defArgs (ini 17)) (defBody (ini 17)) (defScope (ini 17)) [] [] (He.fAd K ("BadStretch", some "__init__")) fd) : Ec1 K mg "BadStretch" "thing" (He.ga K "BadStretch") :=
  ec1_of c (by simp) hi F ⟨rfl, rfl, rfl, by decide +kernel, rfl, by decide +kernel, by decide +kernel⟩ (by decide) (by decide) (fun _ _ _ _ _ _ us ws hl _ => match us, hl with | [_, _], _ => rfl) (fun _ _ _ _ _ _ us ws hl hw => match us, hl, ws, hw with | [_], _, [_], _ => rfl)
theorem ec_16 (c : ClsF K mg (UpT K) "BadKind" ["kind"]) (hi : initB K "BadKind" = true) (F : FunD K "__init__" "BadKind.__init__" (defArgs (ini 18)) (defBody (ini 18)) (defScope (ini 18)) [] [] (He.fAd K ("BadKind", some "__init__")) fd) : Ec1 K mg "BadKind" "kind" (He.ga K "BadKind") :=
  ec1_of c (by simp) hi F ⟨rfl, rfl, rfl, by decide +kernel, rfl, by decide +kernel, by decide +kernel⟩ (by decide) (by decide) (fun _ _ _ _ _ _ us ws hl _ => match us, hl with | [_, _], _ => rfl) (fun _ _ _ _ _ _ us ws hl hw => match us, hl, ws, hw with | [_], _, [_], _ => rfl)
theorem ec_17 (c : ClsF K mg (UpT K) "BadMany" ["thing"]) (hi : initB K "BadMany" = true) (F : FunD K "__init__" "BadMany.__init__" (defArgs (ini 19)) (defBody (ini 19)) (defScope (ini 19)) [] [] (He.fAd K ("BadMany", some "__init__")) fd) : Ec1 K mg "BadMany" "thing" (He.ga K "BadMany") :=
  ec1_of c (by simp) hi F ⟨rfl, rfl, rfl, by decide +kernel, rfl, by decide +kernel, by decide +kernel⟩ (by decide) (by decide) (fun _ _ _ _ _ _ us ws hl _ => match us, hl with | [_, _], _ => rfl) (fun _ _ _ _ _ _ us ws hl hw => match us, hl, ws, hw with | [_], _, [_], _ => rfl)
theorem ec_18 (c : ClsF K mg (UpT K) "NotClosing" ["task"]) (hi : initB K "NotClosing" = true) (F : FunD K "__init__" "NotClosing.__init__" (defArgs (ini 20)) (defBody (ini 20)) (defScope (ini 20)) [] [] (He.fAd K ("NotClosing", some "__init__")) fd) : Ec1 K mg "NotClosing" "task" (He.ga K "NotClosing") :=
  ec1_of c (by simp) hi F ⟨rfl, rfl, rfl, by decide +kernel, rfl, by decide +kernel, by decide +kernel⟩ (by decide) (by decide) (fun _ _ _ _ _ _ us ws hl _ => match us, hl with | [_, _], _ => rfl) (fun _ _ _ _ _ _ us ws hl hw => match us, hl, ws, hw with | [_], _, [_], _ => rfl)
theorem ec_19 (c : ClsF K mg (UpT K) "BadTasks" ["index"]) (hi : initB K "BadTasks" = true) (F : FunD K "__init__" "BadTasks.__init__" (defArgs (ini 21)) (defBody (ini 21)) (defScope (ini 21)) [] [] (He.fAd K ("BadTasks", some "__init__")) fd) : Ec1 K mg "BadTasks" "index" (He.ga K "BadTasks") :=
  ec1_of c (by simp) hi F ⟨rfl, rfl, rfl, by decide +kernel, rfl, by decide +kernel, by decide +kernel⟩ (by decide) (by decide) (fun _ _ _ _ _ _ us ws hl _ => match us, hl with | [_, _], _ => rfl) (fun _ _ _ _ _ _ us ws hl hw => match us, hl, ws, hw with | [_], _, [_], _ => rfl)
theorem ec_20 (c : ClsF K mg (UpT K) "BadOffers" ["index"]) (hi : initB K "BadOffers" = true) (F : FunD K "__init__" "BadOffers.__init__" (defArgs (ini 22)) (defBody (ini 22)) (defScope (ini 22)) [] [] (He.fAd K ("BadOffers", some "__init__")) fd) : Ec1 K mg "BadOffers" "index" (He.ga K "BadOffers") :=
  ec1_of c (by simp) hi F ⟨rfl, rfl, rfl, by decide +kernel, rfl, by decide +kernel, by decide +kernel⟩ (by decide) (by decide) (fun _ _ _ _ _ _ us ws hl _ => match us, hl with | [_, _], _ => rfl) (fun _ _ _ _ _ _ us ws hl hw => match us, hl, ws, hw with | [_], _, [_], _ => rfl)
theorem ec_21 (c : ClsF K mg (UpT K) "BadSentence" ["name"]) (hi : initB K "BadSentence" = true) (F : FunD K "__init__" "BadSentence.__init__" (defArgs (ini 23)) (defBody (ini 23)) (defScope (ini 23)) [] [] (He.fAd K ("BadSentence", some "__init__")) fd) : Ec1 K mg "BadSentence" "name" (He.ga K "BadSentence") :=
  ec1_of c (by simp) hi F ⟨rfl, rfl, rfl, by decide +kernel, rfl, by decide +kernel, by decide +kernel⟩ (by decide) (by decide) (fun _ _ _ _ _ _ us ws hl _ => match us, hl with | [_, _], _ => rfl) (fun _ _ _ _ _ _ us ws hl hw => match us, hl, ws, hw with | [_], _, [_], _ => rfl)
theorem ec_22 (c : ClsF K mg (UpT K) "BadTruth" ["thing"]) (hi : initB K "BadTruth" = true) (F : FunD K "__init__" "BadTruth.__init__" (defArgs (ini 24)) (defBody (ini 24)) (defScope (ini 24)) [] [] (He.fAd K ("BadTruth", some "__init__")) fd) : Ec1 K mg "BadTruth" "thing" (He.ga K "BadTruth") :=
  ec1_of c (by simp) hi F ⟨rfl, rfl, rfl, by decide +kernel, rfl, by decide +kernel, by decide +kernel⟩ (by decide) (by decide) (fun _ _ _ _ _ _ us ws hl _ => match us, hl with | [_, _], _ => rfl) (fun _ _ _ _ _ _ us ws hl hw => match us, hl, ws, hw with | [_], _, [_], _ => rfl)
theorem ec_23 (c : ClsF K mg (UpT K) "BadMarks" ["index"]) (hi : initB K "BadMarks" = true) (F : FunD K "__init__" "BadMarks.__init__" (defArgs (ini 25)) (defBody (ini 25)) (defScope (ini 25)) [] [] (He.fAd K ("BadMarks", some "__init__")) fd) : Ec1 K mg "BadMarks" "index" (He.ga K "BadMarks") :=
  ec1_of c (by simp) hi F ⟨rfl, rfl, rfl, by decide +kernel, rfl, by decide +kernel, by decide +kernel⟩ (by decide) (by decide) (fun _ _ _ _ _ _ us ws hl _ => match us, hl with | [_, _], _ => rfl) (fun _ _ _ _ _ _ us ws hl hw => match us, hl, ws, hw with | [_], _, [_], _ => rfl)
theorem ec_24 (c : ClsF K mg (UpT K) "NoEntryName" ["entry"]) (hi : initB K "NoEntryName" = true) (F : FunD K "__init__" "NoEntryName.__init__" (defArgs (ini 26)) (defBody (ini 26)) (defScope (ini 26)) [] [] (He.fAd K ("NoEntryName", some "__init__")) fd) : Ec1 K mg "NoEntryName" "entry" (He.ga K "NoEntryName") :=
  ec1_of c (by simp) hi F ⟨rfl, rfl, rfl, by decide +kernel, rfl, by decide +kernel, by decide +kernel⟩ (by decide) (by decide) (fun _ _ _ _ _ _ us ws hl _ => match us, hl with | [_, _], _ => rfl) (fun _ _ _ _ _ _ us ws hl hw => match us, hl, ws, hw with | [_], _, [_], _ => rfl)
theorem ec_25 (c : ClsF K mg (UpT K) "BadNames" ["index"]) (hi : initB K "BadNames" = true) (F : FunD K "__init__" "BadNames.__init__" (defArgs (ini 27)) (defBody (ini 27)) (defScope (ini 27)) [] [] (He.fAd K ("BadNames", some "__init__")) fd) : Ec1 K mg "BadNames" "index" (He.ga K "BadNames") :=
  ec1_of c (by simp) hi F ⟨rfl, rfl, rfl, by decide +kernel, rfl, by decide +kernel, by decide +kernel⟩ (by decide) (by decide) (fun _ _ _ _ _ _ us ws hl _ => match us, hl with | [_, _], _ => rfl) (fun _ _ _ _ _ _ us ws hl hw => match us, hl, ws, hw with | [_], _, [_], _ => rfl)
theorem ec_26 (c : ClsF K mg (UpT K) "BadNumber" ["number"]) (hi : initB K "BadNumber" = true) (F : FunD K "__init__" "BadNumber.__init__" (defArgs (ini 28)) (defBody (ini 28)) (defScope (ini 28)) [] [] (He.fAd K ("BadNumber", some "__init__")) fd) : Ec1 K mg "BadNumber" "number" (He.ga K "BadNumber") :=
  ec1_of c (by simp) hi F ⟨rfl, rfl, rfl, by decide +kernel, rfl, by decide +kernel, by decide +kernel⟩ (by decide) (by decide) (fun _ _ _ _ _ _ us ws hl _ => match us, hl with | [_, _], _ => rfl) (fun _ _ _ _ _ _ us ws hl hw => match us, hl, ws, hw with | [_], _, [_], _ => rfl)
theorem ec_27 (c : ClsF K mg (UpT K) "BadCalls" ["index"]) (hi : initB K "BadCalls" = true) (F : FunD K "__init__" "BadCalls.__init__" (defArgs (ini 29)) (defBody (ini 29)) (defScope (ini 29)) [] [] (He.fAd K ("BadCalls", some "__init__")) fd) : Ec1 K mg "BadCalls" "index" (He.ga K "BadCalls") :=
  ec1_of c (by simp) hi F ⟨rfl, rfl, rfl, by decide +kernel, rfl, by decide +kernel, by decide +kernel⟩ (by decide) (by decide) (fun _ _ _ _ _ _ us ws hl _ => match us, hl with | [_, _], _ => rfl) (fun _ _ _ _ _ _ us ws hl hw => match us, hl, ws, hw with | [_], _, [_], _ => rfl)
theorem ec_28 (c : ClsF K mg (UpT K) "BadServers" ["task", "path"]) (hi : initB K "BadServers" = true) (F : FunD K "__init__" "BadServers.__init__" (defArgs (ini 31)) (defBody (ini 31)) (defScope (ini 31)) [] [] (He.fAd K ("BadServers", some "__init__")) fd) : Ec2 K mg "BadServers" "task" "path" (He.ga K "BadServers") :=
  ec2_of c (by simp) (by simp) hi F ⟨rfl, rfl, rfl, by decide +kernel, rfl, by decide +kernel, by decide +kernel⟩ (by decide) (by decide) (by decide) (by decide) (fun _ _ _ _ _ _ us ws hl _ => match us, hl with | [_, _, _], _ => rfl) (fun _ _ _ _ _ _ us ws hl hw => match us, hl, ws, hw with | [_], _, [_, _], _ => rfl)
theorem ec_29 (c : ClsF K mg (UpT K) "BadLike" ["path"]) (hi : initB K "BadLike" = true) (F : FunD K "__init__" "BadLike.__init__" (defArgs (ini 32)) (defBody (ini 32)) (defScope (ini 32)) [] [] (He.fAd K ("BadLike", some "__init__")) fd) : Ec1 K mg "BadLike" "path" (He.ga K "BadLike") :=
  ec1_of c (by simp) hi F ⟨rfl, rfl, rfl, by decide +kernel, rfl, by decide +kernel, by decide +kernel⟩ (by decide) (by decide) (fun _ _ _ _ _ _ us ws hl _ => match us, hl with | [_, _], _ => rfl) (fun _ _ _ _ _ _ us ws hl hw => match us, hl, ws, hw with | [_], _, [_], _ => rfl)
theorem ec_30 (c : ClsF K mg (UpT K) "BadWanted" ["thing"]) (hi : initB K "BadWanted" = true) (F : FunD K "__init__" "BadWanted.__init__" (defArgs (ini 33)) (defBody (ini 33)) (defScope (ini 33)) [] [] (He.fAd K ("BadWanted", some "__init__")) fd) : Ec1 K mg "BadWanted" "thing" (He.ga K "BadWanted") :=
  ec1_of c (by simp) hi F ⟨rfl, rfl, rfl, by decide +kernel, rfl, by decide +kernel, by decide +kernel⟩ (by decide) (by decide) (fun _ _ _ _ _ _ us ws hl _ => match us, hl with | [_, _], _ => rfl) (fun _ _ _ _ _ _ us ws hl hw => match us, hl, ws, hw with | [_], _, [_], _ => rfl)
theorem ec_31 (c : ClsF K mg (UpT K) "NoSpot" ["thing"]) (hi : initB K "NoSpot" = true) (F : FunD K "__init__" "NoSpot.__init__" (defArgs (ini 34)) (defBody (ini 34)) (defScope (ini 34)) [] [] (He.fAd K ("NoSpot", some "__init__")) fd) : Ec1 K mg "NoSpot" "thing" (He.ga K "NoSpot") :=
  ec1_of c (by simp) hi F ⟨rfl, rfl, rfl, by decide +kernel, rfl, by decide +kernel, by decide +kernel⟩ (by decide) (by decide) (fun _ _ _ _ _ _ us ws hl _ => match us, hl with | [_, _], _ => rfl) (fun _ _ _ _ _ _ us ws hl hw => match us, hl, ws, hw with | [_], _, [_], _ => rfl)
theorem ec_32 (c : ClsF K mg (UpT K) "BadStep" ["index"]) (hi : initB K "BadStep" = true) (F : FunD K "__init__" "BadStep.__init__" (defArgs (ini 35)) (defBody (ini 35)) (defScope (ini 35)) [] [] (He.fAd K ("BadStep", some "__init__")) fd) : Ec1 K mg "BadStep" "index" (He.ga K "BadStep") :=
  ec1_of c (by simp) hi F ⟨rfl, rfl, rfl, by decide +kernel, rfl, by decide +kernel, by decide +kernel⟩ (by decide) (by decide) (fun _ _ _ _ _ _ us ws hl _ => match us, hl with | [_, _], _ => rfl) (fun _ _ _ _ _ _ us ws hl hw => match us, hl, ws, hw with | [_], _, [_], _ => rfl)
theorem ec_33 (c : ClsF K mg (UpT K) "Restless" ["task", "path"]) (hi : initB K "Restless" = true) (F : FunD K "__init__" "Restless.__init__" (defArgs (ini 36)) (defBody (ini 36)) (defScope (ini 36)) [] [] (He.fAd K ("Restless", some "__init__")) fd) : Ec2 K mg "Restless" "task" "path" (He.ga K "Restless") :=
  ec2_of c (by simp) (by simp) hi F ⟨rfl, rfl, rfl, by decide +kernel, rfl, by decide +kernel, by decide +kernel⟩ (by decide) (by decide) (by decide) (by decide) (fun _ _ _ _ _ _ us ws hl _ => match us, hl with | [_, _, _], _ => rfl) (fun _ _ _ _ _ _ us ws hl hw => match us, hl, ws, hw with | [_], _, [_, _], _ => rfl)
theorem ec_34 (c : ClsF K mg (UpT K) "BadRow" ["index"]) (hi : initB K "BadRow" = true) (F : FunD K "__init__" "BadRow.__init__" (defArgs (ini 37)) (defBody (ini 37)) (defScope (ini 37)) [] [] (He.fAd K ("BadRow", some "__init__")) fd) : Ec1 K mg "BadRow" "index" (He.ga K "BadRow") :=
  ec1_of c (by simp) hi F ⟨rfl, rfl, rfl, by decide +kernel, rfl, by decide +kernel, by decide +kernel⟩ (by decide) (by decide) (fun _ _ _ _ _ _ us ws hl _ => match us, hl with | [_, _], _ => rfl) (fun _ _ _ _ _ _ us ws hl hw => match us, hl, ws, hw with | [_], _, [_], _ => rfl)
theorem ec_35 (c : ClsF K mg (UpT K) "BadLot" ["thing"]) (hi : initB K "BadLot" = true) (F : FunD K "__init__" "BadLot.__init__" (defArgs (ini 38)) (defBody (ini 38)) (defScope (ini 38)) [] [] (He.fAd K ("BadLot", some "__init__")) fd) : Ec1 K mg "BadLot" "thing" (He.ga K "BadLot") :=
  ec1_of c (by simp) hi F ⟨rfl, rfl, rfl, by decide +kernel, rfl, by decide +kernel, by decide +kernel⟩ (by decide) (by decide) (fun _ _ _ _ _ _ us ws hl _ => match us, hl with | [_, _], _ => rfl) (fun _ _ _ _ _ _ us ws hl hw => match us, hl, ws, hw with | [_], _, [_], _ => rfl)
theorem ec_36 (c : ClsF K mg (UpT K) "BadStates" ["index"]) (hi : initB K "BadStates" = true) (F : FunD K "__init__" "BadStates.__init__" (defArgs (ini 39)) (defBody (ini 39)) (defScope (ini 39)) [] [] (He.fAd K ("BadStates", some "__init__")) fd) : Ec1 K mg "BadStates" "index" (He.ga K "BadStates") :=
  ec1_of c (by simp) hi F ⟨rfl, rfl, rfl, by decide +kernel, rfl, by decide +kernel, by decide +kernel⟩ (by decide) (by decide) (fun _ _ _ _ _ _ us ws hl _ => match us, hl with | [_, _], _ => rfl) (fun _ _ _ _ _ _ us ws hl hw => match us, hl, ws, hw with | [_], _, [_], _ => rfl)
theorem ec_37 (c : ClsF K mg (UpT K) "BadMachine" ["thing"]) (hi : initB K "BadMachine" = true) (F : FunD K "__init__" "BadMachine.__init__" (defArgs (ini 41)) (defBody (ini 41)) (defScope (ini 41)) [] [] (He.fAd K ("BadMachine", some "__init__")) fd) : Ec1 K mg "BadMachine" "thing" (He.ga K "BadMachine") :=
  ec1_of c (by simp) hi F ⟨rfl, rfl, rfl, by decide +kernel, rfl, by decide +kernel, by decide +kernel⟩ (by decide) (by decide) (fun _ _ _ _ _ _ us ws hl _ => match us, hl with | [_, _], _ => rfl) (fun _ _ _ _ _ _ us ws hl hw => match us, hl, ws, hw with | [_], _, [_], _ => rfl)
theorem ec_38 (c : ClsF K mg (UpT K) "NoEntry" ["owner", "entry"]) (hi : initB K "NoEntry" = true) (F : FunD K "__init__" "NoEntry.__init__" (defArgs (ini 42)) (defBody (ini 42)) (defScope (ini 42)) [] [] (He.fAd K ("NoEntry", some "__init__")) fd) : Ec2 K mg "NoEntry" "owner" "entry" (He.ga K "NoEntry") :=
  ec2_of c (by simp) (by simp) hi F ⟨rfl, rfl, rfl, by decide +kernel, rfl, by decide +kernel, by decide +kernel⟩ (by decide) (by decide) (by decide) (by decide) (fun _ _ _ _ _ _ us ws hl _ => match us, hl with | [_, _, _], _ => rfl) (fun _ _ _ _ _ _ us ws hl hw => match us, hl, ws, hw with | [_], _, [_, _], _ => rfl)
theorem ec_39 (c : ClsF K mg (UpT K) "BadJobs" ["job"]) (hi : initB K "BadJobs" = true) (F : FunD K "__init__" "BadJobs.__init__" (defArgs (ini 43)) (defBody (ini 43)) (defScope (ini 43)) [] [] (He.fAd K ("BadJobs", some "__init__")) fd) : Ec1 K mg "BadJobs" "job" (He.ga K "BadJobs") :=
  ec1_of c (by simp) hi F ⟨rfl, rfl, rfl, by decide +kernel, rfl, by decide +kernel, by decide +kernel⟩ (by decide) (by decide) (fun _ _ _ _ _ _ us ws hl _ => match us, hl with | [_, _], _ => rfl) (fun _ _ _ _ _ _ us ws hl hw => match us, hl, ws, hw with | [_], _, [_], _ => rfl)
theorem ec_40 (c : ClsF K mg (UpT K) "NoJob" ["job"]) (hi : initB K "NoJob" = true) (F : FunD K "__init__" "NoJob.__init__" (defArgs (ini 44)) (defBody (ini 44)) (defScope (ini 44)) [] [] (He.fAd K ("NoJob", some "__init__")) fd) : Ec1 K mg "NoJob" "job" (He.ga K "NoJob") :=
  ec1_of c (by simp) hi F ⟨rfl, rfl, rfl, by decide +kernel, rfl, by decide +kernel, by decide +kernel⟩ (by decide) (by decide) (fun _ _ _ _ _ _ us ws hl _ => match us, hl with | [_, _], _ => rfl) (fun _ _ _ _ _ _ us ws hl hw => match us, hl, ws, hw with | [_], _, [_], _ => rfl)
theorem ec_41 (c : ClsF K mg (UpT K) "BadComings" ["job"]) (hi : initB K "BadComings" = true) (F : FunD K "__init__" "BadComings.__init__" (defArgs (ini 45)) (defBody (ini 45)) (defScope (ini 45)) [] [] (He.fAd K ("BadComings", some "__init__")) fd) : Ec1 K mg "BadComings" "job" (He.ga K "BadComings") :=
  ec1_of c (by simp) hi F ⟨rfl, rfl, rfl, by decide +kernel, rfl, by decide +kernel, by decide +kernel⟩ (by decide) (by decide) (fun _ _ _ _ _ _ us ws hl _ => match us, hl with | [_, _], _ => rfl) (fun _ _ _ _ _ _ us ws hl hw => match us, hl, ws, hw with | [_], _, [_], _ => rfl)
theorem ec_42 (c : ClsF K mg (UpT K) "BadCeiling" ["ceiling"]) (hi : initB K "BadCeiling" = true) (F : FunD K "__init__" "BadCeiling.__init__" (defArgs (ini 46)) (defBody (ini 46)) (defScope (ini 46)) [] [] (He.fAd K ("BadCeiling", some "__init__")) fd) : Ec1 K mg "BadCeiling" "ceiling" (He.ga K "BadCeiling") :=
  ec1_of c (by simp) hi F ⟨rfl, rfl, rfl, by decide +kernel, rfl, by decide +kernel, by decide +kernel⟩ (by decide) (by decide) (fun _ _ _ _ _ _ us ws hl _ => match us, hl with | [_, _], _ => rfl) (fun _ _ _ _ _ _ us ws hl hw => match us, hl, ws, hw with | [_], _, [_], _ => rfl)
theorem ec_43 (c : ClsF K mg (UpT K) "BadEnds" ["job"]) (hi : initB K "BadEnds" = true) (F : FunD K "__init__" "BadEnds.__init__" (defArgs (ini 47)) (defBody (ini 47)) (defScope (ini 47)) [] [] (He.fAd K ("BadEnds", some "__init__")) fd) : Ec1 K mg "BadEnds" "job" (He.ga K "BadEnds") :=
  ec1_of c (by simp) hi F ⟨rfl, rfl, rfl, by decide +kernel, rfl, by decide +kernel, by decide +kernel⟩ (by decide) (by decide) (fun _ _ _ _ _ _ us ws hl _ => match us, hl with | [_, _], _ => rfl) (fun _ _ _ _ _ _ us ws hl hw => match us, hl, ws, hw with | [_], _, [_], _ => rfl)
theorem ec_44 (c : ClsF K mg (UpT K) "BadTimed" ["task", "path"]) (hi : initB K "BadTimed" = true) (F : FunD K "__init__" "BadTimed.__init__" (defArgs (ini 48)) (defBody (ini 48)) (defScope (ini 48)) [] [] (He.fAd K ("BadTimed", some "__init__")) fd) : Ec2 K mg "BadTimed" "task" "path" (He.ga K "BadTimed") :=
  ec2_of c (by simp) (by simp) hi F ⟨rfl, rfl, rfl, by decide +kernel, rfl, by decide +kernel, by decide +kernel⟩ (by decide) (by decide) (by decide) (by decide) (fun _ _ _ _ _ _ us ws hl _ => match us, hl with | [_, _, _], _ => rfl) (fun _ _ _ _ _ _ us ws hl hw => match us, hl, ws, hw with | [_], _, [_, _], _ => rfl)
theorem ec_45 (c : ClsF K mg (UpT K) "BadFates" ["thing"]) (hi : initB K "BadFates" = true) (F : FunD K "__init__" "BadFates.__init__" (defArgs (ini 49)) (defBody (ini 49)) (defScope (ini 49)) [] [] (He.fAd K ("BadFates", some "__init__")) fd) : Ec1 K mg "BadFates" "thing" (He.ga K "BadFates") :=
  ec1_of c (by simp) hi F ⟨rfl, rfl, rfl, by decide +kernel, rfl, by decide +kernel, by decide +kernel⟩ (by decide) (by decide) (fun _ _ _ _ _ _ us ws hl _ => match us, hl with | [_, _], _ => rfl) (fun _ _ _ _ _ _ us ws hl hw => match us, hl, ws, hw with | [_], _, [_], _ => rfl)
theorem ec_46 (c : ClsF K mg (UpT K) "NoNote" ["word"]) (hi : initB K "NoNote" = true) (F : FunD K "__init__" "NoNote.__init__" (defArgs (ini 50)) (defBody (ini 50)) (defScope (ini 50)) [] [] (He.fAd K ("NoNote", some "__init__")) fd) : Ec1 K mg "NoNote" "word" (He.ga K "NoNote") :=
  ec1_of c (by simp) hi F ⟨rfl, rfl, rfl, by decide +kernel, rfl, by decide +kernel, by decide +kernel⟩ (by decide) (by decide) (fun _ _ _ _ _ _ us ws hl _ => match us, hl with | [_, _], _ => rfl) (fun _ _ _ _ _ _ us ws hl hw => match us, hl, ws, hw with | [_], _, [_], _ => rfl)
theorem ec_47 (c : ClsF K mg (UpT K) "NoComing" ["pair"]) (hi : initB K "NoComing" = true) (F : FunD K "__init__" "NoComing.__init__" (defArgs (ini 51)) (defBody (ini 51)) (defScope (ini 51)) [] [] (He.fAd K ("NoComing", some "__init__")) fd) : Ec1 K mg "NoComing" "pair" (He.ga K "NoComing") :=
  ec1_of c (by simp) hi F ⟨rfl, rfl, rfl, by decide +kernel, rfl, by decide +kernel, by decide +kernel⟩ (by decide) (by decide) (fun _ _ _ _ _ _ us ws hl _ => match us, hl with | [_, _], _ => rfl) (fun _ _ _ _ _ _ us ws hl hw => match us, hl, ws, hw with | [_], _, [_], _ => rfl)
theorem ec_48 (c : ClsF K mg (UpT K) "BadCourse" ["thing"]) (hi : initB K "BadCourse" = true) (F : FunD K "__init__" "BadCourse.__init__" (defArgs (ini 52)) (defBody (ini 52)) (defScope (ini 52)) [] [] (He.fAd K ("BadCourse", some "__init__")) fd) : Ec1 K mg "BadCourse" "thing" (He.ga K "BadCourse") :=
  ec1_of c (by simp) hi F ⟨rfl, rfl, rfl, by decide +kernel, rfl, by decide +kernel, by decide +kernel⟩ (by decide) (by decide) (fun _ _ _ _ _ _ us ws hl _ => match us, hl with | [_, _], _ => rfl) (fun _ _ _ _ _ _ us ws hl hw => match us, hl, ws, hw with | [_], _, [_], _ => rfl)
theorem ec_49 (c : ClsF K mg (UpT K) "BadCode" ["task", "number"]) (hi : initB K "BadCode" = true) (F : FunD K "__init__" "BadCode.__init__" (defArgs (ini 53)) (defBody (ini 53)) (defScope (ini 53)) [] [] (He.fAd K ("BadCode", some "__init__")) fd) : Ec2 K mg "BadCode" "task" "number" (He.ga K "BadCode") :=
  ec2_of c (by simp) (by simp) hi F ⟨rfl, rfl, rfl, by decide +kernel, rfl, by decide +kernel, by decide +kernel⟩ (by decide) (by decide) (by decide) (by decide) (fun _ _ _ _ _ _ us ws hl _ => match us, hl with | [_, _, _], _ => rfl) (fun _ _ _ _ _ _ us ws hl hw => match us, hl, ws, hw with | [_], _, [_, _], _ => rfl)
theorem ec_50 (c : ClsF K mg (UpT K) "Silent" ["task", "spot"]) (hi : initB K "Silent" = true) (F : FunD K "__init__" "Silent.__init__" (defArgs (ini 54)) (defBody (ini 54)) (defScope (ini 54)) [] [] (He.fAd K ("Silent", some "__init__")) fd) : Ec2 K mg "Silent" "task" "spot" (He.ga K "Silent") :=
  ec2_of c (by simp) (by simp) hi F ⟨rfl, rfl, rfl, by decide +kernel, rfl, by decide +kernel, by decide +kernel⟩ (by decide) (by decide) (by decide) (by decide) (fun _ _ _ _ _ _ us ws hl _ => match us, hl with | [_, _, _], _ => rfl) (fun _ _ _ _ _ _ us ws hl hw => match us, hl, ws, hw with | [_], _, [_, _], _ => rfl)
theorem ec_51 (c : ClsF K mg (UpT K) "BadCuts" ["index"]) (hi : initB K "BadCuts" = true) (F : FunD K "__init__" "BadCuts.__init__" (defArgs (ini 55)) (defBody (ini 55)) (defScope (ini 55)) [] [] (He.fAd K ("BadCuts", some "__init__")) fd) : Ec1 K mg "BadCuts" "index" (He.ga K "BadCuts") :=
  ec1_of c (by simp) hi F ⟨rfl, rfl, rfl, by decide +kernel, rfl, by decide +kernel, by decide +kernel⟩ (by decide) (by decide) (fun _ _ _ _ _ _ us ws hl _ => match us, hl with | [_, _], _ => rfl) (fun _ _ _ _ _ _ us ws hl hw => match us, hl, ws, hw with | [_], _, [_], _ => rfl)
theorem ec_52 (c : ClsF K mg (UpT K) "NoRow" ["number"]) (hi : initB K "NoRow" = true) (F : FunD K "__init__" "NoRow.__init__" (defArgs (ini 56)) (defBody (ini 56)) (defScope (ini 56)) [] [] (He.fAd K ("NoRow", some "__init__")) fd) : Ec1 K mg "NoRow" "number" (He.ga K "NoRow") :=
  ec1_of c (by simp) hi F ⟨rfl, rfl, rfl, by decide +kernel, rfl, by decide +kernel, by decide +kernel⟩ (by decide) (by decide) (fun _ _ _ _ _ _ us ws hl _ => match us, hl with | [_, _], _ => rfl) (fun _ _ _ _ _ _ us ws hl hw => match us, hl, ws, hw with | [_], _, [_], _ => rfl)
theorem ec_53 (c : ClsF K mg (UpT K) "BadLog" ["index"]) (hi : initB K "BadLog" = true) (F : FunD K "__init__" "BadLog.__init__" (defArgs (ini 57)) (defBody (ini 57)) (defScope (ini 57)) [] [] (He.fAd K ("BadLog", some "__init__")) fd) : Ec1 K mg "BadLog" "index" (He.ga K "BadLog") :=
  ec1_of c (by simp) hi F ⟨rfl, rfl, rfl, by decide +kernel, rfl, by decide +kernel, by decide +kernel⟩ (by decide) (by decide) (fun _ _ _ _ _ _ us ws hl _ => match us, hl with | [_, _], _ => rfl) (fun _ _ _ _ _ _ us ws hl hw => match us, hl, ws, hw with | [_], _, [_], _ => rfl)
theorem ec_54 (c : ClsF K mg (UpT K) "BadGap" ["number"]) (hi : initB K "BadGap" = true) (F : FunD K "__init__" "BadGap.__init__" (defArgs (ini 58)) (defBody (ini 58)) (defScope (ini 58)) [] [] (He.fAd K ("BadGap", some "__init__")) fd) : Ec1 K mg "BadGap" "number" (He.ga K "BadGap") :=
  ec1_of c (by simp) hi F ⟨rfl, rfl, rfl, by decide +kernel, rfl, by decide +kernel, by decide +kernel⟩ (by decide) (by decide) (fun _ _ _ _ _ _ us ws hl _ => match us, hl with | [_, _], _ => rfl) (fun _ _ _ _ _ _ us ws hl hw => match us, hl, ws, hw with | [_], _, [_], _ => rfl)
theorem ec_55 (c : ClsF K mg (UpT K) "BadEvent" ["event"]) (hi : initB K "BadEvent" = true) (F : FunD K "__init__" "BadEvent.__init__" (defArgs (ini 59)) (defBody (ini 59)) (defScope (ini 59)) [] [] (He.fAd K ("BadEvent", some "__init__")) fd) : Ec1 K mg "BadEvent" "event" (He.ga K "BadEvent") :=
  ec1_of c (by simp) hi F ⟨rfl, rfl, rfl, by decide +kernel, rfl, by decide +kernel, by decide +kernel⟩ (by decide) (by decide) (fun _ _ _ _ _ _ us ws hl _ => match us, hl with | [_, _], _ => rfl) (fun _ _ _ _ _ _ us ws hl hw => match us, hl, ws, hw with | [_], _, [_], _ => rfl)
theorem ec_56 (c : ClsF K mg (UpT K) "BadApart" ["task"]) (hi : initB K "BadApart" = true) (F : FunD K "__init__" "BadApart.__init__" (defArgs (ini 60)) (defBody (ini 60)) (defScope (ini 60)) [] [] (He.fAd K ("BadApart", some "__init__")) fd) : Ec1 K mg "BadApart" "task" (He.ga K "BadApart") :=
  ec1_of c (by simp) hi F ⟨rfl, rfl, rfl, by decide +kernel, rfl, by decide +kernel, by decide +kernel⟩ (by decide) (by decide) (fun _ _ _ _ _ _ us ws hl _ => match us, hl with | [_, _], _ => rfl) (fun _ _ _ _ _ _ us ws hl hw => match us, hl, ws, hw with | [_], _, [_], _ => rfl)
theorem ec_57 (c : ClsF K mg (UpT K) "BadLine" ["thing"]) (hi : initB K "BadLine" = true) (F : FunD K "__init__" "BadLine.__init__" (defArgs (ini 61)) (defBody (ini 61)) (defScope (ini 61)) [] [] (He.fAd K ("BadLine", some "__init__")) fd) : Ec1 K mg "BadLine" "thing" (He.ga K "BadLine") :=
  ec1_of c (by simp) hi F ⟨rfl, rfl, rfl, by decide +kernel, rfl, by decide +kernel, by decide +kernel⟩ (by decide) (by decide) (fun _ _ _ _ _ _ us ws hl _ => match us, hl with | [_, _], _ => rfl) (fun _ _ _ _ _ _ us ws hl hw => match us, hl, ws, hw with | [_], _, [_], _ => rfl)
theorem ec_58 (c : ClsF K mg (UpT K) "BadKinds" ["index"]) (hi : initB K "BadKinds" = true) (F : FunD K "__init__" "BadKinds.__init__" (defArgs (ini 62)) (defBody (ini 62)) (defScope (ini 62)) [] [] (He.fAd K ("BadKinds", some "__init__")) fd) : Ec1 K mg "BadKinds" "index" (He.ga K "BadKinds") :=
  ec1_of c (by simp) hi F ⟨rfl, rfl, rfl, by decide +kernel, rfl, by decide +kernel, by decide +kernel⟩ (by decide) (by decide) (fun _ _ _ _ _ _ us ws hl _ => match us, hl with | [_, _], _ => rfl) (fun _ _ _ _ _ _ us ws hl hw => match us, hl, ws, hw with | [_], _, [_], _ => rfl)
theorem ec_59 (c : ClsF K mg (UpT K) "BadText" ["index"]) (hi : initB K "BadText" = true) (F : FunD K "__init__" "BadText.__init__" (defArgs (ini 63)) (defBody (ini 63)) (defScope (ini 63)) [] [] (He.fAd K ("BadText", some "__init__")) fd) : Ec1 K mg "BadText" "index" (He.ga K "BadText") :=
  ec1_of c (by simp) hi F ⟨rfl, rfl, rfl, by decide +kernel, rfl, by decide +kernel, by decide +kernel⟩ (by decide) (by decide) (fun _ _ _ _ _ _ us ws hl _ => match us, hl with | [_, _], _ => rfl) (fun _ _ _ _ _ _ us ws hl hw => match us, hl, ws, hw with | [_], _, [_], _ => rfl)
theorem ec_60 (c : ClsF K mg (UpT K) "BadOpen" ["index"]) (hi : initB K "BadOpen" = true) (F : FunD K "__init__" "BadOpen.__init__" (defArgs (ini 64)) (defBody (ini 64)) (defScope (ini 64)) [] [] (He.fAd K ("BadOpen", some "__init__")) fd) : Ec1 K mg "BadOpen" "index" (He.ga K "BadOpen") :=
  ec1_of c (by simp) hi F ⟨rfl, rfl, rfl, by decide +kernel, rfl, by decide +kernel, by decide +kernel⟩ (by decide) (by decide) (fun _ _ _ _ _ _ us ws hl _ => match us, hl with | [_, _], _ => rfl) (fun _ _ _ _ _ _ us ws hl hw => match us, hl, ws, hw with | [_], _, [_], _ => rfl)
theorem ec_61 (c : ClsF K mg (UpT K) "BadFilling" ["task"]) (hi : initB K "BadFilling" = true) (F : FunD K "__init__" "BadFilling.__init__" (defArgs (ini 65)) (defBody (ini 65)) (defScope (ini 65)) [] [] (He.fAd K ("BadFilling", some "__init__")) fd) : Ec1 K mg "BadFilling" "task" (He.ga K "BadFilling") :=
  ec1_of c (by simp) hi F ⟨rfl, rfl, rfl, by decide +kernel, rfl, by decide +kernel, by decide +kernel⟩ (by decide) (by decide) (fun _ _ _ _ _ _ us ws hl _ => match us, hl with | [_, _], _ => rfl) (fun _ _ _ _ _ _ us ws hl hw => match us, hl, ws, hw with | [_], _, [_], _ => rfl)
theorem ec_62 (c : ClsF K mg (UpT K) "BadAsk" ["thing"]) (hi : initB K "BadAsk" = true) (F : FunD K "__init__" "BadAsk.__init__" (defArgs (ini 66)) (defBody (ini 66)) (defScope (ini 66)) [] [] (He.fAd K ("BadAsk", some "__init__")) fd) : Ec1 K mg "BadAsk" "thing" (He.ga K "BadAsk") :=
  ec1_of c (by simp) hi F ⟨rfl, rfl, rfl, by decide +kernel, rfl, by decide +kernel, by decide +kernel⟩ (by decide) (by decide) (fun _ _ _ _ _ _ us ws hl _ => match us, hl with | [_, _], _ => rfl) (fun _ _ _ _ _ _ us ws hl hw => match us, hl, ws, hw with | [_], _, [_], _ => rfl)
theorem ec_63 (c : ClsF K mg (UpT K) "BadName" ["name"]) (hi : initB K "BadName" = true) (F : FunD K "__init__" "BadName.__init__" (defArgs (ini 67)) (defBody (ini 67)) (defScope (ini 67)) [] [] (He.fAd K ("BadName", some "__init__")) fd) : Ec1 K mg "BadName" "name" (He.ga K "BadName") :=
  ec1_of c (by simp) hi F ⟨rfl, rfl, rfl, by decide +kernel, rfl, by decide +kernel, by decide +kernel⟩ (by decide) (by decide) (fun _ _ _ _ _ _ us ws hl _ => match us, hl with | [_, _], _ => rfl) (fun _ _ _ _ _ _ us ws hl hw => match us, hl, ws, hw with | [_], _, [_], _ => rfl)
theorem ec_64 (c : ClsF K mg (UpT K) "BadThing" ["thing"]) (hi : initB K "BadThing" = true) (F : FunD K "__init__" "BadThing.__init__" (defArgs (ini 68)) (defBody (ini 68)) (defScope (ini 68)) [] [] (He.fAd K ("BadThing", some "__init__")) fd) : Ec1 K mg "BadThing" "thing" (He.ga K "BadThing") :=
  ec1_of c (by simp) hi F ⟨rfl, rfl, rfl, by decide +kernel, rfl, by decide +kernel, by decide +kernel⟩ (by decide) (by decide) (fun _ _ _ _ _ _ us ws hl _ => match us, hl with | [_, _], _ => rfl) (fun _ _ _ _ _ _ us ws hl hw => match us, hl, ws, hw with | [_], _, [_], _ => rfl)
theorem ec_65 (c : ClsF K mg (UpT K) "Lacks" ["name"]) (hi : initB K "Lacks" = true) (F : FunD K "__init__" "Lacks.__init__" (defArgs (ini 69)) (defBody (ini 69)) (defScope (ini 69)) [] [] (He.fAd K ("Lacks", some "__init__")) fd) : Ec1 K mg "Lacks" "name" (He.ga K "Lacks") :=
  ec1_of c (by simp) hi F ⟨rfl, rfl, rfl, by decide +kernel, rfl, by decide +kernel, by decide +kernel⟩ (by decide) (by decide) (fun _ _ _ _ _ _ us ws hl _ => match us, hl with | [_, _], _ => rfl) (fun _ _ _ _ _ _ us ws hl hw => match us, hl, ws, hw with | [_], _, [_], _ => rfl)
theorem ec_66 (c : ClsF K mg (UpT K) "NotOf" ["name"]) (hi : initB K "NotOf" = true) (F : FunD K "__init__" "NotOf.__init__" (defArgs (ini 70)) (defBody (ini 70)) (defScope (ini 70)) [] [] (He.fAd K ("NotOf", some "__init__")) fd) : Ec1 K mg "NotOf" "name" (He.ga K "NotOf") :=
  ec1_of c (by simp) hi F ⟨rfl, rfl, rfl, by decide +kernel, rfl, by decide +kernel, by decide +kernel⟩ (by decide) (by decide) (fun _ _ _ _ _ _ us ws hl _ => match us, hl with | [_, _], _ => rfl) (fun _ _ _ _ _ _ us ws hl hw => match us, hl, ws, hw with | [_], _, [_], _ => rfl)
theorem ec_67 (c : ClsF K mg (UpT K) "NoName" ["name"]) (hi : initB K "NoName" = true) (F : FunD K "__init__" "NoName.__init__" (defArgs (ini 71)) (defBody (ini 71)) (defScope (ini 71)) [] [] (He.fAd K ("NoName", some "__init__")) fd) : Ec1 K mg "NoName" "name" (He.ga K "NoName") :=
  ec1_of c (by simp) hi F ⟨rfl, rfl, rfl, by decide +kernel, rfl, by decide +kernel, by decide +kernel⟩ (by decide) (by decide) (fun _ _ _ _ _ _ us ws hl _ => match us, hl with | [_, _], _ => rfl) (fun _ _ _ _ _ _ us ws hl hw => match us, hl, ws, hw with | [_], _, [_], _ => rfl)
theorem ec_68 (c : ClsF K mg (UpT K) "Needed" ["name", "by"]) (hi : initB K "Needed" = true) (F : FunD K "__init__" "Needed.__init__" (defArgs (ini 72)) (defBody (ini 72)) (defScope (ini 72)) [] [] (He.fAd K ("Needed", some "__init__")) fd) : Ec2 K mg "Needed" "name" "by" (He.ga K "Needed") :=
  ec2_of c (by simp) (by simp) hi F ⟨rfl, rfl, rfl, by decide +kernel, rfl, by decide +kernel, by decide +kernel⟩ (by decide) (by decide) (by decide) (by decide) (fun _ _ _ _ _ _ us ws hl _ => match us, hl with | [_, _, _], _ => rfl) (fun _ _ _ _ _ _ us ws hl hw => match us, hl, ws, hw with | [_], _, [_, _], _ => rfl)
end
end K00

namespace K00
open PySem PySem.Spec PyProof.Rows L2 LamX LamV XK0
section
variable {X : Cx} {T : List (Addr × Str)} {q : Str} {C C1 C2 : Addr}
theorem ln_0 (hsc : X.env.scope = defScope sMadeA) (M : Mkr X T q) (E : Ec1 X.K X.mg "BadValues" "index" C) : LineOk X T ((defBody sMadeA).getD 1 dS) (fun x y => ⟨C, [("index", x)], [x], ["index"]⟩) :=
  line1_ok M E (by show X.env.scope.names.lookup _ = _; rw [hsc]; rfl) ⟨NdefX.nscope_by (by kernel_rfl), fun pm cv ctv us hl => match us, hl with | [_], _ => rfl, .inl ⟨_, _, _, _, rfl, rfl⟩⟩ rfl (by decide) rfl rfl
theorem ln_1 (hsc : X.env.scope = defScope sMadeA) (M : Mkr X T q) (E : Ec1 X.K X.mg "BadStart" "thing" C) : LineOk X T ((defBody sMadeA).getD 2 dS) (fun x y => ⟨C, [("thing", x)], [x], ["thing"]⟩) :=
  line1_ok M E (by show X.env.scope.names.lookup _ = _; rw [hsc]; rfl) ⟨NdefX.nscope_by (by kernel_rfl), fun pm cv ctv us hl => match us, hl with | [_], _ => rfl, .inl ⟨_, _, _, _, rfl, rfl⟩⟩ rfl (by decide) rfl rfl
theorem ln_2 (hsc : X.env.scope = defScope sMadeA) (M : Mkr X T q) (E : Ec1 X.K X.mg "BadDeeds" "name" C) : LineOk X T ((defBody sMadeA).getD 3 dS) (fun x y => ⟨C, [("name", x)], [x], ["name"]⟩) :=
  line1_ok M E (by show X.env.scope.names.lookup _ = _; rw [hsc]; rfl) ⟨NdefX.nscope_by (by kernel_rfl), fun pm cv ctv us hl => match us, hl with | [_], _ => rfl, .inl ⟨_, _, _, _, rfl, rfl⟩⟩ rfl (by decide) rfl rfl
theorem ln_3 (hsc : X.env.scope = defScope sMadeA) (M : Mkr X T q) (E : Ec1 X.K X.mg "BadEntries" "name" C) : LineOk X T ((defBody sMadeA).getD 4 dS) (fun x y => ⟨C, [("name", x)], [x], ["name"]⟩) :=
  line1_ok M E (by show X.env.scope.names.lookup _ = _; rw [hsc]; rfl) ⟨NdefX.nscope_by (by kernel_rfl), fun pm cv ctv us hl => match us, hl with | [_], _ => rfl, .inl ⟨_, _, _, _, rfl, rfl⟩⟩ rfl (by decide) rfl rfl
theorem ln_4 (hsc : X.env.scope = defScope sMadeA) (M : Mkr X T q) (E : Ec1 X.K X.mg "BadThings" "name" C) : LineOk X T ((defBody sMadeA).getD 5 dS) (fun x y => ⟨C, [("name", x)], [x], ["name"]⟩) :=
  line1_ok M E (by show X.env.scope.names.lookup _ = _; rw [hsc]; rfl) ⟨NdefX.nscope_by (by kernel_rfl), fun pm cv ctv us hl => match us, hl with | [_], _ => rfl, .inl ⟨_, _, _, _, rfl, rfl⟩⟩ rfl (by decide) rfl rfl
theorem ln_5 (hsc : X.env.scope = defScope sMadeA) (M : Mkr X T q) (E : Ec2 X.K X.mg "BadBody" "task" "path" C) : LineOk X T ((defBody sMadeA).getD 6 dS) (fun x y => ⟨C, [("path", y), ("task", x)], [x, y], ["task", "path"]⟩) :=
  line2_ok M E (by show X.env.scope.names.lookup _ = _; rw [hsc]; rfl) ⟨NdefX.nscope_by (by kernel_rfl), fun pm cv ctv us hl => match us, hl with | [_], _ => rfl, .inr ⟨_, _, _, _, _, _, _, rfl, rfl⟩⟩ rfl (by decide) rfl rfl
theorem ln_6 (hsc : X.env.scope = defScope sMadeA) (M : Mkr X T q) (E : Ec1 X.K X.mg "NoTask" "task" C) : LineOk X T ((defBody sMadeA).getD 7 dS) (fun x y => ⟨C, [("task", x)], [x], ["task"]⟩) :=
  line1_ok M E (by show X.env.scope.names.lookup _ = _; rw [hsc]; rfl) ⟨NdefX.nscope_by (by kernel_rfl), fun pm cv ctv us hl => match us, hl with | [_], _ => rfl, .inl ⟨_, _, _, _, rfl, rfl⟩⟩ rfl (by decide) rfl rfl
theorem ln_7 (hsc : X.env.scope = defScope sMadeA) (M : Mkr X T q) (E : Ec1 X.K X.mg "NoPath" "path" C) : LineOk X T ((defBody sMadeA).getD 8 dS) (fun x y => ⟨C, [("path", x)], [x], ["path"]⟩) :=
  line1_ok M E (by show X.env.scope.names.lookup _ = _; rw [hsc]; rfl) ⟨NdefX.nscope_by (by kernel_rfl), fun pm cv ctv us hl => match us, hl with | [_], _ => rfl, .inl ⟨_, _, _, _, rfl, rfl⟩⟩ rfl (by decide) rfl rfl
theorem ln_8 (hsc : X.env.scope = defScope sMadeA) (M : Mkr X T q) (E : Ec1 X.K X.mg "NoThing" "thing" C) : LineOk X T ((defBody sMadeA).getD 9 dS) (fun x y => ⟨C, [("thing", x)], [x], ["thing"]⟩) :=
  line1_ok M E (by show X.env.scope.names.lookup _ = _; rw [hsc]; rfl) ⟨NdefX.nscope_by (by kernel_rfl), fun pm cv ctv us hl => match us, hl with | [_], _ => rfl, .inl ⟨_, _, _, _, rfl, rfl⟩⟩ rfl (by decide) rfl rfl
theorem ln_9 (hsc : X.env.scope = defScope sMadeA) (M : Mkr X T q) (E : Ec1 X.K X.mg "BadOrder" "index" C) : LineOk X T ((defBody sMadeA).getD 10 dS) (fun x y => ⟨C, [("index", x)], [x], ["index"]⟩) :=
  line1_ok M E (by show X.env.scope.names.lookup _ = _; rw [hsc]; rfl) ⟨NdefX.nscope_by (by kernel_rfl), fun pm cv ctv us hl => match us, hl with | [_], _ => rfl, .inl ⟨_, _, _, _, rfl, rfl⟩⟩ rfl (by decide) rfl rfl
theorem ln_10 (hsc : X.env.scope = defScope sMadeA) (M : Mkr X T q) (E : Ec1 X.K X.mg "NoStand" "number" C) : LineOk X T ((defBody sMadeA).getD 11 dS) (fun x y => ⟨C, [("number", x)], [x], ["number"]⟩) :=
  line1_ok M E (by show X.env.scope.names.lookup _ = _; rw [hsc]; rfl) ⟨NdefX.nscope_by (by kernel_rfl), fun pm cv ctv us hl => match us, hl with | [_], _ => rfl, .inl ⟨_, _, _, _, rfl, rfl⟩⟩ rfl (by decide) rfl rfl
theorem ln_11 (hsc : X.env.scope = defScope sMadeA) (M : Mkr X T q) (E : Ec1 X.K X.mg "BadSpots" "thing" C) : LineOk X T ((defBody sMadeA).getD 12 dS) (fun x y => ⟨C, [("thing", x)], [x], ["thing"]⟩) :=
  line1_ok M E (by show X.env.scope.names.lookup _ = _; rw [hsc]; rfl) ⟨NdefX.nscope_by (by kernel_rfl), fun pm cv ctv us hl => match us, hl with | [_], _ => rfl, .inl ⟨_, _, _, _, rfl, rfl⟩⟩ rfl (by decide) rfl rfl
theorem ln_12 (hsc : X.env.scope = defScope sMadeA) (M : Mkr X T q) (E : Ec1 X.K X.mg "Endless" "order" C) : LineOk X T ((defBody sMadeA).getD 13 dS) (fun x y => ⟨C, [("order", x)], [x], ["order"]⟩) :=
  line1_ok M E (by show X.env.scope.names.lookup _ = _; rw [hsc]; rfl) ⟨NdefX.nscope_by (by kernel_rfl), fun pm cv ctv us hl => match us, hl with | [_], _ => rfl, .inl ⟨_, _, _, _, rfl, rfl⟩⟩ rfl (by decide) rfl rfl
theorem ln_13 (hsc : X.env.scope = defScope sMadeA) (M : Mkr X T q) (E : Ec1 X.K X.mg "BadEvents" "thing" C) : LineOk X T ((defBody sMadeA).getD 14 dS) (fun x y => ⟨C, [("thing", x)], [x], ["thing"]⟩) :=
  line1_ok M E (by show X.env.scope.names.lookup _ = _; rw [hsc]; rfl) ⟨NdefX.nscope_by (by kernel_rfl), fun pm cv ctv us hl => match us, hl with | [_], _ => rfl, .inl ⟨_, _, _, _, rfl, rfl⟩⟩ rfl (by decide) rfl rfl
theorem ln_14 (hsc : X.env.scope = defScope sMadeA) (M : Mkr X T q) (E : Ec1 X.K X.mg "NoDeed" "thing" C) : LineOk X T ((defBody sMadeA).getD 15 dS) (fun x y => ⟨C, [("thing", x)], [x], ["thing"]⟩) :=
  line1_ok M E (by show X.env.scope.names.lookup _ = _; rw [hsc]; rfl) ⟨NdefX.nscope_by (by kernel_rfl), fun pm cv ctv us hl => match us, hl with | [_], _ => rfl, .inl ⟨_, _, _, _, rfl, rfl⟩⟩ rfl (by decide) rfl rfl
theorem ln_15 (hsc : X.env.scope = defScope sMadeA) (M : Mkr X T q) (E : Ec1 X.K X.mg "BadStretch" "thing" C) : LineOk X T ((defBody sMadeA).getD 16 dS) (fun x y => ⟨C, [("thing", x)], [x], ["thing"]⟩) :=
  line1_ok M E (by show X.env.scope.names.lookup _ = _; rw [hsc]; rfl) ⟨NdefX.nscope_by (by kernel_rfl), fun pm cv ctv us hl => match us, hl with | [_], _ => rfl, .inl ⟨_, _, _, _, rfl, rfl⟩⟩ rfl (by decide) rfl rfl
theorem ln_16 (hsc : X.env.scope = defScope sMadeA) (M : Mkr X T q) (E : Ec1 X.K X.mg "BadKind" "kind" C) : LineOk X T ((defBody sMadeA).getD 17 dS) (fun x y => ⟨C, [("kind", x)], [x], ["kind"]⟩) :=
  line1_ok M E (by show X.env.scope.names.lookup _ = _; rw [hsc]; rfl) ⟨NdefX.nscope_by (by kernel_rfl), fun pm cv ctv us hl => match us, hl with | [_], _ => rfl, .inl ⟨_, _, _, _, rfl, rfl⟩⟩ rfl (by decide) rfl rfl
theorem ln_17 (hsc : X.env.scope = defScope sMadeA) (M : Mkr X T q) (E : Ec1 X.K X.mg "BadMany" "thing" C) : LineOk X T ((defBody sMadeA).getD 18 dS) (fun x y => ⟨C, [("thing", x)], [x], ["thing"]⟩) :=
  line1_ok M E (by show X.env.scope.names.lookup _ = _; rw [hsc]; rfl) ⟨NdefX.nscope_by (by kernel_rfl), fun pm cv ctv us hl => match us, hl with | [_], _ => rfl, .inl ⟨_, _, _, _, rfl, rfl⟩⟩ rfl (by decide) rfl rfl
theorem ln_18 (hsc : X.env.scope = defScope sMadeA) (M : Mkr X T q) (E : Ec1 X.K X.mg "NotClosing" "task" C) : LineOk X T ((defBody sMadeA).getD 19 dS) (fun x y => ⟨C, [("task", x)], [x], ["task"]⟩) :=
  line1_ok M E (by show X.env.scope.names.lookup _ = _; rw [hsc]; rfl) ⟨NdefX.nscope_by (by kernel_rfl), fun pm cv ctv us hl => match us, hl with | [_], _ => rfl, .inl ⟨_, _, _, _, rfl, rfl⟩⟩ rfl (by decide) rfl rfl
theorem ln_19 (hsc : X.env.scope = defScope sMadeA) (M : Mkr X T q) (E : Ec1 X.K X.mg "BadTasks" "index" C) : LineOk X T ((defBody sMadeA).getD 20 dS) (fun x y => ⟨C, [("index", x)], [x], ["index"]⟩) :=
  line1_ok M E (by show X.env.scope.names.lookup _ = _; rw [hsc]; rfl) ⟨NdefX.nscope_by (by kernel_rfl), fun pm cv ctv us hl => match us, hl with | [_], _ => rfl, .inl ⟨_, _, _, _, rfl, rfl⟩⟩ rfl (by decide) rfl rfl
theorem ln_20 (hsc : X.env.scope = defScope sMadeA) (M : Mkr X T q) (E : Ec1 X.K X.mg "BadOffers" "index" C) : LineOk X T ((defBody sMadeA).getD 21 dS) (fun x y => ⟨C, [("index", x)], [x], ["index"]⟩) :=
  line1_ok M E (by show X.env.scope.names.lookup _ = _; rw [hsc]; rfl) ⟨NdefX.nscope_by (by kernel_rfl), fun pm cv ctv us hl => match us, hl with | [_], _ => rfl, .inl ⟨_, _, _, _, rfl, rfl⟩⟩ rfl (by decide) rfl rfl
theorem ln_21 (hsc : X.env.scope = defScope sMadeA) (M : Mkr X T q) (E : Ec1 X.K X.mg "BadSentence" "name" C) : LineOk X T ((defBody sMadeA).getD 22 dS) (fun x y => ⟨C, [("name", x)], [x], ["name"]⟩) :=
  line1_ok M E (by show X.env.scope.names.lookup _ = _; rw [hsc]; rfl) ⟨NdefX.nscope_by (by kernel_rfl), fun pm cv ctv us hl => match us, hl with | [_], _ => rfl, .inl ⟨_, _, _, _, rfl, rfl⟩⟩ rfl (by decide) rfl rfl
theorem ln_22 (hsc : X.env.scope = defScope sMadeA) (M : Mkr X T q) (E : Ec1 X.K X.mg "BadTruth" "thing" C) : LineOk X T ((defBody sMadeA).getD 23 dS) (fun x y => ⟨C, [("thing", x)], [x], ["thing"]⟩) :=
  line1_ok M E (by show X.env.scope.names.lookup _ = _; rw [hsc]; rfl) ⟨NdefX.nscope_by (by kernel_rfl), fun pm cv ctv us hl => match us, hl with | [_], _ => rfl, .inl ⟨_, _, _, _, rfl, rfl⟩⟩ rfl (by decide) rfl rfl
theorem ln_23 (hsc : X.env.scope = defScope sMadeA) (M : Mkr X T q) (E : Ec1 X.K X.mg "BadMarks" "index" C) : LineOk X T ((defBody sMadeA).getD 24 dS) (fun x y => ⟨C, [("index", x)], [x], ["index"]⟩) :=
  line1_ok M E (by show X.env.scope.names.lookup _ = _; rw [hsc]; rfl) ⟨NdefX.nscope_by (by kernel_rfl), fun pm cv ctv us hl => match us, hl with | [_], _ => rfl, .inl ⟨_, _, _, _, rfl, rfl⟩⟩ rfl (by decide) rfl rfl
theorem ln_24 (hsc : X.env.scope = defScope sMadeA) (M : Mkr X T q) (E : Ec1 X.K X.mg "NoEntryName" "entry" C) : LineOk X T ((defBody sMadeA).getD 25 dS) (fun x y => ⟨C, [("entry", x)], [x], ["entry"]⟩) :=
  line1_ok M E (by show X.env.scope.names.lookup _ = _; rw [hsc]; rfl) ⟨NdefX.nscope_by (by kernel_rfl), fun pm cv ctv us hl => match us, hl with | [_], _ => rfl, .inl ⟨_, _, _, _, rfl, rfl⟩⟩ rfl (by decide) rfl rfl
theorem ln_25 (hsc : X.env.scope = defScope sMadeB) (M : Mkr X T q) (E : Ec1 X.K X.mg "BadNames" "index" C) : LineOk X T ((defBody sMadeB).getD 1 dS) (fun x y => ⟨C, [("index", x)], [x], ["index"]⟩) :=
  line1_ok M E (by show X.env.scope.names.lookup _ = _; rw [hsc]; rfl) ⟨NdefX.nscope_by (by kernel_rfl), fun pm cv ctv us hl => match us, hl with | [_], _ => rfl, .inl ⟨_, _, _, _, rfl, rfl⟩⟩ rfl (by decide) rfl rfl
theorem ln_26 (hsc : X.env.scope = defScope sMadeB) (M : Mkr X T q) (E : Ec1 X.K X.mg "BadNumber" "number" C) : LineOk X T ((defBody sMadeB).getD 2 dS) (fun x y => ⟨C, [("number", x)], [x], ["number"]⟩) :=
  line1_ok M E (by show X.env.scope.names.lookup _ = _; rw [hsc]; rfl) ⟨NdefX.nscope_by (by kernel_rfl), fun pm cv ctv us hl => match us, hl with | [_], _ => rfl, .inl ⟨_, _, _, _, rfl, rfl⟩⟩ rfl (by decide) rfl rfl
theorem ln_27 (hsc : X.env.scope = defScope sMadeB) (M : Mkr X T q) (E : Ec1 X.K X.mg "BadCalls" "index" C) : LineOk X T ((defBody sMadeB).getD 3 dS) (fun x y => ⟨C, [("index", x)], [x], ["index"]⟩) :=
  line1_ok M E (by show X.env.scope.names.lookup _ = _; rw [hsc]; rfl) ⟨NdefX.nscope_by (by kernel_rfl), fun pm cv ctv us hl => match us, hl with | [_], _ => rfl, .inl ⟨_, _, _, _, rfl, rfl⟩⟩ rfl (by decide) rfl rfl
theorem ln_28 (hsc : X.env.scope = defScope sMadeB) (M : Mkr X T q) (E : Ec2 X.K X.mg "BadServers" "task" "path" C) : LineOk X T ((defBody sMadeB).getD 4 dS) (fun x y => ⟨C, [("path", y), ("task", x)], [x, y], ["task", "path"]⟩) :=
  line2_ok M E (by show X.env.scope.names.lookup _ = _; rw [hsc]; rfl) ⟨NdefX.nscope_by (by kernel_rfl), fun pm cv ctv us hl => match us, hl with | [_], _ => rfl, .inr ⟨_, _, _, _, _, _, _, rfl, rfl⟩⟩ rfl (by decide) rfl rfl
theorem ln_29 (hsc : X.env.scope = defScope sMadeB) (M : Mkr X T q) (E : Ec1 X.K X.mg "BadLike" "path" C) : LineOk X T ((defBody sMadeB).getD 5 dS) (fun x y => ⟨C, [("path", x)], [x], ["path"]⟩) :=
  line1_ok M E (by show X.env.scope.names.lookup _ = _; rw [hsc]; rfl) ⟨NdefX.nscope_by (by kernel_rfl), fun pm cv ctv us hl => match us, hl with | [_], _ => rfl, .inl ⟨_, _, _, _, rfl, rfl⟩⟩ rfl (by decide) rfl rfl
theorem ln_30 (hsc : X.env.scope = defScope sMadeB) (M : Mkr X T q) (E : Ec1 X.K X.mg "BadWanted" "thing" C) : LineOk X T ((defBody sMadeB).getD 6 dS) (fun x y => ⟨C, [("thing", x)], [x], ["thing"]⟩) :=
  line1_ok M E (by show X.env.scope.names.lookup _ = _; rw [hsc]; rfl) ⟨NdefX.nscope_by (by kernel_rfl), fun pm cv ctv us hl => match us, hl with | [_], _ => rfl, .inl ⟨_, _, _, _, rfl, rfl⟩⟩ rfl (by decide) rfl rfl
theorem ln_31 (hsc : X.env.scope = defScope sMadeB) (M : Mkr X T q) (E : Ec1 X.K X.mg "NoSpot" "thing" C) : LineOk X T ((defBody sMadeB).getD 7 dS) (fun x y => ⟨C, [("thing", x)], [x], ["thing"]⟩) :=
  line1_ok M E (by show X.env.scope.names.lookup _ = _; rw [hsc]; rfl) ⟨NdefX.nscope_by (by kernel_rfl), fun pm cv ctv us hl => match us, hl with | [_], _ => rfl, .inl ⟨_, _, _, _, rfl, rfl⟩⟩ rfl (by decide) rfl rfl
theorem ln_32 (hsc : X.env.scope = defScope sMadeB) (M : Mkr X T q) (E : Ec1 X.K X.mg "BadStep" "index" C) : LineOk X T ((defBody sMadeB).getD 8 dS) (fun x y => ⟨C, [("index", x)], [x], ["index"]⟩) :=
  line1_ok M E (by show X.env.scope.names.lookup _ = _; rw [hsc]; rfl) ⟨NdefX.nscope_by (by kernel_rfl), fun pm cv ctv us hl => match us, hl with | [_], _ => rfl, .inl ⟨_, _, _, _, rfl, rfl⟩⟩ rfl (by decide) rfl rfl
theorem ln_33 (hsc : X.env.scope = defScope sMadeB) (M : Mkr X T q) (E : Ec2 X.K X.mg "Restless" "task" "path" C) : LineOk X T ((defBody sMadeB).getD 9 dS) (fun x y => ⟨C, [("path", y), ("task", x)], [x, y], ["task", "path"]⟩) :=
  line2_ok M E (by show X.env.scope.names.lookup _ = _; rw [hsc]; rfl) ⟨NdefX.nscope_by (by kernel_rfl), fun pm cv ctv us hl => match us, hl with | [_], _ => rfl, .inr ⟨_, _, _, _, _, _, _, rfl, rfl⟩⟩ rfl (by decide) rfl rfl
theorem ln_34 (hsc : X.env.scope = defScope sMadeB) (M : Mkr X T q) (E : Ec1 X.K X.mg "BadRow" "index" C) : LineOk X T ((defBody sMadeB).getD 10 dS) (fun x y => ⟨C, [("index", x)], [x], ["index"]⟩) :=
  line1_ok M E (by show X.env.scope.names.lookup _ = _; rw [hsc]; rfl) ⟨NdefX.nscope_by (by kernel_rfl), fun pm cv ctv us hl => match us, hl with | [_], _ => rfl, .inl ⟨_, _, _, _, rfl, rfl⟩⟩ rfl (by decide) rfl rfl
theorem ln_35 (hsc : X.env.scope = defScope sMadeB) (M : Mkr X T q) (E : Ec1 X.K X.mg "BadLot" "thing" C) : LineOk X T ((defBody sMadeB).getD 11 dS) (fun x y => ⟨C, [("thing", x)], [x], ["thing"]⟩) :=
  line1_ok M E (by show X.env.scope.names.lookup _ = _; rw [hsc]; rfl) ⟨NdefX.nscope_by (by kernel_rfl), fun pm cv ctv us hl => match us, hl with | [_], _ => rfl, .inl ⟨_, _, _, _, rfl, rfl⟩⟩ rfl (by decide) rfl rfl
theorem ln_36 (hsc : X.env.scope = defScope sMadeB) (M : Mkr X T q) (E : Ec1 X.K X.mg "BadStates" "index" C) : LineOk X T ((defBody sMadeB).getD 12 dS) (fun x y => ⟨C, [("index", x)], [x], ["index"]⟩) :=
  line1_ok M E (by show X.env.scope.names.lookup _ = _; rw [hsc]; rfl) ⟨NdefX.nscope_by (by kernel_rfl), fun pm cv ctv us hl => match us, hl with | [_], _ => rfl, .inl ⟨_, _, _, _, rfl, rfl⟩⟩ rfl (by decide) rfl rfl
theorem ln_37 (hsc : X.env.scope = defScope sMadeB) (M : Mkr X T q) (E : Ec1 X.K X.mg "BadMachine" "thing" C) : LineOk X T ((defBody sMadeB).getD 13 dS) (fun x y => ⟨C, [("thing", x)], [x], ["thing"]⟩) :=
  line1_ok M E (by show X.env.scope.names.lookup _ = _; rw [hsc]; rfl) ⟨NdefX.nscope_by (by kernel_rfl), fun pm cv ctv us hl => match us, hl with | [_], _ => rfl, .inl ⟨_, _, _, _, rfl, rfl⟩⟩ rfl (by decide) rfl rfl
theorem ln_38 (hsc : X.env.scope = defScope sMadeB) (M : Mkr X T q) (E : Ec2 X.K X.mg "NoEntry" "owner" "entry" C) : LineOk X T ((defBody sMadeB).getD 14 dS) (fun x y => ⟨C, [("entry", y), ("owner", x)], [x, y], ["owner", "entry"]⟩) :=
  line2_ok M E (by show X.env.scope.names.lookup _ = _; rw [hsc]; rfl) ⟨NdefX.nscope_by (by kernel_rfl), fun pm cv ctv us hl => match us, hl with | [_], _ => rfl, .inr ⟨_, _, _, _, _, _, _, rfl, rfl⟩⟩ rfl (by decide) rfl rfl
theorem ln_39 (hsc : X.env.scope = defScope sMadeB) (M : Mkr X T q) (E : Ec1 X.K X.mg "BadJobs" "job" C) : LineOk X T ((defBody sMadeB).getD 15 dS) (fun x y => ⟨C, [("job", x)], [x], ["job"]⟩) :=
  line1_ok M E (by show X.env.scope.names.lookup _ = _; rw [hsc]; rfl) ⟨NdefX.nscope_by (by kernel_rfl), fun pm cv ctv us hl => match us, hl with | [_], _ => rfl, .inl ⟨_, _, _, _, rfl, rfl⟩⟩ rfl (by decide) rfl rfl
theorem ln_40 (hsc : X.env.scope = defScope sMadeB) (M : Mkr X T q) (E : Ec1 X.K X.mg "NoJob" "job" C) : LineOk X T ((defBody sMadeB).getD 16 dS) (fun x y => ⟨C, [("job", x)], [x], ["job"]⟩) :=
  line1_ok M E (by show X.env.scope.names.lookup _ = _; rw [hsc]; rfl) ⟨NdefX.nscope_by (by kernel_rfl), fun pm cv ctv us hl => match us, hl with | [_], _ => rfl, .inl ⟨_, _, _, _, rfl, rfl⟩⟩ rfl (by decide) rfl rfl
theorem ln_41 (hsc : X.env.scope = defScope sMadeB) (M : Mkr X T q) (E : Ec1 X.K X.mg "BadComings" "job" C) : LineOk X T ((defBody sMadeB).getD 17 dS) (fun x y => ⟨C, [("job", x)], [x], ["job"]⟩) :=
  line1_ok M E (by show X.env.scope.names.lookup _ = _; rw [hsc]; rfl) ⟨NdefX.nscope_by (by kernel_rfl), fun pm cv ctv us hl => match us, hl with | [_], _ => rfl, .inl ⟨_, _, _, _, rfl, rfl⟩⟩ rfl (by decide) rfl rfl
theorem ln_42 (hsc : X.env.scope = defScope sMadeB) (M : Mkr X T q) (E : Ec1 X.K X.mg "BadCeiling" "ceiling" C) : LineOk X T ((defBody sMadeB).getD 18 dS) (fun x y => ⟨C, [("ceiling", x)], [x], ["ceiling"]⟩) :=
  line1_ok M E (by show X.env.scope.names.lookup _ = _; rw [hsc]; rfl) ⟨NdefX.nscope_by (by kernel_rfl), fun pm cv ctv us hl => match us, hl with | [_], _ => rfl, .inl ⟨_, _, _, _, rfl, rfl⟩⟩ rfl (by decide) rfl rfl
theorem ln_43 (hsc : X.env.scope = defScope sMadeB) (M : Mkr X T q) (E : Ec1 X.K X.mg "BadEnds" "job" C) : LineOk X T ((defBody sMadeB).getD 19 dS) (fun x y => ⟨C, [("job", x)], [x], ["job"]⟩) :=
  line1_ok M E (by show X.env.scope.names.lookup _ = _; rw [hsc]; rfl) ⟨NdefX.nscope_by (by kernel_rfl), fun pm cv ctv us hl => match us, hl with | [_], _ => rfl, .inl ⟨_, _, _, _, rfl, rfl⟩⟩ rfl (by decide) rfl rfl
theorem ln_44 (hsc : X.env.scope = defScope sMadeB) (M : Mkr X T q) (E : Ec2 X.K X.mg "BadTimed" "task" "path" C) : LineOk X T ((defBody sMadeB).getD 20 dS) (fun x y => ⟨C, [("path", y), ("task", x)], [x, y], ["task", "path"]⟩) :=
  line2_ok M E (by show X.env.scope.names.lookup _ = _; rw [hsc]; rfl) ⟨NdefX.nscope_by (by kernel_rfl), fun pm cv ctv us hl => match us, hl with | [_], _ => rfl, .inr ⟨_, _, _, _, _, _, _, rfl, rfl⟩⟩ rfl (by decide) rfl rfl
theorem ln_45 (hsc : X.env.scope = defScope sMadeB) (M : Mkr X T q) (E : Ec1 X.K X.mg "BadFates" "thing" C) : LineOk X T ((defBody sMadeB).getD 21 dS) (fun x y => ⟨C, [("thing", x)], [x], ["thing"]⟩) :=
  line1_ok M E (by show X.env.scope.names.lookup _ = _; rw [hsc]; rfl) ⟨NdefX.nscope_by (by kernel_rfl), fun pm cv ctv us hl => match us, hl with | [_], _ => rfl, .inl ⟨_, _, _, _, rfl, rfl⟩⟩ rfl (by decide) rfl rfl
theorem ln_46 (hsc : X.env.scope = defScope sMadeB) (M : Mkr X T q) (E : Ec1 X.K X.mg "NoNote" "word" C) : LineOk X T ((defBody sMadeB).getD 22 dS) (fun x y => ⟨C, [("word", x)], [x], ["word"]⟩) :=
  line1_ok M E (by show X.env.scope.names.lookup _ = _; rw [hsc]; rfl) ⟨NdefX.nscope_by (by kernel_rfl), fun pm cv ctv us hl => match us, hl with | [_], _ => rfl, .inl ⟨_, _, _, _, rfl, rfl⟩⟩ rfl (by decide) rfl rfl
theorem ln_47 (hsc : X.env.scope = defScope sMadeB) (M : Mkr X T q) (E : Ec1 X.K X.mg "NoComing" "pair" C) : LineOk X T ((defBody sMadeB).getD 23 dS) (fun x y => ⟨C, [("pair", x)], [x], ["pair"]⟩) :=
  line1_ok M E (by show X.env.scope.names.lookup _ = _; rw [hsc]; rfl) ⟨NdefX.nscope_by (by kernel_rfl), fun pm cv ctv us hl => match us, hl with | [_], _ => rfl, .inl ⟨_, _, _, _, rfl, rfl⟩⟩ rfl (by decide) rfl rfl
theorem ln_48 (hsc : X.env.scope = defScope sMadeB) (M : Mkr X T q) (E : Ec1 X.K X.mg "BadCourse" "thing" C) : LineOk X T ((defBody sMadeB).getD 24 dS) (fun x y => ⟨C, [("thing", x)], [x], ["thing"]⟩) :=
  line1_ok M E (by show X.env.scope.names.lookup _ = _; rw [hsc]; rfl) ⟨NdefX.nscope_by (by kernel_rfl), fun pm cv ctv us hl => match us, hl with | [_], _ => rfl, .inl ⟨_, _, _, _, rfl, rfl⟩⟩ rfl (by decide) rfl rfl
theorem ln_49 (hsc : X.env.scope = defScope sMadeB) (M : Mkr X T q) (E : Ec2 X.K X.mg "BadCode" "task" "number" C) : LineOk X T ((defBody sMadeB).getD 25 dS) (fun x y => ⟨C, [("number", y), ("task", x)], [x, y], ["task", "number"]⟩) :=
  line2_ok M E (by show X.env.scope.names.lookup _ = _; rw [hsc]; rfl) ⟨NdefX.nscope_by (by kernel_rfl), fun pm cv ctv us hl => match us, hl with | [_], _ => rfl, .inr ⟨_, _, _, _, _, _, _, rfl, rfl⟩⟩ rfl (by decide) rfl rfl
theorem ln_50 (hsc : X.env.scope = defScope sMadeC) (M : Mkr X T q) (E : Ec2 X.K X.mg "Silent" "task" "spot" C) : LineOk X T ((defBody sMadeC).getD 1 dS) (fun x y => ⟨C, [("spot", y), ("task", x)], [x, y], ["task", "spot"]⟩) :=
  line2_ok M E (by show X.env.scope.names.lookup _ = _; rw [hsc]; rfl) ⟨NdefX.nscope_by (by kernel_rfl), fun pm cv ctv us hl => match us, hl with | [_], _ => rfl, .inr ⟨_, _, _, _, _, _, _, rfl, rfl⟩⟩ rfl (by decide) rfl rfl
theorem ln_51 (hsc : X.env.scope = defScope sMadeC) (M : Mkr X T q) (E : Ec1 X.K X.mg "BadCuts" "index" C) : LineOk X T ((defBody sMadeC).getD 2 dS) (fun x y => ⟨C, [("index", x)], [x], ["index"]⟩) :=
  line1_ok M E (by show X.env.scope.names.lookup _ = _; rw [hsc]; rfl) ⟨NdefX.nscope_by (by kernel_rfl), fun pm cv ctv us hl => match us, hl with | [_], _ => rfl, .inl ⟨_, _, _, _, rfl, rfl⟩⟩ rfl (by decide) rfl rfl
theorem ln_52 (hsc : X.env.scope = defScope sMadeC) (M : Mkr X T q) (E : Ec1 X.K X.mg "NoRow" "number" C) : LineOk X T ((defBody sMadeC).getD 3 dS) (fun x y => ⟨C, [("number", x)], [x], ["number"]⟩) :=
  line1_ok M E (by show X.env.scope.names.lookup _ = _; rw [hsc]; rfl) ⟨NdefX.nscope_by (by kernel_rfl), fun pm cv ctv us hl => match us, hl with | [_], _ => rfl, .inl ⟨_, _, _, _, rfl, rfl⟩⟩ rfl (by decide) rfl rfl
theorem ln_53 (hsc : X.env.scope = defScope sMadeC) (M : Mkr X T q) (E : Ec1 X.K X.mg "BadLog" "index" C) : LineOk X T ((defBody sMadeC).getD 4 dS) (fun x y => ⟨C, [("index", x)], [x], ["index"]⟩) :=
  line1_ok M E (by show X.env.scope.names.lookup _ = _; rw [hsc]; rfl) ⟨NdefX.nscope_by (by kernel_rfl), fun pm cv ctv us hl => match us, hl with | [_], _ => rfl, .inl ⟨_, _, _, _, rfl, rfl⟩⟩ rfl (by decide) rfl rfl
theorem ln_54 (hsc : X.env.scope = defScope sMadeC) (M : Mkr X T q) (E : Ec1 X.K X.mg "BadGap" "number" C) : LineOk X T ((defBody sMadeC).getD 5 dS) (fun x y => ⟨C, [("number", x)], [x], ["number"]⟩) :=
  line1_ok M E (by show X.env.scope.names.lookup _ = _; rw [hsc]; rfl) ⟨NdefX.nscope_by (by kernel_rfl), fun pm cv ctv us hl => match us, hl with | [_], _ => rfl, .inl ⟨_, _, _, _, rfl, rfl⟩⟩ rfl (by decide) rfl rfl
theorem ln_55 (hsc : X.env.scope = defScope sMadeC) (M : Mkr X T q) (E : Ec1 X.K X.mg "BadEvent" "event" C) : LineOk X T ((defBody sMadeC).getD 6 dS) (fun x y => ⟨C, [("event", x)], [x], ["event"]⟩) :=
  line1_ok M E (by show X.env.scope.names.lookup _ = _; rw [hsc]; rfl) ⟨NdefX.nscope_by (by kernel_rfl), fun pm cv ctv us hl => match us, hl with | [_], _ => rfl, .inl ⟨_, _, _, _, rfl, rfl⟩⟩ rfl (by decide) rfl rfl
theorem ln_56 (hsc : X.env.scope = defScope sMadeC) (M : Mkr X T q) (E : Ec1 X.K X.mg "BadApart" "task" C) : LineOk X T ((defBody sMadeC).getD 7 dS) (fun x y => ⟨C, [("task", x)], [x], ["task"]⟩) :=
  line1_ok M E (by show X.env.scope.names.lookup _ = _; rw [hsc]; rfl) ⟨NdefX.nscope_by (by kernel_rfl), fun pm cv ctv us hl => match us, hl with | [_], _ => rfl, .inl ⟨_, _, _, _, rfl, rfl⟩⟩ rfl (by decide) rfl rfl
theorem ln_57 (hsc : X.env.scope = defScope sMadeC) (M : Mkr X T q) (E : Ec1 X.K X.mg "BadLine" "thing" C) : LineOk X T ((defBody sMadeC).getD 8 dS) (fun x y => ⟨C, [("thing", x)], [x], ["thing"]⟩) :=
  line1_ok M E (by show X.env.scope.names.lookup _ = _; rw [hsc]; rfl) ⟨NdefX.nscope_by (by kernel_rfl), fun pm cv ctv us hl => match us, hl with | [_], _ => rfl, .inl ⟨_, _, _, _, rfl, rfl⟩⟩ rfl (by decide) rfl rfl
theorem ln_58 (hsc : X.env.scope = defScope sMadeC) (M : Mkr X T q) (E : Ec1 X.K X.mg "BadKinds" "index" C) : LineOk X T ((defBody sMadeC).getD 9 dS) (fun x y => ⟨C, [("index", x)], [x], ["index"]⟩) :=
  line1_ok M E (by show X.env.scope.names.lookup _ = _; rw [hsc]; rfl) ⟨NdefX.nscope_by (by kernel_rfl), fun pm cv ctv us hl => match us, hl with | [_], _ => rfl, .inl ⟨_, _, _, _, rfl, rfl⟩⟩ rfl (by decide) rfl rfl
theorem ln_59 (hsc : X.env.scope = defScope sMadeC) (M : Mkr X T q) (E : Ec1 X.K X.mg "BadText" "index" C) : LineOk X T ((defBody sMadeC).getD 10 dS) (fun x y => ⟨C, [("index", x)], [x], ["index"]⟩) :=
  line1_ok M E (by show X.env.scope.names.lookup _ = _; rw [hsc]; rfl) ⟨NdefX.nscope_by (by kernel_rfl), fun pm cv ctv us hl => match us, hl with | [_], _ => rfl, .inl ⟨_, _, _, _, rfl, rfl⟩⟩ rfl (by decide) rfl rfl
theorem ln_60 (hsc : X.env.scope = defScope sMadeC) (M : Mkr X T q) (E : Ec1 X.K X.mg "BadOpen" "index" C) : LineOk X T ((defBody sMadeC).getD 11 dS) (fun x y => ⟨C, [("index", x)], [x], ["index"]⟩) :=
  line1_ok M E (by show X.env.scope.names.lookup _ = _; rw [hsc]; rfl) ⟨NdefX.nscope_by (by kernel_rfl), fun pm cv ctv us hl => match us, hl with | [_], _ => rfl, .inl ⟨_, _, _, _, rfl, rfl⟩⟩ rfl (by decide) rfl rfl
theorem ln_61 (hsc : X.env.scope = defScope sMadeC) (M : Mkr X T q) (E : Ec1 X.K X.mg "BadFilling" "task" C) : LineOk X T ((defBody sMadeC).getD 12 dS) (fun x y => ⟨C, [("task", x)], [x], ["task"]⟩) :=
  line1_ok M E (by show X.env.scope.names.lookup _ = _; rw [hsc]; rfl) ⟨NdefX.nscope_by (by kernel_rfl), fun pm cv ctv us hl => match us, hl with | [_], _ => rfl, .inl ⟨_, _, _, _, rfl, rfl⟩⟩ rfl (by decide) rfl rfl
theorem ln_62 (hsc : X.env.scope = defScope sMadeC) (M : Mkr X T q) (E : Ec1 X.K X.mg "BadAsk" "thing" C) : LineOk X T ((defBody sMadeC).getD 13 dS) (fun x y => ⟨C, [("thing", x)], [x], ["thing"]⟩) :=
  line1_ok M E (by show X.env.scope.names.lookup _ = _; rw [hsc]; rfl) ⟨NdefX.nscope_by (by kernel_rfl), fun pm cv ctv us hl => match us, hl with | [_], _ => rfl, .inl ⟨_, _, _, _, rfl, rfl⟩⟩ rfl (by decide) rfl rfl
theorem ln_63 (hsc : X.env.scope = defScope sMadeC) (M : Mkr X T q) (E : Ec1 X.K X.mg "BadName" "name" C) : LineOk X T ((defBody sMadeC).getD 14 dS) (fun x y => ⟨C, [("name", x)], [x], ["name"]⟩) :=
  line1_ok M E (by show X.env.scope.names.lookup _ = _; rw [hsc]; rfl) ⟨NdefX.nscope_by (by kernel_rfl), fun pm cv ctv us hl => match us, hl with | [_], _ => rfl, .inl ⟨_, _, _, _, rfl, rfl⟩⟩ rfl (by decide) rfl rfl
theorem ln_64 (hsc : X.env.scope = defScope sMadeC) (M : Mkr X T q) (E : Ec1 X.K X.mg "BadThing" "thing" C) : LineOk X T ((defBody sMadeC).getD 15 dS) (fun x y => ⟨C, [("thing", x)], [x], ["thing"]⟩) :=
  line1_ok M E (by show X.env.scope.names.lookup _ = _; rw [hsc]; rfl) ⟨NdefX.nscope_by (by kernel_rfl), fun pm cv ctv us hl => match us, hl with | [_], _ => rfl, .inl ⟨_, _, _, _, rfl, rfl⟩⟩ rfl (by decide) rfl rfl
theorem ln_65 (hsc : X.env.scope = defScope sMadeC) (M : Mkr X T q) (E : Ec1 X.K X.mg "Lacks" "name" C) : LineOk X T ((defBody sMadeC).getD 16 dS) (fun x y => ⟨C, [("name", x)], [x], ["name"]⟩) :=
  line1_ok M E (by show X.env.scope.names.lookup _ = _; rw [hsc]; rfl) ⟨NdefX.nscope_by (by kernel_rfl), fun pm cv ctv us hl => match us, hl with | [_], _ => rfl, .inl ⟨_, _, _, _, rfl, rfl⟩⟩ rfl (by decide) rfl rfl
theorem ln_66 (hsc : X.env.scope = defScope sMadeC) (M : Mkr X T q) (E : Ec1 X.K X.mg "NotOf" "name" C) : LineOk X T ((defBody sMadeC).getD 17 dS) (fun x y => ⟨C, [("name", x)], [x], ["name"]⟩) :=
  line1_ok M E (by show X.env.scope.names.lookup _ = _; rw [hsc]; rfl) ⟨NdefX.nscope_by (by kernel_rfl), fun pm cv ctv us hl => match us, hl with | [_], _ => rfl, .inl ⟨_, _, _, _, rfl, rfl⟩⟩ rfl (by decide) rfl rfl
theorem ln_67 (hsc : X.env.scope = defScope sMadeC) (M : Mkr X T q) (E : Ec1 X.K X.mg "NoName" "name" C) : LineOk X T ((defBody sMadeC).getD 18 dS) (fun x y => ⟨C, [("name", x)], [x], ["name"]⟩) :=
  line1_ok M E (by show X.env.scope.names.lookup _ = _; rw [hsc]; rfl) ⟨NdefX.nscope_by (by kernel_rfl), fun pm cv ctv us hl => match us, hl with | [_], _ => rfl, .inl ⟨_, _, _, _, rfl, rfl⟩⟩ rfl (by decide) rfl rfl
theorem ln_68 (hsc : X.env.scope = defScope sMadeC) (M : Mkr X T q) (E : Ec2 X.K X.mg "Needed" "name" "by" C) : LineOk X T ((defBody sMadeC).getD 19 dS) (fun x y => ⟨C, [("by", y), ("name", x)], [x, y], ["name", "by"]⟩) :=
  line2_ok M E (by show X.env.scope.names.lookup _ = _; rw [hsc]; rfl) ⟨NdefX.nscope_by (by kernel_rfl), fun pm cv ctv us hl => match us, hl with | [_], _ => rfl, .inr ⟨_, _, _, _, _, _, _, rfl, rfl⟩⟩ rfl (by decide) rfl rfl
theorem knA_0 (hsc : X.env.scope = defScope sKindsA) (M : Kdr X) (m1 : X.mg "BadValues" = some (.ref C1)) (m2 : X.mg "BadStart" = some (.ref C2)) : KLine X ((defBody sKindsA).getD 1 dS) [C1, C2] :=
  kline_ok M (by show X.env.scope.names.lookup _ = _; rw [hsc]; rfl) (by show X.env.scope.names.lookup _ = _; rw [hsc]; rfl) m1 m2 rfl rfl
theorem knA_1 (hsc : X.env.scope = defScope sKindsA) (M : Kdr X) (m1 : X.mg "BadDeeds" = some (.ref C1)) (m2 : X.mg "BadEntries" = some (.ref C2)) : KLine X ((defBody sKindsA).getD 2 dS) [C1, C2] :=
  kline_ok M (by show X.env.scope.names.lookup _ = _; rw [hsc]; rfl) (by show X.env.scope.names.lookup _ = _; rw [hsc]; rfl) m1 m2 rfl rfl
theorem knA_2 (hsc : X.env.scope = defScope sKindsA) (M : Kdr X) (m1 : X.mg "BadThings" = some (.ref C1)) (m2 : X.mg "BadBody" = some (.ref C2)) : KLine X ((defBody sKindsA).getD 3 dS) [C1, C2] :=
  kline_ok M (by show X.env.scope.names.lookup _ = _; rw [hsc]; rfl) (by show X.env.scope.names.lookup _ = _; rw [hsc]; rfl) m1 m2 rfl rfl
theorem knA_3 (hsc : X.env.scope = defScope sKindsA) (M : Kdr X) (m1 : X.mg "NoTask" = some (.ref C1)) (m2 : X.mg "NoPath" = some (.ref C2)) : KLine X ((defBody sKindsA).getD 4 dS) [C1, C2] :=
  kline_ok M (by show X.env.scope.names.lookup _ = _; rw [hsc]; rfl) (by show X.env.scope.names.lookup _ = _; rw [hsc]; rfl) m1 m2 rfl rfl
theorem knA_4 (hsc : X.env.scope = defScope sKindsA) (M : Kdr X) (m1 : X.mg "NoThing" = some (.ref C1)) (m2 : X.mg "BadOrder" = some (.ref C2)) : KLine X ((defBody sKindsA).getD 5 dS) [C1, C2] :=
  kline_ok M (by show X.env.scope.names.lookup _ = _; rw [hsc]; rfl) (by show X.env.scope.names.lookup _ = _; rw [hsc]; rfl) m1 m2 rfl rfl
theorem knA_5 (hsc : X.env.scope = defScope sKindsA) (M : Kdr X) (m1 : X.mg "NoStand" = some (.ref C1)) (m2 : X.mg "BadSpots" = some (.ref C2)) : KLine X ((defBody sKindsA).getD 6 dS) [C1, C2] :=
  kline_ok M (by show X.env.scope.names.lookup _ = _; rw [hsc]; rfl) (by show X.env.scope.names.lookup _ = _; rw [hsc]; rfl) m1 m2 rfl rfl
theorem knA_6 (hsc : X.env.scope = defScope sKindsA) (M : Kdr X) (m1 : X.mg "Endless" = some (.ref C1)) (m2 : X.mg "BadEvents" = some (.ref C2)) : KLine X ((defBody sKindsA).getD 7 dS) [C1, C2] :=
  kline_ok M (by show X.env.scope.names.lookup _ = _; rw [hsc]; rfl) (by show X.env.scope.names.lookup _ = _; rw [hsc]; rfl) m1 m2 rfl rfl
theorem knA_7 (hsc : X.env.scope = defScope sKindsA) (M : Kdr X) (m1 : X.mg "NoDeed" = some (.ref C1)) (m2 : X.mg "BadStretch" = some (.ref C2)) : KLine X ((defBody sKindsA).getD 8 dS) [C1, C2] :=
  kline_ok M (by show X.env.scope.names.lookup _ = _; rw [hsc]; rfl) (by show X.env.scope.names.lookup _ = _; rw [hsc]; rfl) m1 m2 rfl rfl
theorem knA_8 (hsc : X.env.scope = defScope sKindsA) (M : Kdr X) (m1 : X.mg "BadKind" = some (.ref C1)) (m2 : X.mg "BadMany" = some (.ref C2)) : KLine X ((defBody sKindsA).getD 9 dS) [C1, C2] :=
  kline_ok M (by show X.env.scope.names.lookup _ = _; rw [hsc]; rfl) (by show X.env.scope.names.lookup _ = _; rw [hsc]; rfl) m1 m2 rfl rfl
theorem knA_9 (hsc : X.env.scope = defScope sKindsA) (M : Kdr X) (m1 : X.mg "NotClosing" = some (.ref C1)) (m2 : X.mg "BadTasks" = some (.ref C2)) : KLine X ((defBody sKindsA).getD 10 dS) [C1, C2] :=
  kline_ok M (by show X.env.scope.names.lookup _ = _; rw [hsc]; rfl) (by show X.env.scope.names.lookup _ = _; rw [hsc]; rfl) m1 m2 rfl rfl
theorem knA_10 (hsc : X.env.scope = defScope sKindsA) (M : Kdr X) (m1 : X.mg "BadOffers" = some (.ref C1)) (m2 : X.mg "BadSentence" = some (.ref C2)) : KLine X ((defBody sKindsA).getD 11 dS) [C1, C2] :=
  kline_ok M (by show X.env.scope.names.lookup _ = _; rw [hsc]; rfl) (by show X.env.scope.names.lookup _ = _; rw [hsc]; rfl) m1 m2 rfl rfl
theorem knA_11 (hsc : X.env.scope = defScope sKindsA) (M : Kdr X) (m1 : X.mg "BadTruth" = some (.ref C1)) (m2 : X.mg "BadMarks" = some (.ref C2)) : KLine X ((defBody sKindsA).getD 12 dS) [C1, C2] :=
  kline_ok M (by show X.env.scope.names.lookup _ = _; rw [hsc]; rfl) (by show X.env.scope.names.lookup _ = _; rw [hsc]; rfl) m1 m2 rfl rfl
theorem knB_0 (hsc : X.env.scope = defScope sKindsB) (M : Kdr X) (m1 : X.mg "NoEntryName" = some (.ref C1)) (m2 : X.mg "BadNames" = some (.ref C2)) : KLine X ((defBody sKindsB).getD 1 dS) [C1, C2] :=
  kline_ok M (by show X.env.scope.names.lookup _ = _; rw [hsc]; rfl) (by show X.env.scope.names.lookup _ = _; rw [hsc]; rfl) m1 m2 rfl rfl
theorem knB_1 (hsc : X.env.scope = defScope sKindsB) (M : Kdr X) (m1 : X.mg "BadNumber" = some (.ref C1)) (m2 : X.mg "BadCalls" = some (.ref C2)) : KLine X ((defBody sKindsB).getD 2 dS) [C1, C2] :=
  kline_ok M (by show X.env.scope.names.lookup _ = _; rw [hsc]; rfl) (by show X.env.scope.names.lookup _ = _; rw [hsc]; rfl) m1 m2 rfl rfl
theorem knB_2 (hsc : X.env.scope = defScope sKindsB) (M : Kdr X) (m1 : X.mg "BadServers" = some (.ref C1)) (m2 : X.mg "BadLike" = some (.ref C2)) : KLine X ((defBody sKindsB).getD 3 dS) [C1, C2] :=
  kline_ok M (by show X.env.scope.names.lookup _ = _; rw [hsc]; rfl) (by show X.env.scope.names.lookup _ = _; rw [hsc]; rfl) m1 m2 rfl rfl
theorem knB_3 (hsc : X.env.scope = defScope sKindsB) (M : Kdr X) (m1 : X.mg "BadWanted" = some (.ref C1)) (m2 : X.mg "NoSpot" = some (.ref C2)) : KLine X ((defBody sKindsB).getD 4 dS) [C1, C2] :=
  kline_ok M (by show X.env.scope.names.lookup _ = _; rw [hsc]; rfl) (by show X.env.scope.names.lookup _ = _; rw [hsc]; rfl) m1 m2 rfl rfl
theorem knB_4 (hsc : X.env.scope = defScope sKindsB) (M : Kdr X) (m1 : X.mg "BadStep" = some (.ref C1)) (m2 : X.mg "Restless" = some (.ref C2)) : KLine X ((defBody sKindsB).getD 5 dS) [C1, C2] :=
  kline_ok M (by show X.env.scope.names.lookup _ = _; rw [hsc]; rfl) (by show X.env.scope.names.lookup _ = _; rw [hsc]; rfl) m1 m2 rfl rfl
theorem knB_5 (hsc : X.env.scope = defScope sKindsB) (M : Kdr X) (m1 : X.mg "BadRow" = some (.ref C1)) (m2 : X.mg "BadLot" = some (.ref C2)) : KLine X ((defBody sKindsB).getD 6 dS) [C1, C2] :=
  kline_ok M (by show X.env.scope.names.lookup _ = _; rw [hsc]; rfl) (by show X.env.scope.names.lookup _ = _; rw [hsc]; rfl) m1 m2 rfl rfl
theorem knB_6 (hsc : X.env.scope = defScope sKindsB) (M : Kdr X) (m1 : X.mg "BadStates" = some (.ref C1)) (m2 : X.mg "BadMachine" = some (.ref C2)) : KLine X ((defBody sKindsB).getD 7 dS) [C1, C2] :=
  kline_ok M (by show X.env.scope.names.lookup _ = _; rw [hsc]; rfl) (by show X.env.scope.names.lookup _ = _; rw [hsc]; rfl) m1 m2 rfl rfl
theorem knB_7 (hsc : X.env.scope = defScope sKindsB) (M : Kdr X) (m1 : X.mg "NoEntry" = some (.ref C1)) (m2 : X.mg "BadJobs" = some (.ref C2)) : KLine X ((defBody sKindsB).getD 8 dS) [C1, C2] :=
  kline_ok M (by show X.env.scope.names.lookup _ = _; rw [hsc]; rfl) (by show X.env.scope.names.lookup _ = _; rw [hsc]; rfl) m1 m2 rfl rfl
theorem knB_8 (hsc : X.env.scope = defScope sKindsB) (M : Kdr X) (m1 : X.mg "NoJob" = some (.ref C1)) (m2 : X.mg "BadComings" = some (.ref C2)) : KLine X ((defBody sKindsB).getD 9 dS) [C1, C2] :=
  kline_ok M (by show X.env.scope.names.lookup _ = _; rw [hsc]; rfl) (by show X.env.scope.names.lookup _ = _; rw [hsc]; rfl) m1 m2 rfl rfl
theorem knB_9 (hsc : X.env.scope = defScope sKindsB) (M : Kdr X) (m1 : X.mg "BadCeiling" = some (.ref C1)) (m2 : X.mg "BadEnds" = some (.ref C2)) : KLine X ((defBody sKindsB).getD 10 dS) [C1, C2] :=
  kline_ok M (by show X.env.scope.names.lookup _ = _; rw [hsc]; rfl) (by show X.env.scope.names.lookup _ = _; rw [hsc]; rfl) m1 m2 rfl rfl
theorem knB_10 (hsc : X.env.scope = defScope sKindsB) (M : Kdr X) (m1 : X.mg "BadTimed" = some (.ref C1)) (m2 : X.mg "BadFates" = some (.ref C2)) : KLine X ((defBody sKindsB).getD 11 dS) [C1, C2] :=
  kline_ok M (by show X.env.scope.names.lookup _ = _; rw [hsc]; rfl) (by show X.env.scope.names.lookup _ = _; rw [hsc]; rfl) m1 m2 rfl rfl
theorem knB_11 (hsc : X.env.scope = defScope sKindsB) (M : Kdr X) (m1 : X.mg "NoNote" = some (.ref C1)) (m2 : X.mg "NoComing" = some (.ref C2)) : KLine X ((defBody sKindsB).getD 12 dS) [C1, C2] :=
  kline_ok M (by show X.env.scope.names.lookup _ = _; rw [hsc]; rfl) (by show X.env.scope.names.lookup _ = _; rw [hsc]; rfl) m1 m2 rfl rfl
theorem knC_0 (hsc : X.env.scope = defScope sKindsC) (M : Kdr X) (m1 : X.mg "BadCourse" = some (.ref C1)) (m2 : X.mg "BadCode" = some (.ref C2)) : KLine X ((defBody sKindsC).getD 1 dS) [C1, C2] :=
  kline_ok M (by show X.env.scope.names.lookup _ = _; rw [hsc]; rfl) (by show X.env.scope.names.lookup _ = _; rw [hsc]; rfl) m1 m2 rfl rfl
theorem knC_1 (hsc : X.env.scope = defScope sKindsC) (M : Kdr X) (m1 : X.mg "Silent" = some (.ref C1)) (m2 : X.mg "BadCuts" = some (.ref C2)) : KLine X ((defBody sKindsC).getD 2 dS) [C1, C2] :=
  kline_ok M (by show X.env.scope.names.lookup _ = _; rw [hsc]; rfl) (by show X.env.scope.names.lookup _ = _; rw [hsc]; rfl) m1 m2 rfl rfl
theorem knC_2 (hsc : X.env.scope = defScope sKindsC) (M : Kdr X) (m1 : X.mg "NoRow" = some (.ref C1)) (m2 : X.mg "BadLog" = some (.ref C2)) : KLine X ((defBody sKindsC).getD 3 dS) [C1, C2] :=
  kline_ok M (by show X.env.scope.names.lookup _ = _; rw [hsc]; rfl) (by show X.env.scope.names.lookup _ = _; rw [hsc]; rfl) m1 m2 rfl rfl
theorem knC_3 (hsc : X.env.scope = defScope sKindsC) (M : Kdr X) (m1 : X.mg "BadGap" = some (.ref C1)) (m2 : X.mg "BadEvent" = some (.ref C2)) : KLine X ((defBody sKindsC).getD 4 dS) [C1, C2] :=
  kline_ok M (by show X.env.scope.names.lookup _ = _; rw [hsc]; rfl) (by show X.env.scope.names.lookup _ = _; rw [hsc]; rfl) m1 m2 rfl rfl
theorem knC_4 (hsc : X.env.scope = defScope sKindsC) (M : Kdr X) (m1 : X.mg "BadApart" = some (.ref C1)) (m2 : X.mg "BadLine" = some (.ref C2)) : KLine X ((defBody sKindsC).getD 5 dS) [C1, C2] :=
  kline_ok M (by show X.env.scope.names.lookup _ = _; rw [hsc]; rfl) (by show X.env.scope.names.lookup _ = _; rw [hsc]; rfl) m1 m2 rfl rfl
theorem knC_5 (hsc : X.env.scope = defScope sKindsC) (M : Kdr X) (m1 : X.mg "BadKinds" = some (.ref C1)) (m2 : X.mg "BadText" = some (.ref C2)) : KLine X ((defBody sKindsC).getD 6 dS) [C1, C2] :=
  kline_ok M (by show X.env.scope.names.lookup _ = _; rw [hsc]; rfl) (by show X.env.scope.names.lookup _ = _; rw [hsc]; rfl) m1 m2 rfl rfl
theorem knC_6 (hsc : X.env.scope = defScope sKindsC) (M : Kdr X) (m1 : X.mg "BadOpen" = some (.ref C1)) (m2 : X.mg "BadFilling" = some (.ref C2)) : KLine X ((defBody sKindsC).getD 7 dS) [C1, C2] :=
  kline_ok M (by show X.env.scope.names.lookup _ = _; rw [hsc]; rfl) (by show X.env.scope.names.lookup _ = _; rw [hsc]; rfl) m1 m2 rfl rfl
theorem knC_7 (hsc : X.env.scope = defScope sKindsC) (M : Kdr X) (m1 : X.mg "BadAsk" = some (.ref C1)) (m2 : X.mg "BadName" = some (.ref C2)) : KLine X ((defBody sKindsC).getD 8 dS) [C1, C2] :=
  kline_ok M (by show X.env.scope.names.lookup _ = _; rw [hsc]; rfl) (by show X.env.scope.names.lookup _ = _; rw [hsc]; rfl) m1 m2 rfl rfl
theorem knC_8 (hsc : X.env.scope = defScope sKindsC) (M : Kdr X) (m1 : X.mg "BadThing" = some (.ref C1)) (m2 : X.mg "Lacks" = some (.ref C2)) : KLine X ((defBody sKindsC).getD 9 dS) [C1, C2] :=
  kline_ok M (by show X.env.scope.names.lookup _ = _; rw [hsc]; rfl) (by show X.env.scope.names.lookup _ = _; rw [hsc]; rfl) m1 m2 rfl rfl
theorem knC_9 (hsc : X.env.scope = defScope sKindsC) (M : Kdr X) (m1 : X.mg "NotOf" = some (.ref C1)) (m2 : X.mg "NoName" = some (.ref C2)) : KLine X ((defBody sKindsC).getD 10 dS) [C1, C2] :=
  kline_ok M (by show X.env.scope.names.lookup _ = _; rw [hsc]; rfl) (by show X.env.scope.names.lookup _ = _; rw [hsc]; rfl) m1 m2 rfl rfl
theorem knC_10 (hsc : X.env.scope = defScope sKindsC) (M : Kdr X) (m1 : X.mg "Needed" = some (.ref C1)) (m2 : X.mg "UnlikeNames" = some (.ref C2)) : KLine X ((defBody sKindsC).getD 11 dS) [C1, C2] :=
  kline_ok M (by show X.env.scope.names.lookup _ = _; rw [hsc]; rfl) (by show X.env.scope.names.lookup _ = _; rw [hsc]; rfl) m1 m2 rfl rfl
theorem knC_11 (hsc : X.env.scope = defScope sKindsC) (M : Kdr X) (m1 : X.mg "UnlikeEntries" = some (.ref C1)) (m2 : X.mg "Nothing" = some (.ref C2)) : KLine X ((defBody sKindsC).getD 12 dS) [C1, C2] :=
  kline_ok M (by show X.env.scope.names.lookup _ = _; rw [hsc]; rfl) (by show X.env.scope.names.lookup _ = _; rw [hsc]; rfl) m1 m2 rfl rfl
end
section
variable {K : PySem.W.Frag} {mg : Str → Option Value}
structure Ecs (K : PySem.W.Frag) (mg : Str → Option Value) : Prop where
  e0 : Ec1 K mg "BadValues" "index" (He.ga K "BadValues")
  e1 : Ec1 K mg "BadStart" "thing" (He.ga K "BadStart")
  e2 : Ec1 K mg "BadDeeds" "name" (He.ga K "BadDeeds")
  e3 : Ec1 K mg "BadEntries" "name" (He.ga K "BadEntries")
  e4 : Ec1 K mg "BadThings" "name" (He.ga K "BadThings")
  e5 : Ec2 K mg "BadBody" "task" "path" (He.ga K "BadBody")
  e6 : Ec1 K mg "NoTask" "task" (He.ga K "NoTask")
  e7 : Ec1 K mg "NoPath" "path" (He.ga K "NoPath")
  e8 : Ec1 K mg "NoThing" "thing" (He.ga K "NoThing")
  e9 : Ec1 K mg "BadOrder" "index" (He.ga K "BadOrder")
  e10 : Ec1 K mg "NoStand" "number" (He.ga K "NoStand")
  e11 : Ec1 K mg "BadSpots" "thing" (He.ga K "BadSpots")
  e12 : Ec1 K mg "Endless" "order" (He.ga K "Endless")
  e13 : Ec1 K mg "BadEvents" "thing" (He.ga K "BadEvents")
  e14 : Ec1 K mg "NoDeed" "thing" (He.ga K "NoDeed")
  e15 : Ec1 K mg "BadStretch" "thing" (He.ga K "BadStretch")
  e16 : Ec1 K mg "BadKind" "kind" (He.ga K "BadKind")
  e17 : Ec1 K mg "BadMany" "thing" (He.ga K "BadMany")
  e18 : Ec1 K mg "NotClosing" "task" (He.ga K "NotClosing")
  e19 : Ec1 K mg "BadTasks" "index" (He.ga K "BadTasks")
  e20 : Ec1 K mg "BadOffers" "index" (He.ga K "BadOffers")
  e21 : Ec1 K mg "BadSentence" "name" (He.ga K "BadSentence")
  e22 : Ec1 K mg "BadTruth" "thing" (He.ga K "BadTruth")
  e23 : Ec1 K mg "BadMarks" "index" (He.ga K "BadMarks")
  e24 : Ec1 K mg "NoEntryName" "entry" (He.ga K "NoEntryName")
  e25 : Ec1 K mg "BadNames" "index" (He.ga K "BadNames")
  e26 : Ec1 K mg "BadNumber" "number" (He.ga K "BadNumber")
  e27 : Ec1 K mg "BadCalls" "index" (He.ga K "BadCalls")
  e28 : Ec2 K mg "BadServers" "task" "path" (He.ga K "BadServers")
  e29 : Ec1 K mg "BadLike" "path" (He.ga K "BadLike")
  e30 : Ec1 K mg "BadWanted" "thing" (He.ga K "BadWanted")
  e31 : Ec1 K mg "NoSpot" "thing" (He.ga K "NoSpot")
  e32 : Ec1 K mg "BadStep" "index" (He.ga K "BadStep")
  e33 : Ec2 K mg "Restless" "task" "path" (He.ga K "Restless")
  e34 : Ec1 K mg "BadRow" "index" (He.ga K "BadRow")
  e35 : Ec1 K mg "BadLot" "thing" (He.ga K "BadLot")
  e36 : Ec1 K mg "BadStates" "index" (He.ga K "BadStates")
  e37 : Ec1 K mg "BadMachine" "thing" (He.ga K "BadMachine")
  e38 : Ec2 K mg "NoEntry" "owner" "entry" (He.ga K "NoEntry")
  e39 : Ec1 K mg "BadJobs" "job" (He.ga K "BadJobs")
  e40 : Ec1 K mg "NoJob" "job" (He.ga K "NoJob")
  e41 : Ec1 K mg "BadComings" "job" (He.ga K "BadComings")
  e42 : Ec1 K mg "BadCeiling" "ceiling" (He.ga K "BadCeiling")
  e43 : Ec1 K mg "BadEnds" "job" (He.ga K "BadEnds")
  e44 : Ec2 K mg "BadTimed" "task" "path" (He.ga K "BadTimed")
  e45 : Ec1 K mg "BadFates" "thing" (He.ga K "BadFates")
  e46 : Ec1 K mg "NoNote" "word" (He.ga K "NoNote")
  e47 : Ec1 K mg "NoComing" "pair" (He.ga K "NoComing")
  e48 : Ec1 K mg "BadCourse" "thing" (He.ga K "BadCourse")
  e49 : Ec2 K mg "BadCode" "task" "number" (He.ga K "BadCode")
  e50 : Ec2 K mg "Silent" "task" "spot" (He.ga K "Silent")
  e51 : Ec1 K mg "BadCuts" "index" (He.ga K "BadCuts")
  e52 : Ec1 K mg "NoRow" "number" (He.ga K "NoRow")
  e53 : Ec1 K mg "BadLog" "index" (He.ga K "BadLog")
  e54 : Ec1 K mg "BadGap" "number" (He.ga K "BadGap")
  e55 : Ec1 K mg "BadEvent" "event" (He.ga K "BadEvent")
  e56 : Ec1 K mg "BadApart" "task" (He.ga K "BadApart")
  e57 : Ec1 K mg "BadLine" "thing" (He.ga K "BadLine")
  e58 : Ec1 K mg "BadKinds" "index" (He.ga K "BadKinds")
  e59 : Ec1 K mg "BadText" "index" (He.ga K "BadText")
  e60 : Ec1 K mg "BadOpen" "index" (He.ga K "BadOpen")
  e61 : Ec1 K mg "BadFilling" "task" (He.ga K "BadFilling")
  e62 : Ec1 K mg "BadAsk" "thing" (He.ga K "BadAsk")
  e63 : Ec1 K mg "BadName" "name" (He.ga K "BadName")
  e64 : Ec1 K mg "BadThing" "thing" (He.ga K "BadThing")
  e65 : Ec1 K mg "Lacks" "name" (He.ga K "Lacks")
  e66 : Ec1 K mg "NotOf" "name" (He.ga K "NotOf")
  e67 : Ec1 K mg "NoName" "name" (He.ga K "NoName")
  e68 : Ec2 K mg "Needed" "name" "by" (He.ga K "Needed")
def itA (K : PySem.W.Frag) : List (V → V → XK0.It) := [(fun x y => ⟨He.ga K "BadValues", [("index", x)], [x], ["index"]⟩), (fun x y => ⟨He.ga K "BadStart", [("thing", x)], [x], ["thing"]⟩), (fun x y => ⟨He.ga K "BadDeeds", [("name", x)], [x], ["name"]⟩), (fun x y => ⟨He.ga K "BadEntries", [("name", x)], [x], ["name"]⟩), (fun x y => ⟨He.ga K "BadThings", [("name", x)], [x], ["name"]⟩), (fun x y => ⟨He.ga K "BadBody", [("path", y), ("task", x)], [x, y], ["task", "path"]⟩), (fun x y => ⟨He.ga K "NoTask", [("task", x)], [x], ["task"]⟩), (fun x y => ⟨He.ga K "NoPath", [("path", x)], [x], ["path"]⟩), (fun x y => ⟨He.ga K "NoThing", [("thing", x)], [x], ["thing"]⟩), (fun x y => ⟨He.ga K "BadOrder", [("index", x)], [x], ["index"]⟩), (fun x y => ⟨He.ga K "NoStand", [("number", x)], [x], ["number"]⟩), (fun x y => ⟨He.ga K "BadSpots", [("thing", x)], [x], ["thing"]⟩), (fun x y => ⟨He.ga K "Endless", [("order", x)], [x], ["order"]⟩), (fun x y => ⟨He.ga K "BadEvents", [("thing", x)], [x], ["thing"]⟩), (fun x y => ⟨He.ga K "NoDeed", [("thing", x)], [x], ["thing"]⟩), (fun x y => ⟨He.ga K "BadStretch", [("thing", x)], [x], ["thing"]⟩), (fun x y => ⟨He.ga K "BadKind", [("kind", x)], [x], ["kind"]⟩), (fun x y => ⟨He.ga K "BadMany", [("thing", x)], [x], ["thing"]⟩), (fun x y => ⟨He.ga K "NotClosing", [("task", x)], [x], ["task"]⟩), (fun x y => ⟨He.ga K "BadTasks", [("index", x)], [x], ["index"]⟩), (fun x y => ⟨He.ga K "BadOffers", [("index", x)], [x], ["index"]⟩), (fun x y => ⟨He.ga K "BadSentence", [("name", x)], [x], ["name"]⟩), (fun x y => ⟨He.ga K "BadTruth", [("thing", x)], [x], ["thing"]⟩), (fun x y => ⟨He.ga K "BadMarks", [("index", x)], [x], ["index"]⟩), (fun x y => ⟨He.ga K "NoEntryName", [("entry", x)], [x], ["entry"]⟩)]
def stA : List Stmt := [(defBody sMadeA).getD 1 dS, (defBody sMadeA).getD 2 dS, (defBody sMadeA).getD 3 dS, (defBody sMadeA).getD 4 dS, (defBody sMadeA).getD 5 dS, (defBody sMadeA).getD 6 dS, (defBody sMadeA).getD 7 dS, (defBody sMadeA).getD 8 dS, (defBody sMadeA).getD 9 dS, (defBody sMadeA).getD 10 dS, (defBody sMadeA).getD 11 dS, (defBody sMadeA).getD 12 dS, (defBody sMadeA).getD 13 dS, (defBody sMadeA).getD 14 dS, (defBody sMadeA).getD 15 dS, (defBody sMadeA).getD 16 dS, (defBody sMadeA).getD 17 dS, (defBody sMadeA).getD 18 dS, (defBody sMadeA).getD 19 dS, (defBody sMadeA).getD 20 dS, (defBody sMadeA).getD 21 dS, (defBody sMadeA).getD 22 dS, (defBody sMadeA).getD 23 dS, (defBody sMadeA).getD 24 dS, (defBody sMadeA).getD 25 dS]
theorem linesA (E : Ecs K mg) {T : List (Addr × Str)} {q : Str} (X : Cx) (hK : X.K = K) (hm : X.mg = mg) (hsc : X.env.scope = defScope sMadeA) (M : Mkr X T q) : Paired (LineOk X T) stA (itA K) := by
  subst hK hm
  exact .cons (ln_0 hsc M E.e0) (.cons (ln_1 hsc M E.e1) (.cons (ln_2 hsc M E.e2) (.cons (ln_3 hsc M E.e3) (.cons (ln_4 hsc M E.e4) (.cons (ln_5 hsc M E.e5) (.cons (ln_6 hsc M E.e6) (.cons (ln_7 hsc M E.e7) (.cons (ln_8 hsc M E.e8) (.cons (ln_9 hsc M E.e9) (.cons (ln_10 hsc M E.e10) (.cons (ln_11 hsc M E.e11) (.cons (ln_12 hsc M E.e12) (.cons (ln_13 hsc M E.e13) (.cons (ln_14 hsc M E.e14) (.cons (ln_15 hsc M E.e15) (.cons (ln_16 hsc M E.e16) (.cons (ln_17 hsc M E.e17) (.cons (ln_18 hsc M E.e18) (.cons (ln_19 hsc M E.e19) (.cons (ln_20 hsc M E.e20) (.cons (ln_21 hsc M E.e21) (.cons (ln_22 hsc M E.e22) (.cons (ln_23 hsc M E.e23) (.cons (ln_24 hsc M E.e24) (.nil)))))))))))))))))))))))))
def itB (K : PySem.W.Frag) : List (V → V → XK0.It) := [(fun x y => ⟨He.ga K "BadNames", [("index", x)], [x], ["index"]⟩), (fun x y => ⟨He.ga K "BadNumber", [("number", x)], [x], ["number"]⟩), (fun x y => ⟨He.ga K "BadCalls", [("index", x)], [x], ["index"]⟩), (fun x y => ⟨He.ga K "BadServers", [("path", y), ("task", x)], [x, y], ["task", "path"]⟩), (fun x y => ⟨He.ga K "BadLike", [("path", x)], [x], ["path"]⟩), (fun x y => ⟨He.ga K "BadWanted", [("thing", x)], [x], ["thing"]⟩), (fun x y => ⟨He.ga K "NoSpot", [("thing", x)], [x], ["thing"]⟩), (fun x y => ⟨He.ga K "BadStep", [("index", x)], [x], ["index"]⟩), (fun x y => ⟨He.ga K "Restless", [("path", y), ("task", x)], [x, y], ["task", "path"]⟩), (fun x y => ⟨He.ga K "BadRow", [("index", x)], [x], ["index"]⟩), (fun x y => ⟨He.ga K "BadLot", [("thing", x)], [x], ["thing"]⟩), (fun x y => ⟨He.ga K "BadStates", [("index", x)], [x], ["index"]⟩), (fun x y => ⟨He.ga K "BadMachine", [("thing", x)], [x], ["thing"]⟩), (fun x y => ⟨He.ga K "NoEntry", [("entry", y), ("owner", x)], [x, y], ["owner", "entry"]⟩), (fun x y => ⟨He.ga K "BadJobs", [("job", x)], [x], ["job"]⟩), (fun x y => ⟨He.ga K "NoJob", [("job", x)], [x], ["job"]⟩), (fun x y => ⟨He.ga K "BadComings", [("job", x)], [x], ["job"]⟩), (fun x y => ⟨He.ga K "BadCeiling", [("ceiling", x)], [x], ["ceiling"]⟩), (fun x y => ⟨He.ga K "BadEnds", [("job", x)], [x], ["job"]⟩), (fun x y => ⟨He.ga K "BadTimed", [("path", y), ("task", x)], [x, y], ["task", "path"]⟩), (fun x y => ⟨He.ga K "BadFates", [("thing", x)], [x], ["thing"]⟩), (fun x y => ⟨He.ga K "NoNote", [("word", x)], [x], ["word"]⟩), (fun x y => ⟨He.ga K "NoComing", [("pair", x)], [x], ["pair"]⟩), (fun x y => ⟨He.ga K "BadCourse", [("thing", x)], [x], ["thing"]⟩), (fun x y => ⟨He.ga K "BadCode", [("number", y), ("task", x)], [x, y], ["task", "number"]⟩)]
def stB : List Stmt := [(defBody sMadeB).getD 1 dS, (defBody sMadeB).getD 2 dS, (defBody sMadeB).getD 3 dS, (defBody sMadeB).getD 4 dS, (defBody sMadeB).getD 5 dS, (defBody sMadeB).getD 6 dS, (defBody sMadeB).getD 7 dS, (defBody sMadeB).getD 8 dS, (defBody sMadeB).getD 9 dS, (defBody sMadeB).getD 10 dS, (defBody sMadeB).getD 11 dS, (defBody sMadeB).getD 12 dS, (defBody sMadeB).getD 13 dS, (defBody sMadeB).getD 14 dS, (defBody sMadeB).getD 15 dS, (defBody sMadeB).getD 16 dS, (defBody sMadeB).getD 17 dS, (defBody sMadeB).getD 18 dS, (defBody sMadeB).getD 19 dS, (defBody sMadeB).getD 20 dS, (defBody sMadeB).getD 21 dS, (defBody sMadeB).getD 22 dS, (defBody sMadeB).getD 23 dS, (defBody sMadeB).getD 24 dS, (defBody sMadeB).getD 25 dS]
theorem linesB (E : Ecs K mg) {T : List (Addr × Str)} {q : Str} (X : Cx) (hK : X.K = K) (hm : X.mg = mg) (hsc : X.env.scope = defScope sMadeB) (M : Mkr X T q) : Paired (LineOk X T) stB (itB K) := by
  subst hK hm
  exact .cons (ln_25 hsc M E.e25) (.cons (ln_26 hsc M E.e26) (.cons (ln_27 hsc M E.e27) (.cons (ln_28 hsc M E.e28) (.cons (ln_29 hsc M E.e29) (.cons (ln_30 hsc M E.e30) (.cons (ln_31 hsc M E.e31) (.cons (ln_32 hsc M E.e32) (.cons (ln_33 hsc M E.e33) (.cons (ln_34 hsc M E.e34) (.cons (ln_35 hsc M E.e35) (.cons (ln_36 hsc M E.e36) (.cons (ln_37 hsc M E.e37) (.cons (ln_38 hsc M E.e38) (.cons (ln_39 hsc M E.e39) (.cons (ln_40 hsc M E.e40) (.cons (ln_41 hsc M E.e41) (.cons (ln_42 hsc M E.e42) (.cons (ln_43 hsc M E.e43) (.cons (ln_44 hsc M E.e44) (.cons (ln_45 hsc M E.e45) (.cons (ln_46 hsc M E.e46) (.cons (ln_47 hsc M E.e47) (.cons (ln_48 hsc M E.e48) (.cons (ln_49 hsc M E.e49) (.nil)))))))))))))))))))))))))
def itC (K : PySem.W.Frag) : List (V → V → XK0.It) := [(fun x y => ⟨He.ga K "Silent", [("spot", y), ("task", x)], [x, y], ["task", "spot"]⟩), (fun x y => ⟨He.ga K "BadCuts", [("index", x)], [x], ["index"]⟩), (fun x y => ⟨He.ga K "NoRow", [("number", x)], [x], ["number"]⟩), (fun x y => ⟨He.ga K "BadLog", [("index", x)], [x], ["index"]⟩), (fun x y => ⟨He.ga K "BadGap", [("number", x)], [x], ["number"]⟩), (fun x y => ⟨He.ga K "BadEvent", [("event", x)], [x], ["event"]⟩), (fun x y => ⟨He.ga K "BadApart", [("task", x)], [x], ["task"]⟩), (fun x y => ⟨He.ga K "BadLine", [("thing", x)], [x], ["thing"]⟩), (fun x y => ⟨He.ga K "BadKinds", [("index", x)], [x], ["index"]⟩), (fun x y => ⟨He.ga K "BadText", [("index", x)], [x], ["index"]⟩), (fun x y => ⟨He.ga K "BadOpen", [("index", x)], [x], ["index"]⟩), (fun x y => ⟨He.ga K "BadFilling", [("task", x)], [x], ["task"]⟩), (fun x y => ⟨He.ga K "BadAsk", [("thing", x)], [x], ["thing"]⟩), (fun x y => ⟨He.ga K "BadName", [("name", x)], [x], ["name"]⟩), (fun x y => ⟨He.ga K "BadThing", [("thing", x)], [x], ["thing"]⟩), (fun x y => ⟨He.ga K "Lacks", [("name", x)], [x], ["name"]⟩), (fun x y => ⟨He.ga K "NotOf", [("name", x)], [x], ["name"]⟩), (fun x y => ⟨He.ga K "NoName", [("name", x)], [x], ["name"]⟩), (fun x y => ⟨He.ga K "Needed", [("by", y), ("name", x)], [x, y], ["name", "by"]⟩)]
def stC : List Stmt := [(defBody sMadeC).getD 1 dS, (defBody sMadeC).getD 2 dS, (defBody sMadeC).getD 3 dS, (defBody sMadeC).getD 4 dS, (defBody sMadeC).getD 5 dS, (defBody sMadeC).getD 6 dS, (defBody sMadeC).getD 7 dS, (defBody sMadeC).getD 8 dS, (defBody sMadeC).getD 9 dS, (defBody sMadeC).getD 10 dS, (defBody sMadeC).getD 11 dS, (defBody sMadeC).getD 12 dS, (defBody sMadeC).getD 13 dS, (defBody sMadeC).getD 14 dS, (defBody sMadeC).getD 15 dS, (defBody sMadeC).getD 16 dS, (defBody sMadeC).getD 17 dS, (defBody sMadeC).getD 18 dS, (defBody sMadeC).getD 19 dS]
theorem linesC (E : Ecs K mg) {T : List (Addr × Str)} {q : Str} (X : Cx) (hK : X.K = K) (hm : X.mg = mg) (hsc : X.env.scope = defScope sMadeC) (M : Mkr X T q) : Paired (LineOk X T) stC (itC K) := by
  subst hK hm
  exact .cons (ln_50 hsc M E.e50) (.cons (ln_51 hsc M E.e51) (.cons (ln_52 hsc M E.e52) (.cons (ln_53 hsc M E.e53) (.cons (ln_54 hsc M E.e54) (.cons (ln_55 hsc M E.e55) (.cons (ln_56 hsc M E.e56) (.cons (ln_57 hsc M E.e57) (.cons (ln_58 hsc M E.e58) (.cons (ln_59 hsc M E.e59) (.cons (ln_60 hsc M E.e60) (.cons (ln_61 hsc M E.e61) (.cons (ln_62 hsc M E.e62) (.cons (ln_63 hsc M E.e63) (.cons (ln_64 hsc M E.e64) (.cons (ln_65 hsc M E.e65) (.cons (ln_66 hsc M E.e66) (.cons (ln_67 hsc M E.e67) (.cons (ln_68 hsc M E.e68) (.nil)))))))))))))))))))
def ksA : List Stmt := [(defBody sKindsA).getD 1 dS, (defBody sKindsA).getD 2 dS, (defBody sKindsA).getD 3 dS, (defBody sKindsA).getD 4 dS, (defBody sKindsA).getD 5 dS, (defBody sKindsA).getD 6 dS, (defBody sKindsA).getD 7 dS, (defBody sKindsA).getD 8 dS, (defBody sKindsA).getD 9 dS, (defBody sKindsA).getD 10 dS, (defBody sKindsA).getD 11 dS, (defBody sKindsA).getD 12 dS]
def csA (K : PySem.W.Frag) : List (List Addr) := [[He.ga K "BadValues", He.ga K "BadStart"], [He.ga K "BadDeeds", He.ga K "BadEntries"], [He.ga K "BadThings", He.ga K "BadBody"], [He.ga K "NoTask", He.ga K "NoPath"], [He.ga K "NoThing", He.ga K "BadOrder"], [He.ga K "NoStand", He.ga K "BadSpots"], [He.ga K "Endless", He.ga K "BadEvents"], [He.ga K "NoDeed", He.ga K "BadStretch"], [He.ga K "BadKind", He.ga K "BadMany"], [He.ga K "NotClosing", He.ga K "BadTasks"], [He.ga K "BadOffers", He.ga K "BadSentence"], [He.ga K "BadTruth", He.ga K "BadMarks"]]
theorem klinesA (A : AllC K mg nms) (X : Cx) (hK : X.K = K) (hm : X.mg = mg) (hsc : X.env.scope = defScope sKindsA) (M : Kdr X) : Paired (KLine X) ksA (csA K) := by
  subst hK hm
  exact .cons (knA_0 hsc M (A.all ("BadValues", ["index"]) (by simp [nms, na, nb, nc])).gl (A.all ("BadStart", ["thing"]) (by simp [nms, na, nb, nc])).gl) (.cons (knA_1 hsc M (A.all ("BadDeeds", ["name"]) (by simp [nms, na, nb, nc])).gl (A.all ("BadEntries", ["name"]) (by simp [nms, na, nb, nc])).gl) (.cons (knA_2 hsc M (A.all ("BadThings", ["name"]) (by simp [nms, na, nb, nc])).gl (A.all ("BadBody", ["task", "path"]) (by simp [nms, na, nb, nc])).gl) (.cons (knA_3 hsc M (A.all ("NoTask", ["task"]) (by simp [nms, na, nb, nc])).gl (A.all ("NoPath", ["path"]) (by simp [nms, na, nb, nc])).gl) (.cons (knA_4 hsc M (A.all ("NoThing", ["thing"]) (by simp [nms, na, nb, nc])).gl (A.all ("BadOrder", ["index"]) (by simp [nms, na, nb, nc])).gl) (.cons (knA_5 hsc M (A.all ("NoStand", ["number"]) (by simp [nms, na, nb, nc])).gl (A.all ("BadSpots", ["thing"]) (by simp [nms, na, nb, nc])).gl) (.cons (knA_6 hsc M (A.all ("Endless", ["order"]) (by simp [nms, na, nb, nc])).gl (A.all ("BadEvents", ["thing"]) (by simp [nms, na, nb, nc])).gl) (.cons (knA_7 hsc M (A.all ("NoDeed", ["thing"]) (by simp [nms, na, nb, nc])).gl (A.all ("BadStretch", ["thing"]) (by simp [nms, na, nb, nc])).gl) (.cons (knA_8 hsc M (A.all ("BadKind", ["kind"]) (by simp [nms, na, nb, nc])).gl (A.all ("BadMany", ["thing"]) (by simp [nms, na, nb, nc])).gl) (.cons (knA_9 hsc M (A.all ("NotClosing", ["task"]) (by simp [nms, na, nb, nc])).gl (A.all ("BadTasks", ["index"]) (by simp [nms, na, nb, nc])).gl) (.cons (knA_10 hsc M (A.all ("BadOffers", ["index"]) (by simp [nms, na, nb, nc])).gl (A.all ("BadSentence", ["name"]) (by simp [nms, na, nb, nc])).gl) (.cons (knA_11 hsc M (A.all ("BadTruth", ["thing"]) (by simp [nms, na, nb, nc])).gl (A.all ("BadMarks", ["index"]) (by simp [nms, na, nb, nc])).gl) (.nil))))))))))))
theorem csA_flat : (csA K).flatten = ad K na := rfl
def ksB : List Stmt := [(defBody sKindsB).getD 1 dS, (defBody sKindsB).getD 2 dS, (defBody sKindsB).getD 3 dS, (defBody sKindsB).getD 4 dS, (defBody sKindsB).getD 5 dS, (defBody sKindsB).getD 6 dS, (defBody sKindsB).getD 7 dS, (defBody sKindsB).getD 8 dS, (defBody sKindsB).getD 9 dS, (defBody sKindsB).getD 10 dS, (defBody sKindsB).getD 11 dS, (defBody sKindsB).getD 12 dS]
def csB (K : PySem.W.Frag) : List (List Addr) := [[He.ga K "NoEntryName", He.ga K "BadNames"], [He.ga K "BadNumber", He.ga K "BadCalls"], [He.ga K "BadServers", He.ga K "BadLike"], [He.ga K "BadWanted", He.ga K "NoSpot"], [He.ga K "BadStep", He.ga K "Restless"], [He.ga K "BadRow", He.ga K "BadLot"], [He.ga K "BadStates", He.ga K "BadMachine"], [He.ga K "NoEntry", He.ga K "BadJobs"], [He.ga K "NoJob", He.ga K "BadComings"], [He.ga K "BadCeiling", He.ga K "BadEnds"], [He.ga K "BadTimed", He.ga K "BadFates"], [He.ga K "NoNote", He.ga K "NoComing"]]
theorem klinesB (A : AllC K mg nms) (X : Cx) (hK : X.K = K) (hm : X.mg = mg) (hsc : X.env.scope = defScope sKindsB) (M : Kdr X) : Paired (KLine X) ksB (csB K) := by
  subst hK hm
  exact .cons (knB_0 hsc M (A.all ("NoEntryName", ["entry"]) (by simp [nms, na, nb, nc])).gl (A.all ("BadNames", ["index"]) (by simp [nms, na, nb, nc])).gl) (.cons (knB_1 hsc M (A.all ("BadNumber", ["number"]) (by simp [nms, na, nb, nc])).gl (A.all ("BadCalls", ["index"]) (by simp [nms, na, nb, nc])).gl) (.cons (knB_2 hsc M (A.all ("BadServers", ["task", "path"]) (by simp [nms, na, nb, nc])).gl (A.all ("BadLike", ["path"]) (by simp [nms, na, nb, nc])).gl) (.cons (knB_3 hsc M (A.all ("BadWanted", ["thing"]) (by simp [nms, na, nb, nc])).gl (A.all ("NoSpot", ["thing"]) (by simp [nms, na, nb, nc])).gl) (.cons (knB_4 hsc M (A.all ("BadStep", ["index"]) (by simp [nms, na, nb, nc])).gl (A.all ("Restless", ["task", "path"]) (by simp [nms, na, nb, nc])).gl) (.cons (knB_5 hsc M (A.all ("BadRow", ["index"]) (by simp [nms, na, nb, nc])).gl (A.all ("BadLot", ["thing"]) (by simp [nms, na, nb, nc])).gl) (.cons (knB_6 hsc M (A.all ("BadStates", ["index"]) (by simp [nms, na, nb, nc])).gl (A.all ("BadMachine", ["thing"]) (by simp [nms, na, nb, nc])).gl) (.cons (knB_7 hsc M (A.all ("NoEntry", ["owner", "entry"]) (by simp [nms, na, nb, nc])).gl (A.all ("BadJobs", ["job"]) (by simp [nms, na, nb, nc])).gl) (.cons (knB_8 hsc M (A.all ("NoJob", ["job"]) (by simp [nms, na, nb, nc])).gl (A.all ("BadComings", ["job"]) (by simp [nms, na, nb, nc])).gl) (.cons (knB_9 hsc M (A.all ("BadCeiling", ["ceiling"]) (by simp [nms, na, nb, nc])).gl (A.all ("BadEnds", ["job"]) (by simp [nms, na, nb, nc])).gl) (.cons (knB_10 hsc M (A.all ("BadTimed", ["task", "path"]) (by simp [nms, na, nb, nc])).gl (A.all ("BadFates", ["thing"]) (by simp [nms, na, nb, nc])).gl) (.cons (knB_11 hsc M (A.all ("NoNote", ["word"]) (by simp [nms, na, nb, nc])).gl (A.all ("NoComing", ["pair"]) (by simp [nms, na, nb, nc])).gl) (.nil))))))))))))
theorem csB_flat : (csB K).flatten = ad K nb := rfl
def ksC : List Stmt := [(defBody sKindsC).getD 1 dS, (defBody sKindsC).getD 2 dS, (defBody sKindsC).getD 3 dS, (defBody sKindsC).getD 4 dS, (defBody sKindsC).getD 5 dS, (defBody sKindsC).getD 6 dS, (defBody sKindsC).getD 7 dS, (defBody sKindsC).getD 8 dS, (defBody sKindsC).getD 9 dS, (defBody sKindsC).getD 10 dS, (defBody sKindsC).getD 11 dS, (defBody sKindsC).getD 12 dS]
def csC (K : PySem.W.Frag) : List (List Addr) := [[He.ga K "BadCourse", He.ga K "BadCode"], [He.ga K "Silent", He.ga K "BadCuts"], [He.ga K "NoRow", He.ga K "BadLog"], [He.ga K "BadGap", He.ga K "BadEvent"], [He.ga K "BadApart", He.ga K "BadLine"], [He.ga K "BadKinds", He.ga K "BadText"], [He.ga K "BadOpen", He.ga K "BadFilling"], [He.ga K "BadAsk", He.ga K "BadName"], [He.ga K "BadThing", He.ga K "Lacks"], [He.ga K "NotOf", He.ga K "NoName"], [He.ga K "Needed", He.ga K "UnlikeNames"], [He.ga K "UnlikeEntries", He.ga K "Nothing"]]
theorem klinesC (A : AllC K mg nms) (X : Cx) (hK : X.K = K) (hm : X.mg = mg) (hsc : X.env.scope = defScope sKindsC) (M : Kdr X) : Paired (KLine X) ksC (csC K) := by
  subst hK hm
  exact .cons (knC_0 hsc M (A.all ("BadCourse", ["thing"]) (by simp [nms, na, nb, nc])).gl (A.all ("BadCode", ["task", "number"]) (by simp [nms, na, nb, nc])).gl) (.cons (knC_1 hsc M (A.all ("Silent", ["task", "spot"]) (by simp [nms, na, nb, nc])).gl (A.all ("BadCuts", ["index"]) (by simp [nms, na, nb, nc])).gl) (.cons (knC_2 hsc M (A.all ("NoRow", ["number"]) (by simp [nms, na, nb, nc])).gl (A.all ("BadLog", ["index"]) (by simp [nms, na, nb, nc])).gl) (.cons (knC_3 hsc M (A.all ("BadGap", ["number"]) (by simp [nms, na, nb, nc])).gl (A.all ("BadEvent", ["event"]) (by simp [nms, na, nb, nc])).gl) (.cons (knC_4 hsc M (A.all ("BadApart", ["task"]) (by simp [nms, na, nb, nc])).gl (A.all ("BadLine", ["thing"]) (by simp [nms, na, nb, nc])).gl) (.cons (knC_5 hsc M (A.all ("BadKinds", ["index"]) (by simp [nms, na, nb, nc])).gl (A.all ("BadText", ["index"]) (by simp [nms, na, nb, nc])).gl) (.cons (knC_6 hsc M (A.all ("BadOpen", ["index"]) (by simp [nms, na, nb, nc])).gl (A.all ("BadFilling", ["task"]) (by simp [nms, na, nb, nc])).gl) (.cons (knC_7 hsc M (A.all ("BadAsk", ["thing"]) (by simp [nms, na, nb, nc])).gl (A.all ("BadName", ["name"]) (by simp [nms, na, nb, nc])).gl) (.cons (knC_8 hsc M (A.all ("BadThing", ["thing"]) (by simp [nms, na, nb, nc])).gl (A.all ("Lacks", ["name"]) (by simp [nms, na, nb, nc])).gl) (.cons (knC_9 hsc M (A.all ("NotOf", ["name"]) (by simp [nms, na, nb, nc])).gl (A.all ("NoName", ["name"]) (by simp [nms, na, nb, nc])).gl) (.cons (knC_10 hsc M (A.all ("Needed", ["name", "by"]) (by simp [nms, na, nb, nc])).gl (A.all ("UnlikeNames", []) (by simp [nms, na, nb, nc])).gl) (.cons (knC_11 hsc M (A.all ("UnlikeEntries", []) (by simp [nms, na, nb, nc])).gl (A.all ("Nothing", []) (by simp [nms, na, nb, nc])).gl) (.nil))))))))))))
theorem csC_flat : (csC K).flatten = ad K nc := rfl
end
end K00

namespace K00
open PySem PySem.Spec PyProof.Rows L2 LamX LamV XK0
/-! ### the defs as data for the head -/
def iD (x q : Str) (t : Nat) : He.DefD := ⟨(x, some "__init__"), "__init__", q, defArgs (ini t), defBody (ini t), defScope (ini t), [], []⟩
def fD (x : Str) (t : Nat) : He.DefD := ⟨(x, none), x, x, defArgs (top t), defBody (top t), defScope (top t), [], []⟩
def fnF : List He.DefD := [fD "_law_pool" 75, fD "_law_take" 76, fD "_law_mixed" 77, fD "_law_made_a" 78, fD "_law_made_b" 79, fD "_law_made_c" 80, fD "_law_kinds_a" 81, fD "_law_kinds_b" 82, fD "_law_kinds_c" 83, fD "_law_is_own" 84, fD "_law_same" 85, fD "law" 86]
def fnI : List He.DefD := [iD "BadValues" "BadValues.__init__" 2, iD "BadStart" "BadStart.__init__" 3, iD "BadDeeds" "BadDeeds.__init__" 4, iD "BadEntries" "BadEntries.__init__" 5, iD "BadThings" "BadThings.__init__" 6, iD "BadBody" "BadBody.__init__" 7, iD "NoTask" "NoTask.__init__" 8, iD "NoPath" "NoPath.__init__" 9, iD "NoThing" "NoThing.__init__" 10, iD "BadOrder" "BadOrder.__init__" 11, iD "NoStand" "NoStand.__init__" 12, iD "BadSpots" "BadSpots.__init__" 13, iD "Endless" "Endless.__init__" 14, iD "BadEvents" "BadEvents.__init__" 15, iD "NoDeed" "NoDeed.__init__" 16, iD "BadStretch" "BadStretch.__init__" 17, iD "BadKind" "BadKind.__init__" 18, iD "BadMany" "BadMany.__init__" 19, iD "NotClosing" "NotClosing.__init__" 20, iD "BadTasks" "BadTasks.__init__" 21, iD "BadOffers" "BadOffers.__init__" 22, iD "BadSentence" "BadSentence.__init__" 23, iD "BadTruth" "BadTruth.__init__" 24, iD "BadMarks" "BadMarks.__init__" 25, iD "NoEntryName" "NoEntryName.__init__" 26, iD "BadNames" "BadNames.__init__" 27, iD "BadNumber" "BadNumber.__init__" 28, iD "BadCalls" "BadCalls.__init__" 29, iD "BadServers" "BadServers.__init__" 31, iD "BadLike" "BadLike.__init__" 32, iD "BadWanted" "BadWanted.__init__" 33, iD "NoSpot" "NoSpot.__init__" 34, iD "BadStep" "BadStep.__init__" 35, iD "Restless" "Restless.__init__" 36, iD "BadRow" "BadRow.__init__" 37, iD "BadLot" "BadLot.__init__" 38, iD "BadStates" "BadStates.__init__" 39, iD "BadMachine" "BadMachine.__init__" 41, iD "NoEntry" "NoEntry.__init__" 42, iD "BadJobs" "BadJobs.__init__" 43, iD "NoJob" "NoJob.__init__" 44, iD "BadComings" "BadComings.__init__" 45, iD "BadCeiling" "BadCeiling.__init__" 46, iD "BadEnds" "BadEnds.__init__" 47, iD "BadTimed" "BadTimed.__init__" 48, iD "BadFates" "BadFates.__init__" 49, iD "NoNote" "NoNote.__init__" 50, iD "NoComing" "NoComing.__init__" 51, iD "BadCourse" "BadCourse.__init__" 52, iD "BadCode" "BadCode.__init__" 53, iD "Silent" "Silent.__init__" 54, iD "BadCuts" "BadCuts.__init__" 55, iD "NoRow" "NoRow.__init__" 56, iD "BadLog" "BadLog.__init__" 57, iD "BadGap" "BadGap.__init__" 58, iD "BadEvent" "BadEvent.__init__" 59, iD "BadApart" "BadApart.__init__" 60, iD "BadLine" "BadLine.__init__" 61, iD "BadKinds" "BadKinds.__init__" 62, iD "BadText" "BadText.__init__" 63, iD "BadOpen" "BadOpen.__init__" 64, iD "BadFilling" "BadFilling.__init__" 65, iD "BadAsk" "BadAsk.__init__" 66, iD "BadName" "BadName.__init__" 67, iD "BadThing" "BadThing.__init__" 68, iD "Lacks" "Lacks.__init__" 69, iD "NotOf" "NotOf.__init__" 70, iD "NoName" "NoName.__init__" 71, iD "Needed" "Needed.__init__" 72]
def fn : List He.DefD := fnF ++ fnI
def fa : List He.Fa := [.glo "_law_pool", .glo "_law_take", .glo "_law_mixed", .glo "_law_made_a", .glo "_law_made_b", .glo "_law_made_c", .glo "_law_kinds_a", .glo "_law_kinds_b", .glo "_law_kinds_c", .glo "_law_is_own", .glo "_law_same", .glo "law", .free "len", .free "sum", .free "int", .free "abs", .free "list", .free "range", .free "isinstance", .free "ValueError", .free "LookupError", .free "repr", .free "enumerate"]
structure Facts (K : PySem.W.Frag) (mg : Str → Option Value) : Prop where
  al : AllC K mg nms
  ini : ∀ p ∈ nms.take 69, initB K p.1 = true
  fd : ∀ d ∈ fn, ∃ fd, FunD K d.name d.qual d.params d.body d.scope (d.dvs K) (d.kws K) (He.fAd K d.at_) fd
  gl : ∀ d ∈ fnF, mg d.name = some (.ref (He.fAd K d.at_))
  fr : ∀ x ∈ (["len", "sum", "int", "abs", "list", "range", "isinstance", "ValueError", "LookupError", "repr", "enumerate"] : List Str), mg x = none
  ex : ∀ x ∈ (["TaskError", "UnlikeNames", "UnlikeEntries", "Nothing"] : List Str), PySem.W.excIn K (He.ga K x) He.veBase "ValueError.__new__" = true
  sm : (K.lookup sysModules).isSome = true
section
variable {P : Program} {w : World} {K : PySem.W.Frag} {mg : Str → Option Value} {base : Heap}
theorem Facts.ecs (F : Facts K mg) : Ecs K mg := by
  obtain ⟨fd0, h0⟩ := F.fd (iD "BadValues" "BadValues.__init__" 2) (by simp [fn, fnI])
  obtain ⟨fd1, h1⟩ := F.fd (iD "BadStart" "BadStart.__init__" 3) (by simp [fn, fnI])
  obtain ⟨fd2, h2⟩ := F.fd (iD "BadDeeds" "BadDeeds.__init__" 4) (by simp [fn, fnI])
  obtain ⟨fd3, h3⟩ := F.fd (iD "BadEntries" "BadEntries.__init__" 5) (by simp [fn, fnI])
  obtain ⟨fd4, h4⟩ := F.fd (iD "BadThings" "BadThings.__init__" 6) (by simp [fn, fnI])
  obtain ⟨fd5, h5⟩ := F.fd (iD "BadBody" "BadBody.__init__" 7) (by simp [fn, fnI])
  obtain ⟨fd6, h6⟩ := F.fd (iD "NoTask" "NoTask.__init__" 8) (by simp [fn, fnI])
  obtain ⟨fd7, h7⟩ := F.fd (iD "NoPath" "NoPath.__init__" 9) (by simp [fn, fnI])
  obtain ⟨fd8, h8⟩ := F.fd (iD "NoThing" "NoThing.__init__" 10) (by simp [fn, fnI])
  obtain ⟨fd9, h9⟩ := F.fd (iD "BadOrder" "BadOrder.__init__" 11) (by simp [fn, fnI])
  obtain ⟨fd10, h10⟩ := F.fd (iD "NoStand" "NoStand.__init__" 12) (by simp [fn, fnI])
  obtain ⟨fd11, h11⟩ := F.fd (iD "BadSpots" "BadSpots.__init__" 13) (by simp [fn, fnI])
  obtain ⟨fd12, h12⟩ := F.fd (iD "Endless" "Endless.__init__" 14) (by simp [fn, fnI])
  obtain ⟨fd13, h13⟩ := F.fd (iD "BadEvents" "BadEvents.__init__" 15) (by simp [fn, fnI])
  obtain ⟨fd14, h14⟩ := F.fd (iD "NoDeed" "NoDeed.__init__" 16) (by simp [fn, fnI])
  obtain ⟨fd15, h15⟩ := F.fd (iD "BadStretch" "BadStretch.__init__" 17) (by simp [fn, fnI])
  obtain ⟨fd16, h16⟩ := F.fd (iD "BadKind" "BadKind.__init__" 18) (by simp [fn, fnI])
  obtain ⟨fd17, h17⟩ := F.fd (iD "BadMany" "BadMany.__init__" 19) (by simp [fn, fnI])
  obtain ⟨fd18, h18⟩ := F.fd (iD "NotClosing" "NotClosing.__init__" 20) (by simp [fn, fnI])
  obtain ⟨fd19, h19⟩ := F.fd (iD "BadTasks" "BadTasks.__init__" 21) (by simp [fn, fnI])
  obtain ⟨fd20, h20⟩ := F.fd (iD "BadOffers" "BadOffers.__init__" 22) (by simp [fn, fnI])
  obtain ⟨fd21, h21⟩ := F.fd (iD "BadSentence" "BadSentence.__init__" 23) (by simp [fn, fnI])
  obtain ⟨fd22, h22⟩ := F.fd (iD "BadTruth" "BadTruth.__init__" 24) (by simp [fn, fnI])
  obtain ⟨fd23, h23⟩ := F.fd (iD "BadMarks" "BadMarks.__init__" 25) (by simp [fn, fnI])
  obtain ⟨fd24, h24⟩ := F.fd (iD "NoEntryName" "NoEntryName.__init__" 26) (by simp [fn, fnI])
  obtain ⟨fd25, h25⟩ := F.fd (iD "BadNames" "BadNames.__init__" 27) (by simp [fn, fnI])
  obtain ⟨fd26, h26⟩ := F.fd (iD "BadNumber" "BadNumber.__init__" 28) (by simp [fn, fnI])
  obtain ⟨fd27, h27⟩ := F.fd (iD "BadCalls" "BadCalls.__init__" 29) (by simp [fn, fnI])
  obtain ⟨fd28, h28⟩ := F.fd (iD "BadServers" "BadServers.__init__" 31) (by simp [fn, fnI])
  obtain ⟨fd29, h29⟩ := F.fd (iD "BadLike" "BadLike.__init__" 32) (by simp [fn, fnI])
  obtain ⟨fd30, h30⟩ := F.fd (iD "BadWanted" "BadWanted.__init__" 33) (by simp [fn, fnI])
  obtain ⟨fd31, h31⟩ := F.fd (iD "NoSpot" "NoSpot.__init__" 34) (by simp [fn, fnI])
  obtain ⟨fd32, h32⟩ := F.fd (iD "BadStep" "BadStep.__init__" 35) (by simp [fn, fnI])
  obtain ⟨fd33, h33⟩ := F.fd (iD "Restless" "Restless.__init__" 36) (by simp [fn, fnI])
  obtain ⟨fd34, h34⟩ := F.fd (iD "BadRow" "BadRow.__init__" 37) (by simp [fn, fnI])
  obtain ⟨fd35, h35⟩ := F.fd (iD "BadLot" "BadLot.__init__" 38) (by simp [fn, fnI])
  obtain ⟨fd36, h36⟩ := F.fd (iD "BadStates" "BadStates.__init__" 39) (by simp [fn, fnI])
  obtain ⟨fd37, h37⟩ := F.fd (iD "BadMachine" "BadMachine.__init__" 41) (by simp [fn, fnI])
  obtain ⟨fd38, h38⟩ := F.fd (iD "NoEntry" "NoEntry.__init__" 42) (by simp [fn, fnI])
  obtain ⟨fd39, h39⟩ := F.fd (iD "BadJobs" "BadJobs.__init__" 43) (by simp [fn, fnI])
  obtain ⟨fd40, h40⟩ := F.fd (iD "NoJob" "NoJob.__init__" 44) (by simp [fn, fnI])
  obtain ⟨fd41, h41⟩ := F.fd (iD "BadComings" "BadComings.__init__" 45) (by simp [fn, fnI])
  obtain ⟨fd42, h42⟩ := F.fd (iD "BadCeiling" "BadCeiling.__init__" 46) (by simp [fn, fnI])
  obtain ⟨fd43, h43⟩ := F.fd (iD "BadEnds" "BadEnds.__init__" 47) (by simp [fn, fnI])
  obtain ⟨fd44, h44⟩ := F.fd (iD "BadTimed" "BadTimed.__init__" 48) (by simp [fn, fnI])
  obtain ⟨fd45, h45⟩ := F.fd (iD "BadFates" "BadFates.__init__" 49) (by simp [fn, fnI])
  obtain ⟨fd46, h46⟩ := F.fd (iD "NoNote" "NoNote.__init__" 50) (by simp [fn, fnI])
  obtain ⟨fd47, h47⟩ := F.fd (iD "NoComing" "NoComing.__init__" 51) (by simp [fn, fnI])
  obtain ⟨fd48, h48⟩ := F.fd (iD "BadCourse" "BadCourse.__init__" 52) (by simp [fn, fnI])
  obtain ⟨fd49, h49⟩ := F.fd (iD "BadCode" "BadCode.__init__" 53) (by simp [fn, fnI])
  obtain ⟨fd50, h50⟩ := F.fd (iD "Silent" "Silent.__init__" 54) (by simp [fn, fnI])
  obtain ⟨fd51, h51⟩ := F.fd (iD "BadCuts" "BadCuts.__init__" 55) (by simp [fn, fnI])
  obtain ⟨fd52, h52⟩ := F.fd (iD "NoRow" "NoRow.__init__" 56) (by simp [fn, fnI])
  obtain ⟨fd53, h53⟩ := F.fd (iD "BadLog" "BadLog.__init__" 57) (by simp [fn, fnI])
  obtain ⟨fd54, h54⟩ := F.fd (iD "BadGap" "BadGap.__init__" 58) (by simp [fn, fnI])
  obtain ⟨fd55, h55⟩ := F.fd (iD "BadEvent" "BadEvent.__init__" 59) (by simp [fn, fnI])
  obtain ⟨fd56, h56⟩ := F.fd (iD "BadApart" "BadApart.__init__" 60) (by simp [fn, fnI])
  obtain ⟨fd57, h57⟩ := F.fd (iD "BadLine" "BadLine.__init__" 61) (by simp [fn, fnI])
  obtain ⟨fd58, h58⟩ := F.fd (iD "BadKinds" "BadKinds.__init__" 62) (by simp [fn, fnI])
  obtain ⟨fd59, h59⟩ := F.fd (iD "BadText" "BadText.__init__" 63) (by simp [fn, fnI])
  obtain ⟨fd60, h60⟩ := F.fd (iD "BadOpen" "BadOpen.__init__" 64) (by simp [fn, fnI])
  obtain ⟨fd61, h61⟩ := F.fd (iD "BadFilling" "BadFilling.__init__" 65) (by simp [fn, fnI])
  obtain ⟨fd62, h62⟩ := F.fd (iD "BadAsk" "BadAsk.__init__" 66) (by simp [fn, fnI])
  obtain ⟨fd63, h63⟩ := F.fd (iD "BadName" "BadName.__init__" 67) (by simp [fn, fnI])
  obtain ⟨fd64, h64⟩ := F.fd (iD "BadThing" "BadThing.__init__" 68) (by simp [fn, fnI])
  obtain ⟨fd65, h65⟩ := F.fd (iD "Lacks" "Lacks.__init__" 69) (by simp [fn, fnI])
  obtain ⟨fd66, h66⟩ := F.fd (iD "NotOf" "NotOf.__init__" 70) (by simp [fn, fnI])
  obtain ⟨fd67, h67⟩ := F.fd (iD "NoName" "NoName.__init__" 71) (by simp [fn, fnI])
  obtain ⟨fd68, h68⟩ := F.fd (iD "Needed" "Needed.__init__" 72) (by simp [fn, fnI])
  have e0 := ec_0 (F.al.all ("BadValues", ["index"]) (by simp [nms, na, nb, nc])) (F.ini ("BadValues", ["index"]) (by simp [nms, na, nb, nc])) h0
  have e1 := ec_1 (F.al.all ("BadStart", ["thing"]) (by simp [nms, na, nb, nc])) (F.ini ("BadStart", ["thing"]) (by simp [nms, na, nb, nc])) h1
  have e2 := ec_2 (F.al.all ("BadDeeds", ["name"]) (by simp [nms, na, nb, nc])) (F.ini ("BadDeeds", ["name"]) (by simp [nms, na, nb, nc])) h2
  have e3 := ec_3 (F.al.all ("BadEntries", ["name"]) (by simp [nms, na, nb, nc])) (F.ini ("BadEntries", ["name"]) (by simp [nms, na, nb, nc])) h3
  have e4 := ec_4 (F.al.all ("BadThings", ["name"]) (by simp [nms, na, nb, nc])) (F.ini ("BadThings", ["name"]) (by simp [nms, na, nb, nc])) h4
  have e5 := ec_5 (F.al.all ("BadBody", ["task", "path"]) (by simp [nms, na, nb, nc])) (F.ini ("BadBody", ["task", "path"]) (by simp [nms, na, nb, nc])) h5
  have e6 := ec_6 (F.al.all ("NoTask", ["task"]) (by simp [nms, na, nb, nc])) (F.ini ("NoTask", ["task"]) (by simp [nms, na, nb, nc])) h6
  have e7 := ec_7 (F.al.all ("NoPath", ["path"]) (by simp [nms, na, nb, nc])) (F.ini ("NoPath", ["path"]) (by simp [nms, na, nb, nc])) h7
  have e8 := ec_8 (F.al.all ("NoThing", ["thing"]) (by simp [nms, na, nb, nc])) (F.ini ("NoThing", ["thing"]) (by simp [nms, na, nb, nc])) h8
  have e9 := ec_9 (F.al.all ("BadOrder", ["index"]) (by simp [nms, na, nb, nc])) (F.ini ("BadOrder", ["index"]) (by simp [nms, na, nb, nc])) h9
  have e10 := ec_10 (F.al.all ("NoStand", ["number"]) (by simp [nms, na, nb, nc])) (F.ini ("NoStand", ["number"]) (by simp [nms, na, nb, nc])) h10
  have e11 := ec_11 (F.al.all ("BadSpots", ["thing"]) (by simp [nms, na, nb, nc])) (F.ini ("BadSpots", ["thing"]) (by simp [nms, na, nb, nc])) h11
  have e12 := ec_12 (F.al.all ("Endless", ["order"]) (by simp [nms, na, nb, nc])) (F.ini ("Endless", ["order"]) (by simp [nms, na, nb, nc])) h12
  have e13 := ec_13 (F.al.all ("BadEvents", ["thing"]) (by simp [nms, na, nb, nc])) (F.ini ("BadEvents", ["thing"]) (by simp [nms, na, nb, nc])) h13
  have e14 := ec_14 (F.al.all ("NoDeed", ["thing"]) (by simp [nms, na, nb, nc])) (F.ini ("NoDeed", ["thing"]) (by simp [nms, na, nb, nc])) h14
  have e15 := ec_15 (F.al.all ("BadStretch", ["thing"]) (by simp [nms, na, nb, nc])) (F.ini ("BadStretch", ["thing"]) (by simp [nms, na, nb, nc])) h15
  have e16 := ec_16 (F.al.all ("BadKind", ["kind"]) (by simp [nms, na, nb, nc])) (F.ini ("BadKind", ["kind"]) (by simp [nms, na, nb, nc])) h16
  have e17 := ec_17 (F.al.all ("BadMany", ["thing"]) (by simp [nms, na, nb, nc])) (F.ini ("BadMany", ["thing"]) (by simp [nms, na, nb, nc])) h17
  have e18 := ec_18 (F.al.all ("NotClosing", ["task"]) (by simp [nms, na, nb, nc])) (F.ini ("NotClosing", ["task"]) (by simp [nms, na, nb, nc])) h18
  have e19 := ec_19 (F.al.all ("BadTasks", ["index"]) (by simp [nms, na, nb, nc])) (F.ini ("BadTasks", ["index"]) (by simp [nms, na, nb, nc])) h19
  have e20 := ec_20 (F.al.all ("BadOffers", ["index"]) (by simp [nms, na, nb, nc])) (F.ini ("BadOffers", ["index"]) (by simp [nms, na, nb, nc])) h20
  have e21 := ec_21 (F.al.all ("BadSentence", ["name"]) (by simp [nms, na, nb, nc])) (F.ini ("BadSentence", ["name"]) (by simp [nms, na, nb, nc])) h21
  have e22 := ec_22 (F.al.all ("BadTruth", ["thing"]) (by simp [nms, na, nb, nc])) (F.ini ("BadTruth", ["thing"]) (by simp [nms, na, nb, nc])) h22
  have e23 := ec_23 (F.al.all ("BadMarks", ["index"]) (by simp [nms, na, nb, nc])) (F.ini ("BadMarks", ["index"]) (by simp [nms, na, nb, nc])) h23
  have e24 := ec_24 (F.al.all ("NoEntryName", ["entry"]) (by simp [nms, na, nb, nc])) (F.ini ("NoEntryName", ["entry"]) (by simp [nms, na, nb, nc])) h24
  have e25 := ec_25 (F.al.all ("BadNames", ["index"]) (by simp [nms, na, nb, nc])) (F.ini ("BadNames", ["index"]) (by simp [nms, na, nb, nc])) h25
  have e26 := ec_26 (F.al.all ("BadNumber", ["number"]) (by simp [nms, na, nb, nc])) (F.ini ("BadNumber", ["number"]) (by simp [nms, na, nb, nc])) h26
  have e27 := ec_27 (F.al.all ("BadCalls", ["index"]) (by simp [nms, na, nb, nc])) (F.ini ("BadCalls", ["index"]) (by simp [nms, na, nb, nc])) h27
  have e28 := ec_28 (F.al.all ("BadServers", ["task", "path"]) (by simp [nms, na, nb, nc])) (F.ini ("BadServers", ["task", "path"]) (by simp [nms, na, nb, nc])) h28
  have e29 := ec_29 (F.al.all ("BadLike", ["path"]) (by simp [nms, na, nb, nc])) (F.ini ("BadLike", ["path"]) (by simp [nms, na, nb, nc])) h29
  have e30 := ec_30 (F.al.all ("BadWanted", ["thing"]) (by simp [nms, na, nb, nc])) (F.ini ("BadWanted", ["thing"]) (by simp [nms, na, nb, nc])) h30
  have e31 := ec_31 (F.al.all ("NoSpot", ["thing"]) (by simp [nms, na, nb, nc])) (F.ini ("NoSpot", ["thing"]) (by simp [nms, na, nb, nc])) h31
  have e32 := ec_32 (F.al.all ("BadStep", ["index"]) (by simp [nms, na, nb, nc])) (F.ini ("BadStep", ["index"]) (by simp [nms, na, nb, nc])) h32
  have e33 := ec_33 (F.al.all ("Restless", ["task", "path"]) (by simp [nms, na, nb, nc])) (F.ini ("Restless", ["task", "path"]) (by simp [nms, na, nb, nc])) h33
  have e34 := ec_34 (F.al.all ("BadRow", ["index"]) (by simp [nms, na, nb, nc])) (F.ini ("BadRow", ["index"]) (by simp [nms, na, nb, nc])) h34
  have e35 := ec_35 (F.al.all ("BadLot", ["thing"]) (by simp [nms, na, nb, nc])) (F.ini ("BadLot", ["thing"]) (by simp [nms, na, nb, nc])) h35
  have e36 := ec_36 (F.al.all ("BadStates", ["index"]) (by simp [nms, na, nb, nc])) (F.ini ("BadStates", ["index"]) (by simp [nms, na, nb, nc])) h36
  have e37 := ec_37 (F.al.all ("BadMachine", ["thing"]) (by simp [nms, na, nb, nc])) (F.ini ("BadMachine", ["thing"]) (by simp [nms, na, nb, nc])) h37
  have e38 := ec_38 (F.al.all ("NoEntry", ["owner", "entry"]) (by simp [nms, na, nb, nc])) (F.ini ("NoEntry", ["owner", "entry"]) (by simp [nms, na, nb, nc])) h38
  have e39 := ec_39 (F.al.all ("BadJobs", ["job"]) (by simp [nms, na, nb, nc])) (F.ini ("BadJobs", ["job"]) (by simp [nms, na, nb, nc])) h39
  have e40 := ec_40 (F.al.all ("NoJob", ["job"]) (by simp [nms, na, nb, nc])) (F.ini ("NoJob", ["job"]) (by simp [nms, na, nb, nc])) h40
  have e41 := ec_41 (F.al.all ("BadComings", ["job"]) (by simp [nms, na, nb, nc])) (F.ini ("BadComings", ["job"]) (by simp [nms, na, nb, nc])) h41
  have e42 := ec_42 (F.al.all ("BadCeiling", ["ceiling"]) (by simp [nms, na, nb, nc])) (F.ini ("BadCeiling", ["ceiling"]) (by simp [nms, na, nb, nc])) h42
  have e43 := ec_43 (F.al.all ("BadEnds", ["job"]) (by simp [nms, na, nb, nc])) (F.ini ("BadEnds", ["job"]) (by simp [nms, na, nb, nc])) h43
  have e44 := ec_44 (F.al.all ("BadTimed", ["task", "path"]) (by simp [nms, na, nb, nc])) (F.ini ("BadTimed", ["task", "path"]) (by simp [nms, na, nb, nc])) h44
  have e45 := ec_45 (F.al.all ("BadFates", ["thing"]) (by simp [nms, na, nb, nc])) (F.ini ("BadFates", ["thing"]) (by simp [nms, na, nb, nc])) h45
  have e46 := ec_46 (F.al.all ("NoNote", ["word"]) (by simp [nms, na, nb, nc])) (F.ini ("NoNote", ["word"]) (by simp [nms, na, nb, nc])) h46
  have e47 := ec_47 (F.al.all ("NoComing", ["pair"]) (by simp [nms, na, nb, nc])) (F.ini ("NoComing", ["pair"]) (by simp [nms, na, nb, nc])) h47
  have e48 := ec_48 (F.al.all ("BadCourse", ["thing"]) (by simp [nms, na, nb, nc])) (F.ini ("BadCourse", ["thing"]) (by simp [nms, na, nb, nc])) h48
  have e49 := ec_49 (F.al.all ("BadCode", ["task", "number"]) (by simp [nms, na, nb, nc])) (F.ini ("BadCode", ["task", "number"]) (by simp [nms, na, nb, nc])) h49
  have e50 := ec_50 (F.al.all ("Silent", ["task", "spot"]) (by simp [nms, na, nb, nc])) (F.ini ("Silent", ["task", "spot"]) (by simp [nms, na, nb, nc])) h50
  have e51 := ec_51 (F.al.all ("BadCuts", ["index"]) (by simp [nms, na, nb, nc])) (F.ini ("BadCuts", ["index"]) (by simp [nms, na, nb, nc])) h51
  have e52 := ec_52 (F.al.all ("NoRow", ["number"]) (by simp [nms, na, nb, nc])) (F.ini ("NoRow", ["number"]) (by simp [nms, na, nb, nc])) h52
  have e53 := ec_53 (F.al.all ("BadLog", ["index"]) (by simp [nms, na, nb, nc])) (F.ini ("BadLog", ["index"]) (by simp [nms, na, nb, nc])) h53
  have e54 := ec_54 (F.al.all ("BadGap", ["number"]) (by simp [nms, na, nb, nc])) (F.ini ("BadGap", ["number"]) (by simp [nms, na, nb, nc])) h54
  have e55 := ec_55 (F.al.all ("BadEvent", ["event"]) (by simp [nms, na, nb, nc])) (F.ini ("BadEvent", ["event"]) (by simp [nms, na, nb, nc])) h55
  have e56 := ec_56 (F.al.all ("BadApart", ["task"]) (by simp [nms, na, nb, nc])) (F.ini ("BadApart", ["task"]) (by simp [nms, na, nb, nc])) h56
  have e57 := ec_57 (F.al.all ("BadLine", ["thing"]) (by simp [nms, na, nb, nc])) (F.ini ("BadLine", ["thing"]) (by simp [nms, na, nb, nc])) h57
  have e58 := ec_58 (F.al.all ("BadKinds", ["index"]) (by simp [nms, na, nb, nc])) (F.ini ("BadKinds", ["index"]) (by simp [nms, na, nb, nc])) h58
  have e59 := ec_59 (F.al.all ("BadText", ["index"]) (by simp [nms, na, nb, nc])) (F.ini ("BadText", ["index"]) (by simp [nms, na, nb, nc])) h59
  have e60 := ec_60 (F.al.all ("BadOpen", ["index"]) (by simp [nms, na, nb, nc])) (F.ini ("BadOpen", ["index"]) (by simp [nms, na, nb, nc])) h60
  have e61 := ec_61 (F.al.all ("BadFilling", ["task"]) (by simp [nms, na, nb, nc])) (F.ini ("BadFilling", ["task"]) (by simp [nms, na, nb, nc])) h61
  have e62 := ec_62 (F.al.all ("BadAsk", ["thing"]) (by simp [nms, na, nb, nc])) (F.ini ("BadAsk", ["thing"]) (by simp [nms, na, nb, nc])) h62
  have e63 := ec_63 (F.al.all ("BadName", ["name"]) (by simp [nms, na, nb, nc])) (F.ini ("BadName", ["name"]) (by simp [nms, na, nb, nc])) h63
  have e64 := ec_64 (F.al.all ("BadThing", ["thing"]) (by simp [nms, na, nb, nc])) (F.ini ("BadThing", ["thing"]) (by simp [nms, na, nb, nc])) h64
  have e65 := ec_65 (F.al.all ("Lacks", ["name"]) (by simp [nms, na, nb, nc])) (F.ini ("Lacks", ["name"]) (by simp [nms, na, nb, nc])) h65
  have e66 := ec_66 (F.al.all ("NotOf", ["name"]) (by simp [nms, na, nb, nc])) (F.ini ("NotOf", ["name"]) (by simp [nms, na, nb, nc])) h66
  have e67 := ec_67 (F.al.all ("NoName", ["name"]) (by simp [nms, na, nb, nc])) (F.ini ("NoName", ["name"]) (by simp [nms, na, nb, nc])) h67
  have e68 := ec_68 (F.al.all ("Needed", ["name", "by"]) (by simp [nms, na, nb, nc])) (F.ini ("Needed", ["name", "by"]) (by simp [nms, na, nb, nc])) h68
  exact ⟨e0, e1, e2, e3, e4, e5, e6, e7, e8, e9, e10, e11, e12, e13, e14, e15, e16, e17, e18, e19, e20, e21, e22, e23, e24, e25, e26, e27, e28, e29, e30, e31, e32, e33, e34, e35, e36, e37, e38, e39, e40, e41, e42, e43, e44, e45, e46, e47, e48, e49, e50, e51, e52, e53, e54, e55, e56, e57, e58, e59, e60, e61, e62, e63, e64, e65, e66, e67, e68⟩
theorem one_of {x : Str} {t : Nat} (F : Facts K mg) (h : fD x t ∈ fnF) : ∃ f fd, mg x = some (.ref f) ∧ PySem.W.keepIn K (.ref f) = true ∧ FnP K x (top t) f fd := by
  obtain ⟨fd, h1⟩ := F.fd (fD x t) (List.mem_append_left _ h)
  exact ⟨_, fd, F.gl _ h, h1.kp, h1⟩
end
end K00

namespace K00
open PySem PySem.Spec PyProof.Rows L2 LamX LamV XK0
def AllI (K : PySem.W.Frag) (ca cb cc : List Addr) (TE : Addr) : Nat → List (V → V → XK0.It) → Prop
  | _, [] => True
  | i, a :: r => GoodI K ca cb cc TE i a ∧ AllI K ca cb cc TE (i + 1) r
theorem allI_at {K : PySem.W.Frag} {ca cb cc : List Addr} {TE : Addr} : ∀ {l : List (V → V → XK0.It)} {j i : Nat} {it : V → V → XK0.It}, AllI K ca cb cc TE j l → l[i]? = some it → GoodI K ca cb cc TE (j + i) it
  | [], _, _, _, _, h => by simp at h
  | a :: r, j, 0, it, h, e => by
    have : a = it := by simpa using e
    subst this
    exact h.1
  | a :: r, j, i + 1, it, h, e => by
    have z := allI_at (i := i) h.2 (by simpa using e)
    rw [show j + 1 + i = j + (i + 1) by omega] at z
    exact z
section
variable {P : Program} {w : World} {K : PySem.W.Frag} {mg : Str → Option Value} {base : Heap}
abbrev TEa (K : PySem.W.Frag) : Addr := He.ga K "TaskError"
theorem good1 {x f : Str} {i : Nat} (A : AllC K mg nms) (h : nms[i]? = some (x, [f])) : GoodI K (ad K na) (ad K nb) (ad K nc) (TEa K) i (fun a b => ⟨He.ga K x, [(f, a)], [a], [f]⟩) := by
  have c := A.all _ (List.mem_of_getElem? h)
  exact ⟨fun _ _ => A.own rfl nms_len h, fun _ _ => c.xf, fun _ _ => c.no, fun a b => by simp [List.lookup], fun _ _ => .inl rfl⟩
theorem good2 {x f g : Str} {i : Nat} (A : AllC K mg nms) (h : nms[i]? = some (x, [f, g])) (hne : (f == g) = false) : GoodI K (ad K na) (ad K nb) (ad K nc) (TEa K) i (fun a b => ⟨He.ga K x, [(g, b), (f, a)], [a, b], [f, g]⟩) := by
  have c := A.all _ (List.mem_of_getElem? h)
  exact ⟨fun _ _ => A.own rfl nms_len h, fun _ _ => c.xf, fun _ _ => c.no, fun a b => by simp [List.lookup, hne], fun _ _ => .inr rfl⟩
theorem goodAll (A : AllC K mg nms) : AllI K (ad K na) (ad K nb) (ad K nc) (TEa K) 0 (itA K ++ itB K ++ itC K) :=
  ⟨good1 A rfl, ⟨good1 A rfl, ⟨good1 A rfl, ⟨good1 A rfl, ⟨good1 A rfl, ⟨good2 A rfl rfl, ⟨good1 A rfl, ⟨good1 A rfl, ⟨good1 A rfl, ⟨good1 A rfl, ⟨good1 A rfl, ⟨good1 A rfl, ⟨good1 A rfl, ⟨good1 A rfl, ⟨good1 A rfl, ⟨good1 A rfl, ⟨good1 A rfl, ⟨good1 A rfl, ⟨good1 A rfl, ⟨good1 A rfl, ⟨good1 A rfl, ⟨good1 A rfl, ⟨good1 A rfl, ⟨good1 A rfl, ⟨good1 A rfl, ⟨good1 A rfl, ⟨good1 A rfl, ⟨good1 A rfl, ⟨good2 A rfl rfl, ⟨good1 A rfl, ⟨good1 A rfl, ⟨good1 A rfl, ⟨good1 A rfl, ⟨good2 A rfl rfl, ⟨good1 A rfl, ⟨good1 A rfl, ⟨good1 A rfl, ⟨good1 A rfl, ⟨good2 A rfl rfl, ⟨good1 A rfl, ⟨good1 A rfl, ⟨good1 A rfl, ⟨good1 A rfl, ⟨good1 A rfl, ⟨good2 A rfl rfl, ⟨good1 A rfl, ⟨good1 A rfl, ⟨good1 A rfl, ⟨good1 A rfl, ⟨good2 A rfl rfl, ⟨good2 A rfl rfl, ⟨good1 A rfl, ⟨good1 A rfl, ⟨good1 A rfl, ⟨good1 A rfl, ⟨good1 A rfl, ⟨good1 A rfl, ⟨good1 A rfl, ⟨good1 A rfl, ⟨good1 A rfl, ⟨good1 A rfl, ⟨good1 A rfl, ⟨good1 A rfl, ⟨good1 A rfl, ⟨good1 A rfl, ⟨good1 A rfl, ⟨good1 A rfl, ⟨good1 A rfl, ⟨good2 A rfl rfl, trivial⟩⟩⟩⟩⟩⟩⟩⟩⟩⟩⟩⟩⟩⟩⟩⟩⟩⟩⟩⟩⟩⟩⟩⟩⟩⟩⟩⟩⟩⟩⟩⟩⟩⟩⟩⟩⟩⟩⟩⟩⟩⟩⟩⟩⟩⟩⟩⟩⟩⟩⟩⟩⟩⟩⟩⟩⟩⟩⟩⟩⟩⟩⟩⟩⟩⟩⟩⟩⟩
/-- the tables of the three makers -/
structure Tab3 (K : PySem.W.Frag) (mg : Str → Option Value) (base : Heap) (ca Pa cb Pb cc Pc : Addr) : Prop where
  a : codeOf K (He.ga K "_law_made_a") = some (.ref ca)
  b : codeOf K (He.ga K "_law_made_b") = some (.ref cb)
  c : codeOf K (He.ga K "_law_made_c") = some (.ref cc)
  ta : TabB base mg ca Pa
  tb : TabB base mg cb Pb
  tc : TabB base mg cc Pc
  ab : Pa ≠ Pb
  ac : Pa ≠ Pc
  bc : Pb ≠ Pc
abbrev lamQ (x : Str) : Str := x ++ ".<locals>." ++ "<lambda>"
abbrev T3 (Pa Pb Pc : Addr) : List (Addr × Str) := [(Pa, lamQ "_law_made_a"), (Pb, lamQ "_law_made_b"), (Pc, lamQ "_law_made_c")]
theorem scMadeA : FnScope ["_law_x", "_law_y", "_law_found"] ["_law_x", "_law_y"] (defScope sMadeA) := ⟨rfl, rfl, rfl, by decide +kernel, rfl, by decide +kernel, by decide +kernel⟩
theorem scMadeB : FnScope ["_law_x", "_law_y", "_law_found"] ["_law_x", "_law_y"] (defScope sMadeB) := ⟨rfl, rfl, rfl, by decide +kernel, rfl, by decide +kernel, by decide +kernel⟩
theorem scMadeC : FnScope ["_law_x", "_law_y", "_law_found"] ["_law_x", "_law_y"] (defScope sMadeC) := ⟨rfl, rfl, rfl, by decide +kernel, rfl, by decide +kernel, by decide +kernel⟩
theorem scKA : FnScope ["_law_e", "_law_found"] ["_law_e"] (defScope sKindsA) := ⟨rfl, rfl, rfl, by decide +kernel, rfl, by decide +kernel, by decide +kernel⟩
theorem scKB : FnScope ["_law_e", "_law_found"] ["_law_e"] (defScope sKindsB) := ⟨rfl, rfl, rfl, by decide +kernel, rfl, by decide +kernel, by decide +kernel⟩
theorem scKC : FnScope ["_law_e", "_law_found"] ["_law_e"] (defScope sKindsC) := ⟨rfl, rfl, rfl, by decide +kernel, rfl, by decide +kernel, by decide +kernel⟩
theorem lawF {ca Pa cb Pb cc Pc : Addr} (F : Facts K mg) (t : Tab3 K mg base ca Pa cb Pb cc Pc) : LawF P w K mg base (T3 Pa Pb Pc) (itA K) (itB K) (itC K) (ad K na) (ad K nb) (ad K nc) (TEa K) := by
  have A := F.al
  have E := F.ecs
  have fr : ∀ x, x ∈ (["len", "sum", "int", "abs", "list", "range", "isinstance", "ValueError", "LookupError", "repr", "enumerate"] : List Str) → mg x = none := F.fr
  obtain ⟨f1, d1, g1, k1, h1⟩ := one_of (x := "_law_pool") (t := 75) F (by simp [fnF])
  obtain ⟨f2, d2, g2, k2, h2⟩ := one_of (x := "_law_take") (t := 76) F (by simp [fnF])
  obtain ⟨f3, d3, g3, k3, h3⟩ := one_of (x := "_law_mixed") (t := 77) F (by simp [fnF])
  obtain ⟨d4, h4⟩ := F.fd (fD "_law_made_a" 78) (by simp [fn, fnF])
  obtain ⟨d5, h5⟩ := F.fd (fD "_law_made_b" 79) (by simp [fn, fnF])
  obtain ⟨d6, h6⟩ := F.fd (fD "_law_made_c" 80) (by simp [fn, fnF])
  obtain ⟨f7, d7, g7, k7, h7⟩ := one_of (x := "_law_kinds_a") (t := 81) F (by simp [fnF])
  obtain ⟨f8, d8, g8, k8, h8⟩ := one_of (x := "_law_kinds_b") (t := 82) F (by simp [fnF])
  obtain ⟨f9, d9, g9, k9, h9⟩ := one_of (x := "_law_kinds_c") (t := 83) F (by simp [fnF])
  obtain ⟨f10, d10, g10, k10, h10⟩ := one_of (x := "_law_is_own") (t := 84) F (by simp [fnF])
  obtain ⟨f11, d11, g11, k11, h11⟩ := one_of (x := "_law_same") (t := 85) F (by simp [fnF])
  have b1 : Binds K d1 ["_law_script", "_law_turn"] [] := h1.bindsN fun _ _ _ _ _ _ us hl => match us, hl with | [_, _], _ => rfl
  have b2 : Binds K d2 ["_law_pool_here", "_law_many"] [] := h2.bindsN fun _ _ _ _ _ _ us hl => match us, hl with | [_, _], _ => rfl
  have b3 : Binds K d3 ["_law_pool_here", "_law_things"] [] := h3.bindsN fun _ _ _ _ _ _ us hl => match us, hl with | [_, _], _ => rfl
  have h4' : FnP K "_law_made_a" sMadeA (He.ga K "_law_made_a") d4 := h4
  have h5' : FnP K "_law_made_b" sMadeB (He.ga K "_law_made_b") d5 := h5
  have h6' : FnP K "_law_made_c" sMadeC (He.ga K "_law_made_c") d6 := h6
  have b4 : Binds K d4 ["_law_x", "_law_y"] [] := h4'.bindsN fun _ _ _ _ _ _ us hl => match us, hl with | [_, _], _ => rfl
  have b5 : Binds K d5 ["_law_x", "_law_y"] [] := h5'.bindsN fun _ _ _ _ _ _ us hl => match us, hl with | [_, _], _ => rfl
  have b6 : Binds K d6 ["_law_x", "_law_y"] [] := h6'.bindsN fun _ _ _ _ _ _ us hl => match us, hl with | [_, _], _ => rfl
  have b7 : Binds K d7 ["_law_e"] [] := h7.bindsN fun _ _ _ _ _ _ us hl => match us, hl with | [_], _ => rfl
  have b8 : Binds K d8 ["_law_e"] [] := h8.bindsN fun _ _ _ _ _ _ us hl => match us, hl with | [_], _ => rfl
  have b9 : Binds K d9 ["_law_e"] [] := h9.bindsN fun _ _ _ _ _ _ us hl => match us, hl with | [_], _ => rfl
  have b10 : Binds K d10 ["_law_e", "_law_at"] [] := h10.bindsN fun _ _ _ _ _ _ us hl => match us, hl with | [_, _], _ => rfl
  have b11 : Binds K d11 ["_law_found", "_law_due"] [] := h11.bindsN fun _ _ _ _ _ _ us hl => match us, hl with | [_, _], _ => rfl
  have OT : FnOk P w K mg base CX0 1 f2 d2 ["_law_pool_here", "_law_many"] spTake := ok_take h2 (fr "int" (by simp))
  have OA : FnOk P w K mg base CX0 1 f7 d7 ["_law_e"] (spKinds K (ad K na)) := csA_flat (K := K) ▸ kinds_ok h7 scKA rfl rfl (fr "isinstance" (by simp)) (sts := ksA) (css := csA K) rfl (by rw [csA_flat]; show 24 < 900; decide) (klinesA A)
  have OB : FnOk P w K mg base CX0 1 f8 d8 ["_law_e"] (spKinds K (ad K nb)) := csB_flat (K := K) ▸ kinds_ok h8 scKB rfl rfl (fr "isinstance" (by simp)) (sts := ksB) (css := csB K) rfl (by rw [csB_flat]; show 24 < 900; decide) (klinesB A)
  have OC : FnOk P w K mg base CX0 1 f9 d9 ["_law_e"] (spKinds K (ad K nc)) := csC_flat (K := K) ▸ kinds_ok h9 scKC rfl rfl (fr "isinstance" (by simp)) (sts := ksC) (css := csC K) rfl (by rw [csC_flat]; show 24 < 900; decide) (klinesC A)
  have nab := t.ab
  have nac := t.ac
  have nbc := t.bc
  refine {
    pool := ⟨f1, d1, g1, k1, b1, ok_pool h1 (fr "len" (by simp)) (fr "sum" (by simp)) (fr "int" (by simp)) (fr "abs" (by simp))⟩
    mixed := ⟨f3, d3, g3, k3, b3, ok_mixed h3 OT g2 k2 b2 (fr "list" (by simp)) (fr "len" (by simp)) (fr "range" (by simp))⟩
    madeA := ⟨_, d4, F.gl (fD "_law_made_a" 78) (by simp [fnF]), h4'.kp, b4, made_ok h4' t.a t.ta (by simp) (fun p hp e => ?_) scMadeA rfl (sts := stA) rfl (by show 25 < 900; decide) (linesA E)⟩
    madeB := ⟨_, d5, F.gl (fD "_law_made_b" 79) (by simp [fnF]), h5'.kp, b5, made_ok h5' t.b t.tb (by simp) (fun p hp e => ?_) scMadeB rfl (sts := stB) rfl (by show 25 < 900; decide) (linesB E)⟩
    madeC := ⟨_, d6, F.gl (fD "_law_made_c" 80) (by simp [fnF]), h6'.kp, b6, made_ok h6' t.c t.tc (by simp) (fun p hp e => ?_) scMadeC rfl (sts := stC) rfl (by show 19 < 900; decide) (linesC E)⟩
    kindsA := ⟨f7, d7, g7, k7, b7, OA⟩
    kindsB := ⟨f8, d8, g8, k8, b8, OB⟩
    kindsC := ⟨f9, d9, g9, k9, b9, OC⟩
    own := ⟨f10, d10, g10, k10, b10, ok_own h10 OA OB OC g7 g8 g9 k7 k8 k9 b7 b8 b9 A.te.gl (fr "isinstance" (by simp)) (fr "ValueError" (by simp)) (fr "LookupError" (by simp)) (fr "range" (by simp)) (by show 24 ≤ 100; decide) (by show 24 ≤ 100; decide) (by show 24 ≤ 100; decide)⟩
    same := ⟨f11, d11, g11, k11, b11, ok_same h11 (fr "repr" (by simp)) F.sm⟩
    good := fun i it h => by
      have z := allI_at (goodAll A) h
      rw [Nat.zero_add] at z
      exact z
    len := rfl
    lens := ⟨by show 25 ≤ 100; decide, by show 25 ≤ 100; decide, by show 19 ≤ 100; decide⟩
    clen := ⟨by show 24 ≤ 100; decide, by show 24 ≤ 100; decide, by show 24 ≤ 100; decide⟩
    three := ⟨_, _, _, (A.all ("UnlikeNames", []) (by simp [nms, na, nb, nc])).gl, (A.all ("UnlikeEntries", []) (by simp [nms, na, nb, nc])).gl, (A.all ("Nothing", []) (by simp [nms, na, nb, nc])).gl, ?_, A.own rfl nms_len (i := 69) (p := ("UnlikeNames", [])) rfl, A.own rfl nms_len (i := 70) (p := ("UnlikeEntries", [])) rfl, A.own rfl nms_len (i := 71) (p := ("Nothing", [])) rfl⟩
    start := ⟨_, E.e1, (A.all ("BadStart", ["thing"]) (by simp [nms, na, nb, nc])).xf⟩
    base := ⟨_, _, _, _, PySem.F.excBase_ValueError, A.te.gl, F.ex "TaskError" (by simp), A.te.ox.kC, A.te.xc A.com (by simp [tailV]), A.kd (fun p hp => by simp [nms, hp]) (.inl rfl), A.kd (fun p hp => by simp [nms, hp]) (.inl rfl), A.kd (fun p hp => by simp [nms, hp]) (.inl rfl), ?_, ?_, ?_, ?_⟩
    gl := fr "len" (by simp)
    ge := fr "enumerate" (by simp)
    gi := fr "isinstance" (by simp)
    gv := fr "ValueError" (by simp) }
  · simp only [List.mem_cons, List.mem_nil_iff, or_false] at hp
    rcases hp with rfl | rfl | rfl
    · rfl
    · exact absurd e.symm nab
    · exact absurd e.symm nac
  · simp only [List.mem_cons, List.mem_nil_iff, or_false] at hp
    rcases hp with rfl | rfl | rfl
    · exact absurd e nab
    · rfl
    · exact absurd e.symm nbc
  · simp only [List.mem_cons, List.mem_nil_iff, or_false] at hp
    rcases hp with rfl | rfl | rfl
    · exact absurd e nac
    · exact absurd e nbc
    · rfl
  · intro C hC
    simp only [List.mem_cons, List.mem_nil_iff, or_false] at hC
    rcases hC with rfl | rfl | rfl
    · exact ⟨_, _, _, _, PySem.F.excBase_ValueError, F.ex "UnlikeNames" (by simp), (A.all ("UnlikeNames", []) (by simp [nms, na, nb, nc])).ox.kC⟩
    · exact ⟨_, _, _, _, PySem.F.excBase_ValueError, F.ex "UnlikeEntries" (by simp), (A.all ("UnlikeEntries", []) (by simp [nms, na, nb, nc])).ox.kC⟩
    · exact ⟨_, _, _, _, PySem.F.excBase_ValueError, F.ex "Nothing" (by simp), (A.all ("Nothing", []) (by simp [nms, na, nb, nc])).ox.kC⟩
  · exact fun z => (List.nodup_cons.mp A.nd).1 (by simp only [nms, List.map_append, List.mem_append]; exact .inl (.inl z))
  · exact fun z => (List.nodup_cons.mp A.nd).1 (by simp only [nms, List.map_append, List.mem_append]; exact .inl (.inr z))
  · exact fun z => (List.nodup_cons.mp A.nd).1 (by simp only [nms, List.map_append, List.mem_append]; exact .inr z)
  · rw [kit_type A.te A.ve]
    simp [tailV]
end
end K00

namespace K00
open PySem PySem.Spec PyProof.Rows L2 LamX LamV XK0
/-! ### the head's part: the module's names, the classes' dicts, the functions, their code -/
def as1 (g : Addr → Option Obj) : List Addr := match g mainGlobals with
  | some ⟨_, _, .dict es _, _⟩ => es.toList.flatMap fun e => He.refV e.val
  | _ => []
def as2 (g : Addr → Option Obj) : List Addr := (as1 g).flatMap fun a => match g a with
  | some ⟨_, _, .cls cd, _⟩ => [cd.ns]
  | some ⟨_, _, .func fd, _⟩ => He.refV fd.code
  | _ => []
def as3 (g : Addr → Option Obj) : List Addr := (as2 g).flatMap fun a => match g a with
  | some ⟨_, _, .dict es _, _⟩ => es.toList.flatMap fun e => (match e.val with
    | .ref b => (match g b with
      | some ⟨_, _, .func _, _⟩ => [b]
      | _ => [])
    | _ => [])
  | _ => []
def as4 (g : Addr → Option Obj) : List Addr := (as3 g).flatMap fun a => match g a with
  | some ⟨_, _, .func fd, _⟩ => He.refV fd.code
  | _ => []
def asX (g : Addr → Option Obj) : List Addr := mainGlobals :: sysModules :: (as1 g ++ (as2 g ++ (as3 g ++ as4 g)))
def nodB : List Addr → Bool
  | [] => true
  | a :: r => !r.contains a && nodB r
theorem nodB_ok : ∀ {l : List Addr}, nodB l = true → l.Nodup
  | [], _ => List.nodup_nil
  | a :: r, h => by
    obtain ⟨h1, h2⟩ := He.ba h
    refine List.nodup_cons.mpr ⟨fun z => ?_, nodB_ok h2⟩
    rw [Bool.not_eq_true'] at h1
    have : r.contains a = true := List.contains_iff_mem.mpr z
    rw [h1] at this
    cases this
def clsAll (K : PySem.W.Frag) : Bool := clsB K tailV "TaskError" [] && (nms.all (fun p => clsB K (UpT K) p.1 p.2) && ((nms.take 69).all (fun p => initB K p.1) && (nodB (He.ga K "TaskError" :: nms.map fun p => He.ga K p.1) &&
  (decide (PySem.W.specialIn K (.builtin "object.__class__") "__get__" = some (some (.builtin "getset_descriptor.__get__"))) && (decide (PySem.W.takesIn K (.builtin "object.__class__") = some true) &&
  ((["TaskError", "UnlikeNames", "UnlikeEntries", "Nothing"] : List Str).all (fun x => PySem.W.excIn K (He.ga K x) He.veBase "ValueError.__new__") && (K.lookup sysModules).isSome))))))
def codeHdB (o : Obj) (c P : Addr) : Bool := match o with
  | ⟨.type t, _, .fields vs, _⟩ => decide (t = "code") && ((match (vs[11]? : Option Value) with
      | some (.ref Q) => decide (Q = P)
      | _ => false) && ((match vs.getD 18 .none with
      | .str _ _ => true
      | _ => false) && ((match vs.getD 7 .none with
      | .int _ _ => true
      | _ => false) && ((match vs.getD 9 .none with
      | .bool _ => true
      | _ => false) && ((match vs.getD 10 .none with
      | .int _ _ => true
      | _ => false) && !decide (c = P))))))
  | _ => false
theorem codeHdB_ok {h : Heap} {o : Obj} {c P : Addr} (e : h.get? c = some o) (b : codeHdB o c P = true) : PySem.W.CodeHd h c P := by
  unfold codeHdB at b
  split at b
  · rename_i t dd vs sl
    obtain ⟨b1, b⟩ := He.ba b
    obtain ⟨b2, b⟩ := He.ba b
    obtain ⟨b3, b⟩ := He.ba b
    obtain ⟨b4, b⟩ := He.ba b
    obtain ⟨b5, b⟩ := He.ba b
    obtain ⟨b6, b7⟩ := He.ba b
    have ht : t = "code" := of_decide_eq_true b1
    subst ht
    split at b2
    · rename_i Q hq
      have hQ : Q = P := of_decide_eq_true b2
      subst hQ
      split at b3
      · rename_i file tf h18
        split at b4
        · rename_i fl tg h7
          split at b5
          · rename_i inF h9
            split at b6
            · rename_i tx tt h10
              refine ⟨_, vs, file, tf, fl, tg, inF, tx, tt, e, rfl, rfl, hq, ?_, h18, h7, h9, h10, ?_⟩
              · rw [Array.getD_eq_getD_getElem?, hq]
                rfl
              · simpa using b7
            · cases b6
          · cases b5
        · cases b4
      · cases b3
    · cases b2
  · cases b
def tabOf (K : PySem.W.Frag) (x : Str) : Addr × Addr := match codeOf K (He.ga K x) with
  | some (.ref c) => (match K.lookup c with
    | some ⟨_, _, .fields vs, _⟩ => (match (vs[11]? : Option Value) with
      | some (.ref P) => (c, P)
      | _ => (0, 0))
    | _ => (0, 0))
  | _ => (0, 0)
def isRef (o : Option Value) (c : Addr) : Bool := match o with
  | some (.ref d) => decide (d = c)
  | _ => false
theorem isRef_ok {o : Option Value} {c : Addr} (h : isRef o c = true) : o = some (.ref c) := by
  unfold isRef at h
  split at h
  · rename_i d
    have e : d = c := of_decide_eq_true h
    rw [e]
  · cases h
def emptyB (o : Option Obj) : Bool := match o with
  | some ⟨.none, none, .fields vs, sl⟩ => vs.isEmpty && sl.isEmpty
  | _ => false
theorem emptyB_ok {o : Option Obj} (h : emptyB o = true) : o = some { cls := .none, data := .fields #[] } := by
  unfold emptyB at h
  split at h
  · rename_i vs sl
    obtain ⟨h1, h2⟩ := He.ba h
    rw [Array.isEmpty_iff.mp h1, Array.isEmpty_iff.mp h2]
  · cases h
def tabB (K : PySem.W.Frag) (g : Addr → Option Obj) (x : Str) : Bool := isRef (codeOf K (He.ga K x)) (tabOf K x).1 && ((match K.lookup (tabOf K x).1 with
  | some o => codeHdB o (tabOf K x).1 (tabOf K x).2
  | none => false) && ((K.lookup (tabOf K x).2).isNone && emptyB (g (tabOf K x).2)))
structure TabH (K : PySem.W.Frag) (h : Heap) (x : Str) : Prop where
  co : codeOf K (He.ga K x) = some (.ref (tabOf K x).1)
  hd : PySem.W.CodeHd h (tabOf K x).1 (tabOf K x).2
  no : K.lookup (tabOf K x).2 = none
  em : h.get? (tabOf K x).2 = some { cls := .none, data := .fields #[] }
theorem tabB_ok {K : PySem.W.Frag} {h : Heap} {x : Str} (X : K.In h) (b : tabB K h.get? x = true) : TabH K h x := by
  obtain ⟨b1, b⟩ := He.ba b
  obtain ⟨b2, b⟩ := He.ba b
  obtain ⟨b3, b4⟩ := He.ba b
  split at b2
  · rename_i o ho
    exact ⟨isRef_ok b1, codeHdB_ok (X _ _ ho) b2, Option.isNone_iff_eq_none.mp b3, emptyB_ok b4⟩
  · cases b2
def mk3 : List Str := ["_law_made_a", "_law_made_b", "_law_made_c"]
def obsX (g : Addr → Option Obj) (K : PySem.W.Frag) : Bool × He.AlD := (clsAll K && (mk3.all (fun x => tabB K g x) && nodB (mk3.map fun x => (tabOf K x).2)), He.obsD fa fn K)
structure SayX (h : Heap) (K : PySem.W.Frag) : Prop where
  inh : K.In h
  cls : clsAll K = true
  tab : ∀ x ∈ mk3, TabH K h x
  nod : (mk3.map fun x => (tabOf K x).2).Nodup
  say : He.SaysD fa fn K
def hkX : PySem.W.Hook where
  α := Bool × He.AlD
  obs := fun s => obsX s.heap.get? (He.frG s.heap.get? (asX s.heap.get?))
  val := fun _ => (true, He.valD fn)
  says := fun _ h => ∃ K, SayX h K
  of := fun _ s e => by
    have e1 := congrArg Prod.fst e
    have e2 := congrArg Prod.snd e
    obtain ⟨c1, c2⟩ := He.ba e1
    obtain ⟨c2, c3⟩ := He.ba c2
    exact ⟨_, He.frG_in, c1, fun x hx => tabB_ok He.frG_in (List.all_eq_true.mp c2 x hx), nodB_ok c3, e2⟩
  keeps := fun _ h h' ⟨K, s⟩ k => ⟨K, PySem.W.Frag.In.keeps s.inh k, s.cls, fun x hx => ⟨(s.tab x hx).co, (s.tab x hx).hd.keeps k, (s.tab x hx).no, k _ _ (s.tab x hx).em⟩, s.nod, s.say⟩
def obX (s : PySem.W.SharedT) : Bool × He.AlD := obsX (HandSHeadRun.getT s) (He.frG (HandSHeadRun.getT s) (asX (HandSHeadRun.getT s)))
theorem obX_eq (s : PySem.W.SharedT) : obX s = hkX.obs s.abs := by
  have e : HandSHeadRun.getT s = s.abs.heap.get? := funext (HandSHeadRun.getT_eq s)
  unfold obX
  rw [e]
  rfl
end K00

namespace K00
open PySem PySem.W PySem.Calls PyProof.Rows
abbrev R : OpenRow := OpenLaw.row PySem.Challenge.rw_meettasks_k00_errors_made
abbrev qv : Program := view R.prog [86]
def n0 : List PySem.Str := [(PySem.Str.ofString "TaskError"), (PySem.Str.ofString "BadValues"), (PySem.Str.ofString "BadStart"), (PySem.Str.ofString "BadDeeds"), (PySem.Str.ofString "BadEntries"), (PySem.Str.ofString "BadThings"), (PySem.Str.ofString "BadBody"), (PySem.Str.ofString "NoTask"), (PySem.Str.ofString "NoPath"), (PySem.Str.ofString "NoThing"), (PySem.Str.ofString "BadOrder"), (PySem.Str.ofString "NoStand"), (PySem.Str.ofString "BadSpots"), (PySem.Str.ofString "Endless"), (PySem.Str.ofString "BadEvents"), (PySem.Str.ofString "NoDeed"), (PySem.Str.ofString "BadStretch"), (PySem.Str.ofString "BadKind"), (PySem.Str.ofString "BadMany"), (PySem.Str.ofString "NotClosing"), (PySem.Str.ofString "BadTasks"), (PySem.Str.ofString "BadOffers"), (PySem.Str.ofString "BadSentence"), (PySem.Str.ofString "BadTruth"), (PySem.Str.ofString "BadMarks")]
def n1 : List PySem.Str := [(PySem.Str.ofString "NoEntryName"), (PySem.Str.ofString "BadNames"), (PySem.Str.ofString "BadNumber"), (PySem.Str.ofString "BadCalls"), (PySem.Str.ofString "UnlikeNames"), (PySem.Str.ofString "BadServers"), (PySem.Str.ofString "BadLike"), (PySem.Str.ofString "BadWanted"), (PySem.Str.ofString "NoSpot"), (PySem.Str.ofString "BadStep"), (PySem.Str.ofString "Restless"), (PySem.Str.ofString "BadRow"), (PySem.Str.ofString "BadLot"), (PySem.Str.ofString "BadStates"), (PySem.Str.ofString "UnlikeEntries"), (PySem.Str.ofString "BadMachine"), (PySem.Str.ofString "NoEntry"), (PySem.Str.ofString "BadJobs"), (PySem.Str.ofString "NoJob"), (PySem.Str.ofString "BadComings"), (PySem.Str.ofString "BadCeiling"), (PySem.Str.ofString "BadEnds"), (PySem.Str.ofString "BadTimed"), (PySem.Str.ofString "BadFates"), (PySem.Str.ofString "NoNote")]
def n2 : List PySem.Str := [(PySem.Str.ofString "NoComing"), (PySem.Str.ofString "BadCourse"), (PySem.Str.ofString "BadCode"), (PySem.Str.ofString "Silent"), (PySem.Str.ofString "BadCuts"), (PySem.Str.ofString "NoRow"), (PySem.Str.ofString "BadLog"), (PySem.Str.ofString "BadGap"), (PySem.Str.ofString "BadEvent"), (PySem.Str.ofString "BadApart"), (PySem.Str.ofString "BadLine"), (PySem.Str.ofString "BadKinds"), (PySem.Str.ofString "BadText"), (PySem.Str.ofString "BadOpen"), (PySem.Str.ofString "BadFilling"), (PySem.Str.ofString "BadAsk"), (PySem.Str.ofString "BadName"), (PySem.Str.ofString "BadThing"), (PySem.Str.ofString "Lacks"), (PySem.Str.ofString "NotOf"), (PySem.Str.ofString "NoName"), (PySem.Str.ofString "Needed"), (PySem.Str.ofString "Nothing"), (PySem.Str.ofString "_law_pool"), (PySem.Str.ofString "_law_take")]
def n3 : List PySem.Str := [(PySem.Str.ofString "_law_mixed"), (PySem.Str.ofString "_law_made_a"), (PySem.Str.ofString "_law_made_b"), (PySem.Str.ofString "_law_made_c"), (PySem.Str.ofString "_law_kinds_a"), (PySem.Str.ofString "_law_kinds_b"), (PySem.Str.ofString "_law_kinds_c"), (PySem.Str.ofString "_law_is_own"), (PySem.Str.ofString "_law_same")]
def names : List PySem.Str := n0 ++ n1 ++ n2 ++ n3
noncomputable abbrev Zs (w : World) (os : OsState) : SharedT := K00H.Sz w os
noncomputable abbrev KZ (w : World) (os : OsState) : Frag := He.frG (HandSHeadRun.getT (Zs w os)) (asX (HandSHeadRun.getT (Zs w os)))
theorem zLooks (w : World) (os : OsState) : HandSHeadRun.looksF R.prog (boot_heap w.params) (Zs w os).abs = true := by kernel_rfl
theorem zSeen (w : World) (os : OsState) : HandSHeadRun.seenQ qv names (importedModules R.prog.main.body) (fun s => xlAt qv [] s && recOk R.toRowW.records s) (Zs w os).abs = openGood qv names := by kernel_rfl
theorem zFa (w : World) (os : OsState) : (fa.all fun f => f.ok (KZ w os)) = true := by kernel_rfl
theorem zFF (w : World) (os : OsState) : ((fnF.all fun d => d.ok (KZ w os)), fnF.map fun d => He.fnW (KZ w os) d.at_) = (true, fnF.map He.DefD.val) := by kernel_rfl
theorem zTb (w : World) (os : OsState) : (mk3.all (fun x => tabB (KZ w os) (HandSHeadRun.getT (Zs w os)) x) && nodB (mk3.map fun x => (tabOf (KZ w os) x).2)) = true := by kernel_rfl
theorem zF1 (w : World) (os : OsState) : ((fnI.take 35).all (fun d => d.ok (KZ w os)), (fnI.take 35).map fun d => He.fnW (KZ w os) d.at_) = (true, (fnI.take 35).map He.DefD.val) := by kernel_rfl
theorem zF2 (w : World) (os : OsState) : ((fnI.drop 35).all (fun d => d.ok (KZ w os)), (fnI.drop 35).map fun d => He.fnW (KZ w os) d.at_) = (true, (fnI.drop 35).map He.DefD.val) := by kernel_rfl
theorem zCl (w : World) (os : OsState) : clsAll (KZ w os) = true := by kernel_rfl
theorem zOb (w : World) (os : OsState) : hkX.obs (Zs w os).abs = (true, He.valD fn) := by
  rw [← obX_eq]
  have a := zFF w os
  have b := zF1 w os
  have c := zF2 w os
  simp only [Prod.mk.injEq] at a b c
  have dd : He.obsD fa fn (KZ w os) = He.valD fn := by
    have e1 : fn = fnF ++ (fnI.take 35 ++ fnI.drop 35) := congrArg (fun z => fnF ++ z) (List.take_append_drop 35 fnI).symm
    unfold He.obsD He.valD
    rw [e1, List.map_append, List.map_append, List.map_append, List.map_append, a.2, b.2, c.2, List.all_append, List.all_append, zFa, a.1, b.1, c.1]
    rfl
  show obsX _ (KZ w os) = _
  unfold obsX
  rw [dd, zCl, zTb]
  rfl
end K00

namespace K00
open PySem PySem.Spec PyProof.Rows L2 LamX LamV XK0
theorem facts_of {K : PySem.W.Frag} {h : Heap} {mg : Str → Option Value} (s : SayX h K) (G : h.Ns mainGlobals mg) : Facts K mg := by
  have X := s.inh
  obtain ⟨c1, c⟩ := He.ba s.cls
  obtain ⟨c2, c⟩ := He.ba c
  obtain ⟨c3, c⟩ := He.ba c
  obtain ⟨c4, c⟩ := He.ba c
  obtain ⟨c5, c⟩ := He.ba c
  obtain ⟨c6, c⟩ := He.ba c
  obtain ⟨c7, c8⟩ := He.ba c
  have hfa : ∀ f ∈ fa, f.ok K = true := fun f hf => by
    obtain ⟨i, hi⟩ := List.mem_iff_getElem?.mp hf
    exact s.say.fact i hi
  have hfn : ∀ d ∈ fn, ∃ fd, FunD K d.name d.qual d.params d.body d.scope (d.dvs K) (d.kws K) (He.fAd K d.at_) fd := fun d hd => by
    obtain ⟨i, hi⟩ := List.mem_iff_getElem?.mp hd
    exact s.say.def_ i hi
  refine ⟨⟨⟨of_decide_eq_true c5, of_decide_eq_true c6⟩, clsB_ok X G c1, fun p hp => clsB_ok X G (List.all_eq_true.mp c2 p hp), nodB_ok c4, by decide +kernel, by decide +kernel⟩, fun p hp => List.all_eq_true.mp c3 p hp, hfn, fun d hd => ?_, fun x hx => ?_, fun x hx => List.all_eq_true.mp c7 x hx, c8⟩
  · have key : ∀ x : Str, He.Fa.glo x ∈ fa → mg x = some (.ref (He.ga K x)) := fun x hx => He.glo_ok X G (hfa _ hx)
    simp only [fnF, List.mem_cons, List.mem_nil_iff, or_false] at hd
    rcases hd with rfl | rfl | rfl | rfl | rfl | rfl | rfl | rfl | rfl | rfl | rfl | rfl <;> exact key _ (by simp [fa, fD])
  · have key : ∀ x : Str, He.Fa.free x ∈ fa → mg x = none := fun x hx => He.free_ok X G (hfa _ hx)
    simp only [List.mem_cons, List.mem_nil_iff, or_false] at hx
    rcases hx with rfl | rfl | rfl | rfl | rfl | rfl | rfl | rfl | rfl | rfl | rfl <;> exact key _ (by simp [fa, fD])
end K00
open PySem PySem.W PySem.Calls PyProof.Rows
theorem PySem.Challenge.cw_meettasks_k00_errors_made_holds : PySem.Challenge.rw_meettasks_k00_errors_made.Holds := by
  w_on; o_law
  refine HG.head (r := OpenLaw.row PySem.Challenge.rw_meettasks_k00_errors_made) (q := view (OpenLaw.row PySem.Challenge.rw_meettasks_k00_errors_made).prog [86]) (H := K00.hkX) (loose := K00.names) (d := HandSHeadRun.topDef (OpenLaw.row PySem.Challenge.rw_meettasks_k00_errors_made).prog 86) (kwd := [])
    (by kernel_rfl) (fun s => by kernel_rfl) K00H.top K00.zLooks K00.zSeen K00.zOb (by kernel_rfl) (by kernel_rfl) (by kernel_rfl) (by rfl) (by first | assumption | decide +kernel) (by decide +kernel) ⟨rfl, rfl, rfl, rfl, rfl, by decide +kernel⟩ ?hw ?hc
  case hw => w_witness2
  case hc =>
    refine LamX.walk_ofG (l := PySem.Challenge.rw_meettasks_k00_errors_made) (n := 63) (CX := L2.CX0) rfl (by decide) (by kernel_rfl) ?F (fun _ _ _ _ z => z)
    intro w mg fa h Y G hmg0
    obtain ⟨K, S⟩ := Y
    have F := K00.facts_of S G
    have hmg : mg ("law" : PySem.Str) = some (.ref fa) := by
      have e : (HandSHeadRun.topDef (OpenLaw.row PySem.Challenge.rw_meettasks_k00_errors_made).prog 86).name = ("law" : PySem.Str) := by kernel_rfl
      rw [← e]
      exact hmg0
    obtain ⟨fl, fd, gl, kl, FL⟩ := K00.one_of (x := "law") (t := 86) F (by simp [K00.fnF])
    have efa : fl = fa := by
      rw [gl] at hmg
      exact Value.ref.inj (Option.some.inj hmg)
    subst efa
    have ta := S.tab "_law_made_a" (by simp [K00.mk3])
    have tb := S.tab "_law_made_b" (by simp [K00.mk3])
    have tc := S.tab "_law_made_c" (by simp [K00.mk3])
    have nd := S.nod
    simp only [K00.mk3, List.map_cons, List.map_nil, List.nodup_cons, List.mem_cons, List.mem_nil_iff, or_false, not_or] at nd
    refine ⟨K, [K00.tabOf K "_law_made_a", K00.tabOf K "_law_made_b", K00.tabOf K "_law_made_c"], S.inh, fun p hp => ?_, fun p hp => ?_, fun p hp => ?_, fun base hK hg TB s H a ns hl hT hS e0 => ?_⟩
    · simp only [List.mem_cons, List.mem_nil_iff, or_false] at hp
      rcases hp with rfl | rfl | rfl
      · exact ta.em
      · exact tb.em
      · exact tc.em
    · simp only [List.mem_cons, List.mem_nil_iff, or_false] at hp
      rcases hp with rfl | rfl | rfl
      · exact ta.no
      · exact tb.no
      · exact tc.no
    · simp only [List.mem_cons, List.mem_nil_iff, or_false] at hp
      rcases hp with rfl | rfl | rfl
      · exact ta.hd
      · exact tb.hd
      · exact tc.hd
    · have L := K00.lawF (P := PySem.Challenge.rw_meettasks_k00_errors_made.prog) (w := w) (base := base) F ⟨ta.co, tb.co, tc.co, TB _ (by simp), TB _ (by simp), TB _ (by simp), nd.1.1, nd.1.2, nd.2.1⟩
      have O := K00.ok_law FL L
      have hb := L2.FunD.bindsA (ps := ["_law_script"]) FL (fun _ _ _ _ _ _ us hl => match us, hl with | [_], _ => rfl) s [Value.ref a] rfl
      refine O.run callerA [] s H ⟨[.ref a], []⟩ [.ref a] [.ref a] _ _ rfl ⟨rfl, by decide, by decide⟩ e0 hb (.cons rfl .nil) ⟨a, ns, rfl, hS, hl, fun p hp => ?_, fun _ => rfl⟩
      simp only [List.mem_cons, List.mem_nil_iff, or_false] at hp
      rcases hp with rfl | rfl | rfl
      · exact LamX.TabS.nil (hT _ (by simp))
      · exact LamX.TabS.nil (hT _ (by simp))
      · exact LamX.TabS.nil (hT _ (by simp))

