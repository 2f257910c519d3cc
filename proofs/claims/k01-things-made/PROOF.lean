import PyProof.Rows.All
import Wide.All
import OpenK.AllK
import Wide.FinOn
import HandS.Head0
import HandS.Head1
import HandS.Head2
import PySem.Challenge.RW_meettasks_k01_things_made
import HandS.ForMost
import HandS.IsInst
import HandS.TupAny
import HandS.Flow
import HandS.ExcInit
import HandS.ExcIs
import HandS.ExcField
import HandS.ExcValue
import HandS.MakeKw
import HandS.MakeKwOnly
import KE.KExcIs
import HandS.Nested
import HandS.EndTab
import HandS.DeepEq
import PyProof.ReprRoads
import PyProof.ReprDict
import HandS.Words
import HandS.WordsExc
import HandS.WordsList
import HandS.TryMany
import HandS.Walk
import HandS.DictComp
import HandS.Star
import HandS.Conv
import HandS.TryOnly
import HandS.Defaults
import HandS.HeadHook1
import HandS.HeadHook2
import KE.GoesEnum
import KE.KDictSum
import HandS.More
import HandS.Codes
import KE.KDictPairs
import KE.KDictWalk
import KE.KeyNested
import KE.KTab
import HandS.OwnEq
import HandS.ListItems
import KE.KDictCopyH
import HandS.Style
import HandS.Finally
set_option Elab.async false
set_option linter.all false
set_option maxRecDepth 100000
set_option maxHeartbeats 0
/-! HG: the top in pieces whose states are written out; each piece is one kernel run. -/
noncomputable section
namespace HG
open PySem PySem.W PySem.Calls PyProof.Rows HandSHeadRun
section
variable (st : SharedT → Thread → Option (SharedT × Thread)) (m0 : Nat) (ann : Option Value)
/-- so many steps, none of them the end -/
def steps : Nat → SharedT → Thread → Option (SharedT × Thread)
  | 0, s, t => some (s, t)
  | k + 1, s, t => bif through t then none else bif stepOk m0 ann t then (match st s t with
      | none => none
      | some x => frS x.1 fun u => steps k u x.2) else none
/-- to the end of a block -/
def block : Nat → SharedT → Thread → Option (Flow × SharedT × Code × Pos)
  | 0, _, _ => none
  | k + 1, s, t => match endAt 1 t with
    | some f => some (f, s, t.code, t.pos)
    | none => bif stepOk m0 ann t then (match st s t with
      | none => none
      | some x => frS x.1 fun u => block k u x.2) else none
end
section
variable {tb : String → Option Builtin} {p : Program} {w : World} {m0 : Nat} {ann : Option Value}
theorem steps_ok {s' : SharedT} {t' : Thread} : ∀ {k : Nat} {s : SharedT} {t : Thread}, steps (stepT (denote tb) p w) m0 ann k s t = some (s', t') → topGo tb p w m0 ann k s.abs t = some (s'.abs, t') := by
  intro k
  induction k with
  | zero =>
    intro s t h
    cases h
    rfl
  | succ k ih =>
    intro s t h
    rw [steps] at h
    rw [topGo]
    cases a : through t <;> rw [a] at h
    · cases b : stepOk m0 ann t <;> rw [b] at h
      · cases h
      · cases c : stepT (denote tb) p w s t with
        | none =>
          rw [c] at h
          cases h
        | some x =>
          obtain ⟨x1, x2⟩ := x
          rw [c] at h
          have h' : frS x1 (fun u => steps (stepT (denote tb) p w) m0 ann k u x2) = some (s', t') := h
          rw [frS_eq] at h'
          have z := ih h'
          simp only [stepT_spec c]
          exact z
    · cases h
theorem block_ok {r : Flow × SharedT × Code × Pos} : ∀ {k : Nat} {s : SharedT} {t : Thread}, block (stepT (denote tb) p w) m0 ann k s t = some r → segRunT tb p w m0 ann 1 k s t = some r := by
  intro k
  induction k with
  | zero =>
    intro s t h
    cases h
  | succ k ih =>
    intro s t h
    rw [block] at h
    rw [segRunT]
    cases a : endAt 1 t with
    | some f =>
      rw [a] at h
      exact h
    | none =>
      rw [a] at h
      have h : (bif stepOk m0 ann t then (match stepT (denote tb) p w s t with
        | none => none
        | some x => frS x.1 fun u => block (stepT (denote tb) p w) m0 ann k u x.2) else none) = some r := h
      cases b : stepOk m0 ann t <;> rw [b] at h
      · cases h
      · cases c : stepT (denote tb) p w s t with
        | none =>
          rw [c] at h
          cases h
        | some x =>
          obtain ⟨x1, x2⟩ := x
          rw [c] at h
          have h' : frS x1 (fun u => block (stepT (denote tb) p w) m0 ann k u x2) = some r := h
          rw [frS_eq] at h'
          exact ih h'
end
def exQ : List Stmt → Env → Sem Flow := PySem.W.Fast.tw12563942051412417395
theorem exQ_eq : @PySem.execs = exQ := PySem.W.Fast.te12563942051412417395
/-- the first steps, from the boot -/
def first (st : SharedT → Thread → Option (SharedT × Thread)) (k : Nat) (p : Program) (w : World) (os : OsState) : Option (SharedT × Thread) := match putAll (boot_heap w.params).objs.toList .nil 0 with
  | none => none
  | some x => frNat x.2 fun n => steps st n (bootAnn w) k (bootT w os (x.1, n)) (topStub p)
abbrev bootS (w : World) (os : OsState) : Shared := ⟨boot_heap w.params, #[], boot_drawn, boot_toks, os⟩
theorem size_boot (w : World) : (boot_heap w.params).objs.size = 11 := by kernel_rfl
theorem ann_boot (w : World) : bootAnn w = some (.ref 6) := by kernel_rfl
abbrev an6 : Option Value := some (.ref 6)
theorem first_ok {k : Nat} {p : Program} {w : World} {os : OsState} {s : SharedT} {t : Thread} (h : first (stepQ (denQ tabQ) p w) k p w os = some (s, t)) : topGo treeTable p w 11 an6 k (bootS w os) (topStub p) = some (s.abs, t) := by
  rw [← stepQ_eq, ← denQ_eq, ← tabQ_eq] at h
  unfold first at h
  cases e : putAll (boot_heap w.params).objs.toList .nil 0 with
  | none =>
    rw [e] at h
    cases h
  | some x =>
    obtain ⟨T, n⟩ := x
    rw [e] at h
    have h : (frNat n fun n => steps (stepT (denote treeTable) p w) n (bootAnn w) k (bootT w os (T, n)) (topStub p)) = some (s, t) := h
    rw [frNat_eq] at h
    have z := steps_ok h
    have hh := putAll_heap e
    have hn : n = 11 := by
      rw [← size_boot w, ← hh]
      exact (absHeap_size T n _).symm
    rw [ann_boot, hn] at z
    subst hn
    have zz : (bootT w os (T, 11)).abs = bootS w os := congrArg (fun y => (⟨y, #[], boot_drawn, boot_toks, os⟩ : Shared)) hh
    rw [zz] at z
    exact z
section
variable {p : Program} {w : World} {env : Env} {q : Pos}
/-- a piece, and what follows -/
theorem piece {k N : Nat} {s s' : SharedT} {r : Shared} {l rest : List Stmt} {c : Code} {a b : Pos} (h : block (stepQ (denQ tabQ) p w) 11 an6 k s ⟨(exQ l env).wrap doneF deadEnd id id, c, a, [topFrame q]⟩ = some (.next, s', c, b))
    (z : topRun treeTable p w 11 an6 N s'.abs (restOf rest env c b [topFrame q]) = some r) : topRun treeTable p w 11 an6 (k + N) s.abs (restOf (l ++ rest) env c a [topFrame q]) = some r := by
  rw [← stepQ_eq, ← denQ_eq, ← tabQ_eq, ← exQ_eq] at h
  exact piece_app (segRun_of (block_ok h)) z
/-- behind the last piece -/
theorem last {k : Nat} {s s' : SharedT} {c : Code} {a : Pos} (h : goF (stepQ (denQ tabQ) p w) 11 an6 k s ⟨doneF .next, c, a, [topFrame q]⟩ = some s') : topRun treeTable p w 11 an6 k s.abs (restOf [] env c a [topFrame q]) = some s'.abs := by
  rw [← stepQ_eq, ← denQ_eq, ← tabQ_eq] at h
  exact goF_ok h
/-- the first steps, the block's begin, and what follows -/
theorem begin_ {k N : Nat} {os : OsState} {s : SharedT} {r : Shared} {b : List Stmt} {c : Code} {a : Pos} (h : first (stepQ (denQ tabQ) p w) k p w os = some (s, ⟨denQ tabQ (.body b env), c, a, [topFrame q]⟩))
    (hb : block (stepQ (denQ tabQ) p w) 11 an6 1 s ⟨(PySem.W.Fast.tw1066825118222455980 b env).wrap (fun _ => doneF .next) deadEnd id id, c, a, [topFrame q]⟩ = some (.next, s, c, a))
    (z : topRun treeTable p w 11 an6 N s.abs (restOf b env c a [topFrame q]) = some r) : topRun treeTable p w 11 an6 (k + (1 + N)) (bootS w os) (topStub p) = some r := by
  have h1 := first_ok h
  rw [← denQ_eq, ← tabQ_eq] at h1
  rw [← stepQ_eq, ← denQ_eq, ← tabQ_eq, ← PySem.W.Fast.te1066825118222455980] at hb
  exact go_top h1 (piece_block (segRun_of (block_ok hb)) z)
end
/-- what the top leaves, of a written state -/
theorem left {p q : Program} {loose : List PySem.Str} {Xt : Shared → Bool} {α : Type} {Yf : Shared → α} {Ya : World → α} {N M n k : Nat} {T : Params → BT} {life : Life} {d : Drawn} (e : opening p = plainProg p.main.scope.names) (hN : Nat.ble 600 N = true) (f : ∀ s, fenceModules? p s = some s)
    (run : ∀ (w : World) (os : OsState), topRun treeTable p w 11 an6 M (bootS w os) (topStub p) = some (SharedT.abs ⟨T w.params, n, life, #[], d, k, os⟩)) (le : Nat.ble M N = true)
    (l1 : ∀ (w : World) (os : OsState), looksF p (boot_heap w.params) (SharedT.abs ⟨T w.params, n, life, #[], d, k, os⟩) = true)
    (l2 : ∀ (w : World) (os : OsState), seenQ q loose (importedModules p.main.body) Xt (SharedT.abs ⟨T w.params, n, life, #[], d, k, os⟩) = openGood q loose)
    (l3 : ∀ (w : World) (os : OsState), Yf (SharedT.abs ⟨T w.params, n, life, #[], d, k, os⟩) = Ya w) : LeftO p q loose Xt Yf Ya N true := by
  refine LeftO.of_pieces (H₀ := boot_heap) (H₁ := fun P => absHeap (T P) n life) (gs₀ := #[]) (gs₁ := #[]) (d₀ := boot_drawn) (d₁ := d) (k₀ := boot_toks) (k₁ := k) (m₀ := 11) (ann := an6) (M := M) (boot_open e hN f) (fun w => ?_) run le fun w => funext fun os => ?_
  · have a := size_boot w
    have b := ann_boot w
    unfold bootAnn at b
    rw [a, b, boot_ns]
    rfl
  · have a := l1 w os
    have b := l2 w os
    rw [← seenQ_eq] at b
    exact Prod.ext a (Prod.ext b (l3 w os))
end HG

end
/-! HF: a law by a head in written-out pieces. -/
noncomputable section
namespace HG
open PySem PySem.W PySem.Calls PyProof.Rows HandSHeadRun
theorem head {r : OpenRow} {q : Program} {H : Hook} {M n k : Nat} {T : Params → BT} {life : Life} {dr : Drawn} {loose : List PySem.Str} {d : DefRec} {kwd : List (PySem.Str × PySem.Expr)}
    (e : opening r.prog = plainProg r.prog.main.scope.names) (f : ∀ s, fenceModules? r.prog s = some s)
    (run : ∀ (w : World) (os : OsState), topRun treeTable r.prog w 11 an6 M (bootS w os) (topStub r.prog) = some (SharedT.abs ⟨T w.params, n, life, #[], dr, k, os⟩))
    (l1 : ∀ (w : World) (os : OsState), looksF r.prog (boot_heap w.params) (SharedT.abs ⟨T w.params, n, life, #[], dr, k, os⟩) = true)
    (l2 : ∀ (w : World) (os : OsState), seenQ q loose (importedModules r.prog.main.body) (fun s => xlAt q [] s && recOk r.toRowW.records s) (SharedT.abs ⟨T w.params, n, life, #[], dr, k, os⟩) = openGood q loose)
    (l3 : ∀ (w : World) (os : OsState), H.obs (SharedT.abs ⟨T w.params, n, life, #[], dr, k, os⟩) = H.val w)
    (h1 : defOf q r.name = some (d, kwd)) (h2 : r.prog.theDef r.name = some (d.params, d.body, d.scope)) (h3 : kwWritten? d.params.kwonlyargs d.params.kw_defaults = some kwd)
    (h4 : (!r.writes || r.records.isEmpty) = true) (h5 : r.wellSaid = true) (h6 : (chainsOk q && opensWell r.prog && (frees r.toRowW && r.within.isEmpty)) = true) (h7 : r.prog.bare) (h8 : r.toRowW.promised)
    (call : WalkO q loose (XL q []) H.says r.toRowW d kwd fun f vs => PySem.call f vs) : r.Holds := by
  have L : LeftO r.prog q loose (fun s => xlAt q [] s && recOk r.toRowW.records s) H.obs H.val (M + 600) true :=
    left (M := M) e (Nat.ble_eq_true_of_le (Nat.le_add_left 600 M)) f run (Nat.ble_eq_true_of_le (Nat.le_add_right M 600)) l1 l2 l3
  exact holds_open (XP := XL q []) (YP := H.says) L H.of H.keeps (fun s z => xl_of s (Bool.and_eq_true_iff.mp z).1) XL.keeps h1 h2 h3 (fun s z => recFacts_of (Bool.and_eq_true_iff.mp z).2) h4 h5 h6 h7 h8 call
end HG

end
noncomputable section
namespace K01H
open PySem PySem.W PySem.Calls PyProof.Rows HandSHeadRun
abbrev Pg : Program := (OpenLaw.row PySem.Challenge.rw_meettasks_k01_things_made).prog
abbrev S : String → PySem.Str := PySem.Str.ofString
abbrev N : Obj → BT → BT → BT := BT.node
abbrev e : BT := BT.nil
abbrev E (P : Params) (x : String) (t : Nat) (v : Value) : DictEntry := ⟨PySem.PyData.keyHash P (S x), .str (S x) t, v⟩
def dT (i : Nat) : DefRec := topDef Pg i
def dM (i j : Nat) : DefRec := match Pg.main.body[i]? with
  | some (.ClassDef _ _ _ b _ _ _ _ _ _ _) => (match b[j]? with
    | some (.FunctionDef n a c _ _ _ sc _ _ ps) => ⟨n, a, c, sc, ps⟩
    | _ => topDef Pg i)
  | _ => topDef Pg i
def o0 (P : Params) : Obj := ⟨(.type "tuple"), none, (.seq #[] 0), #[]⟩
def o1 (P : Params) : Obj := ⟨.none, none, (.fields #[]), #[]⟩
def o2 (P : Params) : Obj := ⟨(.type "code"), none, (.fields #[(.str (S "<module>") 182), (.str (S "<module>") 183), (.str (S "/claim/cut.py") 184), (.int 1 0), (.int 0 0), (.int 0 0), (.int 0 0), (.int 0 0), (.ref 11), (.bool false), (.int 181 0), (.ref 12), .none, .none, .none, .none, (.int 185 0), (.int 1 0), (.str (S "/claim/cut.py") 186)]), #[]⟩
def o3 (P : Params) : Obj := ⟨(.type "frame"), none, .plain, #[(some (.ref 13)), (some (.ref 3)), (some (.ref 3)), none, (some (.str (S "__main__") 164)), none, (some (.ref 0))]⟩
def Ta (P : Params) : BT := (N (boot_o_0 P) (N (boot_o_1 P) (N (boot_o_3 P) (N (boot_o_7 P) e e) (N (o0 P) e e)) (N (boot_o_5 P) (N (boot_o_9 P) e e) (N (o2 P) e e))) (N (boot_o_2 P) (N (boot_o_4 P) (N (boot_o_8 P) e e) (N (o1 P) e e)) (N (boot_o_6 P) (N (boot_o_10 P) e e) (N (o3 P) e e))))
def Sa (w : World) (os : OsState) : SharedT := ⟨Ta w.params, 15, ⟨[], [], [], 0, [], [], false, #[], [], 0, false, false, false, 0, [2000, 10, 10], false, 0, true, [], [], 0, false⟩, #[], ⟨0, 0, 0, 0⟩, 187, os⟩
def posa : Pos := ⟨0, 0, 0, 0⟩
def Tb (P : Params) : BT := (N (boot_o_0 P) (N (boot_o_1 P) (N (boot_o_3 P) (N (boot_o_7 P) e e) (N (o0 P) e e)) (N (boot_o_5 P) (N (boot_o_9 P) e e) (N (o2 P) e e))) (N (boot_o_2 P) (N (boot_o_4 P) (N (boot_o_8 P) e e) (N (o1 P) e e)) (N (boot_o_6 P) (N (boot_o_10 P) e e) (N (o3 P) e e))))
def Sb (w : World) (os : OsState) : SharedT := ⟨Tb w.params, 15, ⟨[], [], [], 0, [], [], false, #[], [], 0, false, false, false, 0, [2000, 10, 10], false, 0, true, [], [], 0, false⟩, #[], ⟨0, 0, 0, 0⟩, 187, os⟩
def posb : Pos := ⟨0, 0, 0, 0⟩
def o4 (P : Params) : Obj := ⟨(.type "dict"), none, (.dict #[E P "__name__" 165 (.str (S "law_meettasks_k01_things_made") 436), E P "__doc__" 166 .none, E P "__package__" 167 .none, E P "__loader__" 168 (.builtin "__main__.__loader__#opaque"), E P "__spec__" 169 .none, E P "__annotations__" 170 (.ref 6), E P "__builtins__" 171 (.ref 4), E P "__file__" 173 (.str (S "/claim/cut.py") 172), E P "__cached__" 174 .none, E P "LETTERS" 190 (.str (S "abcdefghijklmnopqrstuvwxyz") 189), E P "is_list" 197 (.ref 21), E P "is_word" 203 (.ref 26), E P "first_bad_word" 214 (.ref 33), E P "TaskError" 234 (.ref 43), E P "BadValues" 259 (.ref 63), E P "BadStart" 284 (.ref 82), E P "BadDeeds" 309 (.ref 101), E P "BadEntries" 334 (.ref 120), E P "is_lead" 346 (.ref 129), E P "first_wrong" 357 (.ref 136), E P "ordered" 363 (.ref 141), E P "Thing" 435 (.ref 189), E P "_law_pool" 448 (.ref 200), E P "_law_take" 458 (.ref 207), E P "_law_one" 466 (.ref 214), E P "_law_mixed" 478 (.ref 221), E P "_law_met" 486 (.ref 228), E P "_law_leads" 492 (.ref 233), E P "_law_told" 498 (.ref 238), E P "_law_doors_right" 504 (.ref 243), E P "law" 510 (.ref 248)] 31), #[]⟩
def o5 (P : Params) : Obj := ⟨.none, none, (.fields #[(.int 3 0), (.int 0 0), (.ref 20), (.int 5 0), (.int 0 0), (.ref 25), (.int 7 0), (.int 0 0), (.ref 32), (.int 17 0), (.int 0 0), (.ref 39), (.int 19 0), (.int 0 0), (.ref 52), (.int 23 0), (.int 0 0), (.ref 71), (.int 27 0), (.int 0 0), (.ref 90), (.int 31 0), (.int 0 0), (.ref 109), (.int 36 0), (.int 0 0), (.ref 128), (.int 43 0), (.int 0 0), (.ref 135), (.int 50 0), (.int 0 0), (.ref 140), (.int 52 0), (.int 0 0), (.ref 147), (.int 86 0), (.int 0 0), (.ref 199), (.int 92 0), (.int 0 0), (.ref 206), (.int 100 0), (.int 0 0), (.ref 213), (.int 102 0), (.int 0 0), (.ref 220), (.int 109 0), (.int 0 0), (.ref 227), (.int 120 0), (.int 0 0), (.ref 232), (.int 127 0), (.int 0 0), (.ref 237), (.int 129 0), (.int 0 0), (.ref 242), (.int 157 0), (.int 0 0), (.ref 247)]), #[]⟩
def o6 (P : Params) : Obj := ⟨(.type "tuple"), none, (.seq #[] 0), #[]⟩
def o7 (P : Params) : Obj := ⟨.none, none, (.fields #[]), #[]⟩
def o8 (P : Params) : Obj := ⟨(.type "tuple"), none, (.seq #[(.str (S "thing") 194)] 0), #[]⟩
def o9 (P : Params) : Obj := ⟨(.type "tuple"), none, (.seq #[] 0), #[]⟩
def o10 (P : Params) : Obj := ⟨.none, none, (.func ⟨(S "is_list"), (S "is_list"), (dT 2).params, .stmts (dT 2).body, (dT 2).scope, 0, [], .none, .none, .none, .none, none, .none, .none, 0⟩), #[]⟩
def o11 (P : Params) : Obj := ⟨(.type "code"), none, (.fields #[(.str (S "is_list") 191), (.str (S "is_list") 192), (.str (S "/claim/cut.py") 193), (.int 3 0), (.int 1 0), (.int 0 0), (.int 0 0), (.int 3 0), (.ref 15), (.bool true), (.int 181 0), (.ref 16), .none, (.ref 17), (.ref 18), (.ref 19), (.int 195 0), (.int 3 0), (.str (S "/claim/cut.py") 196)]), #[]⟩
def o12 (P : Params) : Obj := ⟨(.type "function"), none, (.func ⟨(S "is_list"), (S "is_list"), (dT 2).params, .stmts (dT 2).body, (dT 2).scope, 3, [], .none, .none, .none, (.str (S "meettasks.basics") 187), none, (.ref 20), .none, 0⟩), #[]⟩
def o13 (P : Params) : Obj := ⟨(.type "tuple"), none, (.seq #[] 0), #[]⟩
def o14 (P : Params) : Obj := ⟨.none, none, (.fields #[]), #[]⟩
def o15 (P : Params) : Obj := ⟨.none, none, (.func ⟨(S "is_word"), (S "is_word"), (dT 3).params, .stmts (dT 3).body, (dT 3).scope, 0, [], .none, .none, .none, .none, none, .none, .none, 0⟩), #[]⟩
def o16 (P : Params) : Obj := ⟨(.type "code"), none, (.fields #[(.str (S "is_word") 198), (.str (S "is_word") 199), (.str (S "/claim/cut.py") 200), (.int 5 0), (.int 1 0), (.int 0 0), (.int 0 0), (.int 3 0), (.ref 22), (.bool true), (.int 181 0), (.ref 23), .none, .none, .none, (.ref 24), (.int 201 0), (.int 5 0), (.str (S "/claim/cut.py") 202)]), #[]⟩
def o17 (P : Params) : Obj := ⟨(.type "function"), none, (.func ⟨(S "is_word"), (S "is_word"), (dT 3).params, .stmts (dT 3).body, (dT 3).scope, 3, [], .none, .none, .none, (.str (S "meettasks.basics") 187), none, (.ref 25), .none, 0⟩), #[]⟩
def o18 (P : Params) : Obj := ⟨(.type "tuple"), none, (.seq #[] 0), #[]⟩
def o19 (P : Params) : Obj := ⟨.none, none, (.fields #[]), #[]⟩
def o20 (P : Params) : Obj := ⟨(.type "tuple"), none, (.seq #[(.str (S "things") 207), (.str (S "barred") 208), (.str (S "met") 209), (.str (S "index") 210), (.str (S "thing") 211)] 0), #[]⟩
def o21 (P : Params) : Obj := ⟨(.type "tuple"), none, (.seq #[] 0), #[]⟩
def o22 (P : Params) : Obj := ⟨.none, none, (.func ⟨(S "first_bad_word"), (S "first_bad_word"), (dT 4).params, .stmts (dT 4).body, (dT 4).scope, 0, [], .none, .none, .none, .none, none, .none, .none, 0⟩), #[]⟩
def o23 (P : Params) : Obj := ⟨(.type "code"), none, (.fields #[(.str (S "first_bad_word") 204), (.str (S "first_bad_word") 205), (.str (S "/claim/cut.py") 206), (.int 7 0), (.int 2 0), (.int 0 0), (.int 0 0), (.int 3 0), (.ref 27), (.bool true), (.int 181 0), (.ref 28), .none, (.ref 29), (.ref 30), (.ref 31), (.int 212 0), (.int 7 0), (.str (S "/claim/cut.py") 213)]), #[]⟩
def o24 (P : Params) : Obj := ⟨(.type "function"), none, (.func ⟨(S "first_bad_word"), (S "first_bad_word"), (dT 4).params, .stmts (dT 4).body, (dT 4).scope, 3, [], .none, .none, .none, (.str (S "meettasks.basics") 187), none, (.ref 32), .none, 0⟩), #[]⟩
def o25 (P : Params) : Obj := ⟨(.type "tuple"), none, (.seq #[(.type "ValueError")] 0), #[]⟩
def o26 (P : Params) : Obj := ⟨(.type "builtin_function_or_method"), none, (.fields #[(.builtin "type.__prepare__"), (.type "type")]), #[]⟩
def o27 (P : Params) : Obj := ⟨(.type "dict"), none, (.dict #[E P "__module__" 224 (.str (S "meettasks.errors") 215), E P "__qualname__" 226 (.str (S "TaskError") 225), E P "__firstlineno__" 228 (.int 17 227), E P "__static_attributes__" 229 (.ref 41)] 4), #[]⟩
def o28 (P : Params) : Obj := ⟨(.type "tuple"), none, (.seq #[] 0), #[]⟩
def o29 (P : Params) : Obj := ⟨.none, none, (.fields #[]), #[]⟩
def o30 (P : Params) : Obj := ⟨(.type "code"), none, (.fields #[(.str (S "TaskError") 219), (.str (S "TaskError") 220), (.str (S "/claim/cut.py") 221), (.int 17 0), (.int 0 0), (.int 0 0), (.int 0 0), (.int 0 0), (.ref 37), (.bool false), (.int 181 0), (.ref 38), .none, .none, .none, .none, (.int 222 0), (.int 17 0), (.str (S "/claim/cut.py") 223)]), #[]⟩
def o31 (P : Params) : Obj := ⟨(.type "frame"), none, .plain, #[(some (.ref 39)), (some (.ref 3)), (some (.ref 36)), none, (some (.str (S "meettasks.errors") 215)), none, (some (.ref 0))]⟩
def o32 (P : Params) : Obj := ⟨(.type "tuple"), none, (.seq #[] 0), #[]⟩
def o33 (P : Params) : Obj := ⟨(.type "dict"), none, (.dict #[E P "__module__" 224 (.str (S "meettasks.errors") 215), E P "__firstlineno__" 228 (.int 17 227), E P "__static_attributes__" 229 (.ref 41), E P "__weakref__" 231 (.ref 44), E P "__doc__" 232 .none] 3), #[]⟩
def o34 (P : Params) : Obj := ⟨(.type "type"), none, (.cls ⟨(S "TaskError"), [(.type "ValueError")], [(.ref 43), (.type "ValueError"), (.type "Exception"), (.type "BaseException"), (.type "object")], 42, (S "TaskError"), true, [], [(.ref 63), (.ref 82), (.ref 101), (.ref 120)], false, none, false⟩), #[(some (.ref 34)), none, (some (.str (S "TaskError") 217)), (some (.str (S "TaskError") 225)), (some (.builtin "ValueError.__new__")), (some (.bool true))]⟩
def o35 (P : Params) : Obj := ⟨(.type "getset_descriptor"), none, (.fields #[(.str (S "__weakref__") 230), (.ref 43), (.builtin "ExceptionGroup.__weakref__"), .none]), #[]⟩
def o36 (P : Params) : Obj := ⟨(.type "super"), none, (.fields #[(.ref 43), (.ref 43), (.ref 43)]), #[]⟩
def o37 (P : Params) : Obj := ⟨(.type "builtin_function_or_method"), none, (.fields #[(.builtin "object.__init_subclass__"), (.ref 43)]), #[]⟩
def o38 (P : Params) : Obj := ⟨(.type "tuple"), none, (.seq #[(.ref 43)] 0), #[]⟩
def o39 (P : Params) : Obj := ⟨(.type "builtin_function_or_method"), none, (.fields #[(.builtin "type.__prepare__"), (.type "type")]), #[]⟩
def o40 (P : Params) : Obj := ⟨(.type "dict"), none, (.dict #[E P "__module__" 242 (.str (S "meettasks.errors") 215), E P "__qualname__" 244 (.str (S "BadValues") 243), E P "__firstlineno__" 246 (.int 19 245), E P "__init__" 254 (.ref 60), E P "__static_attributes__" 256 (.ref 61)] 5), #[]⟩
def o41 (P : Params) : Obj := ⟨(.type "tuple"), none, (.seq #[] 0), #[]⟩
def o42 (P : Params) : Obj := ⟨.none, none, (.fields #[(.int 21 0), (.int 4 0), (.ref 59)]), #[]⟩
def o43 (P : Params) : Obj := ⟨(.type "code"), none, (.fields #[(.str (S "BadValues") 237), (.str (S "BadValues") 238), (.str (S "/claim/cut.py") 239), (.int 19 0), (.int 0 0), (.int 0 0), (.int 0 0), (.int 0 0), (.ref 50), (.bool false), (.int 181 0), (.ref 51), .none, .none, .none, .none, (.int 240 0), (.int 19 0), (.str (S "/claim/cut.py") 241)]), #[]⟩
def o44 (P : Params) : Obj := ⟨(.type "frame"), none, .plain, #[(some (.ref 52)), (some (.ref 3)), (some (.ref 49)), none, (some (.str (S "meettasks.errors") 215)), none, (some (.ref 0))]⟩
def o45 (P : Params) : Obj := ⟨(.type "tuple"), none, (.seq #[] 0), #[]⟩
def o46 (P : Params) : Obj := ⟨.none, none, (.fields #[]), #[]⟩
def o47 (P : Params) : Obj := ⟨(.type "tuple"), none, (.seq #[(.str (S "self") 250), (.str (S "index") 251)] 0), #[]⟩
def o48 (P : Params) : Obj := ⟨(.type "tuple"), none, (.seq #[] 0), #[]⟩
def o49 (P : Params) : Obj := ⟨.none, none, (.func ⟨(S "__init__"), (S "BadValues.__init__"), (dM 7 0).params, .stmts (dM 7 0).body, (dM 7 0).scope, 0, [], .none, .none, .none, .none, none, .none, .none, 0⟩), #[]⟩
def o50 (P : Params) : Obj := ⟨(.type "code"), none, (.fields #[(.str (S "__init__") 247), (.str (S "BadValues.__init__") 248), (.str (S "/claim/cut.py") 249), (.int 21 0), (.int 2 0), (.int 0 0), (.int 0 0), (.int 3 0), (.ref 54), (.bool true), (.int 181 0), (.ref 55), .none, (.ref 56), (.ref 57), (.ref 58), (.int 252 0), (.int 21 0), (.str (S "/claim/cut.py") 253)]), #[]⟩
def o51 (P : Params) : Obj := ⟨(.type "function"), none, (.func ⟨(S "__init__"), (S "BadValues.__init__"), (dM 7 0).params, .stmts (dM 7 0).body, (dM 7 0).scope, 3, [], .none, .none, .none, (.str (S "meettasks.errors") 215), none, (.ref 59), .none, 0⟩), #[]⟩
def o52 (P : Params) : Obj := ⟨(.type "tuple"), none, (.seq #[(.str (S "index") 255)] 0), #[]⟩
def o53 (P : Params) : Obj := ⟨(.type "dict"), none, (.dict #[E P "__module__" 242 (.str (S "meettasks.errors") 215), E P "__firstlineno__" 246 (.int 19 245), E P "__init__" 254 (.ref 60), E P "__static_attributes__" 256 (.ref 61), E P "__doc__" 257 .none] 2), #[]⟩
def o54 (P : Params) : Obj := ⟨(.type "type"), none, (.cls ⟨(S "BadValues"), [(.ref 43)], [(.ref 63), (.ref 43), (.type "ValueError"), (.type "Exception"), (.type "BaseException"), (.type "object")], 62, (S "BadValues"), true, [], [], false, none, false⟩), #[(some (.ref 47)), none, (some (.str (S "BadValues") 235)), (some (.str (S "BadValues") 243)), (some (.builtin "ValueError.__new__")), (some (.bool true))]⟩
def o55 (P : Params) : Obj := ⟨(.type "super"), none, (.fields #[(.ref 63), (.ref 63), (.ref 63)]), #[]⟩
def o56 (P : Params) : Obj := ⟨(.type "builtin_function_or_method"), none, (.fields #[(.builtin "object.__init_subclass__"), (.ref 63)]), #[]⟩
def o57 (P : Params) : Obj := ⟨(.type "tuple"), none, (.seq #[(.ref 43)] 0), #[]⟩
def o58 (P : Params) : Obj := ⟨(.type "builtin_function_or_method"), none, (.fields #[(.builtin "type.__prepare__"), (.type "type")]), #[]⟩
def o59 (P : Params) : Obj := ⟨(.type "dict"), none, (.dict #[E P "__module__" 267 (.str (S "meettasks.errors") 215), E P "__qualname__" 269 (.str (S "BadStart") 268), E P "__firstlineno__" 271 (.int 23 270), E P "__init__" 279 (.ref 79), E P "__static_attributes__" 281 (.ref 80)] 5), #[]⟩
def o60 (P : Params) : Obj := ⟨(.type "tuple"), none, (.seq #[] 0), #[]⟩
def o61 (P : Params) : Obj := ⟨.none, none, (.fields #[(.int 25 0), (.int 4 0), (.ref 78)]), #[]⟩
def o62 (P : Params) : Obj := ⟨(.type "code"), none, (.fields #[(.str (S "BadStart") 262), (.str (S "BadStart") 263), (.str (S "/claim/cut.py") 264), (.int 23 0), (.int 0 0), (.int 0 0), (.int 0 0), (.int 0 0), (.ref 69), (.bool false), (.int 181 0), (.ref 70), .none, .none, .none, .none, (.int 265 0), (.int 23 0), (.str (S "/claim/cut.py") 266)]), #[]⟩
def o63 (P : Params) : Obj := ⟨(.type "frame"), none, .plain, #[(some (.ref 71)), (some (.ref 3)), (some (.ref 68)), none, (some (.str (S "meettasks.errors") 215)), none, (some (.ref 0))]⟩
def o64 (P : Params) : Obj := ⟨(.type "tuple"), none, (.seq #[] 0), #[]⟩
def o65 (P : Params) : Obj := ⟨.none, none, (.fields #[]), #[]⟩
def o66 (P : Params) : Obj := ⟨(.type "tuple"), none, (.seq #[(.str (S "self") 275), (.str (S "thing") 276)] 0), #[]⟩
def o67 (P : Params) : Obj := ⟨(.type "tuple"), none, (.seq #[] 0), #[]⟩
def o68 (P : Params) : Obj := ⟨.none, none, (.func ⟨(S "__init__"), (S "BadStart.__init__"), (dM 8 0).params, .stmts (dM 8 0).body, (dM 8 0).scope, 0, [], .none, .none, .none, .none, none, .none, .none, 0⟩), #[]⟩
def o69 (P : Params) : Obj := ⟨(.type "code"), none, (.fields #[(.str (S "__init__") 272), (.str (S "BadStart.__init__") 273), (.str (S "/claim/cut.py") 274), (.int 25 0), (.int 2 0), (.int 0 0), (.int 0 0), (.int 3 0), (.ref 73), (.bool true), (.int 181 0), (.ref 74), .none, (.ref 75), (.ref 76), (.ref 77), (.int 277 0), (.int 25 0), (.str (S "/claim/cut.py") 278)]), #[]⟩
def o70 (P : Params) : Obj := ⟨(.type "function"), none, (.func ⟨(S "__init__"), (S "BadStart.__init__"), (dM 8 0).params, .stmts (dM 8 0).body, (dM 8 0).scope, 3, [], .none, .none, .none, (.str (S "meettasks.errors") 215), none, (.ref 78), .none, 0⟩), #[]⟩
def o71 (P : Params) : Obj := ⟨(.type "tuple"), none, (.seq #[(.str (S "thing") 280)] 0), #[]⟩
def o72 (P : Params) : Obj := ⟨(.type "dict"), none, (.dict #[E P "__module__" 267 (.str (S "meettasks.errors") 215), E P "__firstlineno__" 271 (.int 23 270), E P "__init__" 279 (.ref 79), E P "__static_attributes__" 281 (.ref 80), E P "__doc__" 282 .none] 2), #[]⟩
def o73 (P : Params) : Obj := ⟨(.type "type"), none, (.cls ⟨(S "BadStart"), [(.ref 43)], [(.ref 82), (.ref 43), (.type "ValueError"), (.type "Exception"), (.type "BaseException"), (.type "object")], 81, (S "BadStart"), true, [], [], false, none, false⟩), #[(some (.ref 66)), none, (some (.str (S "BadStart") 260)), (some (.str (S "BadStart") 268)), (some (.builtin "ValueError.__new__")), (some (.bool true))]⟩
def o74 (P : Params) : Obj := ⟨(.type "super"), none, (.fields #[(.ref 82), (.ref 82), (.ref 82)]), #[]⟩
def o75 (P : Params) : Obj := ⟨(.type "builtin_function_or_method"), none, (.fields #[(.builtin "object.__init_subclass__"), (.ref 82)]), #[]⟩
def o76 (P : Params) : Obj := ⟨(.type "tuple"), none, (.seq #[(.ref 43)] 0), #[]⟩
def o77 (P : Params) : Obj := ⟨(.type "builtin_function_or_method"), none, (.fields #[(.builtin "type.__prepare__"), (.type "type")]), #[]⟩
def o78 (P : Params) : Obj := ⟨(.type "dict"), none, (.dict #[E P "__module__" 292 (.str (S "meettasks.errors") 215), E P "__qualname__" 294 (.str (S "BadDeeds") 293), E P "__firstlineno__" 296 (.int 27 295), E P "__init__" 304 (.ref 98), E P "__static_attributes__" 306 (.ref 99)] 5), #[]⟩
def o79 (P : Params) : Obj := ⟨(.type "tuple"), none, (.seq #[] 0), #[]⟩
def o80 (P : Params) : Obj := ⟨.none, none, (.fields #[(.int 29 0), (.int 4 0), (.ref 97)]), #[]⟩
def o81 (P : Params) : Obj := ⟨(.type "code"), none, (.fields #[(.str (S "BadDeeds") 287), (.str (S "BadDeeds") 288), (.str (S "/claim/cut.py") 289), (.int 27 0), (.int 0 0), (.int 0 0), (.int 0 0), (.int 0 0), (.ref 88), (.bool false), (.int 181 0), (.ref 89), .none, .none, .none, .none, (.int 290 0), (.int 27 0), (.str (S "/claim/cut.py") 291)]), #[]⟩
def o82 (P : Params) : Obj := ⟨(.type "frame"), none, .plain, #[(some (.ref 90)), (some (.ref 3)), (some (.ref 87)), none, (some (.str (S "meettasks.errors") 215)), none, (some (.ref 0))]⟩
def o83 (P : Params) : Obj := ⟨(.type "tuple"), none, (.seq #[] 0), #[]⟩
def o84 (P : Params) : Obj := ⟨.none, none, (.fields #[]), #[]⟩
def o85 (P : Params) : Obj := ⟨(.type "tuple"), none, (.seq #[(.str (S "self") 300), (.str (S "name") 301)] 0), #[]⟩
def o86 (P : Params) : Obj := ⟨(.type "tuple"), none, (.seq #[] 0), #[]⟩
def o87 (P : Params) : Obj := ⟨.none, none, (.func ⟨(S "__init__"), (S "BadDeeds.__init__"), (dM 9 0).params, .stmts (dM 9 0).body, (dM 9 0).scope, 0, [], .none, .none, .none, .none, none, .none, .none, 0⟩), #[]⟩
def o88 (P : Params) : Obj := ⟨(.type "code"), none, (.fields #[(.str (S "__init__") 297), (.str (S "BadDeeds.__init__") 298), (.str (S "/claim/cut.py") 299), (.int 29 0), (.int 2 0), (.int 0 0), (.int 0 0), (.int 3 0), (.ref 92), (.bool true), (.int 181 0), (.ref 93), .none, (.ref 94), (.ref 95), (.ref 96), (.int 302 0), (.int 29 0), (.str (S "/claim/cut.py") 303)]), #[]⟩
def o89 (P : Params) : Obj := ⟨(.type "function"), none, (.func ⟨(S "__init__"), (S "BadDeeds.__init__"), (dM 9 0).params, .stmts (dM 9 0).body, (dM 9 0).scope, 3, [], .none, .none, .none, (.str (S "meettasks.errors") 215), none, (.ref 97), .none, 0⟩), #[]⟩
def o90 (P : Params) : Obj := ⟨(.type "tuple"), none, (.seq #[(.str (S "name") 305)] 0), #[]⟩
def o91 (P : Params) : Obj := ⟨(.type "dict"), none, (.dict #[E P "__module__" 292 (.str (S "meettasks.errors") 215), E P "__firstlineno__" 296 (.int 27 295), E P "__init__" 304 (.ref 98), E P "__static_attributes__" 306 (.ref 99), E P "__doc__" 307 .none] 2), #[]⟩
def o92 (P : Params) : Obj := ⟨(.type "type"), none, (.cls ⟨(S "BadDeeds"), [(.ref 43)], [(.ref 101), (.ref 43), (.type "ValueError"), (.type "Exception"), (.type "BaseException"), (.type "object")], 100, (S "BadDeeds"), true, [], [], false, none, false⟩), #[(some (.ref 85)), none, (some (.str (S "BadDeeds") 285)), (some (.str (S "BadDeeds") 293)), (some (.builtin "ValueError.__new__")), (some (.bool true))]⟩
def o93 (P : Params) : Obj := ⟨(.type "super"), none, (.fields #[(.ref 101), (.ref 101), (.ref 101)]), #[]⟩
def o94 (P : Params) : Obj := ⟨(.type "builtin_function_or_method"), none, (.fields #[(.builtin "object.__init_subclass__"), (.ref 101)]), #[]⟩
def o95 (P : Params) : Obj := ⟨(.type "tuple"), none, (.seq #[(.ref 43)] 0), #[]⟩
def o96 (P : Params) : Obj := ⟨(.type "builtin_function_or_method"), none, (.fields #[(.builtin "type.__prepare__"), (.type "type")]), #[]⟩
def o97 (P : Params) : Obj := ⟨(.type "dict"), none, (.dict #[E P "__module__" 317 (.str (S "meettasks.errors") 215), E P "__qualname__" 319 (.str (S "BadEntries") 318), E P "__firstlineno__" 321 (.int 31 320), E P "__init__" 329 (.ref 117), E P "__static_attributes__" 331 (.ref 118)] 5), #[]⟩
def o98 (P : Params) : Obj := ⟨(.type "tuple"), none, (.seq #[] 0), #[]⟩
def o99 (P : Params) : Obj := ⟨.none, none, (.fields #[(.int 33 0), (.int 4 0), (.ref 116)]), #[]⟩
def o100 (P : Params) : Obj := ⟨(.type "code"), none, (.fields #[(.str (S "BadEntries") 312), (.str (S "BadEntries") 313), (.str (S "/claim/cut.py") 314), (.int 31 0), (.int 0 0), (.int 0 0), (.int 0 0), (.int 0 0), (.ref 107), (.bool false), (.int 181 0), (.ref 108), .none, .none, .none, .none, (.int 315 0), (.int 31 0), (.str (S "/claim/cut.py") 316)]), #[]⟩
def o101 (P : Params) : Obj := ⟨(.type "frame"), none, .plain, #[(some (.ref 109)), (some (.ref 3)), (some (.ref 106)), none, (some (.str (S "meettasks.errors") 215)), none, (some (.ref 0))]⟩
def o102 (P : Params) : Obj := ⟨(.type "tuple"), none, (.seq #[] 0), #[]⟩
def o103 (P : Params) : Obj := ⟨.none, none, (.fields #[]), #[]⟩
def o104 (P : Params) : Obj := ⟨(.type "tuple"), none, (.seq #[(.str (S "self") 325), (.str (S "name") 326)] 0), #[]⟩
def o105 (P : Params) : Obj := ⟨(.type "tuple"), none, (.seq #[] 0), #[]⟩
def o106 (P : Params) : Obj := ⟨.none, none, (.func ⟨(S "__init__"), (S "BadEntries.__init__"), (dM 10 0).params, .stmts (dM 10 0).body, (dM 10 0).scope, 0, [], .none, .none, .none, .none, none, .none, .none, 0⟩), #[]⟩
def o107 (P : Params) : Obj := ⟨(.type "code"), none, (.fields #[(.str (S "__init__") 322), (.str (S "BadEntries.__init__") 323), (.str (S "/claim/cut.py") 324), (.int 33 0), (.int 2 0), (.int 0 0), (.int 0 0), (.int 3 0), (.ref 111), (.bool true), (.int 181 0), (.ref 112), .none, (.ref 113), (.ref 114), (.ref 115), (.int 327 0), (.int 33 0), (.str (S "/claim/cut.py") 328)]), #[]⟩
def o108 (P : Params) : Obj := ⟨(.type "function"), none, (.func ⟨(S "__init__"), (S "BadEntries.__init__"), (dM 10 0).params, .stmts (dM 10 0).body, (dM 10 0).scope, 3, [], .none, .none, .none, (.str (S "meettasks.errors") 215), none, (.ref 116), .none, 0⟩), #[]⟩
def o109 (P : Params) : Obj := ⟨(.type "tuple"), none, (.seq #[(.str (S "name") 330)] 0), #[]⟩
def o110 (P : Params) : Obj := ⟨(.type "dict"), none, (.dict #[E P "__module__" 317 (.str (S "meettasks.errors") 215), E P "__firstlineno__" 321 (.int 31 320), E P "__init__" 329 (.ref 117), E P "__static_attributes__" 331 (.ref 118), E P "__doc__" 332 .none] 2), #[]⟩
def o111 (P : Params) : Obj := ⟨(.type "type"), none, (.cls ⟨(S "BadEntries"), [(.ref 43)], [(.ref 120), (.ref 43), (.type "ValueError"), (.type "Exception"), (.type "BaseException"), (.type "object")], 119, (S "BadEntries"), true, [], [], false, none, false⟩), #[(some (.ref 104)), none, (some (.str (S "BadEntries") 310)), (some (.str (S "BadEntries") 318)), (some (.builtin "ValueError.__new__")), (some (.bool true))]⟩
def o112 (P : Params) : Obj := ⟨(.type "super"), none, (.fields #[(.ref 120), (.ref 120), (.ref 120)]), #[]⟩
def o113 (P : Params) : Obj := ⟨(.type "builtin_function_or_method"), none, (.fields #[(.builtin "object.__init_subclass__"), (.ref 120)]), #[]⟩
def o114 (P : Params) : Obj := ⟨(.type "tuple"), none, (.seq #[] 0), #[]⟩
def o115 (P : Params) : Obj := ⟨.none, none, (.fields #[]), #[]⟩
def o116 (P : Params) : Obj := ⟨(.type "tuple"), none, (.seq #[(.str (S "thing") 340), (.str (S "known") 341), (.str (S "is_whole") 342), (.str (S "value") 343)] 0), #[]⟩
def o117 (P : Params) : Obj := ⟨(.type "tuple"), none, (.seq #[] 0), #[]⟩
def o118 (P : Params) : Obj := ⟨.none, none, (.func ⟨(S "is_lead"), (S "is_lead"), (dT 12).params, .stmts (dT 12).body, (dT 12).scope, 0, [], .none, .none, .none, .none, none, .none, .none, 0⟩), #[]⟩
def o119 (P : Params) : Obj := ⟨(.type "code"), none, (.fields #[(.str (S "is_lead") 337), (.str (S "is_lead") 338), (.str (S "/claim/cut.py") 339), (.int 36 0), (.int 3 0), (.int 0 0), (.int 0 0), (.int 3 0), (.ref 123), (.bool true), (.int 181 0), (.ref 124), .none, (.ref 125), (.ref 126), (.ref 127), (.int 344 0), (.int 36 0), (.str (S "/claim/cut.py") 345)]), #[]⟩
def o120 (P : Params) : Obj := ⟨(.type "function"), none, (.func ⟨(S "is_lead"), (S "is_lead"), (dT 12).params, .stmts (dT 12).body, (dT 12).scope, 3, [], .none, .none, .none, (.str (S "meettasks.things") 335), none, (.ref 128), .none, 0⟩), #[]⟩
def o121 (P : Params) : Obj := ⟨(.type "tuple"), none, (.seq #[] 0), #[]⟩
def o122 (P : Params) : Obj := ⟨.none, none, (.fields #[]), #[]⟩
def o123 (P : Params) : Obj := ⟨(.type "tuple"), none, (.seq #[(.str (S "leads") 350), (.str (S "known") 351), (.str (S "barred") 352), (.str (S "is_whole") 353), (.str (S "name") 354)] 0), #[]⟩
def o124 (P : Params) : Obj := ⟨(.type "tuple"), none, (.seq #[] 0), #[]⟩
def o125 (P : Params) : Obj := ⟨.none, none, (.func ⟨(S "first_wrong"), (S "first_wrong"), (dT 13).params, .stmts (dT 13).body, (dT 13).scope, 0, [], .none, .none, .none, .none, none, .none, .none, 0⟩), #[]⟩
def o126 (P : Params) : Obj := ⟨(.type "code"), none, (.fields #[(.str (S "first_wrong") 347), (.str (S "first_wrong") 348), (.str (S "/claim/cut.py") 349), (.int 43 0), (.int 4 0), (.int 0 0), (.int 0 0), (.int 3 0), (.ref 130), (.bool true), (.int 181 0), (.ref 131), .none, (.ref 132), (.ref 133), (.ref 134), (.int 355 0), (.int 43 0), (.str (S "/claim/cut.py") 356)]), #[]⟩
def o127 (P : Params) : Obj := ⟨(.type "function"), none, (.func ⟨(S "first_wrong"), (S "first_wrong"), (dT 13).params, .stmts (dT 13).body, (dT 13).scope, 3, [], .none, .none, .none, (.str (S "meettasks.things") 335), none, (.ref 135), .none, 0⟩), #[]⟩
def o128 (P : Params) : Obj := ⟨(.type "tuple"), none, (.seq #[] 0), #[]⟩
def o129 (P : Params) : Obj := ⟨.none, none, (.fields #[]), #[]⟩
def o130 (P : Params) : Obj := ⟨.none, none, (.func ⟨(S "ordered"), (S "ordered"), (dT 14).params, .stmts (dT 14).body, (dT 14).scope, 0, [], .none, .none, .none, .none, none, .none, .none, 0⟩), #[]⟩
def o131 (P : Params) : Obj := ⟨(.type "code"), none, (.fields #[(.str (S "ordered") 358), (.str (S "ordered") 359), (.str (S "/claim/cut.py") 360), (.int 50 0), (.int 2 0), (.int 0 0), (.int 0 0), (.int 3 0), (.ref 137), (.bool true), (.int 181 0), (.ref 138), .none, .none, .none, (.ref 139), (.int 361 0), (.int 50 0), (.str (S "/claim/cut.py") 362)]), #[]⟩
def o132 (P : Params) : Obj := ⟨(.type "function"), none, (.func ⟨(S "ordered"), (S "ordered"), (dT 14).params, .stmts (dT 14).body, (dT 14).scope, 3, [], .none, .none, .none, (.str (S "meettasks.things") 335), none, (.ref 140), .none, 0⟩), #[]⟩
def o133 (P : Params) : Obj := ⟨(.type "tuple"), none, (.seq #[] 0), #[]⟩
def o134 (P : Params) : Obj := ⟨(.type "builtin_function_or_method"), none, (.fields #[(.builtin "type.__prepare__"), (.type "type")]), #[]⟩
def o135 (P : Params) : Obj := ⟨(.type "dict"), none, (.dict #[E P "__module__" 371 (.str (S "meettasks.things") 335), E P "__qualname__" 373 (.str (S "Thing") 372), E P "__firstlineno__" 375 (.int 52 374), E P "__init__" 388 (.ref 155), E P "worths" 395 (.ref 162), E P "start" 402 (.ref 169), E P "deeds" 408 (.ref 174), E P "entries" 414 (.ref 179), E P "__eq__" 422 (.ref 186), E P "__static_attributes__" 427 (.ref 187)] 10), #[]⟩
def o136 (P : Params) : Obj := ⟨(.type "tuple"), none, (.seq #[] 0), #[]⟩
def o137 (P : Params) : Obj := ⟨.none, none, (.fields #[(.int 54 0), (.int 4 0), (.ref 154), (.int 69 0), (.int 4 0), (.ref 161), (.int 72 0), (.int 4 0), (.ref 168), (.int 75 0), (.int 4 0), (.ref 173), (.int 78 0), (.int 4 0), (.ref 178), (.int 81 0), (.int 4 0), (.ref 185)]), #[]⟩
def o138 (P : Params) : Obj := ⟨(.type "code"), none, (.fields #[(.str (S "Thing") 366), (.str (S "Thing") 367), (.str (S "/claim/cut.py") 368), (.int 52 0), (.int 0 0), (.int 0 0), (.int 0 0), (.int 0 0), (.ref 145), (.bool false), (.int 181 0), (.ref 146), .none, .none, .none, .none, (.int 369 0), (.int 52 0), (.str (S "/claim/cut.py") 370)]), #[]⟩
def o139 (P : Params) : Obj := ⟨(.type "frame"), none, .plain, #[(some (.ref 147)), (some (.ref 3)), (some (.ref 144)), none, (some (.str (S "meettasks.things") 335)), none, (some (.ref 0))]⟩
def o140 (P : Params) : Obj := ⟨(.type "tuple"), none, (.seq #[] 0), #[]⟩
def o141 (P : Params) : Obj := ⟨.none, none, (.fields #[]), #[]⟩
def o142 (P : Params) : Obj := ⟨(.type "tuple"), none, (.seq #[(.str (S "self") 379), (.str (S "values") 380), (.str (S "start") 381), (.str (S "deeds") 382), (.str (S "entries") 383), (.str (S "index") 384), (.str (S "wrong") 385)] 0), #[]⟩
def o143 (P : Params) : Obj := ⟨(.type "tuple"), none, (.seq #[] 0), #[]⟩
def o144 (P : Params) : Obj := ⟨.none, none, (.func ⟨(S "__init__"), (S "Thing.__init__"), (dM 15 0).params, .stmts (dM 15 0).body, (dM 15 0).scope, 0, [], .none, .none, .none, .none, none, .none, .none, 0⟩), #[]⟩
def o145 (P : Params) : Obj := ⟨(.type "code"), none, (.fields #[(.str (S "__init__") 376), (.str (S "Thing.__init__") 377), (.str (S "/claim/cut.py") 378), (.int 54 0), (.int 5 0), (.int 0 0), (.int 0 0), (.int 3 0), (.ref 149), (.bool true), (.int 181 0), (.ref 150), .none, (.ref 151), (.ref 152), (.ref 153), (.int 386 0), (.int 54 0), (.str (S "/claim/cut.py") 387)]), #[]⟩
def o146 (P : Params) : Obj := ⟨(.type "function"), none, (.func ⟨(S "__init__"), (S "Thing.__init__"), (dM 15 0).params, .stmts (dM 15 0).body, (dM 15 0).scope, 3, [], .none, .none, .none, (.str (S "meettasks.things") 335), none, (.ref 154), .none, 0⟩), #[]⟩
def o147 (P : Params) : Obj := ⟨(.type "tuple"), none, (.seq #[] 0), #[]⟩
def o148 (P : Params) : Obj := ⟨.none, none, (.fields #[]), #[]⟩
def o149 (P : Params) : Obj := ⟨(.type "tuple"), none, (.seq #[(.str (S "self") 392)] 0), #[]⟩
def o150 (P : Params) : Obj := ⟨(.type "tuple"), none, (.seq #[] 0), #[]⟩
def o151 (P : Params) : Obj := ⟨.none, none, (.func ⟨(S "worths"), (S "Thing.worths"), (dM 15 1).params, .stmts (dM 15 1).body, (dM 15 1).scope, 0, [], .none, .none, .none, .none, none, .none, .none, 0⟩), #[]⟩
def o152 (P : Params) : Obj := ⟨(.type "code"), none, (.fields #[(.str (S "worths") 389), (.str (S "Thing.worths") 390), (.str (S "/claim/cut.py") 391), (.int 69 0), (.int 1 0), (.int 0 0), (.int 0 0), (.int 3 0), (.ref 156), (.bool true), (.int 181 0), (.ref 157), .none, (.ref 158), (.ref 159), (.ref 160), (.int 393 0), (.int 69 0), (.str (S "/claim/cut.py") 394)]), #[]⟩
def o153 (P : Params) : Obj := ⟨(.type "function"), none, (.func ⟨(S "worths"), (S "Thing.worths"), (dM 15 1).params, .stmts (dM 15 1).body, (dM 15 1).scope, 3, [], .none, .none, .none, (.str (S "meettasks.things") 335), none, (.ref 161), .none, 0⟩), #[]⟩
def o154 (P : Params) : Obj := ⟨(.type "tuple"), none, (.seq #[] 0), #[]⟩
def o155 (P : Params) : Obj := ⟨.none, none, (.fields #[]), #[]⟩
def o156 (P : Params) : Obj := ⟨(.type "tuple"), none, (.seq #[(.str (S "self") 399)] 0), #[]⟩
def o157 (P : Params) : Obj := ⟨(.type "tuple"), none, (.seq #[] 0), #[]⟩
def o158 (P : Params) : Obj := ⟨.none, none, (.func ⟨(S "start"), (S "Thing.start"), (dM 15 2).params, .stmts (dM 15 2).body, (dM 15 2).scope, 0, [], .none, .none, .none, .none, none, .none, .none, 0⟩), #[]⟩
def o159 (P : Params) : Obj := ⟨(.type "code"), none, (.fields #[(.str (S "start") 396), (.str (S "Thing.start") 397), (.str (S "/claim/cut.py") 398), (.int 72 0), (.int 1 0), (.int 0 0), (.int 0 0), (.int 3 0), (.ref 163), (.bool true), (.int 181 0), (.ref 164), .none, (.ref 165), (.ref 166), (.ref 167), (.int 400 0), (.int 72 0), (.str (S "/claim/cut.py") 401)]), #[]⟩
def o160 (P : Params) : Obj := ⟨(.type "function"), none, (.func ⟨(S "start"), (S "Thing.start"), (dM 15 2).params, .stmts (dM 15 2).body, (dM 15 2).scope, 3, [], .none, .none, .none, (.str (S "meettasks.things") 335), none, (.ref 168), .none, 0⟩), #[]⟩
def o161 (P : Params) : Obj := ⟨(.type "tuple"), none, (.seq #[] 0), #[]⟩
def o162 (P : Params) : Obj := ⟨.none, none, (.fields #[]), #[]⟩
def o163 (P : Params) : Obj := ⟨.none, none, (.func ⟨(S "deeds"), (S "Thing.deeds"), (dM 15 3).params, .stmts (dM 15 3).body, (dM 15 3).scope, 0, [], .none, .none, .none, .none, none, .none, .none, 0⟩), #[]⟩
def o164 (P : Params) : Obj := ⟨(.type "code"), none, (.fields #[(.str (S "deeds") 403), (.str (S "Thing.deeds") 404), (.str (S "/claim/cut.py") 405), (.int 75 0), (.int 1 0), (.int 0 0), (.int 0 0), (.int 3 0), (.ref 170), (.bool true), (.int 181 0), (.ref 171), .none, .none, .none, (.ref 172), (.int 406 0), (.int 75 0), (.str (S "/claim/cut.py") 407)]), #[]⟩
def o165 (P : Params) : Obj := ⟨(.type "function"), none, (.func ⟨(S "deeds"), (S "Thing.deeds"), (dM 15 3).params, .stmts (dM 15 3).body, (dM 15 3).scope, 3, [], .none, .none, .none, (.str (S "meettasks.things") 335), none, (.ref 173), .none, 0⟩), #[]⟩
def o166 (P : Params) : Obj := ⟨(.type "tuple"), none, (.seq #[] 0), #[]⟩
def o167 (P : Params) : Obj := ⟨.none, none, (.fields #[]), #[]⟩
def o168 (P : Params) : Obj := ⟨.none, none, (.func ⟨(S "entries"), (S "Thing.entries"), (dM 15 4).params, .stmts (dM 15 4).body, (dM 15 4).scope, 0, [], .none, .none, .none, .none, none, .none, .none, 0⟩), #[]⟩
def o169 (P : Params) : Obj := ⟨(.type "code"), none, (.fields #[(.str (S "entries") 409), (.str (S "Thing.entries") 410), (.str (S "/claim/cut.py") 411), (.int 78 0), (.int 1 0), (.int 0 0), (.int 0 0), (.int 3 0), (.ref 175), (.bool true), (.int 181 0), (.ref 176), .none, .none, .none, (.ref 177), (.int 412 0), (.int 78 0), (.str (S "/claim/cut.py") 413)]), #[]⟩
def o170 (P : Params) : Obj := ⟨(.type "function"), none, (.func ⟨(S "entries"), (S "Thing.entries"), (dM 15 4).params, .stmts (dM 15 4).body, (dM 15 4).scope, 3, [], .none, .none, .none, (.str (S "meettasks.things") 335), none, (.ref 178), .none, 0⟩), #[]⟩
def o171 (P : Params) : Obj := ⟨(.type "tuple"), none, (.seq #[] 0), #[]⟩
def o172 (P : Params) : Obj := ⟨.none, none, (.fields #[]), #[]⟩
def o173 (P : Params) : Obj := ⟨(.type "tuple"), none, (.seq #[(.str (S "self") 418), (.str (S "other") 419)] 0), #[]⟩
def o174 (P : Params) : Obj := ⟨(.type "tuple"), none, (.seq #[] 0), #[]⟩
def o175 (P : Params) : Obj := ⟨.none, none, (.func ⟨(S "__eq__"), (S "Thing.__eq__"), (dM 15 5).params, .stmts (dM 15 5).body, (dM 15 5).scope, 0, [], .none, .none, .none, .none, none, .none, .none, 0⟩), #[]⟩
def o176 (P : Params) : Obj := ⟨(.type "code"), none, (.fields #[(.str (S "__eq__") 415), (.str (S "Thing.__eq__") 416), (.str (S "/claim/cut.py") 417), (.int 81 0), (.int 2 0), (.int 0 0), (.int 0 0), (.int 3 0), (.ref 180), (.bool true), (.int 181 0), (.ref 181), .none, (.ref 182), (.ref 183), (.ref 184), (.int 420 0), (.int 81 0), (.str (S "/claim/cut.py") 421)]), #[]⟩
def o177 (P : Params) : Obj := ⟨(.type "function"), none, (.func ⟨(S "__eq__"), (S "Thing.__eq__"), (dM 15 5).params, .stmts (dM 15 5).body, (dM 15 5).scope, 3, [], .none, .none, .none, (.str (S "meettasks.things") 335), none, (.ref 185), .none, 0⟩), #[]⟩
def o178 (P : Params) : Obj := ⟨(.type "tuple"), none, (.seq #[(.str (S "kept_deeds") 423), (.str (S "kept_entries") 424), (.str (S "kept_start") 425), (.str (S "kept_values") 426)] 0), #[]⟩
def o179 (P : Params) : Obj := ⟨(.type "dict"), none, (.dict #[E P "__module__" 371 (.str (S "meettasks.things") 335), E P "__firstlineno__" 375 (.int 52 374), E P "__init__" 388 (.ref 155), E P "worths" 395 (.ref 162), E P "start" 402 (.ref 169), E P "deeds" 408 (.ref 174), E P "entries" 414 (.ref 179), E P "__eq__" 422 (.ref 186), E P "__static_attributes__" 427 (.ref 187), E P "__dict__" 429 (.ref 190), E P "__weakref__" 431 (.ref 191), E P "__doc__" 432 .none, E P "__hash__" 433 .none] 5), #[]⟩
def o180 (P : Params) : Obj := ⟨(.type "type"), none, (.cls ⟨(S "Thing"), [(.type "object")], [(.ref 189), (.type "object")], 188, (S "Thing"), true, [], [], false, none, false⟩), #[none, none, (some (.str (S "Thing") 364)), (some (.str (S "Thing") 372)), (some (.builtin "object.__new__")), (some (.bool true))]⟩
def o181 (P : Params) : Obj := ⟨(.type "getset_descriptor"), none, (.fields #[(.str (S "__dict__") 428), (.ref 189), (.builtin "function.__dict__"), (.builtin "function.__dict__#set")]), #[]⟩
def o182 (P : Params) : Obj := ⟨(.type "getset_descriptor"), none, (.fields #[(.str (S "__weakref__") 430), (.ref 189), (.builtin "ExceptionGroup.__weakref__"), .none]), #[]⟩
def o183 (P : Params) : Obj := ⟨(.type "super"), none, (.fields #[(.ref 189), (.ref 189), (.ref 189)]), #[]⟩
def o184 (P : Params) : Obj := ⟨(.type "builtin_function_or_method"), none, (.fields #[(.builtin "object.__init_subclass__"), (.ref 189)]), #[]⟩
def o185 (P : Params) : Obj := ⟨(.type "tuple"), none, (.seq #[] 0), #[]⟩
def o186 (P : Params) : Obj := ⟨.none, none, (.fields #[]), #[]⟩
def o187 (P : Params) : Obj := ⟨(.type "tuple"), none, (.seq #[(.str (S "_law_script") 441), (.str (S "_law_turn") 442), (.str (S "_law_cell") 443), (.str (S "_law_seed") 444), (.str (S "_law_one_here") 445)] 0), #[]⟩
def o188 (P : Params) : Obj := ⟨(.type "tuple"), none, (.seq #[] 0), #[]⟩
def o189 (P : Params) : Obj := ⟨.none, none, (.func ⟨(S "_law_pool"), (S "_law_pool"), (dT 17).params, .stmts (dT 17).body, (dT 17).scope, 0, [], .none, .none, .none, .none, none, .none, .none, 0⟩), #[]⟩
def o190 (P : Params) : Obj := ⟨(.type "code"), none, (.fields #[(.str (S "_law_pool") 438), (.str (S "_law_pool") 439), (.str (S "/claim/cut.py") 440), (.int 86 0), (.int 2 0), (.int 0 0), (.int 0 0), (.int 3 0), (.ref 194), (.bool true), (.int 181 0), (.ref 195), .none, (.ref 196), (.ref 197), (.ref 198), (.int 446 0), (.int 86 0), (.str (S "/claim/cut.py") 447)]), #[]⟩
def o191 (P : Params) : Obj := ⟨(.type "function"), none, (.func ⟨(S "_law_pool"), (S "_law_pool"), (dT 17).params, .stmts (dT 17).body, (dT 17).scope, 3, [], .none, .none, .none, (.str (S "law_meettasks_k01_things_made") 436), none, (.ref 199), .none, 0⟩), #[]⟩
def o192 (P : Params) : Obj := ⟨(.type "tuple"), none, (.seq #[] 0), #[]⟩
def o193 (P : Params) : Obj := ⟨.none, none, (.fields #[]), #[]⟩
def o194 (P : Params) : Obj := ⟨(.type "tuple"), none, (.seq #[(.str (S "_law_pool_here") 452), (.str (S "_law_many") 453), (.str (S "_law_draw") 454), (.str (S "_law_mixed_here") 455)] 0), #[]⟩
def o195 (P : Params) : Obj := ⟨(.type "tuple"), none, (.seq #[] 0), #[]⟩
def o196 (P : Params) : Obj := ⟨.none, none, (.func ⟨(S "_law_take"), (S "_law_take"), (dT 18).params, .stmts (dT 18).body, (dT 18).scope, 0, [], .none, .none, .none, .none, none, .none, .none, 0⟩), #[]⟩
def o197 (P : Params) : Obj := ⟨(.type "code"), none, (.fields #[(.str (S "_law_take") 449), (.str (S "_law_take") 450), (.str (S "/claim/cut.py") 451), (.int 92 0), (.int 2 0), (.int 0 0), (.int 0 0), (.int 3 0), (.ref 201), (.bool true), (.int 181 0), (.ref 202), .none, (.ref 203), (.ref 204), (.ref 205), (.int 456 0), (.int 92 0), (.str (S "/claim/cut.py") 457)]), #[]⟩
def o198 (P : Params) : Obj := ⟨(.type "function"), none, (.func ⟨(S "_law_take"), (S "_law_take"), (dT 18).params, .stmts (dT 18).body, (dT 18).scope, 3, [], .none, .none, .none, (.str (S "law_meettasks_k01_things_made") 436), none, (.ref 206), .none, 0⟩), #[]⟩
def o199 (P : Params) : Obj := ⟨(.type "tuple"), none, (.seq #[] 0), #[]⟩
def o200 (P : Params) : Obj := ⟨.none, none, (.fields #[]), #[]⟩
def o201 (P : Params) : Obj := ⟨(.type "tuple"), none, (.seq #[(.str (S "_law_pool_here") 462), (.str (S "_law_things") 463)] 0), #[]⟩
def o202 (P : Params) : Obj := ⟨(.type "tuple"), none, (.seq #[] 0), #[]⟩
def o203 (P : Params) : Obj := ⟨.none, none, (.func ⟨(S "_law_one"), (S "_law_one"), (dT 19).params, .stmts (dT 19).body, (dT 19).scope, 0, [], .none, .none, .none, .none, none, .none, .none, 0⟩), #[]⟩
def o204 (P : Params) : Obj := ⟨(.type "code"), none, (.fields #[(.str (S "_law_one") 459), (.str (S "_law_one") 460), (.str (S "/claim/cut.py") 461), (.int 100 0), (.int 2 0), (.int 0 0), (.int 0 0), (.int 3 0), (.ref 208), (.bool true), (.int 181 0), (.ref 209), .none, (.ref 210), (.ref 211), (.ref 212), (.int 464 0), (.int 100 0), (.str (S "/claim/cut.py") 465)]), #[]⟩
def o205 (P : Params) : Obj := ⟨(.type "function"), none, (.func ⟨(S "_law_one"), (S "_law_one"), (dT 19).params, .stmts (dT 19).body, (dT 19).scope, 3, [], .none, .none, .none, (.str (S "law_meettasks_k01_things_made") 436), none, (.ref 213), .none, 0⟩), #[]⟩
def o206 (P : Params) : Obj := ⟨(.type "tuple"), none, (.seq #[] 0), #[]⟩
def o207 (P : Params) : Obj := ⟨.none, none, (.fields #[]), #[]⟩
def o208 (P : Params) : Obj := ⟨(.type "tuple"), none, (.seq #[(.str (S "_law_pool_here") 470), (.str (S "_law_things") 471), (.str (S "_law_left") 472), (.str (S "_law_found") 473), (.str (S "_law_k") 474), (.str (S "_law_at") 475)] 0), #[]⟩
def o209 (P : Params) : Obj := ⟨(.type "tuple"), none, (.seq #[] 0), #[]⟩
def o210 (P : Params) : Obj := ⟨.none, none, (.func ⟨(S "_law_mixed"), (S "_law_mixed"), (dT 20).params, .stmts (dT 20).body, (dT 20).scope, 0, [], .none, .none, .none, .none, none, .none, .none, 0⟩), #[]⟩
def o211 (P : Params) : Obj := ⟨(.type "code"), none, (.fields #[(.str (S "_law_mixed") 467), (.str (S "_law_mixed") 468), (.str (S "/claim/cut.py") 469), (.int 102 0), (.int 2 0), (.int 0 0), (.int 0 0), (.int 3 0), (.ref 215), (.bool true), (.int 181 0), (.ref 216), .none, (.ref 217), (.ref 218), (.ref 219), (.int 476 0), (.int 102 0), (.str (S "/claim/cut.py") 477)]), #[]⟩
def o212 (P : Params) : Obj := ⟨(.type "function"), none, (.func ⟨(S "_law_mixed"), (S "_law_mixed"), (dT 20).params, .stmts (dT 20).body, (dT 20).scope, 3, [], .none, .none, .none, (.str (S "law_meettasks_k01_things_made") 436), none, (.ref 220), .none, 0⟩), #[]⟩
def o213 (P : Params) : Obj := ⟨(.type "tuple"), none, (.seq #[] 0), #[]⟩
def o214 (P : Params) : Obj := ⟨.none, none, (.fields #[]), #[]⟩
def o215 (P : Params) : Obj := ⟨(.type "tuple"), none, (.seq #[(.str (S "_law_ask") 482), (.str (S "e") 483)] 0), #[]⟩
def o216 (P : Params) : Obj := ⟨(.type "tuple"), none, (.seq #[] 0), #[]⟩
def o217 (P : Params) : Obj := ⟨.none, none, (.func ⟨(S "_law_met"), (S "_law_met"), (dT 21).params, .stmts (dT 21).body, (dT 21).scope, 0, [], .none, .none, .none, .none, none, .none, .none, 0⟩), #[]⟩
def o218 (P : Params) : Obj := ⟨(.type "code"), none, (.fields #[(.str (S "_law_met") 479), (.str (S "_law_met") 480), (.str (S "/claim/cut.py") 481), (.int 109 0), (.int 1 0), (.int 0 0), (.int 0 0), (.int 3 0), (.ref 222), (.bool true), (.int 181 0), (.ref 223), .none, (.ref 224), (.ref 225), (.ref 226), (.int 484 0), (.int 109 0), (.str (S "/claim/cut.py") 485)]), #[]⟩
def o219 (P : Params) : Obj := ⟨(.type "function"), none, (.func ⟨(S "_law_met"), (S "_law_met"), (dT 21).params, .stmts (dT 21).body, (dT 21).scope, 3, [], .none, .none, .none, (.str (S "law_meettasks_k01_things_made") 436), none, (.ref 227), .none, 0⟩), #[]⟩
def o220 (P : Params) : Obj := ⟨(.type "tuple"), none, (.seq #[] 0), #[]⟩
def o221 (P : Params) : Obj := ⟨.none, none, (.fields #[]), #[]⟩
def o222 (P : Params) : Obj := ⟨.none, none, (.func ⟨(S "_law_leads"), (S "_law_leads"), (dT 22).params, .stmts (dT 22).body, (dT 22).scope, 0, [], .none, .none, .none, .none, none, .none, .none, 0⟩), #[]⟩
def o223 (P : Params) : Obj := ⟨(.type "code"), none, (.fields #[(.str (S "_law_leads") 487), (.str (S "_law_leads") 488), (.str (S "/claim/cut.py") 489), (.int 120 0), (.int 4 0), (.int 0 0), (.int 0 0), (.int 3 0), (.ref 229), (.bool true), (.int 181 0), (.ref 230), .none, .none, .none, (.ref 231), (.int 490 0), (.int 120 0), (.str (S "/claim/cut.py") 491)]), #[]⟩
def o224 (P : Params) : Obj := ⟨(.type "function"), none, (.func ⟨(S "_law_leads"), (S "_law_leads"), (dT 22).params, .stmts (dT 22).body, (dT 22).scope, 3, [], .none, .none, .none, (.str (S "law_meettasks_k01_things_made") 436), none, (.ref 232), .none, 0⟩), #[]⟩
def o225 (P : Params) : Obj := ⟨(.type "tuple"), none, (.seq #[] 0), #[]⟩
def o226 (P : Params) : Obj := ⟨.none, none, (.fields #[]), #[]⟩
def o227 (P : Params) : Obj := ⟨.none, none, (.func ⟨(S "_law_told"), (S "_law_told"), (dT 23).params, .stmts (dT 23).body, (dT 23).scope, 0, [], .none, .none, .none, .none, none, .none, .none, 0⟩), #[]⟩
def o228 (P : Params) : Obj := ⟨(.type "code"), none, (.fields #[(.str (S "_law_told") 493), (.str (S "_law_told") 494), (.str (S "/claim/cut.py") 495), (.int 127 0), (.int 2 0), (.int 0 0), (.int 0 0), (.int 3 0), (.ref 234), (.bool true), (.int 181 0), (.ref 235), .none, .none, .none, (.ref 236), (.int 496 0), (.int 127 0), (.str (S "/claim/cut.py") 497)]), #[]⟩
def o229 (P : Params) : Obj := ⟨(.type "function"), none, (.func ⟨(S "_law_told"), (S "_law_told"), (dT 23).params, .stmts (dT 23).body, (dT 23).scope, 3, [], .none, .none, .none, (.str (S "law_meettasks_k01_things_made") 436), none, (.ref 237), .none, 0⟩), #[]⟩
def o230 (P : Params) : Obj := ⟨(.type "tuple"), none, (.seq #[] 0), #[]⟩
def o231 (P : Params) : Obj := ⟨.none, none, (.fields #[]), #[]⟩
def o232 (P : Params) : Obj := ⟨.none, none, (.func ⟨(S "_law_doors_right"), (S "_law_doors_right"), (dT 24).params, .stmts (dT 24).body, (dT 24).scope, 0, [], .none, .none, .none, .none, none, .none, .none, 0⟩), #[]⟩
def o233 (P : Params) : Obj := ⟨(.type "code"), none, (.fields #[(.str (S "_law_doors_right") 499), (.str (S "_law_doors_right") 500), (.str (S "/claim/cut.py") 501), (.int 129 0), (.int 5 0), (.int 0 0), (.int 0 0), (.int 3 0), (.ref 239), (.bool true), (.int 181 0), (.ref 240), .none, .none, .none, (.ref 241), (.int 502 0), (.int 129 0), (.str (S "/claim/cut.py") 503)]), #[]⟩
def o234 (P : Params) : Obj := ⟨(.type "function"), none, (.func ⟨(S "_law_doors_right"), (S "_law_doors_right"), (dT 24).params, .stmts (dT 24).body, (dT 24).scope, 3, [], .none, .none, .none, (.str (S "law_meettasks_k01_things_made") 436), none, (.ref 242), .none, 0⟩), #[]⟩
def o235 (P : Params) : Obj := ⟨(.type "tuple"), none, (.seq #[] 0), #[]⟩
def o236 (P : Params) : Obj := ⟨.none, none, (.fields #[]), #[]⟩
def o237 (P : Params) : Obj := ⟨.none, none, (.func ⟨(S "law"), (S "law"), (dT 25).params, .stmts (dT 25).body, (dT 25).scope, 0, [], .none, .none, .none, .none, none, .none, .none, 0⟩), #[]⟩
def o238 (P : Params) : Obj := ⟨(.type "code"), none, (.fields #[(.str (S "law") 505), (.str (S "law") 506), (.str (S "/claim/cut.py") 507), (.int 157 0), (.int 1 0), (.int 0 0), (.int 0 0), (.int 3 0), (.ref 244), (.bool true), (.int 181 0), (.ref 245), .none, .none, .none, (.ref 246), (.int 508 0), (.int 157 0), (.str (S "/claim/cut.py") 509)]), #[]⟩
def o239 (P : Params) : Obj := ⟨(.type "function"), none, (.func ⟨(S "law"), (S "law"), (dT 25).params, .stmts (dT 25).body, (dT 25).scope, 3, [], .none, .none, .none, (.str (S "law_meettasks_k01_things_made") 436), none, (.ref 247), .none, 0⟩), #[]⟩
def T1 (P : Params) : BT := (N (boot_o_0 P) (N (boot_o_1 P) (N (o4 P) (N (boot_o_7 P) (N (o6 P) (N (o22 P) (N (o54 P) (N (o118 P) e e) (N (o182 P) e e)) (N (o86 P) (N (o150 P) e e) (N (o214 P) e e))) (N (o38 P) (N (o70 P) (N (o134 P) e e) (N (o198 P) e e)) (N (o102 P) (N (o166 P) e e) (N (o230 P) e e)))) (N (o14 P) (N (o30 P) (N (o62 P) (N (o126 P) e e) (N (o190 P) e e)) (N (o94 P) (N (o158 P) e e) (N (o222 P) e e))) (N (o46 P) (N (o78 P) (N (o142 P) e e) (N (o206 P) e e)) (N (o110 P) (N (o174 P) e e) (N (o238 P) e e))))) (N (o0 P) (N (o10 P) (N (o26 P) (N (o58 P) (N (o122 P) e e) (N (o186 P) e e)) (N (o90 P) (N (o154 P) e e) (N (o218 P) e e))) (N (o42 P) (N (o74 P) (N (o138 P) e e) (N (o202 P) e e)) (N (o106 P) (N (o170 P) e e) (N (o234 P) e e)))) (N (o18 P) (N (o34 P) (N (o66 P) (N (o130 P) e e) (N (o194 P) e e)) (N (o98 P) (N (o162 P) e e) (N (o226 P) e e))) (N (o50 P) (N (o82 P) (N (o146 P) e e) (N (o210 P) e e)) (N (o114 P) (N (o178 P) e e) e))))) (N (boot_o_5 P) (N (boot_o_9 P) (N (o8 P) (N (o24 P) (N (o56 P) (N (o120 P) e e) (N (o184 P) e e)) (N (o88 P) (N (o152 P) e e) (N (o216 P) e e))) (N (o40 P) (N (o72 P) (N (o136 P) e e) (N (o200 P) e e)) (N (o104 P) (N (o168 P) e e) (N (o232 P) e e)))) (N (o16 P) (N (o32 P) (N (o64 P) (N (o128 P) e e) (N (o192 P) e e)) (N (o96 P) (N (o160 P) e e) (N (o224 P) e e))) (N (o48 P) (N (o80 P) (N (o144 P) e e) (N (o208 P) e e)) (N (o112 P) (N (o176 P) e e) e)))) (N (o2 P) (N (o12 P) (N (o28 P) (N (o60 P) (N (o124 P) e e) (N (o188 P) e e)) (N (o92 P) (N (o156 P) e e) (N (o220 P) e e))) (N (o44 P) (N (o76 P) (N (o140 P) e e) (N (o204 P) e e)) (N (o108 P) (N (o172 P) e e) (N (o236 P) e e)))) (N (o20 P) (N (o36 P) (N (o68 P) (N (o132 P) e e) (N (o196 P) e e)) (N (o100 P) (N (o164 P) e e) (N (o228 P) e e))) (N (o52 P) (N (o84 P) (N (o148 P) e e) (N (o212 P) e e)) (N (o116 P) (N (o180 P) e e) e)))))) (N (boot_o_2 P) (N (boot_o_4 P) (N (boot_o_8 P) (N (o7 P) (N (o23 P) (N (o55 P) (N (o119 P) e e) (N (o183 P) e e)) (N (o87 P) (N (o151 P) e e) (N (o215 P) e e))) (N (o39 P) (N (o71 P) (N (o135 P) e e) (N (o199 P) e e)) (N (o103 P) (N (o167 P) e e) (N (o231 P) e e)))) (N (o15 P) (N (o31 P) (N (o63 P) (N (o127 P) e e) (N (o191 P) e e)) (N (o95 P) (N (o159 P) e e) (N (o223 P) e e))) (N (o47 P) (N (o79 P) (N (o143 P) e e) (N (o207 P) e e)) (N (o111 P) (N (o175 P) e e) (N (o239 P) e e))))) (N (o5 P) (N (o11 P) (N (o27 P) (N (o59 P) (N (o123 P) e e) (N (o187 P) e e)) (N (o91 P) (N (o155 P) e e) (N (o219 P) e e))) (N (o43 P) (N (o75 P) (N (o139 P) e e) (N (o203 P) e e)) (N (o107 P) (N (o171 P) e e) (N (o235 P) e e)))) (N (o19 P) (N (o35 P) (N (o67 P) (N (o131 P) e e) (N (o195 P) e e)) (N (o99 P) (N (o163 P) e e) (N (o227 P) e e))) (N (o51 P) (N (o83 P) (N (o147 P) e e) (N (o211 P) e e)) (N (o115 P) (N (o179 P) e e) e))))) (N (boot_o_6 P) (N (boot_o_10 P) (N (o9 P) (N (o25 P) (N (o57 P) (N (o121 P) e e) (N (o185 P) e e)) (N (o89 P) (N (o153 P) e e) (N (o217 P) e e))) (N (o41 P) (N (o73 P) (N (o137 P) e e) (N (o201 P) e e)) (N (o105 P) (N (o169 P) e e) (N (o233 P) e e)))) (N (o17 P) (N (o33 P) (N (o65 P) (N (o129 P) e e) (N (o193 P) e e)) (N (o97 P) (N (o161 P) e e) (N (o225 P) e e))) (N (o49 P) (N (o81 P) (N (o145 P) e e) (N (o209 P) e e)) (N (o113 P) (N (o177 P) e e) e)))) (N (o3 P) (N (o13 P) (N (o29 P) (N (o61 P) (N (o125 P) e e) (N (o189 P) e e)) (N (o93 P) (N (o157 P) e e) (N (o221 P) e e))) (N (o45 P) (N (o77 P) (N (o141 P) e e) (N (o205 P) e e)) (N (o109 P) (N (o173 P) e e) (N (o237 P) e e)))) (N (o21 P) (N (o37 P) (N (o69 P) (N (o133 P) e e) (N (o197 P) e e)) (N (o101 P) (N (o165 P) e e) (N (o229 P) e e))) (N (o53 P) (N (o85 P) (N (o149 P) e e) (N (o213 P) e e)) (N (o117 P) (N (o181 P) e e) e)))))))
def S1 (w : World) (os : OsState) : SharedT := ⟨T1 w.params, 249, ⟨[], [], [], 0, [], [], false, #[], [], 0, false, false, false, 0, [2000, 10, 10], false, 0, true, [], [], 0, false⟩, #[], ⟨0, 0, 0, 0⟩, 511, os⟩
def pos1 : Pos := ⟨157, 0, 189, 92⟩
def Tz (P : Params) : BT := (N (boot_o_0 P) (N (boot_o_1 P) (N (o4 P) (N (boot_o_7 P) (N (o6 P) (N (o22 P) (N (o54 P) (N (o118 P) e e) (N (o182 P) e e)) (N (o86 P) (N (o150 P) e e) (N (o214 P) e e))) (N (o38 P) (N (o70 P) (N (o134 P) e e) (N (o198 P) e e)) (N (o102 P) (N (o166 P) e e) (N (o230 P) e e)))) (N (o14 P) (N (o30 P) (N (o62 P) (N (o126 P) e e) (N (o190 P) e e)) (N (o94 P) (N (o158 P) e e) (N (o222 P) e e))) (N (o46 P) (N (o78 P) (N (o142 P) e e) (N (o206 P) e e)) (N (o110 P) (N (o174 P) e e) (N (o238 P) e e))))) (N (o0 P) (N (o10 P) (N (o26 P) (N (o58 P) (N (o122 P) e e) (N (o186 P) e e)) (N (o90 P) (N (o154 P) e e) (N (o218 P) e e))) (N (o42 P) (N (o74 P) (N (o138 P) e e) (N (o202 P) e e)) (N (o106 P) (N (o170 P) e e) (N (o234 P) e e)))) (N (o18 P) (N (o34 P) (N (o66 P) (N (o130 P) e e) (N (o194 P) e e)) (N (o98 P) (N (o162 P) e e) (N (o226 P) e e))) (N (o50 P) (N (o82 P) (N (o146 P) e e) (N (o210 P) e e)) (N (o114 P) (N (o178 P) e e) e))))) (N (boot_o_5 P) (N (boot_o_9 P) (N (o8 P) (N (o24 P) (N (o56 P) (N (o120 P) e e) (N (o184 P) e e)) (N (o88 P) (N (o152 P) e e) (N (o216 P) e e))) (N (o40 P) (N (o72 P) (N (o136 P) e e) (N (o200 P) e e)) (N (o104 P) (N (o168 P) e e) (N (o232 P) e e)))) (N (o16 P) (N (o32 P) (N (o64 P) (N (o128 P) e e) (N (o192 P) e e)) (N (o96 P) (N (o160 P) e e) (N (o224 P) e e))) (N (o48 P) (N (o80 P) (N (o144 P) e e) (N (o208 P) e e)) (N (o112 P) (N (o176 P) e e) e)))) (N (o2 P) (N (o12 P) (N (o28 P) (N (o60 P) (N (o124 P) e e) (N (o188 P) e e)) (N (o92 P) (N (o156 P) e e) (N (o220 P) e e))) (N (o44 P) (N (o76 P) (N (o140 P) e e) (N (o204 P) e e)) (N (o108 P) (N (o172 P) e e) (N (o236 P) e e)))) (N (o20 P) (N (o36 P) (N (o68 P) (N (o132 P) e e) (N (o196 P) e e)) (N (o100 P) (N (o164 P) e e) (N (o228 P) e e))) (N (o52 P) (N (o84 P) (N (o148 P) e e) (N (o212 P) e e)) (N (o116 P) (N (o180 P) e e) e)))))) (N (boot_o_2 P) (N (boot_o_4 P) (N (boot_o_8 P) (N (o7 P) (N (o23 P) (N (o55 P) (N (o119 P) e e) (N (o183 P) e e)) (N (o87 P) (N (o151 P) e e) (N (o215 P) e e))) (N (o39 P) (N (o71 P) (N (o135 P) e e) (N (o199 P) e e)) (N (o103 P) (N (o167 P) e e) (N (o231 P) e e)))) (N (o15 P) (N (o31 P) (N (o63 P) (N (o127 P) e e) (N (o191 P) e e)) (N (o95 P) (N (o159 P) e e) (N (o223 P) e e))) (N (o47 P) (N (o79 P) (N (o143 P) e e) (N (o207 P) e e)) (N (o111 P) (N (o175 P) e e) (N (o239 P) e e))))) (N (o5 P) (N (o11 P) (N (o27 P) (N (o59 P) (N (o123 P) e e) (N (o187 P) e e)) (N (o91 P) (N (o155 P) e e) (N (o219 P) e e))) (N (o43 P) (N (o75 P) (N (o139 P) e e) (N (o203 P) e e)) (N (o107 P) (N (o171 P) e e) (N (o235 P) e e)))) (N (o19 P) (N (o35 P) (N (o67 P) (N (o131 P) e e) (N (o195 P) e e)) (N (o99 P) (N (o163 P) e e) (N (o227 P) e e))) (N (o51 P) (N (o83 P) (N (o147 P) e e) (N (o211 P) e e)) (N (o115 P) (N (o179 P) e e) e))))) (N (boot_o_6 P) (N (boot_o_10 P) (N (o9 P) (N (o25 P) (N (o57 P) (N (o121 P) e e) (N (o185 P) e e)) (N (o89 P) (N (o153 P) e e) (N (o217 P) e e))) (N (o41 P) (N (o73 P) (N (o137 P) e e) (N (o201 P) e e)) (N (o105 P) (N (o169 P) e e) (N (o233 P) e e)))) (N (o17 P) (N (o33 P) (N (o65 P) (N (o129 P) e e) (N (o193 P) e e)) (N (o97 P) (N (o161 P) e e) (N (o225 P) e e))) (N (o49 P) (N (o81 P) (N (o145 P) e e) (N (o209 P) e e)) (N (o113 P) (N (o177 P) e e) e)))) (N (o3 P) (N (o13 P) (N (o29 P) (N (o61 P) (N (o125 P) e e) (N (o189 P) e e)) (N (o93 P) (N (o157 P) e e) (N (o221 P) e e))) (N (o45 P) (N (o77 P) (N (o141 P) e e) (N (o205 P) e e)) (N (o109 P) (N (o173 P) e e) (N (o237 P) e e)))) (N (o21 P) (N (o37 P) (N (o69 P) (N (o133 P) e e) (N (o197 P) e e)) (N (o101 P) (N (o165 P) e e) (N (o229 P) e e))) (N (o53 P) (N (o85 P) (N (o149 P) e e) (N (o213 P) e e)) (N (o117 P) (N (o181 P) e e) e)))))))
def Sz (w : World) (os : OsState) : SharedT := ⟨Tz w.params, 249, ⟨[], [], [], 0, [], [], false, #[], [], 0, false, false, false, 0, [2000, 10, 10], false, 0, true, [], [], 0, false⟩, #[], ⟨0, 0, 0, 0⟩, 511, os⟩
def posz : Pos := ⟨157, 0, 189, 92⟩
abbrev bd : List Stmt := behindTheImports Pg
def env : Env := { scope := Pg.main.scope, locals := mainNs, globals := mainNs, cells := [], code := (.ref 13), frame := some 14 }
abbrev cE : Code := .body bd env
abbrev qf : Pos := ⟨0, 0, 0, 0⟩
abbrev cut (a b : Nat) : List Stmt := (bd.drop a).take (b - a)
end K01H

end
noncomputable section
namespace K01H
open PySem PySem.W PySem.Calls PyProof.Rows HandSHeadRun HG
theorem g0 (w : World) (os : OsState) : first (stepQ (denQ tabQ) Pg w) 12 Pg w os = some (Sa w os, ⟨denQ tabQ cE, cE, posa, [topFrame qf]⟩) := by kernel_rfl
theorem gb (w : World) (os : OsState) : block (stepQ (denQ tabQ) Pg w) 11 an6 1 (Sa w os) ⟨(PySem.W.Fast.tw1066825118222455980 bd env).wrap (fun _ => doneF .next) deadEnd id id, cE, posa, [topFrame qf]⟩ = some (.next, Sa w os, cE, posa) := by kernel_rfl
theorem g1 (w : World) (os : OsState) : block (stepQ (denQ tabQ) Pg w) 11 an6 2040 (Sa w os) ⟨(exQ (cut 0 26) env).wrap doneF deadEnd id id, cE, posa, [topFrame qf]⟩ = some (.next, S1 w os, cE, pos1) := by kernel_rfl
theorem gz (w : World) (os : OsState) : goF (stepQ (denQ tabQ) Pg w) 11 an6 2 (S1 w os) ⟨doneF .next, cE, pos1, [topFrame qf]⟩ = some (Sz w os) := by kernel_rfl
theorem body_cut : bd = cut 0 26 ++ [] := by kernel_rfl
theorem top (w : World) (os : OsState) : topRun treeTable Pg w 11 an6 2055 (bootS w os) (topStub Pg) = some (Sz w os).abs := by
  refine begin_ (g0 w os) (gb w os) (N := 2042) ?_
  have z : topRun treeTable Pg w 11 an6 (2040 + 2) (Sa w os).abs (restOf (cut 0 26 ++ []) env cE posa [topFrame qf]) = some (Sz w os).abs := piece (g1 w os) (last (gz w os))
  rw [← body_cut] at z
  exact z
end K01H

end
/-! E1: a class over ValueError with an own __init__ is called, with keywords too (at the model's level). -/
namespace XMake
open PySem
/-- at C stands such a class, its line of ancestors behind itself is bm -/
def At (h : Heap) (C : Addr) (bm : List Value) : Prop := ∃ nm q N bs dct sn sub ab col dd a0 a1 a2 a3 a5, h.get? C = some (excClassObj nm q C N bs bm dct sn sub ab col dd a0 a1 a2 a3 a5 "ValueError.__new__")
/-- the built-in classes among bm are ValueError's -/
def Over (bm : List Value) : Prop := ∀ T : String, bm.contains (.type T) = [Value.type "ValueError", .type "Exception", .type "BaseException", .type "object"].contains (.type T)
theorem Over.has {bm : List Value} (o : Over bm) (C : Addr) (T : String) (b : Bool) (e : [Value.type "ValueError", .type "Exception", .type "BaseException", .type "object"].contains (.type T) = b) : (Value.ref C :: bm).contains (.type T) = b := by
  have z : (Value.type T == Value.ref C) = false := rfl
  rw [List.contains_cons, z, Bool.false_or]
  exact (o T).trans e
abbrev vf := PySem.F.excBase_ValueError
/-- the heap with a tuple of the arguments and the bare exception behind it -/
abbrev made (h : Heap) (C : Addr) (us : List Value) : Heap := (h.push (W.kdv_tup us)).push (HandSPX.excO C h.objs.size)
section
variable {P : Program} {w : World} {A : Around} {C : Addr} {bm us : List Value} {kw : List (Str × Value)} {h : Heap} {g : Array GenState} {d : Drawn} {t : Nat} {os : OsState}
theorem let_by {M : Model} {E : Value → Shared → Prop} {Q : Unit → Shared → Prop} (c : At h C bm) (o : Over bm) (k : Q () ⟨h, g, d, t, os⟩) : wpAny M A (checkBuiltinCall "ValueError.__new__" ⟨.ref C :: us, kw⟩) Q E ⟨h, g, d, t, os⟩ := by
  obtain ⟨nm, q, N, bs, dct, sn, sub, ab, col, dd, a0, a1, a2, a3, a5, c⟩ := c
  have v := o.has C "ValueError" true rfl
  have star := vf.noStar
  unfold checkBuiltinCall
  simp only [vf.newRow, vf.newSplit, vf.newKind]
  repeat
    first
      | (refine wpAny_isSubtype_exc c ?_
         rw [v])
      | refine wpAny_staticBase_exc c ?_
      | refine wpAny_madeBy_exc c ?_
      | refine wpAny_loadPart_at c ?_
      | simp only [if_false, Bool.false_eq_true, bne_self_eq_false]
      | wp_step
  exact k
theorem new {R : Result → Shared → Prop} (c : At h C bm) (o : Over bm) (l : us.length ≤ sizeLine) (k : R (.ok (.ret (.ref (h.objs.size + 1)))) ⟨made h C us, g, d, t, os⟩) :
    codeAny (model P w) A (.builtin "ValueError.__new__" ⟨.ref C :: us, kw⟩) R ⟨h, g, d, t, os⟩ := by
  obtain ⟨nm, q, N, bs, dct, sn, sub, ab, col, dd, a0, a1, a2, a3, a5, c⟩ := c
  have v := o.has C "ValueError" true rfl
  have v1 := o.has C "AttributeError" false (by decide)
  have v2 := o.has C "NameError" false (by decide)
  have ends := vf.ends
  refine codeAny_builtinAt vf.entry (wpAt_bind ?_)
  refine wpAt_bind (wpAt_stack fun _ _ => wpAt_of_wpAny ?_)
  wp_walk
  refine wpAt_of_wpAny ?_
  rw [vf.owner]
  repeat
    first
      | (with_reducible refine wpAny_isSubtype_exc c ?_
         first
           | rw [v]
           | rw [v1]
           | rw [v2])
      | with_reducible refine wpAny_madeHere_exc vf.canon c ?_
      | with_reducible refine wpAny_loadPart_at c ?_
      | wp_step
  show R (.ok (.ret (.ref (Heap.push h _).objs.size))) _
  rw [Heap.size_push]
  exact k
theorem At.on {h' : Heap} (c : At h C bm) (k : ∀ b o, h.get? b = some o → h'.get? b = some o) : At h' C bm := by
  obtain ⟨nm, q, N, bs, dct, sn, sub, ab, col, dd, a0, a1, a2, a3, a5, c⟩ := c
  exact ⟨nm, q, N, bs, dct, sn, sub, ab, col, dd, a0, a1, a2, a3, a5, k _ _ c⟩
theorem made_keeps (b : Addr) (o : Obj) (e : h.get? b = some o) : (made h C us).get? b = some o := by
  unfold made
  exact Heap.get?_push_of_some _ (Heap.get?_push_of_some _ e)
theorem made_here : (made h C us).get? (h.objs.size + 1) = some (HandSPX.excO C h.objs.size) := by
  unfold made
  heap_get
/-- type.__call__ of the class: made, then its __init__, at f -/
theorem by_type {E : Value → Shared → Prop} {Q : Fin → Shared → Prop} {f : Addr} (c : At h C bm) (o : Over bm) (l : us.length ≤ sizeLine)
    (i : W.Looks (model P w) h (typeLookup (.ref C) "__init__") (some (.ref f))) (b : ∀ x, W.Looks (model P w) h (bindSpecial (.ref f) x) (.ref f, [x]))
    (k : codeAny (model P w) A (.call (.ref f) ⟨.ref (h.objs.size + 1) :: us, kw⟩) (fun r s' => match r with
      | .error e => E e s'
      | .ok (.ret v) => v = .none ∧ Q (.done (.ret (.ref (h.objs.size + 1)))) s'
      | .ok _ => False) ⟨made h C us, g, d, t, os⟩) :
    wpAny (model P w) A (Builtin.«type.__call__» ⟨.ref C :: us, kw⟩) Q E ⟨h, g, d, t, os⟩ := by
  have c' := c
  obtain ⟨nm, q, N, bs, dct, sn, sub, ab, col, dd, a0, a1, a2, a3, a5, z⟩ := c'
  have z2 := made_keeps (C := C) (us := us) _ _ z
  have self := made_here (h := h) (C := C) (us := us)
  have own : (Value.ref C :: bm).contains (.ref C) = true := List.contains_iff_mem.mpr List.mem_cons_self
  have i2 := i.keeps (made_keeps (C := C) (us := us))
  have b2 := (b (.ref (h.objs.size + 1))).keeps (made_keeps (C := C) (us := us))
  repeat
    first
      | with_reducible refine wpAny_madeBy_exc z ?_
      | with_reducible refine wpAny_loadPart_at z ?_
      | wp_step
  refine codeAny_call_builtin_code (Code.quiet_builtin _ vf.quiet) (let_by c o (new c o l ?_))
  show wpAny _ _ _ _ _ _
  unfold isInstance
  repeat
    first
      | (with_reducible refine wpAny_isSubtype_exc z2 ?_
         rw [own])
      | with_reducible refine wpAny_loadPart_at self ?_
      | wp_step
  refine i2.at (wpAny_holding (wpAny_bind (b2.at (wpAny_bind (wpAny_call (codeAny_mono k fun r s' y => ?_))))))
  match r, y with
  | .error e, y => exact y
  | .ok (.ret v), y =>
    obtain ⟨rfl, y⟩ := y
    first
      | exact wpAny_pure (wpAny_pure y)
      | (wp_walk; exact y)
  | .ok .next, y => exact y.elim
  | .ok .brk, y => exact y.elim
  | .ok .cont, y => exact y.elim
/-- the class is called -/
theorem called {R : Result → Shared → Prop} {f : Addr} (c : At h C bm) (o : Over bm) (l : us.length ≤ sizeLine)
    (i : W.Looks (model P w) h (typeLookup (.ref C) "__init__") (some (.ref f))) (b : ∀ x, W.Looks (model P w) h (bindSpecial (.ref f) x) (.ref f, [x]))
    (k : codeAny (model P w) (A.under (.builtin "type.__call__" ⟨.ref C :: us, kw⟩)) (.call (.ref f) ⟨.ref (h.objs.size + 1) :: us, kw⟩) (W.InitBack (h.objs.size + 1) R) ⟨made h C us, g, d, t, os⟩) :
    codeAny (model P w) A (.call (.ref C) ⟨us, kw⟩) R ⟨h, g, d, t, os⟩ := by
  have c' := c
  obtain ⟨nm, q, N, bs, dct, sn, sub, ab, col, dd, a0, a1, a2, a3, a5, z⟩ := c'
  have t1 := tc_bind (.ref C)
  have t2 := tc_lookup
  have ty : (⟨h, g, d, t, os⟩ : Shared).TypeIs (.ref C) "type" := ⟨_, z, rfl⟩
  apply codeAny_of_tree
  show wpAny (model P w) _ (callAny (.ref C) _) _ _ _
  repeat
    any_goals
      first
        | with_reducible refine wpAny_loadPart_at z ?_
        | assumption
        | wp_step
  refine ⟨rfl, codeAny_call_builtin_at (Code.quiet_builtin _ (by decide +kernel)) entry_typeCall (wpAny_check_type_call_sub z (by_type c o l i b (codeAny_mono k fun r s' y => ?_)))⟩
  match r, y with
  | .error e, y => exact y
  | .ok (.ret v), y => exact y
  | .ok .next, y => exact y
  | .ok .brk, y => exact y
  | .ok .cont, y => exact y
end
end XMake

namespace L2
open PySem PySem.Spec PyProof.Rows
/-- C(.., k = v, ..), C an exception class of one's own with its own __init__: the new exception is a value -/
def tMkX (C : Addr) (n m : Nat) (sp : Sp) (gV : List V → List V → List V) (t tk : TA) : TE := fun σ H Q => t σ H fun vs H1 => tk σ H1 fun zs H2 => vs.length = n ∧ n ≤ 1000 ∧ zs.length = m ∧
  ∀ a, H2 a = none → sp (gV (.ref a :: vs) zs) (upd H2 a (exo a C none)) (fun v H3 => v = .non ∧ Q (.ref a) H3) (fun _ _ _ => False)
section
variable {X : Cx} {CX : CXT} {k n : Nat} {f C : Addr} {fd : FuncData} {ps ks : List Str} {sp : Sp} {x : Str} {p pos : Pos} {e : Expr} {es : List Expr} {kws : List Keyword} {t tk : TA} {g : List Value → List Value → List Value} {gV : List V → List V → List V}
/-- what is known of the class and of its __init__ -/
structure MkX (X : Cx) (CX : CXT) (k : Nat) (C f : Addr) (fd : FuncData) (ps : List Str) (sp : Sp) : Prop where
  cls : OexC X.K C
  ini : PySem.W.findIn X.K (.ref C) "__init__" = some (some (.ref f))
  fun_ : PySem.W.typeIn X.K (.ref f) = some (.type "function")
  ok : FnOk X.prog X.w X.K X.mg X.base CX k f fd ps sp
  room : Room (k + 1) X.A
  pass : Passes CX X (fun _ _ _ => False)
theorem MkX.run {pins : List (Addr × Obj)} {σ : St} {H : Hp} {s : Shared} {Q : VK} {us ws : List Value} {vs zs : List V} (M : MkX X CX k C f fd ps sp) (B : KBn X.K fd ps (n + 1) ks g gV)
    (I : Inv X pins σ H s) (r : Vals vs us) (rz : Vals zs ws) (l1 : vs.length = n) (l0 : n ≤ 1000) (l2 : zs.length = ks.length)
    (go : ∀ a, H a = none → sp (gV (.ref a :: vs) zs) (upd H a (exo a C none)) (fun v H2 => v = .non ∧ Q (.ref a) H2) (fun _ _ _ => False)) :
    wpAny (model X.prog X.w) X.A (call (.ref C) us (ks.zip ws)) (EP X pins σ Q) X.xe s := by
  obtain ⟨hp, gs, dr, tk, os⟩ := s
  obtain ⟨nm, q, N, bs, bm, sn, sub, ab, col, dd, a0, a1, a2, a3, a5, lk, anc⟩ := M.cls.cls
  have at_ : XMake.At hp C bm := ⟨nm, q, N, bs, true, sn, sub, ab, col, dd, a0, a1, a2, a3, a5, I.kIn _ _ lk⟩
  have over : XMake.Over bm := fun T => PySem.HandSPX.refsVE_contains T bm anc
  have few : us.length ≤ sizeLine := by
    have z := r.length
    rw [sizeLine_eq]
    omega
  -- the new exception's address
  obtain ⟨a, ea⟩ : ∃ a, a = hp.objs.size + 1 := ⟨_, rfl⟩
  have le : hp.objs.size ≤ a := by omega
  have free : H a = none := I.hok.fresh le
  have here : (XMake.made hp C us).get? a = some (PySem.HandSPX.excO C hp.objs.size) := by
    rw [ea]
    exact XMake.made_here
  have J : Inv X pins σ (upd H a (exo a C none)) ⟨XMake.made hp C us, gs, dr, tk, os⟩ := I.laid (t' := tk) (h' := XMake.made hp C us) XMake.made_keeps le (exo_ok here)
  have num : (Value.ref a :: us).length = n + 1 := by
    have z := r.length
    simp only [List.length_cons]
    omega
  have bound := B.to ⟨XMake.made hp C us, gs, dr, tk, os⟩ (Value.ref a :: us) ws J.kIn num (rz.length.symm.trans l2)
  have init := M.ok.run _ X.stack _ _ ⟨Value.ref a :: us, ks.zip ws⟩ (g (Value.ref a :: us) ws) _ _ (fun _ _ _ => False) (M.room.make C us (ks.zip ws)) (J.env0.make C us (ks.zip ws)) bound (B.rel (show Vals (V.ref a :: vs) (Value.ref a :: us) from .cons rfl r) rz) (go a free)
  refine wpAny_call (XMake.called at_ over few (PySem.W.looks_findIn I.kIn M.ini) (fun z => PySem.W.bind_fn I.kIn z M.fun_) ?_)
  rw [← ea]
  refine codeAny_mono init fun r s' z => ?_
  match r, z with
  | .error u, z => exact M.pass pins σ _ _ u s' J z
  | .ok (.ret u), z =>
    obtain ⟨v, H', L, rv, ev, y⟩ := J.after z
    rw [ev] at rv
    exact ⟨rv, .ref a, H', L, rfl, y⟩
  | .ok .next, z => exact z.elim
  | .ok .brk, z => exact z.elim
  | .ok .cont, z => exact z.elim
/-- C(e, ..) -/
theorem pe_mkX (T : OexC X.K C) (iC : PySem.W.findIn X.K (.ref C) "__init__" = some (some (.ref f))) (tI : PySem.W.typeIn X.K (.ref f) = some (.type "function"))
    (F : FnOk X.prog X.w X.K X.mg X.base CX k f fd ps sp) (hr : Room (k + 1) X.A) (hb : KBn X.K fd ps (n + 1) [] g gV) (hx : Passes CX X (fun _ _ _ => False)) (hg : Gl X x) (hm : X.mg x = some (.ref C)) (ha : PA X (e :: es) t)
    (dbg : (x == ("__debug__" : Str)) = false := by decide) (stars : starEach (e :: es) X.env = (false, eval e X.env) :: starEach es X.env := by rfl) (plain : (backTo pos (starEach es X.env)).any (·.1) = false := by rfl) :
    PE X (.Call (.Name x p) (e :: es) [] pos) (tMkX C n 0 sp gV t tNil) := ⟨fun pins s σ H Q I h => wpAny_Call_Name_kw (ld_glob I hg hm (PySem.W.callWith_K (h₀ := X.base) I.ok.mod.kin T.kC (thn (ha.run pos pins s σ H _ I h) fun us s1 ⟨vs, H1, I1, r1, l1, l0, _, q1⟩ =>
      ⟨I1.kIn, MkX.run (ks := []) (ws := []) (zs := []) ⟨T, iC, tI, F, hr, hx⟩ hb I1 r1 .nil l1 l0 rfl q1⟩) stars plain) dbg)⟩
/-- C(k = v, ..) -/
theorem pe_mkXK (T : OexC X.K C) (iC : PySem.W.findIn X.K (.ref C) "__init__" = some (some (.ref f))) (tI : PySem.W.typeIn X.K (.ref f) = some (.type "function"))
    (F : FnOk X.prog X.w X.K X.mg X.base CX k f fd ps sp) (hr : Room (k + 1) X.A) (hb : KBn X.K fd ps 1 ks g gV) (hx : Passes CX X (fun _ _ _ => False)) (hg : Gl X x) (hm : X.mg x = some (.ref C)) (hkw : PK X kws tk)
    (named : (backToKw pos (keywordEach kws X.env)).all (·.1.isSome) = true := by rfl) (names : (backToKw pos (keywordEach kws X.env)).filterMap (·.1) = ks := by rfl) (dbg : (x == ("__debug__" : Str)) = false := by decide)
    (plain : ((backTo pos (starEach [] X.env)).any (·.1) || (backToKw pos (keywordEach kws X.env)).any (·.1.isNone)) = false := by rfl) :
    PE X (.Call (.Name x p) [] kws pos) (tMkX C 0 ks.length sp gV tNil tk) := ⟨fun pins s σ H Q I h => wpAny_Call_Name_kw (ld_glob I hg hm (PySem.W.callWith_KW0 (h₀ := X.base) I.ok.mod.kin T.kC named (thn (hkw.run pos pins s σ H _ I h) fun ws s2 ⟨zs, H2, I2, rz, l1, l0, l2, q2⟩ =>
      ⟨I2.kIn, by
        rw [names]
        exact MkX.run (us := []) (vs := []) (n := 0) ⟨T, iC, tI, F, hr, hx⟩ hb I2 .nil rz rfl l0 l2 q2⟩) plain) dbg)⟩
end
/-! ### reading a field, isinstance -/
/-- e.f of an exception that is a value -/
def tXv (K : PySem.W.Frag) (f : Str) (te : TE) : TE := fun σ H Q => te σ H fun x H1 => ∃ (a C d : Addr) (fs : List (Str × V)) (v : V), x = .ref a ∧ H1 a = some (exo a C (some d)) ∧ H1 d = some (exd d fs) ∧ XfC K C ∧ PySem.W.findIn K (.ref C) f = some none ∧ fs.lookup f = some v ∧ Q v H1
theorem pe_xv {X : Cx} {e : Expr} {te : TE} {pos : Pos} {n : Str} (he : PE X e te) (base : attributeBase e n X.env (eval e X.env) = eval e X.env := by rfl) : PE X (.Attribute e n pos) (tXv X.K n te) := ⟨fun pins s σ H Q I h => attr_of base (thn (he.run pins s σ H _ I h) fun u s1 hh => by
  obtain ⟨x, H1, J, rx, a, C, d, fs, v, rfl, ea, ed, T, no, lf, q⟩ := hh
  obtain ⟨m, hm, rel⟩ := exd_at J.hok ed
  obtain ⟨od, at_, look⟩ := lookIn_ns hm
  obtain ⟨y, hy, ry⟩ := RelO.some_of (v := v) (o := m n) (lf ▸ rel n)
  obtain ⟨_, ho⟩ := exo_at J.hok ea
  have rx : u = Value.ref a := rx
  subst rx
  have own : PySem.W.InstAt s1.heap a _ C (some od) := ⟨ho, rfl, rfl, at_⟩
  exact HandSPX.exc_get J.kIn own T.ga T.gg T.exC (PySem.W.findObj_own T.hdC no rfl ((look n).trans (by rw [hy]))) (handed_of ry) ⟨v, H1, J.tok _, ry, q⟩)⟩
end L2

namespace L2
open PySem PySem.Spec PyProof.Rows
/-- an exception that is a value: of the class D -/
def IsX (H : Hp) (a D : Addr) : Prop := H a = some (exo a D none) ∨ ∃ d fs, H a = some (exo a D (some d)) ∧ H d = some (exd d fs)
def rIsX (K : PySem.W.Frag) : List V → Hp → VK → Prop := fun xs H Q => ∃ (a D : Addr) (c : V) (cv : Value) (b : Bool), xs = [.ref a, c] ∧ IsX H a D ∧ ExcC K D ∧ (∀ u, RelV c u → u = cv) ∧ PySem.W.kitOne K (.ref D) cv = some b ∧ Q (.bl b) H
theorem ExcC.kit {K : PySem.W.Frag} {D x : Addr} {ox : Obj} {od : Option Obj} (C : ExcC K D) : PySem.W.KitX K (.ref x) (.ref D) fun h => PySem.W.InstAt h x ox D od := by
  obtain ⟨cd, hc, _⟩ := PySem.W.any_some C.hd
  exact PySem.W.kitx_exc (by rw [hc]; rfl) C.hg C.hk C.hs C.ha C.hn C.ht C.hm
/-- such an exception stands in memory as an instance of its class -/
theorem IsX.inst {P : Program} {w : World} {H : Hp} {h : Heap} {a D : Addr} (k : HOk P w H h) (x : IsX H a D) : ∃ ox od, PySem.W.InstAt h a ox D od := by
  rcases x with x | ⟨d, fs, x, y⟩
  · obtain ⟨_, e⟩ := exo_at k x
    exact ⟨_, none, e, rfl, rfl, trivial⟩
  · obtain ⟨_, e⟩ := exo_at k x
    obtain ⟨m, n, _⟩ := exd_at k y
    obtain ⟨od, z, _⟩ := lookIn_ns n
    exact ⟨_, some od, e, rfl, rfl, z⟩
theorem call_isX {X : Cx} : CallR X (.builtin "isinstance") (rIsX X.K) := fun pins s σ H xs us Q I rel ⟨a, D, c, cv, b, ex, x, C, one, ans, q⟩ => by
  subst ex
  obtain ⟨u, v, rfl, ru, rv⟩ := vals2 rel
  have ru : u = Value.ref a := ru
  have ev := one v rv
  subst ru ev
  obtain ⟨ox, od, J⟩ := x.inst I.hok
  exact PySem.W.kia_one C.kit I.kIn J ans (fun z => nomatch z) fun tt => ⟨.bl b, H, I.kept (t' := tt) fun _ _ z => z, rfl, q⟩
/-- C(), no __init__ of its own -/
def tMk0 (C : Addr) : TE := fun σ H Q => ∀ a, H a = none → Q (.ref a) (upd H a (exo a C none))
theorem pe_mk0 {X : Cx} {C : Addr} {bmB : List Value} {B newId initId : String} {x : Str} {p pos : Pos} (F : ExcBaseFacts B newId initId bmB) (q : PySem.W.excIn X.K C bmB newId = true) (gC : X.mg x = some (.ref C)) (kC : PySem.W.keepIn X.K (.ref C) = true) (hg : Gl X x)
    (dbg : (x == ("__debug__" : Str)) = false := by decide) : PE X (.Call (.Name x p) [] [] pos) (tMk0 C) := ⟨fun pins s σ H Q I h => by
  refine wpAny_Call_Name_kw (ld_glob I hg gC (PySem.W.callWith_K0 I.kIn kC ?_) dbg)
  obtain ⟨bm, N, nm, qn, bs, dct, sn, sub, ab, col, dd, a0, a1, a2, a3, a5, mN, c1, c2, c3, T⟩ := exc_obj I.kIn q
  obtain ⟨hp, gs, dr, t, os⟩ := s
  refine wpAny_call_exc_subT F T c1 c2 c3 (fun h' e m => ?_) (Nat.zero_le sizeLine)
  have free : H e = none := I.hok.gone m.new
  obtain ⟨_, here, _, _⟩ := m.there
  exact ⟨.ref e, _, I.laidN (t' := t) m.keeps m.new free (exo_ok here), rfl, h e free⟩⟩
end L2

namespace LamV
open PySem PySem.Spec PyProof.Rows L2 LamX NdefX
/-- the words of a lambda that captures nothing -/
structure LF where
  qual : Str
  params : Arguments
  body : Expr
  scope : Scope
/-- the object at f is the lambda F with the code object c -/
def LamO (f c : Addr) (F : LF) : HO := .ext fun h => ∃ (pm ctv : Value), h.get? f = some (PySem.W.kla_obj "<lambda>" F.qual F.params F.body F.scope [] pm c ctv)
theorem lamO_at {P : Program} {w : World} {H : Hp} {h : Heap} {f c : Addr} {F : LF} (hok : HOk P w H h) (e : H f = some (LamO f c F)) : ∃ (pm ctv : Value), h.get? f = some (PySem.W.kla_obj "<lambda>" F.qual F.params F.body F.scope [] pm c ctv) := by
  obtain ⟨z, _, _⟩ := hok f _ e
  exact z
def IsLam (H : Hp) (f : Addr) (F : LF) : Prop := ∃ c, H f = some (LamO f c F) ∧ H c = some (CodeO c F.qual)
section
variable {X : Cx} {pins : List (Addr × Obj)} {σ : L2.St} {H : Hp} {s : Shared}
theorem clo_none {cells : List (Str × Addr)} {names : List (Str × NameKind)} (h : ∀ y ∈ names, y.2 ≠ .free) : cloFrom cells names [] = [] := by
  cases e : cloFrom cells names [] with
  | nil => rfl
  | cons p l =>
    have m : (p.1, p.2) ∈ cloFrom cells names [] := e ▸ List.mem_cons_self
    rcases cloFrom_mem m with z | ⟨z, _⟩
    · exact nomatch z
    · exact (h _ z rfl).elim
/-- the abstract heap with one more code object c in the table P -/
noncomputable abbrev more (H : Hp) (P : Addr) (ps : Array Value) (pos : Pos) (c : Addr) (q : Str) : Hp := upd (upd H P (.tbl (ps ++ #[rawInt pos.line, rawInt pos.col, .ref c]))) c (CodeO c q)
theorem more_ext {P c : Addr} {ps : Array Value} {pos : Pos} {q : Str} (hP : H P = some (.tbl ps)) (free : H c = none) : ExtN H (more H P ps pos c q) := by
  intro b o e n
  have ne : b ≠ P := by
    rintro rfl
    exact n ps (Option.some.inj (e.symm.trans hP))
  exact (upd_ne (ne_of_none e free)).trans ((upd_ne ne).trans e)
theorem more_tabs {T : List (Addr × Str)} {P c : Addr} {ps : Array Value} {pos : Pos} {q : Str} (t : Tabs T H) (only : ∀ p ∈ T, p.1 = P → p.2 = q) (hP : H P = some (.tbl ps)) (free : H c = none) : Tabs T (more H P ps pos c q) := by
  have ext := more_ext (pos := pos) (q := q) hP free
  rintro ⟨A, r⟩ m
  obtain ⟨rs, e, ok, tells⟩ := t _ m
  by_cases z : A = P
  · subst z
    cases e.symm.trans hP
    have eq : r = q := only _ m rfl
    subst eq
    have l : (ps ++ #[rawInt pos.line, rawInt pos.col, .ref c]).toList = ps.toList ++ [rawInt pos.line, rawInt pos.col, .ref c] := by rw [Array.toList_append]
    refine ⟨_, (upd_ne (ne_of_none hP free)).trans upd_same, l ▸ TriplesOk_snoc _ _ _ _ ok, fun p' cv y => ?_⟩
    rw [l] at y
    rcases among_app _ ok y with y | y
    · obtain ⟨d, d1, d2⟩ := tells p' cv y
      exact ⟨d, d1, ext _ _ d2 codeO_ne⟩
    · exact ⟨c, y, upd_same⟩
  · refine ⟨rs, (upd_ne (ne_of_none e free)).trans ((upd_ne z).trans e), ok, fun p' cv y => ?_⟩
    obtain ⟨d, d1, d2⟩ := tells p' cv y
    exact ⟨d, d1, ext _ _ d2 codeO_ne⟩
/-- the function object is laid down -/
theorem lam_laid {F : LF} {c : Addr} {tk : Nat} {pm ctv : Value} {H0 : Hp} {T : List (Addr × Str)} (J : Inv X pins σ H s) (ext : ExtN H0 H) (t : Tabs T H) (hc : H c = some (CodeO c F.qual)) :
    ∃ H1, Inv X pins σ H1 { s with heap := s.heap.push (PySem.W.kla_obj "<lambda>" F.qual F.params F.body F.scope [] pm c ctv), toks := tk } ∧ ExtN H0 H1 ∧ Tabs T H1 ∧ IsLam H1 s.heap.objs.size F := by
  have free : H s.heap.objs.size = none := J.hok.fresh (Nat.le_refl _)
  have at_ : (s.heap.push (PySem.W.kla_obj "<lambda>" F.qual F.params F.body F.scope [] pm c ctv)).get? s.heap.objs.size = some _ := Heap.get?_push_size s.heap rfl
  have keep : ∀ b o, H b = some o → upd H s.heap.objs.size (LamO s.heap.objs.size c F) b = some o := fun b o e => (upd_ne (ne_of_none e free)).trans e
  refine ⟨upd H s.heap.objs.size (LamO s.heap.objs.size c F), J.laid (fun b u e => Heap.get?_push_of_some _ e) (Nat.le_refl _) ⟨⟨pm, ctv, at_⟩, ⟨_, at_⟩, ?_⟩, fun b o e n => keep b o (ext b o e n), t.ext keep, c, upd_same, keep _ _ hc⟩
  rintro _ _ ⟨p, u, z⟩ st
  exact ⟨p, u, st _ z⟩
theorem lam_makeV {T : List (Addr × Str)} {c P : Addr} {params : Arguments} {body : Expr} {scope : Scope} {pos : Pos} {E : Value → Shared → Prop} {Q : Value → Shared → Prop} (I : Inv X pins σ H s) (TB : TabB X.base X.mg c P) (own : X.env.code = .ref c)
    (hm : (P, X.env.qual ++ "<lambda>") ∈ T) (only : ∀ p ∈ T, p.1 = P → p.2 = X.env.qual ++ "<lambda>") (t : Tabs T H) (hdef : defaultsOf params X.env = ([], [])) (hfree : ∀ y ∈ scope.names, y.2 ≠ .free)
    (h : ∀ (f : Addr) (H1 : Hp) (s' : Shared), Inv X pins σ H1 s' → ExtN H H1 → Tabs T H1 → H f = none → IsLam H1 f ⟨X.env.qual ++ "<lambda>", params, body, scope⟩ → Q (.ref f) s') :
    wpAny (model X.prog X.w) X.A (eval (.Lambda params body scope pos) X.env) Q E s := by
  obtain ⟨ps, eP, ok, tells⟩ := t _ hm
  have clo : closureFor scope X.env = pure [] := (closure_ok (scope := scope) (env := X.env) fun y m z => (hfree y m z).elim).trans (congrArg pure (clo_none hfree))
  have glob := I.mod.glob.keeps I.bk
  have code := TB.code.keeps I.bk
  have rows : s.heap.get? P = some { cls := .none, data := .fields ps } := I.hok P _ eP
  refine PySem.W.kla_eval hdef ?_
  cases am : codeAmong pos ps.toList with
  | some cv =>
    obtain ⟨d, rfl, d2⟩ := tells pos cv am
    refine PySem.W.kla_makeFunctionHit (mg := X.mg) (c := c) (P := P) (ps := ps) clo I.ok.glob glob own code rows ok am (TB.bm.keeps I.bk) fun ctv h' tk keep _ => ?_
    have J : Inv X pins σ H { s with heap := h', toks := tk } := I.kept keep
    obtain ⟨H1, J1, e1, t1, l1⟩ := lam_laid (F := ⟨X.env.qual ++ "<lambda>", params, body, scope⟩) (tk := tk) (pm := (X.mg "__name__").getD .none) (ctv := ctv) J (ExtN.refl H) t d2
    exact h _ H1 _ J1 e1 t1 (J.hok.fresh (Nat.le_refl _)) l1
  | none =>
    refine PySem.W.kla_makeFunction (mg := X.mg) (c := c) (P := P) (ps := ps) clo I.ok.glob glob own code rows ok am TB.gP (TB.bm.keeps I.bk) fun d ctv h' tk keep ge lt rec grew => ?_
    obtain ⟨d', oc, vs, tok, ed, r1, r2, r3⟩ := rec
    cases ed
    have free : H d = none := I.hok.fresh ge
    have J := inv_table (t' := tk) (more := #[rawInt pos.line, rawInt pos.col, .ref d]) I eP (fun b o n e => keep b o n e) grew ge ⟨oc, vs, tok, r1, r2, r3⟩
    obtain ⟨H1, J1, e1, t1, l1⟩ := lam_laid (F := ⟨X.env.qual ++ "<lambda>", params, body, scope⟩) (tk := tk) (pm := (X.mg "__name__").getD .none) (ctv := ctv) J (more_ext eP free) (more_tabs t only eP free) upd_same
    exact h _ H1 _ J1 e1 t1 (I.hok.fresh (Nat.le_trans ge (Nat.le_of_lt lt))) l1
end
/-- the reading of a lambda as a value -/
def tLamV (T : List (Addr × Str)) (F : LF) : TE := fun σ H Q => Tabs T H ∧ ∀ (f : Addr) (H1 : Hp), ExtN H H1 → Tabs T H1 → H f = none → IsLam H1 f F → Q (.ref f) H1
theorem pe_lamV {X : Cx} {T : List (Addr × Str)} {c P : Addr} {params : Arguments} {body : Expr} {scope : Scope} {pos : Pos} {q : Str} (TB : TabB X.base X.mg c P) (hcode : X.env.code = .ref c) (hq : X.env.qual ++ "<lambda>" = q)
    (hm : (P, q) ∈ T) (hu : ∀ p ∈ T, p.1 = P → p.2 = q) (hdef : defaultsOf params X.env = ([], [])) (hfree : ∀ y ∈ scope.names, y.2 ≠ .free) : PE X (.Lambda params body scope pos) (tLamV T ⟨q, params, body, scope⟩) := by
  subst hq
  refine ⟨fun pins s σ H Q I h => ?_⟩
  obtain ⟨hT, h⟩ := h
  exact lam_makeV I TB hcode hm hu hT hdef hfree fun f H1 s' I1 e1 e2 e3 e4 => ⟨.ref f, H1, I1, rfl, h f H1 e1 e2 e3 e4⟩
/-! ### its promise -/
structure LOk (P : Program) (w : World) (K : PySem.W.Frag) (mg : Str → Option Value) (base : Heap) (CX : CXT) (k : Nat) (F : LF) (sp : Sp) : Prop where
  run : ∀ (f : Addr) (A : Around) (outer : List Env) (s : Shared) (H : Hp) (us : List Value) (vs : List V) (Q : VK) (E : XK), Room k A → Env0 P w K mg base A outer s H → IsLam H f F → Vals vs us → sp vs H Q E →
    codeAny (model P w) A (.call (.ref f) ⟨us, []⟩) (CR CX outer P w H s Q E) s
abbrev nfOf (F : LF) (c : Addr) : NF := ⟨"<lambda>", F.qual, F.params, [], F.scope, [], c⟩
theorem lok_of {CX : CXT} {P : Program} {w : World} {K : PySem.W.Frag} {mg : Str → Option Value} {base : Heap} {ps : List Str} {F : LF} {k : Nat} {sp : Sp} (S : NScope ps ps [] F.scope)
    (bind : ∀ (pm cv ctv : Value) (us : List Value), us.length = ps.length → bindArgs (PySem.W.kla_fn "<lambda>" F.qual F.params F.body F.scope [] pm cv ctv) ⟨us, []⟩ = pure (ps.zip us)) (len : ∀ vs H Q E, sp vs H Q E → vs.length = ps.length)
    (hbody : ∀ (f c : Addr) (A : Around) (outer : List Env) (s : Shared) (H : Hp) (vs : List V) (Q : VK) (E : XK), Room k (A.deeper (envF (nfOf F c) f s.heap.objs.size)) → sp vs H Q E →
      ∃ t, PE (ncx CX P w K mg base ps (nfOf F c) f A outer s H E) F.body t ∧ t (startF ps vs []) H Q) : LOk P w K mg base CX (k + 1) F sp := ⟨fun f A outer s H us vs Q E room e0 ⟨c, isF, isC⟩ rel want => by
  have many := len _ _ _ _ want
  obtain ⟨pm, ctv, obj⟩ := lamO_at e0.hok isF
  obtain ⟨t, pe, rd⟩ := hbody f c A outer s H vs Q E (room.deeper _) want
  have nl : s.heap.NoLimit := e0.mod.nolimit.keeps fun b o z => (e0.bs b o z).1
  have cells : CellsAt (nfOf F c).cl [] [] s.heap H := ⟨rfl, fun _ _ z => (nomatch (show (none : Option Addr) = some _ from z)), fun _ _ _ z => (nomatch (show (none : Option Addr) = some _ from z)), fun _ _ z => by simp at z⟩
  refine PySem.W.kla_callFunE room.depth obj rfl S.co S.gen rfl (codeO_at e0.hok isC) ?_
  rw [bind pm (.ref c) ctv us (rel.length.symm.trans many)]
  refine wpAny_pure (wpAny_newFunctionEnv S.nocell (fun y m => S.par y.1 (List.of_mem_zip m).1) (fun g space but => ⟨nl.fresh _ but, ?_⟩) S.kind)
  have J : Inv (ncx CX P w K mg base ps (nfOf F c) f A outer s H E) [] (startF ps vs []) H { s with heap := g, toks := s.toks + (ps.zip us).length } :=
    inv_startN S room.hd e0 many rel cells space fun b o z => but.extBut b o (Nat.ne_of_lt (Heap.lt_size z)) (Heap.get?_push_of_some _ z)
  show codeAny (model P w) _ (.expr F.body _) _ _
  refine PySem.W.kla_codeExpr (wpAny_mono (pe.run [] _ _ H Q J rd) ?_ fun _ _ z => z)
  rintro v s' ⟨x, H', L, rx, q⟩
  exact ⟨x, H', L.os, L.bare, L.base, L.hok, rx, q⟩⟩
/-! ### a call of a name that holds a lambda -/
def tLCall (i : Nat) (LK : LF → Sp → Prop) (E : XK) (ta : TA) : TE := fun σ H Q => ∃ (f : Addr) (F : LF) (sp : Sp), σ[i]? = some (some (.ref f)) ∧ IsLam H f F ∧ LK F sp ∧ ta σ H fun vs H1 => IsLam H1 f F ∧ sp vs H1 Q E
theorem IsLam.fn {X : Cx} {pins : List (Addr × Obj)} {σ : L2.St} {H : Hp} {s : Shared} {f : Addr} {F : LF} (l : IsLam H f F) (J : Inv X pins σ H s) : PySem.W.FnAt f s.heap := by
  obtain ⟨c, isF, _⟩ := l
  obtain ⟨pm, ctv, z⟩ := lamO_at J.hok isF
  exact ⟨_, _, _, _, z⟩
theorem pe_lcall {X : Cx} {CX : CXT} {k i : Nat} {x : Str} {e : Expr} {es : List Expr} {ta : TA} {p pos : Pos} {LK : LF → Sp → Prop} {E : XK} (hL : ∀ F sp, LK F sp → LOk X.prog X.w X.K X.mg X.base CX k F sp) (hr : Room k X.A) (hx : Passes CX X E)
    (hN : X.N[i]? = some x) (hv : Vis X.env.scope x) (ha : PA X (e :: es) ta) (hd : (x == ("__debug__" : Str)) = false := by decide) (hcd : (x == ("__classdict__" : Str)) = false := by decide)
    (stars : starEach (e :: es) X.env = (false, eval e X.env) :: starEach es X.env := by rfl) (plain : (backTo pos (starEach es X.env)).any (·.1) = false := by rfl) :
    PE X (.Call (.Name x p) (e :: es) [] pos) (tLCall i LK E ta) := ⟨fun pins s σ H Q I ⟨f, F, sp, at_, lam, ok, h⟩ => by
  refine wpAny_Call_Name_kw (thn ((pe_var (pos := p) (i := i) hN hv hd hcd).run pins s σ H (fun v H1 => v = .ref f ∧ H1 = H) I ⟨.ref f, at_, rfl, rfl⟩) ?_)
  rintro u s1 ⟨v, H1, J, ru, ev, eH⟩
  rw [ev] at ru
  rw [eH] at J
  have ru : u = Value.ref f := ru
  subst ru
  refine PySem.W.callWith_F (lam.fn J) (thn (ha.run pos pins s1 σ H _ J h) ?_) stars plain
  rintro us s2 ⟨vs, H2, L, rel, lam2, want⟩
  refine ⟨lam2.fn L, wpAny_call (codeAny_mono ((hL F sp ok).run f X.A X.stack s2 H2 us vs Q E hr L.env0 lam2 rel want) fun r s' z => ?_)⟩
  match r, z with
  | .error y, z => exact hx pins σ H2 s2 y s' L z
  | .ok (.ret y), z => exact L.after z
  | .ok .next, z => exact z.elim
  | .ok .brk, z => exact z.elim
  | .ok .cont, z => exact z.elim⟩
end LamV

namespace L2
open PySem PySem.Spec PyProof.Rows
def keyD : Key → PyData
  | .inl i => .int i
  | .inr x => .str x
/-- the value v, read through H, is the datum d; nesting below n -/
def RdD (H : Hp) : Nat → V → PyData → Prop
  | 0 => fun _ _ => False
  | n + 1 => fun v d => match d with
    | .none => v = .non
    | .bool b => v = .bl b
    | .int i => v = .int i
    | .str x => v = .str x
    | .list xs => ∃ a ys, v = .ref a ∧ H a = some (.lst ys) ∧ Paired (RdD H n) ys xs
    | .tuple xs => ∃ a ys, v = .ref a ∧ H a = some (.tup ys) ∧ Paired (RdD H n) ys xs
    | .dict kvs => ∃ a ks, v = .ref a ∧ H a = some (.dK ks) ∧ Paired (fun (p : Key × V) (q : PyData × PyData) => q.1 = keyD p.1 ∧ RdD H n p.2 q.2) ks kvs
theorem RdD.ext {H H' : Hp} (e : ∀ b o, H b = some o → (∃ xs, o = .lst xs) ∨ (∃ xs, o = .tup xs) ∨ (∃ xs, o = .dK xs) → H' b = some o) : ∀ {n : Nat} {v : V} {d : PyData}, RdD H n v d → RdD H' n v d
  | 0, _, _, h => h.elim
  | n + 1, v, d, h => by
    cases d with
    | none => exact h
    | bool b => exact h
    | int i => exact h
    | str x => exact h
    | list xs =>
      obtain ⟨a, ys, h1, h2, h3⟩ := h
      exact ⟨a, ys, h1, e _ _ h2 (.inl ⟨_, rfl⟩), Paired.mapP h3 fun _ _ z => RdD.ext e z⟩
    | tuple xs =>
      obtain ⟨a, ys, h1, h2, h3⟩ := h
      exact ⟨a, ys, h1, e _ _ h2 (.inr (.inl ⟨_, rfl⟩)), Paired.mapP h3 fun _ _ z => RdD.ext e z⟩
    | dict kvs =>
      obtain ⟨a, ys, h1, h2, h3⟩ := h
      exact ⟨a, ys, h1, e _ _ h2 (.inr (.inr ⟨_, rfl⟩)), Paired.mapP h3 fun _ _ z => ⟨z.1, RdD.ext e z.2⟩⟩
section
variable {P : Program} {w : World} {H : Hp} {h : Heap}
theorem reads_all {F : V → PyData → Prop} (ih : ∀ v d u, F v d → RelV v u → ∃ as, Reads h u d as ∧ sysModules ∉ as) : ∀ {ys : List V} {xs : List PyData} {us : List Value}, Paired F ys xs → Vals ys us → ∃ as, ReadsAll h us xs as ∧ sysModules ∉ as
  | _, _, _, .nil, .nil => ⟨[], .nil, by simp⟩
  | _, _, _, .cons f t, .cons r q => by
    obtain ⟨a1, r1, n1⟩ := ih _ _ _ f r
    obtain ⟨a2, r2, n2⟩ := reads_all ih t q
    exact ⟨a1 ++ a2, .cons r1 r2, fun z => (List.mem_append.mp z).elim n1 n2⟩
theorem reads_keys {F : V → PyData → Prop} : ∀ {ks : List (Key × V)} {vs : List (Key × Value)} {es : List DictEntry} {kvs : List (PyData × PyData)}, KV ks vs → Pairs (mixKind P w) es vs → Paired (fun (p : Key × V) (q : PyData × PyData) => q.1 = keyD p.1 ∧ F p.2 q.2) ks kvs →
    ReadsAll h (es.map (·.key)) (kvs.map (·.1)) [] ∧ Vals (ks.map (·.2)) (es.map (·.val)) ∧ Paired F (ks.map (·.2)) (kvs.map (·.2))
  | _, _, _, _, .nil, .nil, .nil => ⟨.nil, .nil, .nil⟩
  | _, _, _, _, .cons (a := p) (b := q) r t, .cons (e := e) h1 h2 t2, .cons (b := z) f t3 => by
    obtain ⟨i1, i2, i3⟩ := reads_keys t t2 t3
    obtain ⟨r1, r2⟩ := r
    obtain ⟨f1, f2⟩ := f
    have hk : Reads h e.key z.1 [] := by
      rw [f1, r1]
      have h1' : keyIs q.1 e.key = true := h1
      rcases keyIs_shape h1' with ⟨i, t, e1, e2⟩ | ⟨x, t, e1, e2⟩
      · rw [e1, e2]; exact .int i t
      · rw [e1, e2]; exact .str x t
    refine ⟨.cons (as := []) (bs := []) hk i1, .cons ?_ i2, .cons f2 i3⟩
    show RelV p.2 e.val
    rw [h2]; exact r2
theorem rdD_reads (hok : HOk P w H h) (hs : H sysModules = none) : ∀ (n : Nat) (v : V) (d : PyData) (u : Value), RdD H n v d → RelV v u → ∃ as, Reads h u d as ∧ sysModules ∉ as
  | 0, _, _, _, r, _ => r.elim
  | n + 1, v, d, u, r, rv => by
    have ne : ∀ {a : Addr} {o : HO}, H a = some o → sysModules ≠ a := fun {a o} e z => by
      rw [← z, hs] at e
      cases e
    cases d with
    | none =>
      have r' : v = .non := r
      subst r'
      obtain rfl : u = Value.none := rv
      exact ⟨[], .none, by simp⟩
    | bool b =>
      have r' : v = .bl b := r
      subst r'
      obtain rfl : u = Value.bool b := rv
      exact ⟨[], .bool b, by simp⟩
    | int i =>
      have r' : v = .int i := r
      subst r'
      obtain ⟨t, rfl⟩ := rv
      exact ⟨[], .int i t, by simp⟩
    | str x =>
      have r' : v = .str x := r
      subst r'
      obtain ⟨t, rfl⟩ := rv
      exact ⟨[], .str x t, by simp⟩
    | list xs =>
      obtain ⟨a, ys, rfl, h2, h3⟩ := r
      obtain rfl : u = Value.ref a := rv
      obtain ⟨_, its, m, rr, e⟩ := hok a _ h2
      obtain ⟨as, q1, q2⟩ := reads_all (fun v d u => rdD_reads hok hs n v d u) h3 rr
      exact ⟨a :: as, .list e rfl rfl (by simpa using q1), fun z => (List.mem_cons.mp z).elim (ne h2) q2⟩
    | tuple xs =>
      obtain ⟨a, ys, rfl, h2, h3⟩ := r
      obtain rfl : u = Value.ref a := rv
      obtain ⟨_, its, rr, o, e, ec, m, ed⟩ := hok a _ h2
      obtain ⟨as, q1, q2⟩ := reads_all (fun v d u => rdD_reads hok hs n v d u) h3 rr
      exact ⟨as, .tuple e ec ed (by simpa using q1), q2⟩
    | dict kvs =>
      obtain ⟨a, ks, rfl, h2, h3⟩ := r
      obtain rfl : u = Value.ref a := rv
      obtain ⟨_, _, vs, rr, o, es, ep, e, ex, ed, _, pr, _⟩ := hok a _ h2
      obtain ⟨k1, k2, k3⟩ := reads_keys (h := h) rr pr h3
      obtain ⟨as, q1, q2⟩ := reads_all (fun v d u => rdD_reads hok hs n v d u) k3 k2
      exact ⟨a :: [] ++ as, .dict e ex.1 ed k1 q1, fun z => (List.mem_cons.mp z).elim (ne h2) q2⟩
end
/-- repr of a list, tuple, dict -/
def rRepr : List V → Hp → VK → Prop := fun xs H Q => ∃ (a : Addr) (n : Nat) (d : PyData), xs = [.ref a] ∧ RdD H n (.ref a) d ∧ d.showable = true ∧ d.depth ≤ 40 ∧ d.shown.length ≤ sizeLine ∧ Q (.str d.shown) H
theorem call_reprD {X : Cx} (hG : X.A.guards = some []) (hu : X.A.units + 64 < cLine) (hS : (X.K.lookup sysModules).isSome = true) : CallR X (.builtin "repr") rRepr := by
  intro pins s σ H xs us Q I r h
  obtain ⟨a, n, d, rfl, hd, hs, hdp, hsz, q⟩ := h
  obtain ⟨u1, rfl, r1⟩ := vals1 r
  obtain rfl : u1 = Value.ref a := r1
  obtain ⟨o, ho⟩ := Option.isSome_iff_exists.mp hS
  have hn : H sysModules = none := (I.bs _ _ (I.ok.mod.kin _ _ ho)).2
  obtain ⟨as, hr, hm⟩ := rdD_reads I.hok hn n (.ref a) d (.ref a) hd rfl
  exact repr_of_reads' hr hs (fun _ => hm) hG (by omega) (fun _ _ z => z) (fun h' u tk hk => ⟨.str d.shown, H, I.kept (t' := tk) hk, ⟨u, rfl⟩, q⟩) hsz
end L2

/-! the law's call, asked at the caller's own surroundings: what is tracked at its begin, and what its end leaves -/
namespace LamX
open PySem PySem.Spec PyProof.Rows L2
abbrev noRows : Obj := { cls := .none, data := .fields #[] }
abbrev scrO (us : List Value) : Obj := { cls := .type "list", data := .seq us.toArray }
/-- the begin: the script at a; ts: code objects with their tables, which are empty -/
structure Beg (K : PySem.W.Frag) (mg mb : Str → Option Value) (ts : List (Addr × Addr)) (s : Shared) (a : Addr) (us : List Value) (ns : List Int) : Prop where
  frag : K.In s.heap
  glob : s.heap.Ns mainGlobals mg
  blt : s.heap.Ns builtinsNs mb
  bltW : ∀ x : Str, x ≠ "__name__" → mb x = bootBuiltins x
  lim : s.heap.NoLimit
  gens : s.gens = #[]
  rows : ∀ p, p ∈ ts → s.heap.get? p.2 = some noRows
  out : ∀ p, p ∈ ts → K.lookup p.2 = none
  code : ∀ p, p ∈ ts → PySem.W.CodeHd s.heap p.1 p.2
  bmod : ∃ (m : Addr) (o : Obj), mg "__builtins__" = some (.ref m) ∧ m ≠ builtinsNs ∧ s.heap.get? m = some o ∧ o.cls = .type "module" ∧ o.dict = some builtinsNs ∧ o.data = .plain
  scr : s.heap.get? a = some (scrO us)
  nums : IntsAre us ns
  few : ns.length ≤ sizeLine
/-- what is tracked at the begin -/
noncomputable def begH (K : PySem.W.Frag) (ts : List (Addr × Addr)) (a : Addr) (us : List Value) (ns : List Int) : Hp := fun b =>
  match decide (b ∈ ts.map Prod.snd), decide (b = a), K.lookup a with
  | true, _, _ => some (.tbl #[])
  | false, true, none => some (.frz (scrO us) (.lst (ns.map V.int)))
  | false, true, some _ => none
  | false, false, _ => none
section
variable {K : PySem.W.Frag} {mg mb : Str → Option Value} {ts : List (Addr × Addr)} {s : Shared} {a : Addr} {us : List Value} {ns : List Int}
theorem begH_ways (b : Addr) : (b ∈ ts.map Prod.snd ∧ begH K ts a us ns b = some (.tbl #[])) ∨ (b ∉ ts.map Prod.snd ∧ b = a ∧ K.lookup a = none ∧ begH K ts a us ns b = some (.frz (scrO us) (.lst (ns.map V.int)))) ∨
    (b ∉ ts.map Prod.snd ∧ begH K ts a us ns b = none ∧ (b = a → K.lookup a ≠ none)) := by
  unfold begH
  by_cases m : b ∈ ts.map Prod.snd
  · exact .inl ⟨m, by rw [decide_eq_true m]⟩
  · rw [decide_eq_false m]
    by_cases q : b = a
    · rw [decide_eq_true q]
      cases k : K.lookup a with
      | none => exact .inr (.inl ⟨m, q, rfl, rfl⟩)
      | some o => exact .inr (.inr ⟨m, rfl, fun _ z => by cases z⟩)
    · rw [decide_eq_false q]
      exact .inr (.inr ⟨m, rfl, fun z => absurd z q⟩)
theorem snd_mem {p : Addr × Addr} (h : p ∈ ts) : p.2 ∈ ts.map Prod.snd := List.mem_map_of_mem h
theorem begH_tab {p : Addr × Addr} (h : p ∈ ts) : begH K ts a us ns p.2 = some (.tbl #[]) := by
  unfold begH
  rw [decide_eq_true (snd_mem h)]
namespace Beg
variable (B : Beg K mg mb ts s a us ns)
include B
theorem at_tab {b : Addr} (h : b ∈ ts.map Prod.snd) : s.heap.get? b = some noRows := by
  obtain ⟨p, m, rfl⟩ := List.mem_map.mp h
  exact B.rows p m
theorem no_tab : a ∉ ts.map Prod.snd := fun z => by
  have q := (B.at_tab z).symm.trans B.scr
  cases q
/-- neither a list nor a table without rows: it is not tracked -/
theorem loose {b : Addr} {o : Obj} (e : s.heap.get? b = some o) (h : match o.data with
    | .seq _ _ => False
    | .fields vs => vs ≠ #[]
    | _ => True) : begH K ts a us ns b = none := by
  rcases begH_ways (K := K) (ts := ts) (a := a) (us := us) (ns := ns) b with ⟨m, _⟩ | ⟨_, q, _, _⟩ | ⟨_, z, _⟩
  · cases (B.at_tab m).symm.trans e
    exact absurd rfl h
  · subst q
    cases B.scr.symm.trans e
    exact h.elim
  · exact z
noncomputable abbrev base (_ : Beg K mg mb ts s a us ns) : Heap := hidT s.heap (begH K ts a us ns)
theorem seen {b : Addr} {o : Obj} (e : s.heap.get? b = some o) (h : match o.data with
    | .seq _ _ => False
    | .fields vs => vs ≠ #[]
    | _ => True) : B.base.get? b = some o := hidT_get e (B.loose e h)
theorem space {b : Addr} {m : Str → Option Value} (z : s.heap.Ns b m) : B.base.Ns b m := by
  obtain ⟨o, es, ep, e, d, r⟩ := z
  exact ⟨o, es, ep, B.seen e (by rw [d]; trivial), d, r⟩
theorem kin : K.In B.base := fun b o e => by
  refine hidT_get (B.frag b o e) ?_
  rcases begH_ways (K := K) (ts := ts) (a := a) (us := us) (ns := ns) b with ⟨m, _⟩ | ⟨_, q, k, _⟩ | ⟨_, z, _⟩
  · obtain ⟨p, hp, rfl⟩ := List.mem_map.mp m
    rw [B.out p hp] at e
    cases e
  · rw [q, k] at e
    cases e
  · exact z
theorem module_ : L2.Mod K mg B.base where
  kin := B.kin
  glob := B.space B.glob
  blt := ⟨mb, B.space B.blt, B.bltW⟩
  nolimit := by
    obtain ⟨mc, z, q⟩ := B.lim
    exact ⟨mc, B.space z, q⟩
theorem table {p : Addr × Addr} (hp : p ∈ ts) : TabB B.base mg p.1 p.2 where
  code := by
    obtain ⟨o, vs, c1, c2, c3, c4, c5, c6, c7, e, d1, d2, d3, d4⟩ := B.code p hp
    refine ⟨o, vs, c1, c2, c3, c4, c5, c6, c7, B.seen e ?_, d1, d2, d3, d4⟩
    rw [d2]
    intro z
    rw [z] at d3
    cases d3
  bm := by
    obtain ⟨m, o, e1, e2, e3, e4, e5, e6⟩ := B.bmod
    refine ⟨m, o, e1, e2, fun z => ?_, fun z => ?_, B.seen e3 (by rw [e6]; trivial), e4, e5, e6⟩
    · obtain ⟨u, es, ep, g1, g2, _⟩ := B.glob
      rw [z, g1] at e3
      rw [Option.some.inj e3, e6] at g2
      cases g2
    · rw [z, B.rows p hp] at e3
      rw [← Option.some.inj e3] at e6
      cases e6
  gP := fun z => by
    obtain ⟨u, es, ep, g1, g2, _⟩ := B.glob
    rw [z, B.rows p hp] at g1
    rw [← Option.some.inj g1] at g2
    cases g2
theorem fine {P : Program} {w : World} : HOk P w (begH K ts a us ns) s.heap := fun b o e => by
  rcases begH_ways (K := K) (ts := ts) (a := a) (us := us) (ns := ns) b with ⟨m, q⟩ | ⟨_, q1, _, q⟩ | ⟨_, q, _⟩
  · cases q.symm.trans e
    exact B.at_tab m
  · cases q.symm.trans e
    subst q1
    exact ⟨B.scr, by rw [List.length_map]; exact B.few, us, _, vals_ints B.nums, B.scr⟩
  · cases q.symm.trans e
theorem script : SqL K (begH K ts a us ns) a (ns.map V.int) := by
  rcases begH_ways (K := K) (ts := ts) (a := a) (us := us) (ns := ns) a with ⟨m, _⟩ | ⟨_, _, _, q⟩ | ⟨_, _, q⟩
  · exact absurd m B.no_tab
  · exact .inl (.inr ⟨_, q⟩)
  · cases k : K.lookup a with
    | none => exact absurd k (q rfl)
    | some o =>
      cases (B.frag a o k).symm.trans B.scr
      exact .inr ⟨_, us.toArray, _, k, rfl, rfl, rfl, by rw [List.size_toArray, B.nums.length]; exact B.few, vals_ints B.nums⟩
theorem env {P : Program} {w : World} : Env0 P w K mg B.base callerA [] s (begH K ts a us ns) where
  frames := rfl
  mod := B.module_
  bs := fun _ _ e => of_hidT e
  bsz := Nat.le_of_eq (hidT_size s.heap _)
  funs := trivial
  frf := fun b m => nomatch m
  hok := B.fine
  bare := .of_eq B.gens
/-- behind the call -/
theorem left {P : Program} {w : World} {H : Hp} {s' : Shared} (u : Un [] [] (begH K ts a us ns) H s.heap s'.heap) (k : HOk P w H s'.heap) : OldK s.heap s'.heap := by
  have tb : ∀ {b : Addr}, b ∈ ts.map Prod.snd → ∃ vs : Array Value, s'.heap.get? b = some { cls := .none, data := .fields vs } := fun {b} m => by
    obtain ⟨p, hp, rfl⟩ := List.mem_map.mp m
    obtain ⟨vs, q⟩ := u.tbls p.2 #[] (begH_tab hp)
    exact ⟨_, k p.2 _ q⟩
  have nt : ∀ {b : Addr} {o : Obj}, b ∉ ts.map Prod.snd → s.heap.get? b = some o → s'.heap.get? b = some o := fun {b o} n e => by
    rcases begH_ways (K := K) (ts := ts) (a := a) (us := us) (ns := ns) b with ⟨m, _⟩ | ⟨_, q1, _, q⟩ | ⟨_, q, _⟩
    · exact absurd m n
    · subst q1
      cases B.scr.symm.trans e
      exact (k b _ (u.frzs b _ _ q)).1
    · exact u.keep b o e q List.not_mem_nil List.not_mem_nil
  constructor
  · intro b o e
    by_cases m : b ∈ ts.map Prod.snd
    · obtain ⟨vs, q⟩ := tb m
      obtain ⟨p, hp, rfl⟩ := List.mem_map.mp m
      cases (B.rows p hp).symm.trans e
      exact .inr (.inl ⟨((B.code p hp).tab (B.rows p hp)).isCodeTable, rfl, #[], vs, rfl, by rw [Array.empty_append]; exact q⟩)
    · exact .inl (nt m e)
  · intro b o e
    by_cases m : b ∈ ts.map Prod.snd
    · obtain ⟨vs, q⟩ := tb m
      exact ⟨_, q⟩
    · exact ⟨o, nt m e⟩
end Beg
end
/-- what is asked of a law: its call at the caller's own surroundings, whatever is tracked besides the script and the tables -/
def AskG (l : PySem.W.OpenLaw) (CX : CXT) (n : Nat) (w : World) (mg : Str → Option Value) (fa : Addr) (K : PySem.W.Frag) (ts : List (Addr × Addr)) : Prop := ∀ b : Heap, K.In b → b.Ns mainGlobals mg → (∀ p, p ∈ ts → TabB b mg p.1 p.2) →
  ∀ (s : Shared) (H : Hp) (a : Addr) (ns : List Int), ns.length ≤ n → (∀ p, p ∈ ts → H p.2 = some (.tbl #[])) → SqL K H a (ns.map V.int) → Env0 l.prog w K mg b callerA [] s H →
    codeAny (model l.prog w) callerA (.call (.ref fa) ⟨[.ref a], []⟩) (CR CX [] l.prog w H s (fun v _ => v = .bl true) fun _ _ _ => False) s
theorem walk_ofG {l : PySem.W.OpenLaw} {n : Nat} {q : Program} {loose : List Str} {XP : (Str → Option Value) → Heap → Prop} {YP : World → Heap → Prop} {d : DefRec} {CX : CXT} (h1 : l.most = some n) (h2 : n ≤ sizeLine) (h3 : d.params.defaults = [])
    (F : ∀ (w : World) (mg : Str → Option Value) (fa : Addr) (h : Heap), YP w h → h.Ns mainGlobals mg → mg d.name = some (.ref fa) → ∃ (K : PySem.W.Frag) (ts : List (Addr × Addr)),
      K.In h ∧ (∀ p, p ∈ ts → h.get? p.2 = some noRows) ∧ (∀ p, p ∈ ts → K.lookup p.2 = none) ∧ (∀ p, p ∈ ts → PySem.W.CodeHd h p.1 p.2) ∧ AskG l CX n w mg fa K ts)
    (h4 : ∀ (H : Hp) (s : Shared) (e : Value) (s' : Shared), CX [] H s (fun _ _ _ => False) e s' → False) : PySem.W.WalkO q loose XP YP l.row.toRowW d [] fun f vs => PySem.call f vs := by
  refine Att.attach_callB h1 h3 fun w _ s mg mb fa _ _ _ _ a us ns G Y _ _ _ m scr nums few _ gens => ?_
  obtain ⟨K, ts, k1, k2, k3, k4, ask⟩ := F w mg fa _ Y G.T.g m
  have B : Beg K mg mb ts s a us ns := ⟨k1, G.T.g, G.T.b, G.T.builtins, G.T.nolimit, gens, k2, k3, k4, G.T.bmain, scr, nums, Nat.le_trans few h2⟩
  refine codeAny_mono (ask B.base B.kin (B.space B.glob) (fun p hp => B.table hp) s _ a ns few (fun p hp => begH_tab hp) B.script B.env) fun r s' z => ?_
  match r, z with
  | .error e, z => exact (h4 _ _ e s' z).elim
  | .ok (.ret v), z =>
    obtain ⟨x, H, o1, o2, u, k, rx, ex⟩ := z
    have ex : x = .bl true := ex
    subst ex
    have rx : v = Value.bool true := rx
    subst rx
    exact ⟨rfl, B.left u k, o1, o2⟩
  | .ok .next, z => exact z.elim
  | .ok .brk, z => exact z.elim
  | .ok .cont, z => exact z.elim
end LamX

namespace XK0
open PySem PySem.Spec PyProof.Rows L2
theorem upd3 {H : Hp} {a d : Addr} {o1 o2 o3 : HO} (h : d ≠ a) : upd (upd (upd H a o1) d o2) a o3 = upd (upd H d o2) a o3 := by
  funext b
  by_cases e : b = a
  · rw [e, upd_same, upd_same]
  · rw [upd_ne e, upd_ne e]
    by_cases e2 : b = d
    · rw [e2, upd_same, upd_same]
    · rw [upd_ne e2, upd_ne e2, upd_ne e]
/-- the promise of an __init__ that keeps one thing -/
def spI1 (K : PySem.W.Frag) (f : Str) : Sp := fun vs H Q _ => ∃ (a C : Addr) (y : V), vs = [.ref a, y] ∧ OexC K C ∧ PySem.W.findIn K (.ref C) f = some none ∧ H a = some (exo a C none) ∧ ∀ d, H d = none → d ≠ a → Q .non (upd (upd H d (exd d [(f, y)])) a (exo a C (some d)))
def spI2 (K : PySem.W.Frag) (f g : Str) : Sp := fun vs H Q _ => ∃ (a C : Addr) (y z : V), vs = [.ref a, y, z] ∧ OexC K C ∧ PySem.W.findIn K (.ref C) f = some none ∧ PySem.W.findIn K (.ref C) g = some none ∧ H a = some (exo a C none) ∧
  ∀ d, H d = none → d ≠ a → Q .non (upd (upd H d (exd d [(g, z), (f, y)])) a (exo a C (some d)))
section
variable {P : Program} {w : World} {K : PySem.W.Frag} {mg : Str → Option Value} {base : Heap} {fI : Addr} {fd : FuncData} {params : Arguments} {body : List Stmt} {scope : Scope} {qual f g : Str} {p1 p2 p3 p4 q1 q2 q3 q4 : Pos}
theorem vis_par {N P : List Str} {sc : Scope} (S : FnScope N P sc) {x : Str} (h : x ∈ P) : Vis sc x := (S.par x h).elim (fun z => .inl z) (fun z => .inr (.inl z))
theorem ok_init1 (F : FunD K "__init__" qual params [.Assign [.Attribute (.Name "self" p1) f p2] (.Name f p3) p4] scope [] [] fI fd) (S : FnScope ["self", f] ["self", f] scope) (hd : (f == ("__debug__" : Str)) = false) (hc : (f == ("__classdict__" : Str)) = false) :
    FnOk P w K mg base CX0 1 fI fd ["self", f] (spI1 K f) := by
  refine F.ok S (fun vs H Q E h => ?_) (fun cdv A outer s H vs Q E hr h => ⟨_, PSs.nox (pss_one (ps_ost (pe_var (i := 0) rfl (vis_par S List.mem_cons_self)) (pe_var (i := 1) rfl (vis_par S (List.mem_cons_of_mem _ List.mem_cons_self)) hd hc))), ?_⟩)
  · obtain ⟨a, C, y, rfl, _⟩ := h
    rfl
  · obtain ⟨a, C, y, rfl, T, hno, ha, q⟩ := h
    exact ⟨y, rfl, .ref a, rfl, a, C, rfl, T, hno, .inl ⟨ha, fun dx n ne => q dx n ne⟩⟩
theorem ok_init2 (F : FunD K "__init__" qual params [.Assign [.Attribute (.Name "self" p1) f p2] (.Name f p3) p4, .Assign [.Attribute (.Name "self" q1) g q2] (.Name g q3) q4] scope [] [] fI fd) (S : FnScope ["self", f, g] ["self", f, g] scope)
    (hd : (f == ("__debug__" : Str)) = false) (hc : (f == ("__classdict__" : Str)) = false) (hd2 : (g == ("__debug__" : Str)) = false) (hc2 : (g == ("__classdict__" : Str)) = false) :
    FnOk P w K mg base CX0 1 fI fd ["self", f, g] (spI2 K f g) := by
  refine F.ok S (fun vs H Q E h => ?_) (fun cdv A outer s H vs Q E hr h => ⟨_, PSs.nox (pss_cons (ps_ost (pe_var (i := 0) rfl (vis_par S List.mem_cons_self)) (pe_var (i := 1) rfl (vis_par S (List.mem_cons_of_mem _ List.mem_cons_self)) hd hc))
    (pss_one (ps_ost (pe_var (i := 0) rfl (vis_par S List.mem_cons_self)) (pe_var (i := 2) rfl (vis_par S (List.mem_cons_of_mem _ (List.mem_cons_of_mem _ List.mem_cons_self))) hd2 hc2)))), ?_⟩)
  · obtain ⟨a, C, y, z, rfl, _⟩ := h
    rfl
  · obtain ⟨a, C, y, z, rfl, T, hno, hno2, ha, q⟩ := h
    refine ⟨y, rfl, .ref a, rfl, a, C, rfl, T, hno, .inl ⟨ha, fun dx n ne => ?_⟩⟩
    refine ⟨z, rfl, .ref a, rfl, a, C, rfl, T, hno2, .inr ⟨dx, [(f, y)], upd_same, ?_, by show 1 ≤ 900; omega, ?_⟩⟩
    · rw [upd_ne ne, upd_same]
    · have e : upd (upd (upd H dx (exd dx [(f, y)])) a (exo a C (some dx))) dx (exd dx [(g, z), (f, y)]) = upd (upd H dx (exd dx [(g, z), (f, y)])) a (exo a C (some dx)) := by
        funext b
        by_cases e1 : b = dx
        · rw [e1, upd_same, upd_ne ne, upd_same]
        · rw [upd_ne e1]
          by_cases e2 : b = a
          · rw [e2, upd_same, upd_same]
          · rw [upd_ne e2, upd_ne e1, upd_ne e2, upd_ne e1]
      rw [e]
      exact q dx n ne
end
theorem kbn_of {K : PySem.W.Frag} {x qual : Str} {params : Arguments} {body : List Stmt} {scope : Scope} {f : Addr} {fd : FuncData} {ps : List Str} (F : FunD K x qual params body scope [] [] f fd) (n : Nat) (ks : List Str) (g : {α : Type} → List α → List α → List α)
    (hrel : ∀ {vs zs : List V} {us ws : List Value}, Vals vs us → Vals zs ws → Vals (g vs zs) (g us ws))
    (h : ∀ (kV doc pm : Value) (an : Option Addr) (cdv ct : Value) (us ws : List Value), us.length = n → ws.length = ks.length → bindArgs (PySem.W.fnOf x qual params body scope .none kV doc pm an cdv ct) ⟨us, ks.zip ws⟩ = pure (ps.zip (g us ws))) : KBn K fd ps n ks g g := by
  obtain ⟨oc, od, dV, kV, doc, pm, an, cdv, ct, osl, rfl, lk, hcd, hD, hK⟩ := F.ex
  rcases hD with ⟨_, rfl⟩ | ⟨e, _⟩
  · exact ⟨fun s us ws X l1 l2 => .of_eq (h kV doc pm an cdv ct us ws l1 l2), fun r1 r2 => hrel r1 r2⟩
  · exact absurd rfl e
/-! ### a class of one field, of two -/
structure Ec1 (K : PySem.W.Frag) (mg : Str → Option Value) (x f : Str) (C : Addr) : Prop where
  ox : OexC K C
  gl : mg x = some (.ref C)
  no : PySem.W.findIn K (.ref C) f = some none
  ini : ∃ (fI : Addr) (fd : FuncData), PySem.W.findIn K (.ref C) "__init__" = some (some (.ref fI)) ∧ PySem.W.typeIn K (.ref fI) = some (.type "function") ∧
    (∀ (P : Program) (w : World) (base : Heap), FnOk P w K mg base CX0 1 fI fd ["self", f] (spI1 K f)) ∧ KBn K fd ["self", f] 2 [] (fun us ws => us) (fun us ws => us) ∧ KBn K fd ["self", f] 1 [f] (fun us ws => us ++ ws) (fun us ws => us ++ ws)
structure Ec2 (K : PySem.W.Frag) (mg : Str → Option Value) (x f g : Str) (C : Addr) : Prop where
  ox : OexC K C
  gl : mg x = some (.ref C)
  no : PySem.W.findIn K (.ref C) f = some none
  no2 : PySem.W.findIn K (.ref C) g = some none
  ini : ∃ (fI : Addr) (fd : FuncData), PySem.W.findIn K (.ref C) "__init__" = some (some (.ref fI)) ∧ PySem.W.typeIn K (.ref fI) = some (.type "function") ∧
    (∀ (P : Program) (w : World) (base : Heap), FnOk P w K mg base CX0 1 fI fd ["self", f, g] (spI2 K f g)) ∧ KBn K fd ["self", f, g] 3 [] (fun us ws => us) (fun us ws => us) ∧ KBn K fd ["self", f, g] 1 [g, f] (fun us ws => us ++ ws.reverse) (fun us ws => us ++ ws.reverse)
/-- the reading of a new error -/
def tNew (C : Addr) (fs : List (Str × V)) (Q : VK) (H : Hp) : Prop := ∀ a d, H a = none → H d = none → d ≠ a → Q (.ref a) (upd (upd H d (exd d fs)) a (exo a C (some d)))
section
variable {X : Cx} {x f g : Str} {C : Addr} {e1 e2 : Expr} {t1 t2 : TE} {p pos kp1 kp2 : Pos}
theorem fresh_of {H : Hp} {a d : Addr} {o : HO} (h : upd H a o d = none) : H d = none ∧ d ≠ a := by
  by_cases e : d = a
  · rw [e, upd_same] at h
    cases h
  · rw [upd_ne e] at h
    exact ⟨h, e⟩
def Mo (t : TE) : Prop := ∀ (σ : L2.St) (H : Hp) (Q Q' : VK), (∀ v H', Q v H' → Q' v H') → t σ H Q → t σ H Q'
theorem mo_var (i : Nat) : Mo (tVar i) := fun σ H Q Q' k ⟨v, e, h⟩ => ⟨v, e, k _ _ h⟩
theorem new1_ok {K : PySem.W.Frag} {mg : Str → Option Value} (E : Ec1 K mg x f C) {Q : VK} {H : Hp} {y : V} (h : tNew C [(f, y)] Q H) {a : Addr} (ha : H a = none) : spI1 K f [.ref a, y] (upd H a (exo a C none)) (fun v H2 => v = .non ∧ Q (.ref a) H2) (fun _ _ _ => False) := by
  refine ⟨a, C, y, rfl, E.ox, E.no, upd_same, fun d hd hne => ⟨rfl, ?_⟩⟩
  rw [upd3 hne]
  exact h a d ha (fresh_of hd).1 hne
theorem new2_ok {K : PySem.W.Frag} {mg : Str → Option Value} (E : Ec2 K mg x f g C) {Q : VK} {H : Hp} {y z : V} (h : tNew C [(g, z), (f, y)] Q H) {a : Addr} (ha : H a = none) : spI2 K f g [.ref a, y, z] (upd H a (exo a C none)) (fun v H2 => v = .non ∧ Q (.ref a) H2) (fun _ _ _ => False) := by
  refine ⟨a, C, y, z, rfl, E.ox, E.no, E.no2, upd_same, fun d hd hne => ⟨rfl, ?_⟩⟩
  rw [upd3 hne]
  exact h a d ha (fresh_of hd).1 hne
theorem pe_new1 (E : Ec1 X.K X.mg x f C) (hr : Room 2 X.A) (hg : Gl X x) (h1 : PE X e1 t1) (m1 : Mo t1) (hdb : (x == ("__debug__" : Str)) = false := by decide)
    (he : starEach [e1] X.env = (false, eval e1 X.env) :: starEach [] X.env := by rfl) : PE X (.Call (.Name x p) [e1] [] pos) (fun σ H Q => t1 σ H fun y H1 => tNew C [(f, y)] Q H1) := by
  obtain ⟨fI, fd, i1, i2, i3, i4, _⟩ := E.ini
  have q := pe_mkX (p := p) (pos := pos) (X := X) E.ox i1 i2 (i3 X.prog X.w X.base) hr i4 pass0 hg E.gl (pa_cons h1 pa_nil he) hdb he rfl
  refine ⟨fun pins s σ H Q I h => q.run pins s σ H Q I (m1 _ _ _ _ (fun y H1 h => ?_) h)⟩
  exact ⟨rfl, by omega, rfl, fun a ha => new1_ok E h ha⟩
theorem pe_new1K (E : Ec1 X.K X.mg x f C) (hr : Room 2 X.A) (hg : Gl X x) (h1 : PE X e1 t1) (m1 : Mo t1) (hdb : (x == ("__debug__" : Str)) = false := by decide)
    (hall : (backToKw pos (keywordEach [⟨some f, e1, kp1⟩] X.env)).all (·.1.isSome) = true := by rfl) (hks : (backToKw pos (keywordEach [⟨some f, e1, kp1⟩] X.env)).filterMap (·.1) = [f] := by rfl)
    (hpl : ((backTo pos (starEach [] X.env)).any (·.1) || (backToKw pos (keywordEach [⟨some f, e1, kp1⟩] X.env)).any (·.1.isNone)) = false := by rfl) :
    PE X (.Call (.Name x p) [] [⟨some f, e1, kp1⟩] pos) (fun σ H Q => t1 σ H fun y H1 => tNew C [(f, y)] Q H1) := by
  obtain ⟨fI, fd, i1, i2, i3, _, i5⟩ := E.ini
  have q := pe_mkXK (p := p) (pos := pos) (X := X) E.ox i1 i2 (i3 X.prog X.w X.base) hr i5 pass0 hg E.gl (pk_cons (nm := some f) (kpos := kp1) h1 pk_nil) hall hks hdb hpl
  refine ⟨fun pins s σ H Q I h => q.run pins s σ H Q I (m1 _ _ _ _ (fun y H1 h => ?_) h)⟩
  exact ⟨rfl, by omega, rfl, fun a ha => new1_ok E h ha⟩
theorem pe_new2 (E : Ec2 X.K X.mg x f g C) (hr : Room 2 X.A) (hg : Gl X x) (h1 : PE X e1 t1) (m1 : Mo t1) (h2 : PE X e2 t2) (m2 : Mo t2) (hdb : (x == ("__debug__" : Str)) = false := by decide)
    (he : starEach [e1, e2] X.env = (false, eval e1 X.env) :: starEach [e2] X.env := by rfl) (he2 : starEach [e2] X.env = (false, eval e2 X.env) :: starEach [] X.env := by rfl) (hpl : (backTo pos (starEach [e2] X.env)).any (·.1) = false := by rfl) :
    PE X (.Call (.Name x p) [e1, e2] [] pos) (fun σ H Q => t1 σ H fun y H1 => t2 σ H1 fun z H2 => tNew C [(g, z), (f, y)] Q H2) := by
  obtain ⟨fI, fd, i1, i2, i3, i4, _⟩ := E.ini
  have q := pe_mkX (p := p) (pos := pos) (X := X) E.ox i1 i2 (i3 X.prog X.w X.base) hr i4 pass0 hg E.gl (pa_cons h1 (pa_cons h2 pa_nil he2) he) hdb he hpl
  refine ⟨fun pins s σ H Q I h => q.run pins s σ H Q I (m1 _ _ _ _ (fun y H1 h => m2 _ _ _ _ (fun z H2 h => ?_) h) h)⟩
  exact ⟨rfl, by omega, rfl, fun a ha => new2_ok E h ha⟩
/-- C(g = e2, f = e1) -/
theorem pe_new2K (E : Ec2 X.K X.mg x f g C) (hr : Room 2 X.A) (hg : Gl X x) (h1 : PE X e1 t1) (m1 : Mo t1) (h2 : PE X e2 t2) (m2 : Mo t2) (hdb : (x == ("__debug__" : Str)) = false := by decide)
    (hall : (backToKw pos (keywordEach [⟨some g, e2, kp1⟩, ⟨some f, e1, kp2⟩] X.env)).all (·.1.isSome) = true := by rfl) (hks : (backToKw pos (keywordEach [⟨some g, e2, kp1⟩, ⟨some f, e1, kp2⟩] X.env)).filterMap (·.1) = [g, f] := by rfl)
    (hpl : ((backTo pos (starEach [] X.env)).any (·.1) || (backToKw pos (keywordEach [⟨some g, e2, kp1⟩, ⟨some f, e1, kp2⟩] X.env)).any (·.1.isNone)) = false := by rfl) :
    PE X (.Call (.Name x p) [] [⟨some g, e2, kp1⟩, ⟨some f, e1, kp2⟩] pos) (fun σ H Q => t2 σ H fun z H1 => t1 σ H1 fun y H2 => tNew C [(g, z), (f, y)] Q H2) := by
  obtain ⟨fI, fd, i1, i2, i3, _, i5⟩ := E.ini
  have q := pe_mkXK (p := p) (pos := pos) (X := X) E.ox i1 i2 (i3 X.prog X.w X.base) hr i5 pass0 hg E.gl (pk_cons (nm := some g) (kpos := kp1) h2 (pk_cons (nm := some f) (kpos := kp2) h1 pk_nil)) hall hks hdb hpl
  refine ⟨fun pins s σ H Q I h => q.run pins s σ H Q I (m2 _ _ _ _ (fun z H1 h => m1 _ _ _ _ (fun y H2 h => ?_) h) h)⟩
  exact ⟨rfl, by omega, rfl, fun a ha => new2_ok E h ha⟩
end
end XK0

namespace XK0
open PySem PySem.Spec PyProof.Rows L2 LamX LamV
/-- a made pair of errors, the look at their fields, and what is due -/
structure It where
  C : Addr
  fs : List (Str × V)
  due : List V
  ns : List Str
/-- a lambda that tells the named fields of its argument in a list -/
structure Lm (F : LF) (ns : List Str) : Prop where
  sc : NdefX.NScope ["_law_e"] ["_law_e"] [] F.scope
  bd : ∀ (pm cv ctv : Value) (us : List Value), us.length = 1 → bindArgs (PySem.W.kla_fn "<lambda>" F.qual F.params F.body F.scope [] pm cv ctv) ⟨us, []⟩ = pure ((["_law_e"] : List Str).zip us)
  sh : (∃ (f : Str) (p1 p2 p3 : Pos), ns = [f] ∧ F.body = .List [.Attribute (.Name "_law_e" p1) f p2] p3) ∨ ∃ (f g : Str) (p1 p2 p3 p4 p5 : Pos), ns = [f, g] ∧ F.body = .List [.Attribute (.Name "_law_e" p1) f p2, .Attribute (.Name "_law_e" p3) g p4] p5
def Item (L : Addr) (H : Hp) (i : It) (v : V) : Prop := ∃ t m1 d1 m2 d2 f dl, v = .ref t ∧ H t = some (.tup [.ref m1, .ref m2, .ref f, .ref dl]) ∧ H m1 = some (exo m1 i.C (some d1)) ∧ H d1 = some (exd d1 i.fs) ∧
  H m2 = some (exo m2 i.C (some d2)) ∧ H d2 = some (exd d2 i.fs) ∧ (∃ F, Lm F i.ns ∧ IsLam H f F) ∧ H dl = some (.lst i.due) ∧ dl ≠ L
/-- all but tables and the list at L stays -/
def Kp (L : Addr) (H H' : Hp) : Prop := ∀ b o, H b = some o → (∀ ps, o ≠ .tbl ps) → b ≠ L → H' b = some o
theorem Kp.refl {L : Addr} {H : Hp} : Kp L H H := fun _ _ h _ _ => h
theorem Kp.trans {L : Addr} {H H1 H2 : Hp} (a : Kp L H H1) (b : Kp L H1 H2) : Kp L H H2 := fun c o h n m => b c o (a c o h n m) n m
theorem Kp.new {L a : Addr} {H : Hp} {o : HO} (h : H a = none) : Kp L H (upd H a o) := fun b u e _ _ => by rw [upd_ne (ne_of_none e h)]; exact e
theorem Kp.extN {L : Addr} {H H' : Hp} (h : ExtN H H') : Kp L H H' := fun b o e n _ => h b o e n
theorem exd_tbl {e : Addr} {fs : List (Str × V)} (ps : Array Value) : exd e fs ≠ .tbl ps := fun z => by
  have z' : HO.ext _ = HO.tbl ps := z
  cases z'
theorem lamO_tbl {f c : Addr} {F : LF} (ps : Array Value) : LamO f c F ≠ .tbl ps := fun z => by
  have z' : HO.ext _ = HO.tbl ps := z
  cases z'
theorem not_at {H : Hp} {b L : Addr} {o : HO} {xs : List V} (hL : H L = some (.lst xs)) (h : H b = some o) (n : o ≠ .lst xs) : b ≠ L := fun z => by
  rw [z, hL] at h
  exact n (Option.some.inj h).symm
theorem exo_lst {e C : Addr} {d : Option Addr} (xs : List V) : exo e C d ≠ .lst xs := fun z => by
  have z' : HO.ext _ = HO.lst xs := z
  cases z'
theorem exd_lst {e : Addr} {fs : List (Str × V)} (ps : List V) : exd e fs ≠ .lst ps := fun z => by
  have z' : HO.ext _ = HO.lst ps := z
  cases z'
theorem lamO_lst {f c : Addr} {F : LF} (ps : List V) : LamO f c F ≠ .lst ps := fun z => by
  have z' : HO.ext _ = HO.lst ps := z
  cases z'
theorem codeO_lst {c : Addr} {q : Str} (ps : List V) : CodeO c q ≠ .lst ps := fun z => by
  have z' : HO.ext _ = HO.lst ps := z
  cases z'
theorem isLam_kp {L f : Addr} {H H' : Hp} {F : LF} {xs : List V} (hL : H L = some (.lst xs)) (k : Kp L H H') (h : IsLam H f F) : IsLam H' f F := by
  obtain ⟨c, h1, h2⟩ := h
  exact ⟨c, k _ _ h1 (fun ps => lamO_tbl ps) (not_at hL h1 (lamO_lst _)), k _ _ h2 (fun ps => codeO_ne ps) (not_at hL h2 (codeO_lst _))⟩
theorem Item.kp {L : Addr} {H H' : Hp} {i : It} {v : V} {xs : List V} (hL : H L = some (.lst xs)) (k : Kp L H H') (h : Item L H i v) : Item L H' i v := by
  obtain ⟨t, m1, d1, m2, d2, f, dl, rfl, h1, h2, h3, h4, h5, ⟨F, h6a, h6⟩, h7, h8⟩ := h
  exact ⟨t, m1, d1, m2, d2, f, dl, rfl, k _ _ h1 (fun _ z => nomatch z) (not_at hL h1 (fun z => nomatch z)), k _ _ h2 (fun _ => exo_tbl) (not_at hL h2 (exo_lst _)), k _ _ h3 exd_tbl (not_at hL h3 (exd_lst _)),
    k _ _ h4 (fun _ => exo_tbl) (not_at hL h4 (exo_lst _)), k _ _ h5 exd_tbl (not_at hL h5 (exd_lst _)), ⟨F, h6a, isLam_kp hL k h6⟩, k _ _ h7 (fun _ z => nomatch z) h8, h8⟩
/-- the state: the list at L holds these items -/
structure MS (T : List (Addr × Str)) (L : Addr) (its : List It) (H : Hp) : Prop where
  tab : Tabs T H
  lst : ∃ vs, H L = some (.lst vs) ∧ Paired (Item L H) its vs
theorem Paired.snoc {α β : Type} {F : α → β → Prop} : ∀ {l₁ : List α} {l₂ : List β} {a : α} {b : β}, Paired F l₁ l₂ → F a b → Paired F (l₁ ++ [a]) (l₂ ++ [b])
  | _, _, _, _, .nil, h => .cons h .nil
  | _, _, _, _, .cons r t, h => .cons r (Paired.snoc t h)
theorem Tabs.keep {T : List (Addr × Str)} {H H' : Hp} (t : Tabs T H) (k : ∀ b o, H b = some o → (∀ xs, o ≠ .lst xs) → H' b = some o) : Tabs T H' := fun p hp => by
  obtain ⟨ps, h1, h2, h3⟩ := t p hp
  refine ⟨ps, k _ _ h1 (fun _ z => nomatch z), h2, fun pos cv hc => ?_⟩
  obtain ⟨c, e1, e2⟩ := h3 pos cv hc
  exact ⟨c, e1, k _ _ e2 (fun _ => codeO_lst _)⟩
section
variable {K : PySem.W.Frag} {T : List (Addr × Str)} {L C : Addr} {fs : List (Str × V)} {due : List V} {ns : List Str} {F : LF} {its : List It} {A B tD tL : TE} {σ : L2.St} {H : Hp} {D : Ends}
theorem new_kp {a d : Addr} (ha : H a = none) (hd : H d = none) (hne : d ≠ a) : Kp L H (upd (upd H d (exd d fs)) a (exo a C (some d))) :=
  (Kp.new hd).trans (Kp.new (by rw [upd_ne hne.symm]; exact ha))
theorem new_ext {a d : Addr} (ha : H a = none) (hd : H d = none) : ∀ b o, H b = some o → upd (upd H d (exd d fs)) a (exo a C (some d)) b = some o := fun b o e => by
  rw [upd_ne (ne_of_none e ha), upd_ne (ne_of_none e hd)]
  exact e
/-- found.append((C(..), C(..), lambda e: .., [..])) -/
theorem line (hF : Lm F ns) (hL : tL = tVar 2) (hs : σ[2]? = some (some (.ref L))) (ms : MS T L its H) (hn : its.length < 1000) (hA : ∀ H Q, tNew C fs Q H → A σ H Q) (hB : ∀ H Q, tNew C fs Q H → B σ H Q) (hD : ∀ H Q, (∀ p, H p = none → Q (.ref p) (upd H p (.lst due))) → tD σ H Q)
    (k : ∀ H', MS T L (its ++ [⟨C, fs, due, ns⟩]) H' → Kp L H H' → D.nx σ H') : tDrop (tBM K "list" rAppend tL (tCons (tTup (tCons A (tCons B (tCons (tLamV T F) (tCons tD tNil))))) tNil)) D σ H := by
  subst hL
  obtain ⟨tab, vs, hl, hp⟩ := ms
  have hlen : vs.length = its.length := (Paired.length hp).symm
  refine ⟨.ref L, hs, .inl ⟨rfl, vs, .inl (.inl hl)⟩, ?_⟩
  refine hA _ _ fun m1 d1 a1 b1 c1 => ?_
  have e1 := new_ext (C := C) (fs := fs) a1 b1
  have k1 : Kp L H _ := new_kp (C := C) (fs := fs) a1 b1 c1
  have g1 : upd (upd H d1 (exd d1 fs)) m1 (exo m1 C (some d1)) m1 = some (exo m1 C (some d1)) := upd_same
  have g1d : upd (upd H d1 (exd d1 fs)) m1 (exo m1 C (some d1)) d1 = some (exd d1 fs) := by rw [upd_ne c1, upd_same]
  generalize upd (upd H d1 (exd d1 fs)) m1 (exo m1 C (some d1)) = H1 at e1 k1 g1 g1d ⊢
  refine hB _ _ fun m2 d2 a2 b2 c2 => ?_
  have e2 := new_ext (C := C) (fs := fs) a2 b2
  have k2 : Kp L H1 _ := new_kp (C := C) (fs := fs) a2 b2 c2
  have g2 : upd (upd H1 d2 (exd d2 fs)) m2 (exo m2 C (some d2)) m2 = some (exo m2 C (some d2)) := upd_same
  have g2d : upd (upd H1 d2 (exd d2 fs)) m2 (exo m2 C (some d2)) d2 = some (exd d2 fs) := by rw [upd_ne c2, upd_same]
  generalize upd (upd H1 d2 (exd d2 fs)) m2 (exo m2 C (some d2)) = H2 at e2 k2 g2 g2d ⊢
  refine ⟨tab.ext fun b o e => e2 b o (e1 b o e), fun f H3 x3 t3 f3 l3 => ?_⟩
  refine hD _ _ fun dl a4 => ?_
  have k3 : Kp L H2 H3 := .extN x3
  have k4 : Kp L H3 (upd H3 dl (.lst due)) := .new a4
  have hl3 : H3 L = some (.lst vs) := x3 _ _ (e2 _ _ (e1 _ _ hl)) (fun _ z => nomatch z)
  have hdl : dl ≠ L := fun z => by rw [z, hl3] at a4; cases a4
  have g4 : upd H3 dl (.lst due) dl = some (.lst due) := upd_same
  have e4 : ∀ b o, H3 b = some o → upd H3 dl (.lst due) b = some o := fun b o e => by rw [upd_ne (ne_of_none e a4)]; exact e
  generalize upd H3 dl (.lst due) = H4 at k4 g4 e4 ⊢
  refine ⟨by rw [sizeLine_eq]; show 4 ≤ _; omega, fun t a5 => ?_⟩
  have k5 : Kp L H4 (upd H4 t (.tup [.ref m1, .ref m2, .ref f, .ref dl])) := .new a5
  have g5 : upd H4 t (.tup [.ref m1, .ref m2, .ref f, .ref dl]) t = some (.tup [.ref m1, .ref m2, .ref f, .ref dl]) := upd_same
  have e5 : ∀ b o, H4 b = some o → upd H4 t (.tup [.ref m1, .ref m2, .ref f, .ref dl]) b = some o := fun b o e => by rw [upd_ne (ne_of_none e a5)]; exact e
  generalize upd H4 t (.tup [.ref m1, .ref m2, .ref f, .ref dl]) = H5 at k5 g5 e5 ⊢
  have hl5 : H5 L = some (.lst vs) := e5 _ _ (e4 _ _ hl3)
  refine ⟨L, vs, .ref t, rfl, rfl, hl5, by rw [sizeLine_eq]; omega, ?_⟩
  have k6 : Kp L H5 (upd H5 L (.lst (vs ++ [.ref t]))) := fun b o e _ n => by rw [upd_ne n]; exact e
  have t6 : Tabs T (upd H5 L (.lst (vs ++ [.ref t]))) := Tabs.keep (t3.ext fun b o e => e5 _ _ (e4 _ _ e)) fun b o e n => by rw [upd_ne (not_at hl5 e (n _))]; exact e
  have all : Kp L H (upd H5 L (.lst (vs ++ [.ref t]))) := ((((k1.trans k2).trans k3).trans k4).trans k5).trans k6
  have hl1 : H1 L = some (.lst vs) := e1 _ _ hl
  have hl2 : H2 L = some (.lst vs) := e2 _ _ hl1
  have hl4 : H4 L = some (.lst vs) := e4 _ _ hl3
  have kk : Kp L H2 (upd H5 L (.lst (vs ++ [.ref t]))) := ((k3.trans k4).trans k5).trans k6
  have kk1 : Kp L H1 (upd H5 L (.lst (vs ++ [.ref t]))) := k2.trans kk
  refine k _ ⟨t6, vs ++ [.ref t], upd_same, Paired.snoc (Paired.mapP hp fun i v z => Item.kp hl all z) ?_⟩ all
  refine ⟨t, m1, d1, m2, d2, f, dl, rfl, k6 _ _ g5 (fun _ z => nomatch z) (not_at hl5 g5 (fun z => nomatch z)), kk1 _ _ g1 (fun _ => exo_tbl) (not_at hl1 g1 (exo_lst _)), kk1 _ _ g1d exd_tbl (not_at hl1 g1d (exd_lst _)),
    kk _ _ g2 (fun _ => exo_tbl) (not_at hl2 g2 (exo_lst _)), kk _ _ g2d exd_tbl (not_at hl2 g2d (exd_lst _)), ⟨F, hF, isLam_kp hl3 ((k4.trans k5).trans k6) l3⟩, (k5.trans k6) _ _ g4 (fun _ z => nomatch z) hdl, hdl⟩
end
end XK0

namespace XK0
open PySem PySem.Spec PyProof.Rows L2 LamX LamV
/-- one line of a maker: what it adds, of x and y -/
def LineOk (X : Cx) (T : List (Addr × Str)) (st : Stmt) (it : V → V → It) : Prop := ∃ t, PS X st t ∧ ∀ (L : Addr) (x y : V) (its : List It) (σ : L2.St) (H : Hp) (D : Ends), σ[0]? = some (some x) → σ[1]? = some (some y) → σ[2]? = some (some (.ref L)) →
  MS T L its H → its.length < 1000 → (∀ H', MS T L (its ++ [it x y]) H' → Kp L H H' → D.nx σ H') → t D σ H
/-- where the maker stands: its table -/
structure Mkr (X : Cx) (T : List (Addr × Str)) (q : Str) : Prop where
  rm : Room 2 X.A
  nn : X.N = (["_law_x", "_law_y", "_law_found"] : List Str)
  vx : Vis X.env.scope "_law_x"
  vy : Vis X.env.scope "_law_y"
  vf : Vis X.env.scope "_law_found"
  tb : ∃ c P, TabB X.base X.mg c P ∧ X.env.code = .ref c ∧ (P, q) ∈ T ∧ ∀ p ∈ T, p.1 = P → p.2 = q
  qu : X.env.qual ++ "<lambda>" = q
section
variable {X : Cx} {T : List (Addr × Str)} {q cx f g : Str} {C : Addr} {params : Arguments} {body : Expr} {scope : Scope} {p1 p2 p3 p4 p5 p6 p7 p8 p9 p10 p11 p12 p13 p14 p15 p16 p17 p18 p19 : Pos} {k : Nat}
theorem line1_ok (M : Mkr X T q) (E : Ec1 X.K X.mg cx f C) (hg : Gl X cx) (hF : Lm ⟨q, params, body, scope⟩ [f]) (hdef : defaultsOf params X.env = ([], [])) (hfree : ∀ y ∈ scope.names, y.2 ≠ .free) (hdb : (cx == ("__debug__" : Str)) = false)
    (hline : (p2.endLine == p14.line) = true) :
    LineOk X T (.Expr (.Call (.Attribute (.Name "_law_found" p1) "append" p2) [.Tuple [.Call (.Name cx p3) [.Name "_law_x" p4] [] p5, .Call (.Name cx p6) [] [⟨some f, .Name "_law_x" p7, p8⟩] p9, .Lambda params body scope p10, .List [.Name "_law_x" p11] p12] k p13] [] p14) p15)
      (fun x y => ⟨C, [(f, x)], [x], [f]⟩) := by
  obtain ⟨c, P, TB, hc, hm, hu⟩ := M.tb
  have vX : ∀ p, PE X (.Name "_law_x" p) (tVar 0) := fun p => pe_var (by rw [M.nn]; rfl) M.vx
  have vF : ∀ p, PE X (.Name "_law_found" p) (tVar 2) := fun p => pe_var (by rw [M.nn]; rfl) M.vf
  refine ⟨_, ps_expr (pe_bm PySem.F.plainAttrs_list PySem.F.slot_list_append PySem.F.type_list_append mt_append (vF p1) (pa_cons (pe_tup (pa_cons (pe_new1 E M.rm hg (vX p4) (mo_var 0) hdb) (pa_cons (pe_new1K E M.rm hg (vX p7) (mo_var 0) hdb)
    (pa_cons (pe_lamV TB hc M.qu hm hu hdef hfree) (pa_cons (pe_lst (pa_cons (vX p11) pa_nil)) pa_nil))))) pa_nil) rfl rfl hline), ?_⟩
  intro L x y its σ H D hx hy hL ms hn kk
  exact line hF rfl hL ms hn (fun H Q h => ⟨x, hx, h⟩) (fun H Q h => ⟨x, hx, h⟩) (fun H Q h => ⟨x, hx, by rw [sizeLine_eq]; show 1 ≤ _; omega, fun p hp => h p hp⟩) kk
theorem line2_ok (M : Mkr X T q) (E : Ec2 X.K X.mg cx f g C) (hg : Gl X cx) (hF : Lm ⟨q, params, body, scope⟩ [f, g]) (hdef : defaultsOf params X.env = ([], [])) (hfree : ∀ y ∈ scope.names, y.2 ≠ .free) (hdb : (cx == ("__debug__" : Str)) = false)
    (hline : (p2.endLine == p14.line) = true) :
    LineOk X T (.Expr (.Call (.Attribute (.Name "_law_found" p1) "append" p2) [.Tuple [.Call (.Name cx p3) [.Name "_law_x" p4, .Name "_law_y" p16] [] p5, .Call (.Name cx p6) [] [⟨some g, .Name "_law_y" p7, p8⟩, ⟨some f, .Name "_law_x" p17, p18⟩] p9, .Lambda params body scope p10, .List [.Name "_law_x" p11, .Name "_law_y" p19] p12] k p13] [] p14) p15)
      (fun x y => ⟨C, [(g, y), (f, x)], [x, y], [f, g]⟩) := by
  obtain ⟨c, P, TB, hc, hm, hu⟩ := M.tb
  have vX : ∀ p, PE X (.Name "_law_x" p) (tVar 0) := fun p => pe_var (by rw [M.nn]; rfl) M.vx
  have vY : ∀ p, PE X (.Name "_law_y" p) (tVar 1) := fun p => pe_var (by rw [M.nn]; rfl) M.vy
  have vF : ∀ p, PE X (.Name "_law_found" p) (tVar 2) := fun p => pe_var (by rw [M.nn]; rfl) M.vf
  refine ⟨_, ps_expr (pe_bm PySem.F.plainAttrs_list PySem.F.slot_list_append PySem.F.type_list_append mt_append (vF p1) (pa_cons (pe_tup (pa_cons (pe_new2 E M.rm hg (vX p4) (mo_var 0) (vY p16) (mo_var 1) hdb) (pa_cons (pe_new2K E M.rm hg (vX p17) (mo_var 0) (vY p7) (mo_var 1) hdb)
    (pa_cons (pe_lamV TB hc M.qu hm hu hdef hfree) (pa_cons (pe_lst (pa_cons (vX p11) (pa_cons (vY p19) pa_nil))) pa_nil))))) pa_nil) rfl rfl hline), ?_⟩
  intro L x y its σ H D hx hy hL ms hn kk
  exact line hF rfl hL ms hn (fun H Q h => ⟨x, hx, y, hy, h⟩) (fun H Q h => ⟨y, hy, x, hx, h⟩) (fun H Q h => ⟨x, hx, y, hy, by rw [sizeLine_eq]; show 2 ≤ _; omega, fun p hp => h p hp⟩) kk
/-- lines one behind another, then the rest -/
theorem block_ok {rest : List Stmt} {tr : TS} (hr : PSs X rest tr) : ∀ {sts : List Stmt} {itf : List (V → V → It)}, Paired (LineOk X T) sts itf → ∃ t, PSs X (sts ++ rest) t ∧ ∀ (L : Addr) (x y : V) (its : List It) (σ : L2.St) (H : Hp) (D : Ends),
    σ[0]? = some (some x) → σ[1]? = some (some y) → σ[2]? = some (some (.ref L)) → MS T L its H → its.length + itf.length < 1000 → (∀ H', MS T L (its ++ itf.map (fun i => i x y)) H' → Kp L H H' → tr D σ H') → t D σ H
  | _, _, .nil => ⟨tr, hr, fun L x y its σ H D _ _ _ ms _ k => k H (by simpa using ms) Kp.refl⟩
  | _, _, .cons (b := i) (l₂ := r) h t => by
    obtain ⟨t1, p1, q1⟩ := h
    obtain ⟨t2, p2, q2⟩ := block_ok hr t
    refine ⟨tSeq t1 t2, pss_cons p1 p2, fun L x y its σ H D hx hy hL ms hn k => ?_⟩
    refine q1 L x y its σ H _ hx hy hL ms (by simp at hn; omega) fun H1 ms1 k1 => ?_
    refine q2 L x y _ σ H1 D hx hy hL ms1 (by simp at hn ⊢; omega) fun H2 ms2 k2 => k H2 (by simpa using ms2) (k1.trans k2)
end
/-- what a maker promises -/
def spMade (T : List (Addr × Str)) (itf : List (V → V → It)) : Sp := fun vs H Q _ => ∃ x y, vs = [x, y] ∧ Tabs T H ∧ ∀ L H', H L = none → MS T L (itf.map fun i => i x y) H' → Kp L H H' → Q (.ref L) H'
def codeOf (K : PySem.W.Frag) (f : Addr) : Option Value := match K.lookup f with
  | some ⟨_, _, .func fd, _⟩ => some fd.code
  | _ => none
theorem made_ok {P : Program} {w : World} {K : PySem.W.Frag} {mg : Str → Option Value} {base : Heap} {x : Str} {params : Arguments} {body sts : List Stmt} {scope : Scope} {f c Pt : Addr} {fd : FuncData} {T : List (Addr × Str)} {itf : List (V → V → It)} {p1 p2 p3 p4 p5 : Pos}
    (F : FunD K x x params body scope [] [] f fd) (hcode : codeOf K f = some (.ref c)) (TB : TabB base mg c Pt) (hm : (Pt, x ++ ".<locals>." ++ "<lambda>") ∈ T) (hu : ∀ p ∈ T, p.1 = Pt → p.2 = x ++ ".<locals>." ++ "<lambda>")
    (S : FnScope ["_law_x", "_law_y", "_law_found"] ["_law_x", "_law_y"] scope) (vf : scope.names.lookup ("_law_found" : Str) = some NameKind.local)
    (hb : body = .Assign [.Name "_law_found" p1] (.List [] p2) p3 :: (sts ++ [.Return (some (.Name "_law_found" p4)) p5])) (hn : itf.length < 900)
    (hl : ∀ X : Cx, X.K = K → X.mg = mg → X.env.scope = scope → Mkr X T (x ++ ".<locals>." ++ "<lambda>") → Paired (LineOk X T) sts itf) :
    FnOk P w K mg base CX0 3 f fd ["_law_x", "_law_y"] (spMade T itf) := by
  obtain ⟨oc, od, dV, kV, doc, pm, an, cdv, ct, osl, rfl, lk, hcd, _, _⟩ := F.ex
  have ec : cdv = .ref c := by
    unfold codeOf at hcode
    rw [lk] at hcode
    exact Option.some.inj hcode
  subst ec
  refine fn_of lk hcd S (fun vs H Q E h => ?_) fun A outer s H vs Q E hr h => ?_
  · obtain ⟨x, y, rfl, _⟩ := h
    rfl
  · subst hb
    obtain ⟨vx, vy, rfl, hT, hQ⟩ := h
    have M : Mkr (cxOf CX0 P w K mg base ["_law_x", "_law_y", "_law_found"] x scope f (.ref c) A outer s H E).nox T (x ++ ".<locals>." ++ "<lambda>") :=
      ⟨hr, rfl, vis_par S List.mem_cons_self, vis_par S (List.mem_cons_of_mem _ List.mem_cons_self), .inl vf, ⟨c, Pt, TB, rfl, hm, hu⟩, rfl⟩
    obtain ⟨t, ht, hq⟩ := block_ok (pss_one (ps_ret (pos := p5) (pe_var (pos := p4) (i := 2) (X := (cxOf CX0 P w K mg base ["_law_x", "_law_y", "_law_found"] x scope f (.ref c) A outer s H E).nox) rfl (.inl vf)))) (hl _ rfl rfl rfl M)
    refine ⟨_, PSs.nox (pss_cons (ps_set (i := 2) S.nd rfl (.inl vf) (pe_lst pa_nil)) ht), ?_⟩
    refine ⟨Nat.zero_le _, fun L hL => ?_⟩
    refine hq L vx vy [] _ _ _ rfl rfl rfl ⟨hT.ext fun b o e => by rw [upd_ne (ne_of_none e hL)]; exact e, [], upd_same, .nil⟩ (by simpa using (by omega : itf.length < 1000)) fun H' ms k => ?_
    refine ⟨.ref L, rfl, hQ L H' hL (by simpa using ms) ((Kp.new hL).trans k)⟩
end XK0

/-! E11: several clauses «except x as n»; raise C(e); what never comes; a def that may raise, by its name -/
namespace XK0
open PySem PySem.Spec PyProof.Rows L2 LamX LamV
abbrev Suit := Addr → Value → Option Addr → TS
/-- the clauses in turn: what each wishes, with the name in slot i -/
def wTurn (K : PySem.W.Frag) (i : Nat) (Wo : WX) (D : Ends) : List (Value × Suit) → WX
  | [] => Wo
  | q :: r => wAs K q.1 i q.2 (wTurn K i Wo D r) D
/-- clauses of one name n, with their suites -/
inductive Clauses (X : Cx) (n : Str) : List ExceptHandler → List (Value × Suit) → Prop
  | nil : Clauses X n [] []
  | cons {x : Str} {c : Value} {ts : Suit} {b0 : Stmt} {su : List Stmt} {p1 p2 : Pos} {hs : List ExceptHandler} {l : List (Value × Suit)} (nm : Names X x c)
      (go : ∀ (a : Addr) (oe : Obj) (cls : Value) (d : Option Addr) (pn : List (Addr × Obj)), Zc cls d oe → (∃ vs, oe.data = .fields vs) → PSs (X.suite a ((a, oe) :: pn)) (b0 :: su) (ts a cls d)) (r : Clauses X n hs l) :
      Clauses X n (.ExceptHandler (some (.Name x p1)) (some n) (b0 :: su) p2 :: hs) ((c, ts) :: l)
section
variable {X : Cx} {n : Str} {i : Nat} {Wo : WX}
/-- a caught exception, in the air over the frames; sI: the state without it -/
structure Air (X : Cx) (pins : List (Addr × Obj)) (σ : L2.St) (H : Hp) (sI : Shared) (B : Heap) (a : Addr) (cls : Value) (d : Option Addr) (s3 : Shared) : Prop where
  inv : Inv X pins σ H sI
  fly : HandSPX.FlyingZ B (X.env :: X.outer) a (Zc cls d) s3.heap
  nb : ∀ b o, sI.heap.get? b = some o → b ∉ frs X.stack → B.get? b = some o
  up : sI.heap.UpToSlots s3.heap
  na : H a = none
  os : s3.os = sI.os
  bare : AllBare s3.gens
theorem Air.on {pins : List (Addr × Obj)} {σ : L2.St} {H : Hp} {sI s3 : Shared} {B : Heap} {a : Addr} {cls : Value} {d : Option Addr} (A : Air X pins σ H sI B a cls d s3) : Inv X pins σ H s3 := A.inv.landed A.nb A.fly.1 A.up A.os A.bare
theorem Air.to {pins : List (Addr × Obj)} {σ : L2.St} {H : Hp} {sI s3 : Shared} {B : Heap} {a : Addr} {cls : Value} {d : Option Addr} (A : Air X pins σ H sI B a cls d s3) {h4 : Heap} (f : HandSPX.FlyingZ B (X.env :: X.outer) a (Zc cls d) h4) (u : s3.heap.UpToSlots h4) :
    Air X pins σ H sI B a cls d { s3 with heap := h4 } := ⟨A.inv, f, A.nb, A.up.trans u, A.na, A.os, A.bare⟩
/-- the exception as a pinned object -/
theorem Air.pin {pins : List (Addr × Obj)} {σ : L2.St} {H : Hp} {sI s3 : Shared} {B : Heap} {a : Addr} {cls : Value} {d : Option Addr} (A : Air X pins σ H sI B a cls d s3) (hf : X.env.frame = some X.env.locals) :
    ∃ oe, s3.heap.get? a = some oe ∧ Zc cls d oe ∧ (∃ vs, oe.data = .fields vs) ∧ Inv (X.suite a ((a, oe) :: (X.pn ++ pins))) [] σ H s3 := by
  obtain ⟨oe, vs, at_, z, dat⟩ := A.fly.there
  have off : a ∉ frs (X.env :: X.outer) := fun m => by
    obtain ⟨_, o2, at2, no⟩ := A.fly.2.2.1.mem m
    cases at_.symm.trans at2
    exact no _ dat
  have mem : ∀ e ∈ X.env :: X.outer, ∀ b, e.frame = some b → b ∈ frs (X.env :: X.outer) := fun e m b q => List.mem_filterMap.mpr ⟨e, m, q⟩
  refine ⟨oe, at_, z, ⟨vs, dat⟩, A.on.suite at_ dat A.na (fun y => ?_) fun m => ?_⟩
  · subst y
    exact off (mem _ List.mem_cons_self _ hf)
  · obtain ⟨e, m1, q⟩ := List.mem_filterMap.mp m
    exact off (mem e (List.mem_cons_of_mem _ m1) a q)
theorem clauses_go {pins : List (Addr × Obj)} {σ : L2.St} {H : Hp} {sI : Shared} {B : Heap} {a : Addr} {cls : Value} {d : Option Addr} {D : Ends} (hs : X.stack = X.env :: X.outer) (hf : X.env.frame = some X.env.locals) (nd : X.N.Nodup) (at_ : X.N[i]? = some n) (lc : X.env.kindOf n = some .local) (tk : Takes X Wo) :
    ∀ {hds : List ExceptHandler} {l : List (Value × Suit)}, Clauses X n hds l → ∀ s3, Air X pins σ H sI B a cls d s3 → wTurn X.K i Wo D l cls d σ H → wpAny (model X.prog X.w) X.A (handleBy (.ref a) X.env hds) (SP X pins D) X.xe s3 := by
  intro hds l C
  induction C with
  | nil =>
    intro s3 A want
    refine wpAny_handleBy_nil ?_
    have fly := A.fly
    obtain ⟨_, _, _, oe, vs, T, oT, ts, e1, z, dat, e2, _⟩ := fly
    have go : wpAny (model X.prog X.w) X.A (setFlight (.ref a) X.env.frame) (fun _ s4 => wpAny (model X.prog X.w) X.A (throw (.ref a) : Sem Flow) (SP X pins D) X.xe s4) X.xe s3 := by
      rw [hf]
      refine HandSPX.setFlight_upZ A.fly fun h4 held up => wpAny_throw (tk _ _ ⟨a, B, sI, pins, σ, H, cls, d, rfl, A.inv, A.nb, A.up.trans up, .inr (.inr ?_), A.na, A.os, A.bare, want⟩)
      rw [hs]
      exact held
    unfold PySem.passOn
    refine wpAny_bind (wpAny_field e1 dat e2 ?_)
    have ne : ¬ ((Value.ref T == Value.none) = true) := by simp
    rw [if_neg ne]
    first
      | exact wpAny_bind go
      | exact wpAny_bind (wpAny_pure (wpAny_bind go))
  | @cons x c ts b0 su p1 p2 hs2 l2 nm go r ih =>
    intro s3 A want
    obtain ⟨b, isB, yes, no⟩ := want
    obtain ⟨oe, here, z, dat, S⟩ := A.pin hf
    have ty : PySem.W.Looks (model X.prog X.w) s3.heap (typeOf (.ref a)) cls := fun _ _ _ _ k q => wpAny_typeOf_ref (k _ _ here) (by rw [z.1]; exact q)
    have one := PySem.W.exm_one (M := model X.prog X.w) A.on.kIn ty isB
    have named : ∀ {Q : Value → Shared → Prop} {E : Value → Shared → Prop}, Q c s3 → wpAny (model X.prog X.w) (X.A.mark (some (.ref a))) (eval (.Name x p1) X.env) Q E s3 := by
      intro Q E q
      obtain ⟨g, db, m | ⟨m, v, nn⟩⟩ := nm
      · exact ld_glob (X := X.suite a ((a, oe) :: (X.pn ++ pins))) S g m q db
      · exact ld_blt (X := X.suite a ((a, oe) :: (X.pn ++ pins))) S g m v q nn db
    refine wpAny_handleBy_cons (codeAny_handlers_test (named (one.here ?_))) (fun q => by cases q)
    cases b with
    | false => exact ih s3 A (no rfl)
    | true =>
      refine codeAny_handlers_suite_as (HandSPX.lands_againZ A.fly fun h4 f4 u4 => ?_)
      have A4 := A.to f4 u4
      obtain ⟨oe4, here4, z4, dat4, S4⟩ := A4.pin hf
      refine store_ok (X := X.suite a ((a, oe4) :: (X.pn ++ pins))) (v := .ref a) S4 nd at_ (.inl lc) rfl (fun s5 S5 => ?_) (.inr lc)
      refine wpAny_mono ((go a oe4 cls d (X.pn ++ pins) z4 dat4).run [] s5 _ H _ S5 (yes rfl a A.na)) (fun f s6 y => ?_) fun _ _ y => y.elim
      have off : ∀ {τ : L2.St} {G : Hp} {R : Shared → Prop}, Inv (X.suite a ((a, oe4) :: (X.pn ++ pins))) [] τ G s6 → (∀ s7, Inv X pins (τ.set i none) G s7 → R s7) → wpAny (model X.prog X.w) X.A (do bindName X.env n .none; unbindBehindTheSuite X.env n p2) (fun _ s7 => R s7) X.xe s6 :=
        fun I q => gone_ok (I.unsuite A.inv.ok) nd at_ lc q
      match f, y with
      | .next, ⟨τ, G, I, q⟩ => exact off I fun s7 J => ⟨_, _, J, q⟩
      | .brk, ⟨τ, G, I, q⟩ => exact off I fun s7 J => ⟨_, _, J, q⟩
      | .cont, ⟨τ, G, I, q⟩ => exact off I fun s7 J => ⟨_, _, J, q⟩
      | .ret u, ⟨v, τ, G, I, rv, q⟩ => exact off I fun s7 J => ⟨_, _, _, J, rv, q⟩
/-- try: body, except x as n: .., except y as n: .. -/
theorem ps_tryAs {h0 : ExceptHandler} {hds : List ExceptHandler} {l : List (Value × Suit)} {body : List Stmt} {tb : WX → TS} {pos : Pos} (hs : X.stack = X.env :: X.outer) (hf : X.env.frame = some X.env.locals) (nd : X.N.Nodup) (at_ : X.N[i]? = some n) (lc : X.env.kindOf n = some .local) (tk : Takes X Wo)
    (hb : ∀ (W : WX) (pn : List (Addr × Obj)) (xe : Value → Shared → Prop), Takes (X.tr pn xe) W → PassesOwn (model X.prog X.w) X.A X.env xe → PSs (X.tr pn xe) body (tb W)) (C : Clauses X n (h0 :: hds) l) :
    PS X (.Try body (h0 :: hds) [] [] pos) (fun D σ H => tb (wTurn X.K i Wo D l) D σ H) := by
  refine ⟨fun pins s σ H D I want => wpAny_Try_except ?_⟩
  have fr : X.A.frames = some (X.env :: X.outer) := I.ok.frames.trans (congrArg some hs)
  let xe : Value → Shared → Prop := fun e s1 => wpAny (model X.prog X.w) X.A (noteFrame e X.env) (fun _ s2 => wpAny (model X.prog X.w) X.A (setFlight e none) (fun _ s3 => wpAny (model X.prog X.w) X.A (handleBy e X.env (h0 :: hds)) (SP X pins D) X.xe s3) X.xe s2) X.xe s1
  have takes : Takes (X.tr (X.pn ++ pins) xe) (wTurn X.K i Wo D l) := by
    rintro u s' ⟨a, B, sI, pins', τ, G, cls, d, rfl, J, nb, up, sky, na, os, ag, w⟩
    have sky : Sky B (X.env :: X.outer) a (Zc cls d) X.env.locals s'.heap := hs ▸ sky
    exact Sky.land Zc.steady fr hf sky fun h3 f3 u3 => clauses_go hs hf nd at_ lc tk C _ ⟨J.ofTry I.ok, f3, nb, up.trans u3, na, os, ag⟩ w
  refine wpAny_mono ((hb _ (X.pn ++ pins) xe takes PassesOwn.looking).run [] s σ H D (I.toTry xe) want) (fun f s1 y => ?_) fun _ _ y => y
  match f, y with
  | .next, ⟨τ, G, J, q⟩ => exact wpAny_execs_nil ⟨τ, G, J.ofTry I.ok, q⟩
  | .brk, ⟨τ, G, J, q⟩ => exact ⟨τ, G, J.ofTry I.ok, q⟩
  | .cont, ⟨τ, G, J, q⟩ => exact ⟨τ, G, J.ofTry I.ok, q⟩
  | .ret u, ⟨v, τ, G, J, rv, q⟩ => exact ⟨v, τ, G, J.ofTry I.ok, rv, q⟩
end
/-! ### what never comes -/
theorem ps_dead {X : Cx} {st : Stmt} : PS X st (fun _ _ _ => False) := ⟨fun _ _ _ _ _ _ h => h.elim⟩
theorem pss_dead {X : Cx} {sts : List Stmt} : PSs X sts (fun _ _ _ => False) := ⟨fun _ _ _ _ _ _ h => h.elim⟩
theorem pe_dead {X : Cx} {e : Expr} : PE X e (fun _ _ _ => False) := ⟨fun _ _ _ _ _ _ h => h.elim⟩
/-! ### raise C(e) -/
theorem del_new {H : Hp} {a d : Addr} {o o1 o2 o3 : HO} (ha : H a = none) (ne : d ≠ a) : upd (L2.del (upd (upd (upd H a o1) d o2) a o3) a) d o = upd H d o := by
  funext b
  by_cases e : b = d
  · rw [e, upd_same, upd_same]
  · rw [upd_ne e, upd_ne e]
    unfold L2.del
    by_cases e2 : b = a
    · rw [if_pos e2, e2, ha]
    · rw [if_neg e2, upd_ne e2, upd_ne e, upd_ne e2]
theorem ps_raise1 {X : Cx} {x f : Str} {C : Addr} {W : WX} {e : Expr} {t : TE} {p pos pos2 : Pos} (E : Ec1 X.K X.mg x f C) (hc : X.calm = true) (hr : Room 2 X.A) (tk : Takes X W) (hg : Gl X x) (h : PE X e t) (hdb : (x == ("__debug__" : Str)) = false := by decide)
    (he : starEach [e] X.env = (false, eval e X.env) :: starEach [] X.env := by rfl) : PS X (.Raise (some (.Call (.Name x p) [e] [] pos)) none pos2) (fun D σ H => tMkO C (spI1 X.K f) [] (tCons t tNil) σ H fun cls d H' => W cls d σ H') := by
  obtain ⟨fI, fd, i1, i2, i3, ⟨b1, b2⟩, _⟩ := E.ini
  have bd : Binds X.K fd ["self", f] [] := fun s us kin hl => by
    have z := b1 s us [] kin (by simpa using hl) rfl
    simpa using z
  exact ps_raise (pos := pos2) hc tk (pmk_oex (p := p) (pos := pos) E.ox i1 i2 (i3 X.prog X.w X.base) hr bd .nil pass0 hg E.gl (pa_cons h pa_nil he) hdb he rfl)
theorem mk1_ok {K : PySem.W.Frag} {mg : Str → Option Value} {x f : Str} {C : Addr} (E : Ec1 K mg x f C) {Q : XK} {H1 : Hp} {y : V} (k : ∀ d, H1 d = none → Q (.ref C) (some d) (upd H1 d (.xd [(f, y)]))) :
    [y].length ≤ 1000 ∧ ∀ a, H1 a = none → spI1 K f (.ref a :: ([y] ++ [])) (upd H1 a (exo a C none)) (fun v H2 => v = .non ∧ ∃ (d : Addr) (fs : List (Str × V)), H2 a = some (exo a C (some d)) ∧ H2 d = some (exd d fs) ∧ H1 d = none ∧ Q (.ref C) (some d) (upd (L2.del H2 a) d (.xd fs))) (fun _ _ _ => False) := by
  refine ⟨by show 1 ≤ 1000; decide, fun a ha => ⟨a, C, y, rfl, E.ox, E.no, upd_same, fun d hd ne => ⟨rfl, d, [(f, y)], upd_same, (upd_ne ne).trans upd_same, (fresh_of hd).1, ?_⟩⟩⟩
  rw [del_new ha ne]
  exact k d (fresh_of hd).1
/-! ### a def that may raise, by the module's name -/
def HasX (P : Program) (w : World) (K : PySem.W.Frag) (mg : Str → Option Value) (base : Heap) (x : Str) (k : Nat) (ps : List Str) (sp : Sp) : Prop := ∃ f fd, mg x = some (.ref f) ∧ PySem.W.keepIn K (.ref f) = true ∧ Binds K fd ps [] ∧ FnOk P w K mg base (L2.CX P w) k f fd ps sp
theorem pe_hasX {X : Cx} {k j : Nat} {x : Str} {ps : List Str} {sp : Sp} {W : WX} {E : XK} {p pos : Pos} {e : Expr} {es : List Expr} {t : TA} (F : HasX X.prog X.w X.K X.mg X.base x k ps sp) (hr : Room j X.A) (le : k ≤ j) (hg : Gl X x) (tk : Takes X W) (hW : ∀ cls d σ H, E cls d H → W cls d σ H) (ha : PA X (e :: es) t) (dbg : (x == ("__debug__" : Str)) = false := by decide)
    (stars : starEach (e :: es) X.env = (false, eval e X.env) :: starEach es X.env := by rfl) (plain : (backTo pos (starEach es X.env)).any (·.1) = false := by rfl) : PE X (.Call (.Name x p) (e :: es) [] pos) (tCall sp [] E t) := by
  obtain ⟨f, fd, gf, kf, bf, F⟩ := F
  exact pe_call F (hr.mono le) hg gf kf bf .nil (passes_call tk hW) ha dbg stars plain
end XK0

/-! A1: is_list, is_word, first_bad_word -/
namespace TH
open PySem PySem.Spec PyProof.Rows L2
def top (i : Nat) : Stmt := PySem.Challenge.pw_meettasks_k01_things_made.main.body.getD i (.Pass ⟨0, 0, 0, 0⟩)
abbrev FnP (K : PySem.W.Frag) (x : Str) (st : Stmt) (f : Addr) (fd : FuncData) : Prop := FunD K x x (defArgs st) (defBody st) (defScope st) [] [] f fd
/-- nothing that was there is changed -/
def Ex (H H' : Hp) : Prop := ∀ b o, H b = some o → H' b = some o
theorem Ex.refl {H : Hp} : Ex H H := fun _ _ h => h
theorem Ex.trans {H H1 H2 : Hp} (a : Ex H H1) (b : Ex H1 H2) : Ex H H2 := fun c o h => b c o (a c o h)
theorem Ex.new {H : Hp} {a : Addr} {o : HO} (h : H a = none) : Ex H (upd H a o) := fun b u e => (upd_ne (ne_of_none e h)).trans e
theorem Ex.none {H H' : Hp} (x : Ex H H') {p : Addr} (h : H' p = none) : H p = none := by
  cases q : H p with
  | none => rfl
  | some o => rw [x _ _ q] at h; cases h
theorem Ex.sqL {K : PySem.W.Frag} {H H' : Hp} {a : Addr} {xs : List V} (k : Ex H H') (h : SqL K H a xs) : SqL K H' a xs := h.imp (Or.imp (k _ _) fun ⟨o, z⟩ => ⟨o, k _ _ z⟩) id
theorem Ex.sqT {K : PySem.W.Frag} {H H' : Hp} {a : Addr} {xs : List V} (k : Ex H H') (h : SqT K H a xs) : SqT K H' a xs := h.imp (Or.imp (k _ _) fun ⟨o, z⟩ => ⟨o, k _ _ z⟩) id
/-- a def that keeps a promise, by the module's name -/
def Has (P : Program) (w : World) (K : PySem.W.Frag) (mg : Str → Option Value) (base : Heap) (x : Str) (k : Nat) (ps : List Str) (sp : Sp) : Prop := ∃ f fd, mg x = some (.ref f) ∧ PySem.W.keepIn K (.ref f) = true ∧ Binds K fd ps [] ∧ FnOk P w K mg base CX0 k f fd ps sp
theorem pe_has {X : Cx} {k j : Nat} {x : Str} {ps : List Str} {sp : Sp} {p pos : Pos} {e : Expr} {es : List Expr} {t : TA} (F : Has X.prog X.w X.K X.mg X.base x k ps sp) (hr : Room j X.A) (le : k ≤ j) (hg : Gl X x) (ha : PA X (e :: es) t) (dbg : (x == ("__debug__" : Str)) = false := by decide)
    (stars : starEach (e :: es) X.env = (false, eval e X.env) :: starEach es X.env := by rfl) (plain : (backTo pos (starEach es X.env)).any (·.1) = false := by rfl) : PE X (.Call (.Name x p) (e :: es) [] pos) (tCall sp [] E0 t) := by
  obtain ⟨f, fd, gf, kf, bf, F⟩ := F
  exact pe_call F (hr.mono le) hg gf kf bf .nil pass0 ha dbg stars plain
/-! ### kinds of values -/
def tys : List String := ["NoneType", "bool", "int", "str", "list", "tuple", "dict"]
/-- the kind of a value -/
def Kd (K : PySem.W.Frag) (H : Hp) (v : V) (T : String) : Prop := T ∈ tys ∧ TyX K H v (.type T) ∧ ∀ x, v = .str x → x.length ≤ 1000
theorem tyx_ex {K : PySem.W.Frag} {H H' : Hp} {v : V} {t : Value} (x : Ex H H') (h : TyX K H v t) : TyX K H' v t := by
  cases h with
  | base h =>
    refine .base ?_
    cases h with
    | non => exact .non
    | bl b => exact .bl b
    | int i => exact .int i
    | str z => exact .str z
    | flt z => exact .flt z
    | lst e => exact .lst (x _ _ e)
    | frz e => exact .frz (x _ _ e)
    | tup e => exact .tup (x _ _ e)
    | dK e => exact .dK (x _ _ e)
    | dT e => exact .dT (x _ _ e)
    | ins e cl ha hn htk hm => exact .ins (x _ _ e) cl ha hn htk hm
  | byt b => exact .byt b
  | set e => exact .set (x _ _ e)
  | kList e c => exact .kList e c
  | kTuple e c => exact .kTuple e c
  | kDict e c => exact .kDict e c
  | fTuple e => exact .fTuple (x _ _ e)
  | fDict e => exact .fDict (x _ _ e)
theorem Kd.ex {K : PySem.W.Frag} {H H' : Hp} {v : V} {T : String} (x : Ex H H') (h : Kd K H v T) : Kd K H' v T := ⟨h.1, tyx_ex x h.2.1, h.2.2⟩
theorem Kd.str {K : PySem.W.Frag} {H : Hp} {v : V} (h : Kd K H v "str") : ∃ x, v = .str x ∧ x.length ≤ 1000 := by
  obtain ⟨_, h, l⟩ := h
  generalize e : Value.type "str" = t at h
  cases h with
  | base h => cases h <;> first | exact ⟨_, rfl, l _ rfl⟩ | (exfalso; simp at e)
  | _ => exfalso; simp at e
def isLt (T : String) : Bool := decide (T = "list") || decide (T = "tuple")
theorem kit_lt {K : PySem.W.Frag} {T : String} (h : T ∈ tys) : PySem.W.kitAny K (.type T) [.type "list", .type "tuple"] = some (isLt T) := by
  have key : ∀ a b c : Bool, ∀ S : String, kitB S "list" = some a → kitB S "tuple" = some b → isLt S = c → (a || b) = c → PySem.W.kitAny K (.type S) [.type "list", .type "tuple"] = some (isLt S) := by
    intro a b c S h1 h2 h3 h4
    unfold PySem.W.kitAny
    rw [kit_ty h1]
    cases a with
    | true => rw [h3, ← h4]; rfl
    | false =>
      show PySem.W.kitAny K (.type S) [.type "tuple"] = _
      unfold PySem.W.kitAny
      rw [kit_ty h2]
      cases b with
      | true => rw [h3, ← h4]; rfl
      | false => rw [h3, ← h4]; rfl
  simp only [tys, List.mem_cons, List.mem_nil_iff, or_false] at h
  rcases h with rfl | rfl | rfl | rfl | rfl | rfl | rfl
  · exact key false false false _ (by decide +kernel) (by decide +kernel) (by decide +kernel) rfl
  · exact key false false false _ (by decide +kernel) (by decide +kernel) (by decide +kernel) rfl
  · exact key false false false _ (by decide +kernel) (by decide +kernel) (by decide +kernel) rfl
  · exact key false false false _ (by decide +kernel) (by decide +kernel) (by decide +kernel) rfl
  · exact key true false true _ (by decide +kernel) (by decide +kernel) (by decide +kernel) rfl
  · exact key false true true _ (by decide +kernel) (by decide +kernel) (by decide +kernel) rfl
  · exact key false false false _ (by decide +kernel) (by decide +kernel) (by decide +kernel) rfl
theorem kit_str {K : PySem.W.Frag} {T : String} (h : T ∈ tys) : PySem.W.kitOne K (.type T) (.type "str") = some (decide (T = "str")) := by
  simp only [tys, List.mem_cons, List.mem_nil_iff, or_false] at h
  rcases h with rfl | rfl | rfl | rfl | rfl | rfl | rfl <;> exact kit_ty (by decide +kernel)
/-! ### is_list -/
abbrev sIsList : Stmt := top 2
abbrev sIsWord : Stmt := top 3
abbrev sFirstBad : Stmt := top 4
def spIsList (K : PySem.W.Frag) : Sp := fun vs H Q _ => ∃ v T, vs = [v] ∧ Kd K H v T ∧ ∀ H', Ex H H' → Q (.bl (isLt T)) H'
section
variable {P : Program} {w : World} {K : PySem.W.Frag} {mg : Str → Option Value} {base : Heap} {f : Addr} {fd : FuncData}
theorem scIsList : FnScope ["thing"] ["thing"] (defScope sIsList) := ⟨rfl, rfl, rfl, by decide +kernel, rfl, by decide +kernel, by decide +kernel⟩
theorem ok_is_list (F : FnP K "is_list" sIsList f fd) (gi : mg "isinstance" = none) (gl : mg "list" = none) (gt : mg "tuple" = none) : FnOk P w K mg base CX0 1 f fd ["thing"] (spIsList K) := by
  refine F.ok scIsList (fun vs H Q E h => ?_) (fun cdv A outer s H vs Q E hr h => ?_)
  · obtain ⟨v, T, rfl, _⟩ := h
    rfl
  · refine ⟨_, PSs.nox (pss_one (ps_ret (pe_callB call_isiT rfl gi boot_isinstance (pa_cons (pv 0) (pa_cons (pe_tup (pa_cons (pe_bltn (v := .ty "list") rfl gl boot_list rfl) (pa_cons (pe_bltn (v := .ty "tuple") rfl gt boot_tuple rfl) pa_nil))) pa_nil))))), ?_⟩
    obtain ⟨v, T, rfl, ⟨t1, t2, _⟩, hQ⟩ := h
    exact ⟨v, rfl, by show 2 ≤ sizeLine; decide, fun tp htp => ⟨v, tp, _, _, [.type "list", .type "tuple"], _, rfl, upd_same, .cons (.ty "list") (.cons (.ty "tuple") .nil), tyx_ex (Ex.new htp) t2, kit_lt t1, hQ _ (Ex.new htp)⟩⟩
end
end TH

/-! A2: is_word -/
namespace TH
open PySem PySem.Spec PyProof.Rows L2
def letters : Str := "abcdefghijklmnopqrstuvwxyz"
def okS (x : Str) : Bool := decide (1 ≤ x.length) && (decide (x.length ≤ 8) && x.cps.toList.all fun c => decide (c ∈ letters.cps.toList))
/-- a word: one to eight small letters -/
def isWd : V → Bool
  | .str x => okS x
  | _ => false
def spIsWord (K : PySem.W.Frag) : Sp := fun vs H Q _ => ∃ v T, vs = [v] ∧ Kd K H v T ∧ ∀ H', Ex H H' → Q (.bl (isWd v)) H'
theorem isWd_no {K : PySem.W.Frag} {H : Hp} {v : V} {T : String} (h : Kd K H v T) (n : T ≠ "str") : isWd v = false := by
  cases v with
  | str x =>
    obtain ⟨_, t, _⟩ := h
    cases t with
    | base t => cases t; exact absurd rfl n
  | _ => rfl
section
variable {P : Program} {w : World} {K : PySem.W.Frag} {mg : Str → Option Value} {base : Heap} {f : Addr} {fd : FuncData}
theorem scIsWord : FnScope ["thing", "sign"] ["thing"] (defScope sIsWord) := ⟨rfl, rfl, rfl, by decide +kernel, rfl, by decide +kernel, by decide +kernel⟩
theorem ok_is_word {t : Tok} (F : FnP K "is_word" sIsWord f fd) (gi : mg "isinstance" = none) (gs : mg "str" = none) (gn : mg "len" = none) (ga : mg "all" = none) (gL : mg "LETTERS" = some (.str letters t)) : FnOk P w K mg base CX0 1 f fd ["thing"] (spIsWord K) := by
  refine F.ok scIsWord (fun vs H Q E h => ?_) (fun cdv A outer s H vs Q E hr h => ?_)
  · obtain ⟨v, T, rfl, _⟩ := h
    rfl
  · refine ⟨_, PSs.nox (pss_one (ps_ret (pe_and (pe_callB call_isi rfl gi boot_isinstance (pa_cons (pv 0) (pa_cons (pe_bltn (v := .ty "str") rfl gs boot_str rfl) pa_nil)))
      (pe_and (pe_chain op_le op_le pe_int (pe_callB call_len rfl gn boot_len (pa_cons (pv 0) pa_nil)) pe_int)
      (pe_one (pe_callB (cr_all rfl) rfl ga boot_all (pa_cons (pe_lc (own := [("sign", 1)]) rfl scIsWord.nd (pi_str (pv 0)) (blkOk_by (by kernel_rfl)) (fun s H C cl fp => pg_name (i := 1) scIsWord.nd rfl (.inl rfl) (.inr rfl)) (fun s H C cl fp => pts_nil)
        (fun s H C cl fp => pe_cmpR op_in_sign (pv 1) (pe_glob (v := .str letters) rfl gL ⟨_, rfl⟩) (by with_unfolding_all rfl))) pa_nil))))))), ?_⟩
    obtain ⟨v, T, rfl, k, hQ⟩ := h
    refine ⟨v, rfl, v, .ty "str", _, _, _, rfl, .ty "str", k.2.1, kit_str k.1, _, rfl, ?_⟩
    by_cases hT : T = "str"
    · subst hT
      obtain ⟨x, rfl, hl⟩ := k.str
      rw [if_pos (by simp)]
      refine ⟨.str x, rfl, .str x, x.length, rfl, ⟨by rw [sizeLine_eq]; omega, rfl⟩, 1, x.length, rfl, rfl, _, rfl, ?_⟩
      by_cases h1 : (1 : Int) ≤ x.length
      · rw [if_pos (decide_eq_true h1)]
        refine ⟨x.length, 8, rfl, rfl, _, rfl, ?_⟩
        by_cases h8 : (x.length : Int) ≤ 8
        · rw [if_pos (decide_eq_true h8)]
          refine ⟨.str x, rfl, x, rfl, fun D hD => ?_⟩
          have ext : ∀ l : List V, Ex H (upd H D (.lst l)) := fun l => Ex.new hD
          refine lc_it walk_str (fun n H2 => H2 = upd H D (.lst ((x.cps.toList.take n).map fun c => V.bl (decide (c ∈ letters.cps.toList))))) rfl (fun _ _ _ _ => trivial) (fun n v H2 H3 hn e y => ?_) fun H2 e => ?_
          · obtain ⟨rfl, c, hc, rfl⟩ := y
            subst e
            refine ⟨rfl, .str ⟨#[c]⟩, rfl, c, letters, rfl, rfl, _, upd_same, ?_, ?_⟩
            · have e1 : x.cps.toList.length = x.length := Array.length_toList
              rw [sizeLine_eq, List.length_map, List.length_take, e1]
              have := Nat.min_le_right n x.length
              omega
            · rw [upd_upd]
              have hc' : x.cps.toList[n]? = some c := by simpa using hc
              rw [List.take_add_one, hc', List.map_append]
              rfl
          · subst e
            have et : x.cps.toList.take x.cps.size = x.cps.toList := List.take_of_length_le (by simp)
            refine ⟨D, x.cps.toList.map fun c => decide (c ∈ letters.cps.toList), rfl, .inl (.inl ?_), ?_⟩
            · rw [upd_same, et, List.map_map]
              rfl
            · have q := hQ _ (ext ((x.cps.toList.take x.cps.size).map fun c => V.bl (decide (c ∈ letters.cps.toList))))
              have e2 : isWd (.str x) = (x.cps.toList.map fun c => decide (c ∈ letters.cps.toList)).all id := by
                show okS x = _
                unfold okS
                rw [decide_eq_true (show 1 ≤ x.length by omega), decide_eq_true (show x.length ≤ 8 by omega), List.all_map]
                rfl
              rw [e2] at q
              exact q
        · rw [if_neg (by simpa using h8)]
          have q := hQ _ Ex.refl
          rw [show isWd (.str x) = false by
            show okS x = false
            unfold okS
            rw [decide_eq_false (show ¬ x.length ≤ 8 by omega)]
            simp] at q
          exact q
      · rw [if_neg (by simpa using h1)]
        refine ⟨_, rfl, ?_⟩
        have q := hQ _ Ex.refl
        rw [show isWd (.str x) = false by
          show okS x = false
          unfold okS
          rw [decide_eq_false (show ¬ 1 ≤ x.length by omega)]
          rfl] at q
        exact q
    · rw [if_neg (by simpa using hT)]
      have q := hQ _ Ex.refl
      rw [isWd_no k hT] at q
      exact q
end
end TH

/-! A3: enumerate over a tuple -/
namespace TH
open PySem PySem.Spec PyProof.Rows L2
abbrev enO (it : Addr) : Obj := { cls := .type "enumerate", data := .fields #[.none, .bool false, .ref it, rawInt 0, .none, .none] }
set_option maxHeartbeats 8000000 in
theorem enum_made {v : Value} {o : Obj} {G : Heap → Prop} (B : Begins v o G) :
    Meets (Builtin.«enumerate.__new__» ⟨[.type "enumerate", v], []⟩) (fun _ R s => G s.heap ∧ R (.ok (.ret (.ref (s.heap.push o).objs.size))) { s with heap := (s.heap.push o).push (enO s.heap.objs.size) }) :=
  .of_wp fun prog w A R s ⟨g1, g2⟩ => by
    obtain ⟨hp, g, d, tk, os⟩ := s
    have sb := sub_enumerate
    have begun : ∀ {A' : Around} {E : Value → Shared → Prop} {Q : Value → Shared → Prop}, Q (.ref hp.objs.size) ⟨hp.push o, g, d, tk, os⟩ → wpAny (model prog w) A' (pyIter v) Q E ⟨hp, g, d, tk, os⟩ := fun q => B.iter prog w _ _ _ _ g1 q
    wp_walk using begun
    refine wpAny_stack_any fun st => wpAny_pure ?_
    split
    · rename_i c _ _ _ _ _
      cases (c == Value.type "enumerate") <;> (wp_walk using begun; exact ⟨_, rfl, g2⟩)
    · wp_walk using begun
      exact ⟨_, rfl, g2⟩
theorem enum_call {prog : Program} {w : World} {A : Around} {E : Value → Shared → Prop} {s : Shared} {v : Value} {o : Obj} {G : Heap → Prop} {Q : Value → Shared → Prop} (B : Begins v o G) (g1 : G s.heap)
    (q : Q (.ref (s.heap.objs.size + 1)) { s with heap := (s.heap.push o).push (enO s.heap.objs.size) }) : wpAny (model prog w) A (call (.type "enumerate") [v]) Q E s := by
  refine callType_new F.called_enumerate (by decide) (F.typeCall_enumerate_1 _) (F.newCall_enumerate_1 _) (fun x => F.args_object_init_2 x _) F.entry_enumerate_new (enum_made B) ⟨g1, ?_⟩
  have sz : (s.heap.push o).objs.size = s.heap.objs.size + 1 := Heap.size_push ..
  have new := Heap.get?_push_size (s.heap.push o) (o := enO s.heap.objs.size) rfl
  show _ ∧ _
  rw [sz] at new ⊢
  exact ⟨⟨_, new, rfl⟩, q⟩
/-- the tuple at a, each item in a new pair -/
def ItE (K : PySem.W.Frag) (a : Addr) : It :=
  ⟨fun i H => ∃ (xs : List V) (x : V), SqT K H a xs ∧ xs[i]? = some x, fun i H v H' => ∃ T x, v = .ref T ∧ H T = none ∧ H' = upd H T (.tup [.int (i : Nat), x]) ∧ ∀ xs, SqT K H a xs → xs[i]? = some x, fun i H => ∃ xs : List V, SqT K H a xs ∧ xs.length = i⟩
theorem walk_enumT {K : PySem.W.Frag} {a : Addr} {xs : List V} : Walk (ItE K a) xs.length (fun H => SqT K H a xs) (YPair (fun i => some (.int (i : Nat))) (fun i => xs[i]?)) where
  goes := fun i H hi h => ⟨xs, xs[i], h, List.getElem?_eq_getElem hi⟩
  stops := fun H h => ⟨xs, h, rfl⟩
  yields := fun i H v H' _ h ⟨T, x, e1, e2, e3, e4⟩ => ⟨T, _, x, e1, e2, e3, rfl, e4 xs h⟩
/-- how the two new objects stand at turn i -/
def EnSt (a e it : Addr) (i : Nat) (h : Heap) : Prop := (∃ old, IsEnum h e it ((i : Nat) : Int) old) ∧ h.IsTupleIter it a i ∧ e ≠ it ∧ a ≠ it ∧ e ≠ a
theorem turn_enumT {P : Program} {w : World} {K : PySem.W.Frag} {elts : List Expr} {kk : Nat} {tpos : Pos} (a e it : Addr) : Turn P w K (.Tuple elts kk tpos) (ItE K a) [e, it] e (EnSt a e it) where
  mem := List.mem_cons_self
  obj := fun i h ⟨⟨old, he⟩, ⟨o, ho, _, hd⟩, _⟩ b hb => by
    rcases List.mem_cons.mp hb with z | z
    · subst z
      exact ⟨_, he, fun v q => nomatch q⟩
    · rw [List.mem_singleton.mp z]
      exact ⟨o, ho, fun v q => by rw [hd] at q; cases q⟩
  keep := fun i h h' ⟨⟨old, he⟩, hi, hne⟩ k => ⟨⟨old, k e List.mem_cons_self _ he⟩, hi.at fun o q => k it (by simp) o q, hne⟩
  item := by
    intro X hP hw hK hc i pins s σ H E I hf st ⟨xs, x, sq, hx⟩
    subst hP hw hK
    obtain ⟨⟨old, he⟩, hit, ne, na, nea⟩ := st
    obtain ⟨its, rel, tp, _⟩ := I.tuple sq
    obtain ⟨u, hu, ru⟩ := rel.get hx
    have lte : e < s.heap.objs.size := Heap.lt_size he
    have lti : it < s.heap.objs.size := by
      obtain ⟨_, q, _⟩ := hit
      exact Heap.lt_size q
    have lt : i < its.toArray.size := by
      obtain ⟨z, _⟩ := List.getElem?_eq_some_iff.mp hu
      simpa using z
    refine wpAny_pyNext_enum_itemC (Draws.tuple (show X.A.in1.handled = none from I.ok.hd hc) it a na its.toArray) he ⟨hit, tp⟩ lt ne (by simp [ne, nea]) fun y h1 tk py out st1 new sz keep => ?_
    have ey : y = u := Option.some.inj (py.symm.trans (by simpa using hu))
    subst ey
    refine ⟨_, rfl, wpAny_letOwnedTupleGo_enum (s := { s with heap := h1, toks := tk + 1 }) out fun h2 he2 sb => ?_⟩
    have new2 : h2.get? s.heap.objs.size = some { cls := .type "tuple", data := .seq #[.int i tk, y] } := (sb.2 _ (Nat.ne_of_gt lte)).trans new
    have ok : ObjOk X.prog X.w (upd H s.heap.objs.size (.tup [.int (i : Nat), x])) h2 s.heap.objs.size (.tup [.int (i : Nat), x]) := ⟨by show 2 ≤ sizeLine; decide, [.int i tk, y], .cons ⟨_, rfl⟩ (.cons ru .nil), _, new2, rfl, _, rfl⟩
    have J : Inv X pins σ (upd H s.heap.objs.size (.tup [.int (i : Nat), x])) { s with heap := h2, toks := tk + 1 } :=
      I.turnedNew (ch := [e, it]) (fun b ob hb q => (sb.2 b fun z => hb (by simp [z])).trans (keep b ob (fun z => hb (by simp [z])) (fun z => hb (by simp [z])) q)) hf (Nat.le_refl _) ok
    refine ⟨.ref s.heap.objs.size, _, J, rfl, ⟨_, x, rfl, I.hok.fresh (Nat.le_refl _), rfl, fun ys z => by rw [I.tuple_inj z sq]; exact hx⟩, ⟨⟨y, ?_⟩, st1.1.at fun o q => (sb.2 it (Ne.symm ne)).trans q, ne, na, nea⟩, fun b hb => ?_⟩
    · rw [show ((i + 1 : Nat) : Int) = (i : Int) + 1 by omega]
      exact he2
    · have lb : b < s.heap.objs.size := by
        rcases List.mem_cons.mp hb with z | z
        · rw [z]; exact lte
        · rw [List.mem_singleton.mp z]; exact lti
      exact (upd_ne (Nat.ne_of_lt lb)).trans (hf b hb).1
  done := by
    intro X hP hw hK hc i pins s σ H E I hf st ⟨xs, sq, le⟩
    subst hP hw hK le
    obtain ⟨⟨old, he⟩, hit, ne, na, nea⟩ := st
    obtain ⟨its, rel, tp, _⟩ := I.tuple sq
    have en : its.toArray.size = xs.length := by
      rw [List.size_toArray]
      exact rel.length.symm
    obtain ⟨f0, f1, _, f3, f4, f5⟩ := hf it (by simp)
    exact wpAny_pyNext_enum_endD (Draws.tuple (show X.A.in1.handled = none from I.ok.hd hc) it a na its.toArray) he ⟨en ▸ hit, tp⟩ fun h1 eb => ⟨rfl, I.turned (t' := s.toks) (fun b o nb q => eb b o nb q) f0 f1 f3 f4 f5⟩
  self := fun A i s Q E ⟨⟨_, he⟩, _⟩ h => wpAny_pyIter_enum he h
/-- a sequence: a list or a tuple -/
def Sq (K : PySem.W.Frag) (H : Hp) (a : Addr) (xs : List V) : Prop := SqL K H a xs ∨ SqT K H a xs
/-- a walk in numbered pairs over xs, which goes as long as what stood at its begin stands -/
def EnW (H : Hp) (xs : List V) (J : It) : Prop := ∃ G, Walk J xs.length G (YPair (fun i => some (.int (i : Nat))) (fun i => xs[i]?)) ∧ ∀ H', Ex H H' → G H'
def iEnumT (K : PySem.W.Frag) (ta : TA) : TI := fun σ H R => ta σ H fun vs H1 => ∃ (a : Addr) (xs : List V) (H0 : Hp), vs = [.ref a] ∧ Ex H0 H1 ∧ Sq K H0 a xs ∧ ∀ J, EnW H0 xs J → R J H1
/-- enumerate of a list or a tuple -/
theorem pi_enumT {X : Cx} {e : Expr} {ta : TA} {p pos tpos : Pos} {elts : List Expr} {kk : Nat} (hg : Gl X "enumerate") (hm : X.mg "enumerate" = none) (ha : PA X [e] ta) (stars : starEach [e] X.env = [(false, eval e X.env)] := by rfl) :
    PI X (.Tuple elts kk tpos) (.Call (.Name "enumerate" p) [e] [] pos) (iEnumT X.K ta) := ⟨fun pins s σ H R I h => Call_ (ld_blt I hg hm boot_enumerate (PyProof.Rows.callWith_type1 (thn (ha.run pos pins s σ H _ I h) fun us s1 ⟨vs, H1, J, rel, a, xs, H0, ev, x0, sq, q⟩ => by
  subst ev
  cases rel with
  | cons r rr =>
    cases rr
    cases r
    have far : ∀ b, b ∈ [s1.heap.objs.size + 1, s1.heap.objs.size] → s1.heap.objs.size ≤ b := fun b m => by
      rcases List.mem_cons.mp m with z | z
      · rw [z]; exact Nat.le_succ _
      · rw [List.mem_singleton.mp z]; exact Nat.le_refl _
    have apart : ∀ b, b ∈ [s1.heap.objs.size + 1, s1.heap.objs.size] → FpOk X pins H1 b := fun b m => J.fpOk (far b m) (J.hok.fresh (far b m))
    rcases sq with sq | sq
    · obtain ⟨its, _, lp, _⟩ := J.list (x0.sqL sq)
      exact call_enumerate_list lp.isList fun h1 en li _ keep => wpAny_pyIter_enum en ⟨s1.heap.objs.size + 1, _, _, _, H1, rfl, J.kept (t' := s1.toks) keep, turn_enum a (s1.heap.objs.size + 1) s1.heap.objs.size, ⟨⟨.none, en⟩, li, Nat.succ_ne_self _⟩, apart, q _ ⟨_, walk_enum, fun H' x => x.sqL sq⟩⟩
    · obtain ⟨its, _, tp, _⟩ := J.tuple (x0.sqT sq)
      have la : a < s1.heap.objs.size := by
        obtain ⟨_, z, _⟩ := tp
        exact Heap.lt_size z
      have tI : (s1.heap.push { cls := .type "tuple_iterator", data := .fields #[.ref a, .int 0 0] }).objs.size = s1.heap.objs.size + 1 := Heap.size_push ..
      have en : IsEnum ((s1.heap.push { cls := .type "tuple_iterator", data := .fields #[.ref a, .int 0 0] }).push (enO s1.heap.objs.size)) (s1.heap.objs.size + 1) s1.heap.objs.size 0 .none := by
        have z := Heap.get?_push_size (s1.heap.push { cls := .type "tuple_iterator", data := .fields #[.ref a, .int 0 0] }) (o := enO s1.heap.objs.size) rfl
        rw [tI] at z
        exact z
      refine enum_call (begins_tuple a its.toArray) tp (wpAny_pyIter_enum en ⟨s1.heap.objs.size + 1, _, _, _, H1, rfl, J.kept (t' := s1.toks) fun b o z => Heap.get?_push_of_some _ (Heap.get?_push_of_some _ z), turn_enumT a (s1.heap.objs.size + 1) s1.heap.objs.size, ⟨⟨.none, en⟩, ⟨_, Heap.get?_push_of_some _ (Heap.get?_push_size _ rfl), rfl, rfl⟩, Nat.succ_ne_self _, Nat.ne_of_lt la, Nat.ne_of_gt (Nat.lt_succ_of_lt la)⟩, apart, q _ ⟨_, walk_enumT, fun H' x => x.sqT sq⟩⟩)) stars rfl))⟩
end TH

/-! A4: first_bad_word -/
namespace TH
open PySem PySem.Spec PyProof.Rows L2
/-- the first that is no word, or was met -/
def fbw : List V → List V → Nat → Option Nat
  | [], _, _ => none
  | x :: r, met, i => if (!isWd x || inV x met) = true then some i else fbw r (met ++ [x]) (i + 1)
def optV : Option Nat → V
  | none => .non
  | some i => .int i
theorem Sq.ex {K : PySem.W.Frag} {H H' : Hp} {a : Addr} {xs : List V} (k : Ex H H') (h : Sq K H a xs) : Sq K H' a xs := h.imp k.sqL k.sqT
theorem sqL_kd {K : PySem.W.Frag} {H : Hp} {a : Addr} {xs : List V} (h : SqL K H a xs) : Kd K H (.ref a) "list" := by
  refine ⟨by decide, ?_, fun x z => nomatch z⟩
  rcases h with (h | ⟨o, h⟩) | ⟨o, its, n, hk, hc, _⟩
  · exact .base (.lst h)
  · exact .base (.frz h)
  · exact .kList hk hc
theorem sqT_kd {K : PySem.W.Frag} {H : Hp} {a : Addr} {xs : List V} (h : SqT K H a xs) : Kd K H (.ref a) "tuple" := by
  refine ⟨by decide, ?_, fun x z => nomatch z⟩
  rcases h with (h | ⟨o, h⟩) | ⟨o, its, n, hk, hc, _⟩
  · exact .base (.tup h)
  · exact .fTuple h
  · exact .kTuple hk hc
def spFirstBad (K : PySem.W.Frag) : Sp := fun vs H Q _ => ∃ (v : V) (b : Addr), vs = [v, .ref b] ∧ H b = some (.lst []) ∧
  ((∃ T, Kd K H v T ∧ isLt T = false ∧ ∀ H', Ex H H' → Q (.int 0) H') ∨
   ∃ (a : Addr) (xs : List V), v = .ref a ∧ Sq K H a xs ∧ xs.length ≤ 1000 ∧ (∀ x ∈ xs, ∃ T, Kd K H x T) ∧ ∀ H', Ex H H' → Q (optV (fbw xs [] 0)) H')
theorem isWd_str {v : V} (h : isWd v = true) : ∃ x, v = .str x := by
  cases v with
  | str x => exact ⟨x, rfl⟩
  | _ => cases h
theorem fbw_step {xs : List V} {i : Nat} {x : V} {met : List V} (h : xs[i]? = some x) : fbw (xs.drop i) met i = if (!isWd x || inV x met) = true then some i else fbw (xs.drop (i + 1)) (met ++ [x]) (i + 1) := by
  obtain ⟨lt, e⟩ := List.getElem?_eq_some_iff.mp h
  rw [List.drop_eq_getElem_cons lt, e]
  rfl
section
variable {P : Program} {w : World} {K : PySem.W.Frag} {mg : Str → Option Value} {base : Heap} {f : Addr} {fd : FuncData}
theorem scFirstBad : FnScope ["things", "barred", "met", "index", "thing"] ["things", "barred"] (defScope sFirstBad) := ⟨rfl, rfl, rfl, by decide +kernel, rfl, by decide +kernel, by decide +kernel⟩
theorem ok_first_bad (F : FnP K "first_bad_word" sFirstBad f fd) (FL : Has P w K mg base "is_list" 1 ["thing"] (spIsList K)) (FW : Has P w K mg base "is_word" 1 ["thing"] (spIsWord K)) (gl : mg "list" = none) (ge : mg "enumerate" = none) : FnOk P w K mg base CX0 2 f fd ["things", "barred"] (spFirstBad K) := by
  refine F.ok scFirstBad (fun vs H Q E h => ?_) (fun cdv A outer s H vs Q E hr h => ?_)
  · obtain ⟨v, b, rfl, _⟩ := h
    rfl
  · refine ⟨_, PSs.nox (pss_cons (ps_if (pt_not (pt_val (pe_has FL hr (by decide) rfl (pa_cons (pv 0) pa_nil)))) (pss_one (ps_ret pe_int)) pss_nil)
      (pss_cons (ps_set (i := 2) scFirstBad.nd rfl (.inl rfl) (pe_callTy call_list_of rfl gl boot_list (pa_cons (pv 1) pa_nil)))
      (pss_cons (ps_for PassesOwn.never rfl (pi_enumT rfl ge (pa_cons (pv 0) pa_nil)) (pg_tup rfl (pgs_cons (pg_name (i := 3) scFirstBad.nd rfl (.inl rfl)) (pgs_cons (pg_name (i := 4) scFirstBad.nd rfl (.inl rfl)) pgs_nil)))
        (pss_cons (ps_if (PW.pt (pw_or (pt_not (pt_val (pe_has FW hr (by decide) rfl (pa_cons (pv 4) pa_nil)))) (pw_or1 (pt_cmpR op_in_seq (pv 4) (pv 2) (by with_unfolding_all rfl))))) (pss_one (ps_ret (pv 3))) pss_nil)
        (pss_one (ps_expr (pe_bm PySem.F.plainAttrs_list PySem.F.slot_list_append PySem.F.type_list_append mt_append (pv 2) (pa_cons (pv 4) pa_nil))))))
      (pss_one (ps_ret pe_non))))), ?_⟩
    obtain ⟨v, b, rfl, hb, h⟩ := h
    rcases h with ⟨T, k, nl, hQ⟩ | ⟨a, xs, rfl, sq, len, kinds, hQ⟩
    · refine ⟨v, rfl, v, T, rfl, k, fun H1 x1 => ⟨_, rfl, ?_⟩⟩
      rw [nl]
      exact hQ H1 x1
    · obtain ⟨T, kT, lT⟩ : ∃ T, Kd K H (.ref a) T ∧ isLt T = true := by
        rcases sq with sq | sq
        · exact ⟨_, sqL_kd sq, rfl⟩
        · exact ⟨_, sqT_kd sq, rfl⟩
      refine ⟨.ref a, rfl, .ref a, T, rfl, kT, fun H1 x1 => ⟨_, rfl, ?_⟩⟩
      rw [lT]
      refine ⟨.ref b, rfl, b, [], rfl, .inl (.inl (.inl (x1 _ _ hb))), fun m nm => ?_⟩
      have x2 : Ex H (upd H1 m (.lst [])) := x1.trans (Ex.new nm)
      have nmH : H m = none := x1.none nm
      refine ⟨.ref a, rfl, a, xs, H, rfl, x2, sq, fun J ⟨G, W, gs⟩ => for_it W (fun i σ H2 => ∃ (met : List V) (o3 o4 : Option V), σ = [some (.ref a), some (.ref b), some (.ref m), o3, o4] ∧ Ex H H2 ∧ H2 m = some (.lst met) ∧ met.length = i ∧ (∀ y ∈ met, ∃ x, y = .str x) ∧ fbw xs [] 0 = fbw (xs.drop i) met i)
        ⟨[], none, none, rfl, x2, upd_same, rfl, (fun y h => by cases h), rfl⟩ (fun i σ H2 _ ⟨_, _, _, _, x, _⟩ => gs H2 x) (fun i v σ H2 H3 hi h y => ?_) fun σ H2 h => ?_⟩
      · obtain ⟨met, o3, o4, rfl, x3, hm, ln, ws, eq⟩ := h
        obtain ⟨t, u, x, rfl, nt, rfl, eu, ex⟩ := y
        cases eu
        have xt : Ex H2 (upd H2 t (.tup [.int (i : Nat), x])) := Ex.new nt
        obtain ⟨Tx, kx⟩ := kinds x (List.mem_of_getElem? ex)
        refine ⟨t, _, rfl, .inl (.inl upd_same), rfl, .int i, [x], rfl, x, [], rfl, rfl, ?_⟩
        refine ⟨x, rfl, x, Tx, rfl, kx.ex (x3.trans xt), fun H4 x4 => ⟨_, rfl, ?_⟩⟩
        have x5 := (x3.trans xt).trans x4
        have hm4 : H4 m = some (.lst met) := x4 _ _ (xt _ _ hm)
        rw [fbw_step ex] at eq
        cases wd : isWd x with
        | false =>
          rw [wd] at eq
          refine ⟨.int i, rfl, ?_⟩
          have q := hQ H4 x5
          rw [eq] at q
          exact q
        | true =>
          rw [wd] at eq
          obtain ⟨z, rfl⟩ := isWd_str wd
          refine ⟨.str z, rfl, .ref m, rfl, m, met, rfl, .inl (.inl (.inl hm4)), rfl, List.all_eq_true.mpr fun y hy => ?_, _, rfl, ?_⟩
          · obtain ⟨x, rfl⟩ := ws y hy
            rfl
          · cases iv : inV (.str z) met with
            | true =>
              rw [iv] at eq
              refine ⟨.int i, rfl, ?_⟩
              have q := hQ H4 x5
              rw [eq] at q
              exact q
            | false =>
              rw [iv, if_neg (by simp)] at eq
              refine ⟨.ref m, rfl, .inl ⟨rfl, met, .inl (.inl hm4)⟩, .str z, rfl, m, met, .str z, rfl, rfl, hm4, by rw [sizeLine_eq]; omega, ?_⟩
              refine ⟨met ++ [.str z], _, _, rfl, fun b o e => ?_, upd_same, by simp [ln], fun y hy => ?_, eq⟩
              · have nb : b ≠ m := fun q => by rw [q, nmH] at e; cases e
                exact (upd_ne nb).trans (x5 _ _ e)
              · rcases List.mem_append.mp hy with z | z
                · exact ws y z
                · exact ⟨_, List.mem_singleton.mp z⟩
      · obtain ⟨met, o3, o4, rfl, x3, hm, ln, ws, eq⟩ := h
        have q := hQ H2 x3
        rw [eq, List.drop_length] at q
        exact q
end
end TH

/-! A5: [*d, ..]; a Thing in memory; names_of, led_to -/
namespace TH
open PySem PySem.Spec PyProof.Rows L2
def tStarD (te : TE) (t : TA) : TA := fun σ H Q => te σ H fun x H1 => ∃ (d : Addr) (kvs : List (Key × V)), x = .ref d ∧ Rd H1 d (.dK kvs) ∧ t σ H1 fun ys H2 => Q ((kvs.map fun kv => kV kv.1) ++ ys) H2
theorem pa_starD {X : Cx} {e : Expr} {es : List Expr} {te : TE} {t : TA} {p : Pos} (hc : X.calm = true) (he : PE X e te) (hr : PA X es t) (stars : starEach (.Starred e p :: es) X.env = (true, eval e X.env) :: starEach es X.env := by rfl) :
    PA X (.Starred e p :: es) (tStarD te t) := ⟨fun pos pins s σ H Q I h => PySem.W.items_star (thn (he.run pins s σ H _ I h) fun v s1 ⟨y, H1, J, ry, d, kvs, ey, rd, q⟩ => by
  subst ey
  have ry : v = Value.ref d := ry
  subst ry
  obtain ⟨z, lo, vs, rel, dd⟩ := dk_rd J.hok rd
  obtain ⟨ep, at_⟩ := dd.dictAt
  have ek : (kvs.map fun kv => kV kv.1) = vs.map fun p => kV p.1 := by
    have e := congrArg (List.map kV) rel.keys
    simp only [List.map_map] at e
    exact e
  unfold PySem.W.StarOf notIterableAtAll
  refine wpAny_bind (wpAny_specialOf dd.typeIs PySem.F.slot_dict_iter.lookup (wpAny_pure ⟨rfl, ?_⟩))
  refine PySem.W.kdu_collect (PySem.W.kdl_dict (knd := mixKind X.prog X.w) (kvs := vs) (ep := ep) lo) (J.ok.hd hc) at_ (by rw [← rel.length]; exact z) fun h1 tk acc keep its => ?_
  have vals : Vals (vs.map fun p => kV p.1) acc.toList := keys_at (by rw [Array.length_toList]; exact its.1) fun j v e => its.2 j v (by rw [← Array.getElem?_toList]; exact e)
  exact thn (hr.run pos pins _ σ H1 _ (J.kept (t' := tk) keep) q) fun ws s3 ⟨us, H3, L, r3, q3⟩ => ⟨_, H3, L, (ek ▸ vals).append r3, q3⟩) stars⟩
/-! ### a Thing -/
abbrev Ld := List (Str × Str)
abbrev Lds := List (Str × Ld)
structure ThD where
  vals : List Str
  start : Str
  deeds : Lds
  ents : Lds
def ldV (l : Ld) : List (Key × V) := l.map fun p => (Sum.inr p.1, V.str p.2)
/-- a dict of dicts at a -/
def DD (H : Hp) (a : Addr) (ls : Lds) : Prop := ∃ kvs : List (Key × V), H a = some (.dK kvs) ∧ Paired (fun (l : Str × Ld) (kv : Key × V) => kv.1 = Sum.inr l.1 ∧ ∃ b, kv.2 = .ref b ∧ H b = some (.dK (ldV l.2))) ls kvs
theorem DD.ex {H H' : Hp} {a : Addr} {ls : Lds} (x : Ex H H') (h : DD H a ls) : DD H' a ls := by
  obtain ⟨kvs, e, p⟩ := h
  exact ⟨kvs, x _ _ e, Paired.mapP p fun _ _ ⟨e1, b, e2, e3⟩ => ⟨e1, b, e2, x _ _ e3⟩⟩
theorem DD.keys {ls : Lds} {kvs : List (Key × V)} {R : Str × Ld → Key × V → Prop} (p : Paired R ls kvs) (h : ∀ l kv, R l kv → kv.1 = Sum.inr l.1) : kvs.map (fun kv => kV kv.1) = ls.map fun l => V.str l.1 := by
  induction p with
  | nil => rfl
  | cons r _ ih => rw [List.map_cons, List.map_cons, ih, h _ _ r]; rfl
def look (ls : Lds) (n : Str) : Option Ld := (ls.find? fun l => decide (l.1 = n)).map (·.2)
def lookL (l : Ld) (n : Str) : Option Str := (l.find? fun p => decide (p.1 = n)).map (·.2)
theorem lookL_val (l : Ld) (n : Str) : valV (ldV l) (Sum.inr n) = (lookL l n).map V.str := by
  induction l with
  | nil => rfl
  | cons p l ih =>
    by_cases e : p.1 = n
    · rw [show ldV (p :: l) = (Sum.inr p.1, V.str p.2) :: ldV l from rfl, valV_pos (congrArg Sum.inr e)]
      unfold lookL
      rw [List.find?_cons, decide_eq_true e]
      rfl
    · rw [show ldV (p :: l) = (Sum.inr p.1, V.str p.2) :: ldV l from rfl, valV_neg (fun z => e (Sum.inr.inj z)), ih]
      unfold lookL
      rw [List.find?_cons, decide_eq_false e]
theorem look_val {H : Hp} {ls : Lds} {kvs : List (Key × V)} (p : Paired (fun (l : Str × Ld) (kv : Key × V) => kv.1 = Sum.inr l.1 ∧ ∃ b, kv.2 = .ref b ∧ H b = some (.dK (ldV l.2))) ls kvs) (n : Str) :
    (look ls n = none ∧ valV kvs (Sum.inr n) = none) ∨ ∃ l b, look ls n = some l ∧ valV kvs (Sum.inr n) = some (.ref b) ∧ H b = some (.dK (ldV l)) := by
  induction p with
  | nil => exact .inl ⟨rfl, rfl⟩
  | @cons l kv ls kvs r _ ih =>
    obtain ⟨e1, b, e2, e3⟩ := r
    by_cases e : l.1 = n
    · refine .inr ⟨l.2, b, ?_, ?_, e3⟩
      · unfold look
        rw [List.find?_cons, decide_eq_true e]
        rfl
      · rw [valV_pos (e1.trans (congrArg Sum.inr e)), e2]
    · have n1 : look (l :: ls) n = look ls n := by
        unfold look
        rw [List.find?_cons, decide_eq_false e]
      have n2 : valV (kv :: kvs) (Sum.inr n) = valV kvs (Sum.inr n) := valV_neg fun z => e (Sum.inr.inj (e1.symm.trans z))
      rw [n1, n2]
      exact ih
/-- the object t is the Thing d of the class C -/
def IsTh (H : Hp) (C t : Addr) (d : ThD) : Prop := ∃ dx vt dd de, H t = some (.ins C dx [("kept_values", .ref vt), ("kept_start", .str d.start), ("kept_deeds", .ref dd), ("kept_entries", .ref de)]) ∧ H vt = some (.tup (d.vals.map V.str)) ∧ DD H dd d.deeds ∧ DD H de d.ents
theorem IsTh.ex {H H' : Hp} {C t : Addr} {d : ThD} (x : Ex H H') (h : IsTh H C t d) : IsTh H' C t d := by
  obtain ⟨dx, vt, dd, de, e1, e2, e3, e4⟩ := h
  exact ⟨dx, vt, dd, de, x _ _ e1, x _ _ e2, e3.ex x, e4.ex x⟩
/-- what the class says of its fields -/
structure ThC (K : PySem.W.Frag) (C : Addr) : Prop where
  cls : Cls K C
  vals : NoAttr K C "kept_values"
  start : NoAttr K C "kept_start"
  deeds : NoAttr K C "kept_deeds"
  ents : NoAttr K C "kept_entries"
end TH

/-! A6: names_of, led_to -/
namespace TH
open PySem PySem.Spec PyProof.Rows L2
def ThD.names (d : ThD) : List Str := d.deeds.map (·.1) ++ d.ents.map (·.1)
def spNamesOf (C : Addr) : Sp := fun vs H Q _ => ∃ (t : Addr) (d : ThD), vs = [.ref t] ∧ IsTh H C t d ∧ d.names.length < 64 ∧ ∀ (p : Addr) (ys : List Str) (H' : Hp), Ex H H' → H p = none → H' p = some (.lst (ys.map V.str)) → ys.Perm d.names → sortedS ys = true → Q (.ref p) H'
/-- where a use leads: what the deed says, or the entry, if it is open -/
def ThD.led (d : ThD) (v n : Str) : Option Str := match look d.deeds n with
  | some l => lookL l v
  | none => match look d.ents n with
    | some l => lookL l v
    | none => none
def optS : Option Str → V
  | none => .non
  | some x => .str x
def spLedTo (C : Addr) : Sp := fun vs H Q _ => ∃ (t : Addr) (d : ThD) (v n : Str), vs = [.ref t, .str v, .str n] ∧ IsTh H C t d ∧ ((∃ l, look d.deeds n = some l ∧ (lookL l v).isSome = true) ∨ (look d.deeds n = none ∧ (look d.ents n).isSome = true)) ∧ Q (optS (d.led v n)) H
section
variable {P : Program} {w : World} {K : PySem.W.Frag} {mg : Str → Option Value} {base : Heap} {f C : Addr} {fd : FuncData}
end
end TH

/-! A7: the rows, plainly -/
namespace TH
open PySem PySem.Spec PyProof.Rows L2
abbrev Fnd := List (Str × List Str)
def rowOf (f : Fnd) (v : Str) : Option (List Str) := (f.find? fun p => decide (p.1 = v)).map (·.2)
def nStep (d : ThD) (w : Str) (st : Fnd × List Str) (n : Str) : Fnd × List Str := match d.led w n with
  | none => st
  | some g => match rowOf st.1 g with
    | some _ => st
    | none => (st.1 ++ [(g, (rowOf st.1 w).getD [] ++ [n])], st.2 ++ [g])
def wStep (d : ThD) (ns : List Str) (st : Fnd × List Str) (w : Str) : Fnd × List Str := ns.foldl (nStep d w) st
def tier (d : ThD) (ns : List Str) (f : Fnd) (ws : List Str) : Fnd × List Str := ws.foldl (wStep d ns) (f, [])
inductive Run (d : ThD) (ns : List Str) : Fnd → List Str → Fnd → Prop where
  | nil (f : Fnd) : Run d ns f [] f
  | step {f : Fnd} {ws : List Str} {f' : Fnd} (h : ws ≠ []) (r : Run d ns (tier d ns f ws).1 (tier d ns f ws).2 f') : Run d ns f ws f'
/-- a right Thing -/
structure ThD.Ok (d : ThD) : Prop where
  few : d.vals.length ≤ 10
  start : d.start ∈ d.vals
  txt : ∀ v ∈ d.vals, PyData.canLay0 (.str v) = true
  deeds : ∀ n l, look d.deeds n = some l → ∀ v ∈ d.vals, ∃ g ∈ d.vals, lookL l v = some g
  ents : ∀ n l, look d.ents n = some l → ∀ v g, lookL l v = some g → g ∈ d.vals
/-- all names are the Thing's -/
def ThD.Own (d : ThD) (ns : List Str) : Prop := ∀ n ∈ ns, (look d.deeds n).isSome = true ∨ (look d.ents n).isSome = true
theorem ThD.Ok.led {d : ThD} (k : d.Ok) {v n g : Str} (hv : v ∈ d.vals) (h : d.led v n = some g) : g ∈ d.vals := by
  unfold ThD.led at h
  cases q : look d.deeds n with
  | some l =>
    rw [q] at h
    obtain ⟨g', m, e⟩ := k.deeds n l q v hv
    have h : lookL l v = some g := h
    rw [e] at h
    cases h
    exact m
  | none =>
    rw [q] at h
    cases q2 : look d.ents n with
    | some l =>
      rw [q2] at h
      exact k.ents n l q2 v g h
    | none =>
      rw [q2] at h
      cases h
/-- what holds of the rows found -/
structure FOk (d : ThD) (f : Fnd) : Prop where
  nd : (f.map (·.1)).Nodup
  sub : ∀ p ∈ f, p.1 ∈ d.vals
  row : ∀ p ∈ f, p.2.length ≤ f.length
theorem rowOf_some {f : Fnd} {v : Str} {r : List Str} (h : rowOf f v = some r) : (v, r) ∈ f := by
  unfold rowOf at h
  obtain ⟨p, e, rfl⟩ := Option.map_eq_some_iff.mp h
  have z := List.find?_some e
  have m := List.mem_of_find?_eq_some e
  simp only [decide_eq_true_eq] at z
  rw [← z]
  exact m
theorem rowOf_none {f : Fnd} {v : Str} (h : rowOf f v = none) : v ∉ f.map (·.1) := by
  intro m
  obtain ⟨p, hp, rfl⟩ := List.mem_map.mp m
  unfold rowOf at h
  have z := List.find?_eq_none.mp (Option.map_eq_none_iff.mp h) p hp
  simp at z
theorem rowOf_mem {f : Fnd} {v : Str} (h : v ∈ f.map (·.1)) : ∃ r, rowOf f v = some r := by
  cases q : rowOf f v with
  | some r => exact ⟨r, rfl⟩
  | none => exact absurd h (rowOf_none q)
theorem FOk.has {d : ThD} {f : Fnd} (k : FOk d f) {v : Str} (h : v ∈ f.map (·.1)) : v ∈ d.vals := by
  obtain ⟨p, hp, rfl⟩ := List.mem_map.mp h
  exact k.sub p hp
theorem FOk.len {d : ThD} {f : Fnd} (k : FOk d f) : f.length ≤ d.vals.length := by
  have z := k.nd.length_le_of_subset (l₂ := d.vals) fun v m => by
    obtain ⟨p, hp, rfl⟩ := List.mem_map.mp m
    exact k.sub p hp
  simpa using z
/-- one step keeps it -/
theorem nStep_ok {d : ThD} (k : d.Ok) {w : Str} {st : Fnd × List Str} {n : Str} (h : FOk d st.1) (hw : w ∈ st.1.map (·.1)) (hl : ∀ g ∈ st.2, g ∈ st.1.map (·.1)) :
    FOk d (nStep d w st n).1 ∧ (∀ v ∈ st.1.map (·.1), v ∈ (nStep d w st n).1.map (·.1)) ∧ (∀ g ∈ (nStep d w st n).2, g ∈ (nStep d w st n).1.map (·.1)) ∧ (nStep d w st n).1.length - st.1.length = (nStep d w st n).2.length - st.2.length ∧ st.1.length ≤ (nStep d w st n).1.length ∧ st.2.length ≤ (nStep d w st n).2.length := by
  have same : FOk d st.1 ∧ (∀ v ∈ st.1.map (·.1), v ∈ st.1.map (·.1)) ∧ (∀ g ∈ st.2, g ∈ st.1.map (·.1)) ∧ st.1.length - st.1.length = st.2.length - st.2.length ∧ st.1.length ≤ st.1.length ∧ st.2.length ≤ st.2.length := ⟨h, fun _ m => m, hl, by omega, Nat.le_refl _, Nat.le_refl _⟩
  unfold nStep
  cases q : d.led w n with
  | none => exact same
  | some g =>
    dsimp only
    cases q2 : rowOf st.1 g with
    | some r => exact same
    | none =>
      have wv : w ∈ d.vals := by
        obtain ⟨p, hp, rfl⟩ := List.mem_map.mp hw
        exact h.sub p hp
      have gv := k.led wv q
      have ng := rowOf_none q2
      obtain ⟨r, er⟩ := rowOf_mem hw
      have lr := h.row _ (rowOf_some er)
      refine ⟨⟨?_, fun p hp => ?_, fun p hp => ?_⟩, fun v m => ?_, fun x m => ?_, ?_, ?_, ?_⟩
      · rw [List.map_append]
        refine List.nodup_append.mpr ⟨h.nd, by simp, fun a ha b hb => ?_⟩
        rw [List.map_cons, List.map_nil, List.mem_singleton] at hb
        rw [hb]
        exact fun z => ng ((show a = g from z) ▸ ha)
      · rcases List.mem_append.mp hp with z | z
        · exact h.sub p z
        · rw [List.mem_singleton.mp z]; exact gv
      · rw [List.length_append]
        rcases List.mem_append.mp hp with z | z
        · have := h.row p z
          omega
        · rw [List.mem_singleton.mp z, er]
          simp only [Option.getD_some, List.length_append, List.length_cons, List.length_nil]
          have : r.length ≤ st.1.length := lr
          omega
      · rw [List.map_append]
        exact List.mem_append_left _ m
      · rw [List.map_append]
        rcases List.mem_append.mp m with z | z
        · exact List.mem_append_left _ (hl x z)
        · rw [List.mem_singleton.mp z]
          exact List.mem_append_right _ (by simp)
      · simp only [List.length_append, List.length_cons, List.length_nil]
        omega
      · simp only [List.length_append]
        omega
      · simp only [List.length_append]
        omega
end TH

/-! A8: rows_from -/
namespace TH
open PySem PySem.Spec PyProof.Rows L2 LamV
/-- rows as a dict of tuples at a -/
def FD (K : PySem.W.Frag) (H : Hp) (a : Addr) (f : Fnd) : Prop := ∃ kvs : List (Key × V), H a = some (.dK kvs) ∧ Paired (fun (p : Str × List Str) (kv : Key × V) => kv.1 = Sum.inr p.1 ∧ ∃ b, kv.2 = .ref b ∧ SqT K H b (p.2.map V.str)) f kvs
/-- a lambda that is always True -/
def LTrue (P : Program) (w : World) (K : PySem.W.Frag) (mg : Str → Option Value) (base : Heap) (F : LF) : Prop := LOk P w K mg base CX0 1 F fun vs H Q _ => ∃ v, vs = [v] ∧ Q (.bl true) H
theorem IsLam.ex {H H' : Hp} {f : Addr} {F : LF} (x : Ex H H') (h : IsLam H f F) : IsLam H' f F := by
  obtain ⟨c, e1, e2⟩ := h
  exact ⟨c, x _ _ e1, x _ _ e2⟩
def spRowsFrom (P : Program) (w : World) (K : PySem.W.Frag) (mg : Str → Option Value) (base : Heap) (C : Addr) : Sp := fun vs H Q _ => ∃ (t : Addr) (d : ThD) (b : Str) (nl : Addr) (ns : List Str) (fl : Addr) (F : LF), vs = [.ref t, .str b, .ref nl, .ref fl] ∧ IsTh H C t d ∧ d.Ok ∧ b ∈ d.vals ∧ SqL K H nl (ns.map V.str) ∧ ns.length ≤ 60 ∧ d.Own ns ∧ IsLam H fl F ∧ LTrue P w K mg base F ∧
  ∀ (p : Addr) (H' : Hp) (f : Fnd), Ex H H' → H p = none → FD K H' p f → FOk d f → Run d ns [(b, [])] [b] f → Q (.ref p) H'
theorem ne_new {H : Hp} {p q : Addr} {o : HO} (h : upd H p o q = none) : q ≠ p := fun z => by
  rw [z, upd_same] at h
  cases h
theorem FD.ex {K : PySem.W.Frag} {H H' : Hp} {a : Addr} {f : Fnd} (x : Ex H H') (h : FD K H a f) : FD K H' a f := by
  obtain ⟨kvs, e, p⟩ := h
  exact ⟨kvs, x _ _ e, Paired.mapP p fun _ _ ⟨e1, b, e2, e3⟩ => ⟨e1, b, e2, x.sqT e3⟩⟩
theorem dp_strs {K : PySem.W.Frag} {H : Hp} : ∀ ws : List Str, DpAll K H (ws.map V.str) (ws.map PyData.str)
  | [] => .nil
  | w :: r => .cons (.str w) (dp_strs r)
theorem lay_strs : ∀ {ws : List Str}, (∀ w ∈ ws, PyData.canLay0 (.str w) = true) → PyData.canLayAll0 (ws.map PyData.str) = true ∧ PyData.depthAll (ws.map PyData.str) = 0
  | [], _ => ⟨rfl, rfl⟩
  | w :: r, h => by
    obtain ⟨a, b⟩ := lay_strs (ws := r) fun v m => h v (List.mem_cons_of_mem _ m)
    have c := h w List.mem_cons_self
    refine ⟨?_, ?_⟩
    · show (PyData.canLay0 (.str w) && PyData.canLayAll0 (r.map PyData.str)) = true
      rw [c, a]
      rfl
    · show max (PyData.depth (.str w)) (PyData.depthAll (r.map PyData.str)) = 0
      rw [b]
      rfl
theorem shaped_strs {ws : List Str} (h : ∀ w ∈ ws, PyData.canLay0 (.str w) = true) : SeqAt.shaped (.list (ws.map PyData.str)) = true := by
  obtain ⟨a, b⟩ := lay_strs h
  have e1 : PyData.canLay0 (.list (ws.map PyData.str)) = PyData.canLayAll0 (ws.map PyData.str) := by unfold PyData.canLay0; rfl
  have e2 : PyData.depth (.list (ws.map PyData.str)) = PyData.depthAll (ws.map PyData.str) + 1 := by unfold PyData.depth; rfl
  unfold SeqAt.shaped
  rw [e1, a, e2, b]
  decide
theorem eqv_nil (ws : List Str) : PyData.eqv (.list (ws.map PyData.str)) (.list []) = decide (ws = []) := by
  cases ws with
  | nil => rfl
  | cons w r => rfl
/-- what holds at each turn of the while -/
def RInv (K : PySem.W.Frag) (H : Hp) (d : ThD) (ns : List Str) (t nl fl p : Addr) (b : Str) (m : Nat) (σ : L2.St) (H2 : Hp) : Prop := ∃ (fnd : Fnd) (ws : List Str) (wl : Addr) (o6 o7 o8 o9 : Option V), σ = [some (.ref t), some (.str b), some (.ref nl), some (.ref fl), some (.ref p), some (.ref wl), o6, o7, o8, o9] ∧ Ex H H2 ∧ FD K H2 p fnd ∧ FOk d fnd ∧ H2 wl = some (.lst (ws.map V.str)) ∧ H wl = none ∧ wl ≠ p ∧ (∀ g ∈ ws, g ∈ fnd.map (·.1)) ∧ ws.length ≤ 10 ∧
  m = 2 * (d.vals.length - fnd.length) + (if ws = [] then 0 else 1) ∧ ∀ f', Run d ns fnd ws f' → Run d ns [(b, [])] [b] f'
theorem opR_imp {X : Cx} {g : Value → Value → Sem Value} {r r' : R2} (h : OpR X g r) (i : ∀ x y H Q, r' x y H Q → r x y H Q) : OpR X g r' := fun pins s σ H x y v u Q I a c q => h pins s σ H x y v u Q I a c (i x y H Q q)
def rCatN (K : PySem.W.Frag) : R2 := fun x y H Q => ∃ a b xs ys, x = .ref a ∧ y = .ref b ∧ SqT K H a xs ∧ SqT K H b ys ∧ xs.length + ys.length ≤ sizeLine ∧ ∀ r H', Ex H H' → SqT K H' r (xs ++ ys) → Q (.ref r) H'
theorem op_catN {X : Cx} : OpR X (binaryOp .Add) (rCatN X.K) := opR_imp op_catA fun x y H Q ⟨a, b, xs, ys, e1, e2, s1, s2, l, q⟩ => ⟨a, b, xs, ys, e1, e2, s1, s2, l, fun z => q b H Ex.refl (by rw [z]; exact s2), fun _ z => q a H Ex.refl (by rw [z, List.append_nil]; exact s1), fun _ _ p np => q p _ (Ex.new np) (.inl (.inl upd_same))⟩
/-- a tuple stands where something else is written -/
theorem sqT_put {K : PySem.W.Frag} {H : Hp} {p a : Addr} {u o : HO} {xs : List V} (hp : H p = some u) (n1 : ∀ ys, u ≠ .tup ys) (n2 : ∀ ob v, u ≠ .frz ob v) (h : SqT K H a xs) : SqT K (upd H p o) a xs := by
  rcases h with (h | ⟨ob, h⟩) | h
  · exact .inl (.inl ((upd_ne fun z => n1 xs (Option.some.inj ((z ▸ hp).symm.trans h))).trans h))
  · exact .inl (.inr ⟨ob, (upd_ne fun z => n2 ob _ (Option.some.inj ((z ▸ hp).symm.trans h))).trans h⟩)
  · exact .inr h
theorem row_val {R : Str × List Str → Key × V → Prop} {f : Fnd} {kvs : List (Key × V)} (p : Paired R f kvs) (h1 : ∀ a kv, R a kv → kv.1 = Sum.inr a.1) (v : Str) : (rowOf f v = none ∧ valV kvs (Sum.inr v) = none) ∨ ∃ r kv, rowOf f v = some r ∧ valV kvs (Sum.inr v) = some kv.2 ∧ R (v, r) kv := by
  induction p with
  | nil => exact .inl ⟨rfl, rfl⟩
  | @cons a kv f kvs r _ ih =>
    by_cases e : a.1 = v
    · refine .inr ⟨a.2, kv, ?_, valV_pos ((h1 _ _ r).trans (congrArg Sum.inr e)), by rw [← e]; exact r⟩
      unfold rowOf
      rw [List.find?_cons, decide_eq_true e]
      rfl
    · have q1 : rowOf (a :: f) v = rowOf f v := by
        unfold rowOf
        rw [List.find?_cons, decide_eq_false e]
      have q2 : valV (kv :: kvs) (Sum.inr v) = valV kvs (Sum.inr v) := valV_neg fun z => e (Sum.inr.inj ((h1 _ _ r).symm.trans z))
      rw [q1, q2]
      exact ih
theorem paired_snoc {α β : Type} {R : α → β → Prop} {l : List α} {r : List β} {a : α} {b : β} (p : Paired R l r) (h : R a b) : Paired R (l ++ [a]) (r ++ [b]) := by
  induction p with
  | nil => exact .cons h .nil
  | cons x _ ih => exact .cons x ih
/-- the state within the two loops -/
structure StI (K : PySem.W.Frag) (H : Hp) (d : ThD) (t nl fl p wl ll : Addr) (b : Str) (fnd : Fnd) (ws : List Str) (st : Fnd × List Str) (o7 o8 o9 : Option V) (σ : L2.St) (H4 : Hp) : Prop where
  sl : σ = [some (.ref t), some (.str b), some (.ref nl), some (.ref fl), some (.ref p), some (.ref wl), some (.ref ll), o7, o8, o9]
  ex : Ex H H4
  wt : H4 wl = some (.lst (ws.map V.str))
  fd : FD K H4 p st.1
  ok : FOk d st.1
  lt : H4 ll = some (.lst (st.2.map V.str))
  old : ∀ v ∈ fnd.map (·.1), v ∈ st.1.map (·.1)
  new : ∀ g ∈ st.2, g ∈ st.1.map (·.1)
  len : st.1.length = fnd.length + st.2.length
section
variable {P : Program} {w : World} {K : PySem.W.Frag} {mg : Str → Option Value} {base : Heap} {f C : Addr} {fd : FuncData}
end
end TH

/-! A9: check_entry, checked_names, where they let by -/
namespace TH
open PySem PySem.Spec PyProof.Rows L2
/-- a statement that is never come to -/
theorem ps_dead {X : Cx} {st : Stmt} : PS X st (fun _ _ _ => False) := ⟨fun _ _ _ _ _ _ h => h.elim⟩
def spCheckEntry (K : PySem.W.Frag) (C : Addr) : Sp := fun vs H Q _ => ∃ (t : Addr) (d : ThD) (x : Str), vs = [.ref t, .str x] ∧ IsTh H C t d ∧ okS x = true ∧ (look d.ents x).isSome = true ∧ ∀ H', Ex H H' → Q .non H'
theorem okS_len {x : Str} (h : okS x = true) : x.length ≤ 8 := by
  unfold okS at h
  simp only [Bool.and_eq_true, decide_eq_true_eq] at h
  exact h.2.1
theorem str_kd {K : PySem.W.Frag} {H : Hp} {x : Str} (h : x.length ≤ 1000) : Kd K H (.str x) "str" := ⟨by decide, .base (.str x), fun y e => by cases e; exact h⟩
def spCheckedNames (K : PySem.W.Frag) : Sp := fun vs H Q _ => ∃ (a kl : Addr) (xs ks : List Str), vs = [.ref a, .ref kl] ∧ Sq K H a (xs.map V.str) ∧ SqL K H kl (ks.map V.str) ∧ xs.length ≤ 60 ∧ (∀ x ∈ xs, okS x = true) ∧ xs.Nodup ∧ (∀ x ∈ xs, x ∈ ks) ∧ ∀ (p : Addr) (H' : Hp), Ex H H' → H p = none → H' p = some (.lst (xs.map V.str)) → Q (.ref p) H'
theorem inV_strs (x : Str) (xs : List Str) : inV (.str x) (xs.map V.str) = decide (x ∈ xs) := by
  induction xs with
  | nil => rfl
  | cons y r ih =>
    have e : inV (.str x) ((y :: r).map V.str) = (eqV (.str y) (.str x) || inV (.str x) (r.map V.str)) := rfl
    rw [e, ih]
    have e2 : eqV (.str y) (.str x) = decide (y = x) := by
      show (y == x) = _
      by_cases z : y = x
      · subst z; simp
      · rw [decide_eq_false z]; exact beq_eq_false_iff_ne.mpr z
    rw [e2]
    by_cases z : y = x
    · simp [z]
    · have z' : ¬ x = y := fun q => z q.symm
      simp [z, z']
theorem fbw_none : ∀ (xs met : List Str) (i : Nat), (∀ x ∈ xs, okS x = true) → xs.Nodup → (∀ x ∈ xs, x ∉ met) → fbw (xs.map V.str) (met.map V.str) i = none
  | [], _, _, _, _, _ => rfl
  | x :: r, met, i, h, nd, nm => by
    have e : fbw ((x :: r).map V.str) (met.map V.str) i = if (!isWd (.str x) || inV (.str x) (met.map V.str)) = true then some i else fbw (r.map V.str) (met.map V.str ++ [.str x]) (i + 1) := rfl
    have n1 : isWd (.str x) = true := h x List.mem_cons_self
    rw [e, n1, inV_strs, decide_eq_false (nm x List.mem_cons_self), if_neg (by simp)]
    have q := fbw_none r (met ++ [x]) (i + 1) (fun y m => h y (List.mem_cons_of_mem _ m)) (List.nodup_cons.mp nd).2 fun y m z => by
      rcases List.mem_append.mp z with z | z
      · exact nm y (List.mem_cons_of_mem _ m) z
      · rw [List.mem_singleton.mp z] at m
        exact (List.nodup_cons.mp nd).1 m
    rw [List.map_append] at q
    exact q
section
variable {P : Program} {w : World} {K : PySem.W.Frag} {mg : Str → Option Value} {base : Heap} {f C : Addr} {fd : FuncData}
/-- an expression that is never come to -/
theorem pe_dead {X : Cx} {e : Expr} : PE X e (fun _ _ _ => False) := ⟨fun _ _ _ _ _ _ h => h.elim⟩
end
end TH

/-! A10: first_open, where it lets by -/
namespace TH
open PySem PySem.Spec PyProof.Rows L2 LamV LamX XK0
theorem Ex.extN {H H' : Hp} (x : Ex H H') : ExtN H H' := fun b o e _ => x b o e
theorem Ex.tabs {H H' : Hp} {T : List (Addr × Str)} (x : Ex H H') (t : Tabs T H) : Tabs T H' := t.ext x
theorem extN_lst {H H' : Hp} {a : Addr} {xs : List V} (x : ExtN H H') (h : H a = some (.lst xs)) : H' a = some (.lst xs) := x _ _ h fun _ z => (nomatch z)
theorem extN_sqL {K : PySem.W.Frag} {H H' : Hp} {a : Addr} {xs : List V} (x : ExtN H H') (h : SqL K H a xs) : SqL K H' a xs := h.imp (Or.imp (fun z => x _ _ z fun _ q => (nomatch q)) fun ⟨o, z⟩ => ⟨o, x _ _ z fun _ q => (nomatch q)⟩) id
theorem DD.exN {H H' : Hp} {a : Addr} {ls : Lds} (x : ExtN H H') (h : DD H a ls) : DD H' a ls := by
  obtain ⟨kvs, e, p⟩ := h
  exact ⟨kvs, x _ _ e fun _ q => (nomatch q), Paired.mapP p fun _ _ ⟨e1, b, e2, e3⟩ => ⟨e1, b, e2, x _ _ e3 fun _ q => (nomatch q)⟩⟩
theorem IsTh.exN {H H' : Hp} {C t : Addr} {d : ThD} (x : ExtN H H') (h : IsTh H C t d) : IsTh H' C t d := by
  obtain ⟨dx, vt, dd, de, e1, e2, e3, e4⟩ := h
  exact ⟨dx, vt, dd, de, x _ _ e1 fun _ q => (nomatch q), x _ _ e2 fun _ q => (nomatch q), e3.exN x, e4.exN x⟩
/-- the first row found whose value is led on -/
def firstIn (l : Ld) (f : Fnd) : Option (List Str) := (f.find? fun p => (lookL l p.1).isSome).map (·.2)
/-- nothing but a table stood there -/
def NewP (H : Hp) (p : Addr) : Prop := ∀ o, H p = some o → (∀ ps, o ≠ .tbl ps) → False
abbrev lamQ : Str := ("first_open" : Str) ++ ".<locals>." ++ "<lambda>"
def spFirstOpen (K : PySem.W.Frag) (C : Addr) (T : List (Addr × Str)) : Sp := fun vs H Q _ => ∃ (t a : Addr) (d : ThD) (x : Str) (xs : List Str) (l : Ld), vs = [.ref t, .str x, .ref a] ∧ IsTh H C t d ∧ d.Ok ∧ okS x = true ∧ look d.ents x = some l ∧ Sq K H a (xs.map V.str) ∧ xs.length ≤ 60 ∧ d.names.length < 60 ∧ (∀ y ∈ xs, okS y = true) ∧ xs.Nodup ∧ (∀ y ∈ xs, y ∈ d.names) ∧ Tabs T H ∧
  ∀ (ys : List Str) (f : Fnd), ys.Perm xs → sortedS ys = true → Run d ys [(d.start, [])] [d.start] f →
    (∀ H', ExtN H H' → Tabs T H' → firstIn l f = none → Q .non H') ∧ ∀ (row : List Str) (p : Addr) (H' : Hp), ExtN H H' → Tabs T H' → firstIn l f = some row → NewP H p → H' p = some (.lst (row.map V.str)) → Q (.ref p) H'
theorem look_mem {ls : Lds} {n : Str} (h : n ∈ ls.map (·.1)) : (look ls n).isSome = true := by
  obtain ⟨p, hp, rfl⟩ := List.mem_map.mp h
  unfold look
  rw [Option.isSome_map]
  exact List.find?_isSome.mpr ⟨p, hp, by simp⟩
theorem names_look {d : ThD} {n : Str} (h : n ∈ d.names) : (look d.deeds n).isSome = true ∨ (look d.ents n).isSome = true := by
  unfold ThD.names at h
  rcases List.mem_append.mp h with h | h
  · exact .inl (look_mem h)
  · exact .inr (look_mem h)
theorem paired_get {α β : Type} {R : α → β → Prop} {l : List α} {r : List β} (p : Paired R l r) : ∀ {i : Nat} {y : β}, r[i]? = some y → ∃ x, l[i]? = some x ∧ R x y := by
  induction p with
  | nil => intro i y h; simp at h
  | cons x _ ih =>
    intro i y h
    cases i with
    | zero => simp at h; subst h; exact ⟨_, rfl, x⟩
    | succ i =>
      obtain ⟨z, e, q⟩ := ih (by simpa using h)
      exact ⟨z, by simpa using e, q⟩
theorem firstIn_step {l : Ld} {f : Fnd} {i : Nat} {p : Str × List Str} (h : f[i]? = some p) : firstIn l (f.drop i) = if (lookL l p.1).isSome = true then some p.2 else firstIn l (f.drop (i + 1)) := by
  obtain ⟨lt, e⟩ := List.getElem?_eq_some_iff.mp h
  rw [List.drop_eq_getElem_cons lt, e]
  unfold firstIn
  rw [List.find?_cons]
  cases (lookL l p.1).isSome <;> rfl
theorem lt_true {P : Program} {w : World} {K : PySem.W.Frag} {mg : Str → Option Value} {base : Heap} {q x : Str} {params : Arguments} {scope : Scope} {j : Nat} {pos : Pos} (S : NdefX.NScope [x] [x] [] scope)
    (bd : ∀ (pm cv ctv : Value) (us : List Value), us.length = [x].length → bindArgs (PySem.W.kla_fn "<lambda>" q params (.Constant (.bool true) j pos) scope [] pm cv ctv) ⟨us, []⟩ = pure ([x].zip us)) : LTrue P w K mg base ⟨q, params, .Constant (.bool true) j pos, scope⟩ := by
  refine lok_of (k := 0) (ps := [x]) S bd (fun vs H Q E z => ?_) fun f c A outer s H vs Q E hr z => ?_
  · obtain ⟨v, rfl, _⟩ := z
    rfl
  · obtain ⟨v, rfl, q⟩ := z
    exact ⟨_, pe_bl, q⟩
section
variable {P : Program} {w : World} {K : PySem.W.Frag} {mg : Str → Option Value} {base : Heap} {f C c Pt : Addr} {fd : FuncData} {T : List (Addr × Str)}
end
end TH

/-! A11: _law_spring, _law_take, _law_one -/
namespace TH
open PySem PySem.Spec PyProof.Rows L2 LamV LamX XK0
/-- the spring: what is left of the script, the cell in use, how many were taken, the mixed number -/
structure Spg (H : Hp) (sp l : Addr) (ns : List Int) (a m : Int) (n : Nat) : Prop where
  hs : H sp = some (.lst [.ref l, .int a, .int n, .int m])
  hl : H l = some (.lst (ns.map V.int))
  ne : sp ≠ l
  a0 : 0 ≤ a
  m0 : 0 ≤ m
  m1 : m < 2147483647
def Spr (H : Hp) (sp l : Addr) (n : Nat) : Prop := ∃ ns a m, Spg H sp l ns a m n
/-- nothing but the spring is changed -/
def ExS (sp l : Addr) (H H' : Hp) : Prop := ∀ b o, b ≠ sp → b ≠ l → H b = some o → H' b = some o
theorem ExS.refl {sp l : Addr} {H : Hp} : ExS sp l H H := fun _ _ _ _ h => h
theorem ExS.trans {sp l : Addr} {H H1 H2 : Hp} (x : ExS sp l H H1) (y : ExS sp l H1 H2) : ExS sp l H H2 := fun b o h1 h2 e => y b o h1 h2 (x b o h1 h2 e)
theorem Ex.exS {sp l : Addr} {H H' : Hp} (x : Ex H H') : ExS sp l H H' := fun b o _ _ e => x b o e
theorem ExS.updS {sp l : Addr} {H : Hp} {o : HO} : ExS sp l H (upd H sp o) := fun _ _ h1 _ e => (upd_ne h1).trans e
theorem ExS.updL {sp l : Addr} {H : Hp} {o : HO} : ExS sp l H (upd H l o) := fun _ _ _ h2 e => (upd_ne h2).trans e
theorem Spg.ex {H H' : Hp} {sp l : Addr} {ns : List Int} {a m : Int} {n : Nat} (x : Ex H H') (h : Spg H sp l ns a m n) : Spg H' sp l ns a m n := ⟨x _ _ h.hs, x _ _ h.hl, h.ne, h.a0, h.m0, h.m1⟩
theorem Spr.ex {H H' : Hp} {sp l : Addr} {n : Nat} (x : Ex H H') : Spr H sp l n → Spr H' sp l n := fun ⟨ns, a, m, h⟩ => ⟨ns, a, m, h.ex x⟩
/-- what is free now was free before -/
theorem ExS.none {sp l p : Addr} {H H' : Hp} {n k : Nat} (x : ExS sp l H H') (s : Spr H' sp l k) (h : H' p = none) : H p = none := by
  obtain ⟨_, _, _, s⟩ := s
  cases q : H p with
  | none => rfl
  | some o =>
    rw [x p o (fun z => by rw [z, s.hs] at h; cases h) (fun z => by rw [z, s.hl] at h; cases h) q] at h
    cases h
theorem dp_ints {K : PySem.W.Frag} {H : Hp} : ∀ ns : List Int, DpAll K H (ns.map V.int) (ns.map PyData.int)
  | [] => .nil
  | i :: r => .cons (.int i) (dp_ints r)
theorem lay_ints : ∀ ns : List Int, PyData.canLayAll0 (ns.map PyData.int) = true ∧ PyData.depthAll (ns.map PyData.int) = 0
  | [] => ⟨rfl, rfl⟩
  | i :: r => by
    obtain ⟨a, b⟩ := lay_ints r
    refine ⟨?_, ?_⟩
    · show (PyData.canLay0 (.int i) && PyData.canLayAll0 (r.map PyData.int)) = true
      rw [a]
      rfl
    · show max (PyData.depth (.int i)) (PyData.depthAll (r.map PyData.int)) = 0
      rw [b]
      rfl
theorem shaped_ints (ns : List Int) : SeqAt.shaped (.list (ns.map PyData.int)) = true := by
  obtain ⟨a, b⟩ := lay_ints ns
  have e1 : PyData.canLay0 (.list (ns.map PyData.int)) = PyData.canLayAll0 (ns.map PyData.int) := by unfold PyData.canLay0; rfl
  have e2 : PyData.depth (.list (ns.map PyData.int)) = PyData.depthAll (ns.map PyData.int) + 1 := by unfold PyData.depth; rfl
  unfold SeqAt.shaped
  rw [e1, a, e2, b]
  decide
theorem eqv_nilI (ns : List Int) : PyData.eqv (.list (ns.map PyData.int)) (.list []) = decide (ns = []) := by
  cases ns with
  | nil => rfl
  | cons w r => rfl
def spTake : Sp := fun vs H Q _ => ∃ (sp l : Addr) (k : Int) (n : Nat), vs = [.ref sp, .int k] ∧ Spr H sp l n ∧ n < 1000000 ∧ 1 ≤ k ∧ k ≤ 1000 ∧ ∀ (d : Nat) (H' : Hp), (d : Int) < k → ExS sp l H H' → Spr H' sp l (n + 1) → Q (.int d) H'
/-- at each turn of the while -/
def TInv (H : Hp) (sp l : Addr) (k : Int) (n c : Nat) (σ : L2.St) (H2 : Hp) : Prop := ∃ (ns : List Int) (a m : Int) (o2 : Option V), σ = [some (.ref sp), some (.int k), o2, none, none] ∧ ExS sp l H H2 ∧ Spg H2 sp l ns a m (n + 1) ∧ c = ns.length
theorem tand_go {t u : TT} {σ : L2.St} {H : Hp} {Q : Bool → Hp → Prop} {N : Hp → Prop} (c e : Bool) (ht : ∀ Q, Q c H → t σ H Q) (hu : ∀ Q, (∀ H1, N H1 → Q e H1) → u σ H Q) (n0 : N H) (h : ∀ H1, N H1 → Q (c && e) H1) : tAnd t u σ H Q := by
  refine ht _ ?_
  cases c with
  | true => exact hu _ h
  | false => exact h H n0
section
variable {P : Program} {w : World} {K : PySem.W.Frag} {mg : Str → Option Value} {base : Heap} {f : Addr} {fd : FuncData}
end
end TH

/-! A12: _law_spring, _law_one, _law_mix -/
namespace TH
open PySem PySem.Spec PyProof.Rows L2 LamV LamX XK0
theorem at_nat {xs : List V} {k : Nat} {y : V} (h : xs[k]? = some y) : atI xs (k : Int) = some y := by
  obtain ⟨lt, _⟩ := List.getElem?_eq_some_iff.mp h
  unfold atI ixN
  rw [if_pos (Int.natCast_nonneg k), if_pos (by omega), Option.bind_some, Int.toNat_natCast]
  exact h
def spSpring (K : PySem.W.Frag) : Sp := fun vs H Q _ => ∃ (a : Addr) (ns : List Int), vs = [.ref a] ∧ SqL K H a (ns.map V.int) ∧ ns.length ≤ sizeLine ∧ ∀ (sp l : Addr) (H' : Hp), Ex H H' → H sp = none → H l = none → Spr H' sp l 0 → Q (.ref sp) H'
def spOne : Sp := fun vs H Q _ => ∃ (sp l t : Addr) (n : Nat) (xs : List V), vs = [.ref sp, .ref t] ∧ Spr H sp l n ∧ n < 1000000 ∧ t ≠ sp ∧ t ≠ l ∧ H t = some (.lst xs) ∧ xs ≠ [] ∧ xs.length ≤ 1000 ∧ ∀ (y : V) (H' : Hp), y ∈ xs → ExS sp l H H' → Spr H' sp l (n + 1) → Q y H'
section
variable {P : Program} {w : World} {K : PySem.W.Frag} {mg : Str → Option Value} {base : Heap} {f : Addr} {fd : FuncData}
end
end TH

/-! A13: _law_mix -/
namespace TH
open PySem PySem.Spec PyProof.Rows L2 LamV LamX XK0
theorem erase_perm {α : Type} : ∀ {l : List α} {i : Nat} {y : α}, l[i]? = some y → (y :: l.eraseIdx i).Perm l
  | [], _, _, h => by simp at h
  | x :: r, 0, y, h => by
    simp at h
    subst h
    exact List.Perm.refl _
  | x :: r, i + 1, y, h => by
    have ih := erase_perm (l := r) (i := i) (y := y) (by simpa using h)
    exact (List.Perm.swap x y _).trans (ih.cons x)
def spMix (K : PySem.W.Frag) : Sp := fun vs H Q _ => ∃ (sp l t : Addr) (n : Nat) (xs : List V), vs = [.ref sp, .ref t] ∧ Spr H sp l n ∧ n + xs.length < 1000000 ∧ t ≠ sp ∧ t ≠ l ∧ Sq K H t xs ∧ xs.length ≤ 1000 ∧
  ∀ (q : Addr) (ys : List V) (H' : Hp), ExS sp l H H' → Spr H' sp l (n + xs.length) → H q = none → H' q = some (.lst ys) → ys.Perm xs → Q (.ref q) H'
/-- at each turn -/
def MInv (H : Hp) (sp l lf D : Addr) (n : Nat) (xs : List V) (i : Nat) (H2 : Hp) : Prop := ∃ left acc, ExS sp l H H2 ∧ Spr H2 sp l (n + i) ∧ H2 lf = some (.lst left) ∧ H2 D = some (.lst acc) ∧ (acc ++ left).Perm xs ∧ acc.length = i
section
variable {P : Program} {w : World} {K : PySem.W.Frag} {mg : Str → Option Value} {base : Heap} {f : Addr} {fd : FuncData}
end
end TH

/-! A14: the parts; _law_names, _law_led -/
namespace TH
open PySem PySem.Spec PyProof.Rows L2 LamV LamX XK0
/-- the parts that a thing is made of -/
def IsPt (H : Hp) (pt : Addr) (d : ThD) : Prop := ∃ vl dd de, H pt = some (.tup [.ref vl, .str d.start, .ref dd, .ref de]) ∧ H vl = some (.lst (d.vals.map V.str)) ∧ DD H dd d.deeds ∧ DD H de d.ents
theorem IsPt.exN {H H' : Hp} {pt : Addr} {d : ThD} (x : ExtN H H') (h : IsPt H pt d) : IsPt H' pt d := by
  obtain ⟨vl, dd, de, e1, e2, e3, e4⟩ := h
  exact ⟨vl, dd, de, x _ _ e1 fun _ q => (nomatch q), x _ _ e2 fun _ q => (nomatch q), e3.exN x, e4.exN x⟩
theorem IsPt.ex {H H' : Hp} {pt : Addr} {d : ThD} (x : Ex H H') (h : IsPt H pt d) : IsPt H' pt d := h.exN x.extN
def spNames : Sp := fun vs H Q _ => ∃ (pt : Addr) (d : ThD), vs = [.ref pt] ∧ IsPt H pt d ∧ d.names.length < 64 ∧ ∀ (p : Addr) (ys : List Str) (H' : Hp), Ex H H' → H p = none → H' p = some (.lst (ys.map V.str)) → ys.Perm d.names → sortedS ys = true → Q (.ref p) H'
def spLed : Sp := fun vs H Q _ => ∃ (pt : Addr) (d : ThD) (v n : Str), vs = [.ref pt, .str v, .str n] ∧ IsPt H pt d ∧ ((∃ l, look d.deeds n = some l ∧ (lookL l v).isSome = true) ∨ (look d.deeds n = none ∧ (look d.ents n).isSome = true)) ∧ Q (optS (d.led v n)) H
section
variable {P : Program} {w : World} {K : PySem.W.Frag} {mg : Str → Option Value} {base : Heap} {f : Addr} {fd : FuncData}
end
end TH

/-! A15: _law_thing -/
namespace TH
open PySem PySem.Spec PyProof.Rows L2 LamV LamX XK0
def rDictP (K : PySem.W.Frag) : List V → Hp → VK → Prop := fun xs H Q => ∃ (a : Addr) (ps : List Addr) (kvs : List (Key × V)), xs = [.ref a] ∧ SqL K H a (ps.map V.ref) ∧ Paired (fun p kv => SqT K H p [kV kv.1, kv.2]) ps kvs ∧ ∀ p, H p = none → Q (.ref p) (upd H p (.dK (mergeK [] kvs)))
theorem call_dictPK {X : Cx} (hc : X.calm = true) : CallR X (.type "dict") (rDictP X.K) := call_dictP hc
theorem cut_take (xs : List V) (k : Nat) : cutV xs none (some (k : Int)) = xs.take k := by
  unfold cutV
  rw [HT.sIx_none, HT.sIx_nat, List.drop_zero, Nat.sub_zero]
  by_cases h : k ≤ xs.length
  · rw [Nat.min_eq_left h]
  · rw [Nat.min_eq_right (by omega), List.take_of_length_le (Nat.le_refl _), List.take_of_length_le (by omega)]
/-- what is no list stands while only the spring is changed -/
theorem ExS.non {sp l b : Addr} {H H' : Hp} {n : Nat} {o : HO} (x : ExS sp l H H') (s : Spr H sp l n) (h : H b = some o) (no : ∀ xs, o ≠ .lst xs) : H' b = some o := by
  obtain ⟨ns, a, m, s⟩ := s
  exact x b o (fun z => by rw [z, s.hs] at h; exact no _ (Option.some.inj h).symm) (fun z => by rw [z, s.hl] at h; exact no _ (Option.some.inj h).symm) h
theorem Spr.new {H : Hp} {sp l p : Addr} {n : Nat} {o : HO} (s : Spr H sp l n) (h : H p = none) : Spr (upd H p o) sp l n := s.ex (Ex.new h)
theorem Spr.off {H : Hp} {sp l p : Addr} {n : Nat} (s : Spr H sp l n) (h : H p = none) : p ≠ sp ∧ p ≠ l := by
  obtain ⟨ns, a, m, s⟩ := s
  exact ⟨fun z => (by rw [z, s.hs] at h; cases h), fun z => (by rw [z, s.hl] at h; cases h)⟩
theorem Spr.put {H : Hp} {sp l p : Addr} {n : Nat} {o : HO} (s : Spr H sp l n) (h : p ≠ sp ∧ p ≠ l) : Spr (upd H p o) sp l n := by
  obtain ⟨ns, a, m, s⟩ := s
  exact ⟨ns, a, m, (upd_ne h.1.symm).trans s.hs, (upd_ne h.2.symm).trans s.hl, s.ne, s.a0, s.m0, s.m1⟩
theorem DD.exS {sp l : Addr} {H H' : Hp} {n : Nat} {a : Addr} {ls : Lds} (x : ExS sp l H H') (s : Spr H sp l n) (h : DD H a ls) : DD H' a ls := by
  obtain ⟨kvs, e, p⟩ := h
  exact ⟨kvs, x.non s e (fun _ z => nomatch z), Paired.mapP p fun _ _ ⟨e1, b, e2, e3⟩ => ⟨e1, b, e2, x.non s e3 (fun _ z => nomatch z)⟩⟩
/-! ### dict([(worth, _law_one(spring, values)) for worth in ks]) -/
theorem putK_fresh {kvs : List (Key × V)} {k : Key} {v : V} (h : k ∉ kvs.map (·.1)) : putK kvs k v = kvs ++ [(k, v)] := by
  refine putK_new _ ?_
  induction kvs with
  | nil => rfl
  | cons p r ih =>
    simp only [List.map_cons, List.mem_cons, not_or] at h
    rw [valV_neg fun z => h.1 z.symm]
    exact ih h.2
theorem merge_nd : ∀ (more kvs : List (Key × V)), ((kvs ++ more).map (·.1)).Nodup → mergeK kvs more = kvs ++ more
  | [], kvs, _ => (List.append_nil _).symm
  | p :: r, kvs, h => by
    show mergeK (putK kvs p.1 p.2) r = _
    have e : p.1 ∉ kvs.map (·.1) := fun z => by
      rw [List.map_append, List.map_cons] at h
      exact (List.nodup_append.mp h).2.2 _ z _ List.mem_cons_self rfl
    rw [putK_fresh e, merge_nd r (kvs ++ [(p.1, p.2)]) (by simpa using h)]
    simp
theorem keys_nd {ld : Ld} (h : (ld.map (·.1)).Nodup) : ((ldV ld).map (·.1)).Nodup := by
  have e : (ldV ld).map (·.1) = (ld.map (·.1)).map Sum.inr := by
    unfold ldV
    rw [List.map_map, List.map_map]
    rfl
  rw [e]
  refine List.pairwise_map.mpr (List.Pairwise.imp (fun z q => z (Sum.inr.inj q)) h)
def tDO (K : PySem.W.Frag) (i : Nat) : TE := tCB (rDictP K) (tCons (tLc (iList K (tVar i)) (gName 8) tYes (tTup (tCons (tVar 8) (tCons (tCall spOne [] E0 (tCons (tVar 0) (tCons (tVar 3) tNil))) tNil))) [8]) tNil)
/-- at each turn: the pairs so far -/
def DOInv (H : Hp) (sp l D : Addr) (n : Nat) (ks vals : List Str) (i : Nat) (H2 : Hp) : Prop := ∃ (ps : List Addr) (ld : Ld), ExS sp l H H2 ∧ Spr H2 sp l (n + i) ∧ H2 D = some (.lst (ps.map V.ref)) ∧ ld.map (·.1) = ks.take i ∧ (∀ q ∈ ld, q.2 ∈ vals) ∧ ps.length = i ∧ Paired (fun p kv => H2 p = some (.tup [kV kv.1, kv.2])) ps (ldV ld)
theorem paired_app {α β : Type} {R : α → β → Prop} : ∀ {l : List α} {r : List β} {a : α} {b : β}, Paired R l r → R a b → Paired R (l ++ [a]) (r ++ [b])
  | _, _, _, _, .nil, h => .cons h .nil
  | _, _, _, _, .cons x q, h => .cons x (paired_app q h)
theorem dictOne_go {K : PySem.W.Frag} {σ : L2.St} {H : Hp} {Q : VK} {sp l va ka : Addr} {n i : Nat} {vals ks : List Str} (len : σ.length = 9) (s0 : σ[0]? = some (some (.ref sp))) (s3 : σ[3]? = some (some (.ref va))) (si : σ[i]? = some (some (.ref ka))) (S : Spr H sp l n) (hn : n + ks.length < 1000000)
    (hv : H va = some (.lst (vals.map V.str))) (v1 : va ≠ sp ∧ va ≠ l) (hk : H ka = some (.lst (ks.map V.str))) (k1 : ka ≠ sp ∧ ka ≠ l) (ne : vals ≠ []) (vl : vals.length ≤ 100) (kl : ks.length ≤ 100) (nd : ks.Nodup)
    (hQ : ∀ (ld : Ld) (p : Addr) (H' : Hp), ld.map (·.1) = ks → (∀ q ∈ ld, q.2 ∈ vals) → ExS sp l H H' → Spr H' sp l (n + ks.length) → H p = none → H' p = some (.dK (ldV ld)) → Q (.ref p) H') : tDO K i σ H Q := by
  refine ⟨.ref ka, si, ka, rfl, ⟨_, .inl (.inl hk)⟩, fun D nD => ?_⟩
  have d1 := S.off nD
  have keepL : ∀ {H2 : Hp} {b : Addr} {xs : List V}, ExS sp l H H2 → H b = some (.lst xs) → b ≠ sp ∧ b ≠ l → H2 b = some (.lst xs) := fun x h q => x _ _ q.1 q.2 h
  refine lc_list (K := K) (xs := ks.map V.str) (DOInv H sp l D n ks vals) ⟨[], [], (Ex.new nD).exS, S.new nD, upd_same, rfl, fun q m => (nomatch m), rfl, .nil⟩ (fun i H2 _ ⟨ps, ld, x, _⟩ => .inl (.inl (keepL x hk k1))) (fun i v H2 hv2 h => ?_) fun H2 h => ?_
  · obtain ⟨ps, ld, x2, S2, hD, lk, lv, pl, pr⟩ := h
    rw [List.getElem?_map] at hv2
    obtain ⟨w, ew, rfl⟩ := Option.map_eq_some_iff.mp hv2
    have ilt : i < ks.length := (List.getElem?_eq_some_iff.mp ew).1
    have a8 : (((wipe σ [8]).set 8 (some (V.str w))))[8]? = some (some (V.str w)) := List.getElem?_set_self (by rw [wipe_length, len]; decide)
    have a0 : (((wipe σ [8]).set 8 (some (V.str w))))[0]? = some (some (V.ref sp)) := by
      rw [List.getElem?_set_ne (by decide)]
      exact (List.getElem?_set_ne (by decide)).trans s0
    have a3 : (((wipe σ [8]).set 8 (some (V.str w))))[3]? = some (some (V.ref va)) := by
      rw [List.getElem?_set_ne (by decide)]
      exact (List.getElem?_set_ne (by decide)).trans s3
    refine ⟨?_, ?_⟩
    · show ((σ.set 8 none).set 8 (some (V.str w))).set 8 none = σ.set 8 none
      rw [List.set_set, List.set_set]
    refine ⟨.str w, a8, .ref sp, a0, .ref va, a3, sp, l, va, n + i, vals.map V.str, rfl, S2, by omega, v1.1, v1.2, keepL x2 hv v1, by simpa using ne, by rw [List.length_map]; omega, fun y H3 my x3 S3 => ?_⟩
    obtain ⟨g, mg, rfl⟩ := List.mem_map.mp my
    refine ⟨by show 2 ≤ sizeLine; decide, fun p np => ?_⟩
    have hD3 : H3 D = some (.lst (ps.map V.ref)) := x3 _ _ d1.1 d1.2 hD
    have pD : p ≠ D := fun z => by rw [z, hD3] at np; cases np
    have p1 := S3.off np
    refine ⟨ps.map V.ref, (upd_ne pD.symm).trans hD3, by rw [sizeLine_eq, List.length_map]; omega, ps ++ [p], ld ++ [(w, g)], ?_, (S3.new np).put d1, ?_, ?_, ?_, ?_, ?_⟩
    · intro b o b1 b2 e
      have bp : b ≠ p := fun z => by rw [z] at e; rw [x3 _ _ p1.1 p1.2 (x2 _ _ p1.1 p1.2 e)] at np; cases np
      have bD : b ≠ D := fun z => by rw [z, nD] at e; cases e
      exact (upd_ne bD).trans ((upd_ne bp).trans (x3 _ _ b1 b2 (x2 _ _ b1 b2 e)))
    · rw [upd_same, List.map_append]
      rfl
    · rw [List.map_append, lk, List.take_add_one, ew]
      rfl
    · intro q hq
      rcases List.mem_append.mp hq with z | z
      · exact lv q z
      · rw [List.mem_singleton.mp z]; exact mg
    · rw [List.length_append, pl]
      rfl
    · unfold ldV
      rw [List.map_append]
      refine paired_app (Paired.mapP pr fun b kv e => ?_) ?_
      · have e3 : H3 b = some (.tup [kV kv.1, kv.2]) := x3.non S2 e fun _ z => nomatch z
        have n1 : b ≠ p := fun z => by rw [z, np] at e3; cases e3
        have n2 : b ≠ D := fun z => by rw [z, hD3] at e3; cases e3
        exact (upd_ne n2).trans ((upd_ne n1).trans e3)
      · exact (upd_ne pD).trans upd_same
  · obtain ⟨ps, ld, x2, S2, hD, lk, lv, pl, pr⟩ := h
    rw [List.length_map] at lk pl S2
    rw [List.take_length] at lk
    have nd2 : (ld.map (·.1)).Nodup := lk ▸ nd
    refine ⟨D, ps, ldV ld, rfl, .inl (.inl hD), Paired.mapP pr fun p kv e => .inl (.inl e), fun p np => ?_⟩
    have em : mergeK [] (ldV ld) = ldV ld := merge_nd _ _ (keys_nd nd2)
    rw [em]
    have p1 := S2.off np
    exact hQ ld p _ lk lv (x2.trans (Ex.new np).exS) (S2.new np) (x2.none (n := 0) S2 np) upd_same
end TH

/-! A16: _law_thing -/
namespace TH
open PySem PySem.Spec PyProof.Rows L2 LamV LamX XK0
def valN : List Str := ["a", "b", "c", "d"]
def deedN : List Str := ["p", "q"]
def entN : List Str := ["e", "g", "h"]
/-- right parts -/
structure ThD.Good (d : ThD) : Prop where
  vals : ∃ k, 2 ≤ k ∧ k ≤ 4 ∧ d.vals = valN.take k
  start : d.start ∈ d.vals
  dn : ∃ k, k ≤ 2 ∧ d.deeds.map (·.1) = deedN.take k
  en : ∃ k, 1 ≤ k ∧ k ≤ 3 ∧ d.ents.map (·.1) = entN.take k
  dl : ∀ p ∈ d.deeds, p.2.map (·.1) = d.vals ∧ ∀ q ∈ p.2, q.2 ∈ d.vals
  el : ∀ p ∈ d.ents, (p.2.map (·.1)).Nodup ∧ (∀ q ∈ p.2, q.1 ∈ d.vals) ∧ ∀ q ∈ p.2, q.2 ∈ d.vals
/-- the parts, their list of values is none of the spring's -/
def IsPtS (sp l : Addr) (H : Hp) (pt : Addr) (d : ThD) : Prop := ∃ vl dd de, H pt = some (.tup [.ref vl, .str d.start, .ref dd, .ref de]) ∧ H vl = some (.lst (d.vals.map V.str)) ∧ (vl ≠ sp ∧ vl ≠ l) ∧ DD H dd d.deeds ∧ DD H de d.ents
theorem IsPtS.pt {sp l : Addr} {H : Hp} {pt : Addr} {d : ThD} (h : IsPtS sp l H pt d) : IsPt H pt d := by
  obtain ⟨vl, dd, de, e1, e2, _, e3, e4⟩ := h
  exact ⟨vl, dd, de, e1, e2, e3, e4⟩
def spThing : Sp := fun vs H Q _ => ∃ (sp l : Addr) (n : Nat) (most many : Int), vs = [.ref sp, .int most, .int many] ∧ Spr H sp l n ∧ n + 200 < 1000000 ∧ 2 ≤ most ∧ most ≤ 4 ∧ 1 ≤ many ∧ many ≤ 3 ∧
  ∀ (pt : Addr) (d : ThD) (m : Nat) (H' : Hp), d.Good → m ≤ n + 100 → ExS sp l H H' → Spr H' sp l m → H pt = none → IsPtS sp l H' pt d → Q (.ref pt) H'
/-- dict([(name, dict([..])) for name in ..]) -/
def tDDs (K : PySem.W.Frag) (tl : TE) : TE := tCB (rDictP K) (tCons (tLc (iList K tl) (gName 4) tYes (tTup (tCons (tVar 4) (tCons (tDO K 3) tNil))) [4]) tNil)
def PR (H : Hp) (lds : Lds) (kvs : List (Key × V)) : Prop := Paired (fun (l : Str × Ld) (kv : Key × V) => kv.1 = Sum.inr l.1 ∧ ∃ b, kv.2 = .ref b ∧ H b = some (.dK (ldV l.2))) lds kvs
theorem PR.keys {H : Hp} {lds : Lds} {kvs : List (Key × V)} (p : PR H lds kvs) : kvs.map (·.1) = (lds.map (·.1)).map Sum.inr := by
  induction p with
  | nil => rfl
  | cons r _ ih =>
    simp only [List.map_cons] at ih ⊢
    rw [ih, r.1]
theorem nd_inr {xs : List Str} (h : xs.Nodup) : (xs.map (Sum.inr : Str → Key)).Nodup := List.pairwise_map.mpr (List.Pairwise.imp (fun z q => z (Sum.inr.inj q)) h)
def DInv (H : Hp) (sp l D : Addr) (n : Nat) (names vals : List Str) (i : Nat) (H2 : Hp) : Prop := ∃ (ps : List Addr) (lds : Lds) (kvs : List (Key × V)), ExS sp l H H2 ∧ Spr H2 sp l (n + i * vals.length) ∧ H2 D = some (.lst (ps.map V.ref)) ∧ ps.length = i ∧ lds.map (·.1) = names.take i ∧
  (∀ p ∈ lds, p.2.map (·.1) = vals ∧ ∀ q ∈ p.2, q.2 ∈ vals) ∧ Paired (fun p kv => H2 p = some (.tup [kV kv.1, kv.2])) ps kvs ∧ PR H2 lds kvs
theorem deeds_go {K : PySem.W.Frag} {tl : TE} {σ : L2.St} {H : Hp} {Q : VK} {sp l va : Addr} {n : Nat} {vals : List Str} (len : σ.length = 9) (s0 : σ[0]? = some (some (.ref sp))) (s3 : σ[3]? = some (some (.ref va))) (S : Spr H sp l n) (hn : n + 100 < 1000000)
    (hv : H va = some (.lst (vals.map V.str))) (v1 : va ≠ sp ∧ va ≠ l) (ne : vals ≠ []) (vl : vals.length ≤ 4) (nd : vals.Nodup)
    (htl : ∀ Q, (∀ k ka H1, k ≤ 2 → ExS sp l H H1 → Spr H1 sp l (n + 1) → H ka = none → H1 ka = some (.lst ((deedN.take k).map V.str)) → Q (V.ref ka) H1) → tl σ H Q)
    (hQ : ∀ (lds : Lds) (p : Addr) (H' : Hp) (k m : Nat), k ≤ 2 → m ≤ n + 9 → lds.map (·.1) = deedN.take k → (∀ p ∈ lds, p.2.map (·.1) = vals ∧ ∀ q ∈ p.2, q.2 ∈ vals) → ExS sp l H H' → Spr H' sp l m → H p = none → DD H' p lds → Q (.ref p) H') : tDDs K tl σ H Q := by
  refine htl _ fun k ka H1 hk x1 S1 nka hka => ?_
  have k1 := S.off nka
  refine ⟨ka, rfl, ⟨_, .inl (.inl hka)⟩, fun D nD => ?_⟩
  have d1 := S1.off nD
  have nDH : H D = none := x1.none (n := 0) S1 nD
  have ndn : (deedN.take k).Nodup := (List.take_sublist k deedN).nodup (by decide)
  have kl : (deedN.take k).length = k := by rw [List.length_take]; exact Nat.min_eq_left hk
  refine lc_list (K := K) (xs := (deedN.take k).map V.str) (DInv H1 sp l D (n + 1) (deedN.take k) vals) ⟨[], [], [], (Ex.new nD).exS, by rw [Nat.zero_mul]; exact S1.new nD, upd_same, rfl, rfl, fun q m => (nomatch m), .nil, .nil⟩ (fun i H2 _ ⟨ps, ld, kvs, x, _⟩ => .inl (.inl (x _ _ k1.1 k1.2 hka))) (fun i v H2 hv2 h => ?_) fun H2 h => ?_
  · obtain ⟨ps, lds, kvs, x2, S2, hD, pl, lk, lv, pr, pr2⟩ := h
    rw [List.getElem?_map] at hv2
    obtain ⟨w, ew, rfl⟩ := Option.map_eq_some_iff.mp hv2
    have ilt : i < k := by
      have := (List.getElem?_eq_some_iff.mp ew).1
      omega
    have bd : i * vals.length ≤ 2 * 4 := Nat.mul_le_mul (by omega) vl
    have a4 : (((wipe σ [4]).set 4 (some (V.str w))))[4]? = some (some (V.str w)) := List.getElem?_set_self (by rw [wipe_length, len]; decide)
    have a0 : (((wipe σ [4]).set 4 (some (V.str w))))[0]? = some (some (V.ref sp)) := by
      rw [List.getElem?_set_ne (by decide)]
      exact (List.getElem?_set_ne (by decide)).trans s0
    have a3 : (((wipe σ [4]).set 4 (some (V.str w))))[3]? = some (some (V.ref va)) := by
      rw [List.getElem?_set_ne (by decide)]
      exact (List.getElem?_set_ne (by decide)).trans s3
    refine ⟨?_, ?_⟩
    · show ((σ.set 4 none).set 4 (some (V.str w))).set 4 none = σ.set 4 none
      rw [List.set_set, List.set_set]
    have hv1 := x1 _ _ v1.1 v1.2 hv
    have hv22 := x2 _ _ v1.1 v1.2 hv1
    refine ⟨.str w, a4, dictOne_go (by rw [List.length_set, wipe_length]; exact len) a0 a3 a3 S2 (by omega) hv22 v1 hv22 v1 ne (by omega) (by omega) nd fun ld b H3 k3 m3 x3 S3 nb hb => ?_⟩
    refine ⟨by show 2 ≤ sizeLine; decide, fun p np => ?_⟩
    have hD3 : H3 D = some (.lst (ps.map V.ref)) := x3 _ _ d1.1 d1.2 hD
    have pD : p ≠ D := fun z => by rw [z, hD3] at np; cases np
    have p1 := S3.off np
    have bp : b ≠ p := fun z => by rw [z, np] at hb; cases hb
    have bD : b ≠ D := fun z => by rw [z, hD3] at hb; cases hb
    refine ⟨ps.map V.ref, (upd_ne pD.symm).trans hD3, by rw [sizeLine_eq, List.length_map]; omega, ps ++ [p], lds ++ [(w, ld)], kvs ++ [(.inr w, .ref b)], ?_, ?_, ?_, by rw [List.length_append, pl]; rfl, ?_, ?_, ?_, ?_⟩
    · intro c o c1 c2 e
      have cp : c ≠ p := fun z => by rw [z] at e; rw [x3 _ _ p1.1 p1.2 (x2 _ _ p1.1 p1.2 e)] at np; cases np
      have cD : c ≠ D := fun z => by rw [z, nD] at e; cases e
      exact (upd_ne cD).trans ((upd_ne cp).trans (x3 _ _ c1 c2 (x2 _ _ c1 c2 e)))
    · rw [Nat.succ_mul, ← Nat.add_assoc]
      exact (S3.new np).put d1
    · rw [upd_same, List.map_append]
      rfl
    · rw [List.map_append, lk, List.take_add_one, ew]
      rfl
    · intro q hq
      rcases List.mem_append.mp hq with z | z
      · exact lv q z
      · rw [List.mem_singleton.mp z]; exact ⟨k3, m3⟩
    · refine paired_app (Paired.mapP pr fun b kv e => ?_) ((upd_ne pD).trans upd_same)
      have e3 : H3 b = some (.tup [kV kv.1, kv.2]) := x3.non S2 e fun _ z => nomatch z
      have n1 : b ≠ p := fun z => by rw [z, np] at e3; cases e3
      have n2 : b ≠ D := fun z => by rw [z, hD3] at e3; cases e3
      exact (upd_ne n2).trans ((upd_ne n1).trans e3)
    · refine paired_app (Paired.mapP pr2 fun l' kv ⟨e1, b', e2, e3⟩ => ⟨e1, b', e2, ?_⟩) ⟨rfl, b, rfl, (upd_ne bD).trans ((upd_ne bp).trans hb)⟩
      have e3 := x3.non S2 e3 fun _ z => nomatch z
      have n1 : b' ≠ p := fun z => by rw [z, np] at e3; cases e3
      have n2 : b' ≠ D := fun z => by rw [z, hD3] at e3; cases e3
      exact (upd_ne n2).trans ((upd_ne n1).trans e3)
  · obtain ⟨ps, lds, kvs, x2, S2, hD, pl, lk, lv, pr, pr2⟩ := h
    rw [List.length_map] at lk pl S2
    rw [List.take_length] at lk
    rw [kl] at S2
    have bd : k * vals.length ≤ 2 * 4 := Nat.mul_le_mul hk vl
    refine ⟨D, ps, kvs, rfl, .inl (.inl hD), Paired.mapP pr fun p kv e => .inl (.inl e), fun p np => ?_⟩
    have em : mergeK [] kvs = kvs := merge_nd _ _ (by rw [List.nil_append, pr2.keys, lk]; exact nd_inr ndn)
    rw [em]
    have p1 := S2.off np
    have x3 : ExS sp l H (upd H2 p (.dK kvs)) := (x1.trans x2).trans (Ex.new np).exS
    refine hQ lds p _ k _ hk (by omega) lk lv x3 (S2.new np) ((x1.trans x2).none (n := 0) S2 np) ⟨kvs, upd_same, Paired.mapP pr2 fun l' kv ⟨e1, b', e2, e3⟩ => ⟨e1, b', e2, ?_⟩⟩
    exact (Ex.new np) _ _ e3
end TH

/-! A17: _law_thing, the def -/
namespace TH
open PySem PySem.Spec PyProof.Rows L2 LamV LamX XK0
theorem perm_strs {ys : List V} {ks : List Str} (h : ys.Perm (ks.map V.str)) : ∃ zs : List Str, ys = zs.map V.str ∧ zs.Perm ks := by
  have e : ∃ zs : List Str, ys = zs.map V.str := by
    have all : ∀ y ∈ ys, ∃ z, y = V.str z := fun y m => by
      obtain ⟨z, _, e⟩ := List.mem_map.mp (h.mem_iff.mp m)
      exact ⟨z, e.symm⟩
    clear h
    induction ys with
    | nil => exact ⟨[], rfl⟩
    | cons y r ih =>
      obtain ⟨z, rfl⟩ := all y List.mem_cons_self
      obtain ⟨zs, rfl⟩ := ih fun y m => all y (List.mem_cons_of_mem _ m)
      exact ⟨z :: zs, rfl⟩
  obtain ⟨zs, rfl⟩ := e
  refine ⟨zs, rfl, ?_⟩
  have := h.filterMap fun v => match v with | .str z => some z | _ => none
  rw [List.filterMap_map, List.filterMap_map] at this
  have id : ∀ l : List Str, l.filterMap ((fun v => match v with | V.str z => some z | _ => none) ∘ V.str) = l := fun l => by
    induction l with
    | nil => rfl
    | cons a r ih => rw [List.filterMap_cons]; simp only [Function.comp]; exact congrArg _ ih
  rwa [id, id] at this
/-- at each turn of the for -/
def EInv (H : Hp) (sp l va dd de na : Addr) (n : Nat) (most many : Int) (names vals : List Str) (i : Nat) (σ : L2.St) (H2 : Hp) : Prop := ∃ (o4 o7 : Option V) (lds : Lds) (kvs : List (Key × V)) (m : Nat), σ = [some (.ref sp), some (.int most), some (.int many), some (.ref va), o4, some (.ref dd), some (.ref de), o7, none] ∧
  ExS sp l H H2 ∧ H2 na = some (.lst (names.map V.str)) ∧ Spr H2 sp l m ∧ m ≤ n + i * 9 ∧ H2 de = some (.dK kvs) ∧ Paired (fun (l : Str × Ld) (kv : Key × V) => kv.1 = Sum.inr l.1 ∧ ∃ b, kv.2 = .ref b ∧ b ≠ de ∧ H2 b = some (.dK (ldV l.2))) lds kvs ∧ lds.map (·.1) = names.take i ∧ ∀ p ∈ lds, (p.2.map (·.1)).Nodup ∧ (∀ q ∈ p.2, q.1 ∈ vals) ∧ ∀ q ∈ p.2, q.2 ∈ vals
section
variable {P : Program} {w : World} {K : PySem.W.Frag} {mg : Str → Option Value} {base : Heap} {f : Addr} {fd : FuncData}
end
end TH

/-! A18: check_entry, checked_names, where they raise -/
namespace TH
open PySem PySem.Spec PyProof.Rows L2 LamV LamX XK0
/-- C with the fields fs is raised, nothing else is changed -/
def Rz (E : XK) (H : Hp) (C : Addr) (fs : List (Str × V)) : Prop := ∀ H1 dd, Ex H H1 → H1 dd = none → E (.ref C) (some dd) (upd H1 dd (.xd fs))
theorem Rz.ex {E : XK} {H H1 : Hp} {C : Addr} {fs : List (Str × V)} (x : Ex H H1) (r : Rz E H C fs) : Rz E H1 C fs := fun H2 dd y n => r H2 dd (x.trans y) n
theorem FunD.okX {K : PySem.W.Frag} {P : Program} {w : World} {mg : Str → Option Value} {base : Heap} {x qual : Str} {st : Stmt} {f : Addr} {fd : FuncData} {N ps : List Str} {k : Nat} {sp : Sp} (F : FunD K x qual (defArgs st) (defBody st) (defScope st) [] [] f fd) (S : FnScope N ps (defScope st)) (len : ∀ vs H Q E, sp vs H Q E → vs.length = ps.length)
    (hbody : ∀ (cdv : Value) (A : Around) (outer : List Env) (s : Shared) (H : Hp) (vs : List V) (Q : VK) (E : XK), Room k (A.deeper (envOfC qual (defScope st) s.heap.objs.size f cdv)) → sp vs H Q E →
      ∃ t, PSs (cxOf (L2.CX P w) P w K mg base N qual (defScope st) f cdv A outer s H E) (defBody st) t ∧ t { nx := fun _ H' => Q .non H', rt := Q } (L2.start N vs) H) : FnOk P w K mg base (L2.CX P w) (k + 1) f fd ps sp := by
  obtain ⟨oc, od, dV, kV, doc, pm, an, cdv, ct, osl, rfl, lk, hcd, _⟩ := F.ex
  exact fn_of lk hcd S len fun A outer s H vs Q E hr hsp => hbody cdv A outer s H vs Q E hr hsp
/-- no entry of the thing -/
def NoEnt (d : ThD) (v : V) : Prop := isWd v = false ∨ ∃ x, v = .str x ∧ okS x = true ∧ look d.ents x = none
def spCheckEntryX (K : PySem.W.Frag) (C CN : Addr) : Sp := fun vs H Q E => ∃ (t : Addr) (d : ThD) (v : V) (T : String), vs = [.ref t, v] ∧ IsTh H C t d ∧ Kd K H v T ∧
  ((NoEnt d v ∧ Rz E H CN [("entry", v)]) ∨ ∃ x, v = .str x ∧ okS x = true ∧ (look d.ents x).isSome = true ∧ ∀ H', Ex H H' → Q .non H')
def fewL (xs : List V) : List V := match fbw xs [] 0 with
  | none => xs
  | some i => xs.take i
def strange (few : List V) (known : List Str) : Option Nat := few.findIdx? fun x => !inV x (known.map V.str)
def badIx (xs : List V) (known : List Str) : Option Nat := match strange (fewL xs) known with
  | some j => some j
  | none => fbw xs [] 0
def spCNX (K : PySem.W.Frag) (CB : Addr) : Sp := fun vs H Q E => ∃ (v : V) (kl : Addr) (ks : List Str) (j : Nat), vs = [v, .ref kl] ∧ SqL K H kl (ks.map V.str) ∧ Rz E H CB [("index", .int j)] ∧
  ((∃ T, Kd K H v T ∧ isLt T = false ∧ j = 0) ∨ ∃ (a : Addr) (xs : List V), v = .ref a ∧ Sq K H a xs ∧ xs.length ≤ 60 ∧ (∀ x ∈ xs, ∃ T, Kd K H x T) ∧ badIx xs ks = some j)
section
variable {P : Program} {w : World} {K : PySem.W.Frag} {mg : Str → Option Value} {base : Heap} {f C CN CB : Addr} {fd : FuncData}
theorem raise_go {X : Cx} {f : Str} {C : Addr} {E : XK} {σ : L2.St} {H : Hp} {t : TE} {y : V} {Q : XK} (Ec : ∃ x, Ec1 X.K X.mg x f C) (h : ∀ Q, Q y H → t σ H Q) (r : ∀ d, H d = none → Q (.ref C) (some d) (upd H d (.xd [(f, y)]))) : tMkO C (spI1 X.K f) [] (tCons t tNil) σ H Q := by
  obtain ⟨x, Ec⟩ := Ec
  refine h _ ?_
  exact mk1_ok Ec r
end
end TH

/-! A19: checked_names, where it raises -/
namespace TH
open PySem PySem.Spec PyProof.Rows L2 LamV LamX XK0
open C8 (pss_cut tCut)
theorem fbw_some : ∀ {xs met : List V} {i j : Nat}, fbw xs met i = some j → i ≤ j ∧ j < i + xs.length ∧ ∀ x ∈ xs.take (j - i), isWd x = true
  | [], _, _, _, h => by cases h
  | x :: r, met, i, j, h => by
    have e : fbw (x :: r) met i = if (!isWd x || inV x met) = true then some i else fbw r (met ++ [x]) (i + 1) := rfl
    rw [e] at h
    by_cases c : (!isWd x || inV x met) = true
    · rw [if_pos c] at h
      cases h
      refine ⟨Nat.le_refl _, by rw [List.length_cons]; omega, fun y m => ?_⟩
      rw [Nat.sub_self] at m
      cases m
    · rw [if_neg c] at h
      obtain ⟨h1, h2, h3⟩ := fbw_some h
      refine ⟨by omega, by rw [List.length_cons]; omega, fun y m => ?_⟩
      rw [show j - i = (j - (i + 1)) + 1 by omega, List.take_succ_cons] at m
      rcases List.mem_cons.mp m with rfl | m
      · cases w : isWd y with
        | true => rfl
        | false => rw [w] at c; exact absurd rfl c
      · exact h3 y m
theorem fbw_all : ∀ {xs met : List V} {i : Nat}, fbw xs met i = none → ∀ x ∈ xs, isWd x = true
  | [], _, _, _, _, m => by cases m
  | x :: r, met, i, h, y, m => by
    have e : fbw (x :: r) met i = if (!isWd x || inV x met) = true then some i else fbw r (met ++ [x]) (i + 1) := rfl
    rw [e] at h
    by_cases c : (!isWd x || inV x met) = true
    · rw [if_pos c] at h
      cases h
    · rw [if_neg c] at h
      rcases List.mem_cons.mp m with rfl | m
      · cases w : isWd y with
        | true => rfl
        | false => rw [w] at c; exact absurd rfl c
      · exact fbw_all h y m
theorem fewL_wd {xs : List V} : ∀ x ∈ fewL xs, isWd x = true := by
  unfold fewL
  cases h : fbw xs [] 0 with
  | none => exact fbw_all h
  | some i => exact (fbw_some h).2.2
theorem fewL_len {xs : List V} : (fewL xs).length ≤ xs.length := by
  unfold fewL
  cases h : fbw xs [] 0 with
  | none => exact Nat.le_refl _
  | some i => simp only [List.length_take]; exact Nat.min_le_right _ _
/-- positions so far -/
def PosOf (p : V → Bool) (few : List V) (n : Nat) (js : List Nat) : Prop := js.head? = (few.take n).findIdx? p ∧ js.length ≤ n
theorem posOf_step {p : V → Bool} {few : List V} {n : Nat} {js : List Nat} {x : V} (h : PosOf p few n js) (e : few[n]? = some x) : PosOf p few (n + 1) (if p x = true then js ++ [n] else js) := by
  obtain ⟨h1, h2⟩ := h
  have lt := (List.getElem?_eq_some_iff.mp e).1
  have tl : (few.take n).length = n := by rw [List.length_take]; exact Nat.min_eq_left (by omega)
  have ef : (few.take (n + 1)).findIdx? p = ((few.take n).findIdx? p).or (if p x = true then some n else none) := by
    rw [List.take_add_one, e, Option.toList_some, List.findIdx?_append, List.findIdx?_singleton, tl]
    cases p x
    · rfl
    · simp
  unfold PosOf
  rw [ef, ← h1]
  cases p x with
  | false => exact ⟨by simp, by simpa using Nat.le_succ_of_le h2⟩
  | true =>
    refine ⟨?_, by simpa using h2⟩
    cases js <;> rfl
theorem map_int (js : List Nat) : (js.map fun (j : Nat) => V.int j) = (js.map fun (j : Nat) => (j : Int)).map V.int := by
  rw [List.map_map]
  rfl
section
variable {P : Program} {w : World} {K : PySem.W.Frag} {mg : Str → Option Value} {base : Heap} {f C CN CB : Addr} {fd : FuncData}
end
end TH

/-! A20: first_open, shut_ring, is_shut_ring, helpers_of, idle_lots, where they raise before anything else -/
namespace TH
open PySem PySem.Spec PyProof.Rows L2 LamV LamX XK0
open C8 (pss_cut tCut)
/-- the names nv are refused with the index j, known being told by ks -/
def BadNm (K : PySem.W.Frag) (H : Hp) (nv : V) (known : List Str) (j : Nat) : Prop := (∃ T, Kd K H nv T ∧ isLt T = false ∧ j = 0) ∨ ∃ (a : Addr) (xs : List V), nv = .ref a ∧ Sq K H a xs ∧ xs.length ≤ 60 ∧ (∀ x ∈ xs, ∃ T, Kd K H x T) ∧ ∀ ks : List Str, (∀ x, x ∈ ks ↔ x ∈ known) → badIx xs ks = some j
theorem BadNm.ex {K : PySem.W.Frag} {H H' : Hp} {nv : V} {known : List Str} {j : Nat} (x : Ex H H') (h : BadNm K H nv known j) : BadNm K H' nv known j := by
  rcases h with ⟨T, kd, nl, e⟩ | ⟨a, xs, e, sq, l, kds, b⟩
  · exact .inl ⟨T, kd.ex x, nl, e⟩
  · exact .inr ⟨a, xs, e, sq.ex x, l, fun y m => (kds y m).imp fun _ z => z.ex x, b⟩
/-- refused: by the entry, or by the names -/
def Rfs (K : PySem.W.Frag) (CN CB : Addr) (E : XK) (H : Hp) (d : ThD) (v nv : V) (known : Str → List Str) : Prop := (NoEnt d v ∧ Rz E H CN [("entry", v)]) ∨ ∃ (x : Str) (j : Nat), v = .str x ∧ okS x = true ∧ (look d.ents x).isSome = true ∧ Rz E H CB [("index", .int j)] ∧ BadNm K H nv (known x) j
def spF3X (K : PySem.W.Frag) (C CN CB : Addr) (known : ThD → Str → List Str) : Sp := fun vs H Q E => ∃ (t : Addr) (d : ThD) (v nv : V) (T : String), vs = [.ref t, v, nv] ∧ IsTh H C t d ∧ d.names.length < 60 ∧ Kd K H v T ∧ Rfs K CN CB E H d v nv (known d)
def spF4X (K : PySem.W.Frag) (C CN CB : Addr) (known : ThD → Str → List Str) : Sp := fun vs H Q E => ∃ (t : Addr) (d : ThD) (v nv p : V) (T : String), vs = [.ref t, v, nv, p] ∧ IsTh H C t d ∧ d.names.length < 60 ∧ Kd K H v T ∧ Rfs K CN CB E H d v nv (known d)
def spF2X (K : PySem.W.Frag) (C CN : Addr) : Sp := fun vs H Q E => ∃ (t : Addr) (d : ThD) (v : V) (T : String), vs = [.ref t, v] ∧ IsTh H C t d ∧ Kd K H v T ∧ NoEnt d v ∧ Rz E H CN [("entry", v)]
def allNames (d : ThD) (_ : Str) : List Str := d.names
def lessNames (d : ThD) (x : Str) : List Str := d.names.filter fun y => !decide (y = x)
section
variable {P : Program} {w : World} {K : PySem.W.Frag} {mg : Str → Option Value} {base : Heap} {f C CN CB : Addr} {fd : FuncData}
/-- the names without the entry -/
theorem less_go {K : PySem.W.Frag} {i : Nat} {tn : TE} {σ : L2.St} {H : Hp} {Q : VK} {x : Str} (Py : List Str → Prop) (hi : i ≠ 1) (sl : σ[1]? = some (some (.str x))) (li : i < σ.length) (hn : ∀ Q, (∀ p H1 (ys : List Str), ys.length ≤ 100 → Py ys → Ex H H1 → H1 p = some (.lst (ys.map V.str)) → Q (V.ref p) H1) → tn σ H Q)
    (hQ : ∀ (q : Addr) (H' : Hp) (ys : List Str), Py ys → Ex H H' → H' q = some (.lst ((ys.filter fun y => !decide (y = x)).map V.str)) → Q (.ref q) H') : tLc (iList K tn) (gName i) (tTest (tOp rNe (tVar i) (tVar 1))) (tVar i) [i] σ H Q := by
  refine hn _ fun p H1 ys len py x1 hp => ⟨p, rfl, ⟨_, .inl (.inl hp)⟩, fun D nD => ?_⟩
  refine lc_list (K := K) (xs := ys.map V.str) (fun n H2 => Ex H1 H2 ∧ H2 D = some (.lst (((ys.take n).filter fun y => !decide (y = x)).map V.str))) ⟨Ex.new nD, upd_same⟩ (fun n H2 _ h => .inl (.inl (h.1 _ _ hp))) (fun n v H2 hv h => ?_) fun H2 h => ?_
  · obtain ⟨x2, hD⟩ := h
    rw [List.getElem?_map] at hv
    obtain ⟨w, ew, rfl⟩ := Option.map_eq_some_iff.mp hv
    have ai : (((wipe σ [i]).set i (some (V.str w))))[i]? = some (some (V.str w)) := List.getElem?_set_self (by rw [wipe_length]; exact li)
    have a1 : (((wipe σ [i]).set i (some (V.str w))))[1]? = some (some (V.str x)) := by
      rw [List.getElem?_set_ne hi]
      exact (List.getElem?_set_ne hi).trans sl
    refine ⟨?_, .str w, ai, .str x, a1, rfl, _, rfl, ?_⟩
    · show ((σ.set i none).set i (some (V.str w))).set i none = σ.set i none
      rw [List.set_set, List.set_set]
    rw [List.take_add_one, ew, Option.toList_some, List.filter_append]
    by_cases q : w = x
    · rw [show (!decide (V.str w = V.str x)) = false by rw [decide_eq_true (congrArg V.str q)]; rfl]
      refine ⟨x2, ?_⟩
      rw [List.filter_cons_of_neg (by simpa using q), List.filter_nil, List.append_nil]
      exact hD
    · rw [show (!decide (V.str w = V.str x)) = true by rw [decide_eq_false (fun z => q (V.str.inj z))]; rfl]
      have ln : ((ys.take n).filter fun y => !decide (y = x)).length ≤ ys.length := Nat.le_trans (List.length_filter_le _ _) (by rw [List.length_take]; exact Nat.min_le_right _ _)
      refine ⟨.str w, ai, _, hD, by rw [sizeLine_eq, List.length_map]; omega, fun b o e => (upd_ne fun z => by rw [z, nD] at e; cases e).trans (x2 _ _ e), ?_⟩
      rw [upd_same, List.filter_cons_of_pos (by simpa using q), List.filter_nil, List.map_append]
      rfl
  · obtain ⟨x2, hD⟩ := h
    rw [List.length_map, List.take_length] at hD
    exact hQ D H2 ys py (x1.trans x2) hD
theorem less_mem {d : ThD} {x : Str} {ys : List Str} (pm : ys.Perm d.names) (z : Str) : z ∈ ys.filter (fun y => !decide (y = x)) ↔ z ∈ lessNames d x := by
  unfold lessNames
  rw [List.mem_filter, List.mem_filter, pm.mem_iff]
theorem bad_go {K : PySem.W.Frag} {CB : Addr} {E : XK} {H H2 : Hp} {Q : VK} {d : ThD} {x : Str} {nv : V} {j : Nat} {ys : List Str} {q : Addr} (x2 : Ex H H2) (rz : Rz E H CB [("index", .int j)]) (bn : BadNm K H nv (lessNames d x) j) (pm : ys.Perm d.names) (hq : H2 q = some (.lst ((ys.filter fun y => !decide (y = x)).map V.str))) : spCNX K CB [nv, .ref q] H2 Q E := by
  refine ⟨nv, q, _, j, rfl, .inl (.inl hq), rz.ex x2, ?_⟩
  rcases bn.ex x2 with z | ⟨a, xs, e, sq, l, kds, b⟩
  · exact .inl z
  · exact .inr ⟨a, xs, e, sq, l, kds, b _ (less_mem pm)⟩
end
end TH

/-! A21: is_lead, first_wrong, where all is right -/
namespace TH
open PySem PySem.Spec PyProof.Rows L2 LamV LamX XK0
open C8 (pss_cut tCut)
abbrev sIsLead : Stmt := top 12
abbrev sFirstWrong : Stmt := top 13
/-- a right lead -/
def LeadOk (vals : List Str) (wh : Bool) (ld : Ld) : Prop := (∀ q ∈ ld, q.1 ∈ vals ∧ q.2 ∈ vals) ∧ (ld.map (·.1)).Nodup ∧ ld.length ≤ 1000 ∧ (wh = true → ld.length = vals.length)
def spIsLead (K : PySem.W.Frag) : Sp := fun vs H Q _ => ∃ (a kt : Addr) (ld : Ld) (vals : List Str) (wh : Bool), vs = [.ref a, .ref kt, .bl wh] ∧ H a = some (.dK (ldV ld)) ∧ SqT K H kt (vals.map V.str) ∧ vals.length ≤ 1000 ∧ (∀ x ∈ vals, okS x = true) ∧ LeadOk vals wh ld ∧ ∀ H', Ex H H' → Q (.bl true) H'
def spFirstWrong (K : PySem.W.Frag) : Sp := fun vs H Q _ => ∃ (a kt bl : Addr) (lds : Lds) (vals bs : List Str) (wh : Bool), vs = [.ref a, .ref kt, .ref bl, .bl wh] ∧ DD H a lds ∧ SqT K H kt (vals.map V.str) ∧ SqL K H bl (bs.map V.str) ∧ vals.length ≤ 1000 ∧ (∀ x ∈ vals, okS x = true) ∧
  (∀ l ∈ lds, okS l.1 = true ∧ l.1 ∉ bs ∧ LeadOk vals wh l.2) ∧ ∀ (p : Addr) (H' : Hp), Ex H H' → H p = none → H' p = some (.lst []) → Q (.ref p) H'
theorem Ex.unlock {H H' : Hp} {a : Addr} {u v : HO} (h : H a = some u) (x : Ex (upd H a v) H') : Ex H (upd H' a u) := fun b o e => by
  by_cases z : b = a
  · subst z
    rw [upd_same]
    exact h.symm.trans e
  · exact (upd_ne z).trans (x _ _ ((upd_ne z).trans e))
/-- what is no such object stands while it is locked -/
theorem lock_ne {H H' : Hp} {a b : Addr} {u v o : HO} (h : H a = some u) (x : Ex (upd H a v) H') (e : H b = some o) (n : o ≠ u) : H' b = some o := x _ _ ((upd_ne fun z => n (by rw [z, h] at e; exact (Option.some.inj e).symm)).trans e)
theorem lock_sqT {K : PySem.W.Frag} {H H' : Hp} {a b : Addr} {kvs : List (Key × V)} {v : HO} {xs : List V} (h : H a = some (.dK kvs)) (x : Ex (upd H a v) H') (e : SqT K H b xs) : SqT K H' b xs := x.sqT (sqT_put h (fun _ z => nomatch z) (fun _ _ z => nomatch z) e)
theorem flat_strs (vals : List Str) : (vals.map V.str).all flatV = true := List.all_eq_true.mpr fun y hy => by
  obtain ⟨q, _, rfl⟩ := List.mem_map.mp hy
  rfl
theorem lookL_mem : ∀ {ld : Ld} {q : Str × Str}, (ld.map (·.1)).Nodup → q ∈ ld → lookL ld q.1 = some q.2
  | p :: r, q, nd, m => by
    rw [List.map_cons, List.nodup_cons] at nd
    unfold lookL
    rw [List.find?_cons]
    rcases List.mem_cons.mp m with rfl | m
    · rw [decide_eq_true rfl]
      rfl
    · have ne : ¬ p.1 = q.1 := fun z => nd.1 (z ▸ List.mem_map_of_mem m)
      rw [decide_eq_false ne]
      exact lookL_mem nd.2 m
section
variable {P : Program} {w : World} {K : PySem.W.Frag} {mg : Str → Option Value} {base : Heap} {f C CN CB : Addr} {fd : FuncData}
theorem scIsLead : FnScope ["thing", "known", "is_whole", "value"] ["thing", "known", "is_whole"] (defScope sIsLead) := ⟨rfl, rfl, rfl, by decide +kernel, rfl, by decide +kernel, by decide +kernel⟩
theorem ok_is_lead (F : FnP K "is_lead" sIsLead f fd) (FW : Has P w K mg base "is_word" 1 ["thing"] (spIsWord K)) (gi : mg "isinstance" = none) (gd : mg "dict" = none) (gn : mg "len" = none) : FnOk P w K mg base CX0 2 f fd ["thing", "known", "is_whole"] (spIsLead K) := by
  refine F.ok scIsLead (fun vs H Q E h => ?_) (fun cdv A outer s H vs Q E hr h => ?_)
  · obtain ⟨a, kt, ld, vals, wh, rfl, _⟩ := h
    rfl
  · have hu := hu_of hr
    refine ⟨_, PSs.nox (pss_cons (ps_if (pt_not (pt_val (pe_callB call_isi rfl gi boot_isinstance (pa_cons (pv 0) (pa_cons (pe_bltn (v := .ty "dict") rfl gd boot_dict rfl) pa_nil))))) (pss_one ps_dead) pss_nil)
      (pss_cons (ps_lock (ps_for PassesOwn.never rfl (pi_keys (pv 0)) (pg_name (i := 3) scIsLead.nd rfl (.inl rfl))
        (pss_one (ps_if (PW.pt (pw_or (pt_not (pt_val (pe_has FW hr (by decide) rfl (pa_cons (pv 3) pa_nil)))) (pw_or (pt_cmpR op_notIn_seq (pv 3) (pv 1) (by with_unfolding_all rfl)) (pw_or (pt_not (pt_val (pe_has FW hr (by decide) rfl (pa_cons (pe_dget hu (pv 0) (pv 3) (fun _ _ => rfl)) pa_nil)))) (pw_or1 (pt_cmpR op_notIn_seq (pe_dget hu (pv 0) (pv 3) (fun _ _ => rfl)) (pv 1) (by with_unfolding_all rfl))))))) (pss_one ps_dead) pss_nil))))
      (pss_one (ps_ret (pe_or (pe_not (pv 2)) (pe_one (pe_cmp (pc_eqI (pe_callB call_lenD rfl gn boot_len (pa_cons (pv 0) pa_nil)) (pe_callB call_len rfl gn boot_len (pa_cons (pv 1) pa_nil))) rfl))))))), ?_⟩
    obtain ⟨a, kt, ld, vals, wh, rfl, ha, sk, vl, vo, ⟨lok, lnd, ll, lw⟩, hQ⟩ := h
    refine ⟨.ref a, rfl, .ref a, .ty "dict", _, _, true, rfl, .ty "dict", .base (.dK ha), kit_ty (by decide +kernel), _, rfl, ?_⟩
    refine ⟨a, _, ha, trivial, fun od => ?_⟩
    have ea : ∀ {H'}, Ex (upd H a (.frz od (.dK (ldV ld)))) H' → H' a = some (.frz od (.dK (ldV ld))) := fun x => x _ _ upd_same
    refine ⟨.ref a, rfl, a, od, rfl, .inl ⟨ldV ld, upd_same, for_it walk_keys (fun i σ H7 => ∃ o3, σ = [some (.ref a), some (.ref kt), some (.bl wh), o3] ∧ Ex (upd H a (.frz od (.dK (ldV ld)))) H7) ⟨_, rfl, Ex.refl⟩ (fun i σ H7 _ ⟨_, _, x⟩ => ea x) (fun i v σ H7 H8 hi h y => ?_) fun σ H7 h => ?_⟩⟩
    · obtain ⟨o3, rfl, x7⟩ := h
      obtain ⟨rfl, k, v2, ek, rfl⟩ := y
      unfold ldV at ek
      rw [List.getElem?_map] at ek
      obtain ⟨q, eq, e2⟩ := Option.map_eq_some_iff.mp ek
      cases e2
      have mq := List.mem_of_getElem? eq
      obtain ⟨q1, q2⟩ := lok q mq
      have o1 := vo _ q1
      have o2 := vo _ q2
      have lv : lookL ld q.1 = some q.2 := lookL_mem lnd mq
      have vv : valV (ldV ld) (Sum.inr q.1) = some (.str q.2) := by rw [lookL_val, lv]; rfl
      have dg : ∀ {H'}, Ex (upd H a (.frz od (.dK (ldV ld)))) H' → DGet H' a (.str q.1) (some (.str q.2)) := fun x => vv ▸ .inl ⟨ldV ld, Sum.inr q.1, .inr ⟨od, ea x⟩, rfl, rfl⟩
      refine ⟨.str q.1, rfl, .str q.1, "str", rfl, str_kd (by have := okS_len o1; omega), fun H8 x8 => ⟨_, rfl, ?_⟩⟩
      have y8 := x7.trans x8
      rw [show isWd (.str q.1) = true from o1]
      refine ⟨.str q.1, rfl, .ref kt, rfl, kt, vals.map V.str, rfl, .inr (lock_sqT ha y8 sk), rfl, flat_strs vals, _, rfl, ?_⟩
      rw [inV_strs, decide_eq_true q1]
      refine ⟨.ref a, rfl, .str q.1, rfl, a, .str q.2, rfl, dg y8, .str q.2, "str", rfl, str_kd (by have := okS_len o2; omega), fun H9 x9 => ⟨_, rfl, ?_⟩⟩
      have y9 := y8.trans x9
      rw [show isWd (.str q.2) = true from o2]
      refine ⟨.ref a, rfl, .str q.1, rfl, a, .str q.2, rfl, dg y9, .ref kt, rfl, kt, vals.map V.str, rfl, .inr (lock_sqT ha y9 sk), rfl, flat_strs vals, _, rfl, ?_⟩
      rw [inV_strs, decide_eq_true q2]
      exact ⟨_, rfl, y9⟩
    · obtain ⟨o3, rfl, x7⟩ := h
      refine ⟨ea x7, ?_⟩
      have xu := Ex.unlock ha x7
      have ea2 : upd H7 a (.dK (ldV ld)) a = some (.dK (ldV ld)) := upd_same
      refine ⟨.bl wh, rfl, wh, rfl, !wh, rfl, ?_⟩
      cases wh with
      | false => exact hQ _ xu
      | true =>
        refine ⟨.ref a, rfl, a, ldV ld, rfl, ea2, .ref kt, rfl, .ref kt, vals.length, rfl, .inr (⟨vals.map V.str, xu.sqT sk, by rw [List.length_map]⟩), _, _, rfl, rfl, ?_⟩
        have e : decide (((ldV ld).length : Int) = (vals.length : Int)) = true := by
          unfold ldV
          rw [List.length_map, lw rfl]
          exact decide_eq_true rfl
        show Q (.bl (decide (((ldV ld).length : Int) = (vals.length : Int)))) _
        rw [e]
        exact hQ _ xu
theorem scFirstWrong : FnScope ["leads", "known", "barred", "is_whole", "name"] ["leads", "known", "barred", "is_whole"] (defScope sFirstWrong) := ⟨rfl, rfl, rfl, by decide +kernel, rfl, by decide +kernel, by decide +kernel⟩
theorem ok_first_wrong (F : FnP K "first_wrong" sFirstWrong f fd) (FW : Has P w K mg base "is_word" 1 ["thing"] (spIsWord K)) (FI : Has P w K mg base "is_lead" 2 ["thing", "known", "is_whole"] (spIsLead K)) (gi : mg "isinstance" = none) (gd : mg "dict" = none) : FnOk P w K mg base CX0 3 f fd ["leads", "known", "barred", "is_whole"] (spFirstWrong K) := by
  refine F.ok scFirstWrong (fun vs H Q E h => ?_) (fun cdv A outer s H vs Q E hr h => ?_)
  · obtain ⟨a, kt, bl, lds, vals, bs, wh, rfl, _⟩ := h
    rfl
  · have hu := hu_of hr
    refine ⟨_, PSs.nox (pss_cons (ps_if (pt_not (pt_val (pe_callB call_isi rfl gi boot_isinstance (pa_cons (pv 0) (pa_cons (pe_bltn (v := .ty "dict") rfl gd boot_dict rfl) pa_nil))))) (pss_one ps_dead) pss_nil)
      (pss_cons (ps_lock (ps_for PassesOwn.never rfl (pi_keys (pv 0)) (pg_name (i := 4) scFirstWrong.nd rfl (.inl rfl))
        (pss_one (ps_if (PW.pt (pw_or (pt_not (pt_val (pe_has FW hr (by decide) rfl (pa_cons (pv 4) pa_nil)))) (pw_or (pt_cmpR op_in_seq (pv 4) (pv 2) (by with_unfolding_all rfl)) (pw_or1 (pt_not (pt_val (pe_has FI hr (by decide) rfl (pa_cons (pe_dget hu (pv 0) (pv 4) (fun _ _ => rfl)) (pa_cons (pv 1) (pa_cons (pv 3) pa_nil)))))))))) (pss_one ps_dead) pss_nil))))
      (pss_one (ps_ret (pe_lst pa_nil))))), ?_⟩
    obtain ⟨a, kt, bl, lds, vals, bs, wh, rfl, ⟨kvs, ha, pr⟩, sk, sb, vl, vo, lok, hQ⟩ := h
    refine ⟨.ref a, rfl, .ref a, .ty "dict", _, _, true, rfl, .ty "dict", .base (.dK ha), kit_ty (by decide +kernel), _, rfl, ?_⟩
    refine ⟨a, _, ha, trivial, fun od => ?_⟩
    have ea : ∀ {H'}, Ex (upd H a (.frz od (.dK kvs))) H' → H' a = some (.frz od (.dK kvs)) := fun x => x _ _ upd_same
    have lockL : ∀ {H'} {b xs}, Ex (upd H a (.frz od (.dK kvs))) H' → SqL K H b xs → SqL K H' b xs := fun x e => by
      refine x.sqL (e.imp (Or.imp (fun z => (upd_ne fun q => ?_).trans z) fun ⟨o, z⟩ => ⟨o, (upd_ne fun q => ?_).trans z⟩) id)
      · rw [q, ha] at z; cases z
      · rw [q, ha] at z; cases z
    refine ⟨.ref a, rfl, a, od, rfl, .inl ⟨kvs, upd_same, for_it walk_keys (fun i σ H7 => ∃ o3, σ = [some (.ref a), some (.ref kt), some (.ref bl), some (.bl wh), o3] ∧ Ex (upd H a (.frz od (.dK kvs))) H7) ⟨_, rfl, Ex.refl⟩ (fun i σ H7 _ ⟨_, _, x⟩ => ea x) (fun i v σ H7 H8 hi h y => ?_) fun σ H7 h => ?_⟩⟩
    · obtain ⟨o3, rfl, x7⟩ := h
      obtain ⟨rfl, k, v2, ek, rfl⟩ := y
      obtain ⟨l, el, r1, b, r2, r3⟩ := paired_get pr ek
      have r1 : k = Sum.inr l.1 := r1
      have r2 : v2 = .ref b := r2
      subst r1 r2
      obtain ⟨o1, nb, lo⟩ := lok l (List.mem_of_getElem? el)
      have vv : ∃ l2 b2, valV kvs (Sum.inr l.1) = some (.ref b2) ∧ H b2 = some (.dK (ldV l2)) ∧ LeadOk vals wh l2 := by
        rcases look_val pr l.1 with ⟨z, _⟩ | ⟨l2, b2, z1, z2, z3⟩
        · have := look_mem (List.mem_map_of_mem (f := (·.1)) (List.mem_of_getElem? el))
          rw [z] at this
          cases this
        · refine ⟨l2, b2, z2, z3, ?_⟩
          unfold look at z1
          obtain ⟨p, e1, e2⟩ := Option.map_eq_some_iff.mp z1
          exact e2 ▸ (lok p (List.mem_of_find?_eq_some e1)).2.2
      obtain ⟨l2, b2, vv, hb2, lo2⟩ := vv
      have ne : HO.dK (ldV l2) ≠ HO.dK kvs := fun z => by
        injection z with z
        have m : ((Sum.inr l.1 : Key), V.ref b) ∈ ldV l2 := z ▸ List.mem_of_getElem? ek
        unfold ldV at m
        obtain ⟨q, _, eq⟩ := List.mem_map.mp m
        have e2 : V.str q.2 = V.ref b := congrArg Prod.snd eq
        cases e2
      refine ⟨.str l.1, rfl, .str l.1, "str", rfl, str_kd (by have := okS_len o1; omega), fun H8 x8 => ⟨_, rfl, ?_⟩⟩
      have y8 := x7.trans x8
      rw [show isWd (.str l.1) = true from o1]
      refine ⟨.str l.1, rfl, .ref bl, rfl, bl, bs.map V.str, rfl, .inl (lockL y8 sb), rfl, flat_strs bs, _, rfl, ?_⟩
      rw [inV_strs, decide_eq_false nb]
      refine ⟨.ref a, rfl, .str l.1, rfl, a, .ref b2, rfl, vv ▸ .inl ⟨kvs, Sum.inr l.1, .inr ⟨od, ea y8⟩, rfl, rfl⟩, .ref kt, rfl, .bl wh, rfl, b2, kt, l2, vals, wh, rfl, lock_ne ha y8 hb2 ne, lock_sqT ha y8 sk, vl, vo, lo2, fun H9 x9 => ⟨_, rfl, ?_⟩⟩
      exact ⟨_, rfl, y8.trans x9⟩
    · obtain ⟨o3, rfl, x7⟩ := h
      refine ⟨ea x7, Nat.zero_le _, fun p np => ?_⟩
      have xu := Ex.unlock ha x7
      exact hQ p _ (xu.trans (Ex.new np)) (xu.none np) upd_same

end
end TH

/-! A22: o.f as a target; dict comprehensions over any walk; ordered -/
namespace TH
open PySem PySem.Spec PyProof.Rows L2 LamV LamX XK0
open C8 (pss_cut tCut)
/-- o.f = .. -/
def gFld (K : PySem.W.Frag) (ta : TE) (f : Str) : TG := fun v σ H Q => ta σ H fun x H1 => ∃ a C dx fs, x = .ref a ∧ H1 a = some (.ins C dx fs) ∧ Cls K C ∧ NoAttr K C f ∧ fs.length < 1000 ∧ Q σ (upd H1 a (.ins C dx (putF f v fs)))
theorem pg_fld {X : Cx} {o : Expr} {f : Str} {pos : Pos} {ta : TE} (ha : PE X o ta)
    (hb : ∀ v, assign (.Attribute o f pos) X.env v = (do
      let ov ← holding [v] (eval o X.env)
      standAt pos.atName
      holding [v, ov] (setAttr ov f v)
      release [v, ov] []) := by intro _; rfl) : PG X (.Attribute o f pos) (gFld X.K ta f) := by
  refine ⟨fun pins s σ H v u Q I r h => ?_⟩
  rw [hb]
  refine wpAny_bind (wpAny_holding (thn (ha.run pins s σ H _ I h) fun ov s1 ⟨x, H1, I1, rx, a, C, dx, fs, ex, ea, c, n, l, q⟩ => ?_))
  subst ex
  obtain rfl : ov = Value.ref a := rx
  refine wpAny_bind (wpAny_standAt (wpAny_bind (wpAny_holding (setattr_ok I1 ea c n l r fun s2 I2 => ?_))))
  exact wpAny_release ⟨σ, _, I2, q⟩
/-- a dict comprehension over any walk -/
theorem dc_it {J : L2.It} {n : Nat} {G : Hp → Prop} {Y : Nat → Hp → V → Hp → Prop} (w : Walk J n G Y) {g : TG} {tt : TT} {tk tv : TE} {vs : List Nat} {σ : L2.St} {H1 : Hp} {D : Addr} {Qd : Hp → Prop} (Pv : Nat → Hp → Prop) (h0 : Pv 0 (upd H1 D (.dK []))) (hG : ∀ i H, i ≤ n → Pv i H → G H)
    (hs : ∀ i x H H', i < n → Pv i H → Y i H x H' → g x (wipe σ vs) H' fun σ2 H2 => wipe σ2 vs = wipe σ vs ∧ tt σ2 H2 fun b H3 =>
      if b = true then tk σ2 H3 fun y H4 => tv σ2 H4 fun z H5 => ∃ kvs k, y = kV k ∧ H5 D = some (.dK kvs) ∧ kvs.length < sizeLine ∧ Pv (i + 1) (upd H5 D (.dK (putK kvs k z))) else Pv (i + 1) H3) (hd : ∀ H, Pv n H → Qd H) :
    ∃ W : Nat → Nat → Hp → Prop, (∃ m, W 0 m (upd H1 D (.dK []))) ∧ ∀ i m H, W i m H →
      (J.stop i H ∧ Qd H) ∨ (J.go i H ∧ ∃ Nx : Hp → Prop, (∀ H', Nx H' → ∃ m', m' < m ∧ W (i + 1) m' H') ∧ ∀ x H', J.yld i H x H' → g x (wipe σ vs) H' fun σ2 H2 => wipe σ2 vs = wipe σ vs ∧ tt σ2 H2 fun b H3 =>
        if b = true then tk σ2 H3 fun y H4 => tv σ2 H4 fun z H5 => ∃ kvs k, y = kV k ∧ H5 D = some (.dK kvs) ∧ kvs.length < sizeLine ∧ Nx (upd H5 D (.dK (putK kvs k z))) else Nx H3) := by
  refine ⟨fun i m H => m = n - i ∧ i ≤ n ∧ Pv i H, ⟨n, by simp, Nat.zero_le _, h0⟩, ?_⟩
  rintro i m H ⟨rfl, hi, p⟩
  have q := hG i H hi p
  by_cases hlt : i < n
  · exact .inr ⟨w.goes i H hlt q, Pv (i + 1), fun H' p' => ⟨n - (i + 1), by omega, rfl, hlt, p'⟩, fun x H' y => hs i x H H' hlt p (w.yields i H x H' hlt q y)⟩
  · have e : i = n := by omega
    subst e
    exact .inl ⟨w.stops H q, hd H p⟩
/-! ### ordered -/
abbrev sOrdered : Stmt := top 14
def ordL (vals : List Str) (l : Ld) : Ld := vals.filterMap fun v => (lookL l v).map fun g => (v, g)
theorem ordL_snoc (vals : List Str) (v : Str) (l : Ld) : ordL (vals ++ [v]) l = ordL vals l ++ (match lookL l v with | some g => [(v, g)] | none => []) := by
  unfold ordL
  rw [List.filterMap_append]
  congr 1
  cases h : lookL l v <;> simp [h]
theorem ordL_keys {vals : List Str} {l : Ld} {v : Str} (h : v ∈ (ordL vals l).map (·.1)) : v ∈ vals := by
  obtain ⟨q, hq, rfl⟩ := List.mem_map.mp h
  unfold ordL at hq
  obtain ⟨u, hu, e⟩ := List.mem_filterMap.mp hq
  obtain ⟨g, _, rfl⟩ := Option.map_eq_some_iff.mp e
  exact hu
theorem ordL_len (vals : List Str) (l : Ld) : (ordL vals l).length ≤ vals.length := List.length_filterMap_le _ _
theorem ldV_keys (l : Ld) : (ldV l).map (·.1) = (l.map (·.1)).map Sum.inr := by
  unfold ldV
  rw [List.map_map, List.map_map]
  rfl
/-- the inner dict -/
def tIN (K : PySem.W.Frag) : TE := tDc (iList K (tVar 1)) (gName 3) (tTest (tDIn (tVar 3) (tDGet (tVar 0) (tVar 2)))) (tVar 3) (tDGet (tDGet (tVar 0) (tVar 2)) (tVar 3)) [3]
theorem take_fresh {α : Type} {xs : List α} {i : Nat} {x : α} (nd : xs.Nodup) (e : xs[i]? = some x) : x ∉ xs.take i := fun m => by
  have nn := List.nodup_append.mp (show (xs.take i ++ xs.drop i).Nodup by rw [List.take_append_drop]; exact nd)
  refine nn.2.2 _ m _ ?_ rfl
  obtain ⟨lt, e⟩ := List.getElem?_eq_some_iff.mp e
  rw [List.drop_eq_getElem_cons lt, e]
  exact List.mem_cons_self
theorem inner_go {K : PySem.W.Frag} {σ : L2.St} {H : Hp} {Q : VK} {a kl b : Addr} {name : Str} {kvs : List (Key × V)} {l : Ld} {vals : List Str} (len : σ.length = 4) (s0 : σ[0]? = some (some (.ref a))) (s1 : σ[1]? = some (some (.ref kl))) (s2 : σ[2]? = some (some (.str name)))
    (ha : H a = some (.dK kvs)) (hv : valV kvs (Sum.inr name) = some (.ref b)) (hb : H b = some (.dK (ldV l))) (hk : SqL K H kl (vals.map V.str)) (nd : vals.Nodup) (vl : vals.length ≤ 1000)
    (hQ : ∀ (p : Addr) (H' : Hp), Ex H H' → H p = none → H' p = some (.dK (ldV (ordL vals l))) → Q (.ref p) H') : tIN K σ H Q := by
  refine ⟨.ref kl, s1, kl, rfl, ⟨_, hk⟩, fun D nD => ?_⟩
  refine dc_it (walk_list (xs := vals.map V.str)) (fun i H2 => Ex H H2 ∧ H2 D = some (.dK (ldV (ordL (vals.take i) l)))) ⟨Ex.new nD, upd_same⟩ (fun i H2 _ h => h.1.sqL hk) (fun i v H2 H3 hi h y => ?_) fun H2 h => ?_
  · obtain ⟨x2, hD⟩ := h
    obtain ⟨rfl, y⟩ := y
    rw [List.getElem?_map] at y
    obtain ⟨w, ew, rfl⟩ := Option.map_eq_some_iff.mp y
    have a3 : (((wipe σ [3]).set 3 (some (V.str w))))[3]? = some (some (V.str w)) := List.getElem?_set_self (by rw [wipe_length, len]; decide)
    have up : ∀ j, j ≠ 3 → (((wipe σ [3]).set 3 (some (V.str w))))[j]? = σ[j]? := fun j hj => by
      rw [List.getElem?_set_ne hj.symm]
      exact List.getElem?_set_ne hj.symm
    have a0 := (up 0 (by decide)).trans s0
    have a2 := (up 2 (by decide)).trans s2
    have g1 : DGet H3 a (.str name) (some (.ref b)) := hv ▸ DGet.k (k := Sum.inr name) (x2 _ _ ha)
    have g2 : DGet H3 b (.str w) (valV (ldV l) (Sum.inr w)) := DGet.k (k := Sum.inr w) (x2 _ _ hb)
    refine ⟨?_, .str w, a3, .ref a, a0, .str name, a2, a, .ref b, rfl, g1, b, _, rfl, g2, _, rfl, ?_⟩
    · show ((σ.set 3 none).set 3 (some (V.str w))).set 3 none = σ.set 3 none
      rw [List.set_set, List.set_set]
    rw [List.take_add_one, ew, Option.toList_some, ordL_snoc]
    rw [lookL_val] at g2 ⊢
    cases q : lookL l w with
    | none => exact ⟨x2, by rw [List.append_nil]; exact hD⟩
    | some g =>
      rw [q] at g2
      have fr : (Sum.inr w : Key) ∉ (ldV (ordL (vals.take i) l)).map (·.1) := fun z => by
        rw [ldV_keys] at z
        obtain ⟨u, mu, eu⟩ := List.mem_map.mp z
        cases eu
        exact take_fresh nd ew (ordL_keys mu)
      have ln : (ldV (ordL (vals.take i) l)).length ≤ vals.length := by
        unfold ldV
        rw [List.length_map]
        exact Nat.le_trans (ordL_len _ _) (by rw [List.length_take]; exact Nat.min_le_right _ _)
      refine ⟨.str w, a3, .ref a, a0, .str name, a2, a, .ref b, rfl, g1, .str w, a3, b, .str g, rfl, g2, _, Sum.inr w, rfl, hD, by rw [sizeLine_eq]; omega, fun c o e => (upd_ne fun z => by rw [z, nD] at e; cases e).trans (x2 _ _ e), ?_⟩
      rw [upd_same, putK_fresh fr]
      unfold ldV
      rw [List.map_append]
      rfl
  · obtain ⟨x2, hD⟩ := h
    rw [List.length_map, List.take_length] at hD
    exact hQ D H2 x2 nD hD
/-- as PR, none of the dicts being N -/
def PRn (N : Addr) (H : Hp) (lds : Lds) (kvs : List (Key × V)) : Prop := Paired (fun (l : Str × Ld) (kv : Key × V) => kv.1 = Sum.inr l.1 ∧ ∃ b, kv.2 = .ref b ∧ b ≠ N ∧ H b = some (.dK (ldV l.2))) lds kvs
theorem PRn.pr {N : Addr} {H : Hp} {lds : Lds} {kvs : List (Key × V)} (p : PRn N H lds kvs) : PR H lds kvs := Paired.mapP p fun _ _ ⟨e1, b, e2, _, e3⟩ => ⟨e1, b, e2, e3⟩
def ordD (vals : List Str) (lds : Lds) (ns : List Str) : Lds := ns.map fun n => (n, ordL vals ((look lds n).getD []))
def spOrdered (K : PySem.W.Frag) : Sp := fun vs H Q _ => ∃ (a kl : Addr) (lds : Lds) (vals : List Str), vs = [.ref a, .ref kl] ∧ DD H a lds ∧ (lds.map (·.1)).Nodup ∧ lds.length < 64 ∧ SqL K H kl (vals.map V.str) ∧ vals.Nodup ∧ vals.length ≤ 1000 ∧
  ∀ (p : Addr) (H' : Hp) (ns : List Str), ns.Perm (lds.map (·.1)) → sortedS ns = true → Ex H H' → H p = none → DD H' p (ordD vals lds ns) → Q (.ref p) H'
section
variable {P : Program} {w : World} {K : PySem.W.Frag} {mg : Str → Option Value} {base : Heap} {f C CN CB : Addr} {fd : FuncData}
theorem scOrdered : FnScope ["leads", "known", "name", "value"] ["leads", "known"] (defScope sOrdered) := ⟨rfl, rfl, rfl, by decide +kernel, rfl, by decide +kernel, by decide +kernel⟩
theorem ok_ordered (F : FnP K "ordered" sOrdered f fd) (gs : mg "sorted" = none) : FnOk P w K mg base CX0 1 f fd ["leads", "known"] (spOrdered K) := by
  refine F.ok scOrdered (fun vs H Q E h => ?_) (fun cdv A outer s H vs Q E hr h => ?_)
  · obtain ⟨a, kl, lds, vals, rfl, _⟩ := h
    rfl
  · have hu := hu_of hr
    refine ⟨_, PSs.nox (pss_one (ps_ret (pe_dc (own := [("name", 2)]) (tk := tVar 2) (tv := tIN K) rfl scOrdered.nd (pi_list (pe_callB (call_sortedD rfl) rfl gs boot_sorted (pa_cons (pv 0) pa_nil))) (blkOk_by (by kernel_rfl)) (fun s H C cl fp => pg_name (i := 2) scOrdered.nd rfl (.inr rfl) (.inl rfl)) (fun s H C cl fp => pts_nil) (fun s H C cl fp => pv 2)
      (fun s H C cl fp => pe_dc (own := [("value", 3)]) (tt := tTest (tDIn (tVar 3) (tDGet (tVar 0) (tVar 2)))) (tk := tVar 3) (tv := tDGet (tDGet (tVar 0) (tVar 2)) (tVar 3)) rfl scOrdered.nd (pi_list (pv 1)) (blkOk_by (by kernel_rfl)) (fun s H C cl fp => pg_name (i := 3) scOrdered.nd rfl (.inl rfl) (.inr rfl))
        (fun s H C cl fp => pts_one (pt_cmp (pc_din hu (pv 3) (pe_dget hu (pv 0) (pv 2) (fun _ _ => rfl))))) (fun s H C cl fp => pv 3) (fun s H C cl fp => pe_dget hu (pe_dget hu (pv 0) (pv 2) (fun _ _ => rfl)) (pv 3) (fun _ _ => rfl)))))), ?_⟩
    obtain ⟨a, kl, lds, vals, rfl, ⟨kvs, ha, pr⟩, knd, kln, sk, nd, vl, hQ⟩ := h
    refine ⟨.ref a, rfl, a, kvs, lds.map (·.1), rfl, .inl ha, PR.keys pr, by rw [List.length_map]; exact kln, fun ns q pm so nq => ?_⟩
    have x1 : Ex H (upd H q (.lst (ns.map V.str))) := Ex.new nq
    have hq : upd H q (.lst (ns.map V.str)) q = some (.lst (ns.map V.str)) := upd_same
    generalize upd H q (.lst (ns.map V.str)) = H1 at x1 hq ⊢
    refine ⟨q, rfl, ⟨_, .inl (.inl hq)⟩, fun D nD => ?_⟩
    have nnd : ns.Nodup := pm.nodup_iff.mpr knd
    have nln : ns.length < 64 := by rw [pm.length_eq, List.length_map]; exact kln
    refine dc_it (walk_list (xs := ns.map V.str)) (fun i H2 => Ex H1 H2 ∧ ∃ ks, H2 D = some (.dK ks) ∧ PRn D H2 (ordD vals lds (ns.take i)) ks) ⟨Ex.new nD, [], upd_same, .nil⟩ (fun i H2 _ h => .inl (.inl (h.1 _ _ hq))) (fun i v H2 H3 hi h y => ?_) fun H2 h => ?_
    · obtain ⟨x2, ks, hD, pk⟩ := h
      obtain ⟨rfl, y⟩ := y
      rw [List.getElem?_map] at y
      obtain ⟨n, en, rfl⟩ := Option.map_eq_some_iff.mp y
      have y2 := x1.trans x2
      have mn : n ∈ lds.map (·.1) := pm.mem_iff.mp (List.mem_of_getElem? en)
      rcases look_val pr n with ⟨z, _⟩ | ⟨l, b, z1, z2, z3⟩
      · have := look_mem mn
        rw [z] at this
        cases this
      · refine ⟨rfl, .str n, rfl, ?_⟩
        refine inner_go (b := b) (l := l) rfl rfl rfl rfl (y2 _ _ ha) z2 (y2 _ _ z3) (y2.sqL sk) nd vl fun p H4 x4 np hp => ?_
        have fr : (Sum.inr n : Key) ∉ ks.map (·.1) := fun z => by
          rw [pk.pr.keys] at z
          obtain ⟨u, mu, eu⟩ := List.mem_map.mp z
          cases eu
          unfold ordD at mu
          rw [List.map_map] at mu
          obtain ⟨u, m2, e2⟩ := List.mem_map.mp mu
          have e2 : u = n := e2
          subst e2
          exact take_fresh nnd en m2
        have kl2 : ks.length < 64 := by
          have e := congrArg List.length pk.pr.keys
          unfold ordD at e
          simp only [List.length_map, List.length_take] at e
          omega
        have pD : p ≠ D := fun z => by rw [z, hD] at np; cases np
        refine ⟨ks, Sum.inr n, rfl, x4 _ _ hD, by rw [sizeLine_eq]; omega, fun c o e => (upd_ne fun z => by rw [z, nD] at e; cases e).trans (x4 _ _ (x2 _ _ e)), _, upd_same, ?_⟩
        rw [putK_fresh fr, List.take_add_one, en, Option.toList_some]
        unfold ordD
        rw [List.map_append]
        refine paired_app (Paired.mapP pk fun l' kv ⟨q1, b', q2, q4, q3⟩ => ⟨q1, b', q2, q4, (upd_ne q4).trans (x4 _ _ q3)⟩) ⟨rfl, p, rfl, pD, (upd_ne pD).trans ?_⟩
        rw [hp]
        show _ = some (HO.dK (ldV (ordL vals ((look lds n).getD []))))
        rw [z1]
        rfl
    · obtain ⟨x2, ks, hD, pk⟩ := h
      rw [List.length_map, List.take_length] at pk
      exact hQ D H2 ns pm so (x1.trans x2) (x1.none nD) ⟨ks, hD, pk.pr⟩
end
end TH

/-! A23: Thing.__init__ of right parts, _law_made -/
namespace TH
open PySem PySem.Spec PyProof.Rows L2 LamV LamX XK0
open C8 (pss_cut tCut)
abbrev sInit : Stmt := inClass (top 15) 0
/-- all but p stands -/
def ExA (p : Addr) (H H' : Hp) : Prop := ∀ b o, b ≠ p → H b = some o → H' b = some o
theorem Ex.exA {p : Addr} {H H' : Hp} (x : Ex H H') : ExA p H H' := fun b o _ e => x b o e
theorem ExA.trans {p : Addr} {H H1 H2 : Hp} (x : ExA p H H1) (y : ExA p H1 H2) : ExA p H H2 := fun b o n e => y b o n (x b o n e)
theorem ExA.upd {p : Addr} {H : Hp} {o : HO} : ExA p H (upd H p o) := fun b _ n e => (upd_ne n).trans e
theorem ExA.non {p b : Addr} {H H' : Hp} {o u : HO} (x : ExA p H H') (hp : H p = some u) (h : H b = some o) (n : o ≠ u) : H' b = some o := x b o (fun z => n (by rw [z, hp] at h; exact (Option.some.inj h).symm)) h
theorem ExA.sqL {K : PySem.W.Frag} {p a : Addr} {H H' : Hp} {C dx : Addr} {fs : List (Str × V)} {xs : List V} (x : ExA p H H') (hp : H p = some (.ins C dx fs)) (h : SqL K H a xs) : SqL K H' a xs := h.imp (Or.imp (fun z => x.non hp z fun q => nomatch q) fun ⟨o, z⟩ => ⟨o, x.non hp z fun q => nomatch q⟩) id
theorem ExA.sqT {K : PySem.W.Frag} {p a : Addr} {H H' : Hp} {C dx : Addr} {fs : List (Str × V)} {xs : List V} (x : ExA p H H') (hp : H p = some (.ins C dx fs)) (h : SqT K H a xs) : SqT K H' a xs := h.imp (Or.imp (fun z => x.non hp z fun q => nomatch q) fun ⟨o, z⟩ => ⟨o, x.non hp z fun q => nomatch q⟩) id
theorem DD.exA {p a : Addr} {H H' : Hp} {C dx : Addr} {fs : List (Str × V)} {ls : Lds} (x : ExA p H H') (hp : H p = some (.ins C dx fs)) (h : DD H a ls) : DD H' a ls := by
  obtain ⟨kvs, e, q⟩ := h
  exact ⟨kvs, x.non hp e (fun z => nomatch z), Paired.mapP q fun _ _ ⟨e1, b, e2, e3⟩ => ⟨e1, b, e2, x.non hp e3 fun z => nomatch z⟩⟩
theorem putF_new {f : Str} {v : V} : ∀ {fs : List (Str × V)}, f ∉ fs.map (·.1) → putF f v fs = fs ++ [(f, v)]
  | [], _ => rfl
  | (g, x) :: r, h => by
    simp only [List.map_cons, List.mem_cons, not_or] at h
    show (if g = f then (g, v) :: r else (g, x) :: putF f v r) = _
    rw [if_neg fun z => h.1 z.symm, putF_new h.2]
    rfl
/-- parts that Thing takes -/
structure ThD.Fit (d : ThD) : Prop where
  vne : d.vals ≠ []
  vok : ∀ x ∈ d.vals, okS x = true
  vnd : d.vals.Nodup
  vln : d.vals.length ≤ 60
  st : d.start ∈ d.vals
  dln : d.deeds.length < 60
  eln : d.ents.length < 60
  dnd : (d.deeds.map (·.1)).Nodup
  end_ : (d.ents.map (·.1)).Nodup
  dok : ∀ l ∈ d.deeds, okS l.1 = true ∧ LeadOk d.vals true l.2
  eok : ∀ l ∈ d.ents, okS l.1 = true ∧ l.1 ∉ d.deeds.map (·.1) ∧ LeadOk d.vals false l.2
/-- the thing made of such parts: names in order, values in theirs -/
def IsOrd (d d' : ThD) : Prop := ∃ ns ms, ns.Perm (d.deeds.map (·.1)) ∧ sortedS ns = true ∧ ms.Perm (d.ents.map (·.1)) ∧ sortedS ms = true ∧ d' = ⟨d.vals, d.start, ordD d.vals d.deeds ns, ordD d.vals d.ents ms⟩
def spInit (K : PySem.W.Frag) (C : Addr) : Sp := fun vs H Q _ => ∃ (p dx vl dd de : Addr) (d : ThD), vs = [.ref p, .ref vl, .str d.start, .ref dd, .ref de] ∧ H p = some (.ins C dx []) ∧ SqL K H vl (d.vals.map V.str) ∧ DD H dd d.deeds ∧ DD H de d.ents ∧ d.Fit ∧
  ∀ (H' : Hp) (d' : ThD), ExA p H H' → IsTh H' C p d' → IsOrd d d' → Q .non H'
section
variable {P : Program} {w : World} {K : PySem.W.Frag} {mg : Str → Option Value} {base : Heap} {f C CN CB : Addr} {fd : FuncData}
theorem scInit : FnScope ["self", "values", "start", "deeds", "entries", "index", "wrong"] ["self", "values", "start", "deeds", "entries"] (defScope sInit) := ⟨rfl, rfl, rfl, by decide +kernel, rfl, by decide +kernel, by decide +kernel⟩
def f2 (a b : V) : List (Str × V) := [("kept_values", a), ("kept_start", b)]
def f4 (a b c d : V) : List (Str × V) := [("kept_values", a), ("kept_start", b), ("kept_deeds", c), ("kept_entries", d)]
theorem flds2 (a b : V) : putF "kept_start" b (putF "kept_values" a []) = f2 a b := by
  have n1 : ("kept_start" : Str) ∉ ([("kept_values" : Str)] : List Str) := by decide +kernel
  exact putF_new (fs := [(("kept_values" : Str), a)]) n1
theorem flds4 (a b c d : V) : putF "kept_entries" d (putF "kept_deeds" c (f2 a b)) = f4 a b c d := by
  have n2 : ("kept_deeds" : Str) ∉ ([("kept_values" : Str), "kept_start"] : List Str) := by decide +kernel
  have n3 : ("kept_entries" : Str) ∉ ([("kept_values" : Str), "kept_start", "kept_deeds"] : List Str) := by decide +kernel
  rw [putF_new (f := "kept_deeds") (fs := f2 a b) n2]
  exact putF_new (fs := f2 a b ++ [(("kept_deeds" : Str), c)]) n3
theorem ok_init (F : FunD K "__init__" "Thing.__init__" (defArgs sInit) (defBody sInit) (defScope sInit) [] [] f fd) (T : ThC K C) (FB : Has P w K mg base "first_bad_word" 2 ["things", "barred"] (spFirstBad K)) (FW : Has P w K mg base "is_word" 1 ["thing"] (spIsWord K)) (FR : Has P w K mg base "first_wrong" 3 ["leads", "known", "barred", "is_whole"] (spFirstWrong K)) (FO : Has P w K mg base "ordered" 1 ["leads", "known"] (spOrdered K)) (gn : mg "len" = none) (gt : mg "tuple" = none) (gl : mg "list" = none) :
    FnOk P w K mg base CX0 4 f fd ["self", "values", "start", "deeds", "entries"] (spInit K C) := by
  refine F.ok scInit (fun vs H Q E h => ?_) (fun cdv A outer s H vs Q E hr h => ?_)
  · obtain ⟨p, dx, vl, dd, de, d, rfl, _⟩ := h
    rfl
  · have hu := hu_of hr
    refine ⟨_, PSs.nox (pss_cons (ps_set (i := 5) scInit.nd rfl (.inl rfl) (pe_has FB hr (by decide) rfl (pa_cons (pv 1) (pa_cons (pe_lst pa_nil) pa_nil))))
      (pss_cons (ps_if (PW.pt (pw_or (pt_cmp (pc_notN (pv 5))) (pw_or1 (pt_cmp (pc_eqI (pe_callB call_len rfl gn boot_len (pa_cons (pv 1) pa_nil)) pe_int))))) (pss_one ps_dead) pss_nil)
      (pss_cons (ps_if (PW.pt (pw_or (pt_not (pt_val (pe_has FW hr (by decide) rfl (pa_cons (pv 2) pa_nil)))) (pw_or1 (pt_cmpR op_notIn_seq (pv 2) (pv 1) (by with_unfolding_all rfl))))) (pss_one ps_dead) pss_nil)
      (pss_cons (ps_asg (pe_tup (pa_cons (pe_callTy call_tuple_of rfl gt boot_tuple (pa_cons (pv 1) pa_nil)) (pa_cons (pv 2) pa_nil))) (pg_tup rfl (pgs_cons (pg_fld (pv 0)) (pgs_cons (pg_fld (pv 0)) pgs_nil))))
      (pss_cons (ps_set (i := 6) scInit.nd rfl (.inl rfl) (pe_has FR hr (by decide) rfl (pa_cons (pv 3) (pa_cons (pe_fld (pv 0) rfl) (pa_cons (pe_lst pa_nil) (pa_cons pe_bl pa_nil))))))
      (pss_cons (ps_if (pt_cmpR (op_neD hr.units) (pv 6) (pe_lst pa_nil) (nomark _)) (pss_one ps_dead) pss_nil)
      (pss_cons (ps_set (i := 6) scInit.nd rfl (.inl rfl) (pe_has FR hr (by decide) rfl (pa_cons (pv 4) (pa_cons (pe_fld (pv 0) rfl) (pa_cons (pe_callTy (call_listD rfl) rfl gl boot_list (pa_cons (pv 3) pa_nil)) (pa_cons pe_bl pa_nil))))))
      (pss_cons (ps_if (pt_cmpR (op_neD hr.units) (pv 6) (pe_lst pa_nil) (nomark _)) (pss_one ps_dead) pss_nil)
      (pss_one (ps_asg (pe_tup (pa_cons (pe_has FO hr (by decide) rfl (pa_cons (pv 3) (pa_cons (pv 1) pa_nil))) (pa_cons (pe_has FO hr (by decide) rfl (pa_cons (pv 4) (pa_cons (pv 1) pa_nil))) pa_nil))) (pg_tup rfl (pgs_cons (pg_fld (pv 0)) (pgs_cons (pg_fld (pv 0)) pgs_nil))))))))))))), ?_⟩
    obtain ⟨p, dx, vl, dd, de, d, rfl, hp, sv, hdd, hde, ft, hQ⟩ := h
    refine ⟨.ref vl, rfl, Nat.zero_le _, fun e0 n0 => ?_⟩
    have x0 : Ex H (upd H e0 (.lst [])) := Ex.new n0
    refine ⟨.ref vl, e0, rfl, upd_same, .inr ⟨vl, d.vals.map V.str, rfl, .inl (x0.sqL sv), by rw [List.length_map]; have := ft.vln; omega, fun v m => ?_, fun H1 x1 => ?_⟩⟩
    · obtain ⟨x, mx, rfl⟩ := List.mem_map.mp m
      exact ⟨_, str_kd (by have := okS_len (ft.vok x mx); omega)⟩
    have fn : fbw (d.vals.map V.str) [] 0 = none := fbw_none d.vals [] 0 ft.vok ft.vnd fun _ _ z => nomatch z
    rw [fn]
    have y1 := x0.trans x1
    have vpos : 0 < d.vals.length := List.length_pos_iff.mpr ft.vne
    refine ⟨.non, rfl, _, rfl, .ref vl, rfl, .ref vl, d.vals.length, rfl, .inl ⟨_, y1.sqL sv, by rw [List.length_map]⟩, d.vals.length, 0, rfl, rfl, false, congrArg V.bl (decide_eq_false (by omega)), ?_⟩
    refine ⟨.str d.start, rfl, .str d.start, "str", rfl, str_kd (by have := okS_len (ft.vok _ ft.st); omega), fun H2 x2 => ⟨_, rfl, ?_⟩⟩
    have y2 := y1.trans x2
    rw [show isWd (.str d.start) = true from ft.vok _ ft.st]
    refine ⟨.str d.start, rfl, .ref vl, rfl, vl, _, rfl, .inl (y2.sqL sv), rfl, flat_strs _, _, rfl, ?_⟩
    rw [inV_strs, decide_eq_true ft.st]
    refine ⟨.ref vl, rfl, vl, _, rfl, .inl ⟨y2.sqL sv, fun vt nvt => ⟨.str d.start, rfl, by show 2 ≤ sizeLine; decide, fun tp ntp => ?_⟩⟩⟩
    have y3 : Ex H2 (upd (upd H2 vt (.tup (d.vals.map V.str))) tp (.tup [.ref vt, .str d.start])) := (Ex.new nvt).trans (Ex.new ntp)
    have hvt : upd (upd H2 vt (.tup (d.vals.map V.str))) tp (.tup [.ref vt, .str d.start]) vt = some (.tup (d.vals.map V.str)) := (Ex.new ntp) _ _ upd_same
    have htp : upd (upd H2 vt (.tup (d.vals.map V.str))) tp (.tup [.ref vt, .str d.start]) tp = some (.tup [.ref vt, .str d.start]) := upd_same
    generalize upd (upd H2 vt (.tup (d.vals.map V.str))) tp (.tup [.ref vt, .str d.start]) = H3 at y3 hvt htp ⊢
    have z3 := y2.trans y3
    have hp3 := z3 _ _ hp
    refine ⟨tp, _, rfl, .inl (.inl htp), rfl, .ref vt, _, rfl, .ref p, rfl, p, C, dx, _, rfl, hp3, T.cls, T.vals, by decide, .str d.start, [], rfl, .ref p, rfl, p, C, dx, _, rfl, upd_same, T.cls, T.start, by show 1 < 1000; decide, rfl, ?_⟩
    have xa : ExA p H (upd (upd H3 p (.ins C dx (putF "kept_values" (.ref vt) []))) p (.ins C dx (putF "kept_start" (.str d.start) (putF "kept_values" (.ref vt) [])))) := (z3.exA.trans ExA.upd).trans ExA.upd
    have hp4 : upd (upd H3 p (.ins C dx (putF "kept_values" (.ref vt) []))) p (.ins C dx (putF "kept_start" (.str d.start) (putF "kept_values" (.ref vt) []))) p = _ := upd_same
    have hvt4 : upd (upd H3 p (.ins C dx (putF "kept_values" (.ref vt) []))) p (.ins C dx (putF "kept_start" (.str d.start) (putF "kept_values" (.ref vt) []))) vt = some (.tup (d.vals.map V.str)) := ((ExA.upd (p := p) (H := H3)).trans ExA.upd).non hp3 hvt fun q => nomatch q
    generalize upd (upd H3 p (.ins C dx (putF "kept_values" (.ref vt) []))) p (.ins C dx (putF "kept_start" (.str d.start) (putF "kept_values" (.ref vt) []))) = H4 at xa hp4 hvt4 ⊢
    rw [flds2] at hp4
    have S4 : ∀ {Hx}, Ex H4 Hx → Hx p = some (.ins C dx (f2 (.ref vt) (.str d.start))) ∧ Hx vt = some (.tup (d.vals.map V.str)) ∧ SqL K Hx vl (d.vals.map V.str) ∧ DD Hx dd d.deeds ∧ DD Hx de d.ents := fun x => ⟨x _ _ hp4, x _ _ hvt4, x.sqL (xa.sqL hp sv), (hdd.exA xa hp).ex x, (hde.exA xa hp).ex x⟩
    clear hvt htp hvt4
    refine ⟨.ref dd, rfl, .ref p, rfl, p, C, dx, _, .ref vt, rfl, hp4, T.cls, T.vals, rfl, Nat.zero_le _, fun e1 ne1 => ?_⟩
    have w1 : Ex H4 (upd H4 e1 (.lst [])) := Ex.new ne1
    obtain ⟨a1, a2, a3, a4, a5⟩ := S4 w1
    refine ⟨dd, vt, e1, d.deeds, d.vals, [], true, rfl, a4, .inl (.inl a2), .inl (.inl upd_same), by have := ft.vln; omega, ft.vok, fun l m => ⟨(ft.dok l m).1, fun z => (nomatch z), (ft.dok l m).2⟩, fun q1 H5 x5 nq1 hq1 => ?_⟩
    have w2 := w1.trans x5
    refine ⟨.ref q1, rfl, Nat.zero_le _, fun e2 n2 => ⟨.list [], .list [], .lst (.inl (.inl ((Ex.new n2) _ _ hq1))) .nil, .lst (.inl (.inl upd_same)) .nil, rfl, rfl, false, rfl, ?_⟩⟩
    have w3 := w2.trans (Ex.new (o := .lst []) n2)
    obtain ⟨b1, b2, b3, b4, b5⟩ := S4 w3
    obtain ⟨kvs, hk, pk⟩ := id b4
    have ek := DD.keys pk fun _ _ r => r.1
    refine ⟨.ref de, rfl, .ref p, rfl, p, C, dx, _, .ref vt, rfl, b1, T.cls, T.vals, rfl, .ref dd, rfl, dd, kvs, rfl, .inl hk, fun bl nbl => ?_⟩
    rw [ek, show (d.deeds.map fun l => V.str l.1) = (d.deeds.map (·.1)).map V.str by rw [List.map_map]; rfl]
    have w4 := w3.trans (Ex.new (o := .lst ((d.deeds.map (·.1)).map V.str)) nbl)
    obtain ⟨c1, c2, c3, c4, c5⟩ := S4 w4
    refine ⟨de, vt, bl, d.ents, d.vals, d.deeds.map (·.1), false, rfl, c5, .inl (.inl c2), .inl (.inl upd_same), by have := ft.vln; omega, ft.vok, ft.eok, fun q2 H6 x6 nq2 hq2 => ?_⟩
    have w5 := w4.trans x6
    refine ⟨.ref q2, rfl, Nat.zero_le _, fun e3 n3 => ⟨.list [], .list [], .lst (.inl (.inl ((Ex.new n3) _ _ hq2))) .nil, .lst (.inl (.inl upd_same)) .nil, rfl, rfl, false, rfl, ?_⟩⟩
    have w6 := w5.trans (Ex.new (o := .lst []) n3)
    obtain ⟨d1, d2, d3, d4, d5⟩ := S4 w6
    refine ⟨.ref dd, rfl, .ref vl, rfl, dd, vl, d.deeds, d.vals, rfl, d4, ft.dnd, by have := ft.dln; omega, d3, ft.vnd, by have := ft.vln; omega, fun r1 H7 ns pm so x7 nr1 hr1 => ?_⟩
    have w7 := w6.trans x7
    obtain ⟨g1, g2, g3, g4, g5⟩ := S4 w7
    refine ⟨.ref de, rfl, .ref vl, rfl, de, vl, d.ents, d.vals, rfl, g5, ft.end_, by have := ft.eln; omega, g3, ft.vnd, by have := ft.vln; omega, fun r2 H8 ms pm2 so2 x8 nr2 hr2 => ?_⟩
    refine ⟨by show 2 ≤ sizeLine; decide, fun tq ntq => ?_⟩
    have w8 := (w7.trans x8).trans (Ex.new (o := .tup [.ref r1, .ref r2]) ntq)
    have htq : upd H8 tq (.tup [.ref r1, .ref r2]) tq = some (.tup [.ref r1, .ref r2]) := upd_same
    have hr1' := (hr1.ex x8).ex (Ex.new (o := .tup [.ref r1, .ref r2]) ntq)
    have hr2' := hr2.ex (Ex.new (o := .tup [.ref r1, .ref r2]) ntq)
    obtain ⟨i1, i2, i3, i4, i5⟩ := S4 w8
    generalize upd H8 tq (.tup [.ref r1, .ref r2]) = H9 at w8 htq hr1' hr2' i1 i2 i3 i4 i5 ⊢
    refine ⟨tq, _, rfl, .inl (.inl htq), rfl, .ref r1, _, rfl, .ref p, rfl, p, C, dx, _, rfl, i1, T.cls, T.deeds, by show 2 < 1000; decide, .ref r2, [], rfl, .ref p, rfl, p, C, dx, _, rfl, upd_same, T.cls, T.ents, by show 3 < 1000; decide, rfl, ?_⟩
    have xF : ExA p H9 (upd (upd H9 p (.ins C dx (putF "kept_deeds" (.ref r1) (f2 (.ref vt) (.str d.start))))) p (.ins C dx (putF "kept_entries" (.ref r2) (putF "kept_deeds" (.ref r1) (f2 (.ref vt) (.str d.start)))))) := ExA.upd.trans ExA.upd
    refine hQ _ ⟨d.vals, d.start, ordD d.vals d.deeds ns, ordD d.vals d.ents ms⟩ ((xa.trans w8.exA).trans xF) ⟨dx, vt, r1, r2, ?_, xF.non i1 i2 (fun z => nomatch z), hr1'.exA xF i1, hr2'.exA xF i1⟩ ⟨ns, ms, pm, so, pm2, so2, rfl⟩
    rw [flds4]
    exact upd_same
/-- the thing of the parts -/
def spMade (K : PySem.W.Frag) (C : Addr) : Sp := fun vs H Q _ => ∃ (pt : Addr) (d : ThD), vs = [.ref pt] ∧ IsPt H pt d ∧ d.Fit ∧ ∀ (t : Addr) (H' : Hp) (d' : ThD), Ex H H' → H t = none → IsTh H' C t d' → IsOrd d d' → Q (.ref t) H'
end
end TH

/-! O1: a dict whose keys are of many kinds: None, numbers, texts, tuples of such -/
namespace OD
open PySem PySem.Spec
/-- the entries es are of the keys ks -/
def EntK (w : World) (h : Heap) (es : Array DictEntry) (ks : List NestedKey) : Prop :=
  es.size = ks.length ∧ ∀ (i : Nat) (e : DictEntry), es[i]? = some e → ∃ k, ks[i]? = some k ∧ NestedIs h k e.key ∧ e.hash = k.hash w ∧ k.depth ≤ 8
section
variable {prog : Program} {w : World} {A : Around} {E : Value → Shared → Prop} {s : Shared} {d : Addr} {o : Obj} {es : Array DictEntry} {ep : Nat} {key : Value} {k : NestedKey} {ks : List NestedKey}
abbrev plc (w : World) (es : Array DictEntry) (k : NestedKey) : List Nat := placesWithHash es.size (fun j => es[j]?.map (·.hash)) (k.hash w)
/-- how far the search has come at place i -/
def Seen (ks : List NestedKey) (k : NestedKey) (i : Nat) (hit : Option Nat) : Prop := (hit = none ∧ ∀ j, j < i → ks[j]? ≠ some k) ∨ ∃ j, hit = some j ∧ j < i ∧ ks[j]? = some k
theorem seen_end {i : Nat} {hit : Option Nat} (nd : ks.Nodup) (x : Seen ks k i hit) (far : ∀ j, i ≤ j → ks[j]? ≠ some k) : hit = ks.findIdx? fun y => decide (y = k) := by
  rcases x with ⟨rfl, no⟩ | ⟨j, rfl, _, e⟩
  · symm
    refine List.findIdx?_eq_none_iff.mpr fun y my => ?_
    obtain ⟨j, e⟩ := List.getElem?_of_mem my
    refine decide_eq_false fun z => ?_
    subst z
    by_cases l : j < i
    · exact no j l e
    · exact far j (by omega) e
  · symm
    obtain ⟨lt, e2⟩ := List.getElem?_eq_some_iff.mp e
    refine List.findIdx?_eq_some_iff_getElem.mpr ⟨lt, decide_eq_true e2, fun i hi => ?_⟩
    simp only [decide_eq_true_eq]
    intro z
    have := (List.getElem?_inj (i := i) (j := j) (by omega) nd).mp (by rw [List.getElem?_eq_getElem (by omega), List.getElem?_eq_getElem lt, z, e2])
    omega
theorem tells_not {stored : List Value} {Q : Bool → Shared → Prop} (is : NestedIs s.heap k key) (dp : k.depth ≤ 8) (st : ∀ v ∈ stored, ∃ y : NestedKey, NestedIs s.heap y v ∧ y.depth ≤ 8) (q : Q false s) : wpAny (model prog w) A (tableMayTell key stored) Q E s := by
  unfold tableMayTell
  split
  · exact wpAny_pure q
  · refine wpAny_bind (quiet_key k key 8 s is dp A _ _ ?_)
    simp only [Bool.not_true, Bool.false_eq_true, if_false]
    refine wpAny_bind (wpAny_forIn_list _ (fun rest r t => t = s ∧ r = (none, ()) ∧ ∀ v ∈ rest, ∃ y : NestedKey, NestedIs s.heap y v ∧ y.depth ≤ 8) _ (fun v rest r t ⟨et, er, all⟩ => ?_) (fun r t ⟨et, er, _⟩ => ?_) _ _ ⟨rfl, rfl, st⟩)
    · subst et er
      obtain ⟨y, iy, dy⟩ := all v List.mem_cons_self
      refine wpAny_bind (quiet_key y v 8 _ iy dy A _ _ ?_)
      simp only [Bool.not_true, Bool.false_eq_true, if_false]
      exact wpAny_pure ⟨rfl, rfl, fun u mu => all u (List.mem_cons_of_mem _ mu)⟩
    · subst et er
      exact wpAny_pure q
theorem stored_keys (ek : EntK w s.heap es ks) : ∀ v ∈ (plc w es k).filterMap (fun j => es[j]?.map (·.key)), ∃ y : NestedKey, NestedIs s.heap y v ∧ y.depth ≤ 8 := fun v mv => by
  obtain ⟨j, _, e⟩ := List.mem_filterMap.mp mv
  obtain ⟨en, e1, e2⟩ := Option.map_eq_some_iff.mp e
  subst e2
  obtain ⟨y, _, i1, _, dy⟩ := ek.2 j en e1
  exact ⟨y, i1, dy⟩
theorem no_place (ek : EntK w s.heap es ks) {j : Nat} (h : ks[j]? = some k) : ((es[j]?.map (·.hash)) == some (k.hash w)) = true := by
  have lt : j < es.size := by rw [ek.1]; exact (List.getElem?_eq_some_iff.mp h).1
  obtain ⟨y, e1, _, e2, _⟩ := ek.2 j es[j] (Array.getElem?_eq_getElem lt)
  rw [h] at e1
  cases e1
  rw [Array.getElem?_eq_getElem lt, Option.map_some, e2]
  exact beq_self_eq_true _
/-- a step of the search -/
theorem seen_step {i x : Nat} {hit : Option Nat} (ek : EntK w s.heap es ks) (sn : Seen ks k i hit) (ix : i ≤ x) (skip : ∀ j, i ≤ j → j < x → ((es[j]?.map (·.hash)) == some (k.hash w)) = false) : Seen ks k x hit := by
  rcases sn with ⟨h0, no⟩ | ⟨j, h1, h2, h3⟩
  · refine .inl ⟨h0, fun j jx e => ?_⟩
    by_cases l : j < i
    · exact no j l e
    · have := skip j (by omega) jx
      rw [no_place ek e] at this
      cases this
  · exact .inr ⟨j, h1, by omega, h3⟩
theorem seen_more {x : Nat} {hit : Option Nat} {y : NestedKey} (sn : Seen ks k x hit) (e : ks[x]? = some y) (ne : y ≠ k) : Seen ks k (x + 1) hit := by
  rcases sn with ⟨h0, no⟩ | ⟨j, h1, h2, h3⟩
  · refine .inl ⟨h0, fun j jx e2 => ?_⟩
    by_cases l : j < x
    · exact no j l e2
    · have : j = x := by omega
      subst this
      rw [e] at e2
      exact ne (Option.some.inj e2)
  · exact .inr ⟨j, h1, by omega, h3⟩
/-- what is known at each turn of a search -/
def Turn1 (w : World) (es : Array DictEntry) (ks : List NestedKey) (k : NestedKey) (rest : List Nat) (hit : Option Nat) : Prop :=
  ∃ i, rest = (List.range' i (es.size - i)).filter (fun j => (es[j]?.map (·.hash)) == some (k.hash w)) ∧ i ≤ es.size ∧ Seen ks k i hit
theorem turn_first : Turn1 w es ks k (plc w es k) none := ⟨0, by unfold plc; rw [placesWithHash, List.range_eq_range', Nat.sub_zero], Nat.zero_le _, .inl ⟨rfl, fun _ h => absurd h (Nat.not_lt_zero _)⟩⟩
theorem turn_last {hit : Option Nat} (ek : EntK w s.heap es ks) (nd : ks.Nodup) (t : Turn1 w es ks k [] hit) : hit = ks.findIdx? fun y => decide (y = k) := by
  obtain ⟨i, e, le, sn⟩ := t
  refine seen_end nd sn fun j ij ej => ?_
  have z := no_place ek ej
  have lt : j < es.size := by rw [ek.1]; exact (List.getElem?_eq_some_iff.mp ej).1
  have := List.filter_eq_nil_iff.mp e.symm j (List.mem_range'_1.mpr ⟨ij, by omega⟩)
  exact this z
theorem turn_next {x : Nat} {rest : List Nat} {hit : Option Nat} (ek : EntK w s.heap es ks) (t : Turn1 w es ks k (x :: rest) hit) : x < es.size ∧ Seen ks k x hit ∧ ∀ hit', Seen ks k (x + 1) hit' → Turn1 w es ks k rest hit' := by
  obtain ⟨i, e, le, sn⟩ := t
  obtain ⟨h1, h2, h3, h4, h5⟩ := filter_range'_cons _ _ _ _ _ e.symm
  have lt : x < es.size := by omega
  refine ⟨lt, seen_step ek sn h1 h4, fun hit' sn' => ⟨x + 1, ?_, lt, sn'⟩⟩
  rw [h5]
  congr 2
  omega
end
end OD

/-! O2: finding a key -/
namespace OD
open PySem PySem.Spec
section
variable {prog : Program} {w : World} {A : Around} {E : Value → Shared → Prop} {s : Shared} {d : Addr} {o : Obj} {es : Array DictEntry} {ep : Nat} {key : Value} {k : NestedKey} {ks : List NestedKey}
theorem walk_plain {Q : Option Nat → Shared → Prop} (room : A.units + 8 < cLine) (is : NestedIs s.heap k key) (dp : k.depth ≤ 8) (oh : s.heap.get? d = some o) (dh : o.data = .dict es ep) (ek : EntK w s.heap es ks) (nd : ks.Nodup)
    (q : Q (ks.findIdx? fun y => decide (y = k)) s) : wpAny (model prog w) A (dictWalkPlain d key (k.hash w) es (plc w es k)) Q E s := by
  unfold dictWalkPlain
  refine wpAny_bind (wpAny_forIn_list _ (fun rest r t => t = s ∧ r = (none, ()) ∧ Turn1 w es ks k rest none) _ (fun x rest r t ⟨et, er, tn⟩ => ?_) (fun r t ⟨et, er, tn⟩ => ?_) _ _ ⟨rfl, rfl, turn_first⟩)
  · subst et er
    obtain ⟨lt, sn, next⟩ := turn_next ek tn
    obtain ⟨y, ey, iy, hy, dy⟩ := ek.2 x es[x] (Array.getElem?_eq_getElem lt)
    rw [Array.getElem?_eq_getElem lt]
    dsimp only
    have more : y ≠ k → Turn1 w es ks k rest none := fun ne => next none (seen_more sn ey ne)
    by_cases hh : (es[x].hash == k.hash w) = true
    · rw [if_pos hh]
      refine wpAny_bind (wpAny_dictEpoch oh dh (wpAny_bind (eqAt_key y k A t _ _ iy is (by omega) _ _ _ _ (wpAny_bind (wpAny_dictEpoch oh dh ?_)))))
      rw [show (ep != ep) = false by simp, if_neg Bool.false_ne_true, ← NestedKey.decide_eq]
      by_cases e : y = k
      · rw [decide_eq_true e]
        have z := seen_end (hit := some x) nd (.inr ⟨x, rfl, Nat.lt_succ_self x, e ▸ ey⟩) fun j xj ej => by
          have := (List.getElem?_inj (i := x) (j := j) (List.getElem?_eq_some_iff.mp ey).1 nd).mp (by rw [ey, ej, e])
          omega
        rw [← z] at q
        exact wpAny_bind (wpAny_rule (wpAny_pure (wpAny_pure q)))
      · rw [decide_eq_false e]
        exact wpAny_bind (wpAny_rule (wpAny_pure ⟨rfl, rfl, more e⟩))
    · rw [if_neg hh]
      refine wpAny_pure ⟨rfl, rfl, more fun e => hh ?_⟩
      rw [hy, e]
      exact beq_self_eq_true _
  · subst et er
    have z := turn_last ek nd tn
    rw [← z] at q
    exact wpAny_pure q
theorem find_key {Q : Option Nat → Shared → Prop} (room : A.units + 8 < cLine) (is : NestedIs s.heap k key) (dp : k.depth ≤ 8) (oh : s.heap.get? d = some o) (dh : o.data = .dict es ep) (ek : EntK w s.heap es ks) (nd : ks.Nodup)
    (q : Q (ks.findIdx? fun y => decide (y = k)) s) : wpAny (model prog w) A (dictFind d key (k.hash w)) Q E s := by
  have asText : ∀ x t, key = .str x t → (es.all fun e => isExactStrKey e.key) = true → (es.findIdx? fun e => e.key.isStr x) = ks.findIdx? fun y => decide (y = k) := fun x t e all => by
    subst e
    cases is
    have pt : ∀ (i : Nat) (e : DictEntry), es[i]? = some e → ∃ y, ks[i]? = some y ∧ e.key.isStr x = decide (y = .text x) := fun i e ei => by
      obtain ⟨y, ey, iy, _, _⟩ := ek.2 i e ei
      refine ⟨y, ey, ?_⟩
      have ex := Array.all_eq_true_iff_forall_mem.mp all e (Array.mem_of_getElem? ei)
      cases ek2 : e.key with
      | str z u =>
        rw [ek2] at iy
        cases iy
        by_cases q2 : z = x
        · subst q2
          rw [decide_eq_true rfl]
          simp [Value.isStr]
        · rw [decide_eq_false fun q3 => q2 (by injection q3)]
          simpa [Value.isStr] using q2
      | _ => rw [ek2] at ex; cases ex
    cases h : ks.findIdx? fun y => decide (y = .text x) with
    | none =>
      refine Array.findIdx?_eq_none_iff.mpr fun e me => ?_
      obtain ⟨i, ei⟩ := Array.getElem?_of_mem me
      obtain ⟨y, ey, e2⟩ := pt i e ei
      rw [e2]
      exact List.findIdx?_eq_none_iff.mp h y (List.mem_of_getElem? ey)
    | some j =>
      obtain ⟨lt, e1, e2⟩ := List.findIdx?_eq_some_iff_getElem.mp h
      have lt2 : j < es.size := by rw [ek.1]; exact lt
      refine Array.findIdx?_eq_some_iff_getElem.mpr ⟨lt2, ?_, fun i ij => ?_⟩
      · obtain ⟨y, ey, e3⟩ := pt j es[j] (Array.getElem?_eq_getElem lt2)
        rw [List.getElem?_eq_getElem lt] at ey
        cases ey
        rw [e3]
        exact e1
      · obtain ⟨y, ey, e3⟩ := pt i es[i] (Array.getElem?_eq_getElem (by omega))
        rw [List.getElem?_eq_getElem (by omega)] at ey
        cases ey
        rw [e3]
        exact e2 i ij
  by_cases tx : ∃ x t, key = .str x t ∧ (es.all fun e => isExactStrKey e.key) = true
  · obtain ⟨x, t, rfl, all⟩ := tx
    exact PyProof.Rows.KTD.kt_dictFind_strs oh dh all (by rw [asText x t rfl all]; exact q)
  have any0 : ¬ (es.any fun en => en.key == key && en.hash != k.hash w) = true := fun z => by
    obtain ⟨i, li, zi⟩ := Array.any_eq_true.mp z
    rw [Bool.and_eq_true] at zi
    obtain ⟨y, ey, iy, hy, _⟩ := ek.2 i es[i] (Array.getElem?_eq_getElem li)
    rw [eq_of_beq zi.1] at iy
    have e2 := NestedIs.inj _ _ _ iy is
    have z2 := zi.2
    rw [hy, e2] at z2
    simp at z2
  have st := stored_keys (k := k) ek
  have one : ∀ {Q2 : Bool → Shared → Prop} (stored : List Value), (∀ v ∈ stored, ∃ y : NestedKey, NestedIs s.heap y v ∧ y.depth ≤ 8) → Q2 false s → wpAny (model prog w) A (if (stored == [key]) = true then pure false else tableMayTell key stored) Q2 E s := fun stored h q2 => by
    split
    · exact wpAny_pure q2
    · exact tells_not is dp h q2
  unfold dictFind
  refine wpAny_holding (wpAny_bind (wpAny_dictEntries oh dh ?_))
  have fin : ∀ (hit : Option Nat), Turn1 w es ks k [] hit → Q hit s := fun hit tn => turn_last ek nd tn ▸ q
  cases key <;> first | (exfalso; cases is; done) | skip
  all_goals dsimp only
  all_goals first | rw [if_neg fun z => tx ⟨_, _, rfl, z⟩] | skip
  all_goals refine wpAny_ite_split (fun _ => walk_plain room is dp oh dh ek nd q) fun _ => ?_
  all_goals first | rw [if_neg any0] | skip
  all_goals refine wpAny_ite_split (fun _ => wpAny_bind (wpAny_pure ?_)) (fun _ => wpAny_bind (tells_not is dp st ?_))
  all_goals rw [if_neg (by simp)]
  all_goals
    refine wpAny_bind (wpAny_forIn_list _ (fun rest r t => t = s ∧ ∃ hit, r = (none, hit) ∧ Turn1 w es ks k rest hit) _ (fun x rest r t ⟨et, hit, er, tn⟩ => ?_) (fun r t ⟨et, hit, er, tn⟩ => ?_) _ _ ⟨rfl, none, rfl, turn_first⟩)
    · subst et er
      obtain ⟨lt, sn, next⟩ := turn_next ek tn
      obtain ⟨y, ey, iy, hy, dy⟩ := ek.2 x es[x] (Array.getElem?_eq_getElem lt)
      rw [Array.getElem?_eq_getElem lt]
      dsimp only
      have more : y ≠ k → Turn1 w es ks k rest hit := fun ne => next hit (seen_more sn ey ne)
      refine wpAny_ite_split (fun _ => ?_) fun hh => wpAny_pure ⟨rfl, hit, rfl, more fun e => hh (by rw [hy, e]; exact beq_self_eq_true _)⟩
      refine wpAny_bind (wpAny_dictEpoch oh dh (wpAny_bind (eqAt_key y k A t _ _ iy is (by omega) _ _ _ _ (wpAny_bind (wpAny_dictEpoch oh dh ?_)))))
      rw [show (ep != ep) = false by simp, if_neg Bool.false_ne_true, ← NestedKey.decide_eq]
      by_cases e : y = k
      · rw [decide_eq_true e, if_pos rfl]
        rcases sn with ⟨rfl, no⟩ | ⟨j, rfl, jx, ej⟩
        · rw [if_neg (by simp)]
          have z := seen_end (hit := some x) nd (.inr ⟨x, rfl, Nat.lt_succ_self x, e ▸ ey⟩) fun j xj ej => by
            have := (List.getElem?_inj (i := x) (j := j) (List.getElem?_eq_some_iff.mp ey).1 nd).mp (by rw [ey, ej, e])
            omega
          refine wpAny_bind (wpAny_rule (wpAny_ite_split (fun _ => wpAny_pure (wpAny_pure (z ▸ q))) fun _ => wpAny_pure ⟨rfl, some x, rfl, next _ (.inr ⟨x, rfl, Nat.lt_succ_self x, e ▸ ey⟩)⟩))
        · have := (List.getElem?_inj (i := x) (j := j) (List.getElem?_eq_some_iff.mp ey).1 nd).mp (by rw [ey, ej, e])
          omega
      · rw [decide_eq_false e, if_neg Bool.false_ne_true]
        refine wpAny_bind (wpAny_rule ?_)
        rw [if_neg (by simp)]
        exact wpAny_pure ⟨rfl, hit, rfl, more e⟩
    · subst et er
      exact wpAny_pure (fin hit tn)
end
end OD

/-! O3: a dict of mixed keys: d[k], a new key, dict(pairs) -/
namespace OD
open PySem PySem.Spec PyProof.Rows L2
section
variable {prog : Program} {w : World} {A : Around} {E : Value → Shared → Prop} {s : Shared} {d : Addr} {o : Obj} {es : Array DictEntry} {ep : Nat} {key : Value} {k : NestedKey} {ks : List NestedKey}
theorem get_key {Q : Value → Shared → Prop} {i : Nat} {e : DictEntry} (room : A.in1.units + 8 < cLine) (is : NestedIs s.heap k key) (dp : k.depth ≤ 8) (raw : s.heap.DictRaw d es ep) (ek : EntK w s.heap es ks) (nd : ks.Nodup) (ik : ks[i]? = some k) (ie : es[i]? = some e)
    (q : ∀ tk, Q e.val { s with toks := tk }) : wpAny (model prog w) A (getItem (.ref d) key) Q E s := by
  obtain ⟨o, oh, ox, dh⟩ := id raw
  have ty : s.TypeIs (.ref d) "dict" := raw.typeIs
  have pos : (ks.findIdx? fun y => decide (y = k)) = some i := (seen_end (hit := some i) (i := i + 1) nd (.inr ⟨i, rfl, Nat.lt_succ_self i, ik⟩) fun j xj ej => by
    have := (List.getElem?_inj (i := i) (j := j) (List.getElem?_eq_some_iff.mp ik).1 nd).mp (by rw [ik, ej])
    omega).symm
  unfold getItem
  refine wpAny_holding (wpAny_bind (wpAny_sequenceKey ty (by decide) (wpAny_bind (wpAny_callSpecial?_slot (name := Str.ofString "__getitem__") ty slot_dict_getitem (wpAny_call_entry slot_dict_getitem ty entry_dict_getitem ?_ (args_dict_getitem _ _))))))
  show wpAny _ _ (dictGet d key >>= _) _ _ s
  refine wpAny_bind ?_
  unfold dictGet
  refine wpAny_holding (wpAny_bind (pyHash_key k key _ s _ is (by omega) (wpAny_bind (find_key (s := { s with toks := s.toks + k.draws }) (ks := ks) room is dp oh dh ek nd ?_))))
  rw [pos]
  refine wpAny_bind (wpAny_dictEntries (s := { s with toks := s.toks + k.draws }) oh dh (wpAny_pure ?_))
  rw [ie]
  exact wpAny_pure ⟨e.val, rfl, wpAny_pure (q _)⟩
theorem set_key {v : Value} {Q : Unit → Shared → Prop} (room : A.units + 8 < cLine) (is : NestedIs s.heap k key) (dp : k.depth ≤ 8) (raw : s.heap.DictRaw d es ep) (ek : EntK w s.heap es ks) (nd : ks.Nodup) (new : k ∉ ks) (z : es.size ≤ sizeLine)
    (q : ∀ h' tk, h'.DictRaw d (es.push ⟨k.hash w, key, v⟩) (ep + 1) → Heap.SameBut d s.heap h' → Q () { s with heap := h', toks := tk }) : wpAny (model prog w) A (dictSet d key v) Q E s := by
  obtain ⟨o, oh, ox, dh⟩ := id raw
  have pos : (ks.findIdx? fun y => decide (y = k)) = none := List.findIdx?_eq_none_iff.mpr fun y my => decide_eq_false fun e => new (e ▸ my)
  unfold dictSet
  refine wpAny_holding (wpAny_bind (pyHash_key k key _ s _ is (by omega) ?_))
  unfold dictSetHashed
  refine wpAny_holding (wpAny_bind (find_key (s := { s with toks := s.toks + k.draws }) (ks := ks) room is dp oh dh ek nd ?_))
  rw [pos]
  refine wpAny_bind (wpAny_rule (wpAny_updateDictKeys (hz := z) (s := { s with toks := s.toks + k.draws }) oh dh ?_))
  exact q _ _ ⟨_, Heap.get?_update_self _ oh (Obj.isFreed_of_dict (Obj.data_mapDictKeys dh _)), ox.mapDictKeys _, Obj.data_mapDictKeys dh _⟩ (Heap.SameBut.update ..)
end
/-! ### by hand -/
/-- a row: the key, its name and its value -/
abbrev MRow := NestedKey × V × V
def EntR (w : World) (r : MRow) (e : DictEntry) : Prop := RelV r.2.1 e.key ∧ e.hash = r.1.hash w ∧ RelV r.2.2 e.val
def phiD (w : World) (a : Addr) (rows : List MRow) : Heap → Prop := fun h => (a == sysModules) = false ∧ ∃ es ep, h.DictRaw a es ep ∧ Paired (EntR w) rows es.toList
/-- the dict of these rows at a -/
def DO (w : World) (a : Addr) (rows : List MRow) : HO := .ext (phiD w a rows)
/-- v names the key k -/
inductive NKey (H : Hp) : NestedKey → V → Prop
  | non : NKey H .none .non
  | int (i : Int) : NKey H (.num i) (.int i)
  | str (x : Str) : NKey H (.text x) (.str x)
  | tup (T : Addr) (x : Str) (h : H T = some (.tup [.str x])) : NKey H (.tup [.text x]) (.ref T)
theorem NKey.ex {H H' : Hp} {k : NestedKey} {v : V} (x : TH.Ex H H') (h : NKey H k v) : NKey H' k v := by
  cases h with
  | non => exact .non
  | int i => exact .int i
  | str y => exact .str y
  | tup T y h => exact .tup T y (x _ _ h)
theorem nk_is {X : Cx} {pins : List (Addr × Obj)} {σ : L2.St} {H : Hp} {s : Shared} {k : NestedKey} {v : V} {u : Value} (I : Inv X pins σ H s) (h : NKey H k v) (r : RelV v u) : NestedIs s.heap k u ∧ k.depth ≤ 8 := by
  cases h with
  | non => cases r; exact ⟨.none, by decide⟩
  | int i => obtain ⟨t, rfl⟩ := r; exact ⟨.int i t, by simp [NestedKey.depth]⟩
  | str x => obtain ⟨t, rfl⟩ := r; exact ⟨.text x t, by simp [NestedKey.depth]⟩
  | tup T x h =>
    cases r
    obtain ⟨_, its, rv, o, h1, h2, n, h3⟩ := I.hok T _ h
    cases rv with
    | cons q rr =>
      cases rr
      obtain ⟨t, rfl⟩ := q
      exact ⟨.tup h1 h2 h3 (.cons (.text x t) .nil), by simp [NestedKey.depth, NestedKey.depthAll]⟩
theorem paired_arr {α : Type} {R : α → DictEntry → Prop} {rows : List α} {es : Array DictEntry} (p : Paired R rows es.toList) : es.size = rows.length ∧ ∀ (i : Nat) (e : DictEntry), es[i]? = some e → ∃ r, rows[i]? = some r ∧ R r e := by
  have l := Paired.length p
  refine ⟨by rw [l, Array.length_toList], fun i e ei => ?_⟩
  have lt : i < rows.length := by
    rw [l, Array.length_toList]
    exact (Array.getElem?_eq_some_iff.mp ei).1
  obtain ⟨b, eb, rb⟩ := L2.paired_get p (List.getElem?_eq_getElem lt)
  have e3 : es[i]? = some b := by rw [← Array.getElem?_toList]; exact eb
  rw [ei] at e3
  cases e3
  exact ⟨_, List.getElem?_eq_getElem lt, rb⟩
theorem ent_k {w : World} {h : Heap} {rows : List MRow} {es : Array DictEntry} (p : Paired (EntR w) rows es.toList) (nk : ∀ r ∈ rows, ∀ u, RelV r.2.1 u → NestedIs h r.1 u ∧ r.1.depth ≤ 8) : EntK w h es (rows.map (·.1)) := by
  obtain ⟨l, g⟩ := paired_arr p
  refine ⟨by rw [l, List.length_map], fun i e ei => ?_⟩
  obtain ⟨r, er, r1, r2, _⟩ := g i e ei
  obtain ⟨i1, i2⟩ := nk r (List.mem_of_getElem? er) _ r1
  exact ⟨r.1, by rw [List.getElem?_map, er]; rfl, i1, r2, i2⟩
theorem phi_at {w : World} {a : Addr} {rows : List MRow} : ∀ h1 h2 : Heap, phiD w a rows h1 → (∀ o, h1.get? a = some o → h2.get? a = some o) → phiD w a rows h2 := fun h1 h2 ⟨n, es, ep, r, p⟩ k => ⟨n, es, ep, r.at k, p⟩
theorem do_ok {P : Program} {w w2 : World} {H : Hp} {h : Heap} {a : Addr} {rows : List MRow} (x : phiD w2 a rows h) : ObjOk P w H h a (DO w2 a rows) := by
  obtain ⟨n, es, ep, ⟨o, ho, r⟩, p⟩ := x
  exact ⟨⟨n, es, ep, ⟨o, ho, r⟩, p⟩, ⟨o, ho⟩, phi_at⟩
theorem do_at {X : Cx} {pins : List (Addr × Obj)} {σ : L2.St} {H : Hp} {s : Shared} {a : Addr} {w2 : World} {rows : List MRow} (I : Inv X pins σ H s) (h : Rd H a (DO w2 a rows)) : phiD w2 a rows s.heap := (h.ok I.hok).1
/-- d[k] of a key that is there -/
def rIxO (w : World) : R2 := fun x y H Q => ∃ (a : Addr) (rows : List MRow) (i : Nat) (r : MRow), x = .ref a ∧ Rd H a (DO w a rows) ∧ (∀ r ∈ rows, NKey H r.1 r.2.1) ∧ (rows.map (·.1)).Nodup ∧ rows[i]? = some r ∧ y = r.2.1 ∧ Q r.2.2 H
theorem ix_odd {X : Cx} (hu : X.A.units + 16 < cLine) : IxR X (rIxO X.w) := by
  intro value slice pins s σ H x y v u Q I rx ry ⟨a, rows, i, r, ex, ha, nk, nd, ir, ey, q⟩ hs
  subst ex ey
  obtain rfl : v = Value.ref a := rx
  obtain ⟨_, es, ep, raw, p⟩ := do_at I ha
  obtain ⟨e, ee, r1, r2, r3⟩ := L2.paired_get p ir
  have ek := ent_k p fun r mr u ru => nk_is I (nk r mr) ru
  obtain ⟨is, dp⟩ := nk_is I (nk r (List.mem_of_getElem? ir)) ry
  refine subscriptTail_builtinR (x := e.val) raw.typeIs slot_dict_getitem.lookup (get_key (Q := fun z s' => z = e.val ∧ EP X pins σ Q z s') (i := i) (by have := Around.in1_units X.A; omega) is dp raw ek nd (by rw [List.getElem?_map, ir]; rfl) (by rw [← Array.getElem?_toList]; exact ee) fun tk => ⟨rfl, r.2.2, H, I.tok tk, r3, q⟩) hs
end OD

/-! O4: a dict of mixed keys: isinstance, the walk of its keys, dict(pairs) -/
namespace OD
open PySem PySem.Spec PyProof.Rows L2
/-- isinstance(x, dict) of such -/
def rIsO (w : World) : List V → Hp → VK → Prop := fun xs H Q => ∃ (a : Addr) (rows : List MRow), xs = [.ref a, .ty "dict"] ∧ Rd H a (DO w a rows) ∧ Q (.bl true) H
theorem call_isO {X : Cx} : CallR X (.builtin "isinstance") (rIsO X.w) := by
  intro pins s σ H xs us Q I r ⟨a, rows, ex, ha, q⟩
  subst ex
  obtain ⟨u1, u2, rfl, r1, r2⟩ := vals2 r
  cases (show u1 = Value.ref a from r1)
  cases (show u2 = Value.type "dict" from r2)
  obtain ⟨_, es, ep, ⟨o, oh, ox, _⟩, _⟩ := do_at I ha
  exact PySem.W.kia_one (b := true) PySem.W.kitx_dict I.kIn ⟨o, oh, ox.1⟩ (kit_ty (by decide +kernel)) (fun z => nomatch z) fun tk => ⟨.bl true, H, I.tok tk, rfl, q⟩
/-- the keys of the locked dict at d -/
def Itx (w : World) (d : Addr) (o : Obj) (rows : List MRow) : It :=
  ⟨fun i H => H d = some (.frz o (DO w d rows)) ∧ i < rows.length, fun i H x H' => H' = H ∧ ∃ r, rows[i]? = some r ∧ x = r.2.1, fun i H => H d = some (.frz o (DO w d rows)) ∧ rows.length ≤ i⟩
theorem frz_at {X : Cx} {pins : List (Addr × Obj)} {σ : L2.St} {H : Hp} {s : Shared} {d : Addr} {o : Obj} {rows : List MRow} (I : Inv X pins σ H s) (h : H d = some (.frz o (DO X.w d rows))) :
    s.heap.get? d = some o ∧ (d == sysModules) = false ∧ ∃ es ep, o.ExactDict ∧ o.data = .dict es ep ∧ Paired (EntR X.w) rows es.toList := by
  obtain ⟨gd, z⟩ := I.hok d _ h
  obtain ⟨⟨n, es, ep, ⟨o', oh, ox, od⟩, p⟩, _⟩ := z
  rw [gd] at oh
  cases oh
  exact ⟨gd, n, es, ep, ox, od, p⟩
theorem turn_odd {P : Program} {w : World} {K : PySem.W.Frag} {tg : Expr} {d : Addr} {o : Obj} {es : Array DictEntry} {ep : Nat} {rows : List MRow} (it : Addr) (od : o.data = .dict es ep) : Turn P w K tg (Itx w d o rows) [it] it (fun i h => h.IsKeyIter it d i rows.length ep) where
  mem := List.mem_cons_self
  obj := fun i h st b hb => by
    cases List.mem_singleton.mp hb
    obtain ⟨oi, e, _, dd⟩ := st
    exact ⟨oi, e, fun v z => by rw [dd] at z; cases z⟩
  keep := fun i h h' st k => st.at fun oi e => k it List.mem_cons_self oi e
  item := by
    intro X hP hw hK hc i pins s σ H E I hf st ⟨hd, hi⟩
    subst hP hw hK
    obtain ⟨f0, f1, f2, f3, f4, f5⟩ := hf it List.mem_cons_self
    obtain ⟨gd, _, es', ep', ox, od', p⟩ := frz_at I hd
    obtain ⟨rfl, rfl⟩ := dict_ep od od'
    obtain ⟨r, er⟩ : ∃ r, rows[i]? = some r := ⟨rows[i], List.getElem?_eq_getElem hi⟩
    obtain ⟨e, ee, r1, _, _⟩ := L2.paired_get p er
    refine next_key_item st gd od' (paired_arr p).1 (by rw [← Array.getElem?_toList]; exact ee) fun h' st' sb => ?_
    obtain ⟨oi, e1, e2, e3⟩ := id st'
    exact ⟨_, rfl, go_of (s := { s with heap := h' }) e1 e2 e3 (by decide) ⟨r.2.1, H, I.turned (t' := s.toks) (fun b ob nb q => (sb.2 b nb).trans q) f0 f1 f3 f4 f5, r1, ⟨rfl, r, er, rfl⟩, st', fun b hb => (hf b hb).1⟩⟩
  done := by
    intro X hP hw hK hc i pins s σ H E I hf st ⟨hd, hi⟩
    subst hP hw hK
    obtain ⟨f0, f1, f2, f3, f4, f5⟩ := hf it List.mem_cons_self
    obtain ⟨gd, _, es', ep', ox, od', p⟩ := frz_at I hd
    obtain ⟨rfl, rfl⟩ := dict_ep od od'
    exact next_key_end (I.ok.hd hc) st gd od' (paired_arr p).1 hi fun h' eb => ⟨rfl, I.turned (t' := s.toks) (fun b ob nb q => eb b ob nb q) f0 f1 f3 f4 f5⟩
  self := fun A i s Q E st h => wpAny_pyIter_keyiter st h
/-- for k in d, of such a locked dict -/
def iOdd (w : World) (td : TE) : TI := fun σ H R => td σ H fun x H1 => ∃ d o rows, x = .ref d ∧ H1 d = some (.frz o (DO w d rows)) ∧ R (Itx w d o rows) H1
theorem pi_odd {X : Cx} {tg e : Expr} {td : TE} (he : PE X e td) : PI X tg e (iOdd X.w td) := by
  refine ⟨fun pins s σ H R I h => thn (he.run pins s σ H _ I h) fun u s1 ⟨x, H1, I1, rx, d, o, rows, ex, hd, q⟩ => ?_⟩
  subst ex
  obtain rfl : u = Value.ref d := rx
  obtain ⟨gd, ns, es, ep, ox, od, p⟩ := frz_at I1 hd
  refine iter_keys ns gd ox od (pi_one (tk := s1.toks) I1 _ (turn_odd _ od) ⟨_, Heap.get?_push_size _ rfl, rfl, ?_⟩ q)
  rw [(paired_arr p).1]
  rfl
theorem walk_odd {w : World} {d : Addr} {o : Obj} {rows : List MRow} : Walk (Itx w d o rows) rows.length (fun H => H d = some (.frz o (DO w d rows))) (fun i H x H' => H' = H ∧ ∃ r, rows[i]? = some r ∧ x = r.2.1) where
  goes := fun i H hi h => ⟨h, hi⟩
  stops := fun H h => ⟨h, Nat.le_refl _⟩
  yields := fun i H v H' _ h y => y
/-! ### dict(pairs) -/
/-- the table so far: the first rows' pairs, and all that stood stands -/
def Tb (w : World) (h0 : Heap) (d : Addr) (ps : List (NestedKey × Value × Value)) (i : Nat) (h : Heap) : Prop :=
  (∃ es ep, h.DictRaw d es ep ∧ es.toList = (ps.take i).map fun p => (⟨p.1.hash w, p.2.1, p.2.2⟩ : DictEntry)) ∧ ∀ b o, b ≠ d → h0.get? b = some o → h.get? b = some o
theorem call_dict_mixed {prog : Program} {w : World} {A : Around} {E : Value → Shared → Prop} {s : Shared} {l : Addr} {fp : List Addr} {n : Nat} {Rel : Nat → Value → Value → Prop} {OK : Heap → Prop} {ps : List (NestedKey × Value × Value)} {Q : Value → Shared → Prop} {T : String} (PA : PairArg prog w T l fp [] n Rel OK) (hh : A.handled = none) (ok : OK s.heap) (room : A.units + 14 < cLine)
    (ln : ps.length = n) (rel : ∀ i k v, Rel i k v → ∃ nk, ps[i]? = some (nk, k, v)) (is : ∀ p ∈ ps, NestedIs s.heap p.1 p.2.1 ∧ p.1.depth ≤ 8) (nd : (ps.map (·.1)).Nodup) (z : n ≤ sizeLine)
    (q : ∀ h' tk es ep, h'.DictRaw s.heap.objs.size es ep → es.toList = (ps.map fun p => (⟨p.1.hash w, p.2.1, p.2.2⟩ : DictEntry)) → (∀ b o, s.heap.get? b = some o → h'.get? b = some o) → Q (.ref s.heap.objs.size) { s with heap := h', toks := tk }) : wpAny (model prog w) A (call (.type "dict") [.ref l]) Q E s := by
  refine call_dict_arg PA ok fun s1 e1 df ok1 => ?_
  subst e1
  have k0 : ∀ b o, b ≠ s.heap.objs.size → s.heap.get? b = some o → (s.heap.push { cls := .type "dict", data := .dict #[] }).get? b = some o := fun b o _ e => Heap.get?_push_of_some _ e
  have ty : ∀ h', (∀ b o, b ≠ s.heap.objs.size → s.heap.get? b = some o → h'.get? b = some o) → ∀ p ∈ ps, NestedIs h' p.1 p.2.1 ∧ p.1.depth ≤ 8 := fun h' k p mp => ⟨NestedIs.at (fun a o vs m e _ => k a o (Nat.ne_of_lt (Heap.lt_size e)) e) _ _ (is p mp).1, (is p mp).2⟩
  refine updateFrom_arg (A := A.in1) (Tab := Tb w s.heap s.heap.objs.size ps) PA .none hh ok1 df ⟨⟨#[], 0, ⟨_, Heap.get?_push_size _ rfl, ⟨rfl, rfl, rfl⟩, rfl⟩, rfl⟩, k0⟩ (fun i h t => ?_) (fun i h h' wr nd2 hw t k => ?_) (fun i key v s2 Q2 E2 li ri t _ q2 => ?_) fun h' tk t k => ?_
  · obtain ⟨⟨es, ep, ⟨o, oh, _⟩, _⟩, _⟩ := t
    exact Heap.lt_size oh
  · obtain ⟨⟨es, ep, r, e⟩, st⟩ := t
    refine ⟨⟨es, ep, r.at fun o q => k _ o nd2 q, e⟩, fun b o nb e2 => k b o (fun m => ?_) (st b o nb e2)⟩
    rcases hw b m with m | m
    · cases m
    · rw [k0 b o nb e2] at m
      cases m
  · obtain ⟨nk, en⟩ := rel i key v ri
    obtain ⟨⟨es, ep, raw, ee⟩, st⟩ := t
    have lt := (List.getElem?_eq_some_iff.mp en).1
    have isn := ty s2.heap st
    have ek : EntK w s2.heap es ((ps.take i).map (·.1)) := by
      refine ⟨by rw [← Array.length_toList, ee, List.length_map, List.length_map], fun j e ej => ?_⟩
      rw [← Array.getElem?_toList, ee, List.getElem?_map] at ej
      obtain ⟨p, ep2, rfl⟩ := Option.map_eq_some_iff.mp ej
      obtain ⟨i1, i2⟩ := isn p (List.mem_of_mem_take (List.mem_of_getElem? ep2))
      exact ⟨p.1, by rw [List.getElem?_map, ep2]; rfl, i1, rfl, i2⟩
    obtain ⟨i1, i2⟩ := isn _ (List.mem_of_getElem? en)
    have ts : ps.take (i + 1) = ps.take i ++ [(nk, key, v)] := by rw [List.take_add_one, en]; rfl
    have nd3 : ((ps.take (i + 1)).map (·.1)).Nodup := ((List.take_sublist _ ps).map _).nodup nd
    rw [ts, List.map_append] at nd3
    obtain ⟨n1, _, n2⟩ := List.nodup_append.mp nd3
    refine set_key (k := nk) (ks := (ps.take i).map (·.1)) (by have := Around.in1_units A; have := Around.in1_units A.in1; omega) i1 i2 raw ek n1 (fun m => n2 _ m _ (List.mem_singleton.mpr rfl) rfl) (by rw [ek.1, List.length_map, List.length_take]; omega) fun h' tk raw' sb => q2 h' tk ⟨⟨_, _, raw', ?_⟩, fun b o nb e => sb.extBut b o nb (st b o nb e)⟩ sb
    rw [Array.toList_push, ee, ts, List.map_append]
    rfl
  · obtain ⟨⟨es, ep, raw, ee⟩, st⟩ := t
    rw [List.take_of_length_le (by omega)] at ee
    exact ⟨rfl, q h' tk es ep raw ee fun b o e => st b o (Nat.ne_of_lt (Heap.lt_size e)) e⟩
end OD

/-! O5: dict(pairs) of mixed keys, by hand -/
namespace OD
open PySem PySem.Spec PyProof.Rows L2
/-- dict(l) of a list of pairs with different keys -/
def rDictO (K : PySem.W.Frag) (w : World) : List V → Hp → VK → Prop := fun xs H Q => ∃ (a : Addr) (ps : List Addr) (rows : List MRow), xs = [.ref a] ∧ SqL K H a (ps.map V.ref) ∧ Paired (fun p (r : MRow) => SqT K H p [r.2.1, r.2.2]) ps rows ∧ (∀ r ∈ rows, NKey H r.1 r.2.1) ∧ (rows.map (·.1)).Nodup ∧ ∀ p, H p = none → Q (.ref p) (upd H p (DO w p rows))
theorem mixed_of {X : Cx} {pins : List (Addr × Obj)} {σ : L2.St} {H : Hp} {s : Shared} (I : Inv X pins σ H s) : ∀ {ps : List Addr} {rows : List MRow}, Paired (fun p (r : MRow) => SqT X.K H p [r.2.1, r.2.2]) ps rows → (∀ r ∈ rows, NKey H r.1 r.2.1) →
    ∃ prs : List (NestedKey × Value × Value), Paired (fun (r : MRow) p => r.1 = p.1 ∧ RelV r.2.1 p.2.1 ∧ RelV r.2.2 p.2.2) rows prs ∧ (∀ p ∈ prs, NestedIs s.heap p.1 p.2.1 ∧ p.1.depth ≤ 8) ∧ prs.length = ps.length ∧ ∀ (j : Nat) (k : NestedKey) (u v : Value), prs[j]? = some (k, u, v) → ∃ b, ps[j]? = some b ∧ s.heap.IsTuple b #[u, v]
  | _, _, .nil, _ => ⟨[], .nil, fun _ m => (nomatch m), rfl, fun j _ _ _ e => by simp at e⟩
  | _, _, .cons (a := p) (b := r) h t, nk => by
    obtain ⟨prs, rl, is, ln, at_⟩ := mixed_of I t fun r m => nk r (List.mem_cons_of_mem _ m)
    obtain ⟨its, rv, tp, _⟩ := I.tuple h
    obtain ⟨u, v, rfl, ru, rv2⟩ := vals2 rv
    refine ⟨(r.1, u, v) :: prs, .cons ⟨rfl, ru, rv2⟩ rl, fun q m => ?_, by rw [List.length_cons, List.length_cons, ln], fun j k u2 v2 e => ?_⟩
    · rcases List.mem_cons.mp m with rfl | m
      · exact nk_is I (nk r List.mem_cons_self) ru
      · exact is q m
    · cases j with
      | zero =>
        cases (Option.some.inj e)
        exact ⟨p, rfl, tp⟩
      | succ j =>
        obtain ⟨b, e1, e2⟩ := at_ j k u2 v2 (by simpa using e)
        exact ⟨b, by simpa using e1, e2⟩
theorem call_dictO {X : Cx} (hc : X.calm = true) (hu : X.A.units + 16 < cLine) : CallR X (.type "dict") (rDictO X.K X.w) := by
  intro pins s σ H xs us Q I r ⟨a, ps, rows, ex, sq, pr, nk, nd, q⟩
  subst ex
  obtain ⟨u, rfl, rx⟩ := vals1 r
  cases (show u = Value.ref a from rx)
  obtain ⟨its, rv, pl, hz⟩ := I.list sq
  obtain rfl := refs_at rv
  rw [List.length_map] at hz
  obtain ⟨prs, rl, is, ln, at_⟩ := mixed_of I pr nk
  have keys : rows.map (·.1) = prs.map (·.1) := by
    clear q nd at_ ln is pr nk
    induction rl with
    | nil => rfl
    | cons h _ ih => rw [List.map_cons, List.map_cons, ih, h.1]
  obtain ⟨o, n, oh, oc, od, dat⟩ := pl
  refine call_dict_mixed (ps := prs) (PairArg.list a (ps.map Value.ref).toArray (fun j => (ps[j]?).getD 0) (prs.map fun p => (p.2.1, p.2.2))) (I.ok.hd hc) ⟨⟨o, n, oh, oc, od, dat⟩, by simp [ln], fun j k v e => ?_⟩ (by omega) (by simp) (fun i k v e => ?_) is (keys ▸ nd) (by rw [List.length_map, ln]; exact hz) fun h' tk es ep raw ee keep => ?_
  · rw [List.getElem?_map] at e
    obtain ⟨⟨y, u, v2⟩, e1, e2⟩ := Option.map_eq_some_iff.mp e
    cases e2
    obtain ⟨b, e3, e4⟩ := at_ j y u v2 e1
    have g : (fun j => (ps[j]?).getD 0) j = b := by dsimp only; rw [e3]; rfl
    rw [g]
    exact ⟨by simp [e3], .inl e4⟩
  · rw [PairRel, List.getElem?_map] at e
    obtain ⟨⟨y, u, v2⟩, e1, e2⟩ := Option.map_eq_some_iff.mp e
    cases e2
    exact ⟨y, e1⟩
  · have hm : (s.heap.objs.size == sysModules) = false := beq_eq_false_iff_ne.mpr (Nat.ne_of_gt I.big)
    have pe : Paired (EntR X.w) rows es.toList := by
      rw [ee]
      clear q nd at_ ln is pr nk keys ee raw
      induction rl with
      | nil => exact .nil
      | cons h _ ih => exact .cons ⟨h.2.1, by rw [h.1], h.2.2⟩ ih
    exact ⟨.ref s.heap.objs.size, _, I.laid (t' := tk) keep (Nat.le_refl _) (do_ok (rows := rows) ⟨hm, es, ep, raw, pe⟩), rfl, q _ (I.hok.fresh (Nat.le_refl _))⟩
end OD

/-! O6: == and != by an own __eq__, with either answer -/
namespace OQ
open PySem PySem.Spec PyProof.Rows L2
/-- what the class C says of comparing -/
structure EqC (K : PySem.W.Frag) (C f : Addr) : Prop where
  eq : PySem.W.findIn K (.ref C) "__eq__" = some (some (.ref f))
  fn : PySem.W.isFn K (.ref f) = true
  ne : PySem.W.findIn K (.ref C) "__ne__" = some (some (.builtin "object.__ne__"))
  ob : PySem.W.mroIn K C (.type "object") = some true
  li : PySem.W.notFirst K C (.type "list") = true
section
variable {X : Cx} {CX : CXT} {n : Nat} {C f : Addr} {fd : FuncData} {ps : List Str} {sp : Sp} {E : XK}
/-- an instance of C, or a list -/
def Side (C : Addr) (H : Hp) (y : V) : Prop := (∃ b dy gs, y = .ref b ∧ H b = some (.ins C dy gs)) ∨ ∃ b xs, y = .ref b ∧ H b = some (.lst xs)
theorem side_type {pins : List (Addr × Obj)} {σ : L2.St} {H : Hp} {s : Shared} {y : V} {u : Value} (c : EqC X.K C f) (I : Inv X pins σ H s) (d : Side C H y) (r : RelV y u) : ∃ tb, PySem.W.Looks (model X.prog X.w) s.heap (typeOf u) tb ∧ PySem.W.notFirst X.K C tb = true := by
  rcases d with ⟨b, dy, gs, rfl, hb⟩ | ⟨b, xs, rfl, hb⟩
  · cases r
    obtain ⟨mB, J, _⟩ := ins_get I.hok hb
    obtain ⟨od, J, _⟩ := J.look
    exact ⟨_, J.type, by simp [PySem.W.notFirst]⟩
  · cases r
    obtain ⟨_, its, m, _, g⟩ := I.hok b _ hb
    exact ⟨.type "list", (PySem.W.Looks.ld g).andThen .now, c.li⟩
theorem call_eq {A : Around} {pins : List (Addr × Obj)} {σ : L2.St} {H : Hp} {s : Shared} {x y : V} {v u : Value} {Q : Value → Shared → Prop} {q : VK} (c : EqC X.K C f) (F : FnOk X.prog X.w X.K X.mg X.base CX n f fd ps sp) (sb : Sub X n A) (bd : Binds X.K fd ps []) (hx : Passes CX X E) (I : Inv X pins σ H s) (rx : RelV x v) (ry : RelV y u)
    (h : sp [x, y] H q E) (k : ∀ z w s' H', Inv X pins σ H' s' → RelV z w → q z H' → Q w s') : wpAny (model X.prog X.w) A (call (.ref f) [v, u]) Q X.xe s := by
  have e0 : Env0 X.prog X.w X.K X.mg X.base A X.stack s H := by
    have e := I.env0
    exact ⟨by rw [sb.fr]; exact e.frames, e.mod, e.bs, e.bsz, e.funs, e.frf, e.hok, e.bare⟩
  have hl := F.len _ _ _ _ h
  refine wpAny_call (codeAny_mono (F.run A X.stack s H ⟨[v, u], []⟩ [v, u] [x, y] _ E sb.room e0 (by
    have z := bd s [v, u] I.kIn (by simpa using hl)
    simpa using z) (.cons rx (.cons ry .nil)) h) fun r s' hq => ?_)
  cases r with
  | error e => exact hx pins σ H s e s' I hq
  | ok fl =>
    cases fl with
    | ret w =>
      obtain ⟨z, H', I', rz, qz⟩ := I.after hq
      exact k z w s' H' I' rz qz
    | next => exact hq.elim
    | brk => exact hq.elim
    | cont => exact hq.elim
/-- x == y -/
def rEq (C : Addr) (sp : Sp) (E : XK) : R2 := fun x y H Q => ∃ a dx fs, x = .ref a ∧ H a = some (.ins C dx fs) ∧ Side C H y ∧ sp [x, y] H (fun v H' => ∃ r, v = .bl r ∧ Q (.bl r) H') E
/-- x != y -/
def rNe (C : Addr) (sp : Sp) (E : XK) : R2 := fun x y H Q => ∃ a dx fs, x = .ref a ∧ H a = some (.ins C dx fs) ∧ Side C H y ∧ sp [x, y] H (fun v H' => ∃ r, v = .bl r ∧ Q (.bl (!r)) H') E
theorem op_eqO (c : EqC X.K C f) (F : FnOk X.prog X.w X.K X.mg X.base CX n f fd ps sp) (hr : Room n X.A) (bd : Binds X.K fd ps []) (hx : Passes CX X E) : OpR X (compareOp .Eq) (rEq C sp E) := by
  intro pins s σ H x y v u Q I rx ry ⟨a, dx, fs, ex, ha, sd, h⟩
  subst ex
  obtain ⟨tb, ty, nf⟩ := side_type c I sd ry
  obtain ⟨mA, J, _⟩ := ins_get I.hok ha
  obtain ⟨od, J, _⟩ := J.look
  obtain ⟨m, hF⟩ := I.fr
  cases rx
  refine PySem.W.cmp_K (op := .Eq) (tb := tb) hr.units0 hF I.ok.mod.kin J ty nf c.eq c.fn (call_eq (x := .ref a) c F ⟨hr, rfl⟩ bd hx I rfl ry h fun z w s' H' I' rz ⟨r, ez, q⟩ => ?_)
  subst ez
  cases rz
  exact ⟨.bl r, H', I', rfl, q⟩
theorem op_neO (c : EqC X.K C f) (G : FnOk X.prog X.w X.K X.mg X.base CX n f fd ps sp) (hr : Room (n + 1) X.A) (bd : Binds X.K fd ps []) (hx : Passes CX X E) : OpR X (compareOp .NotEq) (rNe C sp E) := by
  intro pins s σ H x y v u Q I rx ry ⟨a, dx, fs, ex, ha, sd, h⟩
  subst ex
  obtain ⟨tb, ty, nf⟩ := side_type c I sd ry
  obtain ⟨mA, J, _⟩ := ins_get I.hok ha
  obtain ⟨od, J, _⟩ := J.look
  have kin := I.kIn
  have rx2 : v = Value.ref a := rx
  subst rx2
  have hr1 := hr.in1
  have un := hr1.units0
  have own : wpAny (model X.prog X.w) X.A (call (.builtin "object.__ne__") [.ref a, u]) (PySem.W.CmpBack (EP X pins σ Q)) X.xe s := by
    refine wpAny_call (codeAny_call_builtin F.cmp_object.ne.plain F.cmpEntry_ne (PySem.W.check_slot F.cmpKind_ne F.cmpSplit_ne (J.type.andThen (PySem.W.looks_mroIn kin c.ob)) (F.cmpArgs_ne _ _) ?_))
    unfold Builtin.«object.__ne__»
    repeat (first
      | with_reducible refine wpAny_cRoomFor un ?_
      | (refine wpAny_bind (m := callSpecialIfBound? (.ref a) (Str.ofString "__eq__") [u]) (PySem.W.ifBound_K kin J c.eq c.fn (call_eq (x := .ref a) c G ⟨hr1, rfl⟩ bd hx I rfl ry h fun z w s' H' I' rz ⟨r, ez, q⟩ => ?_)))
      | wp_step)
    subst ez
    cases rz
    repeat (first | (refine wpAny_bind (m := truthy (.bool _)) (wpAny_truthy_bool ?_)) | wp_step)
    exact ⟨.bl (!r), H', I', rfl, q⟩
  have try1 : wpAny (model X.prog X.w) X.A (tryCompare (.ref a) "__ne__" u) (fun r s' => ∃ z, r = some z ∧ EP X pins σ Q z s') X.xe s := by
    unfold tryCompare callSpecialIfBound? bindSpecialIfBound?
    refine wpAny_bind (wpAny_holding (wpAny_bind (wpAny_bind (wpAny_bind (J.type.here ((PySem.W.looks_findIn kin c.ne).here ?_))))))
    have back : wpAny (model X.prog X.w) X.A (call (.builtin "object.__ne__") ([.ref a] ++ [u]) >>= fun z => pure (some z)) (fun r s' => wpAny (model X.prog X.w) X.A (match r with | some Value.notImplemented => pure none | none => pure none | some z => pure (some z)) (fun r s' => ∃ z, r = some z ∧ EP X pins σ Q z s') X.xe s') X.xe s := by
      refine wpAny_bind (wpAny_mono own (fun z s' q => wpAny_pure ?_) fun _ _ e => e)
      cases z <;> first | exact q.elim | exact wpAny_pure ⟨_, rfl, q⟩
    refine wpAny_bind (wpAny_askSetting (wpAny_ite ?_))
    split
    · exact wpAny_bind (wpAny_of_eq (F.cmp_object.ne.bind _) (wpAny_pure (by exact back)))
    · exact wpAny_tryCatch (wpAny_bind (wpAny_of_eq (F.cmp_object.ne.bind _) (wpAny_pure (by exact back))))
  show wpAny (model X.prog X.w) X.A (richCompare .NotEq (.ref a) u) (EP X pins σ Q) X.xe s
  unfold richCompare
  simp only [oneThing_ref]
  refine wpAny_holding (wpAny_bind (wpAny_cRoomFor hr.units0 (wpAny_bind (J.type.here (wpAny_bind (ty.here ?_))))))
  rw [cmpInfo_NotEq]
  dsimp only
  split
  · rename_i q
    have e : PySem.W.subIn X.K tb (.ref C) = some false := by
      rcases Bool.or_eq_true_iff.mp nf with e | e
      · rw [beq_iff_eq.mp e] at q
        simp at q
      · exact beq_iff_eq.mp e
    refine wpAny_bind ((PySem.W.looks_subIn kin e).here ?_)
    rw [if_neg Bool.false_ne_true]
    refine wpAny_bind (wpAny_mono try1 (fun r s' ⟨z, ez, q2⟩ => ?_) fun _ _ e => e)
    subst ez
    exact wpAny_pure q2
  · refine wpAny_bind (wpAny_pure ?_)
    rw [if_neg Bool.false_ne_true]
    refine wpAny_bind (wpAny_mono try1 (fun r s' ⟨z, ez, q2⟩ => ?_) fun _ _ e => e)
    subst ez
    exact wpAny_pure q2
end
end OQ

/-! B1: _law_pool, _law_take, _law_one -/
namespace TH
open PySem PySem.Spec PyProof.Rows L2 LamV LamX XK0
open C8 (pss_cut tCut)
abbrev sPool : Stmt := top 17
abbrev sTakeP : Stmt := top 18
abbrev sOneP : Stmt := top 19
abbrev sMixed : Stmt := top 20
/-- the pool at p: what is left of the great cell, the mixed number, how many were mixed (at most n) -/
def Pool (H : Hp) (p : Addr) (n : Nat) : Prop := ∃ (a m : Int) (j : Nat), H p = some (.lst [.int a, .int m, .int j]) ∧ 0 ≤ a ∧ 0 ≤ m ∧ m < 2147483647 ∧ j ≤ n
theorem Pool.ex {H H' : Hp} {p : Addr} {n : Nat} (x : Ex H H') (h : Pool H p n) : Pool H' p n := by
  obtain ⟨a, m, j, e, r⟩ := h
  exact ⟨a, m, j, x _ _ e, r⟩
theorem Pool.new {H : Hp} {p q : Addr} {n : Nat} {o : HO} (h : Pool H p n) (f : H q = none) : Pool (upd H q o) p n := h.ex (Ex.new f)
theorem Pool.mono {H : Hp} {p : Addr} {n m : Nat} (h : Pool H p n) (l : n ≤ m) : Pool H p m := by
  obtain ⟨a, b, j, e, h1, h2, h3, h4⟩ := h
  exact ⟨a, b, j, e, h1, h2, h3, by omega⟩
theorem Pool.off {H : Hp} {p q : Addr} {n : Nat} (h : Pool H p n) (f : H q = none) : q ≠ p := by
  obtain ⟨a, m, j, e, _⟩ := h
  exact fun z => by rw [z, e] at f; cases f
theorem Pool.put {H : Hp} {p q : Addr} {n : Nat} {o : HO} (h : Pool H p n) (f : q ≠ p) : Pool (upd H q o) p n := by
  obtain ⟨a, m, j, e, r⟩ := h
  exact ⟨a, m, j, (upd_ne f.symm).trans e, r⟩
/-- what is no list stands while only the pool is changed -/
theorem ExA.nl {p b : Addr} {H H' : Hp} {n : Nat} {o : HO} (x : ExA p H H') (s : Pool H p n) (h : H b = some o) (no : ∀ xs, o ≠ .lst xs) : H' b = some o := by
  obtain ⟨a, m, j, e, _⟩ := s
  exact x b o (fun z => by rw [z, e] at h; exact no _ (Option.some.inj h).symm) h
theorem ExA.none {p q : Addr} {H H' : Hp} {k : Nat} (x : ExA p H H') (s : Pool H' p k) (h : H' q = none) : H q = none := by
  cases z : H q with
  | none => rfl
  | some o =>
    rw [x q o (s.off h) z] at h
    cases h
theorem DD.exP {p : Addr} {H H' : Hp} {n : Nat} {a : Addr} {ls : Lds} (x : ExA p H H') (s : Pool H p n) (h : DD H a ls) : DD H' a ls := by
  obtain ⟨kvs, e, pr⟩ := h
  exact ⟨kvs, x.nl s e (fun _ z => nomatch z), Paired.mapP pr fun _ _ ⟨e1, b, e2, e3⟩ => ⟨e1, b, e2, x.nl s e3 (fun _ z => nomatch z)⟩⟩
def spPool (K : PySem.W.Frag) : Sp := fun vs H Q _ => ∃ (a : Addr) (ns : List Int) (t : Nat), vs = [.ref a, .int t] ∧ SqL K H a (ns.map V.int) ∧ ns.length ≤ sizeLine ∧ t < 1000 ∧ ∀ (p : Addr) (H' : Hp), Ex H H' → H p = none → Pool H' p 0 → Q (.ref p) H'
def spTakeP : Sp := fun vs H Q _ => ∃ (p : Addr) (k : Int) (n : Nat), vs = [.ref p, .int k] ∧ Pool H p n ∧ n < 1000000 ∧ 1 ≤ k ∧ k ≤ 1000 ∧ ∀ (d : Nat) (H' : Hp), (d : Int) < k → ExA p H H' → Pool H' p (n + 1) → Q (.int d) H'
def spOneP : Sp := fun vs H Q _ => ∃ (p t : Addr) (n : Nat) (xs : List V), vs = [.ref p, .ref t] ∧ Pool H p n ∧ n < 1000000 ∧ t ≠ p ∧ H t = some (.lst xs) ∧ xs ≠ [] ∧ xs.length ≤ 1000 ∧ ∀ (y : V) (H' : Hp), y ∈ xs → ExA p H H' → Pool H' p (n + 1) → Q y H'
section
variable {P : Program} {w : World} {K : PySem.W.Frag} {mg : Str → Option Value} {base : Heap} {f : Addr} {fd : FuncData}
theorem scTakeP : FnScope ["_law_pool_here", "_law_many", "_law_draw", "_law_mixed_here"] ["_law_pool_here", "_law_many"] (defScope sTakeP) := ⟨rfl, rfl, rfl, by decide +kernel, rfl, by decide +kernel, by decide +kernel⟩
theorem ok_takeP (F : FnP K "_law_take" sTakeP f fd) (gi : mg "int" = none) : FnOk P w K mg base CX0 1 f fd ["_law_pool_here", "_law_many"] spTakeP := by
  refine F.ok scTakeP (fun vs H Q E h => ?_) (fun cdv A outer s H vs Q E hr h => ?_)
  · obtain ⟨p, k, n, rfl, _⟩ := h
    rfl
  · refine ⟨_, PSs.nox (pss_cons (ps_if (pt_cmpR op_gt (pe_ix ix_list (pv 0) pe_int (fun _ _ => rfl)) pe_int (nomark _))
        (pss_cons (ps_set (i := 2) scTakeP.nd rfl (.inl rfl) (pe_op op_mod (pe_callTy call_int1 rfl gi boot_int (pa_cons (pe_ix ix_list (pv 0) pe_int (fun _ _ => rfl)) pa_nil)) (pv 1)))
        (pss_cons (ps_asg (pe_op op_fdiv (pe_ix ix_list (pv 0) pe_int (fun _ _ => rfl)) (pv 1)) (pg_sub (pv 0) pe_int set_list))
        (pss_one (ps_ret (pv 2))))) pss_nil)
      (pss_cut (ps_asg (pe_op op_add (pe_ix ix_list (pv 0) pe_int (fun _ _ => rfl)) pe_int) (pg_sub (pv 0) pe_int set_list))
      (pss_cons (ps_set (i := 3) scTakeP.nd rfl (.inl rfl) (pe_op op_mod (pe_callTy call_int1 rfl gi boot_int (pa_cons (pe_op op_pow (pe_op op_add (pe_op op_add (pe_ix ix_list (pv 0) pe_int (fun _ _ => rfl)) (pe_op op_mul pe_int (pe_ix ix_list (pv 0) pe_int (fun _ _ => rfl)))) pe_int) pe_int) pa_nil)) pe_int))
      (pss_one (ps_ret (pe_op op_mod (pe_op op_mod (pe_callTy call_int1 rfl gi boot_int (pa_cons (pe_op op_mul (pe_op op_add (pv 3) (pe_ix ix_list (pv 0) pe_int (fun _ _ => rfl))) pe_int) pa_nil)) pe_int) (pv 1))))))), ?_⟩
    obtain ⟨p, k, n, rfl, ⟨a, m, j, hp, a0, m0, m1, jn⟩, hn, k1, k2, hQ⟩ := h
    have kpos : (0 : Int) < k := by omega
    have sq : SqL K H p _ := .inl (.inl hp)
    refine ⟨.ref p, rfl, p, _, 0, .int a, rfl, rfl, sq, rfl, a, 0, rfl, rfl, _, rfl, ?_⟩
    by_cases hi : 0 < a
    · show (if decide (0 < a) = true then _ else _)
      rw [if_pos (decide_eq_true hi)]
      refine ⟨.ref p, rfl, p, _, 0, .int a, rfl, rfl, sq, rfl, .inl ⟨a, rfl, .int k, rfl, a, k, rfl, rfl, kpos, ?_⟩⟩
      refine ⟨.ref p, rfl, p, _, 0, .int a, rfl, rfl, sq, rfl, .int k, rfl, a, k, rfl, rfl, ⟨kpos, by omega⟩, ?_⟩
      refine ⟨.ref p, rfl, p, _, 0, 0, rfl, rfl, hp, rfl, .int (a % k), rfl, ?_⟩
      have b1 : 0 ≤ a % k := Int.emod_nonneg _ (by omega)
      rw [show a % k = ((a % k).toNat : Int) from (Int.toNat_of_nonneg b1).symm]
      exact hQ _ _ (by rw [Int.toNat_of_nonneg b1]; exact Int.emod_lt_of_pos _ kpos) ExA.upd ⟨a / k, m, j, upd_same, Int.ediv_nonneg a0 (by omega), m0, m1, by omega⟩
    · show (if decide (0 < a) = true then _ else _)
      rw [if_neg (show ¬ (decide (0 < a) = true) from by simpa using hi)]
      refine ⟨fun σ' H' => σ' = [some (.ref p), some (.int k), none, none] ∧ ExA p H H' ∧ H' p = some (.lst [.int a, .int m, .int ((j + 1 : Nat) : Int)]), ⟨.ref p, rfl, p, _, 2, .int j, rfl, rfl, sq, rfl, j, 1, rfl, rfl, .ref p, rfl, p, _, 2, 2, rfl, rfl, hp, rfl, rfl, ExA.upd, upd_same⟩, ?_⟩
      rintro σ2 H2 ⟨rfl, x2, hp2⟩
      have sq2 : SqL K H2 p _ := .inl (.inl hp2)
      refine ⟨.ref p, rfl, p, _, 1, .int m, rfl, rfl, sq2, rfl, .ref p, rfl, p, _, 2, .int ((j + 1 : Nat) : Int), rfl, rfl, sq2, rfl, 7919, _, rfl, rfl, .inl (by decide), m, _, rfl, rfl, _, _, rfl, rfl, _, 5, rfl, rfl, ⟨by decide, by decide, by omega⟩, .inl ⟨_, rfl, _, _, rfl, rfl, (by decide : (0 : Int) < 2147483647), ?_⟩⟩
      refine ⟨_, rfl, .ref p, rfl, p, _, 2, .int ((j + 1 : Nat) : Int), rfl, rfl, sq2, rfl, _, _, rfl, rfl, _, 40692, rfl, rfl, .inr (by decide), .inl ⟨_, rfl, _, _, rfl, rfl, (by decide : (0 : Int) < 2147483629), .int k, rfl, _, k, rfl, rfl, kpos, ?_⟩⟩
      have fin : ∀ z : Int, Q (.int (z % k)) H2 := fun z => by
        have b3 : 0 ≤ z % k := Int.emod_nonneg _ (by omega)
        rw [show z % k = ((z % k).toNat : Int) from (Int.toNat_of_nonneg b3).symm]
        exact hQ _ _ (by rw [Int.toNat_of_nonneg b3]; exact Int.emod_lt_of_pos _ kpos) x2 ⟨a, m, j + 1, hp2, a0, m0, m1, by omega⟩
      exact fin _
theorem scOneP : FnScope ["_law_pool_here", "_law_things"] ["_law_pool_here", "_law_things"] (defScope sOneP) := ⟨rfl, rfl, rfl, by decide +kernel, rfl, by decide +kernel, by decide +kernel⟩
theorem ok_oneP (F : FnP K "_law_one" sOneP f fd) (FT : Has P w K mg base "_law_take" 1 ["_law_pool_here", "_law_many"] spTakeP) (gn : mg "len" = none) : FnOk P w K mg base CX0 2 f fd ["_law_pool_here", "_law_things"] spOneP := by
  refine F.ok scOneP (fun vs H Q E h => ?_) (fun cdv A outer s H vs Q E hr h => ?_)
  · obtain ⟨p, t, n, xs, rfl, _⟩ := h
    rfl
  · refine ⟨_, PSs.nox (pss_one (ps_ret (pe_ix ix_list (pv 1) (pe_has FT hr (by decide) rfl (pa_cons (pv 0) (pa_cons (pe_callB call_len rfl gn boot_len (pa_cons (pv 1) pa_nil)) pa_nil))) (fun _ _ => rfl)))), ?_⟩
    obtain ⟨p, t, n, xs, rfl, S, hn, t1, ht, ne, len, hQ⟩ := h
    have pos : 0 < xs.length := List.length_pos_iff.mpr ne
    refine ⟨.ref t, rfl, .ref p, rfl, .ref t, rfl, .ref t, xs.length, rfl, .inl ⟨xs, .inl (.inl ht), rfl⟩, p, xs.length, n, rfl, S, hn, by omega, by omega, fun d H' hd x S' => ?_⟩
    have lt : d < xs.length := by omega
    exact ⟨t, xs, d, xs[d], rfl, rfl, .inl (.inl (x _ _ t1 ht)), at_nat (List.getElem?_eq_getElem lt), hQ _ _ (List.getElem_mem lt) x S'⟩
theorem scPool : FnScope ["_law_script", "_law_turn", "_law_cell", "_law_seed", "_law_one_here"] ["_law_script", "_law_turn"] (defScope sPool) := ⟨rfl, rfl, rfl, by decide +kernel, rfl, by decide +kernel, by decide +kernel⟩
theorem ok_pool (F : FnP K "_law_pool" sPool f fd) (gi : mg "int" = none) (ga : mg "abs" = none) (gn : mg "len" = none) (gs : mg "sum" = none) : FnOk P w K mg base CX0 1 f fd ["_law_script", "_law_turn"] (spPool K) := by
  refine F.ok scPool (fun vs H Q E h => ?_) (fun cdv A outer s H vs Q E hr h => ?_)
  · obtain ⟨a, ns, t, rfl, _⟩ := h
    rfl
  · refine ⟨_, PSs.nox (pss_cut (ps_set (i := 2) scPool.nd rfl (.inl rfl) (pe_ifExp (pt_cmpR op_lt (pv 1) (pe_callB call_len rfl gn boot_len (pa_cons (pv 0) pa_nil)) (nomark _)) (pe_ix ix_list (pv 0) (pv 1) (fun _ _ => rfl))
          (pe_op op_add (pe_op op_mod (pe_callB (cr_sum rfl) rfl gs boot_sum (pa_cons (pe_slice sl_list (pv 0) po_none (po_some pe_int)) pa_nil)) pe_int) (pv 1))))
      (pss_cons (ps_set (i := 3) scPool.nd rfl (.inl rfl) (pe_op op_add pe_int (pv 1)))
      (pss_cons (ps_for PassesOwn.never rfl (pi_list (pe_slice sl_list (pv 0) po_none (po_some pe_int))) (pg_name (i := 4) scPool.nd rfl (.inl rfl))
        (pss_one (ps_set (i := 3) scPool.nd rfl (.inl rfl) (pe_op op_mod (pe_callTy call_int1 rfl gi boot_int (pa_cons (pe_op op_add (pe_op op_mul (pv 3) pe_int) (pv 4)) pa_nil)) pe_int))))
      (pss_one (ps_ret (pe_lst (pa_cons (pe_ifExp (pt_cmpR op_ge (pe_callB call_abs rfl ga boot_abs (pa_cons (pv 2) pa_nil)) (pe_op op_pow pe_int pe_int) (nomark _)) (pe_callB call_abs rfl ga boot_abs (pa_cons (pv 2) pa_nil)) pe_int) (pa_cons (pe_op op_mod (pe_callTy call_int1 rfl gi boot_int (pa_cons (pe_op op_add (pe_op op_mul (pv 3) pe_int) (pv 2)) pa_nil)) pe_int) (pa_cons pe_int pa_nil))))))))), ?_⟩
    obtain ⟨a, ns, t, rfl, sq, len, tl, hQ⟩ := h
    refine ⟨fun σ' H' => ∃ c : Int, σ' = [some (.ref a), some (.int t), some (.int c), none, none] ∧ Ex H H', ?_, ?_⟩
    · by_cases lt : t < ns.length
      · exact ⟨.int t, rfl, .ref a, rfl, .ref a, ns.length, rfl, .inl ⟨_, sq, by rw [List.length_map]⟩, t, ns.length, rfl, rfl, true, congrArg V.bl (decide_eq_true (by omega)), .ref a, rfl, .int t, rfl, a, _, t, .int ns[t], rfl, rfl, sq, at_nat (by rw [List.getElem?_map, List.getElem?_eq_getElem lt]; rfl), _, rfl, Ex.refl⟩
      · refine ⟨.int t, rfl, .ref a, rfl, .ref a, ns.length, rfl, .inl ⟨_, sq, by rw [List.length_map]⟩, t, ns.length, rfl, rfl, false, congrArg V.bl (decide_eq_false (by omega)), .ref a, rfl, 1, rfl, a, ns.map V.int, rfl, sq, fun q nq => ⟨q, ns.take 1, rfl, .inl (.inl ?_), (ns.take 1).sum, _, rfl, rfl, (by decide : (0 : Int) < 1000003), .int t, rfl, _, t, rfl, rfl, _, rfl, Ex.new nq⟩⟩
        rw [upd_same, List.map_take]
        exact congrArg (fun z => some (HO.lst z)) (cut_take _ 1)
    · rintro σ1 H1 ⟨c, rfl, x1⟩
      refine ⟨.int t, rfl, 29, t, rfl, rfl, .ref a, rfl, 6, rfl, a, ns.map V.int, rfl, x1.sqL sq, fun q nq => ?_⟩
      rw [show cutV (ns.map V.int) none (some 6) = (ns.take 6).map V.int by rw [List.map_take]; exact cut_take _ 6]
      have x2 := x1.trans (Ex.new (o := .lst ((ns.take 6).map V.int)) nq)
      have hq : upd H1 q (.lst ((ns.take 6).map V.int)) q = _ := upd_same
      generalize upd H1 q (.lst ((ns.take 6).map V.int)) = H2 at x2 hq ⊢
      refine ⟨q, rfl, ⟨_, .inl (.inl hq)⟩, for_list (K := K) (xs := (ns.take 6).map V.int) (fun i σ' H' => H' = H2 ∧ ∃ (sd : Int) (o4 : Option V), σ' = [some (.ref a), some (.int t), some (.int c), some (.int sd), o4]) ⟨rfl, _, _, rfl⟩ (fun i σ' H' _ h => h.1 ▸ .inl (.inl hq)) (fun i v σ' H' hv h => ?_) fun σ' H' h => ?_⟩
      · obtain ⟨rfl, sd, o4, rfl⟩ := h
        rw [List.getElem?_map] at hv
        obtain ⟨z, ez, rfl⟩ := Option.map_eq_some_iff.mp hv
        exact ⟨.int sd, rfl, sd, 37, rfl, rfl, .inr (by decide), .int z, rfl, _, _, rfl, rfl, .inl ⟨_, rfl, _, _, rfl, rfl, (by decide : (0 : Int) < 2147483647), rfl, _, _, rfl⟩⟩
      · obtain ⟨rfl, sd, o4, rfl⟩ := h
        have c0 : (0 : Int) ≤ (if c < 0 then -c else c) := by split <;> omega
        have fin : ∀ z : Int, 0 ≤ z → ∀ p, H' p = none → Q (.ref p) (upd H' p (.lst [.int z, .int ((sd * 31 + c) % 2147483647), .int 0])) := fun z z0 p np => hQ p _ (x2.trans (Ex.new np)) (x2.none np) ⟨z, _, 0, upd_same, z0, Int.emod_nonneg _ (by decide), Int.emod_lt_of_pos _ (by decide), Nat.le_refl _⟩
        by_cases big : (10 : Int) ^ (18 : Int).toNat ≤ (if c < 0 then -c else c)
        · exact ⟨.int c, rfl, c, rfl, 10, 18, rfl, rfl, ⟨by decide, by decide, by decide⟩, _, _, rfl, rfl, true, congrArg V.bl (decide_eq_true big), .int c, rfl, c, rfl, .int sd, rfl, sd, 31, rfl, rfl, .inr (by decide), .int c, rfl, _, _, rfl, rfl, .inl ⟨_, rfl, _, _, rfl, rfl, (by decide : (0 : Int) < 2147483647), by show 3 ≤ sizeLine; decide, fin _ c0⟩⟩
        · exact ⟨.int c, rfl, c, rfl, 10, 18, rfl, rfl, ⟨by decide, by decide, by decide⟩, _, _, rfl, rfl, false, congrArg V.bl (decide_eq_false big), .int sd, rfl, sd, 31, rfl, rfl, .inr (by decide), .int c, rfl, _, _, rfl, rfl, .inl ⟨_, rfl, _, _, rfl, rfl, (by decide : (0 : Int) < 2147483647), by show 3 ≤ sizeLine; decide, fin _ (Int.le_refl 0)⟩⟩
end
end TH

/-! B2: _law_mixed -/
namespace TH
open PySem PySem.Spec PyProof.Rows L2 LamV LamX XK0
open C8 (pss_cut tCut)
theorem cut_drop (xs : List V) (k : Nat) : cutV xs (some (k : Int)) none = xs.drop k := by
  unfold cutV
  rw [HT.sIx_none, HT.sIx_nat]
  by_cases h : k ≤ xs.length
  · rw [Nat.min_eq_left h, List.take_of_length_le (by rw [List.length_drop]; exact Nat.le_refl _)]
  · rw [Nat.min_eq_right (by omega), List.drop_length, List.take_nil, List.drop_of_length_le (by omega)]
def spMixed : Sp := fun vs H Q _ => ∃ (p t : Addr) (n : Nat) (xs : List V), vs = [.ref p, .ref t] ∧ Pool H p n ∧ n + xs.length < 1000000 ∧ H t = some (.lst xs) ∧ xs.length ≤ 1000 ∧
  ∀ (q : Addr) (ys : List V) (H' : Hp), ExA p H H' → Pool H' p (n + xs.length) → H q = none → H' q = some (.lst ys) → ys.Perm xs → Q (.ref q) H'
/-- at each turn -/
def XInv (H : Hp) (p t fo : Addr) (n : Nat) (xs : List V) (i : Nat) (σ : L2.St) (H2 : Hp) : Prop := ∃ (lf : Addr) (left acc : List V) (o4 o5 : Option V), σ = [some (.ref p), some (.ref t), some (.ref lf), some (.ref fo), o4, o5] ∧ ExA p H H2 ∧ Pool H2 p (n + i) ∧ lf ≠ p ∧ lf ≠ fo ∧ H2 lf = some (.lst left) ∧ H2 fo = some (.lst acc) ∧ (acc ++ left).Perm xs ∧ acc.length = i
section
variable {P : Program} {w : World} {K : PySem.W.Frag} {mg : Str → Option Value} {base : Heap} {f : Addr} {fd : FuncData}
theorem scMixed : FnScope ["_law_pool_here", "_law_things", "_law_left", "_law_found", "_law_k", "_law_at"] ["_law_pool_here", "_law_things"] (defScope sMixed) := ⟨rfl, rfl, rfl, by decide +kernel, rfl, by decide +kernel, by decide +kernel⟩
theorem ok_mixed (F : FnP K "_law_mixed" sMixed f fd) (FT : Has P w K mg base "_law_take" 1 ["_law_pool_here", "_law_many"] spTakeP) (gn : mg "len" = none) (gl : mg "list" = none) (gr : mg "range" = none) : FnOk P w K mg base CX0 2 f fd ["_law_pool_here", "_law_things"] spMixed := by
  refine F.ok scMixed (fun vs H Q E h => ?_) (fun cdv A outer s H vs Q E hr h => ?_)
  · obtain ⟨p, t, n, xs, rfl, _⟩ := h
    rfl
  · refine ⟨_, PSs.nox (pss_cons (ps_par (i := 2) (j := 3) rfl scMixed.nd rfl rfl (by decide) rfl rfl (pa_cons (pe_callTy call_list_of rfl gl boot_list (pa_cons (pv 1) pa_nil)) (pa_cons (pe_lst pa_nil) pa_nil)) rfl)
      (pss_cons (ps_for PassesOwn.never rfl (pi_range1 rfl gr (pa_cons (pe_callB call_len rfl gn boot_len (pa_cons (pv 1) pa_nil)) pa_nil)) (pg_name (i := 4) scMixed.nd rfl (.inl rfl))
        (pss_cons (ps_set (i := 5) scMixed.nd rfl (.inl rfl) (pe_has FT hr (by decide) rfl (pa_cons (pv 0) (pa_cons (pe_callB call_len rfl gn boot_len (pa_cons (pv 2) pa_nil)) pa_nil))))
        (pss_cut (ps_expr (pe_bm PySem.F.plainAttrs_list PySem.F.slot_list_append PySem.F.type_list_append mt_append (pv 3) (pa_cons (pe_ix ix_list (pv 2) (pv 5) (fun _ _ => rfl)) pa_nil)))
        (pss_one (ps_set (i := 2) scMixed.nd rfl (.inl rfl) (pe_op op_cat (pe_slice sl_list (pv 2) po_none (po_some (pv 5))) (pe_slice sl_list (pv 2) (po_some (pe_op op_add (pv 5) pe_int)) po_none)))))))
      (pss_one (ps_ret (pv 3))))), ?_⟩
    obtain ⟨p, t, n, xs, rfl, S, hn, ht, len, hQ⟩ := h
    refine ⟨.ref t, rfl, t, xs, rfl, .inl (.inl (.inl ht)), fun lf nlf => ⟨Nat.zero_le _, fun fo nfo => ⟨_, _, rfl, ?_⟩⟩⟩
    have x1 : Ex H (upd H lf (.lst xs)) := Ex.new nlf
    have x2 := x1.trans (Ex.new (o := .lst []) nfo)
    have foH := x1.none nfo
    have lfo : lf ≠ fo := fun z => by rw [← z, upd_same] at nfo; cases nfo
    refine ⟨.ref t, rfl, .ref t, xs.length, rfl, .inl ⟨xs, .inl (.inl (x2 _ _ ht)), rfl⟩, xs.length, rfl, by omega, by omega, for_range (lo := 0) (n := xs.length) (XInv H p t fo n xs) ⟨lf, xs, [], none, none, rfl, fun b o _ e => x2 b o e, S.ex x2, S.off nlf, lfo, (upd_ne lfo).trans upd_same, upd_same, .refl _, rfl⟩ (fun i σ H2 hi h => ?_) fun σ H2 h => ?_⟩
    · obtain ⟨lf, left, acc, o4, o5, rfl, x3, S3, l1, l2, h3, h4, pm, la⟩ := h
      have ln : acc.length + left.length = xs.length := by rw [← pm.length_eq, List.length_append]
      refine ⟨.ref p, rfl, .ref lf, rfl, .ref lf, left.length, rfl, .inl ⟨left, .inl (.inl h3), rfl⟩, p, left.length, n + i, rfl, S3, by omega, by omega, by omega, fun d H4 hd x4 S4 => ?_⟩
      have lt : d < left.length := by omega
      have f1 : fo ≠ p := S.off foH
      have g3 := x4 _ _ l1 h3
      have g4 := x4 _ _ f1 h4
      refine ⟨fun σ' H' => σ' = [some (.ref p), some (.ref t), some (.ref lf), some (.ref fo), some (.int (0 + (i : Int))), some (.int d)] ∧ H' = upd H4 fo (.lst (acc ++ [left[d]])), ?_, ?_⟩
      · exact ⟨.ref fo, rfl, .inl ⟨rfl, acc, .inl (.inl g4)⟩, .ref lf, rfl, .int d, rfl, lf, left, d, left[d], rfl, rfl, .inl (.inl g3), at_nat (List.getElem?_eq_getElem lt), fo, acc, left[d], rfl, rfl, g4, by rw [sizeLine_eq]; omega, rfl, rfl⟩
      · rintro σ5 H5 ⟨rfl, rfl⟩
        have g5 : upd H4 fo (.lst (acc ++ [left[d]])) lf = some (.lst left) := (upd_ne l2).trans g3
        have g6 : upd H4 fo (.lst (acc ++ [left[d]])) fo = some (.lst (acc ++ [left[d]])) := upd_same
        have S5 : Pool (upd H4 fo (.lst (acc ++ [left[d]]))) p (n + i + 1) := S4.put f1
        have x5 : ExA p H (upd H4 fo (.lst (acc ++ [left[d]]))) := fun b o b1 e => (upd_ne fun z => by rw [z, foH] at e; cases e).trans (x4 _ _ b1 (x3 _ _ b1 e))
        generalize upd H4 fo (.lst (acc ++ [left[d]])) = H5 at g5 g6 S5 x5 ⊢
        refine ⟨.ref lf, rfl, .int d, rfl, d, rfl, lf, left, rfl, .inl (.inl g5), fun q1 n1 => ?_⟩
        have y1 : Ex H5 (upd H5 q1 (.lst (cutV left none (some (d : Int))))) := Ex.new n1
        refine ⟨.ref lf, rfl, .int d, rfl, d, 1, rfl, rfl, _, rfl, lf, left, rfl, .inl (.inl (y1 _ _ g5)), fun q2 n2 => ?_⟩
        have y2 := y1.trans (Ex.new (o := .lst (cutV left (some ((d : Int) + 1)) none)) n2)
        refine ⟨q1, q2, _, _, rfl, rfl, (Ex.new n2) _ _ upd_same, upd_same, ?_, fun q3 n3 => ?_⟩
        · have := cutV_length left none (some (d : Int))
          have := cutV_length left (some ((d : Int) + 1)) none
          rw [sizeLine_eq]
          omega
        have e3 : cutV left none (some (d : Int)) ++ cutV left (some ((d : Int) + 1)) none = left.eraseIdx d := by
          rw [cut_take, show ((d : Int) + 1) = ((d + 1 : Nat) : Int) by omega, cut_drop, List.eraseIdx_eq_take_drop_succ]
        rw [e3]
        have y3 := y2.trans (Ex.new (o := .lst (left.eraseIdx d)) n3)
        refine ⟨q3, left.eraseIdx d, acc ++ [left[d]], _, _, rfl, fun b o b1 e => y3 _ _ (x5 b o b1 e), (S5.ex y3).mono (by omega), (S5.ex y2).off n3, fun z => ?_, upd_same, y3 _ _ g6, ?_, by rw [List.length_append, la]; rfl⟩
        · rw [z, y2 _ _ g6] at n3
          cases n3
        · rw [List.append_assoc]
          exact ((erase_perm (List.getElem?_eq_getElem lt)).append_left acc).trans pm
    · obtain ⟨lf, left, acc, o4, o5, rfl, x3, S3, l1, l2, h3, h4, pm, la⟩ := h
      have ln : acc.length + left.length = xs.length := by rw [← pm.length_eq, List.length_append]
      have e : left = [] := List.length_eq_zero_iff.mp (by omega)
      subst e
      rw [List.append_nil] at pm
      exact ⟨.ref fo, rfl, hQ fo acc H2 x3 S3 foH h4 pm⟩
end
end TH

/-! B3: _law_leads -/
namespace TH
open PySem PySem.Spec PyProof.Rows L2 LamV LamX XK0
open C8 (pss_cut tCut)
abbrev sLeads : Stmt := top 22
def tDOP (K : PySem.W.Frag) : TE := tCB (rDictP K) (tCons (tLc (iList K (tVar 6)) (gName 7) tYes (tTup (tCons (tVar 7) (tCons (tCall spOneP [] E0 (tCons (tVar 0) (tCons (tVar 2) tNil))) tNil))) [7]) tNil)
def POInv (H : Hp) (p D : Addr) (n : Nat) (ks vals : List Str) (i : Nat) (H2 : Hp) : Prop := ∃ (ps : List Addr) (ld : Ld), ExA p H H2 ∧ Pool H2 p (n + i) ∧ H2 D = some (.lst (ps.map V.ref)) ∧ ld.map (·.1) = ks.take i ∧ (∀ q ∈ ld, q.2 ∈ vals) ∧ ps.length = i ∧ Paired (fun p kv => H2 p = some (.tup [kV kv.1, kv.2])) ps (ldV ld)
theorem dictOne_goP {K : PySem.W.Frag} {σ : L2.St} {H : Hp} {Q : VK} {p va ka : Addr} {n : Nat} {vals ks : List Str} (len : σ.length = 8) (s0 : σ[0]? = some (some (.ref p))) (s3 : σ[2]? = some (some (.ref va))) (si : σ[6]? = some (some (.ref ka))) (S : Pool H p n) (hn : n + ks.length < 1000000)
    (hv : H va = some (.lst (vals.map V.str))) (v1 : va ≠ p) (hk : H ka = some (.lst (ks.map V.str))) (k1 : ka ≠ p) (ne : vals ≠ []) (vl : vals.length ≤ 100) (kl : ks.length ≤ 100) (nd : ks.Nodup)
    (hQ : ∀ (ld : Ld) (q : Addr) (H' : Hp), ld.map (·.1) = ks → (∀ q ∈ ld, q.2 ∈ vals) → ExA p H H' → Pool H' p (n + ks.length) → H q = none → H' q = some (.dK (ldV ld)) → Q (.ref q) H') : tDOP K σ H Q := by
  refine ⟨.ref ka, si, ka, rfl, ⟨_, .inl (.inl hk)⟩, fun D nD => ?_⟩
  have d1 := S.off nD
  refine lc_list (K := K) (xs := ks.map V.str) (POInv H p D n ks vals) ⟨[], [], (Ex.new nD).exA, S.new nD, upd_same, rfl, fun q m => (nomatch m), rfl, .nil⟩ (fun i H2 _ ⟨ps, ld, x, _⟩ => .inl (.inl (x _ _ k1 hk))) (fun i v H2 hv2 h => ?_) fun H2 h => ?_
  · obtain ⟨ps, ld, x2, S2, hD, lk, lv, pl, pr⟩ := h
    rw [List.getElem?_map] at hv2
    obtain ⟨w, ew, rfl⟩ := Option.map_eq_some_iff.mp hv2
    have ilt : i < ks.length := (List.getElem?_eq_some_iff.mp ew).1
    have a8 : (((wipe σ [7]).set 7 (some (V.str w))))[7]? = some (some (V.str w)) := List.getElem?_set_self (by rw [wipe_length, len]; decide)
    have a0 : (((wipe σ [7]).set 7 (some (V.str w))))[0]? = some (some (V.ref p)) := by
      rw [List.getElem?_set_ne (by decide)]
      exact (List.getElem?_set_ne (by decide)).trans s0
    have a3 : (((wipe σ [7]).set 7 (some (V.str w))))[2]? = some (some (V.ref va)) := by
      rw [List.getElem?_set_ne (by decide)]
      exact (List.getElem?_set_ne (by decide)).trans s3
    refine ⟨?_, ?_⟩
    · show ((σ.set 7 none).set 7 (some (V.str w))).set 7 none = σ.set 7 none
      rw [List.set_set, List.set_set]
    refine ⟨.str w, a8, .ref p, a0, .ref va, a3, p, va, n + i, vals.map V.str, rfl, S2, by omega, v1, x2 _ _ v1 hv, by simpa using ne, by rw [List.length_map]; omega, fun y H3 my x3 S3 => ?_⟩
    obtain ⟨g, mg, rfl⟩ := List.mem_map.mp my
    refine ⟨by show 2 ≤ sizeLine; decide, fun q np => ?_⟩
    have hD3 : H3 D = some (.lst (ps.map V.ref)) := x3 _ _ d1 hD
    have pD : q ≠ D := fun z => by rw [z, hD3] at np; cases np
    have p1 := S3.off np
    refine ⟨ps.map V.ref, (upd_ne pD.symm).trans hD3, by rw [sizeLine_eq, List.length_map]; omega, ps ++ [q], ld ++ [(w, g)], ?_, (S3.new np).put d1, ?_, ?_, ?_, ?_, ?_⟩
    · intro b o b1 e
      have bp : b ≠ q := fun z => by rw [z] at e; rw [x3 _ _ p1 (x2 _ _ p1 e)] at np; cases np
      have bD : b ≠ D := fun z => by rw [z, nD] at e; cases e
      exact (upd_ne bD).trans ((upd_ne bp).trans (x3 _ _ b1 (x2 _ _ b1 e)))
    · rw [upd_same, List.map_append]
      rfl
    · rw [List.map_append, lk, List.take_add_one, ew]
      rfl
    · intro q hq
      rcases List.mem_append.mp hq with z | z
      · exact lv q z
      · rw [List.mem_singleton.mp z]; exact mg
    · rw [List.length_append, pl]
      rfl
    · unfold ldV
      rw [List.map_append]
      refine paired_app (Paired.mapP pr fun b kv e => ?_) ?_
      · have e3 : H3 b = some (.tup [kV kv.1, kv.2]) := x3.nl S2 e fun _ z => nomatch z
        have n1 : b ≠ q := fun z => by rw [z, np] at e3; cases e3
        have n2 : b ≠ D := fun z => by rw [z, hD3] at e3; cases e3
        exact (upd_ne n2).trans ((upd_ne n1).trans e3)
      · exact (upd_ne pD).trans upd_same
  · obtain ⟨ps, ld, x2, S2, hD, lk, lv, pl, pr⟩ := h
    rw [List.length_map] at lk pl S2
    rw [List.take_length] at lk
    have nd2 : (ld.map (·.1)).Nodup := lk ▸ nd
    refine ⟨D, ps, ldV ld, rfl, .inl (.inl hD), Paired.mapP pr fun p kv e => .inl (.inl e), fun q np => ?_⟩
    rw [merge_nd _ _ (keys_nd nd2)]
    have p1 := S2.off np
    exact hQ ld q _ lk lv (x2.trans (Ex.new np).exA) (S2.new np) (x2.none S2 np) upd_same
def spLeads : Sp := fun vs H Q _ => ∃ (p na va : Addr) (n : Nat) (names vals : List Str) (wh : Bool), vs = [.ref p, .ref na, .ref va, .bl wh] ∧ Pool H p n ∧ n + 1000 < 1000000 ∧ H na = some (.lst (names.map V.str)) ∧ na ≠ p ∧ H va = some (.lst (vals.map V.str)) ∧ va ≠ p ∧ names.Nodup ∧ names.length ≤ 10 ∧ vals.Nodup ∧ vals ≠ [] ∧ vals.length ≤ 10 ∧
  ∀ (dd : Addr) (lds : Lds) (H' : Hp), lds.map (·.1) = names → (∀ l ∈ lds, LeadOk vals wh l.2) → ExA p H H' → Pool H' p (n + 300) → H dd = none → DD H' dd lds → Q (.ref dd) H'
/-- at each turn -/
def LInv (H : Hp) (p na va fo : Addr) (n : Nat) (names vals : List Str) (wh : Bool) (i : Nat) (σ : L2.St) (H2 : Hp) : Prop := ∃ (o5 o6 : Option V) (lds : Lds) (kvs : List (Key × V)) (m : Nat), σ = [some (.ref p), some (.ref na), some (.ref va), some (.bl wh), some (.ref fo), o5, o6, none] ∧
  ExA p H H2 ∧ Pool H2 p m ∧ m ≤ n + i * 30 ∧ H2 fo = some (.dK kvs) ∧ Paired (fun (l : Str × Ld) (kv : Key × V) => kv.1 = Sum.inr l.1 ∧ ∃ b, kv.2 = .ref b ∧ b ≠ fo ∧ H2 b = some (.dK (ldV l.2))) lds kvs ∧ lds.map (·.1) = names.take i ∧ ∀ l ∈ lds, LeadOk vals wh l.2
section
variable {P : Program} {w : World} {K : PySem.W.Frag} {mg : Str → Option Value} {base : Heap} {f : Addr} {fd : FuncData}
theorem scLeads : FnScope ["_law_pool_here", "_law_names", "_law_values", "_law_is_whole", "_law_found", "_law_name", "_law_some", "_law_value"] ["_law_pool_here", "_law_names", "_law_values", "_law_is_whole"] (defScope sLeads) := ⟨rfl, rfl, rfl, by decide +kernel, rfl, by decide +kernel, by decide +kernel⟩
theorem ok_leads (F : FnP K "_law_leads" sLeads f fd) (FT : Has P w K mg base "_law_take" 1 ["_law_pool_here", "_law_many"] spTakeP) (FO : Has P w K mg base "_law_one" 2 ["_law_pool_here", "_law_things"] spOneP) (FM : Has P w K mg base "_law_mixed" 2 ["_law_pool_here", "_law_things"] spMixed) (gn : mg "len" = none) (gd : mg "dict" = none) :
    FnOk P w K mg base CX0 3 f fd ["_law_pool_here", "_law_names", "_law_values", "_law_is_whole"] spLeads := by
  refine F.ok scLeads (fun vs H Q E h => ?_) (fun cdv A outer s H vs Q E hr h => ?_)
  · obtain ⟨p, na, va, n, names, vals, wh, rfl, _⟩ := h
    rfl
  · have hu := hu_of hr
    refine ⟨_, PSs.nox (pss_cons (ps_set (i := 4) scLeads.nd rfl (.inl rfl) pe_dnewK)
      (pss_cons (ps_for PassesOwn.never rfl (pi_list (pv 1)) (pg_name (i := 5) scLeads.nd rfl (.inl rfl))
        (pss_cons (ps_set (i := 6) scLeads.nd rfl (.inl rfl) (pe_has FM hr (by decide) rfl (pa_cons (pv 0) (pa_cons (pv 2) pa_nil))))
        (pss_cut (ps_set (i := 6) scLeads.nd rfl (.inl rfl) (pe_ifExp (pt_val (pv 3)) (pv 6) (pe_slice sl_list (pv 6) po_none (po_some (pe_has FT hr (by decide) rfl (pa_cons (pv 0) (pa_cons (pe_op op_add (pe_callB call_len rfl gn boot_len (pa_cons (pv 2) pa_nil)) pe_int) pa_nil)))))))
        (pss_one (ps_dput hu (pv 4) (pv 5) (pe_callTy (call_dictPK rfl) rfl gd boot_dict (pa_cons (pe_lc (te := tTup (tCons (tVar 7) (tCons (tCall spOneP [] E0 (tCons (tVar 0) (tCons (tVar 2) tNil))) tNil))) (own := [("_law_value", 7)]) rfl scLeads.nd (pi_list (pv 6)) (blkOk_by (by kernel_rfl)) (fun s H C cl fp => pg_name (i := 7) scLeads.nd rfl (.inl rfl) (.inr rfl)) (fun s H C cl fp => pts_nil)
            (fun s H C cl fp => pe_tup (pa_cons (pv 7) (pa_cons (pe_has FO hr (by decide) rfl (pa_cons (pv 0) (pa_cons (pv 2) pa_nil))) pa_nil)))) pa_nil)) rfl)))))
      (pss_one (ps_ret (pv 4))))), ?_⟩
    obtain ⟨p, na, va, n, names, vals, wh, rfl, S, hn, hna, n1, hva, v1, nnd, nlen, vnd, vne, vlen, hQ⟩ := h
    intro fo nfo
    have f1 := S.off nfo
    refine ⟨.ref na, rfl, na, rfl, ⟨_, .inl (.inl ((Ex.new nfo) _ _ hna))⟩, for_list (K := K) (xs := names.map V.str) (LInv H p na va fo n names vals wh) ⟨none, none, [], [], n, rfl, (Ex.new nfo).exA, S.new nfo, by omega, upd_same, .nil, rfl, fun l m => (nomatch m)⟩ (fun i σ H7 _ ⟨_, _, _, _, _, _, x, _⟩ => .inl (.inl (x _ _ n1 hna))) (fun i v σ H2 hv h => ?_) fun σ H2 h => ?_⟩
    · obtain ⟨o5, o6, lds, kvs, m, rfl, x2, S2, hm, hfo, pr, lk, lv⟩ := h
      rw [List.getElem?_map] at hv
      obtain ⟨nm, ew, rfl⟩ := Option.map_eq_some_iff.mp hv
      have ilt : i < names.length := (List.getElem?_eq_some_iff.mp ew).1
      have hva2 := x2 _ _ v1 hva
      refine ⟨.ref p, rfl, .ref va, rfl, p, va, m, vals.map V.str, rfl, S2, by rw [List.length_map]; omega, hva2, by rw [List.length_map]; omega, fun q ys H3 x3 S3 nq hq pm => ?_⟩
      obtain ⟨zs, rfl, pz⟩ := perm_strs pm
      rw [List.length_map] at S3
      have q1 := S2.off nq
      refine ⟨fun σ' H' => ∃ (so : Addr) (ks : List Str), σ' = [some (.ref p), some (.ref na), some (.ref va), some (.bl wh), some (.ref fo), some (.str nm), some (.ref so), none] ∧ ExA p H2 H' ∧ Pool H' p (m + vals.length + 1) ∧ so ≠ p ∧ H' so = some (.lst (ks.map V.str)) ∧ ks.Nodup ∧ (∀ k ∈ ks, k ∈ vals) ∧ ks.length ≤ vals.length ∧ (wh = true → ks.length = vals.length), ?_, ?_⟩
      · cases wh with
        | true => exact ⟨.bl true, rfl, true, rfl, .ref q, rfl, q, zs, rfl, x3, S3.mono (by omega), q1, hq, pz.nodup_iff.mpr vnd, fun k mk => pz.mem_iff.mp mk, by rw [pz.length_eq]; exact Nat.le_refl _, fun _ => pz.length_eq⟩
        | false =>
          refine ⟨.bl false, rfl, false, rfl, .ref q, rfl, .ref p, rfl, .ref va, rfl, .ref va, vals.length, rfl, .inl ⟨_, .inl (.inl (x3 _ _ v1 hva2)), by rw [List.length_map]⟩, vals.length, 1, rfl, rfl, p, (vals.length : Int) + 1, m + vals.length, rfl, S3, by omega, by omega, by omega, fun c H4 hc x4 S4 => ⟨c, rfl, q, _, rfl, .inl (.inl (x4 _ _ q1 hq)), fun so nso => ?_⟩⟩
          rw [cut_take, ← List.map_take]
          have s1 := S4.off nso
          exact ⟨so, zs.take c, rfl, (x3.trans x4).trans (Ex.new nso).exA, S4.new nso, s1, upd_same, (List.take_sublist _ zs).nodup (pz.nodup_iff.mpr vnd), fun k mk => pz.mem_iff.mp (List.mem_of_mem_take mk), by rw [List.length_take, pz.length_eq]; exact Nat.min_le_right _ _, fun z => nomatch z⟩
      · rintro σ4 H4 ⟨so, ks, rfl, x4, S4, s1, hso, knd, ksub, klen, kwh⟩
        refine dictOne_goP (σ := [some (.ref p), some (.ref na), some (.ref va), some (.bl wh), some (.ref fo), some (.str nm), some (.ref so), none]) rfl rfl rfl rfl S4 (by omega) (x4 _ _ v1 hva2) v1 hso s1 vne (by omega) (by omega) knd fun ld b HB kB mB xB SB nb hb => ?_
        have x2B := x4.trans xB
        have hfoB := x2B.nl S2 hfo fun _ z => nomatch z
        have ek : kvs.map (·.1) = (names.take i).map Sum.inr := by rw [PR.keys (H := H2) (Paired.mapP pr fun _ _ ⟨q1, b', q2, _, q3⟩ => ⟨q1, b', q2, q3⟩), lk]
        have fr : (Sum.inr nm : Key) ∉ kvs.map (·.1) := fun z => by
          rw [ek] at z
          obtain ⟨u, mu, eu⟩ := List.mem_map.mp z
          cases eu
          have nn := List.nodup_append.mp (show (names.take i ++ names.drop i).Nodup by rw [List.take_append_drop]; exact nnd)
          refine nn.2.2 _ mu _ ?_ rfl
          obtain ⟨lt, e⟩ := List.getElem?_eq_some_iff.mp ew
          rw [List.drop_eq_getElem_cons lt, e]
          exact List.mem_cons_self
        have kvl : kvs.length ≤ 10 := by
          have := congrArg List.length ek
          rw [List.length_map, List.length_map, List.length_take] at this
          omega
        refine ⟨.ref fo, rfl, .str nm, rfl, fo, _, rfl, DPut.k (k := Sum.inr nm) hfoB (by rw [sizeLine_eq]; omega), ?_⟩
        rw [putK_fresh fr]
        have deb : b ≠ fo := fun z => by rw [z, x4.nl S2 hfo (fun _ z => nomatch z)] at nb; cases nb
        refine ⟨_, _, lds ++ [(nm, ld)], kvs ++ [(.inr nm, .ref b)], m + vals.length + 1 + ks.length, rfl, fun c' o c1 e => ?_, SB.put f1, by rw [Nat.add_mul]; omega, upd_same, ?_, ?_, fun l hl => ?_⟩
        · exact (upd_ne fun z => by rw [z, nfo] at e; cases e).trans (x2B _ _ c1 (x2 _ _ c1 e))
        · refine paired_app (Paired.mapP pr fun l' kv ⟨q1, b', q2, q4, q3⟩ => ⟨q1, b', q2, q4, (upd_ne q4).trans (x2B.nl S2 q3 fun _ z => nomatch z)⟩) ⟨rfl, b, rfl, deb, (upd_ne deb).trans hb⟩
        · rw [List.map_append, lk, List.take_add_one, ew]
          rfl
        · rcases List.mem_append.mp hl with z | z
          · exact lv l z
          · rw [List.mem_singleton.mp z]
            have ll : ld.length = ks.length := by rw [← kB, List.length_map]
            exact ⟨fun q hq => ⟨ksub _ (kB ▸ List.mem_map_of_mem hq), mB q hq⟩, by rw [kB]; exact knd, by show ld.length ≤ 1000; omega, fun z => ll.trans (kwh z)⟩
    · obtain ⟨o5, o6, lds, kvs, m, rfl, x2, S2, hm, hfo, pr, lk, lv⟩ := h
      rw [List.length_map] at lk hm
      rw [List.take_length] at lk
      exact ⟨.ref fo, rfl, hQ fo lds H2 lk lv x2 (S2.mono (by omega)) nfo ⟨kvs, hfo, Paired.mapP pr fun _ _ ⟨q1, b', q2, _, q3⟩ => ⟨q1, b', q2, q3⟩⟩⟩
end
end TH

/-! B4: is_lead, with either answer -/
namespace TH
open PySem PySem.Spec PyProof.Rows L2 LamV LamX XK0
open C8 (pss_cut tCut)
theorem kit_dict {K : PySem.W.Frag} {T : String} (h : T ∈ tys) : PySem.W.kitOne K (.type T) (.type "dict") = some (decide (T = "dict")) := by
  simp only [tys, List.mem_cons, List.mem_nil_iff, or_false] at h
  rcases h with rfl | rfl | rfl | rfl | rfl | rfl | rfl <;> exact kit_ty (by decide +kernel)
/-- a kind stands while a dict is locked -/
theorem tyx_lock {K : PySem.W.Frag} {H H' : Hp} {a : Addr} {kvs : List (Key × V)} {od : Obj} {v : V} {t : Value} (ha : H a = some (.dK kvs)) (x : Ex (upd H a (.frz od (.dK kvs))) H') (h2 : TyX K H v t) : TyX K H' v t := by
  have st : ∀ {b : Addr} {o : HO}, H b = some o → (∀ l, o ≠ .dK l) → H' b = some o := fun e n => lock_ne ha x e (n _)
  cases h2 with
  | base h =>
    cases h with
    | non => exact .base .non
    | bl b => exact .base (.bl b)
    | int i => exact .base (.int i)
    | str z => exact .base (.str z)
    | flt z => exact .base (.flt z)
    | lst e => exact .base (.lst (st e fun _ z => nomatch z))
    | frz e => exact .base (.frz (st e fun _ z => nomatch z))
    | tup e => exact .base (.tup (st e fun _ z => nomatch z))
    | @dK b l e2 =>
      by_cases z : b = a
      · subst z
        exact .fDict (x _ _ upd_same)
      · exact .base (.dK (x _ _ ((upd_ne z).trans e2)))
    | dT e => exact .base (.dT (st e fun _ z => nomatch z))
    | ins e cl ha hn htk hm => exact .base (.ins (st e fun _ z => nomatch z) cl ha hn htk hm)
  | byt b => exact .byt b
  | set e => exact .set (st e fun _ z => nomatch z)
  | kList e c => exact .kList e c
  | kTuple e c => exact .kTuple e c
  | kDict e c => exact .kDict e c
  | fTuple e => exact .fTuple (st e fun _ z => nomatch z)
  | fDict e => exact .fDict (st e fun _ z => nomatch z)
theorem kd_lock {K : PySem.W.Frag} {H H' : Hp} {a : Addr} {kvs : List (Key × V)} {od : Obj} {v : V} {T : String} (ha : H a = some (.dK kvs)) (x : Ex (upd H a (.frz od (.dK kvs))) H') (h : Kd K H v T) : Kd K H' v T := ⟨h.1, tyx_lock ha x h.2.1, h.2.2⟩
/-- a right row of a lead -/
def rowB (vals : List Str) (q : Key × V) : Bool := isWd (kV q.1) && inV (kV q.1) (vals.map V.str) && isWd q.2 && inV q.2 (vals.map V.str)
def leadB (vals : List Str) (wh : Bool) (kvs : List (Key × V)) : Bool := kvs.all (rowB vals) && (!wh || decide (kvs.length = vals.length))
/-- v is a lead, or is none: r -/
def LeadV (K : PySem.W.Frag) (H : Hp) (vals : List Str) (wh : Bool) (v : V) (r : Bool) : Prop := (∃ T, Kd K H v T ∧ T ≠ "dict" ∧ r = false) ∨
  ∃ (b : Addr) (kvs : List (Key × V)), v = .ref b ∧ H b = some (.dK kvs) ∧ kvs.length ≤ 1000 ∧ (kvs.map (·.1)).Nodup ∧ (∀ q ∈ kvs, (∃ T, Kd K H (kV q.1) T) ∧ ∃ T, Kd K H q.2 T) ∧ r = leadB vals wh kvs
theorem LeadV.ex {K : PySem.W.Frag} {H H' : Hp} {vals : List Str} {wh r : Bool} {v : V} (x : Ex H H') (h : LeadV K H vals wh v r) : LeadV K H' vals wh v r := by
  rcases h with ⟨T, k, n, e⟩ | ⟨b, kvs, e, hb, l, nd, kd, er⟩
  · exact .inl ⟨T, k.ex x, n, e⟩
  · exact .inr ⟨b, kvs, e, x _ _ hb, l, nd, fun q m => ⟨(kd q m).1.imp fun _ z => z.ex x, (kd q m).2.imp fun _ z => z.ex x⟩, er⟩
def spIsLeadB (K : PySem.W.Frag) : Sp := fun vs H Q _ => ∃ (v : V) (kt : Addr) (vals : List Str) (wh r : Bool), vs = [v, .ref kt, .bl wh] ∧ SqT K H kt (vals.map V.str) ∧ vals.length ≤ 1000 ∧ LeadV K H vals wh v r ∧ ∀ H', Ex H H' → Q (.bl r) H'
theorem valV_mem : ∀ {kvs : List (Key × V)} {q : Key × V}, (kvs.map (·.1)).Nodup → q ∈ kvs → valV kvs q.1 = some q.2
  | p :: r, q, nd, m => by
    rw [List.map_cons, List.nodup_cons] at nd
    rcases List.mem_cons.mp m with rfl | m
    · exact valV_pos rfl
    · have ne : ¬ p.1 = q.1 := fun z => nd.1 (z ▸ List.mem_map_of_mem m)
      rw [valV_neg ne]
      exact valV_mem nd.2 m
section
variable {P : Program} {w : World} {K : PySem.W.Frag} {mg : Str → Option Value} {base : Heap} {f : Addr} {fd : FuncData}
theorem ok_is_leadB (F : FnP K "is_lead" sIsLead f fd) (FW : Has P w K mg base "is_word" 1 ["thing"] (spIsWord K)) (gi : mg "isinstance" = none) (gd : mg "dict" = none) (gn : mg "len" = none) : FnOk P w K mg base CX0 2 f fd ["thing", "known", "is_whole"] (spIsLeadB K) := by
  refine F.ok scIsLead (fun vs H Q E h => ?_) (fun cdv A outer s H vs Q E hr h => ?_)
  · obtain ⟨v, kt, vals, wh, r, rfl, _⟩ := h
    rfl
  · have hu := hu_of hr
    refine ⟨_, PSs.nox (pss_cons (ps_if (pt_not (pt_val (pe_callB call_isi rfl gi boot_isinstance (pa_cons (pv 0) (pa_cons (pe_bltn (v := .ty "dict") rfl gd boot_dict rfl) pa_nil))))) (pss_one (ps_ret pe_bl)) pss_nil)
      (pss_cons (ps_lock (ps_for PassesOwn.never rfl (pi_keys (pv 0)) (pg_name (i := 3) scIsLead.nd rfl (.inl rfl))
        (pss_one (ps_if (PW.pt (pw_or (pt_not (pt_val (pe_has FW hr (by decide) rfl (pa_cons (pv 3) pa_nil)))) (pw_or (pt_cmpR op_notIn_seq (pv 3) (pv 1) (by with_unfolding_all rfl)) (pw_or (pt_not (pt_val (pe_has FW hr (by decide) rfl (pa_cons (pe_dget hu (pv 0) (pv 3) (fun _ _ => rfl)) pa_nil)))) (pw_or1 (pt_cmpR op_notIn_seq (pe_dget hu (pv 0) (pv 3) (fun _ _ => rfl)) (pv 1) (by with_unfolding_all rfl))))))) (pss_one (ps_ret pe_bl)) pss_nil))))
      (pss_one (ps_ret (pe_or (pe_not (pv 2)) (pe_one (pe_cmp (pc_eqI (pe_callB call_lenD rfl gn boot_len (pa_cons (pv 0) pa_nil)) (pe_callB call_len rfl gn boot_len (pa_cons (pv 1) pa_nil))) rfl))))))), ?_⟩
    obtain ⟨v, kt, vals, wh, r, rfl, sk, vl, lv, hQ⟩ := h
    rcases lv with ⟨T, k, nT, rfl⟩ | ⟨a, kvs, rfl, ha, kl, nd, kd, rfl⟩
    · refine ⟨v, rfl, v, .ty "dict", _, _, decide (T = "dict"), rfl, .ty "dict", k.2.1, kit_dict k.1, _, rfl, ?_⟩
      rw [decide_eq_false nT]
      exact hQ H Ex.refl
    refine ⟨.ref a, rfl, .ref a, .ty "dict", _, _, true, rfl, .ty "dict", .base (.dK ha), kit_ty (by decide +kernel), _, rfl, ?_⟩
    refine ⟨a, _, ha, trivial, fun od => ?_⟩
    have ea : ∀ {H'}, Ex (upd H a (.frz od (.dK kvs))) H' → H' a = some (.frz od (.dK kvs)) := fun x => x _ _ upd_same
    refine ⟨.ref a, rfl, a, od, rfl, .inl ⟨kvs, upd_same, for_it walk_keys (fun i σ H7 => ∃ o3, σ = [some (.ref a), some (.ref kt), some (.bl wh), o3] ∧ Ex (upd H a (.frz od (.dK kvs))) H7 ∧ (kvs.take i).all (rowB vals) = true) ⟨_, rfl, Ex.refl, rfl⟩ (fun i σ H7 _ ⟨_, _, x, _⟩ => ea x) (fun i v σ H7 H8 hi h y => ?_) fun σ H7 h => ?_⟩⟩
    · obtain ⟨o3, rfl, x7, al⟩ := h
      obtain ⟨rfl, k, v2, ek, rfl⟩ := y
      have mq := List.mem_of_getElem? ek
      obtain ⟨⟨T1, k1⟩, T2, k2⟩ := kd _ mq
      have dg : ∀ {H'}, Ex (upd H a (.frz od (.dK kvs))) H' → DGet H' a (kV k) (some v2) := fun x => valV_mem nd mq ▸ .inl ⟨kvs, k, .inr ⟨od, ea x⟩, rfl, rfl⟩
      have bad : rowB vals (k, v2) = false → ∀ Hx, Ex (upd H a (.frz od (.dK kvs))) Hx → Hx a = some (.frz od (.dK kvs)) ∧ Q (.bl false) (upd Hx a (.dK kvs)) := fun rb Hx xx => by
        refine ⟨ea xx, ?_⟩
        have e : leadB vals wh kvs = false := by
          unfold leadB
          rw [show kvs.all (rowB vals) = false from List.all_eq_false.mpr ⟨(k, v2), mq, by rw [rb]; exact Bool.false_ne_true⟩]
          rfl
        exact e ▸ hQ _ (Ex.unlock ha xx)
      have good : rowB vals (k, v2) = true → (kvs.take (i + 1)).all (rowB vals) = true := fun rb => by
        rw [List.take_add_one, ek, List.all_append, al]
        show (rowB vals (k, v2) && true) = true
        rw [rb]
        rfl
      have sqk : ∀ {H'}, Ex (upd H a (.frz od (.dK kvs))) H' → SqT K H' kt (vals.map V.str) := fun x => lock_sqT ha x sk
      have rw0 : rowB vals (k, v2) = (isWd (kV k) && inV (kV k) (vals.map V.str) && isWd v2 && inV v2 (vals.map V.str)) := rfl
      refine ⟨kV k, rfl, kV k, T1, rfl, kd_lock ha x7 k1, fun H8 x8 => ⟨_, rfl, ?_⟩⟩
      have y8 := x7.trans x8
      cases w1 : isWd (kV k) with
      | false => exact bad (by rw [rw0, w1]; rfl) _ y8
      | true =>
        obtain ⟨xs, exs⟩ := isWd_str w1
        refine ⟨kV k, rfl, .ref kt, rfl, kt, vals.map V.str, rfl, .inr (sqk y8), by rw [exs]; rfl, flat_strs vals, _, rfl, ?_⟩
        cases w2 : inV (kV k) (vals.map V.str) with
        | false => exact bad (by rw [rw0, w1, w2]; rfl) _ y8
        | true =>
          refine ⟨.ref a, rfl, kV k, rfl, a, v2, rfl, dg y8, v2, T2, rfl, kd_lock ha y8 k2, fun H9 x9 => ⟨_, rfl, ?_⟩⟩
          have y9 := y8.trans x9
          cases w3 : isWd v2 with
          | false => exact bad (by rw [rw0, w1, w2, w3]; rfl) _ y9
          | true =>
            obtain ⟨zs, ezs⟩ := isWd_str w3
            refine ⟨.ref a, rfl, kV k, rfl, a, v2, rfl, dg y9, .ref kt, rfl, kt, vals.map V.str, rfl, .inr (sqk y9), by rw [ezs]; rfl, flat_strs vals, _, rfl, ?_⟩
            cases w4 : inV v2 (vals.map V.str) with
            | false => exact bad (by rw [rw0, w1, w2, w3, w4]; rfl) _ y9
            | true => exact ⟨_, rfl, y9, good (by rw [rw0, w1, w2, w3, w4]; rfl)⟩
    · obtain ⟨o3, rfl, x7, al⟩ := h
      rw [List.take_length] at al
      refine ⟨ea x7, ?_⟩
      have xu := Ex.unlock ha x7
      have ea2 : upd H7 a (.dK kvs) a = some (.dK kvs) := upd_same
      have lb : leadB vals wh kvs = (!wh || decide (kvs.length = vals.length)) := by unfold leadB; rw [al]; rfl
      rw [lb] at hQ
      refine ⟨.bl wh, rfl, wh, rfl, !wh, rfl, ?_⟩
      cases wh with
      | false => exact hQ _ xu
      | true =>
        refine ⟨.ref a, rfl, a, kvs, rfl, ea2, .ref kt, rfl, .ref kt, vals.length, rfl, .inr (⟨vals.map V.str, xu.sqT sk, by rw [List.length_map]⟩), _, _, rfl, rfl, ?_⟩
        have e : decide ((kvs.length : Int) = (vals.length : Int)) = decide (kvs.length = vals.length) := by
          by_cases z : kvs.length = vals.length
          · rw [decide_eq_true z, decide_eq_true (by omega)]
          · rw [decide_eq_false z, decide_eq_false (by omega)]
        show Q (.bl (decide ((kvs.length : Int) = (vals.length : Int)))) _
        rw [e]
        exact hQ _ xu
end
end TH

/-! B5: first_wrong, with any answer -/
namespace TH
open PySem PySem.Spec PyProof.Rows L2 LamV LamX XK0
open C8 (pss_cut tCut)
open OD
/-- the first wrong name -/
def fwL (bs : List V) : List (V × Bool) → List V
  | [] => []
  | (n, r) :: t => if (!isWd n || inV n bs || !r) = true then [n] else fwL bs t
theorem fwL_step {bs : List V} {nrs : List (V × Bool)} {i : Nat} {n : V} {r : Bool} (h : nrs[i]? = some (n, r)) : fwL bs (nrs.drop i) = if (!isWd n || inV n bs || !r) = true then [n] else fwL bs (nrs.drop (i + 1)) := by
  obtain ⟨lt, e⟩ := List.getElem?_eq_some_iff.mp h
  rw [List.drop_eq_getElem_cons lt, e]
  rfl
theorem LeadV.lock {K : PySem.W.Frag} {H H' : Hp} {a : Addr} {kvs : List (Key × V)} {od : Obj} {vals : List Str} {wh r : Bool} {v : V} (ha : H a = some (.dK kvs)) (x : Ex (upd H a (.frz od (.dK kvs))) H') (ne : v ≠ .ref a) (h : LeadV K H vals wh v r) : LeadV K H' vals wh v r := by
  rcases h with ⟨T, k, n, e⟩ | ⟨b, l, rfl, hb, ln, nd, kd, er⟩
  · exact .inl ⟨T, kd_lock ha x k, n, e⟩
  · exact .inr ⟨b, l, rfl, x _ _ ((upd_ne fun z => ne (by rw [z])).trans hb), ln, nd, fun q m => ⟨(kd q m).1.imp fun _ z => kd_lock ha x z, (kd q m).2.imp fun _ z => kd_lock ha x z⟩, er⟩
/-! ### while a dict of mixed keys is locked -/
section
variable {K : PySem.W.Frag} {H H' : Hp} {a : Addr} {w : World} {rows : List MRow} {od : Obj}
theorem lk_ne {b : Addr} {o : HO} (ha : H a = some (DO w a rows)) (x : Ex (upd H a (.frz od (DO w a rows))) H') (e : H b = some o) (n : ∀ φ, o ≠ .ext φ) : H' b = some o := lock_ne ha x e (n _)
theorem tyx_lk {v : V} {t : Value} (ha : H a = some (DO w a rows)) (x : Ex (upd H a (.frz od (DO w a rows))) H') (h2 : TyX K H v t) : TyX K H' v t := by
  cases h2 with
  | base h =>
    cases h with
    | non => exact .base .non
    | bl b => exact .base (.bl b)
    | int i => exact .base (.int i)
    | str z => exact .base (.str z)
    | flt z => exact .base (.flt z)
    | lst e => exact .base (.lst (lk_ne ha x e fun _ z => nomatch z))
    | frz e => exact .base (.frz (lk_ne ha x e fun _ z => nomatch z))
    | tup e => exact .base (.tup (lk_ne ha x e fun _ z => nomatch z))
    | dK e => exact .base (.dK (lk_ne ha x e fun _ z => nomatch z))
    | dT e => exact .base (.dT (lk_ne ha x e fun _ z => nomatch z))
    | ins e cl ha2 hn htk hm => exact .base (.ins (lk_ne ha x e fun _ z => nomatch z) cl ha2 hn htk hm)
  | byt b => exact .byt b
  | set e => exact .set (lk_ne ha x e fun _ z => nomatch z)
  | kList e c => exact .kList e c
  | kTuple e c => exact .kTuple e c
  | kDict e c => exact .kDict e c
  | fTuple e => exact .fTuple (lk_ne ha x e fun _ z => nomatch z)
  | fDict e => exact .fDict (lk_ne ha x e fun _ z => nomatch z)
theorem kd_lk {v : V} {T : String} (ha : H a = some (DO w a rows)) (x : Ex (upd H a (.frz od (DO w a rows))) H') (h : Kd K H v T) : Kd K H' v T := ⟨h.1, tyx_lk ha x h.2.1, h.2.2⟩
theorem sqT_lk {b : Addr} {xs : List V} (ha : H a = some (DO w a rows)) (x : Ex (upd H a (.frz od (DO w a rows))) H') (h : SqT K H b xs) : SqT K H' b xs := h.imp (Or.imp (fun e => lk_ne ha x e fun _ z => nomatch z) fun ⟨o, e⟩ => ⟨o, lk_ne ha x e fun _ z => nomatch z⟩) id
theorem sqL_lk {b : Addr} {xs : List V} (ha : H a = some (DO w a rows)) (x : Ex (upd H a (.frz od (DO w a rows))) H') (h : SqL K H b xs) : SqL K H' b xs := h.imp (Or.imp (fun e => lk_ne ha x e fun _ z => nomatch z) fun ⟨o, e⟩ => ⟨o, lk_ne ha x e fun _ z => nomatch z⟩) id
theorem NKey.lk {k : NestedKey} {v : V} (ha : H a = some (DO w a rows)) (x : Ex (upd H a (.frz od (DO w a rows))) H') (h : NKey H k v) : NKey H' k v := by
  cases h with
  | non => exact .non
  | int i => exact .int i
  | str y => exact .str y
  | tup T y h => exact .tup T y (lk_ne ha x h fun _ z => nomatch z)
theorem LeadV.lk {vals : List Str} {wh r : Bool} {v : V} (ha : H a = some (DO w a rows)) (x : Ex (upd H a (.frz od (DO w a rows))) H') (h : LeadV K H vals wh v r) : LeadV K H' vals wh v r := by
  rcases h with ⟨T, k, n, e⟩ | ⟨b, l, rfl, hb, ln, nd, kd, er⟩
  · exact .inl ⟨T, kd_lk ha x k, n, e⟩
  · exact .inr ⟨b, l, rfl, (lk_ne ha x hb fun _ z => nomatch z), ln, nd, fun q m => ⟨(kd q m).1.imp fun _ z => kd_lk ha x z, (kd q m).2.imp fun _ z => kd_lk ha x z⟩, er⟩
end
/-- the leads v: the names as they come, and which leads are right -/
def Rows (K : PySem.W.Frag) (w : World) (H : Hp) (vals : List Str) (wh : Bool) (v : V) (nrs : List (V × Bool)) : Prop :=
  (∃ (a : Addr) (kvs : List (Key × V)), v = .ref a ∧ H a = some (.dK kvs) ∧ (kvs.map (·.1)).Nodup ∧ Paired (fun (kv : Key × V) (nr : V × Bool) => nr.1 = kV kv.1 ∧ (∃ T, Kd K H (kV kv.1) T) ∧ kv.2 ≠ .ref a ∧ LeadV K H vals wh kv.2 nr.2) kvs nrs) ∨
  ∃ (a : Addr) (rows : List MRow), v = .ref a ∧ H a = some (DO w a rows) ∧ (∀ r ∈ rows, NKey H r.1 r.2.1) ∧ (rows.map (·.1)).Nodup ∧ Paired (fun (r : MRow) (nr : V × Bool) => nr.1 = r.2.1 ∧ (∃ T, Kd K H r.2.1 T) ∧ LeadV K H vals wh r.2.2 nr.2) rows nrs
theorem Rows.ex {K : PySem.W.Frag} {w : World} {H H' : Hp} {vals : List Str} {wh : Bool} {v : V} {nrs : List (V × Bool)} (x : Ex H H') (h : Rows K w H vals wh v nrs) : Rows K w H' vals wh v nrs := by
  rcases h with ⟨a, kvs, e, ha, nd, pr⟩ | ⟨a, rows, e, ha, nk, nd, pr⟩
  · exact .inl ⟨a, kvs, e, x _ _ ha, nd, Paired.mapP pr fun _ _ ⟨h1, h2, h3, h4⟩ => ⟨h1, h2.imp fun _ z => z.ex x, h3, h4.ex x⟩⟩
  · exact .inr ⟨a, rows, e, x _ _ ha, fun r m => (nk r m).ex x, nd, Paired.mapP pr fun _ _ ⟨h1, h2, h4⟩ => ⟨h1, h2.imp fun _ z => z.ex x, h4.ex x⟩⟩
def spFW0 (K : PySem.W.Frag) : Sp := fun vs H Q _ => ∃ (v kt bl : V) (wh : Bool) (T : String), vs = [v, kt, bl, .bl wh] ∧ Kd K H v T ∧ T ≠ "dict" ∧ ∀ (p : Addr) (H' : Hp), Ex H H' → H p = none → H' p = some (.lst [.non]) → Q (.ref p) H'
def spFW1 (K : PySem.W.Frag) : Sp := fun vs H Q _ => ∃ (a kt bl : Addr) (kvs : List (Key × V)) (nrs : List (V × Bool)) (vals bs : List Str) (wh : Bool), vs = [.ref a, .ref kt, .ref bl, .bl wh] ∧ H a = some (.dK kvs) ∧ (kvs.map (·.1)).Nodup ∧ Paired (fun (kv : Key × V) (nr : V × Bool) => nr.1 = kV kv.1 ∧ (∃ T, Kd K H (kV kv.1) T) ∧ kv.2 ≠ .ref a ∧ LeadV K H vals wh kv.2 nr.2) kvs nrs ∧
  SqT K H kt (vals.map V.str) ∧ SqL K H bl (bs.map V.str) ∧ vals.length ≤ 1000 ∧ ∀ (p : Addr) (H' : Hp), Ex H H' → H p = none → H' p = some (.lst (fwL (bs.map V.str) nrs)) → Q (.ref p) H'
def spFW2 (K : PySem.W.Frag) (w : World) : Sp := fun vs H Q _ => ∃ (a kt bl : Addr) (rows : List MRow) (nrs : List (V × Bool)) (vals bs : List Str) (wh : Bool), vs = [.ref a, .ref kt, .ref bl, .bl wh] ∧ H a = some (DO w a rows) ∧ (∀ r ∈ rows, NKey H r.1 r.2.1) ∧ (rows.map (·.1)).Nodup ∧ Paired (fun (r : MRow) (nr : V × Bool) => nr.1 = r.2.1 ∧ (∃ T, Kd K H r.2.1 T) ∧ LeadV K H vals wh r.2.2 nr.2) rows nrs ∧
  SqT K H kt (vals.map V.str) ∧ SqL K H bl (bs.map V.str) ∧ vals.length ≤ 1000 ∧ ∀ (p : Addr) (H' : Hp), Ex H H' → H p = none → H' p = some (.lst (fwL (bs.map V.str) nrs)) → Q (.ref p) H'
section
variable {P : Program} {w : World} {K : PySem.W.Frag} {mg : Str → Option Value} {base : Heap} {f : Addr} {fd : FuncData}
/-- two promises of one def -/
theorem fn_or {CX : CXT} {k : Nat} {ps : List Str} {s1 s2 : Sp} (F : FnOk P w K mg base CX k f fd ps s1) (G : FnOk P w K mg base CX k f fd ps s2) : FnOk P w K mg base CX k f fd ps (fun vs H Q E => s1 vs H Q E ∨ s2 vs H Q E) where
  len := fun vs H Q E h => h.elim (F.len vs H Q E) (G.len vs H Q E)
  run := fun A outer s H a us vs Q E hr e0 b r h => h.elim (F.run A outer s H a us vs Q E hr e0 b r) (G.run A outer s H a us vs Q E hr e0 b r)
theorem ok_fw0 (F : FnP K "first_wrong" sFirstWrong f fd) (gi : mg "isinstance" = none) (gd : mg "dict" = none) : FnOk P w K mg base CX0 3 f fd ["leads", "known", "barred", "is_whole"] (spFW0 K) := by
  refine F.ok scFirstWrong (fun vs H Q E h => ?_) (fun cdv A outer s H vs Q E hr h => ?_)
  · obtain ⟨v, kt, bl, wh, T, rfl, _⟩ := h
    rfl
  · refine ⟨_, PSs.nox (pss_cons (ps_if (pt_not (pt_val (pe_callB call_isi rfl gi boot_isinstance (pa_cons (pv 0) (pa_cons (pe_bltn (v := .ty "dict") rfl gd boot_dict rfl) pa_nil))))) (pss_one (ps_ret (pe_lst (pa_cons pe_non pa_nil)))) pss_nil) pss_dead), ?_⟩
    obtain ⟨v, kt, bl, wh, T, rfl, k, nT, hQ⟩ := h
    refine ⟨v, rfl, v, .ty "dict", _, _, decide (T = "dict"), rfl, .ty "dict", k.2.1, kit_dict k.1, _, rfl, ?_⟩
    rw [decide_eq_false nT]
    exact ⟨by show 1 ≤ sizeLine; decide, fun p np => hQ p _ (Ex.new np) np upd_same⟩
theorem ok_fw1 (F : FnP K "first_wrong" sFirstWrong f fd) (FW : Has P w K mg base "is_word" 1 ["thing"] (spIsWord K)) (FI : Has P w K mg base "is_lead" 2 ["thing", "known", "is_whole"] (spIsLeadB K)) (gi : mg "isinstance" = none) (gd : mg "dict" = none) : FnOk P w K mg base CX0 3 f fd ["leads", "known", "barred", "is_whole"] (spFW1 K) := by
  refine F.ok scFirstWrong (fun vs H Q E h => ?_) (fun cdv A outer s H vs Q E hr h => ?_)
  · obtain ⟨a, kt, bl, kvs, nrs, vals, bs, wh, rfl, _⟩ := h
    rfl
  · have hu := hu_of hr
    refine ⟨_, PSs.nox (pss_cons (ps_if (pt_not (pt_val (pe_callB call_isi rfl gi boot_isinstance (pa_cons (pv 0) (pa_cons (pe_bltn (v := .ty "dict") rfl gd boot_dict rfl) pa_nil))))) (pss_one ps_dead) pss_nil)
      (pss_cons (ps_lock (ps_for PassesOwn.never rfl (pi_keys (pv 0)) (pg_name (i := 4) scFirstWrong.nd rfl (.inl rfl))
        (pss_one (ps_if (PW.pt (pw_or (pt_not (pt_val (pe_has FW hr (by decide) rfl (pa_cons (pv 4) pa_nil)))) (pw_or (pt_cmpR op_in_seq (pv 4) (pv 2) (by with_unfolding_all rfl)) (pw_or1 (pt_not (pt_val (pe_has FI hr (by decide) rfl (pa_cons (pe_dget hu (pv 0) (pv 4) (fun _ _ => rfl)) (pa_cons (pv 1) (pa_cons (pv 3) pa_nil)))))))))) (pss_one (ps_ret (pe_lst (pa_cons (pv 4) pa_nil)))) pss_nil))))
      (pss_one (ps_ret (pe_lst pa_nil))))), ?_⟩
    obtain ⟨a, kt, bl, kvs, nrs, vals, bs, wh, rfl, ha, nd, pr, sk, sb, vl, hQ⟩ := h
    refine ⟨.ref a, rfl, .ref a, .ty "dict", _, _, true, rfl, .ty "dict", .base (.dK ha), kit_ty (by decide +kernel), _, rfl, ?_⟩
    refine ⟨a, _, ha, trivial, fun od => ?_⟩
    have ea : ∀ {H'}, Ex (upd H a (.frz od (.dK kvs))) H' → H' a = some (.frz od (.dK kvs)) := fun x => x _ _ upd_same
    have lockL : ∀ {H'} {b xs}, Ex (upd H a (.frz od (.dK kvs))) H' → SqL K H b xs → SqL K H' b xs := fun x e => by
      refine x.sqL (e.imp (Or.imp (fun z => (upd_ne fun q => ?_).trans z) fun ⟨o, z⟩ => ⟨o, (upd_ne fun q => ?_).trans z⟩) id)
      · rw [q, ha] at z; cases z
      · rw [q, ha] at z; cases z
    refine ⟨.ref a, rfl, a, od, rfl, .inl ⟨kvs, upd_same, for_it walk_keys (fun i σ H7 => ∃ o3, σ = [some (.ref a), some (.ref kt), some (.ref bl), some (.bl wh), o3] ∧ Ex (upd H a (.frz od (.dK kvs))) H7 ∧ fwL (bs.map V.str) nrs = fwL (bs.map V.str) (nrs.drop i)) ⟨_, rfl, Ex.refl, rfl⟩ (fun i σ H7 _ ⟨_, _, x, _⟩ => ea x) (fun i v σ H7 H8 hi h y => ?_) fun σ H7 h => ?_⟩⟩
    · obtain ⟨o3, rfl, x7, eq⟩ := h
      obtain ⟨rfl, k, v2, ek, rfl⟩ := y
      obtain ⟨⟨n, r⟩, en, r1, ⟨T1, k1⟩, ne, lv⟩ := L2.paired_get pr ek
      have r1 : n = kV k := r1
      subst r1
      have dg : ∀ {H'}, Ex (upd H a (.frz od (.dK kvs))) H' → DGet H' a (kV k) (some v2) := fun x => valV_mem nd (List.mem_of_getElem? ek) ▸ .inl ⟨kvs, k, .inr ⟨od, ea x⟩, rfl, rfl⟩
      have lvx : ∀ {H'}, Ex (upd H a (.frz od (.dK kvs))) H' → LeadV K H' vals wh v2 r := fun x => lv.lock ha x ne
      rw [fwL_step en] at eq
      have bad : (!isWd (kV k) || inV (kV k) (bs.map V.str) || !r) = true → ∀ Hx p, Ex (upd H a (.frz od (.dK kvs))) Hx → Hx p = none → upd Hx p (.lst [kV k]) a = some (.frz od (.dK kvs)) ∧ Q (.ref p) (upd (upd Hx p (.lst [kV k])) a (.dK kvs)) := fun b Hx p xx np => by
        rw [if_pos b] at eq
        have z := xx.trans (Ex.new (o := .lst [kV k]) np)
        have pa : p ≠ a := fun z2 => by rw [z2, ea xx] at np; cases np
        have npH : H p = none := by
          cases q : H p with
          | none => rfl
          | some o => rw [xx _ _ ((upd_ne pa).trans q)] at np; cases np
        exact ⟨ea z, hQ p _ (Ex.unlock ha z) npH ((upd_ne pa).trans (by rw [upd_same, eq]))⟩
      refine ⟨kV k, rfl, kV k, T1, rfl, kd_lock ha x7 k1, fun H8 x8 => ⟨_, rfl, ?_⟩⟩
      have y8 := x7.trans x8
      cases w1 : isWd (kV k) with
      | false => exact ⟨kV k, rfl, by show 1 ≤ sizeLine; decide, fun p np => bad (by rw [w1]; rfl) _ p y8 np⟩
      | true =>
        obtain ⟨xs, exs⟩ := isWd_str w1
        refine ⟨kV k, rfl, .ref bl, rfl, bl, bs.map V.str, rfl, .inl (lockL y8 sb), by rw [exs]; rfl, flat_strs bs, _, rfl, ?_⟩
        cases w2 : inV (kV k) (bs.map V.str) with
        | true => exact ⟨kV k, rfl, by show 1 ≤ sizeLine; decide, fun p np => bad (by rw [w1, w2]; rfl) _ p y8 np⟩
        | false =>
          refine ⟨.ref a, rfl, kV k, rfl, a, v2, rfl, dg y8, .ref kt, rfl, .bl wh, rfl, v2, kt, vals, wh, r, rfl, lock_sqT ha y8 sk, vl, lvx y8, fun H9 x9 => ⟨_, rfl, ?_⟩⟩
          cases r with
          | false => exact ⟨kV k, rfl, by show 1 ≤ sizeLine; decide, fun p np => bad (by rw [w1, w2]; rfl) _ p (y8.trans x9) np⟩
          | true =>
            rw [if_neg (by rw [w1, w2]; decide)] at eq
            exact ⟨_, rfl, y8.trans x9, eq⟩
    · obtain ⟨o3, rfl, x7, eq⟩ := h
      rw [(Paired.length pr), List.drop_length] at eq
      refine ⟨ea x7, Nat.zero_le _, fun p np => ?_⟩
      have xu := Ex.unlock ha x7
      exact hQ p _ (xu.trans (Ex.new np)) (xu.none np) (by rw [upd_same, eq]; rfl)
theorem ok_fw2 (F : FnP K "first_wrong" sFirstWrong f fd) (FW : Has P w K mg base "is_word" 1 ["thing"] (spIsWord K)) (FI : Has P w K mg base "is_lead" 2 ["thing", "known", "is_whole"] (spIsLeadB K)) (gi : mg "isinstance" = none) (gd : mg "dict" = none) : FnOk P w K mg base CX0 3 f fd ["leads", "known", "barred", "is_whole"] (spFW2 K w) := by
  refine F.ok scFirstWrong (fun vs H Q E h => ?_) (fun cdv A outer s H vs Q E hr h => ?_)
  · obtain ⟨a, kt, bl, rows, nrs, vals, bs, wh, rfl, _⟩ := h
    rfl
  · have h64 := hr.units
    refine ⟨_, PSs.nox (pss_cons (ps_if (pt_not (pt_val (pe_callB call_isO rfl gi boot_isinstance (pa_cons (pv 0) (pa_cons (pe_bltn (v := .ty "dict") rfl gd boot_dict rfl) pa_nil))))) (pss_one ps_dead) pss_nil)
      (pss_cons (ps_lock (ps_for PassesOwn.never rfl (pi_odd (pv 0)) (pg_name (i := 4) scFirstWrong.nd rfl (.inl rfl))
        (pss_one (ps_if (PW.pt (pw_or (pt_not (pt_val (pe_has FW hr (by decide) rfl (pa_cons (pv 4) pa_nil)))) (pw_or (pt_cmpR op_in_seq (pv 4) (pv 2) (by with_unfolding_all rfl)) (pw_or1 (pt_not (pt_val (pe_has FI hr (by decide) rfl (pa_cons (pe_ix (ix_odd (by exact Nat.lt_of_le_of_lt (Nat.add_le_add_left (by decide) _) h64)) (pv 0) (pv 4) (fun _ _ => rfl)) (pa_cons (pv 1) (pa_cons (pv 3) pa_nil)))))))))) (pss_one (ps_ret (pe_lst (pa_cons (pv 4) pa_nil)))) pss_nil))))
      (pss_one (ps_ret (pe_lst pa_nil))))), ?_⟩
    obtain ⟨a, kt, bl, rows, nrs, vals, bs, wh, rfl, ha, nk, nd, pr, sk, sb, vl, hQ⟩ := h
    refine ⟨.ref a, rfl, a, rows, rfl, .inl ha, true, rfl, ?_⟩
    refine ⟨a, _, ha, trivial, fun od => ?_⟩
    have ea : ∀ {H'}, Ex (upd H a (.frz od (DO w a rows))) H' → H' a = some (.frz od (DO w a rows)) := fun x => x _ _ upd_same
    refine ⟨.ref a, rfl, a, od, rows, rfl, upd_same, for_it walk_odd (fun i σ H7 => ∃ o3, σ = [some (.ref a), some (.ref kt), some (.ref bl), some (.bl wh), o3] ∧ Ex (upd H a (.frz od (DO w a rows))) H7 ∧ fwL (bs.map V.str) nrs = fwL (bs.map V.str) (nrs.drop i)) ⟨_, rfl, Ex.refl, rfl⟩ (fun i σ H7 _ ⟨_, _, x, _⟩ => ea x) (fun i v σ H7 H8 hi h y => ?_) fun σ H7 h => ?_⟩
    · obtain ⟨o3, rfl, x7, eq⟩ := h
      obtain ⟨rfl, ⟨kk, nm, v2⟩, ek, exv⟩ := y
      obtain ⟨⟨n, r⟩, en, r1, ⟨T1, k1⟩, lv⟩ := L2.paired_get pr ek
      obtain rfl : n = nm := r1
      obtain rfl : v = n := exv
      have k1 : Kd K H v T1 := k1
      have lv : LeadV K H vals wh v2 r := lv
      rw [fwL_step en] at eq
      have bad : (!isWd v || inV v (bs.map V.str) || !r) = true → ∀ Hx p, Ex (upd H a (.frz od (DO w a rows))) Hx → Hx p = none → upd Hx p (.lst [v]) a = some (.frz od (DO w a rows)) ∧ Q (.ref p) (upd (upd Hx p (.lst [v])) a (DO w a rows)) := fun b Hx p xx np => by
        rw [if_pos b] at eq
        have z := xx.trans (Ex.new (o := .lst [v]) np)
        have pa : p ≠ a := fun z2 => by rw [z2, ea xx] at np; cases np
        have npH : H p = none := by
          cases q : H p with
          | none => rfl
          | some o => rw [xx _ _ ((upd_ne pa).trans q)] at np; cases np
        exact ⟨ea z, hQ p _ (Ex.unlock ha z) npH ((upd_ne pa).trans (by rw [upd_same, eq]))⟩
      refine ⟨v, rfl, v, T1, rfl, kd_lk ha x7 k1, fun H8 x8 => ⟨_, rfl, ?_⟩⟩
      have y8 := x7.trans x8
      cases w1 : isWd v with
      | false => exact ⟨v, rfl, by show 1 ≤ sizeLine; decide, fun p np => bad (by rw [w1]; rfl) _ p y8 np⟩
      | true =>
        obtain ⟨xs, exs⟩ := isWd_str w1
        refine ⟨v, rfl, .ref bl, rfl, bl, bs.map V.str, rfl, .inl (sqL_lk ha y8 sb), by rw [exs]; rfl, flat_strs bs, _, rfl, ?_⟩
        cases w2 : inV v (bs.map V.str) with
        | true => exact ⟨v, rfl, by show 1 ≤ sizeLine; decide, fun p np => bad (by rw [w1, w2]; rfl) _ p y8 np⟩
        | false =>
          refine ⟨.ref a, rfl, v, rfl, a, rows, i, (kk, v, v2), rfl, .inr ⟨od, ea y8⟩, fun q m => NKey.lk ha y8 (nk q m), nd, ek, rfl, .ref kt, rfl, .bl wh, rfl, v2, kt, vals, wh, r, rfl, sqT_lk ha y8 sk, vl, lv.lk ha y8, fun H9 x9 => ⟨_, rfl, ?_⟩⟩
          cases r with
          | false => exact ⟨v, rfl, by show 1 ≤ sizeLine; decide, fun p np => bad (by rw [w1, w2]; rfl) _ p (y8.trans x9) np⟩
          | true =>
            rw [if_neg (by rw [w1, w2]; decide)] at eq
            exact ⟨_, rfl, y8.trans x9, eq⟩
    · obtain ⟨o3, rfl, x7, eq⟩ := h
      rw [(Paired.length pr), List.drop_length] at eq
      refine ⟨ea x7, Nat.zero_le _, fun p np => ?_⟩
      have xu := Ex.unlock ha x7
      exact hQ p _ (xu.trans (Ex.new np)) (xu.none np) (by rw [upd_same, eq]; rfl)
/-- first_wrong, of any object -/
def spFW (K : PySem.W.Frag) (w : World) : Sp := fun vs H Q E => spFW0 K vs H Q E ∨ spFW1 K vs H Q E ∨ spFW2 K w vs H Q E
theorem ok_fw (F : FnP K "first_wrong" sFirstWrong f fd) (FW : Has P w K mg base "is_word" 1 ["thing"] (spIsWord K)) (FI : Has P w K mg base "is_lead" 2 ["thing", "known", "is_whole"] (spIsLeadB K)) (gi : mg "isinstance" = none) (gd : mg "dict" = none) : FnOk P w K mg base CX0 3 f fd ["leads", "known", "barred", "is_whole"] (spFW K w) :=
  fn_or (ok_fw0 F gi gd) (fn_or (ok_fw1 F FW FI gi gd) (ok_fw2 F FW FI gi gd))
end
end TH

/-! B6: ordered, Thing.__init__: new dicts; the values a list or a tuple (printed out of A22, A23 by gen_b6.py) -/
namespace TH
open PySem PySem.Spec PyProof.Rows L2 LamV LamX XK0
open C8 (pss_cut tCut)
theorem exA_fresh {p b : Addr} {H H' : Hp} {o : HO} (x : ExA p H H') (hp : H' p = some o) (n : H' b = none) : H b = none := by
  cases q : H b with
  | none => rfl
  | some u =>
    rw [x b u (fun z => by rw [z, hp] at n; cases n) q] at n
    cases n
/-- a dict of dicts, all of them not there before -/
def DF (H0 H : Hp) (a : Addr) (ls : Lds) : Prop := H0 a = none ∧ ∃ kvs : List (Key × V), H a = some (.dK kvs) ∧ Paired (fun (l : Str × Ld) (kv : Key × V) => kv.1 = Sum.inr l.1 ∧ ∃ b, kv.2 = .ref b ∧ H0 b = none ∧ H b = some (.dK (ldV l.2))) ls kvs
theorem DF.dd {H0 H : Hp} {a : Addr} {ls : Lds} (h : DF H0 H a ls) : DD H a ls := by
  obtain ⟨_, kvs, e, p⟩ := h
  exact ⟨kvs, e, Paired.mapP p fun _ _ ⟨e1, b, e2, _, e3⟩ => ⟨e1, b, e2, e3⟩⟩
theorem DF.keep {H0 H H' : Hp} {a : Addr} {ls : Lds} (h : DF H0 H a ls) (k : ∀ b o, H0 b = none → H b = some o → (∃ l, o = .dK l) → H' b = some o) : DF H0 H' a ls := by
  obtain ⟨n, kvs, e, p⟩ := h
  exact ⟨n, kvs, k _ _ n e ⟨_, rfl⟩, Paired.mapP p fun _ _ ⟨e1, b, e2, e4, e3⟩ => ⟨e1, b, e2, e4, k _ _ e4 e3 ⟨_, rfl⟩⟩⟩
theorem DF.ex {H0 H H' : Hp} {a : Addr} {ls : Lds} (x : Ex H H') (h : DF H0 H a ls) : DF H0 H' a ls := h.keep fun b o _ e _ => x b o e
theorem DF.exA {H0 H H' : Hp} {p a C dx : Addr} {fs : List (Str × V)} {ls : Lds} (h : DF H0 H a ls) (x : ExA p H H') (hp : H p = some (.ins C dx fs)) : DF H0 H' a ls := h.keep fun b o _ e ⟨l, z⟩ => x.non hp e (by rw [z]; exact fun q => nomatch q)
theorem DF.old {H0 G0 H : Hp} {a : Addr} {ls : Lds} (h : DF H0 H a ls) (k : ∀ b, H0 b = none → G0 b = none) : DF G0 H a ls := by
  obtain ⟨n, kvs, e, p⟩ := h
  exact ⟨k _ n, kvs, e, Paired.mapP p fun _ _ ⟨e1, b, e2, e4, e3⟩ => ⟨e1, b, e2, k _ e4, e3⟩⟩
/-- the object t is the Thing d of the class C; its dicts were not there before -/
def IsThF (H0 H : Hp) (C t : Addr) (d : ThD) : Prop := ∃ dx vt dd de, H t = some (.ins C dx [("kept_values", .ref vt), ("kept_start", .str d.start), ("kept_deeds", .ref dd), ("kept_entries", .ref de)]) ∧ H vt = some (.tup (d.vals.map V.str)) ∧ DF H0 H dd d.deeds ∧ DF H0 H de d.ents
theorem IsThF.th {H0 H : Hp} {C t : Addr} {d : ThD} (h : IsThF H0 H C t d) : IsTh H C t d := by
  obtain ⟨dx, vt, dd, de, e1, e2, e3, e4⟩ := h
  exact ⟨dx, vt, dd, de, e1, e2, e3.dd, e4.dd⟩
/-- it stands while only old lists and dicts are written -/
theorem IsThF.keep {H0 H H' : Hp} {C t : Addr} {d : ThD} (h : IsThF H0 H C t d) (k : ∀ b o, H0 b = none ∨ ((∀ xs, o ≠ .lst xs) ∧ ∀ l, o ≠ .dK l) → H b = some o → H' b = some o) : IsThF H0 H' C t d := by
  obtain ⟨dx, vt, dd, de, e1, e2, e3, e4⟩ := h
  exact ⟨dx, vt, dd, de, k _ _ (.inr ⟨fun _ z => (nomatch z), fun _ z => nomatch z⟩) e1, k _ _ (.inr ⟨fun _ z => (nomatch z), fun _ z => nomatch z⟩) e2, e3.keep fun b o n e _ => k b o (.inl n) e, e4.keep fun b o n e _ => k b o (.inl n) e⟩
theorem IsThF.ex {H0 H H' : Hp} {C t : Addr} {d : ThD} (x : Ex H H') (h : IsThF H0 H C t d) : IsThF H0 H' C t d := h.keep fun b o _ e => x b o e
theorem IsThF.old {H0 G0 H : Hp} {C t : Addr} {d : ThD} (h : IsThF H0 H C t d) (k : ∀ b, H0 b = none → G0 b = none) : IsThF G0 H C t d := by
  obtain ⟨dx, vt, dd, de, e1, e2, e3, e4⟩ := h
  exact ⟨dx, vt, dd, de, e1, e2, e3.old k, e4.old k⟩
def PRf (H0 : Hp) (N : Addr) (H : Hp) (lds : Lds) (kvs : List (Key × V)) : Prop := Paired (fun (l : Str × Ld) (kv : Key × V) => kv.1 = Sum.inr l.1 ∧ ∃ b, kv.2 = .ref b ∧ b ≠ N ∧ H0 b = none ∧ H b = some (.dK (ldV l.2))) lds kvs
theorem PRf.pr {H0 : Hp} {N : Addr} {H : Hp} {lds : Lds} {kvs : List (Key × V)} (p : PRf H0 N H lds kvs) : PR H lds kvs := Paired.mapP p fun _ _ ⟨e1, b, e2, _, _, e3⟩ => ⟨e1, b, e2, e3⟩
/-- the inner dict -/
def tINT (K : PySem.W.Frag) : TE := tDc (iTup K (tVar 1)) (gName 3) (tTest (tDIn (tVar 3) (tDGet (tVar 0) (tVar 2)))) (tVar 3) (tDGet (tDGet (tVar 0) (tVar 2)) (tVar 3)) [3]
theorem inner_goT {K : PySem.W.Frag} {σ : L2.St} {H : Hp} {Q : VK} {a kl b : Addr} {name : Str} {kvs : List (Key × V)} {l : Ld} {vals : List Str} (len : σ.length = 4) (s0 : σ[0]? = some (some (.ref a))) (s1 : σ[1]? = some (some (.ref kl))) (s2 : σ[2]? = some (some (.str name)))
    (ha : H a = some (.dK kvs)) (hv : valV kvs (Sum.inr name) = some (.ref b)) (hb : H b = some (.dK (ldV l))) (hk : SqT K H kl (vals.map V.str)) (nd : vals.Nodup) (vl : vals.length ≤ 1000)
    (hQ : ∀ (p : Addr) (H' : Hp), Ex H H' → H p = none → H' p = some (.dK (ldV (ordL vals l))) → Q (.ref p) H') : tINT K σ H Q := by
  refine ⟨.ref kl, s1, kl, rfl, ⟨_, hk⟩, fun D nD => ?_⟩
  refine dc_it (walk_tup (xs := vals.map V.str)) (fun i H2 => Ex H H2 ∧ H2 D = some (.dK (ldV (ordL (vals.take i) l)))) ⟨Ex.new nD, upd_same⟩ (fun i H2 _ h => h.1.sqT hk) (fun i v H2 H3 hi h y => ?_) fun H2 h => ?_
  · obtain ⟨x2, hD⟩ := h
    obtain ⟨rfl, y⟩ := y
    rw [List.getElem?_map] at y
    obtain ⟨w, ew, rfl⟩ := Option.map_eq_some_iff.mp y
    have a3 : (((wipe σ [3]).set 3 (some (V.str w))))[3]? = some (some (V.str w)) := List.getElem?_set_self (by rw [wipe_length, len]; decide)
    have up : ∀ j, j ≠ 3 → (((wipe σ [3]).set 3 (some (V.str w))))[j]? = σ[j]? := fun j hj => by
      rw [List.getElem?_set_ne hj.symm]
      exact List.getElem?_set_ne hj.symm
    have a0 := (up 0 (by decide)).trans s0
    have a2 := (up 2 (by decide)).trans s2
    have g1 : DGet H3 a (.str name) (some (.ref b)) := hv ▸ DGet.k (k := Sum.inr name) (x2 _ _ ha)
    have g2 : DGet H3 b (.str w) (valV (ldV l) (Sum.inr w)) := DGet.k (k := Sum.inr w) (x2 _ _ hb)
    refine ⟨?_, .str w, a3, .ref a, a0, .str name, a2, a, .ref b, rfl, g1, b, _, rfl, g2, _, rfl, ?_⟩
    · show ((σ.set 3 none).set 3 (some (V.str w))).set 3 none = σ.set 3 none
      rw [List.set_set, List.set_set]
    rw [List.take_add_one, ew, Option.toList_some, ordL_snoc]
    rw [lookL_val] at g2 ⊢
    cases q : lookL l w with
    | none => exact ⟨x2, by rw [List.append_nil]; exact hD⟩
    | some g =>
      rw [q] at g2
      have fr : (Sum.inr w : Key) ∉ (ldV (ordL (vals.take i) l)).map (·.1) := fun z => by
        rw [ldV_keys] at z
        obtain ⟨u, mu, eu⟩ := List.mem_map.mp z
        cases eu
        exact take_fresh nd ew (ordL_keys mu)
      have ln : (ldV (ordL (vals.take i) l)).length ≤ vals.length := by
        unfold ldV
        rw [List.length_map]
        exact Nat.le_trans (ordL_len _ _) (by rw [List.length_take]; exact Nat.min_le_right _ _)
      refine ⟨.str w, a3, .ref a, a0, .str name, a2, a, .ref b, rfl, g1, .str w, a3, b, .str g, rfl, g2, _, Sum.inr w, rfl, hD, by rw [sizeLine_eq]; omega, fun c o e => (upd_ne fun z => by rw [z, nD] at e; cases e).trans (x2 _ _ e), ?_⟩
      rw [upd_same, putK_fresh fr]
      unfold ldV
      rw [List.map_append]
      rfl
  · obtain ⟨x2, hD⟩ := h
    rw [List.length_map, List.take_length] at hD
    exact hQ D H2 x2 nD hD
def spOrderedL (K : PySem.W.Frag) : Sp := fun vs H Q _ => ∃ (a kl : Addr) (lds : Lds) (vals : List Str), vs = [.ref a, .ref kl] ∧ DD H a lds ∧ (lds.map (·.1)).Nodup ∧ lds.length < 64 ∧ SqL K H kl (vals.map V.str) ∧ vals.Nodup ∧ vals.length ≤ 1000 ∧
  ∀ (p : Addr) (H' : Hp) (ns : List Str), ns.Perm (lds.map (·.1)) → sortedS ns = true → Ex H H' → H p = none → DF H H' p (ordD vals lds ns) → Q (.ref p) H'
def spOrderedT (K : PySem.W.Frag) : Sp := fun vs H Q _ => ∃ (a kl : Addr) (lds : Lds) (vals : List Str), vs = [.ref a, .ref kl] ∧ DD H a lds ∧ (lds.map (·.1)).Nodup ∧ lds.length < 64 ∧ SqT K H kl (vals.map V.str) ∧ vals.Nodup ∧ vals.length ≤ 1000 ∧
  ∀ (p : Addr) (H' : Hp) (ns : List Str), ns.Perm (lds.map (·.1)) → sortedS ns = true → Ex H H' → H p = none → DF H H' p (ordD vals lds ns) → Q (.ref p) H'
def spInitL (K : PySem.W.Frag) (C : Addr) : Sp := fun vs H Q _ => ∃ (p dx vl dd de : Addr) (d : ThD), vs = [.ref p, .ref vl, .str d.start, .ref dd, .ref de] ∧ H p = some (.ins C dx []) ∧ SqL K H vl (d.vals.map V.str) ∧ DD H dd d.deeds ∧ DD H de d.ents ∧ d.Fit ∧
  ∀ (H' : Hp) (d' : ThD), ExA p H H' → IsThF H H' C p d' → IsOrd d d' → Q .non H'
def spInitT (K : PySem.W.Frag) (C : Addr) : Sp := fun vs H Q _ => ∃ (p dx vl dd de : Addr) (d : ThD), vs = [.ref p, .ref vl, .str d.start, .ref dd, .ref de] ∧ H p = some (.ins C dx []) ∧ H vl = some (.tup (d.vals.map V.str)) ∧ DD H dd d.deeds ∧ DD H de d.ents ∧ d.Fit ∧
  ∀ (H' : Hp) (d' : ThD), ExA p H H' → IsThF H H' C p d' → IsOrd d d' → Q .non H'
section
variable {P : Program} {w : World} {K : PySem.W.Frag} {mg : Str → Option Value} {base : Heap} {f C CN CB : Addr} {fd : FuncData}
theorem ok_orderedL (F : FnP K "ordered" sOrdered f fd) (gs : mg "sorted" = none) : FnOk P w K mg base CX0 1 f fd ["leads", "known"] (spOrderedL K) := by
  refine F.ok scOrdered (fun vs H Q E h => ?_) (fun cdv A outer s H vs Q E hr h => ?_)
  · obtain ⟨a, kl, lds, vals, rfl, _⟩ := h
    rfl
  · have hu := hu_of hr
    refine ⟨_, PSs.nox (pss_one (ps_ret (pe_dc (own := [("name", 2)]) (tk := tVar 2) (tv := tIN K) rfl scOrdered.nd (pi_list (pe_callB (call_sortedD rfl) rfl gs boot_sorted (pa_cons (pv 0) pa_nil))) (blkOk_by (by kernel_rfl)) (fun s H C cl fp => pg_name (i := 2) scOrdered.nd rfl (.inr rfl) (.inl rfl)) (fun s H C cl fp => pts_nil) (fun s H C cl fp => pv 2)
      (fun s H C cl fp => pe_dc (own := [("value", 3)]) (tt := tTest (tDIn (tVar 3) (tDGet (tVar 0) (tVar 2)))) (tk := tVar 3) (tv := tDGet (tDGet (tVar 0) (tVar 2)) (tVar 3)) rfl scOrdered.nd (pi_list (pv 1)) (blkOk_by (by kernel_rfl)) (fun s H C cl fp => pg_name (i := 3) scOrdered.nd rfl (.inl rfl) (.inr rfl))
        (fun s H C cl fp => pts_one (pt_cmp (pc_din hu (pv 3) (pe_dget hu (pv 0) (pv 2) (fun _ _ => rfl))))) (fun s H C cl fp => pv 3) (fun s H C cl fp => pe_dget hu (pe_dget hu (pv 0) (pv 2) (fun _ _ => rfl)) (pv 3) (fun _ _ => rfl)))))), ?_⟩
    obtain ⟨a, kl, lds, vals, rfl, ⟨kvs, ha, pr⟩, knd, kln, sk, nd, vl, hQ⟩ := h
    refine ⟨.ref a, rfl, a, kvs, lds.map (·.1), rfl, .inl ha, PR.keys pr, by rw [List.length_map]; exact kln, fun ns q pm so nq => ?_⟩
    have x1 : Ex H (upd H q (.lst (ns.map V.str))) := Ex.new nq
    have hq : upd H q (.lst (ns.map V.str)) q = some (.lst (ns.map V.str)) := upd_same
    generalize upd H q (.lst (ns.map V.str)) = H1 at x1 hq ⊢
    refine ⟨q, rfl, ⟨_, .inl (.inl hq)⟩, fun D nD => ?_⟩
    have nnd : ns.Nodup := pm.nodup_iff.mpr knd
    have nln : ns.length < 64 := by rw [pm.length_eq, List.length_map]; exact kln
    refine dc_it (walk_list (xs := ns.map V.str)) (fun i H2 => Ex H1 H2 ∧ ∃ ks, H2 D = some (.dK ks) ∧ PRf H D H2 (ordD vals lds (ns.take i)) ks) ⟨Ex.new nD, [], upd_same, .nil⟩ (fun i H2 _ h => .inl (.inl (h.1 _ _ hq))) (fun i v H2 H3 hi h y => ?_) fun H2 h => ?_
    · obtain ⟨x2, ks, hD, pk⟩ := h
      obtain ⟨rfl, y⟩ := y
      rw [List.getElem?_map] at y
      obtain ⟨n, en, rfl⟩ := Option.map_eq_some_iff.mp y
      have y2 := x1.trans x2
      have mn : n ∈ lds.map (·.1) := pm.mem_iff.mp (List.mem_of_getElem? en)
      rcases look_val pr n with ⟨z, _⟩ | ⟨l, b, z1, z2, z3⟩
      · have := look_mem mn
        rw [z] at this
        cases this
      · refine ⟨rfl, .str n, rfl, ?_⟩
        refine inner_go (b := b) (l := l) rfl rfl rfl rfl (y2 _ _ ha) z2 (y2 _ _ z3) (y2.sqL sk) nd vl fun p H4 x4 np hp => ?_
        have fr : (Sum.inr n : Key) ∉ ks.map (·.1) := fun z => by
          rw [pk.pr.keys] at z
          obtain ⟨u, mu, eu⟩ := List.mem_map.mp z
          cases eu
          unfold ordD at mu
          rw [List.map_map] at mu
          obtain ⟨u, m2, e2⟩ := List.mem_map.mp mu
          have e2 : u = n := e2
          subst e2
          exact take_fresh nnd en m2
        have kl2 : ks.length < 64 := by
          have e := congrArg List.length pk.pr.keys
          unfold ordD at e
          simp only [List.length_map, List.length_take] at e
          omega
        have pD : p ≠ D := fun z => by rw [z, hD] at np; cases np
        refine ⟨ks, Sum.inr n, rfl, x4 _ _ hD, by rw [sizeLine_eq]; omega, fun c o e => (upd_ne fun z => by rw [z, nD] at e; cases e).trans (x4 _ _ (x2 _ _ e)), _, upd_same, ?_⟩
        rw [putK_fresh fr, List.take_add_one, en, Option.toList_some]
        unfold ordD
        rw [List.map_append]
        refine paired_app (Paired.mapP pk fun l' kv ⟨q1, b', q2, q4, q5, q3⟩ => ⟨q1, b', q2, q4, q5, (upd_ne q4).trans (x4 _ _ q3)⟩) ⟨rfl, p, rfl, pD, y2.none np, (upd_ne pD).trans ?_⟩
        rw [hp]
        show _ = some (HO.dK (ldV (ordL vals ((look lds n).getD []))))
        rw [z1]
        rfl
    · obtain ⟨x2, ks, hD, pk⟩ := h
      rw [List.length_map, List.take_length] at pk
      exact hQ D H2 ns pm so (x1.trans x2) (x1.none nD) ⟨x1.none nD, ks, hD, Paired.mapP pk fun _ _ ⟨q1, b', q2, _, q5, q3⟩ => ⟨q1, b', q2, q5, q3⟩⟩
theorem ok_orderedT (F : FnP K "ordered" sOrdered f fd) (gs : mg "sorted" = none) : FnOk P w K mg base CX0 1 f fd ["leads", "known"] (spOrderedT K) := by
  refine F.ok scOrdered (fun vs H Q E h => ?_) (fun cdv A outer s H vs Q E hr h => ?_)
  · obtain ⟨a, kl, lds, vals, rfl, _⟩ := h
    rfl
  · have hu := hu_of hr
    refine ⟨_, PSs.nox (pss_one (ps_ret (pe_dc (own := [("name", 2)]) (tk := tVar 2) (tv := tINT K) rfl scOrdered.nd (pi_list (pe_callB (call_sortedD rfl) rfl gs boot_sorted (pa_cons (pv 0) pa_nil))) (blkOk_by (by kernel_rfl)) (fun s H C cl fp => pg_name (i := 2) scOrdered.nd rfl (.inr rfl) (.inl rfl)) (fun s H C cl fp => pts_nil) (fun s H C cl fp => pv 2)
      (fun s H C cl fp => pe_dc (own := [("value", 3)]) (tt := tTest (tDIn (tVar 3) (tDGet (tVar 0) (tVar 2)))) (tk := tVar 3) (tv := tDGet (tDGet (tVar 0) (tVar 2)) (tVar 3)) rfl scOrdered.nd (pi_tup (pv 1)) (blkOk_by (by kernel_rfl)) (fun s H C cl fp => pg_name (i := 3) scOrdered.nd rfl (.inl rfl) (.inr rfl))
        (fun s H C cl fp => pts_one (pt_cmp (pc_din hu (pv 3) (pe_dget hu (pv 0) (pv 2) (fun _ _ => rfl))))) (fun s H C cl fp => pv 3) (fun s H C cl fp => pe_dget hu (pe_dget hu (pv 0) (pv 2) (fun _ _ => rfl)) (pv 3) (fun _ _ => rfl)))))), ?_⟩
    obtain ⟨a, kl, lds, vals, rfl, ⟨kvs, ha, pr⟩, knd, kln, sk, nd, vl, hQ⟩ := h
    refine ⟨.ref a, rfl, a, kvs, lds.map (·.1), rfl, .inl ha, PR.keys pr, by rw [List.length_map]; exact kln, fun ns q pm so nq => ?_⟩
    have x1 : Ex H (upd H q (.lst (ns.map V.str))) := Ex.new nq
    have hq : upd H q (.lst (ns.map V.str)) q = some (.lst (ns.map V.str)) := upd_same
    generalize upd H q (.lst (ns.map V.str)) = H1 at x1 hq ⊢
    refine ⟨q, rfl, ⟨_, .inl (.inl hq)⟩, fun D nD => ?_⟩
    have nnd : ns.Nodup := pm.nodup_iff.mpr knd
    have nln : ns.length < 64 := by rw [pm.length_eq, List.length_map]; exact kln
    refine dc_it (walk_list (xs := ns.map V.str)) (fun i H2 => Ex H1 H2 ∧ ∃ ks, H2 D = some (.dK ks) ∧ PRf H D H2 (ordD vals lds (ns.take i)) ks) ⟨Ex.new nD, [], upd_same, .nil⟩ (fun i H2 _ h => .inl (.inl (h.1 _ _ hq))) (fun i v H2 H3 hi h y => ?_) fun H2 h => ?_
    · obtain ⟨x2, ks, hD, pk⟩ := h
      obtain ⟨rfl, y⟩ := y
      rw [List.getElem?_map] at y
      obtain ⟨n, en, rfl⟩ := Option.map_eq_some_iff.mp y
      have y2 := x1.trans x2
      have mn : n ∈ lds.map (·.1) := pm.mem_iff.mp (List.mem_of_getElem? en)
      rcases look_val pr n with ⟨z, _⟩ | ⟨l, b, z1, z2, z3⟩
      · have := look_mem mn
        rw [z] at this
        cases this
      · refine ⟨rfl, .str n, rfl, ?_⟩
        refine inner_goT (b := b) (l := l) rfl rfl rfl rfl (y2 _ _ ha) z2 (y2 _ _ z3) (y2.sqT sk) nd vl fun p H4 x4 np hp => ?_
        have fr : (Sum.inr n : Key) ∉ ks.map (·.1) := fun z => by
          rw [pk.pr.keys] at z
          obtain ⟨u, mu, eu⟩ := List.mem_map.mp z
          cases eu
          unfold ordD at mu
          rw [List.map_map] at mu
          obtain ⟨u, m2, e2⟩ := List.mem_map.mp mu
          have e2 : u = n := e2
          subst e2
          exact take_fresh nnd en m2
        have kl2 : ks.length < 64 := by
          have e := congrArg List.length pk.pr.keys
          unfold ordD at e
          simp only [List.length_map, List.length_take] at e
          omega
        have pD : p ≠ D := fun z => by rw [z, hD] at np; cases np
        refine ⟨ks, Sum.inr n, rfl, x4 _ _ hD, by rw [sizeLine_eq]; omega, fun c o e => (upd_ne fun z => by rw [z, nD] at e; cases e).trans (x4 _ _ (x2 _ _ e)), _, upd_same, ?_⟩
        rw [putK_fresh fr, List.take_add_one, en, Option.toList_some]
        unfold ordD
        rw [List.map_append]
        refine paired_app (Paired.mapP pk fun l' kv ⟨q1, b', q2, q4, q5, q3⟩ => ⟨q1, b', q2, q4, q5, (upd_ne q4).trans (x4 _ _ q3)⟩) ⟨rfl, p, rfl, pD, y2.none np, (upd_ne pD).trans ?_⟩
        rw [hp]
        show _ = some (HO.dK (ldV (ordL vals ((look lds n).getD []))))
        rw [z1]
        rfl
    · obtain ⟨x2, ks, hD, pk⟩ := h
      rw [List.length_map, List.take_length] at pk
      exact hQ D H2 ns pm so (x1.trans x2) (x1.none nD) ⟨x1.none nD, ks, hD, Paired.mapP pk fun _ _ ⟨q1, b', q2, _, q5, q3⟩ => ⟨q1, b', q2, q5, q3⟩⟩
theorem ok_initL (F : FunD K "__init__" "Thing.__init__" (defArgs sInit) (defBody sInit) (defScope sInit) [] [] f fd) (T : ThC K C) (FB : Has P w K mg base "first_bad_word" 2 ["things", "barred"] (spFirstBad K)) (FW : Has P w K mg base "is_word" 1 ["thing"] (spIsWord K)) (FR : Has P w K mg base "first_wrong" 3 ["leads", "known", "barred", "is_whole"] (spFirstWrong K)) (FO : Has P w K mg base "ordered" 1 ["leads", "known"] (spOrderedL K)) (gn : mg "len" = none) (gt : mg "tuple" = none) (gl : mg "list" = none) :
    FnOk P w K mg base CX0 4 f fd ["self", "values", "start", "deeds", "entries"] (spInitL K C) := by
  refine F.ok scInit (fun vs H Q E h => ?_) (fun cdv A outer s H vs Q E hr h => ?_)
  · obtain ⟨p, dx, vl, dd, de, d, rfl, _⟩ := h
    rfl
  · have hu := hu_of hr
    refine ⟨_, PSs.nox (pss_cons (ps_set (i := 5) scInit.nd rfl (.inl rfl) (pe_has FB hr (by decide) rfl (pa_cons (pv 1) (pa_cons (pe_lst pa_nil) pa_nil))))
      (pss_cons (ps_if (PW.pt (pw_or (pt_cmp (pc_notN (pv 5))) (pw_or1 (pt_cmp (pc_eqI (pe_callB call_len rfl gn boot_len (pa_cons (pv 1) pa_nil)) pe_int))))) (pss_one ps_dead) pss_nil)
      (pss_cons (ps_if (PW.pt (pw_or (pt_not (pt_val (pe_has FW hr (by decide) rfl (pa_cons (pv 2) pa_nil)))) (pw_or1 (pt_cmpR op_notIn_seq (pv 2) (pv 1) (by with_unfolding_all rfl))))) (pss_one ps_dead) pss_nil)
      (pss_cons (ps_asg (pe_tup (pa_cons (pe_callTy call_tuple_of rfl gt boot_tuple (pa_cons (pv 1) pa_nil)) (pa_cons (pv 2) pa_nil))) (pg_tup rfl (pgs_cons (pg_fld (pv 0)) (pgs_cons (pg_fld (pv 0)) pgs_nil))))
      (pss_cons (ps_set (i := 6) scInit.nd rfl (.inl rfl) (pe_has FR hr (by decide) rfl (pa_cons (pv 3) (pa_cons (pe_fld (pv 0) rfl) (pa_cons (pe_lst pa_nil) (pa_cons pe_bl pa_nil))))))
      (pss_cons (ps_if (pt_cmpR (op_neD hr.units) (pv 6) (pe_lst pa_nil) (nomark _)) (pss_one ps_dead) pss_nil)
      (pss_cons (ps_set (i := 6) scInit.nd rfl (.inl rfl) (pe_has FR hr (by decide) rfl (pa_cons (pv 4) (pa_cons (pe_fld (pv 0) rfl) (pa_cons (pe_callTy (call_listD rfl) rfl gl boot_list (pa_cons (pv 3) pa_nil)) (pa_cons pe_bl pa_nil))))))
      (pss_cons (ps_if (pt_cmpR (op_neD hr.units) (pv 6) (pe_lst pa_nil) (nomark _)) (pss_one ps_dead) pss_nil)
      (pss_one (ps_asg (pe_tup (pa_cons (pe_has FO hr (by decide) rfl (pa_cons (pv 3) (pa_cons (pv 1) pa_nil))) (pa_cons (pe_has FO hr (by decide) rfl (pa_cons (pv 4) (pa_cons (pv 1) pa_nil))) pa_nil))) (pg_tup rfl (pgs_cons (pg_fld (pv 0)) (pgs_cons (pg_fld (pv 0)) pgs_nil))))))))))))), ?_⟩
    obtain ⟨p, dx, vl, dd, de, d, rfl, hp, sv, hdd, hde, ft, hQ⟩ := h
    refine ⟨.ref vl, rfl, Nat.zero_le _, fun e0 n0 => ?_⟩
    have x0 : Ex H (upd H e0 (.lst [])) := Ex.new n0
    refine ⟨.ref vl, e0, rfl, upd_same, .inr ⟨vl, d.vals.map V.str, rfl, .inl (x0.sqL sv), by rw [List.length_map]; have := ft.vln; omega, fun v m => ?_, fun H1 x1 => ?_⟩⟩
    · obtain ⟨x, mx, rfl⟩ := List.mem_map.mp m
      exact ⟨_, str_kd (by have := okS_len (ft.vok x mx); omega)⟩
    have fn : fbw (d.vals.map V.str) [] 0 = none := fbw_none d.vals [] 0 ft.vok ft.vnd fun _ _ z => nomatch z
    rw [fn]
    have y1 := x0.trans x1
    have vpos : 0 < d.vals.length := List.length_pos_iff.mpr ft.vne
    refine ⟨.non, rfl, _, rfl, .ref vl, rfl, .ref vl, d.vals.length, rfl, .inl ⟨_, y1.sqL sv, by rw [List.length_map]⟩, d.vals.length, 0, rfl, rfl, false, congrArg V.bl (decide_eq_false (by omega)), ?_⟩
    refine ⟨.str d.start, rfl, .str d.start, "str", rfl, str_kd (by have := okS_len (ft.vok _ ft.st); omega), fun H2 x2 => ⟨_, rfl, ?_⟩⟩
    have y2 := y1.trans x2
    rw [show isWd (.str d.start) = true from ft.vok _ ft.st]
    refine ⟨.str d.start, rfl, .ref vl, rfl, vl, _, rfl, .inl (y2.sqL sv), rfl, flat_strs _, _, rfl, ?_⟩
    rw [inV_strs, decide_eq_true ft.st]
    refine ⟨.ref vl, rfl, vl, _, rfl, .inl ⟨y2.sqL sv, fun vt nvt => ⟨.str d.start, rfl, by show 2 ≤ sizeLine; decide, fun tp ntp => ?_⟩⟩⟩
    have y3 : Ex H2 (upd (upd H2 vt (.tup (d.vals.map V.str))) tp (.tup [.ref vt, .str d.start])) := (Ex.new nvt).trans (Ex.new ntp)
    have hvt : upd (upd H2 vt (.tup (d.vals.map V.str))) tp (.tup [.ref vt, .str d.start]) vt = some (.tup (d.vals.map V.str)) := (Ex.new ntp) _ _ upd_same
    have htp : upd (upd H2 vt (.tup (d.vals.map V.str))) tp (.tup [.ref vt, .str d.start]) tp = some (.tup [.ref vt, .str d.start]) := upd_same
    generalize upd (upd H2 vt (.tup (d.vals.map V.str))) tp (.tup [.ref vt, .str d.start]) = H3 at y3 hvt htp ⊢
    have z3 := y2.trans y3
    have hp3 := z3 _ _ hp
    refine ⟨tp, _, rfl, .inl (.inl htp), rfl, .ref vt, _, rfl, .ref p, rfl, p, C, dx, _, rfl, hp3, T.cls, T.vals, by decide, .str d.start, [], rfl, .ref p, rfl, p, C, dx, _, rfl, upd_same, T.cls, T.start, by show 1 < 1000; decide, rfl, ?_⟩
    have xa : ExA p H (upd (upd H3 p (.ins C dx (putF "kept_values" (.ref vt) []))) p (.ins C dx (putF "kept_start" (.str d.start) (putF "kept_values" (.ref vt) [])))) := (z3.exA.trans ExA.upd).trans ExA.upd
    have hp4 : upd (upd H3 p (.ins C dx (putF "kept_values" (.ref vt) []))) p (.ins C dx (putF "kept_start" (.str d.start) (putF "kept_values" (.ref vt) []))) p = _ := upd_same
    have hvt4 : upd (upd H3 p (.ins C dx (putF "kept_values" (.ref vt) []))) p (.ins C dx (putF "kept_start" (.str d.start) (putF "kept_values" (.ref vt) []))) vt = some (.tup (d.vals.map V.str)) := ((ExA.upd (p := p) (H := H3)).trans ExA.upd).non hp3 hvt fun q => nomatch q
    generalize upd (upd H3 p (.ins C dx (putF "kept_values" (.ref vt) []))) p (.ins C dx (putF "kept_start" (.str d.start) (putF "kept_values" (.ref vt) []))) = H4 at xa hp4 hvt4 ⊢
    rw [flds2] at hp4
    have S4 : ∀ {Hx}, Ex H4 Hx → Hx p = some (.ins C dx (f2 (.ref vt) (.str d.start))) ∧ Hx vt = some (.tup (d.vals.map V.str)) ∧ SqL K Hx vl (d.vals.map V.str) ∧ DD Hx dd d.deeds ∧ DD Hx de d.ents := fun x => ⟨x _ _ hp4, x _ _ hvt4, x.sqL (xa.sqL hp sv), (hdd.exA xa hp).ex x, (hde.exA xa hp).ex x⟩
    clear hvt htp hvt4
    refine ⟨.ref dd, rfl, .ref p, rfl, p, C, dx, _, .ref vt, rfl, hp4, T.cls, T.vals, rfl, Nat.zero_le _, fun e1 ne1 => ?_⟩
    have w1 : Ex H4 (upd H4 e1 (.lst [])) := Ex.new ne1
    obtain ⟨a1, a2, a3, a4, a5⟩ := S4 w1
    refine ⟨dd, vt, e1, d.deeds, d.vals, [], true, rfl, a4, .inl (.inl a2), .inl (.inl upd_same), by have := ft.vln; omega, ft.vok, fun l m => ⟨(ft.dok l m).1, fun z => (nomatch z), (ft.dok l m).2⟩, fun q1 H5 x5 nq1 hq1 => ?_⟩
    have w2 := w1.trans x5
    refine ⟨.ref q1, rfl, Nat.zero_le _, fun e2 n2 => ⟨.list [], .list [], .lst (.inl (.inl ((Ex.new n2) _ _ hq1))) .nil, .lst (.inl (.inl upd_same)) .nil, rfl, rfl, false, rfl, ?_⟩⟩
    have w3 := w2.trans (Ex.new (o := .lst []) n2)
    obtain ⟨b1, b2, b3, b4, b5⟩ := S4 w3
    obtain ⟨kvs, hk, pk⟩ := id b4
    have ek := DD.keys pk fun _ _ r => r.1
    refine ⟨.ref de, rfl, .ref p, rfl, p, C, dx, _, .ref vt, rfl, b1, T.cls, T.vals, rfl, .ref dd, rfl, dd, kvs, rfl, .inl hk, fun bl nbl => ?_⟩
    rw [ek, show (d.deeds.map fun l => V.str l.1) = (d.deeds.map (·.1)).map V.str by rw [List.map_map]; rfl]
    have w4 := w3.trans (Ex.new (o := .lst ((d.deeds.map (·.1)).map V.str)) nbl)
    obtain ⟨c1, c2, c3, c4, c5⟩ := S4 w4
    refine ⟨de, vt, bl, d.ents, d.vals, d.deeds.map (·.1), false, rfl, c5, .inl (.inl c2), .inl (.inl upd_same), by have := ft.vln; omega, ft.vok, ft.eok, fun q2 H6 x6 nq2 hq2 => ?_⟩
    have w5 := w4.trans x6
    refine ⟨.ref q2, rfl, Nat.zero_le _, fun e3 n3 => ⟨.list [], .list [], .lst (.inl (.inl ((Ex.new n3) _ _ hq2))) .nil, .lst (.inl (.inl upd_same)) .nil, rfl, rfl, false, rfl, ?_⟩⟩
    have w6 := w5.trans (Ex.new (o := .lst []) n3)
    obtain ⟨d1, d2, d3, d4, d5⟩ := S4 w6
    refine ⟨.ref dd, rfl, .ref vl, rfl, dd, vl, d.deeds, d.vals, rfl, d4, ft.dnd, by have := ft.dln; omega, d3, ft.vnd, by have := ft.vln; omega, fun r1 H7 ns pm so x7 nr1 hr1 => ?_⟩
    have oldp : ∀ b, H4 b = none → H b = none := fun b n => exA_fresh xa hp4 n
    have hr1 := hr1.old fun b n => oldp b (w6.none n)
    have w7 := w6.trans x7
    obtain ⟨g1, g2, g3, g4, g5⟩ := S4 w7
    refine ⟨.ref de, rfl, .ref vl, rfl, de, vl, d.ents, d.vals, rfl, g5, ft.end_, by have := ft.eln; omega, g3, ft.vnd, by have := ft.vln; omega, fun r2 H8 ms pm2 so2 x8 nr2 hr2 => ?_⟩
    have hr2 := hr2.old fun b n => oldp b (w7.none n)
    refine ⟨by show 2 ≤ sizeLine; decide, fun tq ntq => ?_⟩
    have w8 := (w7.trans x8).trans (Ex.new (o := .tup [.ref r1, .ref r2]) ntq)
    have htq : upd H8 tq (.tup [.ref r1, .ref r2]) tq = some (.tup [.ref r1, .ref r2]) := upd_same
    have hr1' := (hr1.ex x8).ex (Ex.new (o := .tup [.ref r1, .ref r2]) ntq)
    have hr2' := hr2.ex (Ex.new (o := .tup [.ref r1, .ref r2]) ntq)
    obtain ⟨i1, i2, i3, i4, i5⟩ := S4 w8
    generalize upd H8 tq (.tup [.ref r1, .ref r2]) = H9 at w8 htq hr1' hr2' i1 i2 i3 i4 i5 ⊢
    refine ⟨tq, _, rfl, .inl (.inl htq), rfl, .ref r1, _, rfl, .ref p, rfl, p, C, dx, _, rfl, i1, T.cls, T.deeds, by show 2 < 1000; decide, .ref r2, [], rfl, .ref p, rfl, p, C, dx, _, rfl, upd_same, T.cls, T.ents, by show 3 < 1000; decide, rfl, ?_⟩
    have xF : ExA p H9 (upd (upd H9 p (.ins C dx (putF "kept_deeds" (.ref r1) (f2 (.ref vt) (.str d.start))))) p (.ins C dx (putF "kept_entries" (.ref r2) (putF "kept_deeds" (.ref r1) (f2 (.ref vt) (.str d.start)))))) := ExA.upd.trans ExA.upd
    refine hQ _ ⟨d.vals, d.start, ordD d.vals d.deeds ns, ordD d.vals d.ents ms⟩ ((xa.trans w8.exA).trans xF) ⟨dx, vt, r1, r2, ?_, xF.non i1 i2 (fun z => nomatch z), hr1'.exA xF i1, hr2'.exA xF i1⟩ ⟨ns, ms, pm, so, pm2, so2, rfl⟩
    rw [flds4]
    exact upd_same
theorem ok_initT (F : FunD K "__init__" "Thing.__init__" (defArgs sInit) (defBody sInit) (defScope sInit) [] [] f fd) (T : ThC K C) (FB : Has P w K mg base "first_bad_word" 2 ["things", "barred"] (spFirstBad K)) (FW : Has P w K mg base "is_word" 1 ["thing"] (spIsWord K)) (FR : Has P w K mg base "first_wrong" 3 ["leads", "known", "barred", "is_whole"] (spFirstWrong K)) (FO : Has P w K mg base "ordered" 1 ["leads", "known"] (spOrderedT K)) (gn : mg "len" = none) (gt : mg "tuple" = none) (gl : mg "list" = none) :
    FnOk P w K mg base CX0 4 f fd ["self", "values", "start", "deeds", "entries"] (spInitT K C) := by
  refine F.ok scInit (fun vs H Q E h => ?_) (fun cdv A outer s H vs Q E hr h => ?_)
  · obtain ⟨p, dx, vl, dd, de, d, rfl, _⟩ := h
    rfl
  · have hu := hu_of hr
    refine ⟨_, PSs.nox (pss_cons (ps_set (i := 5) scInit.nd rfl (.inl rfl) (pe_has FB hr (by decide) rfl (pa_cons (pv 1) (pa_cons (pe_lst pa_nil) pa_nil))))
      (pss_cons (ps_if (PW.pt (pw_or (pt_cmp (pc_notN (pv 5))) (pw_or1 (pt_cmp (pc_eqI (pe_callB call_len rfl gn boot_len (pa_cons (pv 1) pa_nil)) pe_int))))) (pss_one ps_dead) pss_nil)
      (pss_cons (ps_if (PW.pt (pw_or (pt_not (pt_val (pe_has FW hr (by decide) rfl (pa_cons (pv 2) pa_nil)))) (pw_or1 (pt_cmpR op_notIn_seq (pv 2) (pv 1) (by with_unfolding_all rfl))))) (pss_one ps_dead) pss_nil)
      (pss_cons (ps_asg (pe_tup (pa_cons (pe_callTy call_tuple_of rfl gt boot_tuple (pa_cons (pv 1) pa_nil)) (pa_cons (pv 2) pa_nil))) (pg_tup rfl (pgs_cons (pg_fld (pv 0)) (pgs_cons (pg_fld (pv 0)) pgs_nil))))
      (pss_cons (ps_set (i := 6) scInit.nd rfl (.inl rfl) (pe_has FR hr (by decide) rfl (pa_cons (pv 3) (pa_cons (pe_fld (pv 0) rfl) (pa_cons (pe_lst pa_nil) (pa_cons pe_bl pa_nil))))))
      (pss_cons (ps_if (pt_cmpR (op_neD hr.units) (pv 6) (pe_lst pa_nil) (nomark _)) (pss_one ps_dead) pss_nil)
      (pss_cons (ps_set (i := 6) scInit.nd rfl (.inl rfl) (pe_has FR hr (by decide) rfl (pa_cons (pv 4) (pa_cons (pe_fld (pv 0) rfl) (pa_cons (pe_callTy (call_listD rfl) rfl gl boot_list (pa_cons (pv 3) pa_nil)) (pa_cons pe_bl pa_nil))))))
      (pss_cons (ps_if (pt_cmpR (op_neD hr.units) (pv 6) (pe_lst pa_nil) (nomark _)) (pss_one ps_dead) pss_nil)
      (pss_one (ps_asg (pe_tup (pa_cons (pe_has FO hr (by decide) rfl (pa_cons (pv 3) (pa_cons (pv 1) pa_nil))) (pa_cons (pe_has FO hr (by decide) rfl (pa_cons (pv 4) (pa_cons (pv 1) pa_nil))) pa_nil))) (pg_tup rfl (pgs_cons (pg_fld (pv 0)) (pgs_cons (pg_fld (pv 0)) pgs_nil))))))))))))), ?_⟩
    obtain ⟨p, dx, vl, dd, de, d, rfl, hp, hvl, hdd, hde, ft, hQ⟩ := h
    have sv : SqT K H vl (d.vals.map V.str) := .inl (.inl hvl)
    refine ⟨.ref vl, rfl, Nat.zero_le _, fun e0 n0 => ?_⟩
    have x0 : Ex H (upd H e0 (.lst [])) := Ex.new n0
    refine ⟨.ref vl, e0, rfl, upd_same, .inr ⟨vl, d.vals.map V.str, rfl, .inr (x0.sqT sv), by rw [List.length_map]; have := ft.vln; omega, fun v m => ?_, fun H1 x1 => ?_⟩⟩
    · obtain ⟨x, mx, rfl⟩ := List.mem_map.mp m
      exact ⟨_, str_kd (by have := okS_len (ft.vok x mx); omega)⟩
    have fn : fbw (d.vals.map V.str) [] 0 = none := fbw_none d.vals [] 0 ft.vok ft.vnd fun _ _ z => nomatch z
    rw [fn]
    have y1 := x0.trans x1
    have vpos : 0 < d.vals.length := List.length_pos_iff.mpr ft.vne
    refine ⟨.non, rfl, _, rfl, .ref vl, rfl, .ref vl, d.vals.length, rfl, .inr ⟨_, y1.sqT sv, by rw [List.length_map]⟩, d.vals.length, 0, rfl, rfl, false, congrArg V.bl (decide_eq_false (by omega)), ?_⟩
    refine ⟨.str d.start, rfl, .str d.start, "str", rfl, str_kd (by have := okS_len (ft.vok _ ft.st); omega), fun H2 x2 => ⟨_, rfl, ?_⟩⟩
    have y2 := y1.trans x2
    rw [show isWd (.str d.start) = true from ft.vok _ ft.st]
    refine ⟨.str d.start, rfl, .ref vl, rfl, vl, _, rfl, .inr (y2.sqT sv), rfl, flat_strs _, _, rfl, ?_⟩
    rw [inV_strs, decide_eq_true ft.st]
    refine ⟨.ref vl, rfl, vl, _, rfl, .inr ⟨y2.sqT sv, .str d.start, rfl, by show 2 ≤ sizeLine; decide, fun tp ntp => ?_⟩⟩
    have y3 : Ex H2 (upd H2 tp (.tup [.ref vl, .str d.start])) := Ex.new ntp
    have hvt := y3 _ _ (y2 _ _ hvl)
    have htp : upd H2 tp (.tup [.ref vl, .str d.start]) tp = some (.tup [.ref vl, .str d.start]) := upd_same
    generalize upd H2 tp (.tup [.ref vl, .str d.start]) = H3 at y3 hvt htp ⊢
    have z3 := y2.trans y3
    have hp3 := z3 _ _ hp
    refine ⟨tp, _, rfl, .inl (.inl htp), rfl, .ref vl, _, rfl, .ref p, rfl, p, C, dx, _, rfl, hp3, T.cls, T.vals, by decide, .str d.start, [], rfl, .ref p, rfl, p, C, dx, _, rfl, upd_same, T.cls, T.start, by show 1 < 1000; decide, rfl, ?_⟩
    have xa : ExA p H (upd (upd H3 p (.ins C dx (putF "kept_values" (.ref vl) []))) p (.ins C dx (putF "kept_start" (.str d.start) (putF "kept_values" (.ref vl) [])))) := (z3.exA.trans ExA.upd).trans ExA.upd
    have hp4 : upd (upd H3 p (.ins C dx (putF "kept_values" (.ref vl) []))) p (.ins C dx (putF "kept_start" (.str d.start) (putF "kept_values" (.ref vl) []))) p = _ := upd_same
    have hvt4 : upd (upd H3 p (.ins C dx (putF "kept_values" (.ref vl) []))) p (.ins C dx (putF "kept_start" (.str d.start) (putF "kept_values" (.ref vl) []))) vl = some (.tup (d.vals.map V.str)) := ((ExA.upd (p := p) (H := H3)).trans ExA.upd).non hp3 hvt fun q => nomatch q
    generalize upd (upd H3 p (.ins C dx (putF "kept_values" (.ref vl) []))) p (.ins C dx (putF "kept_start" (.str d.start) (putF "kept_values" (.ref vl) []))) = H4 at xa hp4 hvt4 ⊢
    rw [flds2] at hp4
    have S4 : ∀ {Hx}, Ex H4 Hx → Hx p = some (.ins C dx (f2 (.ref vl) (.str d.start))) ∧ Hx vl = some (.tup (d.vals.map V.str)) ∧ SqT K Hx vl (d.vals.map V.str) ∧ DD Hx dd d.deeds ∧ DD Hx de d.ents := fun x => ⟨x _ _ hp4, x _ _ hvt4, x.sqT (xa.sqT hp sv), (hdd.exA xa hp).ex x, (hde.exA xa hp).ex x⟩
    clear hvt htp hvt4
    refine ⟨.ref dd, rfl, .ref p, rfl, p, C, dx, _, .ref vl, rfl, hp4, T.cls, T.vals, rfl, Nat.zero_le _, fun e1 ne1 => ?_⟩
    have w1 : Ex H4 (upd H4 e1 (.lst [])) := Ex.new ne1
    obtain ⟨a1, a2, a3, a4, a5⟩ := S4 w1
    refine ⟨dd, vl, e1, d.deeds, d.vals, [], true, rfl, a4, .inl (.inl a2), .inl (.inl upd_same), by have := ft.vln; omega, ft.vok, fun l m => ⟨(ft.dok l m).1, fun z => (nomatch z), (ft.dok l m).2⟩, fun q1 H5 x5 nq1 hq1 => ?_⟩
    have w2 := w1.trans x5
    refine ⟨.ref q1, rfl, Nat.zero_le _, fun e2 n2 => ⟨.list [], .list [], .lst (.inl (.inl ((Ex.new n2) _ _ hq1))) .nil, .lst (.inl (.inl upd_same)) .nil, rfl, rfl, false, rfl, ?_⟩⟩
    have w3 := w2.trans (Ex.new (o := .lst []) n2)
    obtain ⟨b1, b2, b3, b4, b5⟩ := S4 w3
    obtain ⟨kvs, hk, pk⟩ := id b4
    have ek := DD.keys pk fun _ _ r => r.1
    refine ⟨.ref de, rfl, .ref p, rfl, p, C, dx, _, .ref vl, rfl, b1, T.cls, T.vals, rfl, .ref dd, rfl, dd, kvs, rfl, .inl hk, fun bl nbl => ?_⟩
    rw [ek, show (d.deeds.map fun l => V.str l.1) = (d.deeds.map (·.1)).map V.str by rw [List.map_map]; rfl]
    have w4 := w3.trans (Ex.new (o := .lst ((d.deeds.map (·.1)).map V.str)) nbl)
    obtain ⟨c1, c2, c3, c4, c5⟩ := S4 w4
    refine ⟨de, vl, bl, d.ents, d.vals, d.deeds.map (·.1), false, rfl, c5, .inl (.inl c2), .inl (.inl upd_same), by have := ft.vln; omega, ft.vok, ft.eok, fun q2 H6 x6 nq2 hq2 => ?_⟩
    have w5 := w4.trans x6
    refine ⟨.ref q2, rfl, Nat.zero_le _, fun e3 n3 => ⟨.list [], .list [], .lst (.inl (.inl ((Ex.new n3) _ _ hq2))) .nil, .lst (.inl (.inl upd_same)) .nil, rfl, rfl, false, rfl, ?_⟩⟩
    have w6 := w5.trans (Ex.new (o := .lst []) n3)
    obtain ⟨d1, d2, d3, d4, d5⟩ := S4 w6
    refine ⟨.ref dd, rfl, .ref vl, rfl, dd, vl, d.deeds, d.vals, rfl, d4, ft.dnd, by have := ft.dln; omega, d3, ft.vnd, by have := ft.vln; omega, fun r1 H7 ns pm so x7 nr1 hr1 => ?_⟩
    have oldp : ∀ b, H4 b = none → H b = none := fun b n => exA_fresh xa hp4 n
    have hr1 := hr1.old fun b n => oldp b (w6.none n)
    have w7 := w6.trans x7
    obtain ⟨g1, g2, g3, g4, g5⟩ := S4 w7
    refine ⟨.ref de, rfl, .ref vl, rfl, de, vl, d.ents, d.vals, rfl, g5, ft.end_, by have := ft.eln; omega, g3, ft.vnd, by have := ft.vln; omega, fun r2 H8 ms pm2 so2 x8 nr2 hr2 => ?_⟩
    have hr2 := hr2.old fun b n => oldp b (w7.none n)
    refine ⟨by show 2 ≤ sizeLine; decide, fun tq ntq => ?_⟩
    have w8 := (w7.trans x8).trans (Ex.new (o := .tup [.ref r1, .ref r2]) ntq)
    have htq : upd H8 tq (.tup [.ref r1, .ref r2]) tq = some (.tup [.ref r1, .ref r2]) := upd_same
    have hr1' := (hr1.ex x8).ex (Ex.new (o := .tup [.ref r1, .ref r2]) ntq)
    have hr2' := hr2.ex (Ex.new (o := .tup [.ref r1, .ref r2]) ntq)
    obtain ⟨i1, i2, i3, i4, i5⟩ := S4 w8
    generalize upd H8 tq (.tup [.ref r1, .ref r2]) = H9 at w8 htq hr1' hr2' i1 i2 i3 i4 i5 ⊢
    refine ⟨tq, _, rfl, .inl (.inl htq), rfl, .ref r1, _, rfl, .ref p, rfl, p, C, dx, _, rfl, i1, T.cls, T.deeds, by show 2 < 1000; decide, .ref r2, [], rfl, .ref p, rfl, p, C, dx, _, rfl, upd_same, T.cls, T.ents, by show 3 < 1000; decide, rfl, ?_⟩
    have xF : ExA p H9 (upd (upd H9 p (.ins C dx (putF "kept_deeds" (.ref r1) (f2 (.ref vl) (.str d.start))))) p (.ins C dx (putF "kept_entries" (.ref r2) (putF "kept_deeds" (.ref r1) (f2 (.ref vl) (.str d.start)))))) := ExA.upd.trans ExA.upd
    refine hQ _ ⟨d.vals, d.start, ordD d.vals d.deeds ns, ordD d.vals d.ents ms⟩ ((xa.trans w8.exA).trans xF) ⟨dx, vl, r1, r2, ?_, xF.non i1 i2 (fun z => nomatch z), hr1'.exA xF i1, hr2'.exA xF i1⟩ ⟨ns, ms, pm, so, pm2, so2, rfl⟩
    rw [flds4]
    exact upd_same
end
end TH

/-! B7: Thing.__init__, where it raises -/
namespace TH
open PySem PySem.Spec PyProof.Rows L2 LamV LamX XK0
open C8 (pss_cut tCut)
open OD
/-- all but instances stands -/
def ExI (H H' : Hp) : Prop := ∀ b o, H b = some o → (∀ C dx fs, o ≠ .ins C dx fs) → H' b = some o
theorem Ex.exI {H H' : Hp} (x : Ex H H') : ExI H H' := fun b o e _ => x b o e
theorem ExI.trans {H H1 H2 : Hp} (x : ExI H H1) (y : ExI H1 H2) : ExI H H2 := fun b o e n => y b o (x b o e n) n
theorem ExA.exI {p C dx : Addr} {fs : List (Str × V)} {H H' : Hp} (x : ExA p H H') (hp : H p = some (.ins C dx fs)) : ExI H H' := fun b o e n => x.non hp e (n _ _ _)
section
variable {K : PySem.W.Frag} {H H' : Hp} {w : World}
theorem ExI.kd {v : V} {T : String} (x : ExI H H') (h : Kd K H v T) : Kd K H' v T := by
  obtain ⟨h1, h2, h3⟩ := h
  refine ⟨h1, ?_, h3⟩
  have key : ∀ t, TyX K H v t → t = .type T → TyX K H' v t := fun t h2 et => by
    cases h2 with
    | base h =>
      cases h with
      | non => exact .base .non
      | bl b => exact .base (.bl b)
      | int i => exact .base (.int i)
      | str z => exact .base (.str z)
      | flt z => exact .base (.flt z)
      | lst e => exact .base (.lst (x _ _ e fun _ _ _ z => nomatch z))
      | frz e => exact .base (.frz (x _ _ e fun _ _ _ z => nomatch z))
      | tup e => exact .base (.tup (x _ _ e fun _ _ _ z => nomatch z))
      | dK e => exact .base (.dK (x _ _ e fun _ _ _ z => nomatch z))
      | dT e => exact .base (.dT (x _ _ e fun _ _ _ z => nomatch z))
      | ins e cl ha hn htk hm => cases et
    | byt b => exact .byt b
    | set e => exact .set (x _ _ e fun _ _ _ z => nomatch z)
    | kList e c => exact .kList e c
    | kTuple e c => exact .kTuple e c
    | kDict e c => exact .kDict e c
    | fTuple e => exact .fTuple (x _ _ e fun _ _ _ z => nomatch z)
    | fDict e => exact .fDict (x _ _ e fun _ _ _ z => nomatch z)
  exact key _ h2 rfl
theorem ExI.sqT {b : Addr} {xs : List V} (x : ExI H H') (h : SqT K H b xs) : SqT K H' b xs := h.imp (Or.imp (fun e => x _ _ e fun _ _ _ z => nomatch z) fun ⟨o, e⟩ => ⟨o, x _ _ e fun _ _ _ z => nomatch z⟩) id
theorem ExI.sqL {b : Addr} {xs : List V} (x : ExI H H') (h : SqL K H b xs) : SqL K H' b xs := h.imp (Or.imp (fun e => x _ _ e fun _ _ _ z => nomatch z) fun ⟨o, e⟩ => ⟨o, x _ _ e fun _ _ _ z => nomatch z⟩) id
theorem ExI.nkey {k : NestedKey} {v : V} (x : ExI H H') (h : NKey H k v) : NKey H' k v := by
  cases h with
  | non => exact .non
  | int i => exact .int i
  | str y => exact .str y
  | tup T y h => exact .tup T y (x _ _ h fun _ _ _ z => nomatch z)
theorem ExI.leadV {vals : List Str} {wh r : Bool} {v : V} (x : ExI H H') (h : LeadV K H vals wh v r) : LeadV K H' vals wh v r := by
  rcases h with ⟨T, k, n, e⟩ | ⟨b, l, rfl, hb, ln, nd, kd, er⟩
  · exact .inl ⟨T, x.kd k, n, e⟩
  · exact .inr ⟨b, l, rfl, (x _ _ hb fun _ _ _ z => nomatch z), ln, nd, fun q m => ⟨(kd q m).1.imp fun _ z => x.kd z, (kd q m).2.imp fun _ z => x.kd z⟩, er⟩
theorem ExI.rows {vals : List Str} {wh : Bool} {v : V} {nrs : List (V × Bool)} (x : ExI H H') (h : Rows K w H vals wh v nrs) : Rows K w H' vals wh v nrs := by
  rcases h with ⟨a, kvs, e, ha, nd, pr⟩ | ⟨a, rows, e, ha, nk, nd, pr⟩
  · exact .inl ⟨a, kvs, e, (x _ _ ha fun _ _ _ z => nomatch z), nd, Paired.mapP pr fun _ _ ⟨h1, h2, h3, h4⟩ => ⟨h1, h2.imp fun _ z => x.kd z, h3, x.leadV h4⟩⟩
  · exact .inr ⟨a, rows, e, (x _ _ ha fun _ _ _ z => nomatch z), fun r m => x.nkey (nk r m), nd, Paired.mapP pr fun _ _ ⟨h1, h2, h4⟩ => ⟨h1, h2.imp fun _ z => x.kd z, x.leadV h4⟩⟩
end
/-- first_wrong of v is res -/
def FWR (K : PySem.W.Frag) (w : World) (H : Hp) (vals bs : List Str) (wh : Bool) (v : V) (res : List V) : Prop := (∃ T, Kd K H v T ∧ T ≠ "dict" ∧ res = [.non]) ∨ ∃ nrs, Rows K w H vals wh v nrs ∧ fwL (bs.map V.str) nrs = res
theorem FWR.ei {K : PySem.W.Frag} {w : World} {H H' : Hp} {vals bs : List Str} {wh : Bool} {v : V} {res : List V} (x : ExI H H') (h : FWR K w H vals bs wh v res) : FWR K w H' vals bs wh v res := by
  rcases h with ⟨T, k, n, e⟩ | ⟨nrs, r, e⟩
  · exact .inl ⟨T, x.kd k, n, e⟩
  · exact .inr ⟨nrs, x.rows r, e⟩
theorem FWR.sp {K : PySem.W.Frag} {w : World} {H : Hp} {vals bs : List Str} {wh : Bool} {v : V} {res : List V} {kt bl : Addr} {Q : VK} {E : XK} (h : FWR K w H vals bs wh v res) (sk : SqT K H kt (vals.map V.str)) (sb : SqL K H bl (bs.map V.str)) (vl : vals.length ≤ 1000)
    (hQ : ∀ (p : Addr) (H' : Hp), Ex H H' → H p = none → H' p = some (.lst res) → Q (.ref p) H') : spFW K w [v, .ref kt, .ref bl, .bl wh] H Q E := by
  rcases h with ⟨T, k, n, rfl⟩ | ⟨nrs, ⟨a, kvs, rfl, ha, nd, pr⟩ | ⟨a, rows, rfl, ha, nk, nd, pr⟩, rfl⟩
  · exact .inl ⟨v, _, _, wh, T, rfl, k, n, hQ⟩
  · exact .inr (.inl ⟨a, kt, bl, kvs, nrs, vals, bs, wh, rfl, ha, nd, pr, sk, sb, vl, hQ⟩)
  · exact .inr (.inr ⟨a, kt, bl, rows, nrs, vals, bs, wh, rfl, ha, nk, nd, pr, sk, sb, vl, hQ⟩)
/-- C with the fields fs is raised, all but p stands -/
def RzA (E : XK) (p : Addr) (H : Hp) (C : Addr) (fs : List (Str × V)) : Prop := ∀ H1 dd, ExA p H H1 → H1 dd = none → E (.ref C) (some dd) (upd H1 dd (.xd fs))
/-- what x is as data, in every heap where it stands -/
def Dq (K : PySem.W.Frag) (H : Hp) (x : V) : Prop := ∃ d, SeqAt.shaped (.list [d]) = true ∧ ∀ H', ExI H H' → Dp K H' x d
structure ExcC (K : PySem.W.Frag) (mg : Str → Option Value) (CV CS CD CE : Addr) : Prop where
  v : Ec1 K mg "BadValues" "index" CV
  s : Ec1 K mg "BadStart" "thing" CS
  d : Ec1 K mg "BadDeeds" "name" CD
  e : Ec1 K mg "BadEntries" "name" CE
/-- right values -/
structure ValsOk (vals : List Str) : Prop where
  ne : vals ≠ []
  ok : ∀ x ∈ vals, okS x = true
  nd : vals.Nodup
  ln : vals.length ≤ 60
def spInitX (K : PySem.W.Frag) (w : World) (C CV CS CD CE : Addr) : Sp := fun vs H Q E => ∃ (p dx : Addr) (v st dv ev : V), vs = [.ref p, v, st, dv, ev] ∧ H p = some (.ins C dx []) ∧
  ((∃ i : Nat, RzA E p H CV [("index", .int i)] ∧ ((∃ T, Kd K H v T ∧ isLt T = false ∧ i = 0) ∨ ∃ (a : Addr) (xs : List V), v = .ref a ∧ Sq K H a xs ∧ xs.length ≤ 60 ∧ (∀ x ∈ xs, ∃ T, Kd K H x T) ∧ (fbw xs [] 0 = some i ∨ (xs = [] ∧ i = 0)))) ∨
   ∃ (vl : Addr) (vals : List Str), v = .ref vl ∧ SqL K H vl (vals.map V.str) ∧ ValsOk vals ∧ ((∃ T, Kd K H st T ∧ isWd st = false ∧ RzA E p H CS [("thing", st)]) ∨
     ∃ s0, st = .str s0 ∧ s0 ∈ vals ∧ ((∃ x, FWR K w H vals [] true dv [x] ∧ Dq K H x ∧ RzA E p H CD [("name", x)]) ∨
       ∃ (dd : Addr) (kvs : List (Key × V)) (bs : List Str) (x : V), dv = .ref dd ∧ H dd = some (.dK kvs) ∧ (kvs.map fun kv => kV kv.1) = bs.map V.str ∧ FWR K w H vals [] true dv [] ∧ FWR K w H vals bs false ev [x] ∧ Dq K H x ∧ RzA E p H CE [("name", x)])))
section
variable {P : Program} {w : World} {K : PySem.W.Frag} {mg : Str → Option Value} {base : Heap} {f C CV CS CD CE : Addr} {fd : FuncData}
theorem eqv_nil1 (d : PyData) : PyData.eqv (.list [d]) (.list []) = false := rfl
theorem ok_initX (F : FunD K "__init__" "Thing.__init__" (defArgs sInit) (defBody sInit) (defScope sInit) [] [] f fd) (T : ThC K C) (EC : ExcC K mg CV CS CD CE) (FB : Has P w K mg base "first_bad_word" 2 ["things", "barred"] (spFirstBad K)) (FW : Has P w K mg base "is_word" 1 ["thing"] (spIsWord K)) (FR : Has P w K mg base "first_wrong" 3 ["leads", "known", "barred", "is_whole"] (spFW K w)) (gn : mg "len" = none) (gt : mg "tuple" = none) (gl : mg "list" = none) :
    FnOk P w K mg base (L2.CX P w) 4 f fd ["self", "values", "start", "deeds", "entries"] (spInitX K w C CV CS CD CE) := by
  refine FunD.okX F scInit (fun vs H Q E h => ?_) (fun cdv A outer s H vs Q E hr h => ?_)
  · obtain ⟨p, dx, v, st, dv, ev, rfl, _⟩ := h
    rfl
  · have hu := hu_of hr
    have hr2 := hr.mono (show 2 ≤ 3 by decide)
    refine ⟨_, pss_cut (ps_set (i := 5) scInit.nd rfl (.inl rfl) (pe_has FB hr (by decide) rfl (pa_cons (pv 1) (pa_cons (pe_lst pa_nil) pa_nil))))
      (pss_cut (ps_if (PW.pt (pw_or (pt_cmp (pc_notN (pv 5))) (pw_or1 (pt_cmp (pc_eqI (pe_callB call_len rfl gn boot_len (pa_cons (pv 1) pa_nil)) pe_int))))) (pss_one (ps_raise1 EC.v rfl hr2 (takes_of rfl rfl rfl rfl) rfl (pe_ifExp (pt_cmp (pc_isN (pv 5))) pe_int (pv 5)))) pss_nil)
      (pss_cut (ps_if (PW.pt (pw_or (pt_not (pt_val (pe_has FW hr (by decide) rfl (pa_cons (pv 2) pa_nil)))) (pw_or1 (pt_cmpR op_notIn_seq (pv 2) (pv 1) (by with_unfolding_all rfl))))) (pss_one (ps_raise1 EC.s rfl hr2 (takes_of rfl rfl rfl rfl) rfl (pv 2))) pss_nil)
      (pss_cut (ps_asg (pe_tup (pa_cons (pe_callTy call_tuple_of rfl gt boot_tuple (pa_cons (pv 1) pa_nil)) (pa_cons (pv 2) pa_nil))) (pg_tup rfl (pgs_cons (pg_fld (pv 0)) (pgs_cons (pg_fld (pv 0)) pgs_nil))))
      (pss_cut (ps_set (i := 6) scInit.nd rfl (.inl rfl) (pe_has FR hr (by decide) rfl (pa_cons (pv 3) (pa_cons (pe_fld (pv 0) rfl) (pa_cons (pe_lst pa_nil) (pa_cons pe_bl pa_nil))))))
      (pss_cut (ps_if (pt_cmpR (op_neD hr.units) (pv 6) (pe_lst pa_nil) (nomark _)) (pss_one (ps_raise1 EC.d rfl hr2 (takes_of rfl rfl rfl rfl) rfl (pe_ix ix_list (pv 6) pe_int (fun _ _ => rfl)))) pss_nil)
      (pss_cut (ps_set (i := 6) scInit.nd rfl (.inl rfl) (pe_has FR hr (by decide) rfl (pa_cons (pv 4) (pa_cons (pe_fld (pv 0) rfl) (pa_cons (pe_callTy (call_listD rfl) rfl gl boot_list (pa_cons (pv 3) pa_nil)) (pa_cons pe_bl pa_nil))))))
      (pss_cut (ps_if (pt_cmpR (op_neD hr.units) (pv 6) (pe_lst pa_nil) (nomark _)) (pss_one (ps_raise1 EC.e rfl hr2 (takes_of rfl rfl rfl rfl) rfl (pe_ix ix_list (pv 6) pe_int (fun _ _ => rfl)))) pss_nil)
      pss_dead))))))), ?_⟩
    obtain ⟨p, dx, v, st, dv, ev, rfl, hp, h⟩ := h
    have sgo : ∀ {H' : Hp} {C : Addr} {fs : List (Str × V)}, ExA p H H' → RzA E p H C fs → RzA E p H' C fs := fun x r H1 dd y n => r H1 dd (x.trans y) n
    rcases h with ⟨i, rz, vb⟩ | ⟨vl, vals, rfl, sv, vo, h⟩
    · -- wrong values
      refine ⟨fun σ' H' => ∃ ix : Option Nat, σ' = [some (.ref p), some v, some st, some dv, some ev, some (optV ix), none] ∧ ExA p H H' ∧ ((ix = some i) ∨ (ix = none ∧ i = 0 ∧ ∃ a, v = .ref a ∧ Sq K H' a [])), ?_, ?_⟩
      · refine ⟨v, rfl, Nat.zero_le _, fun e0 n0 => ?_⟩
        have x0 : Ex H (upd H e0 (.lst [])) := Ex.new n0
        rcases vb with ⟨T, k, nl, rfl⟩ | ⟨a, xs, rfl, sq, ln, kds, fb⟩
        · exact ⟨v, e0, rfl, upd_same, .inl ⟨T, k.ex x0, nl, fun H' x1 => ⟨some 0, rfl, (x0.trans x1).exA, .inl rfl⟩⟩⟩
        · refine ⟨.ref a, e0, rfl, upd_same, .inr ⟨a, xs, rfl, sq.ex x0, by omega, fun x m => (kds x m).imp fun _ z => z.ex x0, fun H' x1 => ⟨fbw xs [] 0, rfl, (x0.trans x1).exA, ?_⟩⟩⟩
          rcases fb with fb | ⟨rfl, rfl⟩
          · exact .inl fb
          · exact .inr ⟨rfl, rfl, a, rfl, sq.ex (x0.trans x1)⟩
      · rintro σ1 H1 ⟨ix, rfl, x1, ca⟩
        refine ⟨fun _ _ => False, ?_, fun _ _ z => z.elim⟩
        rcases ca with rfl | ⟨rfl, rfl, a, rfl, sq⟩
        · exact ⟨.int i, rfl, _, rfl, .int i, rfl, _, rfl, .int i, rfl, mk1_ok EC.v fun d n => rz _ _ x1 n⟩
        · refine ⟨.non, rfl, _, rfl, .ref a, rfl, .ref a, 0, rfl, ?_, 0, 0, rfl, rfl, true, rfl, .non, rfl, _, rfl, mk1_ok EC.v fun d n => rz _ _ x1 n⟩
          rcases sq with sq | sq
          · exact .inl ⟨_, sq, rfl⟩
          · exact .inr ⟨_, sq, rfl⟩
    · have fn : fbw (vals.map V.str) [] 0 = none := fbw_none vals [] 0 vo.ok vo.nd fun _ _ z => nomatch z
      have vpos : 0 < vals.length := List.length_pos_iff.mpr vo.ne
      have vln := vo.ln
      refine ⟨fun σ' H' => σ' = [some (.ref p), some (.ref vl), some st, some dv, some ev, some .non, none] ∧ Ex H H', ?_, ?_⟩
      · refine ⟨.ref vl, rfl, Nat.zero_le _, fun e0 n0 => ?_⟩
        have x0 : Ex H (upd H e0 (.lst [])) := Ex.new n0
        refine ⟨.ref vl, e0, rfl, upd_same, .inr ⟨vl, vals.map V.str, rfl, .inl (x0.sqL sv), by rw [List.length_map]; omega, fun v m => ?_, fun H1 x1 => ?_⟩⟩
        · obtain ⟨x, mx, rfl⟩ := List.mem_map.mp m
          exact ⟨_, str_kd (by have := okS_len (vo.ok x mx); omega)⟩
        · rw [fn]
          exact ⟨rfl, x0.trans x1⟩
      rintro σ1 H1 ⟨rfl, x1⟩
      refine ⟨fun σ' H' => σ' = [some (.ref p), some (.ref vl), some st, some dv, some ev, some .non, none] ∧ Ex H H', ?_, ?_⟩
      · exact ⟨.non, rfl, _, rfl, .ref vl, rfl, .ref vl, vals.length, rfl, .inl ⟨_, x1.sqL sv, by rw [List.length_map]⟩, vals.length, 0, rfl, rfl, false, congrArg V.bl (decide_eq_false (by omega)), rfl, x1⟩
      rintro σ2 H2 ⟨rfl, x2⟩
      rcases h with ⟨T2, k2, w2, rz⟩ | ⟨s0, rfl, ms, h⟩
      · refine ⟨fun _ _ => False, ?_, fun _ _ z => z.elim⟩
        refine ⟨st, rfl, st, T2, rfl, k2.ex x2, fun H3 x3 => ⟨_, rfl, ?_⟩⟩
        rw [w2]
        exact ⟨st, rfl, mk1_ok EC.s fun d n => rz _ _ (x2.trans x3).exA n⟩
      refine ⟨fun σ' H' => σ' = [some (.ref p), some (.ref vl), some (.str s0), some dv, some ev, some .non, none] ∧ Ex H H', ?_, ?_⟩
      · refine ⟨.str s0, rfl, .str s0, "str", rfl, str_kd (by have := okS_len (vo.ok _ ms); omega), fun H3 x3 => ⟨_, rfl, ?_⟩⟩
        rw [show isWd (.str s0) = true from vo.ok _ ms]
        refine ⟨.str s0, rfl, .ref vl, rfl, vl, _, rfl, .inl ((x2.trans x3).sqL sv), rfl, flat_strs _, _, rfl, ?_⟩
        rw [inV_strs, decide_eq_true ms]
        exact ⟨rfl, x2.trans x3⟩
      rintro σ3 H3 ⟨rfl, x3⟩
      have hp3 := x3 _ _ hp
      refine ⟨fun σ' H' => ∃ vt, σ' = [some (.ref p), some (.ref vl), some (.str s0), some dv, some ev, some .non, none] ∧ ExA p H H' ∧ H' p = some (.ins C dx (f2 (.ref vt) (.str s0))) ∧ H' vt = some (.tup (vals.map V.str)), ?_, ?_⟩
      · refine ⟨.ref vl, rfl, vl, _, rfl, .inl ⟨x3.sqL sv, fun vt nvt => ⟨.str s0, rfl, by show 2 ≤ sizeLine; decide, fun tp ntp => ?_⟩⟩⟩
        have y3 : Ex H3 (upd (upd H3 vt (.tup (vals.map V.str))) tp (.tup [.ref vt, .str s0])) := (Ex.new nvt).trans (Ex.new ntp)
        have hvt : upd (upd H3 vt (.tup (vals.map V.str))) tp (.tup [.ref vt, .str s0]) vt = some (.tup (vals.map V.str)) := (Ex.new ntp) _ _ upd_same
        have htp : upd (upd H3 vt (.tup (vals.map V.str))) tp (.tup [.ref vt, .str s0]) tp = some (.tup [.ref vt, .str s0]) := upd_same
        generalize upd (upd H3 vt (.tup (vals.map V.str))) tp (.tup [.ref vt, .str s0]) = H4 at y3 hvt htp ⊢
        have hp4 := y3 _ _ hp3
        refine ⟨tp, _, rfl, .inl (.inl htp), rfl, .ref vt, _, rfl, .ref p, rfl, p, C, dx, _, rfl, hp4, T.cls, T.vals, by decide, .str s0, [], rfl, .ref p, rfl, p, C, dx, _, rfl, upd_same, T.cls, T.start, by show 1 < 1000; decide, rfl, vt, rfl, ?_, ?_, ?_⟩
        · exact ((x3.trans y3).exA.trans ExA.upd).trans ExA.upd
        · rw [upd_same]
          exact congrArg (fun z => some (HO.ins C dx z)) (flds2 _ _)
        · exact ((ExA.upd (p := p) (H := H4)).trans ExA.upd).non hp4 hvt fun q => nomatch q
      rintro σ4 H4 ⟨vt, rfl, x4, hp4, hvt⟩
      have i4 := x4.exI hp
      rcases h with ⟨x, fw, dq, rz⟩ | ⟨dd, kvs, bs, x, rfl, hdd, ek, fw1, fw, dq, rz⟩
      · refine ⟨fun σ' H' => ∃ q, σ' = [some (.ref p), some (.ref vl), some (.str s0), some dv, some ev, some .non, some (.ref q)] ∧ Ex H4 H' ∧ H' q = some (.lst [x]), ?_, ?_⟩
        · refine ⟨dv, rfl, .ref p, rfl, p, C, dx, _, .ref vt, rfl, hp4, T.cls, T.vals, rfl, Nat.zero_le _, fun e1 ne1 => ?_⟩
          have w1 : Ex H4 (upd H4 e1 (.lst [])) := Ex.new ne1
          exact (fw.ei (i4.trans w1.exI)).sp (.inl (.inl (w1 _ _ hvt))) (bs := []) (.inl (.inl upd_same)) (by omega) fun q H5 x5 nq hq => ⟨q, rfl, w1.trans x5, hq⟩
        rintro σ5 H5 ⟨q, rfl, x5, hq⟩
        refine ⟨fun _ _ => False, ?_, fun _ _ z => z.elim⟩
        obtain ⟨d, sh, dp⟩ := dq
        refine ⟨.ref q, rfl, Nat.zero_le _, fun e2 n2 => ⟨.list [d], .list [], .lst (.inl (.inl ((Ex.new n2) _ _ hq))) (.cons (dp _ ((i4.trans x5.exI).trans (Ex.new n2).exI)) .nil), .lst (.inl (.inl upd_same)) .nil, sh, rfl, true, rfl, ?_⟩⟩
        have x6 := x5.trans (Ex.new (o := .lst []) n2)
        exact ⟨.ref q, rfl, q, [x], 0, x, rfl, rfl, .inl (.inl ((Ex.new n2) _ _ hq)), rfl, mk1_ok EC.d fun d n => rz _ _ (x4.trans x6.exA) n⟩
      · refine ⟨fun σ' H' => ∃ q, σ' = [some (.ref p), some (.ref vl), some (.str s0), some (.ref dd), some ev, some .non, some (.ref q)] ∧ Ex H4 H' ∧ H' q = some (.lst []), ?_, ?_⟩
        · refine ⟨.ref dd, rfl, .ref p, rfl, p, C, dx, _, .ref vt, rfl, hp4, T.cls, T.vals, rfl, Nat.zero_le _, fun e1 ne1 => ?_⟩
          have w1 : Ex H4 (upd H4 e1 (.lst [])) := Ex.new ne1
          exact (fw1.ei (i4.trans w1.exI)).sp (.inl (.inl (w1 _ _ hvt))) (bs := []) (.inl (.inl upd_same)) (by omega) fun q H5 x5 nq hq => ⟨q, rfl, w1.trans x5, hq⟩
        rintro σ5 H5 ⟨q, rfl, x5, hq⟩
        refine ⟨fun σ' H' => σ' = [some (.ref p), some (.ref vl), some (.str s0), some (.ref dd), some ev, some .non, some (.ref q)] ∧ Ex H4 H', ?_, ?_⟩
        · exact ⟨.ref q, rfl, Nat.zero_le _, fun e2 n2 => ⟨.list [], .list [], .lst (.inl (.inl ((Ex.new n2) _ _ hq))) .nil, .lst (.inl (.inl upd_same)) .nil, rfl, rfl, false, rfl, rfl, x5.trans (Ex.new n2)⟩⟩
        rintro σ6 H6 ⟨rfl, x6⟩
        refine ⟨fun σ' H' => ∃ q, σ' = [some (.ref p), some (.ref vl), some (.str s0), some (.ref dd), some ev, some .non, some (.ref q)] ∧ Ex H4 H' ∧ H' q = some (.lst [x]), ?_, ?_⟩
        · refine ⟨ev, rfl, .ref p, rfl, p, C, dx, _, .ref vt, rfl, x6 _ _ hp4, T.cls, T.vals, rfl, .ref dd, rfl, dd, kvs, rfl, .inl (x6 _ _ (i4 _ _ hdd fun _ _ _ z => nomatch z)), fun bl nbl => ?_⟩
          rw [ek]
          have w6 := x6.trans (Ex.new (o := .lst (bs.map V.str)) nbl)
          exact (fw.ei (i4.trans w6.exI)).sp (.inl (.inl (w6 _ _ hvt))) (.inl (.inl upd_same)) (by omega) fun q H7 x7 nq hq => ⟨q, rfl, w6.trans x7, hq⟩
        rintro σ7 H7 ⟨q2, rfl, x7, hq2⟩
        refine ⟨fun _ _ => False, ?_, fun _ _ z => z.elim⟩
        obtain ⟨d, sh, dp⟩ := dq
        refine ⟨.ref q2, rfl, Nat.zero_le _, fun e2 n2 => ⟨.list [d], .list [], .lst (.inl (.inl ((Ex.new n2) _ _ hq2))) (.cons (dp _ ((i4.trans x7.exI).trans (Ex.new n2).exI)) .nil), .lst (.inl (.inl upd_same)) .nil, sh, rfl, true, rfl, ?_⟩⟩
        have x8 := x7.trans (Ex.new (o := .lst []) n2)
        exact ⟨.ref q2, rfl, q2, [x], 0, x, rfl, rfl, .inl (.inl ((Ex.new n2) _ _ hq2)), rfl, mk1_ok EC.e fun d n => rz _ _ (x4.trans x8.exA) n⟩
end
end TH

/-! B8: Thing.__eq__ -/
namespace TH
open PySem PySem.Spec PyProof.Rows L2 LamV LamX XK0
open C8 (pss_cut tCut)
abbrev sEq : Stmt := inClass (top 15) 5
/-- two dicts of different lengths are not equal -/
def rEqLen : R2 := fun x y H Q => ∃ a b ks ls, x = .ref a ∧ y = .ref b ∧ H a = some (.dK ks) ∧ H b = some (.dK ls) ∧ ks.length ≠ ls.length ∧ Q (.bl false) H
theorem op_eqLen {X : Cx} (hu : X.A.units < cLine) : OpR X (compareOp .Eq) rEqLen := by
  intro pins s σ H x y v u Q I rx ry ⟨a, b, ks, ls, ex, ey, ha, hb, ne, q⟩
  subst ex ey
  cases (show v = Value.ref a from rx)
  cases (show u = Value.ref b from ry)
  obtain ⟨_, ya, va, ra, da⟩ := (show ObjOk X.prog X.w H s.heap a (.dK ks) from I.hok a _ ha)
  obtain ⟨_, yb, vb, rb, db⟩ := (show ObjOk X.prog X.w H s.heap b (.dK ls) from I.hok b _ hb)
  have la : ks.length = va.length := Paired.length ra
  have lb : ls.length = vb.length := Paired.length rb
  refine PySem.W.rcP_dicts (knd := mixKind X.prog X.w) (r := true) ya yb da db hu (fun z => absurd (by omega) ne) _ _ ?_
  rw [show (va.length == vb.length && true) = false by rw [Bool.and_true]; exact beq_eq_false_iff_ne.mpr (by omega)]
  exact ⟨.bl false, H, I, rfl, q⟩
theorem eqv_tup : ∀ xs ys : List Str, PyData.eqv (.tuple (xs.map PyData.str)) (.tuple (ys.map PyData.str)) = decide (xs = ys)
  | [], [] => rfl
  | [], _ :: _ => rfl
  | _ :: _, [] => rfl
  | x :: xs, y :: ys => by
    have ih := eqv_tup xs ys
    have e1 : ∀ a b : List PyData, PyData.eqv (.tuple a) (.tuple b) = PyData.eqvAll a b := fun _ _ => by unfold PyData.eqv; rfl
    rw [e1] at ih ⊢
    show (PyData.eqv (.str x) (.str y) && PyData.eqvAll (xs.map PyData.str) (ys.map PyData.str)) = _
    rw [ih]
    have e2 : PyData.eqv (.str x) (.str y) = decide (x = y) := by
      show (x == y) = _
      by_cases z : x = y
      · subst z; simp
      · rw [decide_eq_false z]; exact beq_eq_false_iff_ne.mpr z
    rw [e2]
    by_cases z : x = y
    · subst z; simp
    · rw [decide_eq_false z, decide_eq_false fun q => z (List.cons.inj q).1]; rfl
theorem shaped_tups {ws : List Str} (h : ∀ w ∈ ws, PyData.canLay0 (.str w) = true) : SeqAt.shaped (.tuple (ws.map PyData.str)) = true := by
  obtain ⟨a, b⟩ := lay_strs h
  have e1 : PyData.canLay0 (.tuple (ws.map PyData.str)) = PyData.canLayAll0 (ws.map PyData.str) := by unfold PyData.canLay0; rfl
  have e2 : PyData.depth (.tuple (ws.map PyData.str)) = PyData.depthAll (ws.map PyData.str) + 1 := by unfold PyData.depth; rfl
  unfold SeqAt.shaped
  rw [e1, a, e2, b]
  decide
/-- of a thing: names apart, values that can be laid -/
structure ThD.Apart (d : ThD) : Prop where
  lay : ∀ x ∈ d.vals, PyData.canLay0 (.str x) = true
  dn : (d.deeds.map (·.1)).Nodup
  en : (d.ents.map (·.1)).Nodup
  di : ∀ l ∈ d.deeds, (l.2.map (·.1)).Nodup
  ei : ∀ l ∈ d.ents, (l.2.map (·.1)).Nodup
/-- whether two things are equal, as far as it is asked -/
def EqTh (d e : ThD) (r : Bool) : Prop := (d.vals ≠ e.vals ∧ r = false) ∨ d.vals = e.vals ∧ ((d.start ≠ e.start ∧ r = false) ∨ d.start = e.start ∧ ((d.deeds.length ≠ e.deeds.length ∧ r = false) ∨ d.deeds = e.deeds ∧ ((d.ents.length ≠ e.ents.length ∧ r = false) ∨ d.ents = e.ents ∧ r = true)))
structure IsC (K : PySem.W.Frag) (C : Addr) : Prop where
  ha : PySem.W.findIn K (.ref C) "__class__" = some (some (.builtin "object.__class__"))
  hn : PySem.W.specialIn K (.builtin "object.__class__") "__get__" = some (some (.builtin "getset_descriptor.__get__"))
  htk : PySem.W.takesIn K (.builtin "object.__class__") = some true
  hm : PySem.W.mroIn K C (.type "object") = some true
  yes : PySem.W.kitOne K (.ref C) (.ref C) = some true
  no : PySem.W.kitOne K (.type "list") (.ref C) = some false
def spThEq (K : PySem.W.Frag) (C : Addr) : Sp := fun vs H Q _ => ∃ (t : Addr) (d : ThD) (y : V), vs = [.ref t, y] ∧ IsTh H C t d ∧ d.Apart ∧
  ((∃ b xs, y = .ref b ∧ H b = some (.lst xs) ∧ ∀ H', Ex H H' → Q (.bl false) H') ∨ ∃ (u : Addr) (e : ThD) (r : Bool), y = .ref u ∧ IsTh H C u e ∧ e.Apart ∧ EqTh d e r ∧ ∀ H', Ex H H' → Q (.bl r) H')
/-- the dicts of one list of leads are equal -/
theorem dd_eqR {K : PySem.W.Frag} {H : Hp} {a b : Addr} {ls : Lds} (h : DD H a ls) (g : DD H b ls) (nd : (ls.map (·.1)).Nodup) (ni : ∀ l ∈ ls, (l.2.map (·.1)).Nodup) : EqR K H (EqV K H 2) (.ref a) (.ref b) := by
  obtain ⟨ks, ha, pa⟩ := h
  obtain ⟨gs, hb, pb⟩ := g
  refine .inr ⟨a, b, ks, gs, rfl, rfl, ha, hb, by rw [← Paired.length pa, ← Paired.length pb], fun p mp => ?_⟩
  obtain ⟨i, ei⟩ := List.getElem?_of_mem mp
  have li := (List.getElem?_eq_some_iff.mp ei).1
  have ll : i < ls.length := by rw [Paired.length pa]; exact li
  obtain ⟨p2, e2, k1, c, k2, k3⟩ := L2.paired_get pa (List.getElem?_eq_getElem ll)
  rw [ei] at e2
  cases e2
  obtain ⟨q, e3, q1, c2, q2, q3⟩ := L2.paired_get pb (List.getElem?_eq_getElem ll)
  have knd : (gs.map (·.1)).Nodup := by rw [PR.keys (H := H) pb]; exact nd_inr nd
  have vq : valV gs p.1 = some q.2 := by
    rw [k1, ← q1]
    exact valV_mem knd (List.mem_of_getElem? e3)
  refine ⟨q.2, vq, ?_⟩
  rw [k2, q2]
  refine .inr (.inr (.inr ⟨c, c2, ldV ls[i].2, ldV ls[i].2, rfl, rfl, k3, q3, rfl, fun z mz => ⟨z.2, ?_, ?_⟩⟩))
  · exact valV_mem (keys_nd (ni _ (List.getElem_mem ll))) mz
  · unfold ldV at mz
    obtain ⟨y, _, rfl⟩ := List.mem_map.mp mz
    exact .inl ⟨rfl, rfl⟩
theorem dd_len {H : Hp} {a : Addr} {ls : Lds} (h : DD H a ls) : ∃ ks, H a = some (.dK ks) ∧ ks.length = ls.length := by
  obtain ⟨ks, ha, pa⟩ := h
  exact ⟨ks, ha, (Paired.length pa).symm⟩
section
variable {P : Program} {w : World} {K : PySem.W.Frag} {mg : Str → Option Value} {base : Heap} {f C : Addr} {fd : FuncData}
theorem scEq : FnScope ["self", "other"] ["self", "other"] (defScope sEq) := ⟨rfl, rfl, rfl, by decide +kernel, rfl, by decide +kernel, by decide +kernel⟩
theorem ok_thEq (F : FunD K "__eq__" "Thing.__eq__" (defArgs sEq) (defBody sEq) (defScope sEq) [] [] f fd) (T : ThC K C) (IC : IsC K C) (gT : mg "Thing" = some (.ref C)) (gi : mg "isinstance" = none) : FnOk P w K mg base CX0 1 f fd ["self", "other"] (spThEq K C) := by
  refine F.ok scEq (fun vs H Q E h => ?_) (fun cdv A outer s H vs Q E hr h => ?_)
  · obtain ⟨t, d, y, rfl, _⟩ := h
    rfl
  · have hu := hr.units
    have hu0 := hr.units0
    refine ⟨_, PSs.nox (pss_cons (ps_if (PW.pt (pw_or (pt_not (pt_val (pe_callB call_isi rfl gi boot_isinstance (pa_cons (pv 1) (pa_cons (pe_glob (v := .ref C) rfl gT rfl) pa_nil))))) (pw_or (pt_cmpR (op_neD hu) (pe_fld (pv 0) rfl) (pe_fld (pv 1) rfl) (nomark _)) (pw_or1 (pt_cmpR op_ne (pe_fld (pv 0) rfl) (pe_fld (pv 1) rfl) (nomark _)))))) (pss_one (ps_ret pe_bl)) pss_nil)
      (pss_one (ps_ret (pe_and (pe_cmpR ((op_eqV hu).or (op_eqLen hu0)) (pe_fld (pv 0) rfl) (pe_fld (pv 1) rfl) (nomark _)) (pe_one (pe_cmpR ((op_eqV hu).or (op_eqLen hu0)) (pe_fld (pv 0) rfl) (pe_fld (pv 1) rfl) (nomark _))))))), ?_⟩
    obtain ⟨t, d, y, rfl, th, ap, h⟩ := h
    obtain ⟨dx, vt, dd, de, e1, e2, e3, e4⟩ := th
    have dp : ∀ {b : Addr} {xs : List Str}, H b = some (.tup (xs.map V.str)) → Dp K H (.ref b) (.tuple (xs.map PyData.str)) := fun e => .tup (.inl (.inl e)) (dp_strs _)
    rcases h with ⟨b, xs, rfl, hb, hQ⟩ | ⟨u, e, r, rfl, th2, ap2, eq, hQ⟩
    · exact ⟨.ref b, rfl, .ref b, .ref C, _, _, false, rfl, .own C, .base (.lst hb), IC.no, _, rfl, hQ H Ex.refl⟩
    obtain ⟨dx2, vt2, dd2, de2, g1, g2, g3, g4⟩ := th2
    refine ⟨.ref u, rfl, .ref u, .ref C, _, _, true, rfl, .own C, .base (.ins g1 T.cls IC.ha IC.hn IC.htk IC.hm), IC.yes, _, rfl, ?_⟩
    refine ⟨.ref t, rfl, t, C, dx, _, .ref vt, rfl, e1, T.cls, T.vals, rfl, .ref u, rfl, u, C, dx2, _, .ref vt2, rfl, g1, T.cls, T.vals, rfl, _, _, dp e2, dp g2, shaped_tups ap.lay, shaped_tups ap2.lay, _, rfl, ?_⟩
    rw [eqv_tup]
    rcases eq with ⟨ne, rfl⟩ | ⟨ev, eq⟩
    · rw [decide_eq_false ne]
      exact hQ H Ex.refl
    rw [decide_eq_true ev]
    refine ⟨.ref t, rfl, t, C, dx, _, .str d.start, rfl, e1, T.cls, T.start, rfl, .ref u, rfl, u, C, dx2, _, .str e.start, rfl, g1, T.cls, T.start, rfl, rfl, _, rfl, ?_⟩
    rcases eq with ⟨ne, rfl⟩ | ⟨es, eq⟩
    · rw [decide_eq_false fun z => ne (V.str.inj z)]
      exact hQ H Ex.refl
    rw [es, decide_eq_true rfl]
    refine ⟨.ref t, rfl, t, C, dx, _, .ref dd, rfl, e1, T.cls, T.deeds, rfl, .ref u, rfl, u, C, dx2, _, .ref dd2, rfl, g1, T.cls, T.deeds, rfl, ?_⟩
    rcases eq with ⟨ne, rfl⟩ | ⟨ed, eq⟩
    · obtain ⟨ks, k1, k2⟩ := dd_len e3
      obtain ⟨ls, l1, l2⟩ := dd_len g3
      exact .inr ⟨dd, dd2, ks, ls, rfl, rfl, k1, l1, by omega, false, rfl, hQ H Ex.refl⟩
    rw [← ed] at g3
    refine .inl ⟨2, by decide, dd_eqR e3 g3 ap.dn ap.di, true, rfl, ?_⟩
    refine ⟨.ref t, rfl, t, C, dx, _, .ref de, rfl, e1, T.cls, T.ents, rfl, .ref u, rfl, u, C, dx2, _, .ref de2, rfl, g1, T.cls, T.ents, rfl, ?_⟩
    rcases eq with ⟨ne, rfl⟩ | ⟨en, rfl⟩
    · obtain ⟨ks, k1, k2⟩ := dd_len e4
      obtain ⟨ls, l1, l2⟩ := dd_len g4
      exact .inr ⟨de, de2, ks, ls, rfl, rfl, k1, l1, by omega, hQ H Ex.refl⟩
    · rw [← en] at g4
      exact .inl ⟨2, by decide, dd_eqR e4 g4 ap.en ap.ei, hQ H Ex.refl⟩
end
end TH

/-! B9: the methods of Thing -/
namespace TH
open PySem PySem.Spec PyProof.Rows L2 LamV LamX XK0
open C8 (pss_cut tCut)
abbrev sWorths : Stmt := inClass (top 15) 1
abbrev sStart : Stmt := inClass (top 15) 2
abbrev sDeeds : Stmt := inClass (top 15) 3
abbrev sEnts : Stmt := inClass (top 15) 4
def spWorths (C : Addr) : Sp := fun vs H Q _ => ∃ (t : Addr) (d : ThD), vs = [.ref t] ∧ IsTh H C t d ∧ ∀ p, H p = none → Q (.ref p) (upd H p (.lst (d.vals.map V.str)))
def spStart (C : Addr) : Sp := fun vs H Q _ => ∃ (t : Addr) (d : ThD), vs = [.ref t] ∧ IsTh H C t d ∧ Q (.str d.start) H
def spLds (C : Addr) (sel : ThD → Lds) : Sp := fun vs H Q _ => ∃ (t : Addr) (d : ThD), vs = [.ref t] ∧ IsTh H C t d ∧ ((sel d).map (·.1)).Nodup ∧ (sel d).length ≤ 1000 ∧ ∀ p H', Ex H H' → DF H H' p (sel d) → Q (.ref p) H'
/-- a dict can be read while another one, or itself, is locked -/
theorem rd_lock {H H' : Hp} {a b : Addr} {u : HO} {od : Obj} {l : List (Key × V)} (ha : H a = some u) (x : Ex (upd H a (.frz od u)) H') (h : H b = some (.dK l)) : Rd H' b (.dK l) := by
  by_cases z : b = a
  · subst z
    rw [ha] at h
    cases h
    exact .inr ⟨od, x _ _ upd_same⟩
  · exact .inl (x _ _ ((upd_ne z).trans h))
def rDictC : List V → Hp → VK → Prop := fun xs H Q => ∃ (a : Addr) (kvs : List (Key × V)), xs = [.ref a] ∧ Rd H a (.dK kvs) ∧ ∀ p, H p = none → Q (.ref p) (upd H p (.dK kvs))
theorem call_dictC {X : Cx} : CallR X (.type "dict") rDictC := call_dictD
def tCopy (K : PySem.W.Frag) (tf : TE) : TE := tLockE (tDc (iItems tf) (gTup K 2 (gCons (gName 1) (gCons (gName 2) gNil))) tYes (tVar 1) (tCB rDictC (tCons (tVar 2) tNil)) [1, 2])
theorem copy_go {K : PySem.W.Frag} {tf : TE} {σ : L2.St} {H : Hp} {Q : VK} {a : Addr} {ls : Lds} (len : σ.length = 3) (hd : DD H a ls) (nd : (ls.map (·.1)).Nodup) (ln : ls.length ≤ 1000) (htf : ∀ H' (Q' : VK), Q' (.ref a) H' → (∃ u, H a = some u ∧ ∃ od, H' = upd H a (.frz od u)) → tf σ H' Q') (hQ : ∀ p H', Ex H H' → DF H H' p ls → Q (.ref p) H') : tCopy K tf σ H Q := by
  obtain ⟨kvs, ha, pr⟩ := hd
  have pr : PR H ls kvs := pr
  refine ⟨a, _, ha, trivial, fun od => htf _ _ ?_ ⟨_, ha, od, rfl⟩⟩
  refine ⟨a, od, kvs, rfl, upd_same, fun D nD => ?_⟩
  have lk : kvs.length = ls.length := (Paired.length pr).symm
  have knd : (kvs.map (·.1)).Nodup := by rw [pr.keys]; exact nd_inr nd
  have nDa : D ≠ a := fun z => by rw [z, upd_same] at nD; cases nD
  have nDH : H D = none := by rw [← nD]; exact (upd_ne nDa).symm
  have fr : ∀ {H' : Hp} {b : Addr}, Ex (upd H a (.frz od (.dK kvs))) H' → H' b = none → H b = none := fun {H' b} x n => by
    cases q : H b with
    | none => rfl
    | some o =>
      by_cases z : b = a
      · rw [z, x _ _ upd_same] at n; cases n
      · rw [x _ _ ((upd_ne z).trans q)] at n; cases n
  refine dc_it walk_items (fun i H2 => Ex (upd H a (.frz od (.dK kvs))) H2 ∧ ∃ ks, H2 D = some (.dK ks) ∧ PRf H D H2 (ls.take i) ks) ⟨Ex.new nD, [], upd_same, .nil⟩ (fun i H2 _ h => h.1 _ _ upd_same) (fun i v H2 H3 hi h y => ?_) fun H2 h => ?_
  · obtain ⟨x2, ks, hD, pk⟩ := h
    obtain ⟨T, x, z, rfl, nT, rfl, ex, ez⟩ := y
    obtain ⟨⟨k, v⟩, ek⟩ : ∃ q, kvs[i]? = some q := ⟨kvs[i], List.getElem?_eq_getElem hi⟩
    dsimp only at ex ez
    rw [ek] at ex ez
    cases ex
    cases ez
    obtain ⟨l, el, r1, b, r2, r3⟩ := paired_get pr ek
    have r1 : k = Sum.inr l.1 := r1
    have r2 : v = .ref b := r2
    subst r1 r2
    have xT : Ex H2 (upd H2 T (.tup [.str l.1, .ref b])) := Ex.new nT
    have a1 : ((((wipe σ [1, 2]).set 1 (some (V.str l.1))).set 2 (some (V.ref b))))[1]? = some (some (V.str l.1)) := by
      rw [List.getElem?_set_ne (by decide)]
      exact List.getElem?_set_self (by rw [wipe_length, len]; decide)
    have a2 : ((((wipe σ [1, 2]).set 1 (some (V.str l.1))).set 2 (some (V.ref b))))[2]? = some (some (V.ref b)) := List.getElem?_set_self (by rw [List.length_set, wipe_length, len]; decide)
    refine ⟨T, _, rfl, .inl (.inl upd_same), rfl, .str l.1, [.ref b], rfl, .ref b, [], rfl, rfl, ?_, .str l.1, a1, .ref b, a2, b, ldV l.2, rfl, rd_lock ha (x2.trans xT) r3, fun p np => ?_⟩
    · obtain ⟨s0, s1, s2, rfl⟩ : ∃ s0 s1 s2, σ = [s0, s1, s2] := by
        match σ, len with
        | [s0, s1, s2], _ => exact ⟨s0, s1, s2, rfl⟩
      rfl
    have np : upd H2 T (.tup [.str l.1, .ref b]) p = none := np
    have hDT : upd H2 T (.tup [.str l.1, .ref b]) D = some (.dK ks) := xT _ _ hD
    have pD : p ≠ D := fun z => by rw [z, hDT] at np; cases np
    have frk : (Sum.inr l.1 : Key) ∉ ks.map (·.1) := fun z => by
      rw [pk.pr.keys] at z
      obtain ⟨u, mu, eu⟩ := List.mem_map.mp z
      cases eu
      rw [List.map_take] at mu
      exact take_fresh nd (show (ls.map (·.1))[i]? = some l.1 by rw [List.getElem?_map, el]; rfl) mu
    have kl : ks.length ≤ 1000 := by
      have e := Paired.length pk
      rw [List.length_take] at e
      omega
    refine ⟨ks, Sum.inr l.1, rfl, (upd_ne pD.symm).trans hDT, by rw [sizeLine_eq]; omega, fun c o e => (upd_ne fun z => by rw [z, nD] at e; cases e).trans ((upd_ne fun z => by rw [z] at e; rw [xT _ _ (x2 _ _ e)] at np; cases np).trans (xT _ _ (x2 _ _ e))), _, upd_same, ?_⟩
    rw [putK_fresh frk, List.take_add_one, el]
    refine paired_app (Paired.mapP pk fun l' kv ⟨q1, b', q2, q4, q5, q3⟩ => ⟨q1, b', q2, q4, q5, (upd_ne q4).trans ((upd_ne fun z => by rw [z] at q3; rw [xT _ _ q3] at np; cases np).trans (xT _ _ q3))⟩) ⟨rfl, p, rfl, pD, fr (x2.trans xT) np, (upd_ne pD).trans upd_same⟩
  · obtain ⟨x2, ks, hD, pk⟩ := h
    rw [lk, List.take_length] at pk
    refine ⟨x2 _ _ upd_same, hQ D _ (Ex.unlock ha x2) ⟨nDH, ks, (upd_ne nDa).trans hD, Paired.mapP pk fun _ _ ⟨q1, b', q2, _, q5, q3⟩ => ⟨q1, b', q2, q5, (upd_ne fun z => by rw [z, ha] at q5; cases q5).trans q3⟩⟩⟩
section
variable {P : Program} {w : World} {K : PySem.W.Frag} {mg : Str → Option Value} {base : Heap} {f C : Addr} {fd : FuncData}
theorem ok_worths (F : FunD K "worths" "Thing.worths" (defArgs sWorths) (defBody sWorths) (defScope sWorths) [] [] f fd) (T : ThC K C) (gl : mg "list" = none) : FnOk P w K mg base CX0 1 f fd ["self"] (spWorths C) := by
  have S : FnScope ["self"] ["self"] (defScope sWorths) := ⟨rfl, rfl, rfl, by decide +kernel, rfl, by decide +kernel, by decide +kernel⟩
  refine F.ok S (fun vs H Q E h => ?_) (fun cdv A outer s H vs Q E hr h => ?_)
  · obtain ⟨t, d, rfl, _⟩ := h
    rfl
  · refine ⟨_, PSs.nox (pss_one (ps_ret (pe_callTy call_list_of rfl gl boot_list (pa_cons (pe_fld (pv 0) rfl) pa_nil)))), ?_⟩
    obtain ⟨t, d, rfl, ⟨dx, vt, dd, de, e1, e2, e3, e4⟩, hQ⟩ := h
    exact ⟨.ref t, rfl, t, C, dx, _, .ref vt, rfl, e1, T.cls, T.vals, rfl, vt, _, rfl, .inr (.inl (.inl e2)), hQ⟩
theorem ok_start (F : FunD K "start" "Thing.start" (defArgs sStart) (defBody sStart) (defScope sStart) [] [] f fd) (T : ThC K C) : FnOk P w K mg base CX0 1 f fd ["self"] (spStart C) := by
  have S : FnScope ["self"] ["self"] (defScope sStart) := ⟨rfl, rfl, rfl, by decide +kernel, rfl, by decide +kernel, by decide +kernel⟩
  refine F.ok S (fun vs H Q E h => ?_) (fun cdv A outer s H vs Q E hr h => ?_)
  · obtain ⟨t, d, rfl, _⟩ := h
    rfl
  · refine ⟨_, PSs.nox (pss_one (ps_ret (pe_fld (pv 0) rfl))), ?_⟩
    obtain ⟨t, d, rfl, ⟨dx, vt, dd, de, e1, e2, e3, e4⟩, hQ⟩ := h
    exact ⟨.ref t, rfl, t, C, dx, _, .str d.start, rfl, e1, T.cls, T.start, rfl, hQ⟩
theorem ok_deeds (F : FunD K "deeds" "Thing.deeds" (defArgs sDeeds) (defBody sDeeds) (defScope sDeeds) [] [] f fd) (T : ThC K C) (gd : mg "dict" = none) : FnOk P w K mg base CX0 1 f fd ["self"] (spLds C ThD.deeds) := by
  have S : FnScope ["self", "name", "lead"] ["self"] (defScope sDeeds) := ⟨rfl, rfl, rfl, by decide +kernel, rfl, by decide +kernel, by decide +kernel⟩
  refine F.ok S (fun vs H Q E h => ?_) (fun cdv A outer s H vs Q E hr h => ?_)
  · obtain ⟨t, d, rfl, _⟩ := h
    rfl
  · refine ⟨_, PSs.nox (pss_one (ps_ret (pe_lock (pe_dc (own := [("name", 1), ("lead", 2)]) (g := gTup K 2 (gCons (gName 1) (gCons (gName 2) gNil))) (tk := tVar 1) (tv := tCB rDictC (tCons (tVar 2) tNil)) rfl S.nd (pi_items (pe_fld (pv 0) rfl)) (blkOk_by (by kernel_rfl)) (fun s H C cl fp => pg_tup rfl (pgs_cons (pg_name (i := 1) S.nd rfl (.inl rfl) (.inr rfl)) (pgs_cons (pg_name (i := 2) S.nd rfl (.inl rfl) (.inr rfl)) pgs_nil))) (fun s H C cl fp => pts_nil) (fun s H C cl fp => pv 1)
      (fun s H C cl fp => pe_callTy call_dictC rfl gd boot_dict (pa_cons (pv 2) pa_nil)))))), ?_⟩
    obtain ⟨t, d, rfl, ⟨dx, vt, dd, de, e1, e2, e3, e4⟩, nd, ln, hQ⟩ := h
    obtain ⟨ks, hdd, _⟩ := id e3
    have ne : t ≠ dd := fun z => by rw [z, hdd] at e1; cases e1
    refine copy_go (K := K) (tf := tFld K (tVar 0) "kept_deeds") rfl e3 nd ln (fun H' Q' q ⟨u, hu, od, e⟩ => ?_) hQ
    subst e
    exact ⟨.ref t, rfl, t, C, dx, _, .ref dd, rfl, (upd_ne ne).trans e1, T.cls, T.deeds, rfl, q⟩
theorem ok_ents (F : FunD K "entries" "Thing.entries" (defArgs sEnts) (defBody sEnts) (defScope sEnts) [] [] f fd) (T : ThC K C) (gd : mg "dict" = none) : FnOk P w K mg base CX0 1 f fd ["self"] (spLds C ThD.ents) := by
  have S : FnScope ["self", "name", "lead"] ["self"] (defScope sEnts) := ⟨rfl, rfl, rfl, by decide +kernel, rfl, by decide +kernel, by decide +kernel⟩
  refine F.ok S (fun vs H Q E h => ?_) (fun cdv A outer s H vs Q E hr h => ?_)
  · obtain ⟨t, d, rfl, _⟩ := h
    rfl
  · refine ⟨_, PSs.nox (pss_one (ps_ret (pe_lock (pe_dc (own := [("name", 1), ("lead", 2)]) (g := gTup K 2 (gCons (gName 1) (gCons (gName 2) gNil))) (tk := tVar 1) (tv := tCB rDictC (tCons (tVar 2) tNil)) rfl S.nd (pi_items (pe_fld (pv 0) rfl)) (blkOk_by (by kernel_rfl)) (fun s H C cl fp => pg_tup rfl (pgs_cons (pg_name (i := 1) S.nd rfl (.inl rfl) (.inr rfl)) (pgs_cons (pg_name (i := 2) S.nd rfl (.inl rfl) (.inr rfl)) pgs_nil))) (fun s H C cl fp => pts_nil) (fun s H C cl fp => pv 1)
      (fun s H C cl fp => pe_callTy call_dictC rfl gd boot_dict (pa_cons (pv 2) pa_nil)))))), ?_⟩
    obtain ⟨t, d, rfl, ⟨dx, vt, dd, de, e1, e2, e3, e4⟩, nd, ln, hQ⟩ := h
    obtain ⟨ks, hdd, _⟩ := id e4
    have ne : t ≠ de := fun z => by rw [z, hdd] at e1; cases e1
    refine copy_go (K := K) (tf := tFld K (tVar 0) "kept_entries") rfl e4 nd ln (fun H' Q' q ⟨u, hu, od, e⟩ => ?_) hQ
    subst e
    exact ⟨.ref t, rfl, t, C, dx, _, .ref de, rfl, (upd_ne ne).trans e1, T.cls, T.ents, rfl, q⟩
end
end TH

/-! O7: list(d.values()); != of lists whose items are the same or equal -/
namespace OD
open PySem PySem.Spec PyProof.Rows L2
def tListVals (te : TE) : TE := fun σ H Q => te σ H fun x H1 => ∃ (d : Addr) (kvs : List (Key × V)), x = .ref d ∧ H1 d = some (.dK kvs) ∧ ∀ p, H1 p = none → Q (.ref p) (upd H1 p (.lst (kvs.map (·.2))))
theorem kv_vals {kvs : List (Key × V)} {vs : List (Key × Value)} (kv : KV kvs vs) : Vals (kvs.map (·.2)) (vs.map (·.2)) := by
  induction kv with
  | nil => exact .nil
  | cons h _ ih => exact .cons h.2 ih
theorem pe_listValues {X : Cx} {e : Expr} {te : TE} {p apos cpos pos : Pos} (hc : X.calm = true) (he : PE X e te) (hg : Gl X "list") (hm : X.mg "list" = none) (hv : bootBuiltins "list" = some (.type "list")) (hbase : attributeBase e "values" X.env (eval e X.env) = eval e X.env := by rfl) (hline : (apos.endLine == cpos.line) = true := by rfl)
    (hs : starEach [.Call (.Attribute e "values" apos) [] [] cpos] X.env = (false, eval (.Call (.Attribute e "values" apos) [] [] cpos) X.env) :: starEach [] X.env := by rfl) :
    PE X (.Call (.Name "list" p) [.Call (.Attribute e "values" apos) [] [] cpos] [] pos) (tListVals te) := by
  refine ⟨fun pins s σ H Q I hq => wpAny_Call_Name_kw (ld_blt I hg hm hv (PyProof.Rows.callWith_type1 ?_ hs rfl))⟩
  rw [hs]
  refine Calls.spliced_cons (wpAny_Call_method (T := "dict") (id := "dict.values") hbase rfl hline F.plainAttrs_dict F.slot_dict_values F.type_dict_values (thn (he.run pins s σ H _ I hq) fun u s1 ⟨x, H1, I1, rx, d, kvs, ex, hd, q⟩ => ?_))
  subst ex
  obtain rfl : u = Value.ref d := rx
  obtain ⟨hz, hs0, vs, kv, hdo⟩ := I1.hok d _ hd
  obtain ⟨es, ep, raw, sz, at_⟩ := hdo.raw
  have lk : kvs.length = vs.length := Paired.length kv
  refine ⟨hdo.typeIs, hdo.mapOf.noDict, ?_⟩
  show wpAny _ _ (callWith cpos (.builtin "dict.values") [.ref d] [] []) _ X.xe s1
  refine method_meetsIn F.slot_dict_values F.entry_dict_values rfl (PySem.evalArgs_none ⟨rfl, hdo.typeIs, F.args_dict_values_1 _, _, meets_dict_values_raw d hs0, ⟨es, ep, raw⟩, ?_⟩)
  refine Calls.spliced_nil ?_
  have I2 : Inv X pins σ H1 { s1 with heap := s1.heap.push { cls := .type "dict_values", data := .fields #[.ref d] } } := I1.kept (t' := s1.toks) fun b ob q => Heap.get?_push_of_some _ q
  refine PySem.W.kdl_call (PySem.KdlSrc.rawValues (r := s1.heap.objs.size) (d := d) (es := es) (ep := ep)) (I1.ok.hd hc) ⟨⟨_, Heap.get?_push_size _ rfl, rfl, rfl⟩, raw.push _⟩ (by omega) fun h' tk acc c keep new its => ?_
  have ev : acc.toList = vs.map (·.2) := by
    have l : acc.size = es.size := its.1
    refine List.ext_getElem? fun i => ?_
    by_cases lt : i < acc.size
    · have e1 : acc.toList[i]? = some acc[i] := by rw [Array.getElem?_toList, Array.getElem?_eq_getElem lt]
      obtain ⟨hi, e2⟩ := its.2 i acc[i] (Array.getElem?_eq_getElem lt)
      obtain ⟨⟨k, v⟩, ek⟩ : ∃ q, vs[i]? = some q := ⟨vs[i]'(by omega), List.getElem?_eq_getElem (by omega)⟩
      have e3 := (at_ i hi k v ek).2
      rw [e1, List.getElem?_map, ek, e2, e3]
      rfl
    · rw [List.getElem?_eq_none (by rw [Array.length_toList]; omega), List.getElem?_eq_none (by rw [List.length_map]; omega)]
  refine ⟨.ref _, _, I2.laid (t' := tk) keep (Nat.le_refl _) (show ObjOk X.prog X.w _ h' _ (.lst (kvs.map (·.2))) from ⟨by rw [List.length_map]; exact hz, acc.toList, c, ev ▸ kv_vals kv, by rw [Array.toArray_toList]; exact new⟩), rfl, q _ (I2.hok.fresh (Nat.le_refl _))⟩
/-! ### != -/
/-- the same, or equal, of nesting below n -/
def EqT (K : PySem.W.Frag) (H : Hp) : Nat → V → V → Prop
  | 0 => fun x y => (x = y ∧ flatB x = true) ∨ ∃ a, x = .ref a ∧ y = .ref a
  | n + 1 => fun x y => ((x = y ∧ flatB x = true) ∨ ∃ a, x = .ref a ∧ y = .ref a) ∨ ∃ a b xs ys, x = .ref a ∧ y = .ref b ∧ ((SqL K H a xs ∧ SqL K H b ys) ∨ (SqT K H a xs ∧ SqT K H b ys)) ∧ Paired (EqT K H n) xs ys
section
variable {X : Cx} {pins : List (Addr × Obj)} {σ : L2.St} {H : Hp} {s : Shared}
theorem all_true (n : Nat) : ((List.range n).all fun _ => true) = true := List.all_eq_true.mpr fun _ _ => rfl
theorem pair_at {A : Around} {F : V → V → Prop} (ih : ∀ x y v u, F x y → RelV x v → RelV y u → SeqAt.EqAt A s v u true) {xs ys : List V} (hp : Paired F xs ys) :
    ∀ {us ws : List Value}, Vals xs us → Vals ys ws → ∀ j (h1 : j < us.length) (h2 : j < ws.length), SeqAt.EqAt A s us[j] ws[j] true := by
  induction hp with
  | nil => intro us ws r1 r2 j h1 h2; cases r1; exact absurd h1 (Nat.not_lt_zero j)
  | cons h _ k =>
    intro us ws r1 r2 j h1 h2
    cases r1 with
    | cons a1 b1 =>
      cases r2 with
      | cons a2 b2 =>
        cases j with
        | zero => exact ih _ _ _ _ h a1 a2
        | succ j => exact k b1 b2 j (Nat.lt_of_succ_lt_succ h1) (Nat.lt_of_succ_lt_succ h2)
theorem eqT_run (I : Inv X pins σ H s) : ∀ (n : Nat) (A : Around), A.units + n < cLine → ∀ (x y : V) (v u : Value), EqT X.K H n x y → RelV x v → RelV y u → SeqAt.EqAt A s v u true
  | 0, A, hu, x, y, v, u, h, rx, ry => by
    rcases h with ⟨rfl, f⟩ | ⟨a, rfl, rfl⟩
    · exact eqAt_same rx ry f
    · cases (show v = Value.ref a from rx)
      cases (show u = Value.ref a from ry)
      exact SeqAt.EqAt.same _
  | n + 1, A, hu, x, y, v, u, h, rx, ry => by
    rcases h with (⟨rfl, f⟩ | ⟨a, rfl, rfl⟩) | ⟨a, b, xs, ys, rfl, rfl, h, pr⟩
    · exact eqAt_same rx ry f
    · cases (show v = Value.ref a from rx)
      cases (show u = Value.ref a from ry)
      exact SeqAt.EqAt.same _
    · cases (show v = Value.ref a from rx)
      cases (show u = Value.ref b from ry)
      by_cases e : a = b
      · subst e
        exact SeqAt.EqAt.same _
      refine SeqAt.EqAt.of_refs e ?_
      have go : ∀ {us ws : List Value}, Vals xs us → Vals ys ws → us.toArray.size = ws.toArray.size ∧ ∀ j (h1 : j < us.toArray.size) (h2 : j < ws.toArray.size), SeqAt.EqAt A.in1 s us.toArray[j] ws.toArray[j] true := fun r1 r2 => by
        refine ⟨by rw [List.size_toArray, List.size_toArray, ← r1.length, ← r2.length]; exact Paired.length pr, fun j h1 h2 => ?_⟩
        have k := pair_at (A := A.in1) (eqT_run I n A.in1 (by show A.units + 1 + n < cLine; omega)) pr r1 r2 j (by simpa using h1) (by simpa using h2)
        simpa using k
      rcases h with ⟨ha, hb⟩ | ⟨ha, hb⟩
      · obtain ⟨us, r1, p1, _⟩ := I.list ha
        obtain ⟨ws, r2, p2, _⟩ := I.list hb
        obtain ⟨sz, st⟩ := go r1 r2
        have z := SeqAt.RcAt.lists (A := A) (e := fun _ => true) p1.isList p2.isList sz (by omega) st
        rwa [all_true] at z
      · obtain ⟨us, r1, p1, _⟩ := I.tuple ha
        obtain ⟨ws, r2, p2, _⟩ := I.tuple hb
        obtain ⟨sz, st⟩ := go r1 r2
        have z := SeqAt.RcAt.tuples (A := A) (e := fun _ => true) p1 p2 (by omega) st
        rw [all_true, sz, beq_self_eq_true] at z
        exact z
/-- two lists != : they are not unlike -/
def rNeT (K : PySem.W.Frag) : R2 := fun x y H Q => ∃ a b xs ys n, n ≤ 60 ∧ x = .ref a ∧ y = .ref b ∧ SqL K H a xs ∧ SqL K H b ys ∧ Paired (EqT K H n) xs ys ∧ Q (.bl false) H
theorem op_neT (hu : X.A.units + 64 < cLine) : OpR X (compareOp .NotEq) (rNeT X.K) := by
  intro pins s σ H x y v u Q I rx ry ⟨a, b, xs, ys, n, hn, ex, ey, ha, hb, pr, q⟩
  subst ex ey
  cases (show v = Value.ref a from rx)
  cases (show u = Value.ref b from ry)
  obtain ⟨us, r1, p1, _⟩ := I.list ha
  obtain ⟨ws, r2, p2, _⟩ := I.list hb
  have sz : us.toArray.size = ws.toArray.size := by
    rw [List.size_toArray, List.size_toArray, ← r1.length, ← r2.length]
    exact Paired.length pr
  have z := SeqAt.RcNeAt.lists (A := X.A) (s := s) (e := fun _ => true) p1.isList p2.isList sz (by omega) fun j h1 h2 => by
    have k := pair_at (A := X.A.in1) (eqT_run I n X.A.in1 (by show X.A.units + 1 + n < cLine; omega)) pr r1 r2 j (by simpa using h1) (by simpa using h2)
    simpa using k
  rw [all_true] at z
  exact z X.prog X.w X.xe _ ⟨.bl false, H, I, rfl, q⟩
/-- two tuples == -/
def rEqT (K : PySem.W.Frag) : R2 := fun x y H Q => ∃ a b xs ys n, n ≤ 60 ∧ x = .ref a ∧ y = .ref b ∧ SqT K H a xs ∧ SqT K H b ys ∧ Paired (EqT K H n) xs ys ∧ Q (.bl true) H
theorem op_eqT (hu : X.A.units + 64 < cLine) : OpR X (compareOp .Eq) (rEqT X.K) := by
  intro pins s σ H x y v u Q I rx ry ⟨a, b, xs, ys, n, hn, ex, ey, ha, hb, pr, q⟩
  subst ex ey
  cases (show v = Value.ref a from rx)
  cases (show u = Value.ref b from ry)
  obtain ⟨us, r1, p1, _⟩ := I.tuple ha
  obtain ⟨ws, r2, p2, _⟩ := I.tuple hb
  have sz : us.toArray.size = ws.toArray.size := by
    rw [List.size_toArray, List.size_toArray, ← r1.length, ← r2.length]
    exact Paired.length pr
  have z := SeqAt.RcAt.tuples (A := X.A) (s := s) (e := fun _ => true) p1 p2 (by omega) fun j h1 h2 => by
    have k := pair_at (A := X.A.in1) (eqT_run I n X.A.in1 (by show X.A.units + 1 + n < cLine; omega)) pr r1 r2 j (by simpa using h1) (by simpa using h2)
    simpa using k
  rw [all_true, sz, beq_self_eq_true] at z
  exact z X.prog X.w X.xe _ ⟨.bl true, H, I, rfl, q⟩
end
end OD

/-! B10: _law_told -/
namespace TH
open PySem PySem.Spec PyProof.Rows L2 LamV LamX XK0
open C8 (pss_cut tCut)
open OD (EqT)
abbrev sTold : Stmt := top 23
/-- a list of pairs, of rows -/
def PairsAt (H : Hp) (lp : Addr) (l : Ld) : Prop := ∃ qs : List Addr, H lp = some (.lst (qs.map V.ref)) ∧ Paired (fun p (q : Str × Str) => H p = some (.tup [.str q.1, .str q.2])) qs l
def RowsAt (H : Hp) (q : Addr) (ls : Lds) : Prop := ∃ ps : List Addr, H q = some (.lst (ps.map V.ref)) ∧ Paired (fun p (nl : Str × Ld) => ∃ lp, lp ≠ q ∧ H p = some (.tup [.str nl.1, .ref lp]) ∧ PairsAt H lp nl.2) ps ls
theorem PairsAt.ex {H H' : Hp} {lp : Addr} {l : Ld} (x : Ex H H') (h : PairsAt H lp l) : PairsAt H' lp l := by
  obtain ⟨qs, e, p⟩ := h
  exact ⟨qs, x _ _ e, Paired.mapP p fun _ _ z => x _ _ z⟩
theorem RowsAt.ex {H H' : Hp} {lp : Addr} {l : Lds} (x : Ex H H') (h : RowsAt H lp l) : RowsAt H' lp l := by
  obtain ⟨qs, e, p⟩ := h
  exact ⟨qs, x _ _ e, Paired.mapP p fun _ _ ⟨a, n, z, w⟩ => ⟨a, n, x _ _ z, w.ex x⟩⟩
/-- pairs stand while another list is written -/
theorem PairsAt.put {H : Hp} {lp D : Addr} {l : Ld} {xs ys : List V} (hD : H D = some (.lst xs)) (n : lp ≠ D) (h : PairsAt H lp l) : PairsAt (upd H D (.lst ys)) lp l := by
  obtain ⟨qs, e, p⟩ := h
  exact ⟨qs, (upd_ne n).trans e, Paired.mapP p fun b _ z => (upd_ne fun q => by rw [q, hD] at z; cases z).trans z⟩
theorem paired_two {α β : Type} {R R' : α → β → Prop} {S : α → α → Prop} (k : ∀ a b c, R a c → R' b c → S a b) : ∀ {xs ys : List α} {zs : List β}, Paired R xs zs → Paired R' ys zs → Paired S xs ys
  | _, _, _, .nil, .nil => .nil
  | _, _, _, .cons a b, .cons c d => .cons (k _ _ _ a c) (paired_two k b d)
theorem paired_mapf {α β γ δ : Type} {R : γ → δ → Prop} {f : α → γ} {g : β → δ} : ∀ {xs : List α} {ys : List β}, Paired (fun a b => R (f a) (g b)) xs ys → Paired R (xs.map f) (ys.map g)
  | _, _, .nil => .nil
  | _, _, .cons a b => .cons a (paired_mapf b)
theorem strs_eqT {K : PySem.W.Frag} {H : Hp} {n : Nat} : ∀ xs : List Str, Paired (EqT K H n) (xs.map V.str) (xs.map V.str)
  | [] => .nil
  | x :: r => .cons (by cases n with
    | zero => exact .inl ⟨rfl, rfl⟩
    | succ n => exact .inl (.inl ⟨rfl, rfl⟩)) (strs_eqT r)
theorem rows_eqT {K : PySem.W.Frag} {H : Hp} {a b : Addr} {ls : Lds} (h : RowsAt H a ls) (g : RowsAt H b ls) : ∃ xs ys, H a = some (.lst xs) ∧ H b = some (.lst ys) ∧ Paired (EqT K H 3) xs ys := by
  obtain ⟨ps, e, p⟩ := h
  obtain ⟨qs, e2, q⟩ := g
  refine ⟨_, _, e, e2, paired_mapf (paired_two (fun u v nl ⟨l1, _, h1, qs1, h2, h3⟩ ⟨l2, _, g1, qs2, g2, g3⟩ => ?_) p q)⟩
  refine .inr ⟨u, v, _, _, rfl, rfl, .inr ⟨.inl (.inl h1), .inl (.inl g1)⟩, .cons (.inl (.inl ⟨rfl, rfl⟩)) (.cons ?_ .nil)⟩
  refine .inr ⟨l1, l2, _, _, rfl, rfl, .inl ⟨.inl (.inl h2), .inl (.inl g2)⟩, paired_mapf (paired_two (fun c d q z1 z2 => ?_) h3 g3)⟩
  exact .inr ⟨c, d, _, _, rfl, rfl, .inr ⟨.inl (.inl z1), .inl (.inl z2)⟩, .cons (.inl ⟨rfl, rfl⟩) (.cons (.inl ⟨rfl, rfl⟩) .nil)⟩
def spTold : Sp := fun vs H Q _ => ∃ (a va : Addr) (lds : Lds) (vals : List Str), vs = [.ref a, .ref va] ∧ DD H a lds ∧ (lds.map (·.1)).Nodup ∧ lds.length < 64 ∧ H va = some (.lst (vals.map V.str)) ∧ vals.length ≤ 1000 ∧
  ∀ (q : Addr) (H' : Hp) (ns : List Str), ns.Perm (lds.map (·.1)) → sortedS ns = true → Ex H H' → H q = none → RowsAt H' q (ordD vals lds ns) → Q (.ref q) H'
def tTI (K : PySem.W.Frag) : TE := tLc (iList K (tVar 1)) (gName 3) (tTest (tDIn (tVar 3) (tDGet (tVar 0) (tVar 2)))) (tTup (tCons (tVar 3) (tCons (tDGet (tDGet (tVar 0) (tVar 2)) (tVar 3)) tNil))) [3]
theorem told_in {K : PySem.W.Frag} {σ : L2.St} {H : Hp} {Q : VK} {a va b : Addr} {name : Str} {kvs : List (Key × V)} {l : Ld} {vals : List Str} (len : σ.length = 4) (s0 : σ[0]? = some (some (.ref a))) (s1 : σ[1]? = some (some (.ref va))) (s2 : σ[2]? = some (some (.str name)))
    (ha : H a = some (.dK kvs)) (hv : valV kvs (Sum.inr name) = some (.ref b)) (hb : H b = some (.dK (ldV l))) (hk : H va = some (.lst (vals.map V.str))) (vl : vals.length ≤ 1000)
    (hQ : ∀ (p : Addr) (H' : Hp), Ex H H' → H p = none → PairsAt H' p (ordL vals l) → Q (.ref p) H') : tTI K σ H Q := by
  refine ⟨.ref va, s1, va, rfl, ⟨_, .inl (.inl hk)⟩, fun D nD => ?_⟩
  refine lc_list (K := K) (xs := vals.map V.str) (fun i H2 => Ex H H2 ∧ ∃ qs : List Addr, H2 D = some (.lst (qs.map V.ref)) ∧ Paired (fun p (q : Str × Str) => H2 p = some (.tup [.str q.1, .str q.2])) qs (ordL (vals.take i) l)) ⟨Ex.new nD, [], upd_same, .nil⟩ (fun i H2 _ h => .inl (.inl (h.1 _ _ hk))) (fun i v H2 hv2 h => ?_) fun H2 h => ?_
  · obtain ⟨x2, qs, hD, pr⟩ := h
    rw [List.getElem?_map] at hv2
    obtain ⟨w, ew, rfl⟩ := Option.map_eq_some_iff.mp hv2
    have a3 : (((wipe σ [3]).set 3 (some (V.str w))))[3]? = some (some (V.str w)) := List.getElem?_set_self (by rw [wipe_length, len]; decide)
    have up : ∀ j, j ≠ 3 → (((wipe σ [3]).set 3 (some (V.str w))))[j]? = σ[j]? := fun j hj => by
      rw [List.getElem?_set_ne hj.symm]
      exact List.getElem?_set_ne hj.symm
    have a0 := (up 0 (by decide)).trans s0
    have a2 := (up 2 (by decide)).trans s2
    have g1 : DGet H2 a (.str name) (some (.ref b)) := hv ▸ DGet.k (k := Sum.inr name) (x2 _ _ ha)
    have g2 : DGet H2 b (.str w) (valV (ldV l) (Sum.inr w)) := DGet.k (k := Sum.inr w) (x2 _ _ hb)
    refine ⟨?_, .str w, a3, .ref a, a0, .str name, a2, a, .ref b, rfl, g1, b, _, rfl, g2, _, rfl, ?_⟩
    · show ((σ.set 3 none).set 3 (some (V.str w))).set 3 none = σ.set 3 none
      rw [List.set_set, List.set_set]
    rw [List.take_add_one, ew, Option.toList_some, ordL_snoc]
    rw [lookL_val] at g2 ⊢
    cases q : lookL l w with
    | none => exact ⟨x2, qs, hD, by rw [List.append_nil]; exact pr⟩
    | some g =>
      rw [q] at g2
      refine ⟨.str w, a3, .ref a, a0, .str name, a2, a, .ref b, rfl, g1, .str w, a3, b, .str g, rfl, g2, by show 2 ≤ sizeLine; decide, fun p np => ?_⟩
      have pD : p ≠ D := fun z => by rw [z, hD] at np; cases np
      have ql : qs.length ≤ 1000 := by
        have := Paired.length pr
        have := ordL_len (vals.take i) l
        rw [List.length_take] at this
        omega
      refine ⟨qs.map V.ref, (upd_ne pD.symm).trans hD, by rw [sizeLine_eq, List.length_map]; omega, fun c o e => (upd_ne fun z => by rw [z, nD] at e; cases e).trans ((Ex.new np) _ _ (x2 _ _ e)), qs ++ [p], by rw [upd_same, List.map_append]; rfl, ?_⟩
      refine paired_app (Paired.mapP pr fun c _ z => (upd_ne fun e => by rw [e, hD] at z; cases z).trans ((upd_ne fun e => by rw [e, np] at z; cases z).trans z)) ((upd_ne pD).trans upd_same)
  · obtain ⟨x2, qs, hD, pr⟩ := h
    rw [List.length_map, List.take_length] at pr
    exact hQ D H2 x2 nD ⟨qs, hD, pr⟩
section
variable {P : Program} {w : World} {K : PySem.W.Frag} {mg : Str → Option Value} {base : Heap} {f : Addr} {fd : FuncData}
theorem scTold : FnScope ["_law_leads_here", "_law_values", "_law_name", "_law_value"] ["_law_leads_here", "_law_values"] (defScope sTold) := ⟨rfl, rfl, rfl, by decide +kernel, rfl, by decide +kernel, by decide +kernel⟩
theorem ok_told (F : FnP K "_law_told" sTold f fd) (gs : mg "sorted" = none) : FnOk P w K mg base CX0 1 f fd ["_law_leads_here", "_law_values"] spTold := by
  refine F.ok scTold (fun vs H Q E h => ?_) (fun cdv A outer s H vs Q E hr h => ?_)
  · obtain ⟨a, va, lds, vals, rfl, _⟩ := h
    rfl
  · have hu := hu_of hr
    refine ⟨_, PSs.nox (pss_one (ps_ret (pe_lc (te := tTup (tCons (tVar 2) (tCons (tTI K) tNil))) (own := [("_law_name", 2)]) rfl scTold.nd (pi_list (pe_callB (call_sortedD rfl) rfl gs boot_sorted (pa_cons (pv 0) pa_nil))) (blkOk_by (by kernel_rfl)) (fun s H C cl fp => pg_name (i := 2) scTold.nd rfl (.inr rfl) (.inl rfl)) (fun s H C cl fp => pts_nil)
      (fun s H C cl fp => pe_tup (pa_cons (pv 2) (pa_cons (pe_lc (te := tTup (tCons (tVar 3) (tCons (tDGet (tDGet (tVar 0) (tVar 2)) (tVar 3)) tNil))) (tt := tTest (tDIn (tVar 3) (tDGet (tVar 0) (tVar 2)))) (own := [("_law_value", 3)]) rfl scTold.nd (pi_list (pv 1)) (blkOk_by (by kernel_rfl)) (fun s H C cl fp => pg_name (i := 3) scTold.nd rfl (.inl rfl) (.inr rfl))
        (fun s H C cl fp => pts_one (pt_cmp (pc_din hu (pv 3) (pe_dget hu (pv 0) (pv 2) (fun _ _ => rfl))))) (fun s H C cl fp => pe_tup (pa_cons (pv 3) (pa_cons (pe_dget hu (pe_dget hu (pv 0) (pv 2) (fun _ _ => rfl)) (pv 3) (fun _ _ => rfl)) pa_nil)))) pa_nil)))))), ?_⟩
    obtain ⟨a, va, lds, vals, rfl, ⟨kvs, ha, pr⟩, knd, kln, hva, vl, hQ⟩ := h
    refine ⟨.ref a, rfl, a, kvs, lds.map (·.1), rfl, .inl ha, PR.keys pr, by rw [List.length_map]; exact kln, fun ns q pm so nq => ?_⟩
    have x1 : Ex H (upd H q (.lst (ns.map V.str))) := Ex.new nq
    have hq : upd H q (.lst (ns.map V.str)) q = some (.lst (ns.map V.str)) := upd_same
    generalize upd H q (.lst (ns.map V.str)) = H1 at x1 hq ⊢
    refine ⟨q, rfl, ⟨_, .inl (.inl hq)⟩, fun D nD => ?_⟩
    have nln : ns.length < 64 := by rw [pm.length_eq, List.length_map]; exact kln
    refine lc_list (K := K) (xs := ns.map V.str) (fun i H2 => Ex H1 H2 ∧ ∃ ps : List Addr, ps.length = i ∧ H2 D = some (.lst (ps.map V.ref)) ∧ Paired (fun p (nl : Str × Ld) => ∃ lp, lp ≠ D ∧ H2 p = some (.tup [.str nl.1, .ref lp]) ∧ PairsAt H2 lp nl.2) ps (ordD vals lds (ns.take i))) ⟨Ex.new nD, [], rfl, upd_same, .nil⟩ (fun i H2 _ h => .inl (.inl (h.1 _ _ hq))) (fun i v H2 hv2 h => ?_) fun H2 h => ?_
    · obtain ⟨x2, ps, pl, hD, pk⟩ := h
      rw [List.getElem?_map] at hv2
      obtain ⟨n, en, rfl⟩ := Option.map_eq_some_iff.mp hv2
      have ilt := (List.getElem?_eq_some_iff.mp en).1
      have y2 := x1.trans x2
      have mn : n ∈ lds.map (·.1) := pm.mem_iff.mp (List.mem_of_getElem? en)
      rcases look_val pr n with ⟨z, _⟩ | ⟨l, b, z1, z2, z3⟩
      · have := look_mem mn
        rw [z] at this
        cases this
      refine ⟨rfl, .str n, rfl, ?_⟩
      refine told_in (b := b) (l := l) rfl rfl rfl rfl (y2 _ _ ha) z2 (y2 _ _ z3) (y2 _ _ hva) vl fun lp H4 x4 nlp hlp => ⟨by show 2 ≤ sizeLine; decide, fun p np => ?_⟩
      have hD4 := x4 _ _ hD
      have pD : p ≠ D := fun z => by rw [z, hD4] at np; cases np
      have lD : lp ≠ D := fun z => by rw [z, hD] at nlp; cases nlp
      have hDp : upd H4 p (.tup [.str n, .ref lp]) D = some (.lst (ps.map V.ref)) := (upd_ne pD.symm).trans hD4
      refine ⟨ps.map V.ref, hDp, by rw [sizeLine_eq, List.length_map]; omega, fun c o e => (upd_ne fun z => by rw [z, nD] at e; cases e).trans ((Ex.new np) _ _ (x4 _ _ (x2 _ _ e))), ps ++ [p], by rw [List.length_append, pl]; rfl, by rw [upd_same, List.map_append]; rfl, ?_⟩
      rw [List.take_add_one, en, Option.toList_some]
      unfold ordD
      rw [List.map_append]
      refine paired_app (Paired.mapP pk fun c _ ⟨l2, n2, h2, h3⟩ => ⟨l2, n2, (upd_ne fun e => ?_).trans ((Ex.new np) _ _ (x4 _ _ h2)), ((h3.ex x4).ex (Ex.new np)).put hDp n2⟩) ⟨lp, lD, (upd_ne pD).trans upd_same, ?_⟩
      · rw [e, hD] at h2; cases h2
      · have z : ordL vals ((look lds n).getD []) = ordL vals l := by rw [z1]; rfl
        show PairsAt _ lp (ordL vals ((look lds n).getD []))
        rw [z]
        exact (hlp.ex (Ex.new np)).put hDp lD
    · obtain ⟨x2, ps, pl, hD, pk⟩ := h
      rw [List.length_map, List.take_length] at pk
      exact hQ D H2 ns pm so (x1.trans x2) (x1.none nD) ⟨ps, hD, pk⟩
end
end TH

/-! B11: _law_met(lambda: Thing(..)) -/
namespace TH
open PySem PySem.Spec PyProof.Rows L2 LamV LamX XK0
open C8 (pss_cut tCut)
abbrev sMetP : Stmt := top 21
abbrev sDoors : Stmt := top 24
abbrev lamD : Str := ("_law_doors_right" : Str) ++ ".<locals>." ++ "<lambda>"
theorem takes_lenP {X : Cx} {W : WX} (tk : Takes X W) : Takes X (fun cls d σ H => σ.length = X.N.length → W cls d σ H) := by
  rintro u s' ⟨a, B, sI, pins', τ, G, cls, d, e, J, nb, up, sky, na, os, ag, w⟩
  exact tk u s' ⟨a, B, sI, pins', τ, G, cls, d, e, J, nb, up, sky, na, os, ag, w J.len⟩
/-- what the four classes are to one another -/
structure Met4 (K : PySem.W.Frag) (mg : Str → Option Value) (CV CS CD CE : Addr) : Prop where
  gV : mg "BadValues" = some (.ref CV)
  gS : mg "BadStart" = some (.ref CS)
  gD : mg "BadDeeds" = some (.ref CD)
  gE : mg "BadEntries" = some (.ref CE)
  xV : XfC K CV
  xS : XfC K CS
  xD : XfC K CD
  xE : XfC K CE
  nV : PySem.W.findIn K (.ref CV) "index" = some none
  nS : PySem.W.findIn K (.ref CS) "thing" = some none
  nD : PySem.W.findIn K (.ref CD) "name" = some none
  nE : PySem.W.findIn K (.ref CE) "name" = some none
  vv : PySem.W.exmOne K (.ref CV) (.ref CV) = some true
  sv : PySem.W.exmOne K (.ref CS) (.ref CV) = some false
  ss : PySem.W.exmOne K (.ref CS) (.ref CS) = some true
  dv : PySem.W.exmOne K (.ref CD) (.ref CV) = some false
  ds : PySem.W.exmOne K (.ref CD) (.ref CS) = some false
  dd : PySem.W.exmOne K (.ref CD) (.ref CD) = some true
  ev : PySem.W.exmOne K (.ref CE) (.ref CV) = some false
  es : PySem.W.exmOne K (.ref CE) (.ref CS) = some false
  ed : PySem.W.exmOne K (.ref CE) (.ref CD) = some false
  ee : PySem.W.exmOne K (.ref CE) (.ref CE) = some true
/-- C with its field f is told as tag -/
def Tag (CV CS CD CE : Addr) (C : Addr) (f tag : Str) : Prop := (C = CV ∧ f = "index" ∧ tag = "values") ∨ (C = CS ∧ f = "thing" ∧ tag = "start") ∨ (C = CD ∧ f = "name" ∧ tag = "deeds") ∨ (C = CE ∧ f = "name" ∧ tag = "entries")
def TTm (CV CS CD CE : Addr) : (XK → Hp → VK → Prop) → Hp → VK → Prop := fun tl H Q => tl (fun cls dd H' => ∃ (d C : Addr) (f tag : Str) (v : V), dd = some d ∧ cls = .ref C ∧ Tag CV CS CD CE C f tag ∧ H' d = some (.xd [(f, v)]) ∧ ∀ p, H' p = none → Q (.ref p) (upd H' p (.tup [.str tag, v]))) H (fun v H' => 2 ≤ sizeLine ∧ ∀ p, H' p = none → Q (.ref p) (upd H' p (.tup [.str "told", v])))
theorem scMetP : FnScope ["_law_ask", "e"] ["_law_ask"] (defScope sMetP) := ⟨rfl, rfl, rfl, by decide +kernel, rfl, by decide +kernel, by decide +kernel⟩
theorem met_givesP {X : Cx} {g CV CS CD CE : Addr} {cdg : Value} {q : Str} (M : Met4 X.K X.mg CV CS CD CE) : GivesTo X ["_law_ask", "e"] "_law_met" (defScope sMetP) g cdg (defBody sMetP) "_law_ask" q (TTm CV CS CD CE) := by
  intro f c' s H Q tl act hc h
  refine ⟨_, pss_one (ps_tryAs (X := (cxOf C8.CX0 X.prog X.w X.K X.mg X.base ["_law_ask", "e"] "_law_met" (defScope sMetP) g cdg X.A X.stack s H C8.E0).nox) (i := 1) (Wo := fun _ _ _ _ => False)
      (tb := fun W D σ H => ∃ Ech : XK, (∀ cls d σ' H', Ech cls d H' → σ'.length = 2 → W cls d σ' H') ∧ σ[0]? = some (some (.ref f)) ∧ H c' = some (CodeO c' q) ∧ tl Ech H fun v H' => 2 ≤ sizeLine ∧ ∀ p, H' p = none → D.rt (.ref p) (upd H' p (.tup [.str "told", v])))
      rfl rfl scMetP.nd rfl rfl L2.takes0 (fun W pn xe tk _ => ⟨fun pins s' σ H' D I h' => ?_⟩)
      (.cons ⟨rfl, by decide, .inl M.gV⟩ (fun a oe cls d pn hz hf => pss_one (ps_ret (pe_tup (pa_cons pe_str (pa_cons (pe_xf M.xV M.nV hz hf (pv 1)) pa_nil)))))
      (.cons ⟨rfl, by decide, .inl M.gS⟩ (fun a oe cls d pn hz hf => pss_one (ps_ret (pe_tup (pa_cons pe_str (pa_cons (pe_xf M.xS M.nS hz hf (pv 1)) pa_nil)))))
      (.cons ⟨rfl, by decide, .inl M.gD⟩ (fun a oe cls d pn hz hf => pss_one (ps_ret (pe_tup (pa_cons pe_str (pa_cons (pe_xf M.xD M.nD hz hf (pv 1)) pa_nil)))))
      (.cons ⟨rfl, by decide, .inl M.gE⟩ (fun a oe cls d pn hz hf => pss_one (ps_ret (pe_tup (pa_cons pe_str (pa_cons (pe_xf M.xE M.nE hz hf (pv 1)) pa_nil))))) .nil))))), ?_⟩
  · obtain ⟨Ech, hW, h1, h2, h3⟩ := h'
    exact (pss_one (ps_ret (pe_tup (pa_cons pe_str (pa_cons (act _ pn xe Ech _ _ (takes_lenP tk) fun cls d σ' H' e l => hW cls d σ' H' e l) pa_nil))))).run pins s' σ H' D I ⟨h1, h2, h3⟩
  · refine ⟨_, ?_, rfl, hc, h⟩
    rintro cls dd σ' H' ⟨d, C, ff, tag, v, rfl, rfl, tg, hd, hq⟩ len
    have go : ∀ {a : Addr}, σ'.length = 2 → (σ'.set 1 (some (.ref a)))[1]? = some (some (V.ref a)) := fun l => List.getElem?_set_self (by omega)
    have s2 : 2 ≤ sizeLine := by decide
    rcases tg with ⟨rfl, rfl, rfl⟩ | ⟨rfl, rfl, rfl⟩ | ⟨rfl, rfl, rfl⟩ | ⟨rfl, rfl, rfl⟩
    · exact ⟨true, M.vv, fun _ a na => ⟨.ref a, go len, rfl, rfl, d, _, v, rfl, hd, rfl, s2, fun p np => hq p np⟩, fun z => nomatch z⟩
    · exact ⟨false, M.sv, (fun z => nomatch z), fun _ => ⟨true, M.ss, fun _ a na => ⟨.ref a, go len, rfl, rfl, d, _, v, rfl, hd, rfl, s2, fun p np => hq p np⟩, fun z => nomatch z⟩⟩
    · exact ⟨false, M.dv, (fun z => nomatch z), fun _ => ⟨false, M.ds, (fun z => nomatch z), fun _ => ⟨true, M.dd, fun _ a na => ⟨.ref a, go len, rfl, rfl, d, _, v, rfl, hd, rfl, s2, fun p np => hq p np⟩, fun z => nomatch z⟩⟩⟩
    · exact ⟨false, M.ev, (fun z => nomatch z), fun _ => ⟨false, M.es, (fun z => nomatch z), fun _ => ⟨false, M.ed, (fun z => nomatch z), fun _ => ⟨true, M.ee, fun _ a na => ⟨.ref a, go len, rfl, rfl, d, _, v, rfl, hd, rfl, s2, fun p np => hq p np⟩, fun z => nomatch z⟩⟩⟩⟩
theorem pe_metP {X : Cx} {T : List (Addr × Str)} {g c Pt CV CS CD CE : Addr} {fd : FuncData} {k : Nat} {q : Str} {params : Arguments} {body : Expr} {scope : Scope} {t : XK → TE} {p lpos pos : Pos} (M : Met4 X.K X.mg CV CS CD CE) (F : FnP X.K "_law_met" sMetP g fd) (hm : X.mg "_law_met" = some (.ref g)) (hk : PySem.W.keepIn X.K (.ref g) = true)
    (TB : TabB X.base X.mg c Pt) (hcode : X.env.code = .ref c) (hq : X.env.qual ++ "<lambda>" = q) (hmT : (Pt, q) ∈ T) (hu : ∀ p ∈ T, p.1 = Pt → p.2 = q) (hr : Room (k + 2) X.A) (hg : Gl X "_law_met") (L : LamS X.env.scope scope) (hdef : defaultsOf params X.env = ([], []))
    (hbind : ∀ (q : Str) (cl : List (Str × Addr)) (pm cv ctv : Value), bindArgs (PySem.W.kla_fn "<lambda>" q params body scope cl pm cv ctv) ⟨[], []⟩ = pure [])
    (hbody : ∀ (A : Around) (outer : List Env) (s : Shared) (H : Hp) (E : XK) (f c' : Addr), Room k (A.deeper (lamEnv X scope s.heap.objs.size f c')) → PE (lamCx X A outer s H E scope f c') body (t E)) :
    PE X (.Call (.Name "_law_met" p) [.Lambda params body scope lpos] [] pos) (tLam T (TTm CV CS CD CE) t) := by
  have hb := L2.FunD.bindsA (ps := ["_law_ask"]) F (fun _ _ _ _ _ _ us hl => match us, hl with | [_], _ => rfl)
  obtain ⟨oc, od, dV, kV, doc, pm, an, cdv, ct, osl, rfl, lk, hcd, hD, hK⟩ := F.ex
  have bd : L2.Binds X.K (PySem.W.fnOf "_law_met" "_law_met" (defArgs sMetP) (defBody sMetP) (defScope sMetP) dV kV doc pm an cdv ct) ["_law_ask"] [] := fun s us _ hl => by
    rw [List.append_nil] at hl ⊢
    exact hb s us hl
  subst hq
  exact pe_lamcall hg hm hk lk hcd bd scMetP rfl (.inl rfl) (met_givesP M) TB hcode hmT hu hr L hdef hbind hbody
/-! ### all but the pool and tables stands -/
def ExP (p : Addr) (H H' : Hp) : Prop := ∀ b o, b ≠ p → H b = some o → (∀ ps, o ≠ .tbl ps) → H' b = some o
theorem ExP.refl {p : Addr} {H : Hp} : ExP p H H := fun _ _ _ e _ => e
theorem ExP.trans {p : Addr} {H H1 H2 : Hp} (x : ExP p H H1) (y : ExP p H1 H2) : ExP p H H2 := fun b o h e n => y b o h (x b o h e n) n
theorem ExA.p {p : Addr} {H H' : Hp} (x : ExA p H H') : ExP p H H' := fun b o h e _ => x b o h e
theorem ExtN.p {p : Addr} {H H' : Hp} (x : ExtN H H') : ExP p H H' := fun b o _ e n => x b o e n
theorem Ex.p {p : Addr} {H H' : Hp} (x : Ex H H') : ExP p H H' := fun b o _ e _ => x b o e
theorem Pool.exN {H H' : Hp} {p : Addr} {n : Nat} (x : ExtN H H') (h : Pool H p n) : Pool H' p n := by
  obtain ⟨a, m, j, e, r⟩ := h
  exact ⟨a, m, j, x _ _ e (fun _ z => nomatch z), r⟩
theorem ExP.non {p b : Addr} {H H' : Hp} {n : Nat} {o : HO} (x : ExP p H H') (s : Pool H p n) (h : H b = some o) (no : ∀ xs, o ≠ .lst xs) (nt : ∀ ps, o ≠ .tbl ps) : H' b = some o := by
  obtain ⟨a, m, j, e, _⟩ := s
  exact x b o (fun z => by rw [z, e] at h; exact no _ (Option.some.inj h).symm) h nt
theorem ExP.lst {p b : Addr} {H H' : Hp} {xs : List V} (x : ExP p H H') (h : H b = some (.lst xs)) (n : b ≠ p) : H' b = some (.lst xs) := x b _ n h fun _ z => nomatch z
theorem ExP.tup {p b : Addr} {H H' : Hp} {n : Nat} {xs : List V} (x : ExP p H H') (s : Pool H p n) (h : H b = some (.tup xs)) : H' b = some (.tup xs) := x.non s h (fun _ z => nomatch z) fun _ z => nomatch z
theorem ExP.dk {p b : Addr} {H H' : Hp} {n : Nat} {xs : List (Key × V)} (x : ExP p H H') (s : Pool H p n) (h : H b = some (.dK xs)) : H' b = some (.dK xs) := x.non s h (fun _ z => nomatch z) fun _ z => nomatch z
theorem DD.p {p : Addr} {H H' : Hp} {n : Nat} {a : Addr} {ls : Lds} (x : ExP p H H') (s : Pool H p n) (h : DD H a ls) : DD H' a ls := by
  obtain ⟨kvs, e, pr⟩ := h
  exact ⟨kvs, x.dk s e, Paired.mapP pr fun _ _ ⟨e1, b, e2, e3⟩ => ⟨e1, b, e2, x.dk s e3⟩⟩
theorem Tabs.exP {p : Addr} {H H' : Hp} {n : Nat} {T : List (Addr × Str)} (x : ExA p H H') (s : Pool H p n) (t : Tabs T H) : Tabs T H' := fun q hp => by
  obtain ⟨ps, h1, h2, h3⟩ := t q hp
  refine ⟨ps, x.nl s h1 (fun _ z => nomatch z), h2, fun pos cv hc => ?_⟩
  obtain ⟨c, e1, e2⟩ := h3 pos cv hc
  exact ⟨c, e1, x.nl s e2 (fun _ z => by unfold CodeO at z; cases z)⟩
/-- _law_met of a lambda that raises -/
theorem lamM {T : List (Addr × Str)} {CV CS CD CE p C : Addr} {f tag : Str} {n m : Nat} {t : XK → TE} {σ : L2.St} {H : Hp} {Q : VK} {v : V} (S : Pool H p n) (hT : Tabs T H) (tg : Tag CV CS CD CE C f tag) (ht : ∀ E H1 Q', ExtN H H1 → Tabs T H1 → (∀ H2, ExA p H1 H2 → Pool H2 p m → Rz E H2 C [(f, v)]) → t E σ H1 Q')
    (hQ : ∀ q H', ExP p H H' → Pool H' p m → Tabs T H' → NewP H q → H' q = some (.tup [.str tag, v]) → Q (.ref q) H') : tLam T (TTm CV CS CD CE) t σ H Q := by
  refine ⟨hT, fun H1 x1 t1 => ht _ H1 _ x1 t1 fun H2 x2 S2 H3 dd x3 nd => ⟨dd, C, f, tag, v, rfl, rfl, tg, upd_same, fun q np => ?_⟩⟩
  have S1 := S.exN x1
  have y3 : Ex H2 (upd H3 dd (.xd [(f, v)])) := x3.trans (Ex.new nd)
  have x4 : Ex H2 (upd (upd H3 dd (.xd [(f, v)])) q (.tup [.str tag, v])) := y3.trans (Ex.new np)
  refine hQ q _ (ExP.trans (ExtN.p x1) (ExA.p (x2.trans x4.exA))) (S2.ex x4) (Tabs.exP (x2.trans x4.exA) S1 t1) (fun o e nt => ?_) upd_same
  have po := (S2.ex y3).off np
  rw [(x2.trans y3.exA) _ _ po (x1 _ _ e nt)] at np
  cases np
/-- things found so far, each the tuple (x, v) -/
structure FoP (p : Addr) (T : List (Addr × Str)) (H0 H : Hp) (fl : Addr) (its : List (Str × V)) : Prop where
  ex : ExP p H0 H
  new : NewP H0 fl
  off : fl ≠ p
  tabs : Tabs T H
  all : ∃ ps : List Addr, H fl = some (.lst (ps.map V.ref)) ∧ Paired (fun q (it : Str × V) => H q = some (.tup [.str it.1, it.2])) ps its
theorem FoP.first {p : Addr} {T : List (Addr × Str)} {H0 H : Hp} {fl q : Addr} {x : Str} {v : V} {n : Nat} (S : Pool H p n) (e : ExP p H0 H) (t : Tabs T H) (hp : H q = some (.tup [.str x, v])) (nf : H fl = none) : FoP p T H0 (upd H fl (.lst [.ref q])) fl [(x, v)] :=
  ⟨e.trans (Ex.p (Ex.new nf)), (fun o e2 nt => by rw [e _ _ (S.off nf) e2 nt] at nf; cases nf), S.off nf, (Ex.new nf).tabs t, [q], upd_same, .cons ((Ex.new nf) _ _ hp) .nil⟩
theorem FoP.lst {p : Addr} {T : List (Addr × Str)} {H0 H : Hp} {fl : Addr} {its : List (Str × V)} (F : FoP p T H0 H fl its) : ∃ xs, H fl = some (.lst xs) ∧ xs.length = its.length := by
  obtain ⟨ps, e, pr⟩ := F.all
  exact ⟨_, e, by rw [List.length_map]; exact Paired.length pr⟩
theorem FoP.app {p : Addr} {T : List (Addr × Str)} {H0 H H' : Hp} {fl q : Addr} {its : List (Str × V)} {x : Str} {v : V} {xs : List V} {n : Nat} (S : Pool H p n) (F : FoP p T H0 H fl its) (e : ExP p H H') (t : Tabs T H') (hp : H' q = some (.tup [.str x, v])) (hx : H' fl = some (.lst xs)) : FoP p T H0 (upd H' fl (.lst (xs ++ [.ref q]))) fl (its ++ [(x, v)]) := by
  obtain ⟨ps, hf, pr⟩ := F.all
  have ef := e.lst hf F.off
  rw [ef] at hx
  cases hx
  have off : ∀ {b ys}, H' b = some (.tup ys) → b ≠ fl := fun h z => by rw [z, ef] at h; cases h
  refine ⟨fun b o b1 eb nt => ?_, F.new, F.off, fun q hq => ?_, ps ++ [q], by rw [upd_same, List.map_append]; rfl, ?_⟩
  · exact (upd_ne fun (z : b = fl) => F.new o (by rw [← z]; exact eb) nt).trans (e _ _ b1 (F.ex _ _ b1 eb nt) nt)
  · obtain ⟨rs, h1, h2, h3⟩ := t q hq
    refine ⟨rs, (upd_ne fun z => by rw [z, ef] at h1; cases h1).trans h1, h2, fun pos cv hc => ?_⟩
    obtain ⟨c, e1, e2⟩ := h3 pos cv hc
    exact ⟨c, e1, (upd_ne fun z => by rw [z, ef] at e2; cases e2).trans e2⟩
  · exact paired_app (Paired.mapP pr fun b it z => (upd_ne (off (e.tup S z))).trans (e.tup S z)) ((upd_ne (off hp)).trans hp)
/-- a new instance whose __init__ raises -/
theorem pe_makeX {X : Cx} {k j : Nat} {f C : Addr} {fd : FuncData} {ps : List Str} {sp : Sp} {W : WX} {E : XK} {x : Str} {p pos : Pos} {e : Expr} {es : List Expr} {t : TA} (M : Mk X.K C f) (F : FnOk X.prog X.w X.K X.mg X.base (L2.CX X.prog X.w) k f fd ps sp) (hr : Room j X.A) (le : k + 1 ≤ j) (hg : Gl X x) (hm : X.mg x = some (.ref C)) (hb : Binds X.K fd ps []) (tk : Takes X W) (hW : ∀ cls d σ H, E cls d H → W cls d σ H)
    (ha : PA X (e :: es) t) (hdb : (x == ("__debug__" : Str)) = false := by decide) (he : starEach (e :: es) X.env = (false, eval e X.env) :: starEach es X.env := by rfl) (hpl : (backTo pos (starEach es X.env)).any (·.1) = false := by rfl) :
    PE X (.Call (.Name x p) (e :: es) [] pos) (tMake C sp [] E t) := pe_make M F (hr.mono le) hg hm hb .nil (passes_call tk hW) ha hdb he hpl
/-- what Thing(..) raises, from the heap ahead of it -/
theorem rz_make {E : XK} {H H1 : Hp} {x dx C0 C : Addr} {fs : List (Str × V)} (nx : H x = none) (ndx : H dx = none) (r : Rz E H C fs) (e : H1 = upd (upd H dx (.own x)) x (.ins C0 dx [])) : RzA E x H1 C fs := fun H2 dd y n => by
  subst e
  exact r H2 dd (fun b o eb => y b o (fun z => by rw [z, nx] at eb; cases eb) ((upd_ne fun z => by rw [z, nx] at eb; cases eb).trans ((upd_ne fun z => by rw [z, ndx] at eb; cases eb).trans eb))) n
theorem ex_make {H : Hp} {x dx C0 : Addr} (nx : H x = none) (ndx : H dx = none) : Ex H (upd (upd H dx (.own x)) x (.ins C0 dx [])) := fun b o eb => (upd_ne fun z => by rw [z, nx] at eb; cases eb).trans ((upd_ne fun z => by rw [z, ndx] at eb; cases eb).trans eb)
theorem ok_code {P : Program} {w : World} {K : PySem.W.Frag} {mg : Str → Option Value} {base : Heap} {x qual : Str} {params : Arguments} {body : List Stmt} {scope : Scope} {dvs : List V} {kws : List (Str × V)} {f c : Addr} {fd : FuncData} {CX : CXT} {N ps : List Str} {k : Nat} {sp : Sp}
    (F : FunD K x qual params body scope dvs kws f fd) (hcode : codeOf K f = some (.ref c)) (S : FnScope N ps scope) (len : ∀ vs H Q E, sp vs H Q E → vs.length = ps.length)
    (hbody : ∀ (A : Around) (outer : List Env) (s : Shared) (H : Hp) (vs : List V) (Q : VK) (E : XK), Room k (A.deeper (envOfC qual scope s.heap.objs.size f (.ref c))) → sp vs H Q E →
      ∃ t, PSs (cxOf CX P w K mg base N qual scope f (.ref c) A outer s H E) body t ∧ t { nx := fun _ H' => Q .non H', rt := Q } (L2.start N vs) H) : FnOk P w K mg base CX (k + 1) f fd ps sp := by
  obtain ⟨oc, od, dV, kV, doc, pm, an, cdv, ct, osl, rfl, lk, hcd, _, _⟩ := F.ex
  have ec : cdv = .ref c := by
    unfold codeOf at hcode
    rw [lk] at hcode
    exact Option.some.inj hcode
  subst ec
  exact fn_of lk hcd S len fun A outer s H vs Q E hr hsp => hbody A outer s H vs Q E hr hsp
end TH

/-! B12: what _law_doors_right hands to Thing -/
namespace TH
open PySem PySem.Spec PyProof.Rows L2 LamV LamX XK0
open C8 (pss_cut tCut)
open OD
/-- no list of the pool's -/
def Off (p : Addr) (v : V) : Prop := ∀ a, v = .ref a → a ≠ p
theorem kd_p {K : PySem.W.Frag} {p : Addr} {H H' : Hp} {n : Nat} {v : V} {T : String} (x : ExP p H H') (o : Off p v) (h : Kd K H v T) : Kd K H' v T := by
  obtain ⟨h1, h2, h3⟩ := h
  refine ⟨h1, ?_, h3⟩
  have st : ∀ {a : Addr} {u : HO}, v = .ref a → H a = some u → (∀ ps, u ≠ .tbl ps) → H' a = some u := fun e1 e2 nt => x _ _ (o _ e1) e2 nt
  cases h2 with
  | base h =>
    cases h with
    | non => exact .base .non
    | bl b => exact .base (.bl b)
    | int i => exact .base (.int i)
    | str z => exact .base (.str z)
    | flt z => exact .base (.flt z)
    | lst e => exact .base (.lst (st rfl e fun _ z => nomatch z))
    | frz e => exact .base (.frz (st rfl e fun _ z => nomatch z))
    | tup e => exact .base (.tup (st rfl e fun _ z => nomatch z))
    | dK e => exact .base (.dK (st rfl e fun _ z => nomatch z))
    | dT e => exact .base (.dT (st rfl e fun _ z => nomatch z))
  | byt b => exact .byt b
  | set e => exact .set (st rfl e fun _ z => nomatch z)
  | kList e c => exact .kList e c
  | kTuple e c => exact .kTuple e c
  | kDict e c => exact .kDict e c
  | fTuple e => exact .fTuple (st rfl e fun _ z => nomatch z)
  | fDict e => exact .fDict (st rfl e fun _ z => nomatch z)
/-- a value of a kind, that can be compared with itself -/
structure Od (K : PySem.W.Frag) (p : Addr) (H : Hp) (v : V) (T : String) : Prop where
  kd : Kd K H v T
  off : Off p v
  sf : flatB v = true ∨ ∃ a, v = .ref a
theorem Od.p {K : PySem.W.Frag} {p : Addr} {H H' : Hp} {v : V} {T : String} (x : ExP p H H') (h : Od K p H v T) : Od K p H' v T := ⟨kd_p (n := 0) x h.off h.kd, h.off, h.sf⟩
theorem Od.non {K : PySem.W.Frag} {p : Addr} {H : Hp} : Od K p H .non "NoneType" := ⟨⟨by decide, .base .non, fun x z => nomatch z⟩, (fun a z => nomatch z), .inl rfl⟩
theorem Od.int {K : PySem.W.Frag} {p : Addr} {H : Hp} (i : Int) : Od K p H (.int i) "int" := ⟨⟨by decide, .base (.int i), fun x z => nomatch z⟩, (fun a z => nomatch z), .inl rfl⟩
theorem Od.bl {K : PySem.W.Frag} {p : Addr} {H : Hp} (b : Bool) : Od K p H (.bl b) "bool" := ⟨⟨by decide, .base (.bl b), fun x z => nomatch z⟩, (fun a z => nomatch z), .inl rfl⟩
theorem Od.str {K : PySem.W.Frag} {p : Addr} {H : Hp} {x : Str} (h : x.length ≤ 1000) : Od K p H (.str x) "str" := ⟨str_kd h, (fun a z => nomatch z), .inl rfl⟩
theorem Od.lst {K : PySem.W.Frag} {p a : Addr} {H : Hp} {xs : List V} (h : H a = some (.lst xs)) (n : a ≠ p) : Od K p H (.ref a) "list" := ⟨sqL_kd (.inl (.inl h)), (fun b z => by cases z; exact n), .inr ⟨a, rfl⟩⟩
theorem Od.dct {K : PySem.W.Frag} {p a : Addr} {H : Hp} {n : Nat} {xs : List (Key × V)} (S : Pool H p n) (h : H a = some (.dK xs)) : Od K p H (.ref a) "dict" := ⟨⟨by decide, .base (.dK h), fun x z => nomatch z⟩, (fun b z => by cases z; obtain ⟨_, _, _, e, _⟩ := S; exact fun q => by rw [q, e] at h; cases h), .inr ⟨a, rfl⟩⟩
theorem eqT_self {K : PySem.W.Frag} {H : Hp} {n : Nat} {v : V} (h : flatB v = true ∨ ∃ a, v = .ref a) : EqT K H n v v := by
  have b : (v = v ∧ flatB v = true) ∨ ∃ a, v = .ref a ∧ v = .ref a := by
    rcases h with h | ⟨a, rfl⟩
    · exact .inl ⟨rfl, h⟩
    · exact .inr ⟨a, rfl, rfl⟩
  cases n with
  | zero => exact b
  | succ n => exact .inl b
/-- found items are as they are due -/
theorem found_eqT {K : PySem.W.Frag} {H : Hp} {ps qs : List Addr} {its : List (Str × V)} (h : Paired (fun q (it : Str × V) => H q = some (.tup [.str it.1, it.2])) ps its) (g : Paired (fun q (it : Str × V) => H q = some (.tup [.str it.1, it.2])) qs its) (sf : ∀ it ∈ its, flatB it.2 = true ∨ ∃ a, it.2 = .ref a) : Paired (EqT K H 2) (ps.map V.ref) (qs.map V.ref) := by
  induction h generalizing qs with
  | nil => cases g; exact .nil
  | cons a _ ih =>
    cases g with
    | cons b g =>
      refine .cons (.inr ⟨_, _, _, _, rfl, rfl, .inr ⟨.inl (.inl a), .inl (.inl b)⟩, .cons (.inl (.inl ⟨rfl, rfl⟩)) (.cons (eqT_self (sf _ List.mem_cons_self)) .nil)⟩) (ih g fun it m => sf it (List.mem_cons_of_mem _ m))
/-! ### leads -/
def LdP (K : PySem.W.Frag) (p : Addr) (H : Hp) (vals : List Str) (wh : Bool) (v : V) (r : Bool) : Prop := (∃ T, Od K p H v T ∧ T ≠ "dict" ∧ r = false) ∨
  ∃ (b : Addr) (kvs : List (Key × V)), v = .ref b ∧ H b = some (.dK kvs) ∧ kvs.length ≤ 1000 ∧ (kvs.map (·.1)).Nodup ∧ (∀ q ∈ kvs, (∃ T, Od K p H (kV q.1) T) ∧ ∃ T, Od K p H q.2 T) ∧ r = leadB vals wh kvs
theorem LdP.lead {K : PySem.W.Frag} {p : Addr} {H : Hp} {vals : List Str} {wh r : Bool} {v : V} (h : LdP K p H vals wh v r) : LeadV K H vals wh v r := by
  rcases h with ⟨T, o, n, e⟩ | ⟨b, kvs, e, hb, l, nd, od, er⟩
  · exact .inl ⟨T, o.kd, n, e⟩
  · exact .inr ⟨b, kvs, e, hb, l, nd, fun q m => ⟨(od q m).1.imp fun _ z => z.kd, (od q m).2.imp fun _ z => z.kd⟩, er⟩
theorem LdP.p {K : PySem.W.Frag} {p : Addr} {H H' : Hp} {n : Nat} {vals : List Str} {wh r : Bool} {v : V} (x : ExP p H H') (S : Pool H p n) (h : LdP K p H vals wh v r) : LdP K p H' vals wh v r := by
  rcases h with ⟨T, o, n, e⟩ | ⟨b, kvs, e, hb, l, nd, od, er⟩
  · exact .inl ⟨T, o.p x, n, e⟩
  · exact .inr ⟨b, kvs, e, x.dk S hb, l, nd, fun q m => ⟨(od q m).1.imp fun _ z => z.p x, (od q m).2.imp fun _ z => z.p x⟩, er⟩
theorem leadB_ok {vals : List Str} {wh : Bool} {ld : Ld} (vo : ∀ x ∈ vals, okS x = true) (h : LeadOk vals wh ld) : leadB vals wh (ldV ld) = true := by
  obtain ⟨h1, h2, h3, h4⟩ := h
  unfold leadB
  rw [Bool.and_eq_true]
  refine ⟨List.all_eq_true.mpr fun q mq => ?_, ?_⟩
  · unfold ldV at mq
    obtain ⟨z, mz, rfl⟩ := List.mem_map.mp mq
    obtain ⟨a, b⟩ := h1 z mz
    show (isWd (.str z.1) && inV (.str z.1) (vals.map V.str) && isWd (.str z.2) && inV (.str z.2) (vals.map V.str)) = true
    rw [inV_strs, inV_strs, decide_eq_true a, decide_eq_true b, show isWd (.str z.1) = true from vo _ a, show isWd (.str z.2) = true from vo _ b]
    rfl
  · cases wh with
    | false => rfl
    | true =>
      show (false || decide _) = true
      rw [Bool.false_or]
      refine decide_eq_true ?_
      unfold ldV
      rw [List.length_map, h4 rfl]
theorem leadV_ok {K : PySem.W.Frag} {H : Hp} {b : Addr} {vals : List Str} {wh : Bool} {ld : Ld} (vo : ∀ x ∈ vals, okS x = true) (h : LeadOk vals wh ld) (hb : H b = some (.dK (ldV ld))) : LeadV K H vals wh (.ref b) true := by
  refine .inr ⟨b, ldV ld, rfl, hb, by unfold ldV; rw [List.length_map]; exact h.2.2.1, keys_nd h.2.1, fun q mq => ?_, (leadB_ok vo h).symm⟩
  unfold ldV at mq
  obtain ⟨z, mz, rfl⟩ := List.mem_map.mp mq
  obtain ⟨a, b⟩ := h.1 z mz
  exact ⟨⟨_, str_kd (x := z.1) (by have := okS_len (vo _ a); omega)⟩, _, str_kd (x := z.2) (by have := okS_len (vo _ b); omega)⟩
/-! ### keys -/
inductive KeyP (H : Hp) : NestedKey → V → Prop
  | str (x : Str) (h : x = "A" ∨ x = "" ∨ x = "abcdefghi") : KeyP H (.text x) (.str x)
  | non : KeyP H .none .non
  | int : KeyP H (.num 5) (.int 5)
  | tup (T : Addr) (h : H T = some (.tup [.str "a"])) : KeyP H (.tup [.text "a"]) (.ref T)
theorem KeyP.p {p : Addr} {H H' : Hp} {n : Nat} {k : NestedKey} {v : V} (x : ExP p H H') (S : Pool H p n) (h : KeyP H k v) : KeyP H' k v := by
  cases h with
  | str y h => exact .str y h
  | non => exact .non
  | int => exact .int
  | tup T h => exact .tup T (x.tup S h)
theorem KeyP.ex {H H' : Hp} {k : NestedKey} {v : V} (x : Ex H H') (h : KeyP H k v) : KeyP H' k v := by
  cases h with
  | str y h => exact .str y h
  | non => exact .non
  | int => exact .int
  | tup T h => exact .tup T (x _ _ h)
theorem KeyP.nkey {H : Hp} {k : NestedKey} {v : V} (h : KeyP H k v) : NKey H k v := by
  cases h with
  | str y h => exact .str y
  | non => exact .non
  | int => exact .int 5
  | tup T h => exact .tup T _ h
theorem KeyP.kd {K : PySem.W.Frag} {H : Hp} {k : NestedKey} {v : V} (h : KeyP H k v) : ∃ T, Kd K H v T := by
  cases h with
  | str y h => exact ⟨_, str_kd (by rcases h with rfl | rfl | rfl <;> decide +kernel)⟩
  | non => exact ⟨"NoneType", by decide, .base .non, fun x z => nomatch z⟩
  | int => exact ⟨"int", by decide, .base (.int 5), fun x z => nomatch z⟩
  | tup T h => exact ⟨_, sqT_kd (.inl (.inl h))⟩
theorem KeyP.wd {H : Hp} {k : NestedKey} {v : V} (h : KeyP H k v) : isWd v = false := by
  cases h with
  | str y h => rcases h with rfl | rfl | rfl <;> decide +kernel
  | _ => rfl
theorem KeyP.ne {H : Hp} {k : NestedKey} {v : V} (h : KeyP H k v) {x : Str} (o : okS x = true) : k ≠ .text x := fun z => by
  subst z
  cases h with
  | str y h => rcases h with rfl | rfl | rfl <;> exact absurd o (by decide +kernel)
theorem KeyP.sf {H : Hp} {k : NestedKey} {v : V} (h : KeyP H k v) : flatB v = true ∨ ∃ a, v = .ref a := by
  cases h with
  | tup T h => exact .inr ⟨T, rfl⟩
  | _ => exact .inl rfl
theorem KeyP.dq {K : PySem.W.Frag} {H : Hp} {k : NestedKey} {v : V} (h : KeyP H k v) : Dq K H v := by
  cases h with
  | str y h => exact ⟨.str y, by rcases h with rfl | rfl | rfl <;> decide +kernel, fun _ _ => .str y⟩
  | non => exact ⟨.none, by decide +kernel, fun _ _ => .non⟩
  | int => exact ⟨.int 5, by decide +kernel, fun _ _ => .int 5⟩
  | tup T h => exact ⟨.tuple [.str "a"], by decide +kernel, fun H' x => .tup (.inl (.inl (x _ _ h fun _ _ _ z => nomatch z))) (.cons (.str "a") .nil)⟩
/-! ### dict(list(d.items()) + [(n1, v1), (n2, v2)]) -/
def toRow (kv : Key × V) : MRow := ((match kv.1 with | .inl i => .num i | .inr x => .text x), kV kv.1, kv.2)
def tExt (K : PySem.W.Frag) (w : World) (i : Nat) (ta tb : TA) : TE := tCB (rDictO K w) (tCons (tOp rCat (LiI.tListItems (tVar i)) (tLst (tCons (tTup ta) (tCons (tTup tb) tNil)))) tNil)
theorem ext_go {K : PySem.W.Frag} {w : World} {σ : L2.St} {H : Hp} {Q : VK} {i : Nat} {x : Addr} {kvs : List (Key × V)} {ta tb : TA} {m1 m2 : NestedKey} {n1 n2 : V} {W1 W2 : V → Hp → Prop} (hi : σ[i]? = some (some (.ref x))) (hx : H x = some (.dK kvs)) (kl : kvs.length ≤ 1000)
    (k1 : NKey H m1 n1) (k2 : NKey H m2 n2) (nd : ((kvs.map toRow ++ [(m1, n1, V.non), (m2, n2, V.non)]).map (·.1)).Nodup) (w1 : ∀ v H1 H2, Ex H1 H2 → W1 v H1 → W1 v H2) (w2 : ∀ v H1 H2, Ex H1 H2 → W2 v H1 → W2 v H2)
    (h1 : ∀ H1 (Q' : List V → Hp → Prop), Ex H H1 → (∀ v H2, Ex H1 H2 → W1 v H2 → Q' [n1, v] H2) → ta σ H1 Q') (h2 : ∀ H1 (Q' : List V → Hp → Prop), Ex H H1 → (∀ v H2, Ex H1 H2 → W2 v H2 → Q' [n2, v] H2) → tb σ H1 Q')
    (hQ : ∀ q H' v1 v2, Ex H H' → H q = none → H' q = some (DO w q (kvs.map toRow ++ [(m1, n1, v1), (m2, n2, v2)])) → W1 v1 H' → W2 v2 H' → Q (.ref q) H') : tExt K w i ta tb σ H Q := by
  have s2 : 2 ≤ sizeLine := by decide
  refine ⟨.ref x, hi, x, kvs, rfl, hx, fun H1 lp ts x1 nlp nts nl hlp pts => ?_⟩
  have x1 : Ex H H1 := x1
  refine h1 H1 _ x1 fun v1 H2 x2 z1 => ⟨s2, fun t1 nt1 => ?_⟩
  have x3 := Ex.new (o := .tup [n1, v1]) nt1
  refine h2 _ _ (x1.trans (x2.trans x3)) fun v2 H4 x4 z2 => ⟨s2, fun t2 nt2 => ?_⟩
  have x5 := Ex.new (o := .tup [n2, v2]) nt2
  refine ⟨s2, fun l2 nl2 => ?_⟩
  have x6 := Ex.new (o := .lst [.ref t1, .ref t2]) nl2
  have x16 := x2.trans (x3.trans (x4.trans (x5.trans x6)))
  have tl : ts.length = kvs.length := Paired.length pts
  refine ⟨lp, l2, ts.map V.ref, [.ref t1, .ref t2], rfl, rfl, x16 _ _ hlp, upd_same, by rw [List.length_map, sizeLine_eq]; show ts.length + 2 ≤ _; omega, fun l3 nl3 => ?_⟩
  have x7 := Ex.new (o := .lst (ts.map V.ref ++ [.ref t1, .ref t2])) nl3
  have x17 := x16.trans x7
  have xH := x1.trans x17
  have e1 : ∀ kv : Key × V, (toRow kv).2.1 = kV kv.1 ∧ (toRow kv).2.2 = kv.2 := fun kv => ⟨rfl, rfl⟩
  have nr : ∀ kv : Key × V, ∀ G : Hp, NKey G (toRow kv).1 (toRow kv).2.1 := fun ⟨k, v⟩ G => by
    cases k with
    | inl i => exact .int i
    | inr s => exact .str s
  have mapR : ∀ {G : Hp} {ts : List Addr} {kvs : List (Key × V)}, Paired (fun (t : Addr) (q : Key × V) => G t = some (.tup [kV q.1, q.2])) ts kvs → Paired (fun p (r : MRow) => SqT K G p [r.2.1, r.2.2]) ts (kvs.map toRow) := fun h => by
    induction h with
    | nil => exact .nil
    | cons a _ ih => exact .cons (.inl (.inl a)) ih
  refine ⟨l3, ts ++ [t1, t2], kvs.map toRow ++ [(m1, n1, v1), (m2, n2, v2)], rfl, .inl (.inl ?_), ?_, fun r mr => ?_, ?_, fun q nq => ?_⟩
  · rw [upd_same, List.map_append]
    rfl
  · have pa := mapR (Paired.mapP pts fun _ _ z => x17 _ _ z)
    have h1' := (x4.trans (x5.trans (x6.trans x7))) _ _ (upd_same : upd H2 t1 (.tup [n1, v1]) t1 = _)
    have h2' := (x6.trans x7) _ _ (upd_same : upd H4 t2 (.tup [n2, v2]) t2 = _)
    have app : ∀ {l1 : List Addr} {l2 : List MRow} {m1 : List Addr} {m2 : List MRow} {R : Addr → MRow → Prop}, Paired R l1 l2 → Paired R m1 m2 → Paired R (l1 ++ m1) (l2 ++ m2) := fun a b => by
      induction a with
      | nil => exact b
      | cons x _ ih => exact .cons x ih
    exact app pa (.cons (.inl (.inl h1')) (.cons (.inl (.inl h2')) .nil))
  · rcases List.mem_append.mp mr with m | m
    · obtain ⟨kv, _, rfl⟩ := List.mem_map.mp m
      exact nr kv _
    · simp only [List.mem_cons, List.mem_nil_iff, or_false] at m
      rcases m with rfl | rfl
      · exact k1.ex xH
      · exact k2.ex xH
  · rw [List.map_append] at nd ⊢
    exact nd
  · have x8 := Ex.new (o := DO w q (kvs.map toRow ++ [(m1, n1, v1), (m2, n2, v2)])) nq
    exact hQ q _ v1 v2 (xH.trans x8) (xH.none nq) upd_same (w1 _ _ _ ((x3.trans (x4.trans (x5.trans (x6.trans x7)))).trans x8) z1) (w2 _ _ _ ((x5.trans (x6.trans x7)).trans x8) z2)
theorem fwL_good {bs : List V} : ∀ {lds : Lds} {r : List (V × Bool)}, (∀ l ∈ lds, okS l.1 = true ∧ inV (.str l.1) bs = false) → fwL bs (lds.map (fun l => (V.str l.1, true)) ++ r) = fwL bs r
  | [], _, _ => rfl
  | l :: t, r, h => by
    have z := h l List.mem_cons_self
    show (if (!isWd (.str l.1) || inV (.str l.1) bs || !true) = true then _ else _) = _
    rw [show isWd (.str l.1) = true from z.1, z.2, if_neg (by decide)]
    exact fwL_good fun l m => h l (List.mem_cons_of_mem _ m)
/-- first_wrong of such a dict -/
theorem fwr_ext {K : PySem.W.Frag} {w : World} {H : Hp} {q : Addr} {vals bs : List Str} {wh r1 r2 : Bool} {lds : Lds} {kvs : List (Key × V)} {m1 m2 : NestedKey} {n1 n2 v1 v2 : V} {res : List V} (vo : ∀ x ∈ vals, okS x = true) (pr : PR H lds kvs) (ok : ∀ l ∈ lds, okS l.1 = true ∧ l.1 ∉ bs ∧ LeadOk vals wh l.2)
    (k1 : NKey H m1 n1) (k2 : NKey H m2 n2) (t1 : ∃ T, Kd K H n1 T) (t2 : ∃ T, Kd K H n2 T) (l1 : LeadV K H vals wh v1 r1) (l2 : LeadV K H vals wh v2 r2) (nd : ((kvs.map toRow ++ [(m1, n1, v1), (m2, n2, v2)]).map (·.1)).Nodup) (hq : H q = some (DO w q (kvs.map toRow ++ [(m1, n1, v1), (m2, n2, v2)])))
    (e : fwL (bs.map V.str) [(n1, r1), (n2, r2)] = res) : FWR K w H vals bs wh (.ref q) res := by
  refine .inr ⟨lds.map (fun l => (V.str l.1, true)) ++ [(n1, r1), (n2, r2)], .inr ⟨q, _, rfl, hq, fun r mr => ?_, nd, ?_⟩, ?_⟩
  · rcases List.mem_append.mp mr with m | m
    · obtain ⟨⟨k, v⟩, _, rfl⟩ := List.mem_map.mp m
      cases k with
      | inl i => exact .int i
      | inr s => exact .str s
    · simp only [List.mem_cons, List.mem_nil_iff, or_false] at m
      rcases m with rfl | rfl
      · exact k1
      · exact k2
  · clear e nd hq
    have pr2 : Paired (fun (l : Str × Ld) (kv : Key × V) => kv.1 = Sum.inr l.1 ∧ ∃ b, kv.2 = .ref b ∧ H b = some (.dK (ldV l.2))) lds kvs := pr
    clear pr
    induction pr2 with
    | nil => exact .cons ⟨rfl, t1, l1⟩ (.cons ⟨rfl, t2, l2⟩ .nil)
    | @cons l kv _ _ h _ ih =>
      obtain ⟨e1, b, e2, e3⟩ := h
      obtain ⟨o1, o2, o3⟩ := ok l List.mem_cons_self
      obtain ⟨k, v⟩ := kv
      cases (show k = Sum.inr l.1 from e1)
      cases (show v = V.ref b from e2)
      exact .cons ⟨rfl, ⟨_, str_kd (x := l.1) (by have := okS_len o1; omega)⟩, leadV_ok vo o3 e3⟩ (ih fun l m => ok l (List.mem_cons_of_mem _ m))
  · rw [fwL_good fun l m => ⟨(ok l m).1, by rw [inV_strs]; exact decide_eq_false (ok l m).2.1⟩]
    exact e
end TH

/-! B13: dicts that _law_doors_right makes -/
namespace TH
open PySem PySem.Spec PyProof.Rows L2 LamV LamX XK0
open C8 (pss_cut tCut)
open OD
def vlN : List Str := ["no", "yes", "a", "z", "abcdefgh", "m"]
def nmN : List Str := ["drop", "get", "no", "b", "turn", "abcdefgh"]
/-- dict([(value, start) for value in values if ..]) -/
def tWS (K : PySem.W.Frag) (tt : TT) : TE := tCB (rDictP K) (tCons (tLc (iList K (tVar 1)) (gName 15) tt (tTup (tCons (tVar 15) (tCons (tVar 2) tNil))) [15]) tNil)
theorem ws_go {K : PySem.W.Frag} {tt : TT} {σ : L2.St} {H : Hp} {Q : VK} {va : Addr} {vals : List Str} {st : Str} (P : Str → Bool) (len : σ.length = 16) (s1 : σ[1]? = some (some (.ref va))) (s2 : σ[2]? = some (some (.str st))) (hva : H va = some (.lst (vals.map V.str))) (nd : vals.Nodup) (ln : vals.length ≤ 60)
    (htt : ∀ (x : Str) (H2 : Hp) (Q2 : Bool → Hp → Prop), Q2 (P x) H2 → tt ((wipe σ [15]).set 15 (some (.str x))) H2 Q2)
    (hQ : ∀ q H', Ex H H' → H q = none → H' q = some (.dK (ldV ((vals.filter P).map fun v => (v, st)))) → Q (.ref q) H') : tWS K tt σ H Q := by
  refine ⟨.ref va, s1, va, rfl, ⟨_, .inl (.inl hva)⟩, fun D nD => ?_⟩
  refine lc_list (K := K) (xs := vals.map V.str) (fun i H2 => Ex H H2 ∧ ∃ ps : List Addr, H2 D = some (.lst (ps.map V.ref)) ∧ Paired (fun p (kv : Key × V) => H2 p = some (.tup [kV kv.1, kv.2])) ps (ldV (((vals.take i).filter P).map fun v => (v, st)))) ⟨Ex.new nD, [], upd_same, .nil⟩ (fun i H2 _ h => .inl (.inl (h.1 _ _ hva))) (fun i v H2 hv2 h => ?_) fun H2 h => ?_
  · obtain ⟨x2, ps, hD, pr⟩ := h
    rw [List.getElem?_map] at hv2
    obtain ⟨w, ew, rfl⟩ := Option.map_eq_some_iff.mp hv2
    have a3 : (((wipe σ [15]).set 15 (some (V.str w))))[15]? = some (some (V.str w)) := List.getElem?_set_self (by rw [wipe_length, len]; decide)
    have up : ∀ j, j ≠ 15 → (((wipe σ [15]).set 15 (some (V.str w))))[j]? = σ[j]? := fun j hj => by
      rw [List.getElem?_set_ne hj.symm]
      exact List.getElem?_set_ne hj.symm
    refine ⟨?_, htt w H2 _ ?_⟩
    · show ((σ.set 15 none).set 15 (some (V.str w))).set 15 none = σ.set 15 none
      rw [List.set_set, List.set_set]
    have tk : (vals.take (i + 1)).filter P = (vals.take i).filter P ++ (if P w = true then [w] else []) := by
      rw [List.take_add_one, ew, Option.toList_some, List.filter_append]
      cases h : P w <;> simp [h]
    rw [tk]
    cases hP : P w with
    | false => exact ⟨x2, ps, hD, by rw [if_neg Bool.false_ne_true, List.append_nil]; exact pr⟩
    | true =>
      refine ⟨.str w, a3, .str st, (up 2 (by decide)).trans s2, by show 2 ≤ sizeLine; decide, fun p np => ?_⟩
      have pD : p ≠ D := fun z => by rw [z, hD] at np; cases np
      have pl : ps.length ≤ 60 := by
        have e := Paired.length pr
        unfold ldV at e
        rw [List.length_map, List.length_map] at e
        have := List.length_filter_le P (vals.take i)
        rw [List.length_take] at this
        omega
      refine ⟨ps.map V.ref, (upd_ne pD.symm).trans hD, by rw [sizeLine_eq, List.length_map]; omega, fun c o e => (upd_ne fun z => by rw [z, nD] at e; cases e).trans ((Ex.new np) _ _ (x2 _ _ e)), ps ++ [p], by rw [upd_same, List.map_append]; rfl, ?_⟩
      rw [if_pos rfl, List.map_append]
      unfold ldV
      rw [List.map_append]
      exact paired_app (Paired.mapP pr fun c _ z => (upd_ne fun e => by rw [e, hD] at z; cases z).trans ((upd_ne fun e => by rw [e, np] at z; cases z).trans z)) ((upd_ne pD).trans upd_same)
  · obtain ⟨x2, ps, hD, pr⟩ := h
    rw [List.length_map, List.take_length] at pr
    have nd2 : ((ldV ((vals.filter P).map fun v => (v, st))).map (·.1)).Nodup := keys_nd (by
      rw [List.map_map]
      show ((vals.filter P).map id).Nodup
      rw [List.map_id]
      exact List.filter_sublist.nodup nd)
    refine ⟨D, ps, _, rfl, .inl (.inl hD), Paired.mapP pr fun p kv e => .inl (.inl e), fun q nq => ?_⟩
    rw [merge_nd _ _ nd2]
    exact hQ q _ (x2.trans (Ex.new nq)) (x2.none nq) upd_same
/-- dict(list(d.items()) + [(k, v)]) -/
def tExt1 (K : PySem.W.Frag) (i : Nat) (ta : TA) : TE := tCB (rDictP K) (tCons (tOp rCat (LiI.tListItems (tVar i)) (tLst (tCons (tTup ta) tNil))) tNil)
theorem ext1_go {K : PySem.W.Frag} {σ : L2.St} {H : Hp} {Q : VK} {i : Nat} {x : Addr} {kvs : List (Key × V)} {ta : TA} {k : Key} {W : V → Hp → Prop} (hi : σ[i]? = some (some (.ref x))) (hx : H x = some (.dK kvs)) (kl : kvs.length ≤ 100) (nd : ((kvs ++ [(k, V.non)]).map (·.1)).Nodup) (w1 : ∀ v H1 H2, Ex H1 H2 → W v H1 → W v H2)
    (h1 : ∀ H1 (Q' : List V → Hp → Prop), Ex H H1 → (∀ v H2, Ex H1 H2 → W v H2 → Q' [kV k, v] H2) → ta σ H1 Q')
    (hQ : ∀ q H' v, Ex H H' → H q = none → H' q = some (.dK (kvs ++ [(k, v)])) → W v H' → Q (.ref q) H') : tExt1 K i ta σ H Q := by
  have s2 : 2 ≤ sizeLine := by decide
  refine ⟨.ref x, hi, x, kvs, rfl, hx, fun H1 lp ts x1 nlp nts nl hlp pts => ?_⟩
  have x1 : Ex H H1 := x1
  refine h1 H1 _ x1 fun v1 H2 x2 z1 => ⟨s2, fun t1 nt1 => ?_⟩
  have x3 := Ex.new (o := .tup [kV k, v1]) nt1
  refine ⟨by show 1 ≤ sizeLine; decide, fun l2 nl2 => ?_⟩
  have x6 := Ex.new (o := .lst [.ref t1]) nl2
  have x16 := x2.trans (x3.trans x6)
  have tl : ts.length = kvs.length := Paired.length pts
  refine ⟨lp, l2, ts.map V.ref, [.ref t1], rfl, rfl, x16 _ _ hlp, upd_same, by rw [List.length_map, sizeLine_eq]; show ts.length + 1 ≤ _; omega, fun l3 nl3 => ?_⟩
  have x7 := Ex.new (o := .lst (ts.map V.ref ++ [.ref t1])) nl3
  have x17 := x16.trans x7
  have xH := x1.trans x17
  refine ⟨l3, ts ++ [t1], kvs ++ [(k, v1)], rfl, .inl (.inl ?_), ?_, fun q nq => ?_⟩
  · rw [upd_same, List.map_append]
    rfl
  · exact paired_app (Paired.mapP pts fun _ _ z => .inl (.inl (x17 _ _ z))) (.inl (.inl ((x6.trans x7) _ _ upd_same)))
  · have nd2 : ((kvs ++ [(k, v1)]).map (·.1)).Nodup := by
      rw [List.map_append] at nd ⊢
      exact nd
    rw [merge_nd (kvs ++ [(k, v1)]) [] nd2]
    have x8 := Ex.new (o := .dK (kvs ++ [(k, v1)])) nq
    exact hQ q _ v1 (xH.trans x8) (xH.none nq) upd_same (w1 _ _ _ ((x3.trans (x6.trans x7)).trans x8) z1)
theorem leadB_bad {vals : List Str} {wh : Bool} {kvs : List (Key × V)} {q : Key × V} (m : q ∈ kvs) (h : rowB vals q = false) : leadB vals wh kvs = false := by
  unfold leadB
  rw [show kvs.all (rowB vals) = false from List.all_eq_false.mpr ⟨q, m, by rw [h]; exact Bool.false_ne_true⟩]
  rfl
/-- a dict with a wrong row, or too few, is a wrong lead -/
theorem ldP_bad {K : PySem.W.Frag} {p b : Addr} {H : Hp} {vals : List Str} {wh : Bool} {kvs : List (Key × V)} (hb : H b = some (.dK kvs)) (l : kvs.length ≤ 1000) (nd : (kvs.map (·.1)).Nodup) (od : ∀ q ∈ kvs, (∃ T, Od K p H (kV q.1) T) ∧ ∃ T, Od K p H q.2 T) (e : leadB vals wh kvs = false) : LdP K p H vals wh (.ref b) false := .inr ⟨b, kvs, rfl, hb, l, nd, od, e.symm⟩
theorem rowB_key {vals : List Str} {k : Key} {v : V} (h : isWd (kV k) = false ∨ inV (kV k) (vals.map V.str) = false) : rowB vals (k, v) = false := by
  unfold rowB
  rcases h with h | h
  · rw [h]; rfl
  · rw [h, Bool.and_false]; rfl
theorem rowB_val {vals : List Str} {k : Key} {v : V} (h : isWd v = false ∨ inV v (vals.map V.str) = false) : rowB vals (k, v) = false := by
  unfold rowB
  rcases h with h | h
  · rw [h, Bool.and_false]; rfl
  · rw [h, Bool.and_false]
theorem zz_no {vals : List Str} (h : ∀ x ∈ vals, x ∈ vlN) : inV (.str "zz") (vals.map V.str) = false := by
  rw [inV_strs]
  exact decide_eq_false fun m => absurd (h _ m) (by decide +kernel)
end TH
namespace TH
open PySem PySem.Spec PyProof.Rows L2 OD
theorem call_dictOK {X : Cx} {K : PySem.W.Frag} {w : World} (eK : X.K = K) (ew : X.w = w) (hc : X.calm = true) (hu : X.A.units + 16 < cLine) : CallR X (.type "dict") (rDictO K w) := by
  subst eK ew
  exact call_dictO hc hu
end TH
namespace TH
open PySem PySem.Spec PyProof.Rows L2 OD
theorem call_isiOf {X : Cx} {K : PySem.W.Frag} (eK : X.K = K) : CallR X (.builtin "isinstance") (rIsi K) := by
  subst eK
  exact call_isi
end TH
namespace TH
open PySem PySem.Spec PyProof.Rows L2 OD
theorem fbw_preP : ∀ (xs : List Str) (met r : List V) (i : Nat), (∀ x ∈ xs, okS x = true) → xs.Nodup → (∀ x ∈ xs, inV (.str x) met = false) → fbw (xs.map V.str ++ r) met i = fbw r (met ++ xs.map V.str) (i + xs.length)
  | [], met, r, i, _, _, _ => by simp
  | x :: xs, met, r, i, h, nd, nm => by
    have e : fbw ((x :: xs).map V.str ++ r) met i = if (!isWd (.str x) || inV (.str x) met) = true then some i else fbw (xs.map V.str ++ r) (met ++ [.str x]) (i + 1) := rfl
    have n1 : isWd (.str x) = true := h x List.mem_cons_self
    rw [List.nodup_cons] at nd
    rw [e, n1, nm x List.mem_cons_self, if_neg (by simp), fbw_preP xs _ r (i + 1) (fun y m => h y (List.mem_cons_of_mem _ m)) nd.2 fun y m => ?_]
    · rw [List.map_cons, List.append_assoc, List.length_cons]
      congr 1
      omega
    · have z := nm y (List.mem_cons_of_mem _ m)
      have ne : ¬ x = y := fun q => nd.1 (q ▸ m)
      unfold inV at z ⊢
      rw [List.any_append, z]
      show (false || (eqV (V.str x) (V.str y) || false)) = false
      rw [show eqV (V.str x) (V.str y) = false from beq_eq_false_iff_ne.mpr ne]
      rfl
theorem fbw_bad {vals : List Str} {y : V} {r : List V} (ok : ∀ x ∈ vals, okS x = true) (nd : vals.Nodup) (h : isWd y = false ∨ ∃ x ∈ vals, y = .str x) : fbw (vals.map V.str ++ y :: r) [] 0 = some vals.length := by
  rw [fbw_preP vals [] _ 0 ok nd fun _ _ => rfl, List.nil_append, Nat.zero_add]
  show (if (!isWd y || inV y (vals.map V.str)) = true then some vals.length else _) = _
  rcases h with h | ⟨x, m, rfl⟩
  · rw [h, if_pos (by simp)]
  · rw [inV_strs, decide_eq_true m, if_pos (by simp)]
end TH
namespace TH
open PySem PySem.Spec PyProof.Rows L2 OD
theorem lst_one {ta : TA} {σ : L2.St} {H : Hp} {Q : VK} (h : ta σ H fun xs H1 => xs.length ≤ sizeLine ∧ ∀ p, H1 p = none → Q (.ref p) (upd H1 p (.lst xs))) : tLst ta σ H Q := h
theorem cons_one {te : TE} {tr : TA} {σ : L2.St} {H : Hp} {Q : List V → Hp → Prop} (h : te σ H fun x H1 => tr σ H1 fun xs H2 => Q (x :: xs) H2) : tCons te tr σ H Q := h
theorem op_one {r : R2} {ta tb : TE} {σ : L2.St} {H : Hp} {Q : VK} (h : ta σ H fun x H1 => tb σ H1 fun y H2 => r x y H2 Q) : tOp r ta tb σ H Q := h
end TH
namespace TH
open PySem PySem.Spec PyProof.Rows L2 OD
theorem kit_bool {K : PySem.W.Frag} {T : String} (h : T ∈ tys) : PySem.W.kitOne K (.type T) (.type "bool") = some (decide (T = "bool")) := by
  simp only [tys, List.mem_cons, List.mem_nil_iff, or_false] at h
  rcases h with rfl | rfl | rfl | rfl | rfl | rfl | rfl <;> exact kit_ty (by decide +kernel)
theorem dq_non {K : PySem.W.Frag} {H : Hp} : Dq K H .non := ⟨.none, by decide +kernel, fun _ _ => .non⟩
theorem kit_dT {K : PySem.W.Frag} {T : String} (h : T ∈ tys) (e : T = "dict") : PySem.W.kitOne K (.type T) (.type "dict") = some true := by rw [kit_dict h, decide_eq_true e]
theorem kit_dF {K : PySem.W.Frag} {T : String} (h : T ∈ tys) (e : T ≠ "dict") : PySem.W.kitOne K (.type T) (.type "dict") = some false := by rw [kit_dict h, decide_eq_false e]
/-- first_wrong of right leads -/
theorem fwr_dd {K : PySem.W.Frag} {w : World} {H : Hp} {a : Addr} {vals bs : List Str} {wh : Bool} {lds : Lds} (vo : ∀ x ∈ vals, okS x = true) (h : DD H a lds) (nd : (lds.map (·.1)).Nodup) (ok : ∀ l ∈ lds, okS l.1 = true ∧ l.1 ∉ bs ∧ LeadOk vals wh l.2) : FWR K w H vals bs wh (.ref a) [] := by
  obtain ⟨kvs, ha, pr0⟩ := h
  have pr : PR H lds kvs := pr0
  have knd : (kvs.map (·.1)).Nodup := by rw [pr.keys]; exact nd_inr nd
  refine .inr ⟨lds.map (fun l => (V.str l.1, true)), .inl ⟨a, kvs, rfl, ha, knd, ?_⟩, ?_⟩
  · have all : ∀ kv ∈ kvs, kv.2 ≠ .ref a := fun kv m => by
      obtain ⟨i, ei⟩ := List.getElem?_of_mem m
      obtain ⟨l, _, _, b, e2, e3⟩ := paired_get pr ei
      intro z
      rw [e2] at z
      cases z
      rw [ha] at e3
      have e4 := HO.dK.inj (Option.some.inj e3)
      rw [e4] at m
      unfold ldV at m
      obtain ⟨q, _, eq⟩ := List.mem_map.mp m
      have := congrArg Prod.snd eq
      rw [e2] at this
      cases this
    clear knd
    have pr2 : Paired (fun (l : Str × Ld) (kv : Key × V) => kv.1 = Sum.inr l.1 ∧ ∃ b, kv.2 = .ref b ∧ H b = some (.dK (ldV l.2))) lds kvs := pr
    clear pr pr0 ha nd
    induction pr2 with
    | nil => exact .nil
    | @cons l kv _ _ h _ ih =>
      obtain ⟨e1, b, e2, e3⟩ := h
      obtain ⟨o1, o2, o3⟩ := ok l List.mem_cons_self
      have n1 := all kv List.mem_cons_self
      obtain ⟨k, v⟩ := kv
      cases (show k = Sum.inr l.1 from e1)
      cases (show v = V.ref b from e2)
      exact .cons ⟨rfl, ⟨_, str_kd (x := l.1) (by have := okS_len o1; omega)⟩, n1, leadV_ok vo o3 e3⟩ (ih (fun l m => ok l (List.mem_cons_of_mem _ m)) fun kv m => all kv (List.mem_cons_of_mem _ m))
  · have z := fwL_good (bs := bs.map V.str) (lds := lds) (r := []) fun l m => ⟨(ok l m).1, by rw [inV_strs]; exact decide_eq_false (ok l m).2.1⟩
    rw [List.append_nil] at z
    exact z
theorem dd_kv {H : Hp} {a : Addr} {lds : Lds} (h : DD H a lds) : ∃ kvs, H a = some (.dK kvs) ∧ PR H lds kvs ∧ (kvs.map fun kv => kV kv.1) = (lds.map (·.1)).map V.str := by
  obtain ⟨kvs, ha, pr⟩ := h
  refine ⟨kvs, ha, pr, ?_⟩
  rw [DD.keys pr fun _ _ r => r.1, List.map_map]
  rfl
end TH
namespace TH
open PySem PySem.Spec PyProof.Rows L2 OD
theorem nd_snoc {l : List (Key × V)} {k : Key} {v : V} (nd : (l.map (·.1)).Nodup) (h : k ∉ l.map (·.1)) : ((l ++ [(k, v)]).map (·.1)).Nodup := by
  rw [List.map_append]
  exact List.nodup_append.mpr ⟨nd, List.nodup_cons.mpr ⟨List.not_mem_nil, .nil⟩, fun a ma b mb e => h (by rw [List.mem_singleton.mp mb] at e; have e : a = k := e; rw [← e]; exact ma)⟩
abbrev wld (xs : List Str) (st : Str) : Ld := xs.map fun v => (v, st)
theorem wld_keys (xs : List Str) (st : Str) : (ldV (wld xs st)).map (·.1) = xs.map Sum.inr := by
  unfold ldV wld
  rw [List.map_map, List.map_map]
  rfl
theorem wld_nd {xs : List Str} {st : Str} (nd : xs.Nodup) : ((ldV (wld xs st)).map (·.1)).Nodup := by
  rw [wld_keys]
  exact nd_inr nd
theorem wld_len (xs : List Str) (st : Str) : (ldV (wld xs st)).length = xs.length := by
  unfold ldV wld
  rw [List.length_map, List.length_map]
theorem wld_od {K : PySem.W.Frag} {p : Addr} {H : Hp} {xs : List Str} {st : Str} (h : ∀ x ∈ xs, x.length ≤ 1000) (hs : st.length ≤ 1000) : ∀ q ∈ ldV (wld xs st), (∃ T, Od K p H (kV q.1) T) ∧ ∃ T, Od K p H q.2 T := fun q m => by
  unfold ldV wld at m
  rw [List.map_map] at m
  obtain ⟨x, mx, rfl⟩ := List.mem_map.mp m
  exact ⟨⟨_, Od.str (x := x) (h x mx)⟩, _, Od.str hs⟩
theorem ldP_ext {K : PySem.W.Frag} {p b : Addr} {H : Hp} {vals xs : List Str} {st : Str} {wh : Bool} {k : Key} {v : V} (hb : H b = some (.dK (ldV (wld xs st) ++ [(k, v)]))) (h : ∀ x ∈ xs, x.length ≤ 1000) (hs : st.length ≤ 1000) (l : xs.length ≤ 60) (nd : xs.Nodup) (nk : k ∉ xs.map Sum.inr) (ok : ∃ T, Od K p H (kV k) T) (ov : ∃ T, Od K p H v T) (bad : rowB vals (k, v) = false) : LdP K p H vals wh (.ref b) false := by
  refine ldP_bad hb ?_ (nd_snoc (wld_nd nd) (by rw [wld_keys]; exact nk)) (fun q m => ?_) (leadB_bad (q := (k, v)) (List.mem_append_right _ (List.mem_singleton.mpr rfl)) bad)
  · rw [List.length_append, wld_len]
    show _ + 1 ≤ 1000
    omega
  · rcases List.mem_append.mp m with m | m
    · exact wld_od h hs q m
    · rw [List.mem_singleton.mp m]
      exact ⟨ok, ov⟩
theorem ldP_less {K : PySem.W.Frag} {p b : Addr} {H : Hp} {vals : List Str} {st s0 : Str} (hb : H b = some (.dK (ldV (wld (vals.filter fun v => !decide (v = s0)) st)))) (h : ∀ x ∈ vals, x.length ≤ 1000) (hs : st.length ≤ 1000) (l : vals.length ≤ 60) (nd : vals.Nodup) (ms : s0 ∈ vals) : LdP K p H vals true (.ref b) false := by
  have lt : (vals.filter fun v => !decide (v = s0)).length < vals.length := List.length_filter_lt_length_iff_exists.mpr ⟨s0, ms, by simp⟩
  refine ldP_bad hb (by rw [wld_len]; omega) (wld_nd (List.filter_sublist.nodup nd)) (wld_od (fun x m => h x (List.mem_filter.mp m).1) hs) ?_
  unfold leadB
  rw [wld_len, decide_eq_false (by omega)]
  exact Bool.and_false _
end TH
namespace TH
open PySem PySem.Spec PyProof.Rows L2 OD
theorem asg_tup {ta : TA} {tg : TG} {D : Ends} {σ : L2.St} {H : Hp} (h : ta σ H fun xs H1 => xs.length ≤ sizeLine ∧ ∀ p, H1 p = none → tg (.ref p) σ (upd H1 p (.tup xs)) D.nx) : tAsg (tTup ta) tg D σ H := h
theorem const_one {v : V} {σ : L2.St} {H : Hp} {Q : VK} (h : Q v H) : tC v σ H Q := h
end TH
namespace TH
open PySem PySem.Spec PyProof.Rows L2 OD
theorem PR.ex {H H' : Hp} {lds : Lds} {kvs : List (Key × V)} (x : Ex H H') (h : PR H lds kvs) : PR H' lds kvs := Paired.mapP h fun _ _ ⟨e1, b, e2, e3⟩ => ⟨e1, b, e2, x _ _ e3⟩
theorem rows_keys {H : Hp} {lds : Lds} {kvs : List (Key × V)} (h : PR H lds kvs) : (kvs.map toRow).map (·.1) = (lds.map (·.1)).map NestedKey.text := by
  have h2 : Paired (fun (l : Str × Ld) (kv : Key × V) => kv.1 = Sum.inr l.1 ∧ ∃ b, kv.2 = .ref b ∧ H b = some (.dK (ldV l.2))) lds kvs := h
  clear h
  induction h2 with
  | nil => rfl
  | @cons l kv _ _ h _ ih =>
    obtain ⟨k, v⟩ := kv
    cases (show k = Sum.inr l.1 from h.1)
    rw [List.map_cons, List.map_cons, List.map_cons, List.map_cons, ih]
    rfl
theorem ext_nd {H : Hp} {lds : Lds} {kvs : List (Key × V)} {m1 m2 : NestedKey} {n1 n2 v1 v2 : V} (h : PR H lds kvs) (nd : (lds.map (·.1)).Nodup) (h1 : ∀ l ∈ lds, m1 ≠ .text l.1) (h2 : ∀ l ∈ lds, m2 ≠ .text l.1) (h12 : m1 ≠ m2) : ((kvs.map toRow ++ [(m1, n1, v1), (m2, n2, v2)]).map (·.1)).Nodup := by
  rw [List.map_append, rows_keys h]
  refine List.nodup_append.mpr ⟨List.pairwise_map.mpr (List.Pairwise.imp (fun z q => z (by injection q)) nd), List.nodup_cons.mpr ⟨fun m => h12 (List.mem_singleton.mp m), List.nodup_cons.mpr ⟨List.not_mem_nil, .nil⟩⟩, fun a ma b mb e => ?_⟩
  obtain ⟨x, mx, rfl⟩ := List.mem_map.mp ma
  obtain ⟨l, ml, rfl⟩ := List.mem_map.mp mx
  have mb : b = m1 ∨ b = m2 := by simpa using mb
  rcases mb with rfl | rfl
  · exact h1 l ml e.symm
  · exact h2 l ml e.symm
theorem fw_no {bs : List V} {n : V} {t : List (V × Bool)} : fwL bs ((n, false) :: t) = [n] := by
  show (if (!isWd n || inV n bs || !false) = true then [n] else fwL bs t) = [n]
  rw [if_pos (by simp)]
theorem fw_key {bs : List V} {n : V} {r : Bool} {t : List (V × Bool)} (h : isWd n = false) : fwL bs ((n, r) :: t) = [n] := by
  show (if (!isWd n || inV n bs || !r) = true then [n] else fwL bs t) = [n]
  rw [h, if_pos (by simp)]
theorem fw_bar {bs : List V} {n : V} {r : Bool} {t : List (V × Bool)} (h : inV n bs = true) : fwL bs ((n, r) :: t) = [n] := by
  show (if (!isWd n || inV n bs || !r) = true then [n] else fwL bs t) = [n]
  rw [h, if_pos (by simp)]
theorem dq_yy {K : PySem.W.Frag} {H : Hp} : Dq K H (.str "yy") := ⟨.str "yy", by decide +kernel, fun _ _ => .str "yy"⟩
theorem dq_nm {K : PySem.W.Frag} {H : Hp} {x : Str} (h : x ∈ nmN) : Dq K H (.str x) := by
  refine ⟨.str x, ?_, fun _ _ => .str x⟩
  simp only [nmN, List.mem_cons, List.mem_nil_iff, or_false] at h
  rcases h with rfl | rfl | rfl | rfl | rfl | rfl <;> decide +kernel
theorem leadV_nil {K : PySem.W.Frag} {H : Hp} {a : Addr} {vals : List Str} (h : H a = some (.dK [])) : LeadV K H vals false (.ref a) true := .inr ⟨a, [], rfl, h, Nat.zero_le _, .nil, fun q m => (nomatch m), rfl⟩
theorem leadV_int {K : PySem.W.Frag} {H : Hp} {vals : List Str} {wh : Bool} (i : Int) : LeadV K H vals wh (.int i) false := .inl ⟨"int", ⟨by decide, .base (.int i), fun x z => nomatch z⟩, by decide, rfl⟩
/-- one row, a wrong one -/
theorem ldP_one {K : PySem.W.Frag} {p b : Addr} {H : Hp} {vals : List Str} {wh : Bool} {k : Key} {v : V} (hb : H b = some (.dK [(k, v)])) (ok : ∃ T, Od K p H (kV k) T) (ov : ∃ T, Od K p H v T) (bad : rowB vals (k, v) = false) : LdP K p H vals wh (.ref b) false :=
  ldP_bad hb (by show 1 ≤ 1000; decide) (List.nodup_cons.mpr ⟨List.not_mem_nil, .nil⟩) (fun q m => by rw [List.mem_singleton.mp m]; exact ⟨ok, ov⟩) (leadB_bad (List.mem_singleton.mpr rfl) bad)
theorem one_new {H : Hp} {d : Addr} {u o : HO} (n : H d = none) : Ex H (upd (upd H d u) d o) := fun b w e => (upd_ne fun z => by rw [z, n] at e; cases e).trans ((upd_ne fun z => by rw [z, n] at e; cases e).trans e)
end TH

/-! B14: _law_doors_right (its term printed by gen_b14.py) -/
namespace TH
open PySem PySem.Spec PyProof.Rows L2 LamV LamX XK0
open C8 (pss_cut tCut)
open OD
def spDoors (T : List (Addr × Str)) : Sp := fun vs H Q _ => ∃ (p va dd de : Addr) (n : Nat) (d : ThD), vs = [.ref p, .ref va, .str d.start, .ref dd, .ref de] ∧ Pool H p n ∧ n + 100 < 1000000 ∧ H va = some (.lst (d.vals.map V.str)) ∧ va ≠ p ∧ DD H dd d.deeds ∧ DD H de d.ents ∧ d.Fit ∧ d.vals.length ≤ 10 ∧ d.names.length ≤ 20 ∧ (∀ x ∈ d.vals, x ∈ vlN) ∧ (∀ x ∈ d.names, x ∈ nmN) ∧ Tabs T H ∧
  ∀ (H' : Hp) (m : Nat), m ≤ n + 30 → ExP p H H' → Pool H' p m → Tabs T H' → Q (.bl true) H'
/-- what stands all along -/
structure AmD (T : List (Addr × Str)) (p va dd de : Addr) (d : ThD) (H : Hp) (m : Nat) : Prop where
  S : Pool H p m
  hva : H va = some (.lst (d.vals.map V.str))
  dds : DD H dd d.deeds
  des : DD H de d.ents
  tb : Tabs T H
theorem AmD.p {T : List (Addr × Str)} {p va dd de : Addr} {d : ThD} {H H' : Hp} {m k : Nat} (A : AmD T p va dd de d H m) (n : va ≠ p) (x : ExP p H H') (S : Pool H' p k) (t : Tabs T H') : AmD T p va dd de d H' k := ⟨S, x.lst A.hva n, A.dds.p x A.S, A.des.p x A.S, t⟩
section
variable {P : Program} {w : World} {K : PySem.W.Frag} {mg : Str → Option Value} {base : Heap} {f C CV CS CD CE c Pt gm fI : Addr} {fd fdm fdI : FuncData} {T : List (Addr × Str)}
theorem scDoors : FnScope ["_law_pool_here", "_law_values", "_law_start", "_law_deeds", "_law_entries", "_law_odd", "_law_loose", "_law_found", "_law_whole", "_law_some", "_law_less", "_law_wrong", "_law_lead", "_law_key", "_law_name", "_law_value"] ["_law_pool_here", "_law_values", "_law_start", "_law_deeds", "_law_entries"] (defScope sDoors) := ⟨rfl, rfl, rfl, by decide +kernel, rfl, by decide +kernel, by decide +kernel⟩
theorem h16 {X : Cx} {k : Nat} (hr : Room k X.A) : X.A.units + 16 < cLine := Nat.lt_of_le_of_lt (Nat.add_le_add_left (by decide) _) hr.units
theorem ok_doors (F : FnP K "_law_doors_right" sDoors f fd) (hcode : codeOf K f = some (.ref c)) (TB : TabB base mg c Pt) (hm : (Pt, lamD) ∈ T) (hT : ∀ p ∈ T, p.1 = Pt → p.2 = lamD) (M : Met4 K mg CV CS CD CE) (FMt : FnP K "_law_met" sMetP gm fdm) (gMt : mg "_law_met" = some (.ref gm)) (kMt : PySem.W.keepIn K (.ref gm) = true)
    (MT : Mk K C fI) (gT : mg "Thing" = some (.ref C)) (bI : Binds K fdI ["self", "values", "start", "deeds", "entries"] []) (FX : FnOk P w K mg base (L2.CX P w) 4 fI fdI ["self", "values", "start", "deeds", "entries"] (spInitX K w C CV CS CD CE))
    (FO : Has P w K mg base "_law_one" 2 ["_law_pool_here", "_law_things"] spOneP) (gn : mg "len" = none) (gi : mg "isinstance" = none) (gd : mg "dict" = none) (gl : mg "list" = none) (gbo : mg "bool" = none) :
    FnOk P w K mg base CX0 8 f fd ["_law_pool_here", "_law_values", "_law_start", "_law_deeds", "_law_entries"] (spDoors T) := by
  refine ok_code F hcode scDoors (fun vs H Q E h => ?_) (fun A outer s H vs Q E hr h => ?_)
  · obtain ⟨p, va, dd, de, n, d, rfl, _⟩ := h
    rfl
  · have hu := hu_of hr
    refine ⟨_, PSs.nox (pss_cut (ps_asg (pe_tup (pa_cons (pe_has FO hr (by decide) rfl (pa_cons (pv 0) (pa_cons (pe_lst (pa_cons pe_str (pa_cons pe_str (pa_cons pe_non (pa_cons pe_int (pa_cons pe_bl (pa_cons (pe_lst (pa_cons pe_str pa_nil)) (pa_cons pe_dnewK (pa_cons pe_str pa_nil))))))))) pa_nil))) (pa_cons (pe_has FO hr (by decide) rfl (pa_cons (pv 0) (pa_cons (pe_lst (pa_cons pe_non (pa_cons pe_int (pa_cons pe_str (pa_cons pe_dnewK pa_nil))))) pa_nil))) pa_nil))) (pg_tup rfl (pgs_cons (pg_name (i := 5) scDoors.nd rfl (.inr rfl)) (pgs_cons (pg_name (i := 6) scDoors.nd rfl (.inr rfl)) pgs_nil))))
      (pss_cut (ps_set (i := 7) scDoors.nd rfl (.inl rfl) (pe_lst (pa_cons (pe_metP M FMt gMt kMt TB rfl rfl hm hT hr rfl (lamS_by (by kernel_rfl)) rfl (fun _ _ _ _ _ => rfl) (fun A outer s H E f c' hr2 => pe_makeX MT FX hr2 (by decide) rfl gT bI (takes_of rfl rfl rfl rfl) (fun _ _ _ _ z => z) (pa_cons (pe_op op_cat (pv 1) (pe_lst (pa_cons (pe_has FO hr2 (by decide) rfl (pa_cons (pv 0) (pa_cons (pe_op op_cat (pv 1) (pe_lst (pa_cons pe_non (pa_cons pe_str pa_nil)))) pa_nil))) (pa_cons pe_non pa_nil)))) (pa_cons pe_int (pa_cons pe_int (pa_cons pe_int pa_nil)))))) pa_nil)))
      (pss_cut (ps_expr (pe_bm PySem.F.plainAttrs_list PySem.F.slot_list_append PySem.F.type_list_append mt_append (pv 7) (pa_cons (pe_metP M FMt gMt kMt TB rfl rfl hm hT hr rfl (lamS_by (by kernel_rfl)) rfl (fun _ _ _ _ _ => rfl) (fun A outer s H E f c' hr2 => pe_makeX MT FX hr2 (by decide) rfl gT bI (takes_of rfl rfl rfl rfl) (fun _ _ _ _ z => z) (pa_cons (pe_has FO hr2 (by decide) rfl (pa_cons (pv 0) (pa_cons (pe_lst (pa_cons (pv 6) (pa_cons (pe_lst pa_nil) (pa_cons (pe_tup pa_nil) pa_nil)))) pa_nil))) (pa_cons pe_int (pa_cons pe_int (pa_cons pe_int pa_nil)))))) pa_nil)))
      (pss_cut (ps_expr (pe_bm PySem.F.plainAttrs_list PySem.F.slot_list_append PySem.F.type_list_append mt_append (pv 7) (pa_cons (pe_metP M FMt gMt kMt TB rfl rfl hm hT hr rfl (lamS_by (by kernel_rfl)) rfl (fun _ _ _ _ _ => rfl) (fun A outer s H E f c' hr2 => pe_makeX MT FX hr2 (by decide) rfl gT bI (takes_of rfl rfl rfl rfl) (fun _ _ _ _ z => z) (pa_cons (pv 1) (pa_cons (pv 5) (pa_cons pe_int (pa_cons pe_int pa_nil)))))) pa_nil)))
      (pss_cut (ps_expr (pe_bm PySem.F.plainAttrs_list PySem.F.slot_list_append PySem.F.type_list_append mt_append (pv 7) (pa_cons (pe_metP M FMt gMt kMt TB rfl rfl hm hT hr rfl (lamS_by (by kernel_rfl)) rfl (fun _ _ _ _ _ => rfl) (fun A outer s H E f c' hr2 => pe_makeX MT FX hr2 (by decide) rfl gT bI (takes_of rfl rfl rfl rfl) (fun _ _ _ _ z => z) (pa_cons (pv 1) (pa_cons (pv 2) (pa_cons (pe_ifExp (pt_not (pt_val (pe_callB (call_isiOf (K := K) rfl) rfl gi boot_isinstance (pa_cons (pv 6) (pa_cons (pe_bltn (v := .ty "dict") rfl gd boot_dict rfl) pa_nil))))) (pv 6) pe_non) (pa_cons pe_int pa_nil)))))) pa_nil)))
      (pss_cut (ps_expr (pe_bm PySem.F.plainAttrs_list PySem.F.slot_list_append PySem.F.type_list_append mt_append (pv 7) (pa_cons (pe_metP M FMt gMt kMt TB rfl rfl hm hT hr rfl (lamS_by (by kernel_rfl)) rfl (fun _ _ _ _ _ => rfl) (fun A outer s H E f c' hr2 => pe_makeX MT FX hr2 (by decide) rfl gT bI (takes_of rfl rfl rfl rfl) (fun _ _ _ _ z => z) (pa_cons (pv 1) (pa_cons (pv 2) (pa_cons (pv 3) (pa_cons (pe_ifExp (pt_not (pt_val (pe_callB (call_isiOf (K := K) rfl) rfl gi boot_isinstance (pa_cons (pv 6) (pa_cons (pe_bltn (v := .ty "dict") rfl gd boot_dict rfl) pa_nil))))) (pv 6) (pe_lst pa_nil)) pa_nil)))))) pa_nil)))
      (pss_cut (ps_if (pt_cmpR (op_neT hr.units) (pv 7) (pe_lst (pa_cons (pe_tup (pa_cons pe_str (pa_cons (pe_callB call_len rfl gn boot_len (pa_cons (pv 1) pa_nil)) pa_nil))) (pa_cons (pe_tup (pa_cons pe_str (pa_cons pe_int pa_nil))) (pa_cons (pe_tup (pa_cons pe_str (pa_cons (pv 5) pa_nil))) (pa_cons (pe_tup (pa_cons pe_str (pa_cons pe_non pa_nil))) (pa_cons (pe_tup (pa_cons pe_str (pa_cons pe_non pa_nil))) pa_nil)))))) (nomark _)) (pss_one (ps_ret pe_bl)) pss_nil)
      (pss_cut (ps_if (pt_cmpR op_ne (pe_callB call_isi rfl gi boot_isinstance (pa_cons (pe_ix ix_tup (pe_ix ix_list (pv 7) pe_int (fun _ _ => rfl)) pe_int (fun _ _ => rfl)) (pa_cons (pe_bltn (v := .ty "bool") rfl gbo PyProof.Rows.boot_bool rfl) pa_nil))) (pe_callB call_isi rfl gi boot_isinstance (pa_cons (pv 5) (pa_cons (pe_bltn (v := .ty "bool") rfl gbo PyProof.Rows.boot_bool rfl) pa_nil))) (nomark _)) (pss_one (ps_ret pe_bl)) pss_nil)
      (pss_cut (ps_asg (pe_tup (pa_cons (pe_callTy (call_dictPK rfl) rfl gd boot_dict (pa_cons (pe_lc (te := tTup (tCons (tVar 15) (tCons (tVar 2) tNil))) (tt := tYes) (own := [("_law_value", 15)]) rfl scDoors.nd (pi_list (pv 1)) (blkOk_by (by kernel_rfl)) (fun s H C cl fp => pg_name (i := 15) scDoors.nd rfl (.inl rfl) (.inr rfl)) (fun s H C cl fp => pts_nil) (fun s H C cl fp => pe_tup (pa_cons (pv 15) (pa_cons (pv 2) pa_nil)))) pa_nil)) (pa_cons (pe_has FO hr (by decide) rfl (pa_cons (pv 0) (pa_cons (pv 1) pa_nil))) pa_nil))) (pg_tup rfl (pgs_cons (pg_name (i := 8) scDoors.nd rfl (.inr rfl)) (pgs_cons (pg_name (i := 9) scDoors.nd rfl (.inr rfl)) pgs_nil))))
      (pss_cut (ps_set (i := 10) scDoors.nd rfl (.inl rfl) (pe_callTy (call_dictPK rfl) rfl gd boot_dict (pa_cons (pe_lc (te := tTup (tCons (tVar 15) (tCons (tVar 2) tNil))) (tt := tTest (tOp rNe (tVar 15) (tVar 9))) (own := [("_law_value", 15)]) rfl scDoors.nd (pi_list (pv 1)) (blkOk_by (by kernel_rfl)) (fun s H C cl fp => pg_name (i := 15) scDoors.nd rfl (.inl rfl) (.inr rfl)) (fun s H C cl fp => pts_one (pt_cmpR op_ne (pv 15) (pv 9) (nomark _))) (fun s H C cl fp => pe_tup (pa_cons (pv 15) (pa_cons (pv 2) pa_nil)))) pa_nil)))
      (pss_cut (ps_set (i := 11) scDoors.nd rfl (.inl rfl) (pe_lst (pa_cons pe_non (pa_cons pe_int (pa_cons (pe_lst pa_nil) (pa_cons (pv 10) (pa_cons (pe_callTy (call_dictPK rfl) rfl gd boot_dict (pa_cons (pe_op op_cat (LiI.pe_listItems rfl (pv 8) rfl gl boot_list) (pe_lst (pa_cons (pe_tup (pa_cons pe_str (pa_cons (pv 2) pa_nil))) pa_nil))) pa_nil)) (pa_cons (pe_callTy (call_dictPK rfl) rfl gd boot_dict (pa_cons (pe_op op_cat (LiI.pe_listItems rfl (pv 10) rfl gl boot_list) (pe_lst (pa_cons (pe_tup (pa_cons (pv 9) (pa_cons pe_str pa_nil))) pa_nil))) pa_nil)) pa_nil))))))))
      (pss_cut (ps_set (i := 11) scDoors.nd rfl (.inl rfl) (pe_op op_cat (pv 11) (pe_lst (pa_cons (pe_callTy (call_dictPK rfl) rfl gd boot_dict (pa_cons (pe_op op_cat (LiI.pe_listItems rfl (pv 10) rfl gl boot_list) (pe_lst (pa_cons (pe_tup (pa_cons (pv 9) (pa_cons pe_non pa_nil))) pa_nil))) pa_nil)) (pa_cons (pe_callTy (call_dictPK rfl) rfl gd boot_dict (pa_cons (pe_op op_cat (LiI.pe_listItems rfl (pv 10) rfl gl boot_list) (pe_lst (pa_cons (pe_tup (pa_cons (pv 9) (pa_cons (pe_lst (pa_cons (pv 2) pa_nil)) pa_nil))) pa_nil))) pa_nil)) (pa_cons (pe_callTy (call_dictPK rfl) rfl gd boot_dict (pa_cons (pe_op op_cat (LiI.pe_listItems rfl (pv 10) rfl gl boot_list) (pe_lst (pa_cons (pe_tup (pa_cons pe_int (pa_cons (pv 2) pa_nil))) pa_nil))) pa_nil)) pa_nil))))))
      (pss_cut (ps_set (i := 12) scDoors.nd rfl (.inr rfl) (pe_has FO hr (by decide) rfl (pa_cons (pv 0) (pa_cons (pv 11) pa_nil))))
      (pss_cut (ps_set (i := 13) scDoors.nd rfl (.inr rfl) (pe_has FO hr (by decide) rfl (pa_cons (pv 0) (pa_cons (pe_lst (pa_cons pe_str (pa_cons pe_str (pa_cons pe_non (pa_cons pe_int (pa_cons pe_str (pa_cons (pe_tup (pa_cons pe_str pa_nil)) pa_nil))))))) pa_nil))))
      (pss_cut (ps_set (i := 7) scDoors.nd rfl (.inl rfl) (pe_lst (pa_cons (pe_metP M FMt gMt kMt TB rfl rfl hm hT hr rfl (lamS_by (by kernel_rfl)) rfl (fun _ _ _ _ _ => rfl) (fun A outer s H E f c' hr2 => pe_makeX MT FX hr2 (by decide) rfl gT bI (takes_of rfl rfl rfl rfl) (fun _ _ _ _ z => z) (pa_cons (pv 1) (pa_cons (pv 2) (pa_cons (pe_callTy (call_dictOK (K := K) (w := w) rfl rfl rfl (h16 hr2)) rfl gd boot_dict (pa_cons (pe_op op_cat (LiI.pe_listItems rfl (pv 3) rfl gl boot_list) (pe_lst (pa_cons (pe_tup (pa_cons pe_str (pa_cons (pv 12) pa_nil))) (pa_cons (pe_tup (pa_cons (pv 13) (pa_cons (pv 8) pa_nil))) pa_nil)))) pa_nil)) (pa_cons pe_int pa_nil)))))) pa_nil)))
      (pss_cut (ps_expr (pe_bm PySem.F.plainAttrs_list PySem.F.slot_list_append PySem.F.type_list_append mt_append (pv 7) (pa_cons (pe_metP M FMt gMt kMt TB rfl rfl hm hT hr rfl (lamS_by (by kernel_rfl)) rfl (fun _ _ _ _ _ => rfl) (fun A outer s H E f c' hr2 => pe_makeX MT FX hr2 (by decide) rfl gT bI (takes_of rfl rfl rfl rfl) (fun _ _ _ _ z => z) (pa_cons (pv 1) (pa_cons (pv 2) (pa_cons (pe_callTy (call_dictOK (K := K) (w := w) rfl rfl rfl (h16 hr2)) rfl gd boot_dict (pa_cons (pe_op op_cat (LiI.pe_listItems rfl (pv 3) rfl gl boot_list) (pe_lst (pa_cons (pe_tup (pa_cons (pv 13) (pa_cons (pv 8) pa_nil))) (pa_cons (pe_tup (pa_cons pe_str (pa_cons pe_int pa_nil))) pa_nil)))) pa_nil)) (pa_cons pe_int pa_nil)))))) pa_nil)))
      (pss_cut (ps_expr (pe_bm PySem.F.plainAttrs_list PySem.F.slot_list_append PySem.F.type_list_append mt_append (pv 7) (pa_cons (pe_metP M FMt gMt kMt TB rfl rfl hm hT hr rfl (lamS_by (by kernel_rfl)) rfl (fun _ _ _ _ _ => rfl) (fun A outer s H E f c' hr2 => pe_makeX MT FX hr2 (by decide) rfl gT bI (takes_of rfl rfl rfl rfl) (fun _ _ _ _ z => z) (pa_cons (pv 1) (pa_cons (pv 2) (pa_cons (pv 3) (pa_cons (pe_callTy (call_dictOK (K := K) (w := w) rfl rfl rfl (h16 hr2)) rfl gd boot_dict (pa_cons (pe_op op_cat (LiI.pe_listItems rfl (pv 4) rfl gl boot_list) (pe_lst (pa_cons (pe_tup (pa_cons (pv 13) (pa_cons pe_dnewK pa_nil))) (pa_cons (pe_tup (pa_cons pe_str (pa_cons pe_int pa_nil))) pa_nil)))) pa_nil)) pa_nil)))))) pa_nil)))
      (pss_cut (ps_set (i := 12) scDoors.nd rfl (.inr rfl) (pe_has FO hr (by decide) rfl (pa_cons (pv 0) (pa_cons (pe_lst (pa_cons pe_non (pa_cons pe_int (pa_cons (pe_lst pa_nil) (pa_cons (pe_disp (pps_cons pe_str (pv 2) pps_nil) rfl rfl (by simp) (by decide)) (pa_cons (pe_disp (pps_cons (pv 2) pe_str pps_nil) rfl rfl (by simp) (by decide)) (pa_cons (pe_disp (pps_cons (pv 2) pe_non pps_nil) rfl rfl (by simp) (by decide)) (pa_cons (pe_disp (pps_cons pe_int (pv 2) pps_nil) rfl rfl (by simp) (by decide)) pa_nil)))))))) pa_nil))))
      (pss_cut (ps_expr (pe_bm PySem.F.plainAttrs_list PySem.F.slot_list_append PySem.F.type_list_append mt_append (pv 7) (pa_cons (pe_metP M FMt gMt kMt TB rfl rfl hm hT hr rfl (lamS_by (by kernel_rfl)) rfl (fun _ _ _ _ _ => rfl) (fun A outer s H E f c' hr2 => pe_makeX MT FX hr2 (by decide) rfl gT bI (takes_of rfl rfl rfl rfl) (fun _ _ _ _ z => z) (pa_cons (pv 1) (pa_cons (pv 2) (pa_cons (pv 3) (pa_cons (pe_callTy (call_dictOK (K := K) (w := w) rfl rfl rfl (h16 hr2)) rfl gd boot_dict (pa_cons (pe_op op_cat (LiI.pe_listItems rfl (pv 4) rfl gl boot_list) (pe_lst (pa_cons (pe_tup (pa_cons pe_str (pa_cons (pv 12) pa_nil))) (pa_cons (pe_tup (pa_cons (pv 13) (pa_cons pe_dnewK pa_nil))) pa_nil)))) pa_nil)) pa_nil)))))) pa_nil)))
      (pss_cut (ps_if (pt_cmpR (op_neT hr.units) (pv 7) (pe_lst (pa_cons (pe_tup (pa_cons pe_str (pa_cons pe_str pa_nil))) (pa_cons (pe_tup (pa_cons pe_str (pa_cons (pv 13) pa_nil))) (pa_cons (pe_tup (pa_cons pe_str (pa_cons (pv 13) pa_nil))) (pa_cons (pe_tup (pa_cons pe_str (pa_cons pe_str pa_nil))) pa_nil))))) (nomark _)) (pss_one (ps_ret pe_bl)) pss_nil)
      (pss_cut (ps_if (pt_cmpR ((op_eqV hr.units).or (op_eqLen hr.units0)) (pv 3) pe_dnewK (nomark _)) (pss_one (ps_ret pe_bl)) pss_nil)
      (pss_cut (ps_set (i := 14) scDoors.nd rfl (.inr rfl) (pe_has FO hr (by decide) rfl (pa_cons (pv 0) (pa_cons (pe_callTy (call_listD rfl) rfl gl boot_list (pa_cons (pv 3) pa_nil)) pa_nil))))
      (pss_one (ps_ret (pe_cmpR (op_eqT hr.units) (pe_metP M FMt gMt kMt TB rfl rfl hm hT hr rfl (lamS_by (by kernel_rfl)) rfl (fun _ _ _ _ _ => rfl) (fun A outer s H E f c' hr2 => pe_makeX MT FX hr2 (by decide) rfl gT bI (takes_of rfl rfl rfl rfl) (fun _ _ _ _ z => z) (pa_cons (pv 1) (pa_cons (pv 2) (pa_cons (pv 3) (pa_cons (pe_callTy (call_dictOK (K := K) (w := w) rfl rfl rfl (h16 hr2)) rfl gd boot_dict (pa_cons (pe_op op_cat (LiI.pe_listItems rfl (pv 4) rfl gl boot_list) (pe_lst (pa_cons (pe_tup (pa_cons (pv 14) (pa_cons pe_dnewK pa_nil))) (pa_cons (pe_tup (pa_cons (pv 13) (pa_cons pe_dnewK pa_nil))) pa_nil)))) pa_nil)) pa_nil)))))) (pe_tup (pa_cons pe_str (pa_cons (pv 14) pa_nil))) (by with_unfolding_all rfl)))))))))))))))))))))))))), ?_⟩
    obtain ⟨p, va, dd, de, n, d, rfl, S, hn, hva, v1, dds, des, ft, v10, n20, vsub, nsub, tabs, hQ⟩ := h
    have A0 : AmD T p va dd de d H n := ⟨S, hva, dds, des, tabs⟩
    have vl := ft.vln
    have vsne : d.vals.map V.str ≠ [] := fun z => ft.vne (List.map_eq_nil_iff.mp z)
    have s2 : 2 ≤ sizeLine := by decide
    have s1 : 1 ≤ sizeLine := by decide
    -- 1
    refine ⟨fun σ' H' => ∃ (odd loose : V) (To Tl : String), σ' = [some (.ref p), some (.ref va), some (.str d.start), some (.ref dd), some (.ref de), some odd, some loose, none, none, none, none, none, none, none, none, none] ∧ ExP p H H' ∧ AmD T p va dd de d H' (n + 2) ∧ Od K p H' odd To ∧ isWd odd = false ∧ Od K p H' loose Tl ∧ isLt Tl = false, ?_, ?_⟩
    · refine ⟨.ref p, rfl, s1, fun a1 na1 => fun a2 na2 => ⟨by show 8 ≤ sizeLine; decide, fun l1 nl1 => ?_⟩⟩
      have x1 : Ex H (upd (upd (upd H a1 (.lst [.str "a"])) a2 (.dK [])) l1 (.lst [.str "A", .str "", .non, .int 5, .bl true, .ref a1, .ref a2, .str "abcdefghi"])) := (Ex.new na1).trans ((Ex.new na2).trans (Ex.new nl1))
      have h1 : upd (upd (upd H a1 (.lst [.str "a"])) a2 (.dK [])) l1 (.lst [.str "A", .str "", .non, .int 5, .bl true, .ref a1, .ref a2, .str "abcdefghi"]) a1 = some (.lst [.str "a"]) := (Ex.new nl1) _ _ ((Ex.new na2) _ _ upd_same)
      have h2 : upd (upd (upd H a1 (.lst [.str "a"])) a2 (.dK [])) l1 (.lst [.str "A", .str "", .non, .int 5, .bl true, .ref a1, .ref a2, .str "abcdefghi"]) a2 = some (.dK []) := (Ex.new nl1) _ _ upd_same
      have h3 : upd (upd (upd H a1 (.lst [.str "a"])) a2 (.dK [])) l1 (.lst [.str "A", .str "", .non, .int 5, .bl true, .ref a1, .ref a2, .str "abcdefghi"]) l1 = _ := upd_same
      have o1 := S.off na1
      have o3 := (S.ex ((Ex.new na1).trans (Ex.new na2))).off nl1
      generalize upd (upd (upd H a1 (.lst [.str "a"])) a2 (.dK [])) l1 (.lst [.str "A", .str "", .non, .int 5, .bl true, .ref a1, .ref a2, .str "abcdefghi"]) = G1 at x1 h1 h2 h3 ⊢
      have S1 := S.ex x1
      refine ⟨p, l1, n, _, rfl, S1, by omega, o3, h3, (fun z => nomatch z), by show 8 ≤ 1000; decide, fun odd H2 mo x2 S2 => ?_⟩
      have od : ∃ To, Od K p G1 odd To ∧ isWd odd = false := by
        simp only [List.mem_cons, List.mem_nil_iff, or_false] at mo
        rcases mo with rfl | rfl | rfl | rfl | rfl | rfl | rfl | rfl
        · exact ⟨_, .str (by decide +kernel), by decide +kernel⟩
        · exact ⟨_, .str (by decide +kernel), by decide +kernel⟩
        · exact ⟨_, .non, rfl⟩
        · exact ⟨_, .int 5, rfl⟩
        · exact ⟨_, .bl true, rfl⟩
        · exact ⟨_, .lst h1 o1, rfl⟩
        · exact ⟨_, .dct S1 h2, rfl⟩
        · exact ⟨_, .str (by decide +kernel), by decide +kernel⟩
      obtain ⟨To, od, ow⟩ := od
      refine ⟨.ref p, rfl, fun a3 na3 => ⟨by show 4 ≤ sizeLine; decide, fun l2 nl2 => ?_⟩⟩
      have x3 : Ex H2 (upd (upd H2 a3 (.dK [])) l2 (.lst [.non, .int 5, .str "ab", .ref a3])) := (Ex.new na3).trans (Ex.new nl2)
      have h4 : upd (upd H2 a3 (.dK [])) l2 (.lst [.non, .int 5, .str "ab", .ref a3]) a3 = some (.dK []) := (Ex.new nl2) _ _ upd_same
      have h5 : upd (upd H2 a3 (.dK [])) l2 (.lst [.non, .int 5, .str "ab", .ref a3]) l2 = _ := upd_same
      have o5 := (S2.ex (Ex.new na3)).off nl2
      generalize upd (upd H2 a3 (.dK [])) l2 (.lst [.non, .int 5, .str "ab", .ref a3]) = G2 at x3 h4 h5 ⊢
      have S3 := S2.ex x3
      refine ⟨p, l2, n + 1, _, rfl, S3, by omega, o5, h5, (fun z => nomatch z), by show 4 ≤ 1000; decide, fun loose H4 ml x4 S4 => ⟨s2, fun tp ntp => ?_⟩⟩
      have ol : ∃ Tl, Od K p G2 loose Tl ∧ isLt Tl = false := by
        simp only [List.mem_cons, List.mem_nil_iff, or_false] at ml
        rcases ml with rfl | rfl | rfl | rfl
        · exact ⟨_, .non, by decide +kernel⟩
        · exact ⟨_, .int 5, by decide +kernel⟩
        · exact ⟨_, .str (by decide +kernel), by decide +kernel⟩
        · exact ⟨_, .dct S3 h4, by decide +kernel⟩
      obtain ⟨Tl, ol, lt⟩ := ol
      have x5 : Ex H4 (upd H4 tp (.tup [odd, loose])) := Ex.new ntp
      have y2 := ExA.p ((x2.trans x3.exA).trans (x4.trans x5.exA))
      have xx : ExA p H (upd H4 tp (.tup [odd, loose])) := (x1.exA.trans x2).trans (x3.exA.trans (x4.trans x5.exA))
      exact ⟨tp, _, rfl, .inl (.inl upd_same), rfl, odd, [loose], rfl, loose, [], rfl, rfl, odd, loose, To, Tl, rfl, xx.p, A0.p v1 xx.p (S4.ex x5) (Tabs.exP xx S tabs), od.p y2, ow, ol.p (ExA.p (x4.trans x5.exA)), lt⟩
    rintro σ1 Hb ⟨odd, loose, To, Tl, rfl, xb, Ab, oo, ow, ol, lt⟩
    -- 2
    refine ⟨fun σ' H' => ∃ fl, σ' = [some (.ref p), some (.ref va), some (.str d.start), some (.ref dd), some (.ref de), some odd, some loose, some (.ref fl), none, none, none, none, none, none, none, none] ∧ FoP p T Hb H' fl [("values", .int (d.vals.length : Nat))] ∧ Pool H' p (n + 3), ?_, ?_⟩
    · refine lst_one (cons_one (lamM (m := n + 3) (v := .int (d.vals.length : Nat)) Ab.S Ab.tb (.inl ⟨rfl, rfl, rfl⟩) (fun E H1 Q' y1 t1 rz => ?_) fun q H1 y1 S1 t1 nq hq => ?_))
      · have A := Ab.p v1 (ExtN.p y1) (Ab.S.exN y1) t1
        refine ⟨.ref va, rfl, .ref p, rfl, .ref va, rfl, s2, fun l1 nl1 => ⟨va, l1, _, _, rfl, rfl, (Ex.new nl1) _ _ A.hva, upd_same, by rw [List.length_map, sizeLine_eq]; show _ + 2 ≤ _; omega, fun l2 nl2 => ?_⟩⟩
        have x2 := (Ex.new (o := .lst [.non, .str "A"]) nl1).trans (Ex.new (o := .lst (d.vals.map V.str ++ [.non, .str "A"])) nl2)
        have S2 := A.S.ex x2
        refine ⟨p, l2, n + 2, _, rfl, S2, by omega, (A.S.ex (Ex.new nl1)).off nl2, upd_same, (fun z => vsne (List.append_eq_nil_iff.mp z).1), by rw [List.length_append, List.length_map]; show _ + 2 ≤ 1000; omega, fun y H3 my x3 S3 => ⟨s2, fun l3 nl3 => ⟨va, l3, _, _, rfl, rfl, (Ex.new nl3) _ _ (x3 _ _ v1 (x2 _ _ A.hva)), upd_same, by rw [List.length_map, sizeLine_eq]; show _ + 2 ≤ _; omega, fun l4 nl4 => fun x dx nx ndx nex => ?_⟩⟩⟩
        have x4 := (Ex.new (o := .lst [y, .non]) nl3).trans (Ex.new (o := .lst (d.vals.map V.str ++ [y, .non])) nl4)
        have xm := ex_make (C0 := C) nx ndx
        refine ⟨x, dx, .ref l4, .int 5, .int 5, .int 5, rfl, upd_same, .inl ⟨d.vals.length, rz_make nx ndx (rz _ ((x2.exA.trans x3).trans x4.exA) (S3.ex x4)) rfl, .inr ⟨l4, _, rfl, .inl (.inl (.inl (xm _ _ upd_same))), by rw [List.length_append, List.length_map]; show _ + 2 ≤ 60; omega, fun z mz => ?_, .inl (fbw_bad ft.vok ft.vnd ?_)⟩⟩⟩
        · have ks : ∀ {Hk : Hp} {z : V}, z ∈ d.vals.map V.str ++ [V.non, .str "A"] → ∃ T, Kd K Hk z T := fun m => by
            rcases List.mem_append.mp m with m | m
            · obtain ⟨s, ms, rfl⟩ := List.mem_map.mp m
              exact ⟨_, str_kd (by have := okS_len (ft.vok s ms); omega)⟩
            · simp only [List.mem_cons, List.mem_nil_iff, or_false] at m
              rcases m with rfl | rfl
              · exact ⟨_, (Od.non (p := p)).kd⟩
              · exact ⟨_, str_kd (by decide +kernel)⟩
          rcases List.mem_append.mp mz with m | m
          · exact ks (List.mem_append_left _ m)
          · simp only [List.mem_cons, List.mem_nil_iff, or_false] at m
            rcases m with rfl | rfl
            · exact ks my
            · exact ⟨_, (Od.non (p := p)).kd⟩
        · rcases List.mem_append.mp my with m | m
          · obtain ⟨x, mx, rfl⟩ := List.mem_map.mp m
            exact .inr ⟨x, mx, rfl⟩
          · simp only [List.mem_cons, List.mem_nil_iff, or_false] at m
            rcases m with rfl | rfl
            · exact .inl rfl
            · exact .inl (by decide +kernel)
      · refine ⟨s1, fun fl nfl => ⟨fl, rfl, FoP.first (x := "values") S1 y1 t1 hq nfl, S1.new nfl⟩⟩
    rintro σ2 H2 ⟨fl, rfl, F, S2⟩
    -- 3
    refine ⟨fun σ' H' => σ' = [some (.ref p), some (.ref va), some (.str d.start), some (.ref dd), some (.ref de), some odd, some loose, some (.ref fl), none, none, none, none, none, none, none, none] ∧ FoP p T Hb H' fl [("values", .int (d.vals.length : Nat)), ("values", .int 0)] ∧ Pool H' p (n + 4), ?_, ?_⟩
    · obtain ⟨xs, hx, hxl⟩ := F.lst
      have A := Ab.p v1 F.ex S2 F.tabs
      refine ⟨.ref fl, rfl, .inl ⟨rfl, xs, .inl (.inl hx)⟩, cons_one ?_⟩
      refine lamM (m := n + 4) (v := .int 0) A.S F.tabs (.inl ⟨rfl, rfl, rfl⟩) (fun E H1 Q' y1 t1 rz => ?_) fun q H1 y1 S1 t1 nq hq => ?_
      · have A1 := A.p v1 (ExtN.p y1) (A.S.exN y1) t1
        refine ⟨.ref p, rfl, loose, rfl, Nat.zero_le _, fun e1 ne1 => ⟨Nat.zero_le _, fun e2 ne2 => ⟨by show 3 ≤ sizeLine; decide, fun l1 nl1 => ?_⟩⟩⟩
        have xl : Ex H1 (upd (upd (upd H1 e1 (.lst [])) e2 (.tup [])) l1 (.lst [loose, .ref e1, .ref e2])) := (Ex.new ne1).trans ((Ex.new ne2).trans (Ex.new nl1))
        have h1 : upd (upd (upd H1 e1 (.lst [])) e2 (.tup [])) l1 (.lst [loose, .ref e1, .ref e2]) e1 = some (.lst []) := (Ex.new nl1) _ _ ((Ex.new ne2) _ _ upd_same)
        have h2 : upd (upd (upd H1 e1 (.lst [])) e2 (.tup [])) l1 (.lst [loose, .ref e1, .ref e2]) e2 = some (.tup []) := (Ex.new nl1) _ _ upd_same
        have h3 : upd (upd (upd H1 e1 (.lst [])) e2 (.tup [])) l1 (.lst [loose, .ref e1, .ref e2]) l1 = _ := upd_same
        have o1 := A1.S.off ne1
        have o3 := (A1.S.ex ((Ex.new ne1).trans (Ex.new ne2))).off nl1
        generalize upd (upd (upd H1 e1 (.lst [])) e2 (.tup [])) l1 (.lst [loose, .ref e1, .ref e2]) = G1 at xl h1 h2 h3 ⊢
        have S3 := A1.S.ex xl
        refine ⟨p, l1, n + 3, _, rfl, S3, by omega, o3, h3, (fun z => nomatch z), by show 3 ≤ 1000; decide, fun v G3 mv x3 S4 => fun x dx nx ndx nex => ?_⟩
        have xm := ex_make (C0 := C) nx ndx
        refine ⟨x, dx, v, .int 5, .int 5, .int 5, rfl, upd_same, .inl ⟨0, rz_make nx ndx (rz _ (xl.exA.trans x3) S4) rfl, ?_⟩⟩
        simp only [List.mem_cons, List.mem_nil_iff, or_false] at mv
        rcases mv with rfl | rfl | rfl
        · have ol2 := (((ol.p F.ex).p (ExtN.p y1)).p xl.p).p x3.p
          exact .inl ⟨Tl, (ol2.kd).ex xm, lt, rfl⟩
        · exact .inr ⟨e1, [], rfl, .inl (.inl (.inl (xm _ _ (x3 _ _ o1 h1)))), Nat.zero_le _, fun _ m => (nomatch m), .inr ⟨rfl, rfl⟩⟩
        · exact .inr ⟨e2, [], rfl, .inr (.inl (.inl (xm _ _ (x3.nl S3 h2 fun _ z => nomatch z)))), Nat.zero_le _, fun _ m => (nomatch m), .inr ⟨rfl, rfl⟩⟩
      · have hx1 := y1.lst hx F.off
        exact ⟨fl, xs, .ref q, rfl, rfl, hx1, by rw [sizeLine_eq, hxl]; show 1 < _; decide, rfl, F.app (x := "values") A.S y1 t1 hq hx1, S1.put F.off⟩
    rintro σ3 H3 ⟨rfl, F3, S3⟩
    clear F S2 H2
    -- 4
    refine ⟨fun σ' H' => σ' = [some (.ref p), some (.ref va), some (.str d.start), some (.ref dd), some (.ref de), some odd, some loose, some (.ref fl), none, none, none, none, none, none, none, none] ∧ FoP p T Hb H' fl [("values", .int (d.vals.length : Nat)), ("values", .int 0), ("start", odd)] ∧ Pool H' p (n + 4), ?_, ?_⟩
    · obtain ⟨xs, hx, hxl⟩ := F3.lst
      have A := Ab.p v1 F3.ex S3 F3.tabs
      refine ⟨.ref fl, rfl, .inl ⟨rfl, xs, .inl (.inl hx)⟩, cons_one ?_⟩
      refine lamM (m := n + 4) (v := odd) A.S F3.tabs (.inr (.inl ⟨rfl, rfl, rfl⟩)) (fun E H1 Q' y1 t1 rz => ?_) fun q H1 y1 S1 t1 nq hq => ?_
      · have A1 := A.p v1 (ExtN.p y1) (A.S.exN y1) t1
        refine ⟨.ref va, rfl, odd, rfl, fun x dx nx ndx nex => ?_⟩
        have xm := ex_make (C0 := C) nx ndx
        exact ⟨x, dx, .ref va, odd, .int 5, .int 5, rfl, upd_same, .inr ⟨va, d.vals, rfl, .inl (.inl (xm _ _ A1.hva)), ⟨ft.vne, ft.vok, ft.vnd, ft.vln⟩, .inl ⟨To, (((oo.p F3.ex).p (ExtN.p y1)).kd).ex xm, ow, rz_make nx ndx (rz _ (Ex.exA Ex.refl) A1.S) rfl⟩⟩⟩
      · have hx1 := y1.lst hx F3.off
        exact ⟨fl, xs, .ref q, rfl, rfl, hx1, by rw [sizeLine_eq, hxl]; show 2 < _; decide, rfl, F3.app (x := "start") A.S y1 t1 hq hx1, S1.put F3.off⟩
    rintro σ4 H4 ⟨rfl, F4, S4⟩
    clear F3 S3 H3
    -- 5
    refine ⟨fun σ' H' => σ' = [some (.ref p), some (.ref va), some (.str d.start), some (.ref dd), some (.ref de), some odd, some loose, some (.ref fl), none, none, none, none, none, none, none, none] ∧ FoP p T Hb H' fl [("values", .int (d.vals.length : Nat)), ("values", .int 0), ("start", odd), ("deeds", .non)] ∧ Pool H' p (n + 4), ?_, ?_⟩
    · obtain ⟨xs, hx, hxl⟩ := F4.lst
      have A := Ab.p v1 F4.ex S4 F4.tabs
      refine ⟨.ref fl, rfl, .inl ⟨rfl, xs, .inl (.inl hx)⟩, cons_one ?_⟩
      refine lamM (m := n + 4) (v := .non) A.S F4.tabs (.inr (.inr (.inl ⟨rfl, rfl, rfl⟩))) (fun E H1 Q' y1 t1 rz => ?_) fun q H1 y1 S1 t1 nq hq => ?_
      · have A1 := A.p v1 (ExtN.p y1) (A.S.exN y1) t1
        have kl := ((ol.p F4.ex).p (ExtN.p y1)).kd
        have go : ∀ dv Td, Kd K H1 dv Td → Td ≠ "dict" → ∀ x dx, H1 x = none → H1 dx = none → dx ≠ x → spInitX K w C CV CS CD CE [.ref x, .ref va, .str d.start, dv, .int 5] (upd (upd H1 dx (.own x)) x (.ins C dx [])) (fun v H2 => v = .non ∧ Q' (.ref x) H2) E := fun dv Td kd nT x dx nx ndx nex => by
          have xm := ex_make (C0 := C) nx ndx
          exact ⟨x, dx, .ref va, .str d.start, dv, .int 5, rfl, upd_same, .inr ⟨va, d.vals, rfl, .inl (.inl (xm _ _ A1.hva)), ⟨ft.vne, ft.vok, ft.vnd, ft.vln⟩, .inr ⟨d.start, rfl, ft.st, .inl ⟨.non, .inl ⟨Td, kd.ex xm, nT, rfl⟩, dq_non, rz_make nx ndx (rz _ (Ex.exA Ex.refl) A1.S) rfl⟩⟩⟩⟩
        by_cases hd : Tl = "dict"
        · exact ⟨.ref va, rfl, .str d.start, rfl, loose, rfl, loose, .ty "dict", _, _, true, rfl, .ty "dict", kl.2.1, kit_dT kl.1 hd, _, rfl, go .non "NoneType" ((Od.non (p := p)).kd) (by decide)⟩
        · exact ⟨.ref va, rfl, .str d.start, rfl, loose, rfl, loose, .ty "dict", _, _, false, rfl, .ty "dict", kl.2.1, kit_dF kl.1 hd, _, rfl, loose, rfl, go loose Tl kl hd⟩
      · have hx1 := y1.lst hx F4.off
        exact ⟨fl, xs, .ref q, rfl, rfl, hx1, by rw [sizeLine_eq, hxl]; show 3 < _; decide, rfl, F4.app (x := "deeds") A.S y1 t1 hq hx1, S1.put F4.off⟩
    rintro σ5 H5 ⟨rfl, F5, S5⟩
    clear F4 S4 H4
    -- 6
    refine ⟨fun σ' H' => σ' = [some (.ref p), some (.ref va), some (.str d.start), some (.ref dd), some (.ref de), some odd, some loose, some (.ref fl), none, none, none, none, none, none, none, none] ∧ FoP p T Hb H' fl [("values", .int (d.vals.length : Nat)), ("values", .int 0), ("start", odd), ("deeds", .non), ("entries", .non)] ∧ Pool H' p (n + 4), ?_, ?_⟩
    · obtain ⟨xs, hx, hxl⟩ := F5.lst
      have A := Ab.p v1 F5.ex S5 F5.tabs
      refine ⟨.ref fl, rfl, .inl ⟨rfl, xs, .inl (.inl hx)⟩, cons_one ?_⟩
      refine lamM (m := n + 4) (v := .non) A.S F5.tabs (.inr (.inr (.inr ⟨rfl, rfl, rfl⟩))) (fun E H1 Q' y1 t1 rz => ?_) fun q H1 y1 S1 t1 nq hq => ?_
      · have A1 := A.p v1 (ExtN.p y1) (A.S.exN y1) t1
        have kl := ((ol.p F5.ex).p (ExtN.p y1)).kd
        have go : ∀ H2 dv Td, Ex H1 H2 → Kd K H2 dv Td → Td ≠ "dict" → ∀ x dx, H2 x = none → H2 dx = none → dx ≠ x → spInitX K w C CV CS CD CE [.ref x, .ref va, .str d.start, .ref dd, dv] (upd (upd H2 dx (.own x)) x (.ins C dx [])) (fun v H2 => v = .non ∧ Q' (.ref x) H2) E := fun H2 dv Td x2 kd nT x dx nx ndx nex => by
          have xm := ex_make (C0 := C) nx ndx
          have x3 := x2.trans xm
          have dd2 := A1.dds.ex x3
          obtain ⟨kvs, hk, _, ek⟩ := dd_kv dd2
          exact ⟨x, dx, .ref va, .str d.start, .ref dd, dv, rfl, upd_same, .inr ⟨va, d.vals, rfl, .inl (.inl (x3 _ _ A1.hva)), ⟨ft.vne, ft.vok, ft.vnd, ft.vln⟩, .inr ⟨d.start, rfl, ft.st, .inr ⟨dd, kvs, d.deeds.map (·.1), .non, rfl, hk, ek, fwr_dd ft.vok dd2 ft.dnd (fun l m => ⟨(ft.dok l m).1, (fun z => nomatch z), (ft.dok l m).2⟩), .inl ⟨Td, kd.ex xm, nT, rfl⟩, dq_non, rz_make nx ndx (rz _ x2.exA (A1.S.ex x2)) rfl⟩⟩⟩⟩
        by_cases hd : Tl = "dict"
        · exact ⟨.ref va, rfl, .str d.start, rfl, .ref dd, rfl, loose, rfl, loose, .ty "dict", _, _, true, rfl, .ty "dict", kl.2.1, kit_dT kl.1 hd, _, rfl, Nat.zero_le _, fun e ne => go _ (.ref e) "list" (Ex.new ne) (sqL_kd (.inl (.inl upd_same))) (by decide)⟩
        · exact ⟨.ref va, rfl, .str d.start, rfl, .ref dd, rfl, loose, rfl, loose, .ty "dict", _, _, false, rfl, .ty "dict", kl.2.1, kit_dF kl.1 hd, _, rfl, loose, rfl, go H1 loose Tl Ex.refl kl hd⟩
      · have hx1 := y1.lst hx F5.off
        exact ⟨fl, xs, .ref q, rfl, rfl, hx1, by rw [sizeLine_eq, hxl]; show 4 < _; decide, rfl, F5.app (x := "entries") A.S y1 t1 hq hx1, S1.put F5.off⟩
    rintro σ6 H6 ⟨rfl, F6, S6⟩
    clear F5 S5 H5
    obtain ⟨ps, hf, prs⟩ := F6.all
    have A6 := Ab.p v1 F6.ex S6 F6.tabs
    -- 7
    refine ⟨fun σ' H' => σ' = [some (.ref p), some (.ref va), some (.str d.start), some (.ref dd), some (.ref de), some odd, some loose, some (.ref fl), none, none, none, none, none, none, none, none] ∧ Ex H6 H', ?_, ?_⟩
    · refine ⟨.ref fl, rfl, .ref va, rfl, .ref va, d.vals.length, rfl, .inl ⟨_, .inl (.inl A6.hva), by rw [List.length_map]⟩, s2, fun i1 ni1 => ⟨s2, fun i2 ni2 => ⟨odd, rfl, s2, fun i3 ni3 => ⟨s2, fun i4 ni4 => ⟨s2, fun i5 ni5 => ⟨by show 5 ≤ sizeLine; decide, fun r nr => ?_⟩⟩⟩⟩⟩⟩
      have z1 := Ex.new (o := .tup [.str "values", .int (d.vals.length : Nat)]) ni1
      have z2 := Ex.new (o := .tup [.str "values", .int 0]) ni2
      have z3 := Ex.new (o := .tup [.str "start", odd]) ni3
      have z4 := Ex.new (o := .tup [.str "deeds", .non]) ni4
      have z5 := Ex.new (o := .tup [.str "entries", .non]) ni5
      have z6 := Ex.new (o := .lst [.ref i1, .ref i2, .ref i3, .ref i4, .ref i5]) nr
      have zz := z1.trans (z2.trans (z3.trans (z4.trans (z5.trans z6))))
      refine ⟨fl, r, _, _, 2, by decide, rfl, rfl, .inl (.inl (zz _ _ hf)), .inl (.inl upd_same), found_eqT (qs := [i1, i2, i3, i4, i5]) (Paired.mapP prs fun _ _ e => zz _ _ e) (.cons ((z2.trans (z3.trans (z4.trans (z5.trans z6)))) _ _ upd_same) (.cons ((z3.trans (z4.trans (z5.trans z6))) _ _ upd_same) (.cons ((z4.trans (z5.trans z6)) _ _ upd_same) (.cons ((z5.trans z6) _ _ upd_same) (.cons (z6 _ _ upd_same) .nil))))) (fun it m => ?_), false, rfl, rfl, zz⟩
      simp only [List.mem_cons, List.mem_nil_iff, or_false] at m
      rcases m with rfl | rfl | rfl | rfl | rfl
      · exact .inl rfl
      · exact .inl rfl
      · exact oo.sf
      · exact .inl rfl
      · exact .inl rfl
    rintro σ7 H7 ⟨rfl, x7⟩
    -- 8
    refine ⟨fun σ' H' => σ' = [some (.ref p), some (.ref va), some (.str d.start), some (.ref dd), some (.ref de), some odd, some loose, some (.ref fl), none, none, none, none, none, none, none, none] ∧ H' = H7, ?_, ?_⟩
    · have k7 := ((oo.p F6.ex).kd).ex x7
      cases prs with
      | cons q1 prs => cases prs with
        | cons q2 prs => cases prs with
          | @cons c3 _ _ _ q3 prs =>
            exact ⟨.ref fl, rfl, fl, _, 2, .ref c3, rfl, rfl, .inl (.inl (x7 _ _ hf)), at_nat (k := 2) rfl, c3, _, 1, odd, rfl, rfl, .inl (.inl (x7 _ _ q3)), rfl, odd, .ty "bool", _, _, decide (To = "bool"), rfl, .ty "bool", k7.2.1, kit_bool k7.1, odd, rfl, odd, .ty "bool", _, _, decide (To = "bool"), rfl, .ty "bool", k7.2.1, kit_bool k7.1, rfl, false, congrArg V.bl (by rw [decide_eq_true rfl]; rfl), rfl, rfl⟩
    rintro σ8 H8 ⟨rfl, rfl⟩
    have A8 := A6.p v1 (Ex.p x7) (S6.ex x7) (x7.tabs F6.tabs)
    have xB : ExP p H H8 := (xb.trans F6.ex).trans (Ex.p x7)
    clear A6 prs hf F6 S6 x7 oo ol ow lt Ab xb
    have vls : ∀ x ∈ d.vals, x.length ≤ 1000 := fun x m => by have := okS_len (ft.vok x m); omega
    have stl := vls _ ft.st
    -- 9
    refine ⟨fun σ' H' => ∃ (wd : Addr) (s0 : Str), σ' = [some (.ref p), some (.ref va), some (.str d.start), some (.ref dd), some (.ref de), some odd, some loose, some (.ref fl), some (.ref wd), some (.str s0), none, none, none, none, none, none] ∧ s0 ∈ d.vals ∧ ExP p H H' ∧ AmD T p va dd de d H' (n + 5) ∧ H' wd = some (.dK (ldV (wld d.vals d.start))), ?_, ?_⟩
    · refine asg_tup (cons_one ?_)
      show tWS K tYes _ _ _
      refine ws_go (fun _ => true) rfl rfl rfl A8.hva ft.vnd ft.vln (fun x H2 Q2 q => q) fun wd H9 x9 nwd hwd => ?_
      rw [List.filter_eq_self.mpr (fun _ _ => rfl)] at hwd
      refine ⟨.ref p, rfl, .ref va, rfl, p, va, n + 4, _, rfl, A8.S.ex x9, by omega, v1, x9 _ _ A8.hva, vsne, by rw [List.length_map]; omega, fun y H10 my x10 S10 => ⟨s2, fun tp ntp => ?_⟩⟩
      obtain ⟨s0, ms, rfl⟩ := List.mem_map.mp my
      have x11 := Ex.new (o := .tup [.ref wd, .str s0]) ntp
      have xx : ExA p H8 (upd H10 tp (.tup [.ref wd, .str s0])) := (x9.exA.trans x10).trans x11.exA
      exact ⟨tp, _, rfl, .inl (.inl upd_same), rfl, .ref wd, [.str s0], rfl, .str s0, [], rfl, rfl, wd, s0, rfl, ms, xB.trans xx.p, A8.p v1 xx.p (S10.ex x11) (Tabs.exP xx A8.S A8.tb), x11 _ _ (x10.nl (A8.S.ex x9) hwd fun _ z => nomatch z)⟩
    rintro σ9 H9 ⟨wd, s0, rfl, ms, xC, A9, hwd⟩
    clear A8 xB
    -- 10
    refine ⟨fun σ' H' => ∃ (ls : Addr), σ' = [some (.ref p), some (.ref va), some (.str d.start), some (.ref dd), some (.ref de), some odd, some loose, some (.ref fl), some (.ref wd), some (.str s0), some (.ref ls), none, none, none, none, none] ∧ Ex H9 H' ∧ H' ls = some (.dK (ldV (wld (d.vals.filter fun v => !decide (v = s0)) d.start))), ?_, ?_⟩
    · show tWS K (tTest (tOp rNe (tVar 15) (tVar 9))) _ _ _
      refine ws_go (fun v => !decide (v = s0)) rfl rfl rfl A9.hva ft.vnd ft.vln (fun x H2 Q2 q => ⟨.str x, rfl, .str s0, rfl, rfl, _, rfl, ?_⟩) fun ls H10 x10 nls hls => ⟨ls, rfl, x10, hls⟩
      have e : decide (V.str x = V.str s0) = decide (x = s0) := by
        by_cases z : x = s0
        · subst z; rw [decide_eq_true rfl, decide_eq_true rfl]
        · rw [decide_eq_false z, decide_eq_false fun q => z (V.str.inj q)]
      rw [e]
      exact q
    rintro σ10 H10 ⟨ls, rfl, x10, hls⟩
    have A10 := A9.p v1 (Ex.p x10) (A9.S.ex x10) (x10.tabs A9.tb)
    have hwd10 := x10 _ _ hwd
    have xD : ExP p H H10 := xC.trans (Ex.p x10)
    clear A9 hwd xC x10
    have fnd : (d.vals.filter fun v => !decide (v = s0)).Nodup := List.filter_sublist.nodup ft.vnd
    have fls : ∀ x ∈ (d.vals.filter fun v => !decide (v = s0)), x.length ≤ 1000 := fun x m => vls x (List.mem_filter.mp m).1
    have fln : (d.vals.filter fun v => !decide (v = s0)).length ≤ 60 := Nat.le_trans (List.length_filter_le _ _) ft.vln
    have fs0 : (Sum.inr s0 : Key) ∉ (d.vals.filter fun v => !decide (v = s0)).map Sum.inr := fun m => by
      obtain ⟨y, my, ey⟩ := List.mem_map.mp m
      cases ey
      have := (List.mem_filter.mp my).2
      simp at this
    have kz : (Sum.inr "zz" : Key) ∉ d.vals.map Sum.inr := fun m => by
      obtain ⟨y, my, ey⟩ := List.mem_map.mp m
      cases ey
      exact absurd (vsub _ my) (by decide +kernel)
    have k5 : (Sum.inl 5 : Key) ∉ (d.vals.filter fun v => !decide (v = s0)).map Sum.inr := fun m => by
      obtain ⟨y, my, ey⟩ := List.mem_map.mp m
      cases ey
    have zzo : ∀ {Hk : Hp}, ∃ T, Od K p Hk (.str "zz") T := ⟨_, Od.str (by decide +kernel)⟩
    have sto : ∀ {Hk : Hp}, ∃ T, Od K p Hk (.str d.start) T := ⟨_, Od.str stl⟩
    have s0o : ∀ {Hk : Hp}, ∃ T, Od K p Hk (.str s0) T := ⟨_, Od.str (vls _ ms)⟩
    -- 11
    refine ⟨fun σ' H' => ∃ (wr : Addr) (ys : List V), σ' = [some (.ref p), some (.ref va), some (.str d.start), some (.ref dd), some (.ref de), some odd, some loose, some (.ref fl), some (.ref wd), some (.str s0), some (.ref ls), some (.ref wr), none, none, none, none] ∧ Ex H10 H' ∧ H' wr = some (.lst ys) ∧ ys.length = 6 ∧ ∀ y ∈ ys, LdP K p H' d.vals true y false, ?_, ?_⟩
    · refine lst_one (cons_one (const_one (cons_one (const_one (cons_one ?_)))))
      refine ⟨Nat.zero_le _, fun e1 ne1 => ⟨.ref ls, rfl, ?_⟩⟩
      have x1 : Ex H10 (upd H10 e1 (.lst [])) := Ex.new ne1
      have h1 : upd H10 e1 (.lst []) e1 = some (.lst []) := upd_same
      have o1 := A10.S.off ne1
      generalize upd H10 e1 (.lst []) = G1 at x1 h1 ⊢
      refine cons_one ?_
      show tExt1 K 8 _ _ _ _
      refine ext1_go (k := .inr "zz") (W := fun v _ => v = .str d.start) rfl (x1 _ _ hwd10) (by rw [wld_len]; omega) (nd_snoc (wld_nd ft.vnd) (by rw [wld_keys]; exact kz)) (fun _ _ _ _ z => z) (fun H1 Q' y1 q => ⟨.str d.start, rfl, q _ H1 Ex.refl rfl⟩) fun d1 G2 v x2 nd1 hd1 ev => ?_
      subst ev
      refine cons_one ?_
      show tExt1 K 10 _ _ _ _
      refine ext1_go (k := .inr s0) (W := fun v _ => v = .str "zz") rfl (x2 _ _ (x1 _ _ hls)) (by rw [wld_len]; omega) (nd_snoc (wld_nd fnd) (by rw [wld_keys]; exact fs0)) (fun _ _ _ _ z => z) (fun H1 Q' y1 q => ⟨.str s0, rfl, q _ H1 Ex.refl rfl⟩) fun d2 G3 v x3 nd2 hd2 ev => ?_
      subst ev
      refine ⟨by show 6 ≤ sizeLine; decide, fun wr nwr => ?_⟩
      have x4 := Ex.new (o := .lst [V.non, .int 5, .ref e1, .ref ls, .ref d1, .ref d2]) nwr
      have xx := x1.trans (x2.trans (x3.trans x4))
      refine ⟨wr, _, rfl, xx, upd_same, rfl, fun y my => ?_⟩
      simp only [List.mem_cons, List.mem_nil_iff, or_false] at my
      rcases my with rfl | rfl | rfl | rfl | rfl | rfl
      · exact .inl ⟨_, .non, by decide, rfl⟩
      · exact .inl ⟨_, .int 5, by decide, rfl⟩
      · exact .inl ⟨_, .lst ((x2.trans (x3.trans x4)) _ _ h1) o1, by decide, rfl⟩
      · exact ldP_less (xx _ _ hls) vls stl ft.vln ft.vnd ms
      · exact ldP_ext ((x3.trans x4) _ _ hd1) vls stl ft.vln ft.vnd kz zzo sto (rowB_key (.inr (zz_no vsub)))
      · exact ldP_ext (x4 _ _ hd2) fls stl fln fnd fs0 s0o zzo (rowB_val (.inr (zz_no vsub)))
    rintro σ11 H11 ⟨wr, ys, rfl, x11, hwr, ysl, ysb⟩
    -- 12
    refine ⟨fun σ' H' => ∃ (wr : Addr) (ys : List V), σ' = [some (.ref p), some (.ref va), some (.str d.start), some (.ref dd), some (.ref de), some odd, some loose, some (.ref fl), some (.ref wd), some (.str s0), some (.ref ls), some (.ref wr), none, none, none, none] ∧ Ex H10 H' ∧ wr ≠ p ∧ H' wr = some (.lst ys) ∧ ys.length = 9 ∧ ∀ y ∈ ys, LdP K p H' d.vals true y false, ?_, ?_⟩
    · refine ⟨.ref wr, rfl, ?_⟩
      refine lst_one (cons_one ?_)
      show tExt1 K 10 _ _ _ _
      refine ext1_go (k := .inr s0) (W := fun v _ => v = .non) rfl (x11 _ _ hls) (by rw [wld_len]; omega) (nd_snoc (wld_nd fnd) (by rw [wld_keys]; exact fs0)) (fun _ _ _ _ z => z) (fun H1 Q' y1 q => ⟨.str s0, rfl, q _ H1 Ex.refl rfl⟩) fun d1 G2 v x2 nd1 hd1 ev => ?_
      subst ev
      refine cons_one ?_
      show tExt1 K 10 _ _ _ _
      refine ext1_go (k := .inr s0) (W := fun v Hv => ∃ a, v = .ref a ∧ Hv a = some (.lst [.str d.start]) ∧ a ≠ p) rfl (x2 _ _ (x11 _ _ hls)) (by rw [wld_len]; omega) (nd_snoc (wld_nd fnd) (by rw [wld_keys]; exact fs0)) (fun _ _ _ x ⟨a, e, h, o⟩ => ⟨a, e, x _ _ h, o⟩) (fun H1 Q' y1 q => ⟨.str s0, rfl, .str d.start, rfl, s1, fun a na => q (.ref a) _ (Ex.new na) ⟨a, rfl, upd_same, (A10.S.ex (x11.trans (x2.trans y1))).off na⟩⟩) fun d2 G3 v x3 nd2 hd2 ev => ?_
      obtain ⟨a4, rfl, h4, o4⟩ := ev
      refine cons_one ?_
      show tExt1 K 10 _ _ _ _
      refine ext1_go (k := .inl 5) (W := fun v _ => v = .str d.start) rfl (x3 _ _ (x2 _ _ (x11 _ _ hls))) (by rw [wld_len]; omega) (nd_snoc (wld_nd fnd) (by rw [wld_keys]; exact k5)) (fun _ _ _ _ z => z) (fun H1 Q' y1 q => ⟨.str d.start, rfl, q _ H1 Ex.refl rfl⟩) fun d3 G4 v x4 nd3 hd3 ev => ?_
      subst ev
      refine ⟨by show 3 ≤ sizeLine; decide, fun l2 nl2 => ?_⟩
      have x5 := Ex.new (o := .lst [V.ref d1, .ref d2, .ref d3]) nl2
      have x25 := x2.trans (x3.trans (x4.trans x5))
      refine ⟨wr, l2, ys, _, rfl, rfl, x25 _ _ hwr, upd_same, by rw [ysl]; show 6 + 3 ≤ sizeLine; decide, fun w2 nw2 => ?_⟩
      have x6 := Ex.new (o := .lst (ys ++ [V.ref d1, .ref d2, .ref d3])) nw2
      have S5 := A10.S.ex (x11.trans x25)
      refine ⟨w2, _, rfl, (x11.trans x25).trans x6, S5.off nw2, upd_same, by rw [List.length_append, ysl]; rfl, fun y my => ?_⟩
      rcases List.mem_append.mp my with m | m
      · exact (ysb y m).p (Ex.p (x25.trans x6)) (A10.S.ex x11)
      · simp only [List.mem_cons, List.mem_nil_iff, or_false] at m
        rcases m with rfl | rfl | rfl
        · exact ldP_ext ((x3.trans (x4.trans (x5.trans x6))) _ _ hd1) fls stl fln fnd fs0 s0o ⟨_, .non⟩ (rowB_val (.inl rfl))
        · exact ldP_ext ((x4.trans (x5.trans x6)) _ _ hd2) fls stl fln fnd fs0 s0o ⟨_, .lst ((x4.trans (x5.trans x6)) _ _ h4) o4⟩ (rowB_val (.inl rfl))
        · exact ldP_ext ((x5.trans x6) _ _ hd3) fls stl fln fnd k5 ⟨_, .int 5⟩ sto (rowB_key (.inl rfl))
    rintro σ12 H12 ⟨wr2, ys2, rfl, x12, wro, hwr2, ysl2, ysb2⟩
    clear hwr ysl ysb x11 H11 wr ys
    have A12 := A10.p v1 (Ex.p x12) (A10.S.ex x12) (x12.tabs A10.tb)
    have hwd12 := x12 _ _ hwd10
    have xE : ExP p H H12 := xD.trans (Ex.p x12)
    clear A10 hwd10 xD x12 hls
    -- 13
    refine ⟨fun σ' H' => ∃ lead, σ' = [some (.ref p), some (.ref va), some (.str d.start), some (.ref dd), some (.ref de), some odd, some loose, some (.ref fl), some (.ref wd), some (.str s0), some (.ref ls), some (.ref wr2), some lead, none, none, none] ∧ ExP p H12 H' ∧ AmD T p va dd de d H' (n + 6) ∧ LdP K p H' d.vals true lead false, ?_, ?_⟩
    · refine ⟨.ref p, rfl, .ref wr2, rfl, p, wr2, n + 5, _, rfl, A12.S, by omega, wro, hwr2, (fun z => by rw [z] at ysl2; cases ysl2), by rw [ysl2]; decide, fun y H13 my x13 S13 => ⟨y, rfl, x13.p, A12.p v1 x13.p S13 (Tabs.exP x13 A12.S A12.tb), (ysb2 y my).p x13.p A12.S⟩⟩
    rintro σ13 H13 ⟨lead, rfl, x13, A13, ld⟩
    have hwd13 := x13.dk A12.S hwd12
    -- 14
    refine ⟨fun σ' H' => ∃ (key : V) (nk : NestedKey), σ' = [some (.ref p), some (.ref va), some (.str d.start), some (.ref dd), some (.ref de), some odd, some loose, some (.ref fl), some (.ref wd), some (.str s0), some (.ref ls), some (.ref wr2), some lead, some key, none, none] ∧ ExP p H13 H' ∧ AmD T p va dd de d H' (n + 7) ∧ KeyP H' nk key, ?_, ?_⟩
    · refine ⟨.ref p, rfl, s1, fun t1 nt1 => ⟨by show 6 ≤ sizeLine; decide, fun l1 nl1 => ?_⟩⟩
      have x1 := (Ex.new (o := .tup [.str "a"]) nt1).trans (Ex.new (o := .lst [.str "A", .str "", .non, .int 5, .str "abcdefghi", .ref t1]) nl1)
      have h1 : upd (upd H13 t1 (.tup [.str "a"])) l1 (.lst [.str "A", .str "", .non, .int 5, .str "abcdefghi", .ref t1]) t1 = some (.tup [.str "a"]) := (Ex.new nl1) _ _ upd_same
      have S1 := A13.S.ex x1
      refine ⟨p, l1, n + 6, _, rfl, S1, by omega, (A13.S.ex (Ex.new nt1)).off nl1, upd_same, (fun z => nomatch z), by show 6 ≤ 1000; decide, fun key H14 mk x14 S14 => ?_⟩
      have kp : ∃ nk, KeyP H14 nk key := by
        have h2 := x14.nl S1 h1 fun _ z => nomatch z
        simp only [List.mem_cons, List.mem_nil_iff, or_false] at mk
        rcases mk with rfl | rfl | rfl | rfl | rfl | rfl
        · exact ⟨_, .str _ (.inl rfl)⟩
        · exact ⟨_, .str _ (.inr (.inl rfl))⟩
        · exact ⟨_, .non⟩
        · exact ⟨_, .int⟩
        · exact ⟨_, .str _ (.inr (.inr rfl))⟩
        · exact ⟨_, .tup t1 h2⟩
      obtain ⟨nk, kp⟩ := kp
      have xx := x1.exA.trans x14
      exact ⟨key, nk, rfl, xx.p, A13.p v1 xx.p S14 (Tabs.exP xx A13.S A13.tb), kp⟩
    rintro σ14 Hc ⟨key, nk, rfl, x14, Ac, kp⟩
    have hwd := x14.dk A13.S hwd13
    have ld := ld.p x14 A13.S
    have xF : ExP p H Hc := (xE.trans x13).trans x14
    clear A12 A13 xE x13 x14 hwd12 hwd13 hwr2 ysb2
    have dyy : ∀ l ∈ d.deeds, NestedKey.text "yy" ≠ .text l.1 := fun l m z => by
      injection z with z
      exact absurd (nsub l.1 (by unfold ThD.names; exact List.mem_append_left _ (List.mem_map_of_mem m))) (by rw [← z]; decide +kernel)
    have eyy : ∀ l ∈ d.ents, NestedKey.text "yy" ≠ .text l.1 := fun l m z => by
      injection z with z
      exact absurd (nsub l.1 (by unfold ThD.names; exact List.mem_append_right _ (List.mem_map_of_mem m))) (by rw [← z]; decide +kernel)
    have dky : ∀ l ∈ d.deeds, nk ≠ .text l.1 := fun l m => kp.ne (ft.dok l m).1
    have eky : ∀ l ∈ d.ents, nk ≠ .text l.1 := fun l m => kp.ne (ft.eok l m).1
    have yk : NestedKey.text "yy" ≠ nk := fun z => kp.ne (x := "yy") (by decide +kernel) z.symm
    have dok : ∀ l ∈ d.deeds, okS l.1 = true ∧ l.1 ∉ ([] : List Str) ∧ LeadOk d.vals true l.2 := fun l m => ⟨(ft.dok l m).1, (fun z => nomatch z), (ft.dok l m).2⟩
    have kyy : ∀ {Hk : Hp}, ∃ T, Kd K Hk (.str "yy") T := ⟨_, str_kd (by decide +kernel)⟩
    have dl := ft.dln
    have el := ft.eln
    -- a thing of leads that are wrong: the deeds, or the entries
    have badD : ∀ {E : XK} {H1 H2 : Hp} {q : Addr} {kvs : List (Key × V)} {m1 m2 : NestedKey} {n1 n2 u1 u2 x0 : V} {r1 r2 : Bool} {m : Nat} {Qz : VK}, AmD T p va dd de d H1 m → PR H1 d.deeds kvs → Ex H1 H2 → NKey H2 m1 n1 → NKey H2 m2 n2 → (∃ T, Kd K H2 n1 T) → (∃ T, Kd K H2 n2 T) → LeadV K H2 d.vals true u1 r1 → LeadV K H2 d.vals true u2 r2 →
        ((kvs.map toRow ++ [(m1, n1, u1), (m2, n2, u2)]).map (·.1)).Nodup → H2 q = some (DO w q (kvs.map toRow ++ [(m1, n1, u1), (m2, n2, u2)])) → fwL [] [(n1, r1), (n2, r2)] = [x0] → Dq K H2 x0 → (∀ H3, ExA p H1 H3 → Pool H3 p m → Rz E H3 CD [("name", x0)]) →
        ∀ x dx, H2 x = none → H2 dx = none → dx ≠ x → spInitX K w C CV CS CD CE [.ref x, .ref va, .str d.start, .ref q, .int 5] (upd (upd H2 dx (.own x)) x (.ins C dx [])) (fun v H3 => v = .non ∧ Qz (.ref x) H3) E := fun A pr x2 k1 k2 t1 t2 l1 l2 nd hq e dq rz x dx nx ndx nex => by
      have xm := ex_make (C0 := C) nx ndx
      have x3 := x2.trans xm
      obtain ⟨dd0, sh, dp⟩ := dq
      exact ⟨x, dx, .ref va, .str d.start, .ref _, .int 5, rfl, upd_same, .inr ⟨va, d.vals, rfl, .inl (.inl (x3 _ _ A.hva)), ⟨ft.vne, ft.vok, ft.vnd, ft.vln⟩, .inr ⟨d.start, rfl, ft.st, .inl ⟨_, fwr_ext (bs := []) ft.vok (pr.ex x3) dok (k1.ex xm) (k2.ex xm) (t1.imp fun _ z => z.ex xm) (t2.imp fun _ z => z.ex xm) (l1.ex xm) (l2.ex xm) nd (xm _ _ hq) e, ⟨dd0, sh, fun H' y => dp H' (xm.exI.trans y)⟩, rz_make nx ndx (rz _ x2.exA (A.S.ex x2)) rfl⟩⟩⟩⟩
    have badE : ∀ {E : XK} {H1 H2 : Hp} {q : Addr} {kvs : List (Key × V)} {m1 m2 : NestedKey} {n1 n2 u1 u2 x0 : V} {r1 r2 : Bool} {m : Nat} {Qz : VK}, AmD T p va dd de d H1 m → PR H1 d.ents kvs → Ex H1 H2 → NKey H2 m1 n1 → NKey H2 m2 n2 → (∃ T, Kd K H2 n1 T) → (∃ T, Kd K H2 n2 T) → LeadV K H2 d.vals false u1 r1 → LeadV K H2 d.vals false u2 r2 →
        ((kvs.map toRow ++ [(m1, n1, u1), (m2, n2, u2)]).map (·.1)).Nodup → H2 q = some (DO w q (kvs.map toRow ++ [(m1, n1, u1), (m2, n2, u2)])) → fwL ((d.deeds.map (·.1)).map V.str) [(n1, r1), (n2, r2)] = [x0] → Dq K H2 x0 → (∀ H3, ExA p H1 H3 → Pool H3 p m → Rz E H3 CE [("name", x0)]) →
        ∀ x dx, H2 x = none → H2 dx = none → dx ≠ x → spInitX K w C CV CS CD CE [.ref x, .ref va, .str d.start, .ref dd, .ref q] (upd (upd H2 dx (.own x)) x (.ins C dx [])) (fun v H3 => v = .non ∧ Qz (.ref x) H3) E := fun A pr x2 k1 k2 t1 t2 l1 l2 nd hq e dq rz x dx nx ndx nex => by
      have xm := ex_make (C0 := C) nx ndx
      have x3 := x2.trans xm
      have dd2 := A.dds.ex x3
      obtain ⟨ks, hk, _, ek⟩ := dd_kv dd2
      obtain ⟨dd0, sh, dp⟩ := dq
      exact ⟨x, dx, .ref va, .str d.start, .ref dd, .ref _, rfl, upd_same, .inr ⟨va, d.vals, rfl, .inl (.inl (x3 _ _ A.hva)), ⟨ft.vne, ft.vok, ft.vnd, ft.vln⟩, .inr ⟨d.start, rfl, ft.st, .inr ⟨dd, ks, d.deeds.map (·.1), _, rfl, hk, ek, fwr_dd ft.vok dd2 ft.dnd dok, fwr_ext ft.vok (pr.ex x3) ft.eok (k1.ex xm) (k2.ex xm) (t1.imp fun _ z => z.ex xm) (t2.imp fun _ z => z.ex xm) (l1.ex xm) (l2.ex xm) nd (xm _ _ hq) e, ⟨dd0, sh, fun H' y => dp H' (xm.exI.trans y)⟩, rz_make nx ndx (rz _ x2.exA (A.S.ex x2)) rfl⟩⟩⟩⟩
    have wld : ∃ r, LdP K p Hc d.vals true (.ref wd) r := ⟨_, .inr ⟨wd, _, rfl, hwd, by rw [wld_len]; omega, wld_nd ft.vnd, wld_od vls stl, rfl⟩⟩
    obtain ⟨rw0, wl⟩ := wld
    -- 15
    refine ⟨fun σ' H' => ∃ fl, σ' = [some (.ref p), some (.ref va), some (.str d.start), some (.ref dd), some (.ref de), some odd, some loose, some (.ref fl), some (.ref wd), some (.str s0), some (.ref ls), some (.ref wr2), some lead, some key, none, none] ∧ FoP p T Hc H' fl [("deeds", .str "yy")] ∧ Pool H' p (n + 7), ?_, ?_⟩
    · refine lst_one (cons_one (lamM (m := n + 7) (v := .str "yy") Ac.S Ac.tb (.inr (.inr (.inl ⟨rfl, rfl, rfl⟩))) (fun E H1 Q' y1 t1 rz => ?_) fun q H1 y1 S1 t1 nq hq => ?_))
      · have A1 := Ac.p v1 (ExtN.p y1) (Ac.S.exN y1) t1
        have ld1 := (ld.p (ExtN.p y1) Ac.S).lead
        have wl1 := (wl.p (ExtN.p y1) Ac.S).lead
        have kp1 := kp.p (ExtN.p y1) Ac.S
        obtain ⟨kvs, hk, pr, _⟩ := dd_kv A1.dds
        have kl : kvs.length ≤ 1000 := by have := Paired.length pr; omega
        refine ⟨.ref va, rfl, .str d.start, rfl, cons_one ?_⟩
        show tExt K w 3 _ _ _ _ _
        refine ext_go (m1 := .text "yy") (m2 := nk) (n1 := .str "yy") (n2 := key) (W1 := fun v Hv => LeadV K Hv d.vals true v false) (W2 := fun v Hv => LeadV K Hv d.vals true v rw0) rfl hk kl (.str "yy") kp1.nkey (ext_nd pr ft.dnd dyy dky yk) (fun _ _ _ x h => h.ex x) (fun _ _ _ x h => h.ex x) (fun G Q2 x q => ⟨lead, rfl, q _ G Ex.refl (ld1.ex x)⟩) (fun G Q2 x q => ⟨key, rfl, .ref wd, rfl, q _ G Ex.refl (wl1.ex x)⟩) fun q H2 u1 u2 x2 nq hq w1 w2 => ?_
        exact badD A1 pr x2 (.str "yy") (kp1.ex x2).nkey kyy ((kp1.ex x2).kd) w1 w2 (ext_nd pr ft.dnd dyy dky yk) hq fw_no dq_yy rz
      · exact ⟨s1, fun fl nfl => ⟨fl, rfl, FoP.first (x := "deeds") S1 y1 t1 hq nfl, S1.new nfl⟩⟩
    rintro σ15 H15 ⟨fl2, rfl, F, S15⟩
    -- 16
    refine ⟨fun σ' H' => σ' = [some (.ref p), some (.ref va), some (.str d.start), some (.ref dd), some (.ref de), some odd, some loose, some (.ref fl2), some (.ref wd), some (.str s0), some (.ref ls), some (.ref wr2), some lead, some key, none, none] ∧ FoP p T Hc H' fl2 [("deeds", .str "yy"), ("deeds", key)] ∧ Pool H' p (n + 7), ?_, ?_⟩
    · obtain ⟨xs, hx, hxl⟩ := F.lst
      have A := Ac.p v1 F.ex S15 F.tabs
      refine ⟨.ref fl2, rfl, .inl ⟨rfl, xs, .inl (.inl hx)⟩, cons_one ?_⟩
      refine lamM (m := n + 7) (v := key) A.S F.tabs (.inr (.inr (.inl ⟨rfl, rfl, rfl⟩))) (fun E H1 Q' y1 t1 rz => ?_) fun q H1 y1 S1 t1 nq hq => ?_
      · have A1 := A.p v1 (ExtN.p y1) (A.S.exN y1) t1
        have wl1 := ((wl.p F.ex Ac.S).p (ExtN.p y1) A.S).lead
        have kp1 := (kp.p F.ex Ac.S).p (ExtN.p y1) A.S
        obtain ⟨kvs, hk, pr, _⟩ := dd_kv A1.dds
        have kl : kvs.length ≤ 1000 := by have := Paired.length pr; omega
        refine ⟨.ref va, rfl, .str d.start, rfl, cons_one ?_⟩
        show tExt K w 3 _ _ _ _ _
        refine ext_go (m1 := nk) (m2 := .text "yy") (n1 := key) (n2 := .str "yy") (W1 := fun v Hv => LeadV K Hv d.vals true v rw0) (W2 := fun v Hv => LeadV K Hv d.vals true v false) rfl hk kl kp1.nkey (.str "yy") (ext_nd pr ft.dnd dky dyy yk.symm) (fun _ _ _ x h => h.ex x) (fun _ _ _ x h => h.ex x) (fun G Q2 x q => ⟨key, rfl, .ref wd, rfl, q _ G Ex.refl (wl1.ex x)⟩) (fun G Q2 x q => q _ G Ex.refl (leadV_int 5)) fun q H2 u1 u2 x2 nq hq w1 w2 => ?_
        exact badD A1 pr x2 (kp1.ex x2).nkey (.str "yy") ((kp1.ex x2).kd) kyy w1 w2 (ext_nd pr ft.dnd dky dyy yk.symm) hq (fw_key kp.wd) (kp1.ex x2).dq rz
      · have hx1 := y1.lst hx F.off
        exact ⟨fl2, xs, .ref q, rfl, rfl, hx1, by rw [sizeLine_eq, hxl]; show 1 < _; decide, rfl, F.app (x := "deeds") A.S y1 t1 hq hx1, S1.put F.off⟩
    rintro σ16 H16 ⟨rfl, F16, S16⟩
    clear F S15 H15
    -- 17
    refine ⟨fun σ' H' => σ' = [some (.ref p), some (.ref va), some (.str d.start), some (.ref dd), some (.ref de), some odd, some loose, some (.ref fl2), some (.ref wd), some (.str s0), some (.ref ls), some (.ref wr2), some lead, some key, none, none] ∧ FoP p T Hc H' fl2 [("deeds", .str "yy"), ("deeds", key), ("entries", key)] ∧ Pool H' p (n + 7), ?_, ?_⟩
    · obtain ⟨xs, hx, hxl⟩ := F16.lst
      have A := Ac.p v1 F16.ex S16 F16.tabs
      refine ⟨.ref fl2, rfl, .inl ⟨rfl, xs, .inl (.inl hx)⟩, cons_one ?_⟩
      refine lamM (m := n + 7) (v := key) A.S F16.tabs (.inr (.inr (.inr ⟨rfl, rfl, rfl⟩))) (fun E H1 Q' y1 t1 rz => ?_) fun q H1 y1 S1 t1 nq hq => ?_
      · have A1 := A.p v1 (ExtN.p y1) (A.S.exN y1) t1
        have kp1 := (kp.p F16.ex Ac.S).p (ExtN.p y1) A.S
        obtain ⟨kvs, hk, pr, _⟩ := dd_kv A1.des
        have kl : kvs.length ≤ 1000 := by have := Paired.length pr; omega
        refine ⟨.ref va, rfl, .str d.start, rfl, .ref dd, rfl, cons_one ?_⟩
        show tExt K w 4 _ _ _ _ _
        refine ext_go (m1 := nk) (m2 := .text "yy") (n1 := key) (n2 := .str "yy") (W1 := fun v Hv => LeadV K Hv d.vals false v true) (W2 := fun v Hv => LeadV K Hv d.vals false v false) rfl hk kl kp1.nkey (.str "yy") (ext_nd pr ft.end_ eky eyy yk.symm) (fun _ _ _ x h => h.ex x) (fun _ _ _ x h => h.ex x) (fun G Q2 x q => ⟨key, rfl, fun a na => q _ _ (Ex.new na) (leadV_nil upd_same)⟩) (fun G Q2 x q => q _ G Ex.refl (leadV_int 5)) fun q H2 u1 u2 x2 nq hq w1 w2 => ?_
        exact badE A1 pr x2 (kp1.ex x2).nkey (.str "yy") ((kp1.ex x2).kd) kyy w1 w2 (ext_nd pr ft.end_ eky eyy yk.symm) hq (fw_key kp.wd) (kp1.ex x2).dq rz
      · have hx1 := y1.lst hx F16.off
        exact ⟨fl2, xs, .ref q, rfl, rfl, hx1, by rw [sizeLine_eq, hxl]; show 2 < _; decide, rfl, F16.app (x := "entries") A.S y1 t1 hq hx1, S1.put F16.off⟩
    rintro σ17 H17 ⟨rfl, F17, S17⟩
    clear F16 S16 H16 ld
    have A17 := Ac.p v1 F17.ex S17 F17.tabs
    -- 18
    refine ⟨fun σ' H' => ∃ lead2, σ' = [some (.ref p), some (.ref va), some (.str d.start), some (.ref dd), some (.ref de), some odd, some loose, some (.ref fl2), some (.ref wd), some (.str s0), some (.ref ls), some (.ref wr2), some lead2, some key, none, none] ∧ ExA p H17 H' ∧ Pool H' p (n + 8) ∧ LdP K p H' d.vals false lead2 false, ?_, ?_⟩
    · refine ⟨.ref p, rfl, Nat.zero_le _, fun e1 ne1 => fun d1 nd1 => ⟨.str d.start, rfl, upd_same, [(.inr "zz", .str d.start)], rfl, by show 1 ≤ 15; decide, ?_⟩⟩
      have x1 := Ex.new (o := .lst []) ne1
      have h1 : upd H17 e1 (.lst []) e1 = some (.lst []) := upd_same
      have o1 := A17.S.off ne1
      generalize upd H17 e1 (.lst []) = G1 at x1 h1 nd1 ⊢
      have x2 := one_new (u := .dK []) (o := .dK (mergeK [] [(.inr "zz", .str d.start)])) nd1
      have h2 : upd (upd G1 d1 (.dK [])) d1 (.dK (mergeK [] [(.inr "zz", .str d.start)])) d1 = some (.dK [(.inr "zz", .str d.start)]) := upd_same
      generalize upd (upd G1 d1 (.dK [])) d1 (.dK (mergeK [] [(.inr "zz", .str d.start)])) = G2 at x2 h2 ⊢
      refine fun d2 nd2 => ⟨.str d.start, rfl, upd_same, [(.inr d.start, .str "zz")], rfl, by show 1 ≤ 15; decide, ?_⟩
      have x3 := one_new (u := .dK []) (o := .dK (mergeK [] [(.inr d.start, .str "zz")])) nd2
      have h3 : upd (upd G2 d2 (.dK [])) d2 (.dK (mergeK [] [(.inr d.start, .str "zz")])) d2 = some (.dK [(.inr d.start, .str "zz")]) := upd_same
      generalize upd (upd G2 d2 (.dK [])) d2 (.dK (mergeK [] [(.inr d.start, .str "zz")])) = G3 at x3 h3 ⊢
      refine fun d3 nd3 => ⟨.str d.start, rfl, upd_same, [(.inr d.start, .non)], rfl, by show 1 ≤ 15; decide, ?_⟩
      have x4 := one_new (u := .dK []) (o := .dK (mergeK [] [(.inr d.start, .non)])) nd3
      have h4 : upd (upd G3 d3 (.dK [])) d3 (.dK (mergeK [] [(.inr d.start, .non)])) d3 = some (.dK [(.inr d.start, .non)]) := upd_same
      generalize upd (upd G3 d3 (.dK [])) d3 (.dK (mergeK [] [(.inr d.start, .non)])) = G4 at x4 h4 ⊢
      refine fun d4 nd4 => ⟨.str d.start, rfl, upd_same, [(.inl 5, .str d.start)], rfl, by show 1 ≤ 15; decide, ?_⟩
      have x5 := one_new (u := .dK []) (o := .dK (mergeK [] [(.inl 5, .str d.start)])) nd4
      have h5 : upd (upd G4 d4 (.dK [])) d4 (.dK (mergeK [] [(.inl 5, .str d.start)])) d4 = some (.dK [(.inl 5, .str d.start)]) := upd_same
      generalize upd (upd G4 d4 (.dK [])) d4 (.dK (mergeK [] [(.inl 5, .str d.start)])) = G5 at x5 h5 ⊢
      refine ⟨by show 7 ≤ sizeLine; decide, fun l1 nl1 => ?_⟩
      have x6 := Ex.new (o := .lst [V.non, .int 5, .ref e1, .ref d1, .ref d2, .ref d3, .ref d4]) nl1
      have xx := x1.trans (x2.trans (x3.trans (x4.trans (x5.trans x6))))
      have S6 := A17.S.ex xx
      refine ⟨p, l1, n + 7, _, rfl, S6, by omega, (A17.S.ex (x1.trans (x2.trans (x3.trans (x4.trans x5))))).off nl1, upd_same, (fun z => nomatch z), by show 7 ≤ 1000; decide, fun y H18 my x18 S18 => ⟨y, rfl, xx.exA.trans x18, S18, LdP.p x18.p S6 ?_⟩⟩
      simp only [List.mem_cons, List.mem_nil_iff, or_false] at my
      rcases my with rfl | rfl | rfl | rfl | rfl | rfl | rfl
      · exact .inl ⟨_, .non, by decide, rfl⟩
      · exact .inl ⟨_, .int 5, by decide, rfl⟩
      · exact .inl ⟨_, .lst ((x2.trans (x3.trans (x4.trans (x5.trans x6)))) _ _ h1) o1, by decide, rfl⟩
      · exact ldP_one ((x3.trans (x4.trans (x5.trans x6))) _ _ h2) zzo sto (rowB_key (.inr (zz_no vsub)))
      · exact ldP_one ((x4.trans (x5.trans x6)) _ _ h3) sto zzo (rowB_val (.inr (zz_no vsub)))
      · exact ldP_one ((x5.trans x6) _ _ h4) sto ⟨_, .non⟩ (rowB_val (.inl rfl))
      · exact ldP_one (x6 _ _ h5) ⟨_, .int 5⟩ sto (rowB_key (.inl rfl))
    rintro σ18 H18 ⟨lead2, rfl, x18, S18, ld2⟩
    have tb18 := Tabs.exP x18 S17 F17.tabs
    have F18 : FoP p T Hc H18 fl2 [("deeds", .str "yy"), ("deeds", key), ("entries", key)] := by
      obtain ⟨qs, hf, prs⟩ := F17.all
      exact ⟨F17.ex.trans x18.p, F17.new, F17.off, tb18, qs, x18 _ _ F17.off hf, Paired.mapP prs fun _ _ e => x18.nl S17 e fun _ z => nomatch z⟩
    clear F17 S17 A17 x18
    -- 19
    refine ⟨fun σ' H' => σ' = [some (.ref p), some (.ref va), some (.str d.start), some (.ref dd), some (.ref de), some odd, some loose, some (.ref fl2), some (.ref wd), some (.str s0), some (.ref ls), some (.ref wr2), some lead2, some key, none, none] ∧ FoP p T Hc H' fl2 [("deeds", .str "yy"), ("deeds", key), ("entries", key), ("entries", .str "yy")] ∧ Pool H' p (n + 8), ?_, ?_⟩
    · obtain ⟨xs, hx, hxl⟩ := F18.lst
      have A := Ac.p v1 F18.ex S18 F18.tabs
      refine ⟨.ref fl2, rfl, .inl ⟨rfl, xs, .inl (.inl hx)⟩, cons_one ?_⟩
      refine lamM (m := n + 8) (v := .str "yy") A.S F18.tabs (.inr (.inr (.inr ⟨rfl, rfl, rfl⟩))) (fun E H1 Q' y1 t1 rz => ?_) fun q H1 y1 S1 t1 nq hq => ?_
      · have A1 := A.p v1 (ExtN.p y1) (A.S.exN y1) t1
        have ld1 := (ld2.p (ExtN.p y1) A.S).lead
        have kp1 := (kp.p F18.ex Ac.S).p (ExtN.p y1) A.S
        obtain ⟨kvs, hk, pr, _⟩ := dd_kv A1.des
        have kl : kvs.length ≤ 1000 := by have := Paired.length pr; omega
        refine ⟨.ref va, rfl, .str d.start, rfl, .ref dd, rfl, cons_one ?_⟩
        show tExt K w 4 _ _ _ _ _
        refine ext_go (m1 := .text "yy") (m2 := nk) (n1 := .str "yy") (n2 := key) (W1 := fun v Hv => LeadV K Hv d.vals false v false) (W2 := fun v Hv => LeadV K Hv d.vals false v true) rfl hk kl (.str "yy") kp1.nkey (ext_nd pr ft.end_ eyy eky yk) (fun _ _ _ x h => h.ex x) (fun _ _ _ x h => h.ex x) (fun G Q2 x q => ⟨lead2, rfl, q _ G Ex.refl (ld1.ex x)⟩) (fun G Q2 x q => ⟨key, rfl, fun a na => q _ _ (Ex.new na) (leadV_nil upd_same)⟩) fun q H2 u1 u2 x2 nq hq w1 w2 => ?_
        exact badE A1 pr x2 (.str "yy") (kp1.ex x2).nkey kyy ((kp1.ex x2).kd) w1 w2 (ext_nd pr ft.end_ eyy eky yk) hq fw_no dq_yy rz
      · have hx1 := y1.lst hx F18.off
        exact ⟨fl2, xs, .ref q, rfl, rfl, hx1, by rw [sizeLine_eq, hxl]; show 3 < _; decide, rfl, F18.app (x := "entries") A.S y1 t1 hq hx1, S1.put F18.off⟩
    rintro σ19 H19 ⟨rfl, F19, S19⟩
    clear F18 S18 tb18 H18 ld2
    obtain ⟨ps, hf, prs⟩ := F19.all
    have A19 := Ac.p v1 F19.ex S19 F19.tabs
    have kp19 := kp.p F19.ex Ac.S
    -- 20
    refine ⟨fun σ' H' => σ' = [some (.ref p), some (.ref va), some (.str d.start), some (.ref dd), some (.ref de), some odd, some loose, some (.ref fl2), some (.ref wd), some (.str s0), some (.ref ls), some (.ref wr2), some lead2, some key, none, none] ∧ Ex H19 H', ?_, ?_⟩
    · refine ⟨.ref fl2, rfl, s2, fun i1 ni1 => ⟨key, rfl, s2, fun i2 ni2 => ⟨key, rfl, s2, fun i3 ni3 => ⟨s2, fun i4 ni4 => ⟨by show 4 ≤ sizeLine; decide, fun r nr => ?_⟩⟩⟩⟩⟩
      have z1 := Ex.new (o := .tup [.str "deeds", .str "yy"]) ni1
      have z2 := Ex.new (o := .tup [.str "deeds", key]) ni2
      have z3 := Ex.new (o := .tup [.str "entries", key]) ni3
      have z4 := Ex.new (o := .tup [.str "entries", .str "yy"]) ni4
      have z6 := Ex.new (o := .lst [.ref i1, .ref i2, .ref i3, .ref i4]) nr
      have zz := z1.trans (z2.trans (z3.trans (z4.trans z6)))
      refine ⟨fl2, r, _, _, 2, by decide, rfl, rfl, .inl (.inl (zz _ _ hf)), .inl (.inl upd_same), found_eqT (qs := [i1, i2, i3, i4]) (Paired.mapP prs fun _ _ e => zz _ _ e) (.cons ((z2.trans (z3.trans (z4.trans z6))) _ _ upd_same) (.cons ((z3.trans (z4.trans z6)) _ _ upd_same) (.cons ((z4.trans z6) _ _ upd_same) (.cons (z6 _ _ upd_same) .nil)))) (fun it m => ?_), false, rfl, rfl, zz⟩
      simp only [List.mem_cons, List.mem_nil_iff, or_false] at m
      rcases m with rfl | rfl | rfl | rfl
      · exact .inl rfl
      · exact kp.sf
      · exact kp.sf
      · exact .inl rfl
    rintro σ20 H20 ⟨rfl, x20⟩
    have A20 := A19.p v1 (Ex.p x20) (S19.ex x20) (x20.tabs F19.tabs)
    have kp20 := kp19.ex x20
    have xG : ExP p H H20 := (xF.trans F19.ex).trans (Ex.p x20)
    clear A19 kp19 prs hf ps F19 S19 x20 Ac kp hwd wl xF
    -- 21
    refine ⟨fun σ' H' => σ' = [some (.ref p), some (.ref va), some (.str d.start), some (.ref dd), some (.ref de), some odd, some loose, some (.ref fl2), some (.ref wd), some (.str s0), some (.ref ls), some (.ref wr2), some lead2, some key, none, none] ∧ Ex H20 H' ∧ d.deeds ≠ [], ?_, ?_⟩
    · obtain ⟨ks, hk, pr, _⟩ := dd_kv A20.dds
      have kl : ks.length = d.deeds.length := (Paired.length pr).symm
      refine ⟨.ref dd, rfl, fun e ne => ?_⟩
      have x21 := Ex.new (o := .dK []) ne
      by_cases z : d.deeds = []
      · have kn : ks = [] := List.length_eq_zero_iff.mp (by rw [kl, z]; rfl)
        subst kn
        exact .inl ⟨2, by decide, .inr ⟨dd, e, [], [], rfl, rfl, x21 _ _ hk, upd_same, rfl, fun _ m => nomatch m⟩, true, rfl, hQ _ (n + 8) (by omega) (xG.trans (Ex.p x21)) (A20.S.ex x21) (x21.tabs A20.tb)⟩
      · exact .inr ⟨dd, e, ks, [], rfl, rfl, x21 _ _ hk, upd_same, (fun q => z (List.length_eq_zero_iff.mp (by rw [← kl, q]; rfl))), false, rfl, rfl, x21, z⟩
    rintro σ21 H21 ⟨rfl, x21, dne⟩
    have A21 := A20.p v1 (Ex.p x21) (A20.S.ex x21) (x21.tabs A20.tb)
    have kp21 := kp20.ex x21
    have xH := xG.trans (Ex.p x21)
    -- 22
    refine ⟨fun σ' H' => ∃ nm : Str, σ' = [some (.ref p), some (.ref va), some (.str d.start), some (.ref dd), some (.ref de), some odd, some loose, some (.ref fl2), some (.ref wd), some (.str s0), some (.ref ls), some (.ref wr2), some lead2, some key, some (.str nm), none] ∧ nm ∈ d.deeds.map (·.1) ∧ ExA p H21 H' ∧ Pool H' p (n + 9), ?_, ?_⟩
    · obtain ⟨ks, hk, pr, ek⟩ := dd_kv A21.dds
      have kl : ks.length = d.deeds.length := (Paired.length pr).symm
      refine ⟨.ref p, rfl, .ref dd, rfl, dd, ks, rfl, .inl hk, fun q nq => ?_⟩
      rw [ek]
      have x22 := Ex.new (o := .lst ((d.deeds.map (·.1)).map V.str)) nq
      refine ⟨p, q, n + 8, _, rfl, A21.S.ex x22, by omega, A21.S.off nq, upd_same, (fun z => dne (List.map_eq_nil_iff.mp (List.map_eq_nil_iff.mp z))), by rw [List.length_map, List.length_map]; omega, fun y H22 my x23 S22 => ?_⟩
      obtain ⟨nm, mn, rfl⟩ := List.mem_map.mp my
      exact ⟨nm, rfl, mn, x22.exA.trans x23, S22⟩
    rintro σ22 H22 ⟨nm, rfl, mn, x22, S22⟩
    have tb22 := Tabs.exP x22 A21.S A21.tb
    have A22 := A21.p v1 x22.p S22 tb22
    have kp22 := kp21.p x22.p A21.S
    have xI := xH.trans x22.p
    obtain ⟨ln, mln, eln⟩ := List.mem_map.mp mn
    have onm : okS nm = true := eln ▸ (ft.dok ln mln).1
    have nnm : nm ∈ nmN := nsub nm (by unfold ThD.names; exact List.mem_append_left _ mn)
    have nme : ∀ l ∈ d.ents, NestedKey.text nm ≠ .text l.1 := fun l m z => by
      injection z with z
      exact (ft.eok l m).2.1 (z ▸ mn)
    have nmk : NestedKey.text nm ≠ nk := fun z => kp22.ne onm z.symm
    have knm : ∀ {Hk : Hp}, ∃ T, Kd K Hk (.str nm) T := ⟨_, str_kd (by have := okS_len onm; omega)⟩
    -- 23
    refine op_one (lamM (m := n + 9) (v := .str nm) A22.S tb22 (.inr (.inr (.inr ⟨rfl, rfl, rfl⟩))) (fun E H1 Q' y1 t1 rz => ?_) fun q H1 y1 S1 t1 nq hq => ?_)
    · have A1 := A22.p v1 (ExtN.p y1) (A22.S.exN y1) t1
      have kp1 := kp22.p (ExtN.p y1) A22.S
      obtain ⟨kvs, hk, pr, _⟩ := dd_kv A1.des
      have kl : kvs.length ≤ 1000 := by have := Paired.length pr; omega
      refine ⟨.ref va, rfl, .str d.start, rfl, .ref dd, rfl, cons_one ?_⟩
      show tExt K w 4 _ _ _ _ _
      refine ext_go (m1 := .text nm) (m2 := nk) (n1 := .str nm) (n2 := key) (W1 := fun v Hv => LeadV K Hv d.vals false v true) (W2 := fun v Hv => LeadV K Hv d.vals false v true) rfl hk kl (.str nm) kp1.nkey (ext_nd pr ft.end_ nme eky nmk) (fun _ _ _ x h => h.ex x) (fun _ _ _ x h => h.ex x) (fun G Q2 x q => ⟨.str nm, rfl, fun a na => q _ _ (Ex.new na) (leadV_nil upd_same)⟩) (fun G Q2 x q => ⟨key, rfl, fun a na => q _ _ (Ex.new na) (leadV_nil upd_same)⟩) fun q H2 u1 u2 x2 nq hq w1 w2 => ?_
      exact badE A1 pr x2 (.str nm) (kp1.ex x2).nkey knm ((kp1.ex x2).kd) w1 w2 (ext_nd pr ft.end_ nme eky nmk) hq (fw_bar (by rw [inV_strs]; exact decide_eq_true mn)) (dq_nm nnm) rz
    · refine ⟨.str nm, rfl, s2, fun tp ntp => ?_⟩
      have x23 := Ex.new (o := .tup [.str "entries", .str nm]) ntp
      exact ⟨q, tp, _, _, 2, by decide, rfl, rfl, .inl (.inl (x23 _ _ hq)), .inl (.inl upd_same), .cons (eqT_self (.inl rfl)) (.cons (eqT_self (.inl rfl)) .nil), hQ _ (n + 9) (by omega) (xI.trans (y1.trans (Ex.p x23))) (S1.ex x23) (x23.tabs t1)⟩
end
end TH

/-! B15: pieces of the law: copies of leads, rows of a thing's leads -/
namespace TH
open PySem PySem.Spec PyProof.Rows L2 LamV LamX XK0
open C8 (pss_cut tCut Met pe_mt0)
open OD OQ
def tLk (t : TE) : TE := fun σ H Q => t σ H fun x H1 => ∃ d u, x = .ref d ∧ H1 d = some u ∧ Mut (some u) ∧ ∀ od, Q x (upd H1 d (.frz od u))
theorem pe_lk {X : Cx} {e : Expr} {t : TE} (h : PE X e t) : PE X e (tLk t) := by
  refine ⟨fun pins s σ H Q I hw => ?_⟩
  refine thn (h.run pins s σ H _ I hw) fun v s1 ⟨x, H1, I1, r, d, u, ex, hd, mu, q⟩ => ?_
  obtain ⟨od, I2⟩ := I1.lock hd mu
  exact ⟨x, _, I2, r, q od⟩
theorem paired_unmap {α β γ : Type} {R : α → γ → Prop} {f : β → γ} : ∀ {xs : List α} {ys : List β}, Paired R xs (ys.map f) → Paired (fun a b => R a (f b)) xs ys
  | [], [], _ => .nil
  | _ :: _, _ :: _, .cons h t => .cons h (paired_unmap t)
/-- the inner dicts are others than the outer one -/
theorem dd_ne {H : Hp} {a : Addr} {ls : Lds} {kvs : List (Key × V)} (ha : H a = some (.dK kvs)) {i : Nat} {k : Key} {b : Addr} {l : Ld} (e : kvs[i]? = some (k, .ref b)) (hb : H b = some (.dK (ldV l))) : b ≠ a := fun z => by
  rw [z, ha] at hb
  have e4 := HO.dK.inj (Option.some.inj hb)
  have m := List.mem_of_getElem? e
  rw [e4] at m
  unfold ldV at m
  obtain ⟨q, _, eq⟩ := List.mem_map.mp m
  have := congrArg Prod.snd eq
  cases this
/-- dict([(name, dict(leads[name])) for name in leads]) -/
def tCpd (K : PySem.W.Frag) (i : Nat) : TE := tCB (rDictP K) (tCons (tLockE (tLc (iKeys (tVar i)) (gName 16) tYes (tTup (tCons (tVar 16) (tCons (tCB rDictC (tCons (tDGet (tVar i) (tVar 16)) tNil)) tNil))) [16])) tNil)
theorem cpd_go {K : PySem.W.Frag} {σ : L2.St} {H : Hp} {Q : VK} {i : Nat} {a : Addr} {ls : Lds} (len : σ.length = 18) (hi : i < 16) (s : σ[i]? = some (some (.ref a))) (hd : DD H a ls) (nd : (ls.map (·.1)).Nodup) (ln : ls.length ≤ 1000)
    (hQ : ∀ q H', Ex H H' → DF H H' q ls → Q (.ref q) H') : tCpd K i σ H Q := by
  obtain ⟨kvs, ha, pr⟩ := hd
  have pr : PR H ls kvs := pr
  have knd : (kvs.map (·.1)).Nodup := by rw [pr.keys]; exact nd_inr nd
  have lk : kvs.length = ls.length := (Paired.length pr).symm
  refine ⟨a, _, ha, trivial, fun od => ?_⟩
  refine ⟨.ref a, s, a, od, rfl, .inl ⟨kvs, upd_same, fun D nD => ?_⟩⟩
  have nDa : D ≠ a := fun z => by rw [z, upd_same] at nD; cases nD
  have nDH : H D = none := by rw [← nD]; exact (upd_ne nDa).symm
  have fr : ∀ {H' : Hp} {b : Addr}, Ex (upd H a (.frz od (.dK kvs))) H' → H' b = none → H b = none := fun {H' b} x n => by
    cases q : H b with
    | none => rfl
    | some o =>
      by_cases z : b = a
      · rw [z, x _ _ upd_same] at n; cases n
      · rw [x _ _ ((upd_ne z).trans q)] at n; cases n
  refine lc_it walk_keys (fun n H2 => Ex (upd H a (.frz od (.dK kvs))) H2 ∧ ∃ (ps : List Addr) (ks : List (Key × V)), H2 D = some (.lst (ps.map V.ref)) ∧ ps.length ≤ n ∧ Paired (fun p (kv : Key × V) => H2 p = some (.tup [kV kv.1, kv.2])) ps ks ∧ Paired (fun (l : Str × Ld) (kv : Key × V) => kv.1 = Sum.inr l.1 ∧ ∃ b, kv.2 = .ref b ∧ H b = none ∧ H2 b = some (.dK (ldV l.2))) (ls.take n) ks) ⟨Ex.new nD, [], [], upd_same, Nat.le_refl _, .nil, .nil⟩ (fun i H2 _ h => h.1 _ _ upd_same) (fun n v H2 H3 hn h y => ?_) fun H2 h => ?_
  · obtain ⟨x2, ps, ks, hD, pl, p1, p2⟩ := h
    obtain ⟨rfl, k, v2, ek, rfl⟩ := y
    obtain ⟨l, el, r1, b, r2, r3⟩ := paired_get pr ek
    have r1 : k = Sum.inr l.1 := r1
    have r2 : v2 = .ref b := r2
    subst r1 r2
    have a3 : (((wipe σ [16]).set 16 (some (V.str l.1))))[16]? = some (some (V.str l.1)) := List.getElem?_set_self (by rw [wipe_length, len]; decide)
    have up : ∀ j, j ≠ 16 → (((wipe σ [16]).set 16 (some (V.str l.1))))[j]? = σ[j]? := fun j hj => by
      rw [List.getElem?_set_ne hj.symm]
      exact List.getElem?_set_ne hj.symm
    have vv : valV kvs (Sum.inr l.1) = some (.ref b) := valV_mem knd (List.mem_of_getElem? ek)
    have g1 : DGet H3 a (.str l.1) (some (.ref b)) := .inl ⟨kvs, Sum.inr l.1, .inr ⟨od, x2 _ _ upd_same⟩, rfl, vv.symm⟩
    refine ⟨?_, .str l.1, a3, .ref a, (up i (by omega)).trans s, .str l.1, a3, a, .ref b, rfl, g1, b, ldV l.2, rfl, rd_lock ha x2 r3, fun q nq => ⟨by show 2 ≤ sizeLine; decide, fun t nt => ?_⟩⟩
    · show ((σ.set 16 none).set 16 (some (V.str l.1))).set 16 none = σ.set 16 none
      rw [List.set_set, List.set_set]
    have xq := Ex.new (o := .dK (ldV l.2)) nq
    have hq : upd H3 q (.dK (ldV l.2)) q = some (.dK (ldV l.2)) := upd_same
    have xt := Ex.new (o := .tup [.str l.1, .ref q]) nt
    have ht : upd (upd H3 q (.dK (ldV l.2))) t (.tup [.str l.1, .ref q]) t = some (.tup [.str l.1, .ref q]) := upd_same
    have tD : t ≠ D := fun z => by rw [z, xq _ _ hD] at nt; cases nt
    have qD : q ≠ D := fun z => by rw [z, hD] at nq; cases nq
    have hq2 := xt _ _ hq
    have x4 := xq.trans xt
    have hfr := fr x2 nq
    generalize upd (upd H3 q (.dK (ldV l.2))) t (.tup [.str l.1, .ref q]) = H4 at ht hq2 x4 ⊢
    refine ⟨ps.map V.ref, x4 _ _ hD, by rw [sizeLine_eq, List.length_map]; omega, fun c o e => (upd_ne fun z => by rw [z, nD] at e; cases e).trans (x4 _ _ (x2 _ _ e)), ps ++ [t], ks ++ [(Sum.inr l.1, .ref q)], by rw [upd_same, List.map_append]; rfl, by rw [List.length_append]; show _ + 1 ≤ _; omega, ?_, ?_⟩
    · exact paired_app (Paired.mapP p1 fun c _ z => (upd_ne fun e => by rw [e, hD] at z; cases z).trans (x4 _ _ z)) ((upd_ne tD).trans ht)
    · rw [List.take_add_one, el]
      exact paired_app (Paired.mapP p2 fun _ _ ⟨q1, b', q2, q4, q3⟩ => ⟨q1, b', q2, q4, (upd_ne fun e => by rw [e, hD] at q3; cases q3).trans (x4 _ _ q3)⟩) ⟨rfl, q, rfl, hfr, (upd_ne qD).trans hq2⟩
  · obtain ⟨x2, ps, ks, hD, pl, p1, p2⟩ := h
    rw [lk, List.take_length] at p2
    have ef := x2 _ _ upd_same
    refine ⟨ef, ?_⟩
    have x3 := Ex.unlock ha x2
    have nk : ∀ {b : Addr} {o : HO}, H2 b = some o → (∀ od u, o ≠ .frz od u) → upd H2 a (.dK kvs) b = some o := fun {b o} e n => (upd_ne fun z => by rw [z, ef] at e; cases e; exact n _ _ rfl).trans e
    refine ⟨D, ps, ks, rfl, .inl (.inl (nk hD fun _ _ z => nomatch z)), Paired.mapP p1 fun p kv e => .inl (.inl (nk e fun _ _ z => nomatch z)), fun q nq => ?_⟩
    have ekeys : ks.map (·.1) = (ls.map (·.1)).map Sum.inr := PR.keys (H := H2) (Paired.mapP p2 fun _ _ ⟨q1, b', q2, _, q3⟩ => ⟨q1, b', q2, q3⟩)
    have nd2 : (ks.map (·.1)).Nodup := by rw [ekeys]; exact nd_inr nd
    rw [merge_nd ks [] nd2, List.nil_append]
    have x4 := Ex.new (o := .dK ks) nq
    exact hQ q _ (x3.trans x4) ⟨x3.none nq, ks, upd_same, Paired.mapP p2 fun _ _ ⟨q1, b', q2, q4, q3⟩ => ⟨q1, b', q2, q4, x4 _ _ (nk q3 fun _ _ z => nomatch z)⟩⟩
/-- [(name, list(lead.items())) for name, lead in ...items()] -/
def tRows (K : PySem.W.Frag) (tf : TE) : TE := tLc (iItems (tLk tf)) (gTup K 2 (gCons (gName 16) (gCons (gName 12) gNil))) tYes (tTup (tCons (tVar 16) (tCons (LiI.tListItems (tVar 12)) tNil))) [16, 12]
theorem rows_go {K : PySem.W.Frag} {tf : TE} {H : Hp} {Q : VK} {ls : Lds} {o0 o1 o2 o3 o4 o5 o6 o7 o8 o9 o10 o11 o12 o13 o14 o15 o16 o17 : Option V} (ln : ls.length ≤ 1000) (li : ∀ l ∈ ls, l.2.length ≤ 1000)
    (htf : ∀ Q' : VK, (∀ p H', Ex H H' → DF H H' p ls → Q' (.ref p) H') → tf [o0, o1, o2, o3, o4, o5, o6, o7, o8, o9, o10, o11, o12, o13, o14, o15, o16, o17] H Q')
    (hQ : ∀ D H', Ex H H' → H D = none → RowsAt H' D ls → Q (.ref D) H') : tRows K tf [o0, o1, o2, o3, o4, o5, o6, o7, o8, o9, o10, o11, o12, o13, o14, o15, o16, o17] H Q := by
  refine htf _ fun a H1 x1 ⟨na, kvs, ha, pr⟩ => ⟨a, _, rfl, ha, trivial, fun od => ?_⟩
  refine ⟨a, od, kvs, rfl, upd_same, fun D nD => ?_⟩
  have lk : kvs.length = ls.length := (Paired.length pr).symm
  have nDa : D ≠ a := fun z => by rw [z, upd_same] at nD; cases nD
  have xl : Ex H (upd H1 a (.frz od (.dK kvs))) := fun b o e => (upd_ne fun z => by rw [z, na] at e; cases e).trans (x1 _ _ e)
  have nDH : H D = none := xl.none nD
  have inn : ∀ {i : Nat} {k : Key} {b : Addr} {l : Ld}, kvs[i]? = some (k, .ref b) → H1 b = some (.dK (ldV l)) → upd H1 a (.frz od (.dK kvs)) b = some (.dK (ldV l)) := fun e h => (upd_ne (dd_ne (ls := ls) ha e h)).trans h
  refine lc_it walk_items (fun n H2 => Ex (upd H1 a (.frz od (.dK kvs))) H2 ∧ ∃ ps : List Addr, H2 D = some (.lst (ps.map V.ref)) ∧ ps.length ≤ n ∧ Paired (fun p (nl : Str × Ld) => ∃ lp, lp ≠ D ∧ H2 p = some (.tup [.str nl.1, .ref lp]) ∧ PairsAt H2 lp nl.2) ps (ls.take n)) ⟨Ex.new nD, [], upd_same, Nat.le_refl _, .nil⟩ (fun i H2 _ h => h.1 _ _ upd_same) (fun n v H2 H3 hn h y => ?_) fun H2 h => ?_
  · obtain ⟨x2, ps, hD, pl, p1⟩ := h
    obtain ⟨T, x, z, rfl, nT, rfl, ex, ez⟩ := y
    obtain ⟨⟨k, v⟩, ek⟩ : ∃ q, kvs[n]? = some q := ⟨kvs[n], List.getElem?_eq_getElem hn⟩
    dsimp only at ex ez
    rw [ek] at ex ez
    cases ex
    cases ez
    obtain ⟨l, el, r1, b, r2, r4, r3⟩ := paired_get pr ek
    have r1 : k = Sum.inr l.1 := r1
    have r2 : v = .ref b := r2
    subst r1 r2
    have xT : Ex H2 (upd H2 T (.tup [.str l.1, .ref b])) := Ex.new nT
    have hT : upd H2 T (.tup [.str l.1, .ref b]) T = some (.tup [.str l.1, .ref b]) := upd_same
    have hb := (x2.trans xT) _ _ (inn ek r3)
    have hDT := xT _ _ hD
    have xTT := x2.trans xT
    generalize eHT : upd H2 T (.tup [.str l.1, .ref b]) = HT at xT hT hb hDT xTT
    refine ⟨T, _, rfl, .inl (.inl upd_same), rfl, .str l.1, [.ref b], rfl, .ref b, [], rfl, rfl, rfl, .str l.1, rfl, .ref b, rfl, ?_⟩
    show LiI.rItemsL (.ref b) (upd H2 T (.tup [.str l.1, .ref b])) _
    rw [eHT]
    refine ⟨b, ldV l.2, rfl, hb, fun H4 lp ts x4 nlp nts nl hlp pts => ⟨by show 2 ≤ sizeLine; decide, fun t nt => ?_⟩⟩
    have x4 : Ex HT H4 := x4
    have xt := Ex.new (o := .tup [.str l.1, .ref lp]) nt
    have ht : upd H4 t (.tup [.str l.1, .ref lp]) t = some (.tup [.str l.1, .ref lp]) := upd_same
    have hD4 := xt _ _ (x4 _ _ hDT)
    have tD : t ≠ D := fun z => by rw [z, x4 _ _ hDT] at nt; cases nt
    have lD : lp ≠ D := fun z => by rw [z, hDT] at nlp; cases nlp
    have pa : PairsAt (upd H4 t (.tup [.str l.1, .ref lp])) lp l.2 := ⟨ts, xt _ _ hlp, Paired.mapP (paired_unmap (show Paired _ ts (l.2.map fun p => ((Sum.inr p.1 : Key), V.str p.2)) from pts)) fun _ _ e => xt _ _ e⟩
    have xa := xT.trans (x4.trans xt)
    have x5 := x2.trans xa
    generalize upd H4 t (.tup [.str l.1, .ref lp]) = H5 at ht hD4 pa xa x5 ⊢
    refine ⟨ps.map V.ref, hD4, by rw [sizeLine_eq, List.length_map]; omega, fun c o e => (upd_ne fun z => by rw [z, nD] at e; cases e).trans (x5 _ _ e), ps ++ [t], by rw [upd_same, List.map_append]; rfl, by rw [List.length_append]; show _ + 1 ≤ _; omega, ?_⟩
    rw [List.take_add_one, el]
    exact paired_app (Paired.mapP p1 fun c _ ⟨lp, q1, q2, q3⟩ => ⟨lp, q1, (upd_ne fun e => by rw [e, hD] at q2; cases q2).trans (xa _ _ q2), (q3.ex xa).put hD4 q1⟩) ⟨lp, lD, (upd_ne tD).trans ht, pa.put hD4 lD⟩
  · obtain ⟨x2, ps, hD, pl, p1⟩ := h
    rw [lk, List.take_length] at p1
    exact hQ D H2 (xl.trans x2) nDH ⟨ps, hD, p1⟩
end TH
/-! ### plain: sorted, equal, fit -/
namespace TH
open PySem PySem.Spec PyProof.Rows L2
def leT (a b : Str) : Prop := ¬ b.cps.toList < a.cps.toList
theorem leT_trans {a b c : Str} (h1 : leT a b) (h2 : leT b c) : leT a c := by
  have q1 : a.cps.toList ≤ b.cps.toList := List.not_lt.mp h1
  have q2 : b.cps.toList ≤ c.cps.toList := List.not_lt.mp h2
  exact List.not_lt.mpr (List.le_trans q1 q2)
theorem leT_anti {a b : Str} (h1 : leT a b) (h2 : leT b a) : a = b := by
  have q1 : a.cps.toList ≤ b.cps.toList := List.not_lt.mp h1
  have q2 : b.cps.toList ≤ a.cps.toList := List.not_lt.mp h2
  have e : a.cps.toList = b.cps.toList := List.le_antisymm q1 q2
  cases a
  cases b
  exact congrArg _ (Array.toList_inj.mp e)
theorem risingT_pw : ∀ {l : List Str} {p : Str}, risingS p l = true → (p :: l).Pairwise leT
  | [], p, _ => by simp
  | x :: r, p, h => by
    have h : (!ltCps x.cps.toList p.cps.toList && risingS x r) = true := h
    rw [Bool.and_eq_true, Bool.not_eq_true', ltCps_eq, decide_eq_false_iff_not] at h
    have ih := risingT_pw h.2
    refine List.pairwise_cons.mpr ⟨fun y m => ?_, ih⟩
    rcases List.mem_cons.mp m with rfl | m
    · exact h.1
    · exact leT_trans h.1 ((List.pairwise_cons.mp ih).1 y m)
theorem sortedT_pw {l : List Str} (h : sortedS l = true) : l.Pairwise leT := by
  cases l with
  | nil => exact .nil
  | cons x r => exact risingT_pw h
theorem sort_one {l m : List Str} (h1 : sortedS l = true) (h2 : sortedS m = true) (p : l.Perm m) : l = m := p.eq_of_pairwise (le := leT) (fun _ _ _ _ => leT_anti) (sortedT_pw h1) (sortedT_pw h2)
theorem ordL_nd {vals : List Str} (nd : vals.Nodup) (l : Ld) : ((ordL vals l).map (·.1)).Nodup := by
  unfold ordL
  rw [List.map_filterMap]
  have : (vals.filterMap fun x => Option.map (·.1) ((lookL l x).map fun g => (x, g))).Sublist vals := by
    clear nd
    induction vals with
    | nil => exact .slnil
    | cons v r ih =>
      rw [List.filterMap_cons]
      cases h : lookL l v with
      | none => exact .cons _ ih
      | some g => exact .cons_cons _ ih
  exact this.nodup nd
theorem ordD_keys (vals : List Str) (lds : Lds) (ns : List Str) : (ordD vals lds ns).map (·.1) = ns := by
  unfold ordD
  rw [List.map_map]
  exact List.map_id ns
theorem ordD_len (vals : List Str) (lds : Lds) (ns : List Str) : (ordD vals lds ns).length = ns.length := by
  unfold ordD
  rw [List.length_map]
theorem ordD_mem {vals : List Str} {lds : Lds} {ns : List Str} {l : Str × Ld} (h : l ∈ ordD vals lds ns) : ∃ m, l.2 = ordL vals m := by
  unfold ordD at h
  obtain ⟨n, _, rfl⟩ := List.mem_map.mp h
  exact ⟨_, rfl⟩
/-- what is known of a thing made of d -/
structure Made (d d' : ThD) : Prop where
  vals : d'.vals = d.vals
  start : d'.start = d.start
  ap : d'.Apart
  dl : d'.deeds.length = d.deeds.length
  el : d'.ents.length = d.ents.length
  di : ∀ l ∈ d'.deeds, l.2.length ≤ 1000
  ei : ∀ l ∈ d'.ents, l.2.length ≤ 1000
theorem vlN_lay : ∀ x ∈ vlN, PyData.canLay0 (.str x) = true := by decide +kernel
theorem vlN_ok : ∀ x ∈ vlN, okS x = true := by decide +kernel
theorem nmN_ok : ∀ x ∈ nmN, okS x = true := by decide +kernel
theorem made_of {d d' : ThD} (ft : d.Fit) (vs : ∀ x ∈ d.vals, x ∈ vlN) (h : IsOrd d d') : Made d d' := by
  obtain ⟨ns, ms, p1, s1, p2, s2, rfl⟩ := h
  have vl := ft.vln
  refine ⟨rfl, rfl, ⟨fun x m => vlN_lay x (vs x m), ?_, ?_, fun l m => ?_, fun l m => ?_⟩, ?_, ?_, fun l m => ?_, fun l m => ?_⟩
  · show ((ordD _ _ _).map (·.1)).Nodup
    rw [ordD_keys]
    exact p1.nodup_iff.mpr ft.dnd
  · show ((ordD _ _ _).map (·.1)).Nodup
    rw [ordD_keys]
    exact p2.nodup_iff.mpr ft.end_
  · obtain ⟨q, e⟩ := ordD_mem m
    rw [e]
    exact ordL_nd ft.vnd q
  · obtain ⟨q, e⟩ := ordD_mem m
    rw [e]
    exact ordL_nd ft.vnd q
  · show (ordD _ _ _).length = _
    rw [ordD_len, p1.length_eq, List.length_map]
  · show (ordD _ _ _).length = _
    rw [ordD_len, p2.length_eq, List.length_map]
  · obtain ⟨q, e⟩ := ordD_mem m
    rw [e]
    have := ordL_len d.vals q
    omega
  · obtain ⟨q, e⟩ := ordD_mem m
    rw [e]
    have := ordL_len d.vals q
    omega
theorem ord_deeds {d e d' e' : ThD} (h : IsOrd d d') (g : IsOrd e e') (v : d.vals = e.vals) (q : d.deeds = e.deeds) : d'.deeds = e'.deeds := by
  obtain ⟨ns, ms, p1, s1, p2, s2, rfl⟩ := h
  obtain ⟨ns', ms', q1, t1, q2, t2, rfl⟩ := g
  dsimp only
  rw [v, q, sort_one s1 t1 (p1.trans ((q ▸ q1).symm))]
theorem ord_ents {d e d' e' : ThD} (h : IsOrd d d') (g : IsOrd e e') (v : d.vals = e.vals) (q : d.ents = e.ents) : d'.ents = e'.ents := by
  obtain ⟨ns, ms, p1, s1, p2, s2, rfl⟩ := h
  obtain ⟨ns', ms', q1, t1, q2, t2, rfl⟩ := g
  dsimp only
  rw [v, q, sort_one s2 t2 (p2.trans ((q ▸ q2).symm))]
theorem deeds_of {d d' : ThD} (h : IsOrd d d') {ns : List Str} (p : ns.Perm (d.deeds.map (·.1))) (s : sortedS ns = true) : d'.deeds = ordD d.vals d.deeds ns := by
  obtain ⟨ns', ms', q1, t1, q2, t2, rfl⟩ := h
  dsimp only
  rw [sort_one t1 s (q1.trans p.symm)]
theorem ents_of {d d' : ThD} (h : IsOrd d d') {ns : List Str} (p : ns.Perm (d.ents.map (·.1))) (s : sortedS ns = true) : d'.ents = ordD d.vals d.ents ns := by
  obtain ⟨ns', ms', q1, t1, q2, t2, rfl⟩ := h
  dsimp only
  rw [sort_one t2 s (q2.trans p.symm)]
theorem eq_twin {d d' d2 : ThD} (h : IsOrd d d') (g : IsOrd d d2) (m : Made d d') (m2 : Made d d2) : EqTh d' d2 true :=
  .inr ⟨m.vals.trans m2.vals.symm, .inr ⟨m.start.trans m2.start.symm, .inr ⟨ord_deeds h g rfl rfl, .inr ⟨ord_ents h g rfl rfl, rfl⟩⟩⟩⟩
theorem lead_rev {vals : List Str} {wh : Bool} {ld : Ld} (h : LeadOk vals wh ld) : LeadOk vals.reverse wh ld :=
  ⟨fun q m => ⟨List.mem_reverse.mpr (h.1 q m).1, List.mem_reverse.mpr (h.1 q m).2⟩, h.2.1, h.2.2.1, fun w => (h.2.2.2 w).trans List.length_reverse.symm⟩
theorem fit_rev {d : ThD} (ft : d.Fit) : ThD.Fit ⟨d.vals.reverse, d.start, d.deeds, d.ents⟩ :=
  ⟨fun z => ft.vne (List.reverse_eq_nil_iff.mp z), fun x m => ft.vok x (List.mem_reverse.mp m), (List.reverse_perm d.vals).nodup_iff.mpr ft.vnd, by show d.vals.reverse.length ≤ 60; rw [List.length_reverse]; exact ft.vln, List.mem_reverse.mpr ft.st, ft.dln, ft.eln, ft.dnd, ft.end_, fun l m => ⟨(ft.dok l m).1, lead_rev (ft.dok l m).2⟩, fun l m => ⟨(ft.eok l m).1, (ft.eok l m).2.1, lead_rev (ft.eok l m).2.2⟩⟩
theorem fit_start {d : ThD} (ft : d.Fit) {s : Str} (m : s ∈ d.vals) : ThD.Fit ⟨d.vals, s, d.deeds, d.ents⟩ := ⟨ft.vne, ft.vok, ft.vnd, ft.vln, m, ft.dln, ft.eln, ft.dnd, ft.end_, ft.dok, ft.eok⟩
theorem nd_more {ls : Lds} {n : Str} {l : Ld} (nd : (ls.map (·.1)).Nodup) (h : n ∉ ls.map (·.1)) : ((ls ++ [(n, l)]).map (·.1)).Nodup := by
  rw [List.map_append]
  exact List.nodup_append.mpr ⟨nd, List.nodup_cons.mpr ⟨List.not_mem_nil, .nil⟩, fun a ma b mb e => h (by rw [List.mem_singleton.mp mb] at e; have e : a = n := e; rw [← e]; exact ma)⟩
theorem fit_ent {d : ThD} (ft : d.Fit) {n : Str} (ok : okS n = true) (h1 : n ∉ d.deeds.map (·.1)) (h2 : n ∉ d.ents.map (·.1)) (l : d.ents.length < 50) : ThD.Fit ⟨d.vals, d.start, d.deeds, d.ents ++ [(n, [])]⟩ := by
  refine ⟨ft.vne, ft.vok, ft.vnd, ft.vln, ft.st, ft.dln, by show (d.ents ++ [(n, [])]).length < 60; rw [List.length_append]; show _ + 1 < 60; omega, ft.dnd, nd_more ft.end_ h2, ft.dok, fun q m => ?_⟩
  rcases List.mem_append.mp m with m | m
  · exact ft.eok q m
  · rw [List.mem_singleton.mp m]
    exact ⟨ok, h1, (fun _ z => by cases z), List.Pairwise.nil, Nat.zero_le _, (fun z => by cases z)⟩
theorem fit_deed {d : ThD} (ft : d.Fit) {n : Str} (ok : okS n = true) (h1 : n ∉ d.deeds.map (·.1)) (h2 : n ∉ d.ents.map (·.1)) (l : d.deeds.length < 50) : ThD.Fit ⟨d.vals, d.start, d.deeds ++ [(n, wld d.vals d.start)], d.ents⟩ := by
  have vl := ft.vln
  refine ⟨ft.vne, ft.vok, ft.vnd, ft.vln, ft.st, by show (d.deeds ++ [(n, wld d.vals d.start)]).length < 60; rw [List.length_append]; show _ + 1 < 60; omega, ft.eln, nd_more ft.dnd h1, ft.end_, fun q m => ?_, fun q m => ⟨(ft.eok q m).1, fun z => ?_, (ft.eok q m).2.2⟩⟩
  · rcases List.mem_append.mp m with m | m
    · exact ft.dok q m
    · rw [List.mem_singleton.mp m]
      refine ⟨ok, fun r mr => ?_, ?_, ?_, fun _ => ?_⟩
      · obtain ⟨x, mx, rfl⟩ := List.mem_map.mp mr
        exact ⟨mx, ft.st⟩
      · show ((d.vals.map fun v => (v, d.start)).map (·.1)).Nodup
        rw [List.map_map]
        show (d.vals.map id).Nodup
        rw [List.map_id]
        exact ft.vnd
      · show (d.vals.map fun v => (v, d.start)).length ≤ 1000
        rw [List.length_map]
        omega
      · exact List.length_map _
  · have z : q.1 ∈ (d.deeds ++ [(n, wld d.vals d.start)]).map (·.1) := z
    rw [List.map_append] at z
    rcases List.mem_append.mp z with z | z
    · exact (ft.eok q m).2.1 z
    · exact h2 (by have e : q.1 = n := List.mem_singleton.mp z; rw [← e]; exact List.mem_map_of_mem m)
theorem law_fit {vals nms : List Str} {st : Str} {de en : Lds} (v1 : vals ≠ []) (vs : ∀ x ∈ vals, x ∈ vlN) (vn : vals.Nodup) (vl : vals.length ≤ 10) (sm : st ∈ vals) (pm : nms.Perm nmN) {m k : Nat} (e1 : de.map (·.1) = nms.take m) (e2 : en.map (·.1) = (nms.drop m).take k)
    (l1 : ∀ l ∈ de, LeadOk vals true l.2) (l2 : ∀ l ∈ en, LeadOk vals false l.2) :
    ThD.Fit ⟨vals, st, de, en⟩ ∧ (∀ n ∈ de.map (·.1), n ∈ nmN) ∧ (∀ n ∈ en.map (·.1), n ∈ nmN) ∧ de.length ≤ 6 ∧ en.length ≤ 6 := by
  have nl : nms.length = 6 := pm.length_eq
  have nn : nms.Nodup := pm.nodup_iff.mpr (by decide +kernel)
  have s1 : ∀ n ∈ de.map (·.1), n ∈ nmN := fun n h => pm.mem_iff.mp (List.mem_of_mem_take (e1 ▸ h))
  have s2 : ∀ n ∈ en.map (·.1), n ∈ nmN := fun n h => pm.mem_iff.mp (List.mem_of_mem_drop (List.mem_of_mem_take (e2 ▸ h)))
  have c1 : de.length ≤ 6 := by
    have := congrArg List.length e1
    rw [List.length_map, List.length_take] at this
    omega
  have c2 : en.length ≤ 6 := by
    have := congrArg List.length e2
    rw [List.length_map, List.length_take, List.length_drop] at this
    omega
  refine ⟨⟨v1, fun x m => vlN_ok x (vs x m), vn, by show vals.length ≤ 60; omega, sm, by show de.length < 60; omega, by show en.length < 60; omega, by show (de.map (·.1)).Nodup; rw [e1]; exact (List.take_sublist _ _).nodup nn, by show (en.map (·.1)).Nodup; rw [e2]; exact ((List.take_sublist _ _).trans (List.drop_sublist _ _)).nodup nn, fun l ml => ⟨nmN_ok _ (s1 _ (List.mem_map_of_mem ml)), l1 l ml⟩, fun l ml => ⟨nmN_ok _ (s2 _ (List.mem_map_of_mem ml)), fun z => ?_, l2 l ml⟩⟩, s1, s2, c1, c2⟩
  have z1 : l.1 ∈ nms.take m := e1 ▸ z
  have z0 : l.1 ∈ en.map (·.1) := List.mem_map_of_mem ml
  have z2 : l.1 ∈ nms.drop m := List.mem_of_mem_take (e2 ▸ z0)
  have z3 : (nms.take m ++ nms.drop m).Nodup := by rw [List.take_append_drop]; exact nn
  exact (List.nodup_append.mp z3).2.2 _ z1 _ z2 rfl
theorem nd_inj {xs : List Str} (nd : xs.Nodup) {i j : Nat} (hi : i < xs.length) (hj : j < xs.length) (e : xs[i] = xs[j]) : i = j := by
  rcases Nat.lt_trichotomy i j with h | h | h
  · exact absurd e (List.pairwise_iff_getElem.mp nd i j hi hj h)
  · exact h
  · exact absurd e.symm (List.pairwise_iff_getElem.mp nd j i hj hi h)
theorem rev_ne {xs : List Str} (nd : xs.Nodup) (l : 1 < xs.length) : xs ≠ xs.reverse := fun z => by
  have h0 : xs[0]? = xs.reverse[0]? := congrArg (·[0]?) z
  rw [List.getElem?_reverse (by omega)] at h0
  have h1 : xs[0]? = some xs[0] := List.getElem?_eq_getElem (by omega)
  have h2 : xs[xs.length - 1 - 0]? = some xs[xs.length - 1 - 0] := List.getElem?_eq_getElem (by omega)
  rw [h1, h2] at h0
  have := nd_inj nd _ _ (Option.some.inj h0)
  omega
theorem other_one {xs : List Str} {st : Str} (nd : xs.Nodup) (l : 1 < xs.length) : ∃ y r, xs.filter (fun v => !decide (v = st)) = y :: r ∧ y ∈ xs ∧ y ≠ st := by
  cases h : xs.filter (fun v => !decide (v = st)) with
  | nil =>
    exfalso
    have all : ∀ x ∈ xs, x = st := fun x m => by
      by_cases e : x = st
      · exact e
      · have : x ∈ xs.filter (fun v => !decide (v = st)) := List.mem_filter.mpr ⟨m, by rw [decide_eq_false e]; rfl⟩
        rw [h] at this
        cases this
    have e0 := all xs[0] (List.getElem_mem _)
    have e1 := all xs[1] (List.getElem_mem _)
    have := nd_inj nd _ _ (e0.trans e1.symm)
    omega
  | cons y r =>
    have m : y ∈ xs.filter (fun v => !decide (v = st)) := by rw [h]; exact List.mem_cons_self
    rw [List.mem_filter] at m
    exact ⟨y, r, rfl, m.1, fun z => by rw [z] at m; simp at m⟩
theorem dd_more {H : Hp} {q e : Addr} {ls : Lds} {kvs : List (Key × V)} {n : Str} {l : Ld} (hq : H q = some (.dK (kvs ++ [(.inr n, .ref e)]))) (pr : PR H ls kvs) (he : H e = some (.dK (ldV l))) : DD H q (ls ++ [(n, l)]) := ⟨_, hq, paired_app pr ⟨rfl, e, rfl, he⟩⟩
end TH
namespace TH
open PySem PySem.Spec PyProof.Rows L2 OD
def tWS3 (K : PySem.W.Frag) (tt : TT) : TE := tCB (rDictP K) (tCons (tLc (iList K (tVar 3)) (gName 17) tt (tTup (tCons (tVar 17) (tCons (tVar 4) tNil))) [17]) tNil)
theorem ws_go3 {K : PySem.W.Frag} {tt : TT} {σ : L2.St} {H : Hp} {Q : VK} {va : Addr} {vals : List Str} {st : Str} (P : Str → Bool) (len : σ.length = 18) (s1 : σ[3]? = some (some (.ref va))) (s2 : σ[4]? = some (some (.str st))) (hva : H va = some (.lst (vals.map V.str))) (nd : vals.Nodup) (ln : vals.length ≤ 60)
    (htt : ∀ (x : Str) (H2 : Hp) (Q2 : Bool → Hp → Prop), Q2 (P x) H2 → tt ((wipe σ [17]).set 17 (some (.str x))) H2 Q2)
    (hQ : ∀ q H', Ex H H' → H q = none → H' q = some (.dK (ldV ((vals.filter P).map fun v => (v, st)))) → Q (.ref q) H') : tWS3 K tt σ H Q := by
  refine ⟨.ref va, s1, va, rfl, ⟨_, .inl (.inl hva)⟩, fun D nD => ?_⟩
  refine lc_list (K := K) (xs := vals.map V.str) (fun i H2 => Ex H H2 ∧ ∃ ps : List Addr, H2 D = some (.lst (ps.map V.ref)) ∧ Paired (fun p (kv : Key × V) => H2 p = some (.tup [kV kv.1, kv.2])) ps (ldV (((vals.take i).filter P).map fun v => (v, st)))) ⟨Ex.new nD, [], upd_same, .nil⟩ (fun i H2 _ h => .inl (.inl (h.1 _ _ hva))) (fun i v H2 hv2 h => ?_) fun H2 h => ?_
  · obtain ⟨x2, ps, hD, pr⟩ := h
    rw [List.getElem?_map] at hv2
    obtain ⟨w, ew, rfl⟩ := Option.map_eq_some_iff.mp hv2
    have a3 : (((wipe σ [17]).set 17 (some (V.str w))))[17]? = some (some (V.str w)) := List.getElem?_set_self (by rw [wipe_length, len]; decide)
    have up : ∀ j, j ≠ 17 → (((wipe σ [17]).set 17 (some (V.str w))))[j]? = σ[j]? := fun j hj => by
      rw [List.getElem?_set_ne hj.symm]
      exact List.getElem?_set_ne hj.symm
    refine ⟨?_, htt w H2 _ ?_⟩
    · show ((σ.set 17 none).set 17 (some (V.str w))).set 17 none = σ.set 17 none
      rw [List.set_set, List.set_set]
    have tk : (vals.take (i + 1)).filter P = (vals.take i).filter P ++ (if P w = true then [w] else []) := by
      rw [List.take_add_one, ew, Option.toList_some, List.filter_append]
      cases h : P w <;> simp [h]
    rw [tk]
    cases hP : P w with
    | false => exact ⟨x2, ps, hD, by rw [if_neg Bool.false_ne_true, List.append_nil]; exact pr⟩
    | true =>
      refine ⟨.str w, a3, .str st, (up 4 (by decide)).trans s2, by show 2 ≤ sizeLine; decide, fun p np => ?_⟩
      have pD : p ≠ D := fun z => by rw [z, hD] at np; cases np
      have pl : ps.length ≤ 60 := by
        have e := Paired.length pr
        unfold ldV at e
        rw [List.length_map, List.length_map] at e
        have := List.length_filter_le P (vals.take i)
        rw [List.length_take] at this
        omega
      refine ⟨ps.map V.ref, (upd_ne pD.symm).trans hD, by rw [sizeLine_eq, List.length_map]; omega, fun c o e => (upd_ne fun z => by rw [z, nD] at e; cases e).trans ((Ex.new np) _ _ (x2 _ _ e)), ps ++ [p], by rw [upd_same, List.map_append]; rfl, ?_⟩
      rw [if_pos rfl, List.map_append]
      unfold ldV
      rw [List.map_append]
      exact paired_app (Paired.mapP pr fun c _ z => (upd_ne fun e => by rw [e, hD] at z; cases z).trans ((upd_ne fun e => by rw [e, np] at z; cases z).trans z)) ((upd_ne pD).trans upd_same)
  · obtain ⟨x2, ps, hD, pr⟩ := h
    rw [List.length_map, List.take_length] at pr
    have nd2 : ((ldV ((vals.filter P).map fun v => (v, st))).map (·.1)).Nodup := keys_nd (by
      rw [List.map_map]
      show ((vals.filter P).map id).Nodup
      rw [List.map_id]
      exact List.filter_sublist.nodup nd)
    refine ⟨D, ps, _, rfl, .inl (.inl hD), Paired.mapP pr fun p kv e => .inl (.inl e), fun q nq => ?_⟩
    rw [merge_nd _ _ nd2]
    exact hQ q _ (x2.trans (Ex.new nq)) (x2.none nq) upd_same

/-- [value for value in values if ..] -/
def tOth (K : PySem.W.Frag) (tt : TT) : TE := tLc (iList K (tVar 3)) (gName 17) tt (tVar 17) [17]
theorem oth_go {K : PySem.W.Frag} {tt : TT} {σ : L2.St} {H : Hp} {Q : VK} {va : Addr} {vals : List Str} (P : Str → Bool) (len : σ.length = 18) (s1 : σ[3]? = some (some (.ref va))) (hva : H va = some (.lst (vals.map V.str))) (ln : vals.length ≤ 60)
    (htt : ∀ (x : Str) (H2 : Hp) (Q2 : Bool → Hp → Prop), Q2 (P x) H2 → tt ((wipe σ [17]).set 17 (some (.str x))) H2 Q2)
    (hQ : ∀ q H', Ex H H' → H q = none → H' q = some (.lst ((vals.filter P).map V.str)) → Q (.ref q) H') : tOth K tt σ H Q := by
  refine ⟨.ref va, s1, va, rfl, ⟨_, .inl (.inl hva)⟩, fun D nD => ?_⟩
  refine lc_list (K := K) (xs := vals.map V.str) (fun i H2 => Ex H H2 ∧ H2 D = some (.lst (((vals.take i).filter P).map V.str))) ⟨Ex.new nD, upd_same⟩ (fun i H2 _ h => .inl (.inl (h.1 _ _ hva))) (fun i v H2 hv2 h => ?_) fun H2 h => ?_
  · obtain ⟨x2, hD⟩ := h
    rw [List.getElem?_map] at hv2
    obtain ⟨w, ew, rfl⟩ := Option.map_eq_some_iff.mp hv2
    have a3 : (((wipe σ [17]).set 17 (some (V.str w))))[17]? = some (some (V.str w)) := List.getElem?_set_self (by rw [wipe_length, len]; decide)
    refine ⟨?_, htt w H2 _ ?_⟩
    · show ((σ.set 17 none).set 17 (some (V.str w))).set 17 none = σ.set 17 none
      rw [List.set_set, List.set_set]
    have tk : (vals.take (i + 1)).filter P = (vals.take i).filter P ++ (if P w = true then [w] else []) := by
      rw [List.take_add_one, ew, Option.toList_some, List.filter_append]
      cases h : P w <;> simp [h]
    rw [tk]
    cases hP : P w with
    | false => exact ⟨x2, by rw [if_neg Bool.false_ne_true, List.append_nil]; exact hD⟩
    | true =>
      have pl : ((vals.take i).filter P).length ≤ 60 := by
        have := List.length_filter_le P (vals.take i)
        rw [List.length_take] at this
        omega
      refine ⟨.str w, a3, _, hD, by rw [sizeLine_eq, List.length_map]; omega, fun c o e => (upd_ne fun z => by rw [z, nD] at e; cases e).trans (x2 _ _ e), ?_⟩
      rw [upd_same, if_pos rfl, List.map_append]
      rfl
  · obtain ⟨x2, hD⟩ := h
    rw [List.length_map, List.take_length] at hD
    exact hQ D H2 x2 nD hD
end TH

/-! B16: law (its term printed by gen_b16.py) -/
namespace TH
open PySem PySem.Spec PyProof.Rows L2 LamV LamX XK0
open C8 (pss_cut tCut Met pe_mt0)
open OD OQ
abbrev sLawP : Stmt := top 25
theorem extN_viaP {p : Addr} {H0 H1 H2 : Hp} (x : ExtN H0 H1) (n : H0 p = none) (y : ExP p H1 H2) : ExtN H0 H2 := fun b o e t => y b o (fun z => by rw [z, n] at e; cases e) (x b o e t) t
/-- the instance is new: nothing that was there is changed -/
theorem madeEx {C x dx : Addr} {H H' : Hp} (nx : H x = none) (nd : H dx = none) (y : ExA x (upd (upd H dx (.own x)) x (.ins C dx [])) H') : Ex H H' := fun b o e => y b o (fun z => by rw [z, nx] at e; cases e) ((upd_ne fun z => by rw [z, nx] at e; cases e).trans ((upd_ne fun z => by rw [z, nd] at e; cases e).trans e))
theorem none_made {C x dx : Addr} {H : Hp} (b : Addr) (h : upd (upd H dx (.own x)) x (.ins C dx []) b = none) : H b = none := by
  by_cases e : b = x
  · rw [e, upd_same] at h; cases h
  · rw [upd_ne e] at h
    by_cases e2 : b = dx
    · rw [e2, upd_same] at h; cases h
    · rw [upd_ne e2] at h; exact h
theorem init_goL {K : PySem.W.Frag} {C : Addr} {H : Hp} {Q : Addr → Hp → Prop} (d : ThD) {vl dd de : Addr} (hv : H vl = some (.lst (d.vals.map V.str))) (h1 : DD H dd d.deeds) (h2 : DD H de d.ents) (ft : d.Fit) (hQ : ∀ x H' d', H x = none → Ex H H' → IsThF H H' C x d' → IsOrd d d' → Q x H') :
    ∀ x dx, H x = none → H dx = none → dx ≠ x → spInitL K C (.ref x :: ([V.ref vl, .str d.start, .ref dd, .ref de] ++ [])) (upd (upd H dx (.own x)) x (.ins C dx [])) (fun v H2 => v = .non ∧ Q x H2) E0 := fun x dx nx nd ne => by
  have xm : Ex H (upd (upd H dx (.own x)) x (.ins C dx [])) := madeEx (C := C) nx nd fun _ _ _ e => e
  exact ⟨x, dx, vl, dd, de, d, rfl, upd_same, .inl (.inl (xm _ _ hv)), h1.ex xm, h2.ex xm, ft, fun H' d' x8 th io => ⟨rfl, hQ x H' d' nx (madeEx nx nd x8) (th.old none_made) io⟩⟩
theorem init_goT {K : PySem.W.Frag} {C : Addr} {H : Hp} {Q : Addr → Hp → Prop} (d : ThD) {vl dd de : Addr} (hv : H vl = some (.tup (d.vals.map V.str))) (h1 : DD H dd d.deeds) (h2 : DD H de d.ents) (ft : d.Fit) (hQ : ∀ x H' d', H x = none → Ex H H' → IsThF H H' C x d' → IsOrd d d' → Q x H') :
    ∀ x dx, H x = none → H dx = none → dx ≠ x → spInitT K C (.ref x :: ([V.ref vl, .str d.start, .ref dd, .ref de] ++ [])) (upd (upd H dx (.own x)) x (.ins C dx [])) (fun v H2 => v = .non ∧ Q x H2) E0 := fun x dx nx nd ne => by
  have xm : Ex H (upd (upd H dx (.own x)) x (.ins C dx [])) := madeEx (C := C) nx nd fun _ _ _ e => e
  exact ⟨x, dx, vl, dd, de, d, rfl, upd_same, xm _ _ hv, h1.ex xm, h2.ex xm, ft, fun H' d' x8 th io => ⟨rfl, hQ x H' d' nx (madeEx nx nd x8) (th.old none_made) io⟩⟩
/-- the values of a new dict of dicts -/
theorem df_vals {H0 H : Hp} {a : Addr} {ls : Lds} (h : DF H0 H a ls) : ∃ (kvs : List (Key × V)) (bs : List Addr), H a = some (.dK kvs) ∧ kvs.map (·.2) = bs.map V.ref ∧ bs.length = ls.length ∧ ∀ b ∈ bs, H0 b = none ∧ ∃ l, H b = some (.dK l) := by
  obtain ⟨_, kvs, ha, pr⟩ := h
  refine ⟨kvs, ?_⟩
  have z : ∃ bs : List Addr, kvs.map (·.2) = bs.map V.ref ∧ bs.length = ls.length ∧ ∀ b ∈ bs, H0 b = none ∧ ∃ l, H b = some (.dK l) := by
    clear ha
    have pr2 : Paired (fun (l : Str × Ld) (kv : Key × V) => kv.1 = Sum.inr l.1 ∧ ∃ b, kv.2 = .ref b ∧ H0 b = none ∧ H b = some (.dK (ldV l.2))) ls kvs := pr
    clear pr
    induction pr2 with
    | nil => exact ⟨[], rfl, rfl, fun _ z => by cases z⟩
    | cons r _ ih =>
      obtain ⟨_, b, e, n, hb⟩ := r
      obtain ⟨bs, e1, e2, e3⟩ := ih
      refine ⟨b :: bs, by rw [List.map_cons, e, e1, List.map_cons], by rw [List.length_cons, e2, List.length_cons], fun c m => ?_⟩
      rcases List.mem_cons.mp m with rfl | m
      · exact ⟨n, _, hb⟩
      · exact e3 c m
  obtain ⟨bs, e1, e2, e3⟩ := z
  exact ⟨bs, ha, e1, e2, e3⟩
/-- what clearing the dicts bs leaves -/
def ClrI (bs : List Addr) (H H' : Hp) : Prop := (∀ b o, b ∉ bs → H b = some o → H' b = some o) ∧ ∀ b ∈ bs, ∃ l, H' b = some (.dK l)
theorem ClrI.put {bs : List Addr} {H H' : Hp} {b : Addr} (h : ClrI bs H H') (m : b ∈ bs) : ClrI bs H (upd H' b (.dK [])) := ⟨fun c o n e => (upd_ne fun z => n (by rw [z]; exact m)).trans (h.1 c o n e), fun c mc => by
  by_cases z : c = b
  · exact ⟨[], z ▸ upd_same⟩
  · obtain ⟨l, e⟩ := h.2 c mc
    exact ⟨l, (upd_ne z).trans e⟩⟩
theorem make_one {C : Addr} {sp : Sp} {dvs : List V} {E : XK} {t : TA} {σ : L2.St} {H : Hp} {Q : VK} (h : t σ H fun vs H1 => ∀ x dx, H1 x = none → H1 dx = none → dx ≠ x → sp (.ref x :: (vs ++ dvs)) (upd (upd H1 dx (.own x)) x (.ins C dx [])) (fun v H2 => v = .non ∧ Q (.ref x) H2) E) : tMake C sp dvs E t σ H Q := h
theorem par_one {i j : Nat} {ta : TA} {D : Ends} {σ : L2.St} {H : Hp} (h : ta σ H fun vs H1 => ∃ v w, vs = [v, w] ∧ D.nx ((σ.set i (some v)).set j (some w)) H1) : tPar i j ta D σ H := h
theorem th_ins {H : Hp} {C t : Addr} {d : ThD} (h : IsTh H C t d) : ∃ dx fs, H t = some (.ins C dx fs) ∧ fs.lookup ("worths" : Str) = none ∧ fs.lookup ("start" : Str) = none ∧ fs.lookup ("deeds" : Str) = none ∧ fs.lookup ("entries" : Str) = none := by
  obtain ⟨dx, vt, dd, de, e1, _⟩ := h
  exact ⟨dx, _, e1, rfl, rfl, rfl, rfl⟩
/-- what is kept of the things while the given dicts are changed -/
def HkT (H7 H8 H' : Hp) : Prop := ∀ b o, (H7 b = none ∨ ((∀ xs, o ≠ .lst xs) ∧ ∀ l, o ≠ .dK l)) → H8 b = some o → H' b = some o
theorem eq_go {K : PySem.W.Frag} {C t e : Addr} {d' e' : ThD} {H : Hp} {Q : VK} {r : Bool} (th : IsTh H C t d') (ap : d'.Apart) (eh : IsTh H C e e') (ape : e'.Apart) (q : EqTh d' e' r) (hQ : ∀ H', Ex H H' → Q (.bl r) H') : rEq C (spThEq K C) E0 (.ref t) (.ref e) H Q := by
  obtain ⟨dx, fs, et, _⟩ := th_ins th
  obtain ⟨dy, gs, ee, _⟩ := th_ins eh
  exact ⟨t, dx, fs, rfl, et, .inl ⟨e, dy, gs, rfl, ee⟩, t, d', .ref e, rfl, th, ap, .inr ⟨e, e', r, rfl, eh, ape, q, fun H' x => ⟨r, rfl, hQ H' x⟩⟩⟩
theorem ne_go {K : PySem.W.Frag} {C t e : Addr} {d' e' : ThD} {H : Hp} {Q : VK} {r : Bool} (th : IsTh H C t d') (ap : d'.Apart) (eh : IsTh H C e e') (ape : e'.Apart) (q : EqTh d' e' r) (hQ : ∀ H', Ex H H' → Q (.bl (!r)) H') : rNe C (spThEq K C) E0 (.ref t) (.ref e) H Q := by
  obtain ⟨dx, fs, et, _⟩ := th_ins th
  obtain ⟨dy, gs, ee, _⟩ := th_ins eh
  exact ⟨t, dx, fs, rfl, et, .inl ⟨e, dy, gs, rfl, ee⟩, t, d', .ref e, rfl, th, ap, .inr ⟨e, e', r, rfl, eh, ape, q, fun H' x => ⟨r, rfl, hQ H' x⟩⟩⟩
theorem eqL_go {K : PySem.W.Frag} {C t b : Addr} {d' : ThD} {xs : List V} {H : Hp} {Q : VK} (th : IsTh H C t d') (ap : d'.Apart) (hb : H b = some (.lst xs)) (hQ : ∀ H', Ex H H' → Q (.bl false) H') : rEq C (spThEq K C) E0 (.ref t) (.ref b) H Q := by
  obtain ⟨dx, fs, et, _⟩ := th_ins th
  exact ⟨t, dx, fs, rfl, et, .inr ⟨b, xs, rfl, hb⟩, t, d', .ref b, rfl, th, ap, .inl ⟨b, xs, rfl, hb, fun H' x => ⟨false, rfl, hQ H' x⟩⟩⟩
theorem AmD.ex {T : List (Addr × Str)} {p va dd de : Addr} {d : ThD} {H H' : Hp} {m : Nat} (A : AmD T p va dd de d H m) (x : Ex H H') : AmD T p va dd de d H' m := ⟨A.S.ex x, x _ _ A.hva, A.dds.ex x, A.des.ex x, x.tabs A.tb⟩
theorem extN_ex {H0 H1 H2 : Hp} (x : ExtN H0 H1) (y : Ex H1 H2) : ExtN H0 H2 := fun b o e t => y b o (x b o e t)
theorem not_one {t : TT} {σ : L2.St} {H : Hp} {Q : Bool → Hp → Prop} (h : t σ H fun c H1 => Q (!c) H1) : tNot t σ H Q := h
def spLawP (K : PySem.W.Frag) (T : List (Addr × Str)) : Sp := fun vs H Q _ => ∃ (a : Addr) (ns : List Int), vs = [.ref a] ∧ SqL K H a (ns.map V.int) ∧ ns.length ≤ 63 ∧ Tabs T H ∧ ∀ H', Q (.bl true) H'
section
variable {P : Program} {w : World} {K : PySem.W.Frag} {mg : Str → Option Value} {base : Heap} {f C fI fE : Addr} {fd fdI fdE : FuncData} {T : List (Addr × Str)}
theorem scLawP : FnScope ["_law_script", "_law_turn", "_law_pool_here", "_law_values", "_law_start", "_law_names", "_law_many", "_law_deeds", "_law_entries", "_law_handed", "_law_thing", "_law_twin", "_law_lead", "_law_told_here", "_law_more", "_law_whole", "_law_name", "_law_value"] ["_law_script"] (defScope sLawP) := ⟨rfl, rfl, rfl, by decide +kernel, rfl, by decide +kernel, by decide +kernel⟩
def LwP (K : PySem.W.Frag) (T : List (Addr × Str)) (a : Addr) (ns : List Int) (_ : Nat) (σ : L2.St) (H : Hp) : Prop := ∃ (o1 o2 o3 o4 o5 o6 o7 o8 o9 o10 o11 o12 o13 o14 o15 : Option V), σ = [some (.ref a), o1, o2, o3, o4, o5, o6, o7, o8, o9, o10, o11, o12, o13, o14, o15, none, none] ∧ SqL K H a (ns.map V.int) ∧ Tabs T H
theorem ok_lawP (F : FnP K "law" sLawP f fd) (FP : Has P w K mg base "_law_pool" 1 ["_law_script", "_law_turn"] (spPool K)) (FT : Has P w K mg base "_law_take" 1 ["_law_pool_here", "_law_many"] spTakeP) (FO : Has P w K mg base "_law_one" 2 ["_law_pool_here", "_law_things"] spOneP) (FM : Has P w K mg base "_law_mixed" 2 ["_law_pool_here", "_law_things"] spMixed)
    (FL : Has P w K mg base "_law_leads" 3 ["_law_pool_here", "_law_names", "_law_values", "_law_is_whole"] spLeads) (FTo : Has P w K mg base "_law_told" 1 ["_law_leads_here", "_law_values"] spTold) (FD : Has P w K mg base "_law_doors_right" 8 ["_law_pool_here", "_law_values", "_law_start", "_law_deeds", "_law_entries"] (spDoors T))
    (MT : Mk K C fI) (gT : mg "Thing" = some (.ref C)) (bI : Binds K fdI ["self", "values", "start", "deeds", "entries"] []) (bK : KBn K fdI ["self", "values", "start", "deeds", "entries"] 1 ["entries", "deeds", "start", "values"] (fun us ws => us ++ ws.reverse) (fun us ws => us ++ ws.reverse))
    (FIL : FnOk P w K mg base CX0 4 fI fdI ["self", "values", "start", "deeds", "entries"] (spInitL K C)) (FIT : FnOk P w K mg base CX0 4 fI fdI ["self", "values", "start", "deeds", "entries"] (spInitT K C))
    (EC : EqC K C fE) (FE : FnOk P w K mg base CX0 1 fE fdE ["self", "other"] (spThEq K C)) (bE : Binds K fdE ["self", "other"] [])
    (MW : Met P w K mg base 1 C "worths" (spWorths C) []) (MS : Met P w K mg base 1 C "start" (spStart C) []) (MD : Met P w K mg base 1 C "deeds" (spLds C ThD.deeds) []) (ME : Met P w K mg base 1 C "entries" (spLds C ThD.ents) [])
    (gn : mg "len" = none) (gd : mg "dict" = none) (gl : mg "list" = none) (gt : mg "tuple" = none) (gr : mg "range" = none) : FnOk P w K mg base CX0 9 f fd ["_law_script"] (spLawP K T) := by
  refine F.ok scLawP (fun vs H Q E h => ?_) (fun cdv A outer s H vs Q E hr h => ?_)
  · obtain ⟨a, ns, rfl, _⟩ := h
    rfl
  · have hu := hu_of hr
    refine ⟨_, PSs.nox (pss_cut (ps_for PassesOwn.never rfl (pi_range1 rfl gr (pa_cons pe_int pa_nil)) (pg_name (i := 1) scLawP.nd rfl (.inl rfl))
      (pss_cut (ps_set (i := 2) scLawP.nd rfl (.inl rfl) (pe_has FP hr (by decide) rfl (pa_cons (pv 0) (pa_cons (pv 1) pa_nil))))
      (pss_cut (ps_set (i := 3) scLawP.nd rfl (.inl rfl) (pe_slice sl_list (pe_has FM hr (by decide) rfl (pa_cons (pv 2) (pa_cons (pe_lst (pa_cons pe_str (pa_cons pe_str (pa_cons pe_str (pa_cons pe_str (pa_cons pe_str (pa_cons pe_str pa_nil))))))) pa_nil))) po_none (po_some (pe_op op_add pe_int (pe_has FT hr (by decide) rfl (pa_cons (pv 2) (pa_cons pe_int pa_nil)))))))
      (pss_cut (ps_set (i := 4) scLawP.nd rfl (.inr rfl) (pe_has FO hr (by decide) rfl (pa_cons (pv 2) (pa_cons (pv 3) pa_nil))))
      (pss_cut (ps_set (i := 5) scLawP.nd rfl (.inl rfl) (pe_has FM hr (by decide) rfl (pa_cons (pv 2) (pa_cons (pe_lst (pa_cons pe_str (pa_cons pe_str (pa_cons pe_str (pa_cons pe_str (pa_cons pe_str (pa_cons pe_str pa_nil))))))) pa_nil))))
      (pss_cut (ps_set (i := 6) scLawP.nd rfl (.inl rfl) (pe_has FT hr (by decide) rfl (pa_cons (pv 2) (pa_cons pe_int pa_nil))))
      (pss_cut (ps_asg (pe_tup (pa_cons (pe_has FL hr (by decide) rfl (pa_cons (pv 2) (pa_cons (pe_slice sl_list (pv 5) po_none (po_some (pv 6))) (pa_cons (pv 3) (pa_cons pe_bl pa_nil))))) (pa_cons (pe_has FL hr (by decide) rfl (pa_cons (pv 2) (pa_cons (pe_slice sl_list (pe_slice sl_list (pv 5) (po_some (pv 6)) po_none) po_none (po_some (pe_has FT hr (by decide) rfl (pa_cons (pv 2) (pa_cons pe_int pa_nil))))) (pa_cons (pv 3) (pa_cons pe_bl pa_nil))))) pa_nil))) (pg_tup rfl (pgs_cons (pg_name (i := 7) scLawP.nd rfl (.inr rfl)) (pgs_cons (pg_name (i := 8) scLawP.nd rfl (.inr rfl)) pgs_nil))))
      (pss_cut (ps_set (i := 9) scLawP.nd rfl (.inl rfl) (pe_lst (pa_cons (pe_callTy call_list_of rfl gl boot_list (pa_cons (pv 3) pa_nil)) (pa_cons (pe_callTy (call_dictPK rfl) rfl gd boot_dict (pa_cons (pe_lock (pe_lc (te := tTup (tCons (tVar 16) (tCons (tCB rDictC (tCons (tDGet (tVar 7) (tVar 16)) tNil)) tNil))) (tt := tYes) (own := [("_law_name", 16)])  rfl scLawP.nd (pi_keys (pv 7)) (blkOk_by (by kernel_rfl)) (fun s H C cl fp => (pg_name (i := 16) scLawP.nd rfl (.inl rfl) (.inr rfl))) (fun s H C cl fp => pts_nil) (fun s H C cl fp => (pe_tup (pa_cons (pv 16) (pa_cons (pe_callTy call_dictC rfl gd boot_dict (pa_cons (pe_dget hu (pv 7) (pv 16) (fun _ _ => rfl)) pa_nil)) pa_nil)))))) pa_nil)) (pa_cons (pe_callTy (call_dictPK rfl) rfl gd boot_dict (pa_cons (pe_lock (pe_lc (te := tTup (tCons (tVar 16) (tCons (tCB rDictC (tCons (tDGet (tVar 8) (tVar 16)) tNil)) tNil))) (tt := tYes) (own := [("_law_name", 16)])  rfl scLawP.nd (pi_keys (pv 8)) (blkOk_by (by kernel_rfl)) (fun s H C cl fp => (pg_name (i := 16) scLawP.nd rfl (.inl rfl) (.inr rfl))) (fun s H C cl fp => pts_nil) (fun s H C cl fp => (pe_tup (pa_cons (pv 16) (pa_cons (pe_callTy call_dictC rfl gd boot_dict (pa_cons (pe_dget hu (pv 8) (pv 16) (fun _ _ => rfl)) pa_nil)) pa_nil)))))) pa_nil)) pa_nil)))))
      (pss_cut (ps_par (i := 10) (j := 11) rfl scLawP.nd rfl rfl (by decide) rfl rfl (pa_cons (pe_make MT FIL (hr.mono (by decide)) rfl gT bI .nil pass0 (pa_cons (pe_ix ix_list (pv 9) pe_int (fun _ _ => rfl)) (pa_cons (pv 4) (pa_cons (pe_ix ix_list (pv 9) pe_int (fun _ _ => rfl)) (pa_cons (pe_ix ix_list (pv 9) pe_int (fun _ _ => rfl)) pa_nil))))) (pa_cons (pe_make MT FIT (hr.mono (by decide)) rfl gT bI .nil pass0 (pa_cons (pe_callTy call_tuple_of rfl gt boot_tuple (pa_cons (pv 3) pa_nil)) (pa_cons (pv 4) (pa_cons (pv 7) (pa_cons (pv 8) pa_nil))))) pa_nil)) rfl)
      (pss_cut (ps_expr (pe_bm PySem.F.plainAttrs_list PySem.F.slot_list_append PySem.F.type_list_append mt_append (pe_ix ix_list (pv 9) pe_int (fun _ _ => rfl)) (pa_cons pe_str pa_nil)))
      (pss_cut (ps_for PassesOwn.never rfl (pi_list (pe_op op_cat (pe_listValues rfl (pe_ix ix_list (pv 9) pe_int (fun _ _ => rfl)) rfl gl boot_list) (pe_listValues rfl (pe_ix ix_list (pv 9) pe_int (fun _ _ => rfl)) rfl gl boot_list))) (pg_name (i := 12) scLawP.nd rfl (.inl rfl)) (pss_one (ps_expr (pe_dclear (pv 12)))))
      (pss_cut (ps_expr (pe_bm PySem.F.plainAttrs_list PySem.F.slot_list_append PySem.F.type_list_append mt_append (pe_mt0 MW hr (by decide) (pv 10)) (pa_cons pe_str pa_nil)))
      (pss_cut (ps_expr (pe_dclear (pe_mt0 MD hr (by decide) (pv 10))))
      (pss_cut (ps_for PassesOwn.never rfl (pi_list (pe_op op_cat (pe_listValues rfl (pe_mt0 ME hr (by decide) (pv 10)) rfl gl boot_list) (pe_listValues rfl (pe_mt0 MD hr (by decide) (pv 10)) rfl gl boot_list))) (pg_name (i := 12) scLawP.nd rfl (.inl rfl)) (pss_one (ps_expr (pe_dclear (pv 12)))))
      (pss_cut (ps_set (i := 13) scLawP.nd rfl (.inl rfl) (pe_lst (pa_cons (pe_mt0 MW hr (by decide) (pv 10)) (pa_cons (pe_mt0 MS hr (by decide) (pv 10)) (pa_cons (pe_lc (te := tTup (tCons (tVar 16) (tCons (LiI.tListItems (tVar 12)) tNil))) (tt := tYes) (own := [("_law_name", 16), ("_law_lead", 12)]) (g := gTup K 2 (gCons (gName 16) (gCons (gName 12) gNil))) rfl scLawP.nd (pi_items (pe_lk (pe_mt0 MD hr (by decide) (pv 10)))) (blkOk_by (by kernel_rfl)) (fun s H C cl fp => (pg_tup rfl (pgs_cons (pg_name (i := 16) scLawP.nd rfl (.inl rfl) (.inr rfl)) (pgs_cons (pg_name (i := 12) scLawP.nd rfl (.inl rfl) (.inr rfl)) pgs_nil)))) (fun s H C cl fp => pts_nil) (fun s H C cl fp => (pe_tup (pa_cons (pv 16) (pa_cons (LiI.pe_listItems rfl (pv 12) rfl gl boot_list) pa_nil))))) pa_nil)))))
      (pss_cut (ps_if (PW.pt (pw_or (pt_cmpR (op_neT hr.units) (pv 13) (pe_lst (pa_cons (pv 3) (pa_cons (pv 4) (pa_cons (pe_has FTo hr (by decide) rfl (pa_cons (pv 7) (pa_cons (pv 3) pa_nil))) pa_nil)))) (nomark _)) (pw_or (pt_cmpR (op_neO EC FE (hr.mono (by decide)) bE pass0) (pv 10) (pv 11) (by with_unfolding_all rfl)) (pw_or1 (pt_cmpR (op_eqO EC FE (hr.mono (by decide)) bE pass0) (pv 10) (pv 3) (by with_unfolding_all rfl)))))) (pss_one (ps_ret pe_bl)) pss_nil)
      (pss_cut (ps_if (pt_cmpR (op_neT hr.units) (pe_lc (te := tTup (tCons (tVar 16) (tCons (LiI.tListItems (tVar 12)) tNil))) (tt := tYes) (own := [("_law_name", 16), ("_law_lead", 12)]) (g := gTup K 2 (gCons (gName 16) (gCons (gName 12) gNil))) rfl scLawP.nd (pi_items (pe_lk (pe_mt0 ME hr (by decide) (pv 10)))) (blkOk_by (by kernel_rfl)) (fun s H C cl fp => (pg_tup rfl (pgs_cons (pg_name (i := 16) scLawP.nd rfl (.inl rfl) (.inr rfl)) (pgs_cons (pg_name (i := 12) scLawP.nd rfl (.inl rfl) (.inr rfl)) pgs_nil)))) (fun s H C cl fp => pts_nil) (fun s H C cl fp => (pe_tup (pa_cons (pv 16) (pa_cons (LiI.pe_listItems rfl (pv 12) rfl gl boot_list) pa_nil))))) (pe_has FTo hr (by decide) rfl (pa_cons (pv 8) (pa_cons (pv 3) pa_nil))) (nomark _)) (pss_one (ps_ret pe_bl)) pss_nil)
      (pss_cut (ps_set (i := 14) scLawP.nd rfl (.inl rfl) (pe_callTy (call_dictPK rfl) rfl gd boot_dict (pa_cons (pe_op op_cat (LiI.pe_listItems rfl (pv 8) rfl gl boot_list) (pe_lst (pa_cons (pe_tup (pa_cons pe_str (pa_cons pe_dnewK pa_nil))) pa_nil))) pa_nil)))
      (pss_cut (ps_if (PW.pt (pw_or (pt_cmpR (op_eqO EC FE (hr.mono (by decide)) bE pass0) (pv 10) (pe_make MT FIL (hr.mono (by decide)) rfl gT bI .nil pass0 (pa_cons (pv 3) (pa_cons (pv 4) (pa_cons (pv 7) (pa_cons (pv 14) pa_nil))))) (by with_unfolding_all rfl)) (pw_or1 (PW.pt (pw_and (pt_cmpR op_gt (pe_callB call_len rfl gn boot_len (pa_cons (pv 3) pa_nil)) pe_int (nomark _)) (pw_and1 (pt_cmpR (op_eqO EC FE (hr.mono (by decide)) bE pass0) (pv 10) (pe_make MT FIL (hr.mono (by decide)) rfl gT bI .nil pass0 (pa_cons (pe_revL (pv 3)) (pa_cons (pv 4) (pa_cons (pv 7) (pa_cons (pv 8) pa_nil))))) (by with_unfolding_all rfl)))))))) (pss_one (ps_ret pe_bl)) pss_nil)
      (pss_cut (ps_set (i := 15) scLawP.nd rfl (.inl rfl) (pe_callTy (call_dictPK rfl) rfl gd boot_dict (pa_cons (pe_lc (te := tTup (tCons (tVar 17) (tCons (tVar 4) tNil))) (tt := tYes) (own := [("_law_value", 17)])  rfl scLawP.nd (pi_list (pv 3)) (blkOk_by (by kernel_rfl)) (fun s H C cl fp => (pg_name (i := 17) scLawP.nd rfl (.inl rfl) (.inr rfl))) (fun s H C cl fp => pts_nil) (fun s H C cl fp => (pe_tup (pa_cons (pv 17) (pa_cons (pv 4) pa_nil))))) pa_nil)))
      (pss_cut (ps_if (pt_cmpR (op_eqO EC FE (hr.mono (by decide)) bE pass0) (pv 10) (pe_make MT FIL (hr.mono (by decide)) rfl gT bI .nil pass0 (pa_cons (pv 3) (pa_cons (pv 4) (pa_cons (pe_callTy (call_dictPK rfl) rfl gd boot_dict (pa_cons (pe_op op_cat (LiI.pe_listItems rfl (pv 7) rfl gl boot_list) (pe_lst (pa_cons (pe_tup (pa_cons pe_str (pa_cons (pv 15) pa_nil))) pa_nil))) pa_nil)) (pa_cons (pv 8) pa_nil))))) (by with_unfolding_all rfl)) (pss_one (ps_ret pe_bl)) pss_nil)
      (pss_cut (ps_if (PW.pt (pw_and (pt_cmpR op_gt (pe_callB call_len rfl gn boot_len (pa_cons (pv 3) pa_nil)) pe_int (nomark _)) (pw_and1 (pt_cmpR (op_eqO EC FE (hr.mono (by decide)) bE pass0) (pv 10) (pe_make MT FIL (hr.mono (by decide)) rfl gT bI .nil pass0 (pa_cons (pv 3) (pa_cons (pe_ix ix_list (pe_lc (te := tVar 17) (tt := tTest (tOp rNe (tVar 17) (tVar 4))) (own := [("_law_value", 17)])  rfl scLawP.nd (pi_list (pv 3)) (blkOk_by (by kernel_rfl)) (fun s H C cl fp => (pg_name (i := 17) scLawP.nd rfl (.inl rfl) (.inr rfl))) (fun s H C cl fp => pts_one (pt_cmpR op_ne (pv 17) (pv 4) (nomark _))) (fun s H C cl fp => (pv 17))) pe_int (fun _ _ => rfl)) (pa_cons (pv 7) (pa_cons (pv 8) pa_nil))))) (by with_unfolding_all rfl))))) (pss_one (ps_ret pe_bl)) pss_nil)
      (pss_one (ps_if (pt_not (pt_val (pe_has FD hr (by decide) rfl (pa_cons (pv 2) (pa_cons (pv 3) (pa_cons (pv 4) (pa_cons (pv 7) (pa_cons (pv 8) pa_nil)))))))) (pss_one (ps_ret pe_bl)) pss_nil))))))))))))))))))))))))
      (pss_one (ps_ret (pe_cmpR (op_eqO EC FE (hr.mono (by decide)) bE pass0) (pe_makeK0 MT FIL (hr.mono (by decide)) rfl gT bK pass0 (pk_cons pe_dnewK (pk_cons pe_dnewK (pk_cons pe_str (pk_cons (pe_lst (pa_cons pe_str pa_nil)) pk_nil))))) (pe_make MT FIL (hr.mono (by decide)) rfl gT bI .nil pass0 (pa_cons (pe_lst (pa_cons pe_str pa_nil)) (pa_cons pe_str (pa_cons pe_dnewK (pa_cons pe_dnewK pa_nil))))) (by with_unfolding_all rfl))))), ?_⟩
    obtain ⟨a, ns, rfl, sq0, nlen, tb0, hQ⟩ := h
    have s2 : 2 ≤ sizeLine := by decide
    have s6 : 6 ≤ sizeLine := by decide
    refine ⟨fun _ _ => True, ⟨3, rfl, by decide, by decide, for_range (n := 3) (LwP K T a ns) ⟨_, _, _, _, _, _, _, _, _, _, _, _, _, _, _, rfl, sq0, tb0⟩ (fun ti σ H hi h => ?_) fun σ H h => trivial⟩, fun σ H _ => ?_⟩
    · obtain ⟨o1, o2, o3, o4, o5, o6, o7, o8, o9, o10, o11, o12, o13, o14, o15, rfl, sq, tb⟩ := h
      have hi : ti < 3 := hi
      rw [show (0 : Int) + (ti : Int) = (ti : Int) from Int.zero_add _]
      show tCut _ _ _ [some (.ref a), some (.int ti), o2, o3, o4, o5, o6, o7, o8, o9, o10, o11, o12, o13, o14, o15, none, none] H
      -- 1
      refine ⟨fun σ' H' => ∃ p : Addr, σ' = [some (.ref a), some (.int ti), some (.ref p), o3, o4, o5, o6, o7, o8, o9, o10, o11, o12, o13, o14, o15, none, none] ∧ H p = none ∧ Ex H H' ∧ Pool H' p 0, ?_, ?_⟩
      · exact ⟨.ref a, rfl, .int ti, rfl, a, ns, ti, rfl, sq, by rw [sizeLine_eq]; omega, by omega, fun p H1 x1 np S1 => ⟨p, rfl, np, x1, S1⟩⟩
      rintro σ1 H1 ⟨p, rfl, np, x1, S1⟩
      have xN : ExtN H H1 := fun b o e _ => x1 b o e
      have tb1 := x1.tabs tb
      clear x1 tb
      -- 2
      refine ⟨fun σ' H' => ∃ (va : Addr) (vals : List Str), σ' = [some (.ref a), some (.int ti), some (.ref p), some (.ref va), o4, o5, o6, o7, o8, o9, o10, o11, o12, o13, o14, o15, none, none] ∧ ExA p H1 H' ∧ Pool H' p 7 ∧ va ≠ p ∧ H' va = some (.lst (vals.map V.str)) ∧ vals ≠ [] ∧ (∀ x ∈ vals, x ∈ vlN) ∧ vals.Nodup ∧ vals.length ≤ 10, ?_, ?_⟩
      · refine ⟨.ref p, rfl, s6, fun l nl => ⟨p, l, 0, vlN.map V.str, rfl, S1.new nl, by decide, upd_same, by decide, fun q ys H2 x2 S2 nq hq pm => ?_⟩⟩
        obtain ⟨zs, rfl, pz⟩ := perm_strs pm
        have zl : zs.length = 6 := pz.length_eq
        have zn : zs.Nodup := pz.nodup_iff.mpr (by decide +kernel)
        have qp := (S1.new nl).off nq
        refine ⟨.ref p, rfl, p, 4, 6, rfl, S2, by decide, by decide, by decide, fun dd H3 hd x3 S3 => ?_⟩
        refine ⟨1, dd, rfl, rfl, 1 + (dd : Int), rfl, q, _, rfl, .inl (.inl (x3 _ _ qp hq)), fun nl2 nnl => ?_⟩
        rw [show (1 : Int) + (dd : Int) = ((1 + dd : Nat) : Int) by omega, cut_take, ← List.map_take]
        have x4 := Ex.new (o := .lst ((zs.take (1 + dd)).map V.str)) nnl
        refine ⟨nl2, zs.take (1 + dd), rfl, (((Ex.new nl).exA.trans x2).trans x3).trans x4.exA, S3.ex x4, S3.off nnl, upd_same, ?_, fun x m => pz.mem_iff.mp (List.mem_of_mem_take m), (List.take_sublist _ _).nodup zn, by rw [List.length_take]; omega⟩
        intro z
        have := congrArg List.length z
        rw [List.length_take] at this
        have : min (1 + dd) zs.length = 0 := this
        omega
      rintro σ2 H2 ⟨va, vals, rfl, x2, S2, vap, hva, vne, vs, vnd, vlen⟩
      have xN2 := extN_viaP xN np x2.p
      have tb2 := Tabs.exP x2 S1 tb1
      clear x2 S1 tb1 xN H1
      -- 3
      refine ⟨fun σ' H' => ∃ st : Str, σ' = [some (.ref a), some (.int ti), some (.ref p), some (.ref va), some (.str st), o5, o6, o7, o8, o9, o10, o11, o12, o13, o14, o15, none, none] ∧ ExA p H2 H' ∧ Pool H' p 8 ∧ st ∈ vals, ?_, ?_⟩
      · refine ⟨.ref p, rfl, .ref va, rfl, p, va, 7, _, rfl, S2, by decide, vap, hva, fun z => vne (List.map_eq_nil_iff.mp z), by rw [List.length_map]; omega, fun y H3 my x3 S3 => ?_⟩
        obtain ⟨st, ms, rfl⟩ := List.mem_map.mp my
        exact ⟨st, rfl, x3, S3, ms⟩
      rintro σ3 H3 ⟨st, rfl, x3, S3, ms⟩
      have xN3 := extN_viaP xN2 np x3.p
      have tb3 := Tabs.exP x3 S2 tb2
      have hva3 := x3 _ _ vap hva
      clear x3 S2 tb2 xN2 hva H2
      -- 4
      refine ⟨fun σ' H' => ∃ (na : Addr) (nms : List Str), σ' = [some (.ref a), some (.int ti), some (.ref p), some (.ref va), some (.str st), some (.ref na), o6, o7, o8, o9, o10, o11, o12, o13, o14, o15, none, none] ∧ ExA p H3 H' ∧ Pool H' p 14 ∧ na ≠ p ∧ H' na = some (.lst (nms.map V.str)) ∧ nms.Perm nmN, ?_, ?_⟩
      · refine ⟨.ref p, rfl, s6, fun l nl => ⟨p, l, 8, nmN.map V.str, rfl, S3.new nl, by decide, upd_same, by decide, fun q ys H4 x4 S4 nq hq pm => ?_⟩⟩
        obtain ⟨zs, rfl, pz⟩ := perm_strs pm
        exact ⟨q, zs, rfl, (Ex.new nl).exA.trans x4, S4, (S3.new nl).off nq, hq, pz⟩
      rintro σ4 H4 ⟨na, nms, rfl, x4, S4, nap, hna, pn⟩
      have xN4 := extN_viaP xN3 np x4.p
      have tb4 := Tabs.exP x4 S3 tb3
      have hva4 := x4 _ _ vap hva3
      clear x4 S3 tb3 xN3 hva3 H3
      -- 5
      refine ⟨fun σ' H' => ∃ m : Nat, σ' = [some (.ref a), some (.int ti), some (.ref p), some (.ref va), some (.str st), some (.ref na), some (.int m), o7, o8, o9, o10, o11, o12, o13, o14, o15, none, none] ∧ ExA p H4 H' ∧ Pool H' p 15 ∧ m < 3, ?_, ?_⟩
      · exact ⟨.ref p, rfl, p, 3, 14, rfl, S4, by decide, by decide, by decide, fun m H5 hm x5 S5 => ⟨m, rfl, x5, S5, by omega⟩⟩
      rintro σ5 H5 ⟨m, rfl, x5, S5, hm⟩
      have xN5 := extN_viaP xN4 np x5.p
      have tb5 := Tabs.exP x5 S4 tb4
      have hva5 := x5 _ _ vap hva4
      have hna5 := x5 _ _ nap hna
      clear x5 S4 tb4 xN4 hva4 hna H4
      have nl6 : nms.length = 6 := pn.length_eq
      have nnd : nms.Nodup := pn.nodup_iff.mpr (by decide +kernel)
      -- 6
      refine ⟨fun σ' H' => ∃ (dd de : Addr) (dl el : Lds) (k : Nat), σ' = [some (.ref a), some (.int ti), some (.ref p), some (.ref va), some (.str st), some (.ref na), some (.int m), some (.ref dd), some (.ref de), o9, o10, o11, o12, o13, o14, o15, none, none] ∧ ExA p H5 H' ∧ Pool H' p 616 ∧ DD H' dd dl ∧ DD H' de el ∧ dl.map (·.1) = nms.take m ∧ el.map (·.1) = (nms.drop m).take k ∧ (∀ l ∈ dl, LeadOk vals true l.2) ∧ ∀ l ∈ el, LeadOk vals false l.2, ?_, ?_⟩
      · refine asg_tup (cons_one ?_)
        refine ⟨.ref p, rfl, .ref na, rfl, .int m, rfl, m, rfl, na, _, rfl, .inl (.inl hna5), fun n1 nn1 => ?_⟩
        rw [cut_take, ← List.map_take]
        have x6 := Ex.new (o := .lst ((nms.take m).map V.str)) nn1
        refine ⟨.ref va, rfl, p, n1, va, 15, nms.take m, vals, true, rfl, S5.ex x6, by decide, upd_same, S5.off nn1, x6 _ _ hva5, vap, (List.take_sublist _ _).nodup nnd, by rw [List.length_take]; omega, vnd, vne, vlen, fun dd dl H7 ek lo x7 S7 ndd hdd => ?_⟩
        have y7 := x6.exA.trans x7
        refine cons_one ⟨.ref p, rfl, .ref na, rfl, .int m, rfl, m, rfl, na, _, rfl, .inl (.inl (y7 _ _ nap hna5)), fun n2 nn2 => ?_⟩
        rw [cut_drop, ← List.map_drop]
        have x8 := Ex.new (o := .lst ((nms.drop m).map V.str)) nn2
        have n2p := S7.off nn2
        refine ⟨.ref p, rfl, p, 3, 315, rfl, S7.ex x8, by decide, by decide, by decide, fun k H9 hk x9 S9 => ?_⟩
        refine ⟨k, rfl, n2, _, rfl, .inl (.inl (x9 _ _ n2p upd_same)), fun n3 nn3 => ?_⟩
        rw [cut_take, ← List.map_take]
        have xa := Ex.new (o := .lst (((nms.drop m).take k).map V.str)) nn3
        have ya := (y7.trans x8.exA).trans (x9.trans xa.exA)
        refine ⟨.ref va, rfl, p, n3, va, 316, (nms.drop m).take k, vals, false, rfl, S9.ex xa, by decide, upd_same, S9.off nn3, ya _ _ vap hva5, vap, ((List.take_sublist _ _).trans (List.drop_sublist _ _)).nodup nnd, by rw [List.length_take, List.length_drop]; omega, vnd, vne, vlen, fun de el HB ek2 lo2 xb SB nde hde => ⟨s2, fun tp ntp => ?_⟩⟩
        have xc := Ex.new (o := .tup [.ref dd, .ref de]) ntp
        have hdd2 := ((hdd.ex x8).exP (x9.trans (xa.exA.trans xb)) (S7.ex x8)).ex xc
        exact ⟨tp, _, rfl, .inl (.inl upd_same), rfl, .ref dd, [.ref de], rfl, .ref de, [], rfl, rfl, dd, de, dl, el, k, rfl, (ya.trans xb).trans xc.exA, SB.ex xc, hdd2, hde.ex xc, ek, ek2, lo, lo2⟩
      rintro σ6 H6 ⟨dd, de, dl, el, k, rfl, x6, S6, hdd, hde, ek, ek2, lo, lo2⟩
      have xN6 := extN_viaP xN5 np x6.p
      have tb6 := Tabs.exP x6 S5 tb5
      have hva6 := x6 _ _ vap hva5
      clear x6 S5 tb5 xN5 hva5 hna5 H5
      obtain ⟨ft, sd, se, dln, eln⟩ := law_fit (st := st) vne vs vnd vlen ms pn ek ek2 lo lo2
      obtain ⟨d, ed⟩ : ∃ d : ThD, d = ⟨vals, st, dl, el⟩ := ⟨_, rfl⟩
      rw [← ed] at ft
      have A6 : AmD T p va dd de d H6 616 := by subst ed; exact ⟨S6, hva6, hdd, hde, tb6⟩
      obtain ⟨rfl, rfl, rfl, rfl⟩ : vals = d.vals ∧ st = d.start ∧ dl = d.deeds ∧ el = d.ents := by subst ed; exact ⟨rfl, rfl, rfl, rfl⟩
      clear ek ek2 lo lo2 hva6 hdd hde tb6 ed S6 nl6 nnd pn nap
      -- 7
      refine ⟨fun σ' H' => ∃ (hl l0 d1 d2 : Addr), σ' = [some (.ref a), some (.int ti), some (.ref p), some (.ref va), some (.str d.start), some (.ref na), some (.int m), some (.ref dd), some (.ref de), some (.ref hl), o10, o11, o12, o13, o14, o15, none, none] ∧ Ex H6 H' ∧ H6 l0 = none ∧ l0 ≠ hl ∧ H6 hl = none ∧ H' l0 = some (.lst (d.vals.map V.str)) ∧ H' hl = some (.lst [.ref l0, .ref d1, .ref d2]) ∧ DF H6 H' d1 d.deeds ∧ DF H6 H' d2 d.ents, ?_, ?_⟩
      · refine lst_one (cons_one ⟨.ref va, rfl, va, _, rfl, .inl (.inl (.inl A6.hva)), fun l0 nl0 => cons_one ?_⟩)
        have x0 := Ex.new (o := .lst (d.vals.map V.str)) nl0
        have h0 : upd H6 l0 (.lst (d.vals.map V.str)) l0 = some (.lst (d.vals.map V.str)) := upd_same
        generalize upd H6 l0 (.lst (d.vals.map V.str)) = Ha at x0 h0 ⊢
        show tCpd K 7 _ _ _
        refine cpd_go rfl (by decide) rfl (A6.dds.ex x0) ft.dnd (by omega) fun d1 Hb xb f1 => cons_one ?_
        have x1 := x0.trans xb
        show tCpd K 8 _ _ _
        refine cpd_go rfl (by decide) rfl (A6.des.ex x1) ft.end_ (by omega) fun d2 Hc xc f2 => ⟨by show 3 ≤ sizeLine; decide, fun hl nhl => ?_⟩
        have xd := Ex.new (o := .lst [.ref l0, .ref d1, .ref d2]) nhl
        have y := x1.trans (xc.trans xd)
        have hl0 := (xb.trans xc) _ _ h0
        exact ⟨hl, l0, d1, d2, rfl, y, nl0, (fun z => by rw [z, nhl] at hl0; cases hl0), (x1.trans xc).none nhl, xd _ _ hl0, upd_same, ((f1.ex (xc.trans xd)).old fun b n => x0.none n), (f2.ex xd).old fun b n => x1.none n⟩
      rintro σ7 H7 ⟨hl, l0, d1, d2, rfl, x7, nl0, l0hl, nhl, hl0, hhl, f1, f2⟩
      -- 8
      refine ⟨fun σ' H' => ∃ (t u : Addr) (d' d'' : ThD), σ' = [some (.ref a), some (.int ti), some (.ref p), some (.ref va), some (.str d.start), some (.ref na), some (.int m), some (.ref dd), some (.ref de), some (.ref hl), some (.ref t), some (.ref u), o12, o13, o14, o15, none, none] ∧ Ex H7 H' ∧ IsThF H7 H' C t d' ∧ IsThF H7 H' C u d'' ∧ IsOrd d d' ∧ IsOrd d d'', ?_, ?_⟩
      · refine par_one (cons_one (make_one ?_))
        refine ⟨.ref hl, rfl, hl, _, 0, .ref l0, rfl, rfl, .inl (.inl hhl), at_nat (k := 0) rfl, .str d.start, rfl, .ref hl, rfl, hl, _, 1, .ref d1, rfl, rfl, .inl (.inl hhl), at_nat (k := 1) rfl, .ref hl, rfl, hl, _, 2, .ref d2, rfl, rfl, .inl (.inl hhl), at_nat (k := 2) rfl, init_goL d hl0 f1.dd f2.dd ft fun t Ha d' nt xa th io => cons_one (make_one ?_)⟩
        have va1 := xa _ _ (x7 _ _ A6.hva)
        refine ⟨.ref va, rfl, va, _, rfl, .inl ⟨.inl (.inl va1), fun vt nvt => ?_⟩⟩
        have xb := Ex.new (o := .tup (d.vals.map V.str)) nvt
        have hvt : upd Ha vt (.tup (d.vals.map V.str)) vt = some (.tup (d.vals.map V.str)) := upd_same
        generalize upd Ha vt (.tup (d.vals.map V.str)) = Hb at xb hvt ⊢
        have xc := x7.trans (xa.trans xb)
        refine ⟨.str d.start, rfl, .ref dd, rfl, .ref de, rfl, init_goT d hvt (A6.dds.ex xc) (A6.des.ex xc) ft fun u Hc d'' nu xd uh io2 => ⟨_, _, rfl, t, u, d', d'', rfl, xa.trans (xb.trans xd), th.ex (xb.trans xd), uh.old fun b n => (xa.trans xb).none n, io, io2⟩⟩
      rintro σ8 H8 ⟨t, u, d', d'', rfl, x8, th, uh, io, io2⟩
      obtain ⟨k1, b1, e11, e12, e13, e14⟩ := df_vals f1
      obtain ⟨k2, b2, e21, e22, e23, e24⟩ := df_vals f2
      -- 9
      refine ⟨fun σ' H' => σ' = [some (.ref a), some (.int ti), some (.ref p), some (.ref va), some (.str d.start), some (.ref na), some (.int m), some (.ref dd), some (.ref de), some (.ref hl), some (.ref t), some (.ref u), o12, o13, o14, o15, none, none] ∧ H' = upd H8 l0 (.lst (d.vals.map V.str ++ [.str "more"])), ?_, ?_⟩
      · refine ⟨.ref hl, rfl, hl, _, 0, .ref l0, rfl, rfl, .inl (.inl (x8 _ _ hhl)), at_nat (k := 0) rfl, .inl ⟨rfl, _, .inl (.inl (x8 _ _ hl0))⟩, cons_one ?_⟩
        exact ⟨l0, _, .str "more", rfl, rfl, x8 _ _ hl0, by rw [sizeLine_eq, List.length_map]; have := ft.vln; omega, rfl, rfl⟩
      rintro σ9 H9 ⟨rfl, e9⟩
      have h8l := x8 _ _ hl0
      have x69 : Ex H6 H9 := fun b o e => by
        rw [e9, upd_ne fun z => by rw [z, nl0] at e; cases e]
        exact x8 _ _ (x7 _ _ e)
      have up9 : ∀ {b : Addr} {o : HO}, H8 b = some o → (∀ xs, o ≠ .lst xs) → H9 b = some o := fun {b o} e n => by
        rw [e9, upd_ne fun z => by rw [z, h8l] at e; cases e; exact n _ rfl]
        exact e
      have h9hl : H9 hl = some (.lst [.ref l0, .ref d1, .ref d2]) := by
        rw [e9, upd_ne l0hl.symm]
        exact x8 _ _ hhl
      have hk9 : HkT H7 H8 H9 := fun b o c e => by
        rw [e9, upd_ne fun z => ?_]
        · exact e
        · rcases c with c | c
          · rw [z, hl0] at c; cases c
          · rw [z, h8l] at e; cases e; exact c.1 _ rfl
      clear e9 f1 f2 hl0 hhl nhl nl0 l0hl h8l
      have dk1 := up9 (x8 _ _ e11) fun _ z => nomatch z
      have dk2 := up9 (x8 _ _ e21) fun _ z => nomatch z
      have bN : ∀ b ∈ b1 ++ b2, H6 b = none ∧ ∃ l, H7 b = some (.dK l) := fun b m => by
        rcases List.mem_append.mp m with m | m
        · exact e14 b m
        · exact e24 b m
      have b9 : ∀ b ∈ b1 ++ b2, ∃ l, H9 b = some (.dK l) := fun b m => by
        obtain ⟨_, l, e⟩ := bN b m
        exact ⟨l, up9 (x8 _ _ e) fun _ z => nomatch z⟩
      have bl : (b1 ++ b2).length ≤ 100 := by rw [List.length_append]; omega
      clear up9 e14 e24 e11 e21
      -- 10
      refine ⟨fun σ' H' => ∃ o12, σ' = [some (.ref a), some (.int ti), some (.ref p), some (.ref va), some (.str d.start), some (.ref na), some (.int m), some (.ref dd), some (.ref de), some (.ref hl), some (.ref t), some (.ref u), o12, o13, o14, o15, none, none] ∧ Ex H6 H' ∧ HkT H7 H8 H', ?_, ?_⟩
      · refine op_one ⟨.ref hl, rfl, hl, _, 1, .ref d1, rfl, rfl, .inl (.inl h9hl), at_nat (k := 1) rfl, d1, k1, rfl, dk1, fun q1 nq1 => ?_⟩
        have y1 := Ex.new (o := .lst (k1.map (·.2))) nq1
        refine ⟨.ref hl, rfl, hl, _, 2, .ref d2, rfl, rfl, .inl (.inl (y1 _ _ h9hl)), at_nat (k := 2) rfl, d2, k2, rfl, y1 _ _ dk2, fun q2 nq2 => ?_⟩
        have y2 := Ex.new (o := .lst (k2.map (·.2))) nq2
        refine ⟨q1, q2, _, _, rfl, rfl, y2 _ _ upd_same, upd_same, by rw [e12, e22, List.length_map, List.length_map, sizeLine_eq]; omega, fun L nL => ⟨L, rfl, ⟨_, .inl (.inl upd_same)⟩, ?_⟩⟩
        have y3 := Ex.new (o := .lst (k1.map (·.2) ++ k2.map (·.2))) nL
        have hL : upd (upd (upd H9 q1 (.lst (k1.map (·.2)))) q2 (.lst (k2.map (·.2)))) L (.lst (k1.map (·.2) ++ k2.map (·.2))) L = some (.lst ((b1 ++ b2).map V.ref)) := by rw [upd_same, e12, e22, List.map_append]
        have y := y1.trans (y2.trans y3)
        generalize upd (upd (upd H9 q1 (.lst (k1.map (·.2)))) q2 (.lst (k2.map (·.2)))) L (.lst (k1.map (·.2) ++ k2.map (·.2))) = HL at hL y ⊢
        have bL : ∀ b ∈ b1 ++ b2, ∃ l, HL b = some (.dK l) := fun b m => (b9 b m).imp fun _ e => y _ _ e
        have nLb : L ∉ b1 ++ b2 := fun m => by
          obtain ⟨l, e⟩ := bL L m
          rw [hL] at e
          cases e
        refine for_list (K := K) (xs := (b1 ++ b2).map V.ref) (fun i σ' H' => ∃ o12, σ' = [some (.ref a), some (.int ti), some (.ref p), some (.ref va), some (.str d.start), some (.ref na), some (.int m), some (.ref dd), some (.ref de), some (.ref hl), some (.ref t), some (.ref u), o12, o13, o14, o15, none, none] ∧ ClrI (b1 ++ b2) HL H') ⟨o12, rfl, fun _ _ _ e => e, bL⟩ (fun i σ' H' _ ⟨o, e, c⟩ => .inl (.inl (c.1 _ _ nLb hL))) (fun i x σ' H' ex ⟨o, e, c⟩ => ?_) fun σ' H' ⟨o, e, c⟩ => ⟨o, e, fun b o e => c.1 b o (fun mm => by rw [(bN b mm).1] at e; cases e) (y _ _ (x69 _ _ e)), fun b o q e => c.1 b o (fun mm => ?_) (y _ _ (hk9 b o q e))⟩
        · subst e
          rw [List.getElem?_map] at ex
          obtain ⟨b, eb, rfl⟩ := Option.map_eq_some_iff.mp ex
          have mb := List.mem_of_getElem? eb
          obtain ⟨l, el⟩ := c.2 b mb
          exact ⟨.ref b, rfl, .inr (.inr (.inl ⟨rfl, .inl ⟨l, el⟩⟩)), b, l, rfl, rfl, el, _, rfl, c.put mb⟩
        · obtain ⟨_, l, e7⟩ := bN b mm
          rcases q with q | q
          · rw [e7] at q; cases q
          · rw [x8 _ _ e7] at e; cases e; exact q.2 _ rfl
      rintro σ10 H10 ⟨o12, rfl, x610, hk⟩
      have A10 := A6.ex x610
      have xN10 := extN_ex xN6 x610
      have th10 := (th.keep hk).th
      have uh10 := (uh.keep hk).th
      clear hk x610 bl b9 bN dk1 dk2 hk9 h9hl x69 e12 e13 e22 e23 k1 k2 b1 b2 th uh x8 x7 A6 xN6 H9 H8 H7 H6
      have m1 := made_of ft vs io
      have m2 := made_of ft vs io2
      have dl6 : d'.deeds.length ≤ 6 := by rw [m1.dl]; exact dln
      have el6 : d'.ents.length ≤ 6 := by rw [m1.el]; exact eln
      have vln := ft.vln
      -- 11
      refine ⟨fun σ' H' => σ' = [some (.ref a), some (.int ti), some (.ref p), some (.ref va), some (.str d.start), some (.ref na), some (.int m), some (.ref dd), some (.ref de), some (.ref hl), some (.ref t), some (.ref u), o12, o13, o14, o15, none, none] ∧ Ex H10 H', ?_, ?_⟩
      · obtain ⟨dx, fs, et, g1, g2, g3, g4⟩ := th_ins th10
        refine ⟨.ref t, rfl, t, dx, fs, rfl, et, g1, t, d', rfl, th10, fun w nw => ⟨.inl ⟨rfl, _, .inl (.inl upd_same)⟩, cons_one ⟨w, _, .str "more", rfl, rfl, upd_same, ?_, rfl, one_new nw⟩⟩⟩
        rw [sizeLine_eq, List.length_map, m1.vals]
        omega
      rintro σ11 H11 ⟨rfl, x11⟩
      have th11 := th10.ex x11
      -- 12
      refine ⟨fun σ' H' => σ' = [some (.ref a), some (.int ti), some (.ref p), some (.ref va), some (.str d.start), some (.ref na), some (.int m), some (.ref dd), some (.ref de), some (.ref hl), some (.ref t), some (.ref u), o12, o13, o14, o15, none, none] ∧ Ex H11 H', ?_, ?_⟩
      · obtain ⟨dx, fs, et, g1, g2, g3, g4⟩ := th_ins th11
        refine ⟨.ref t, rfl, t, dx, fs, rfl, et, g3, t, d', rfl, th11, m1.ap.dn, by show d'.deeds.length ≤ 1000; omega, fun q H' x f => ?_⟩
        obtain ⟨nq, kvs, hq, _⟩ := f
        exact ⟨.inr (.inr (.inl ⟨rfl, .inl ⟨_, hq⟩⟩)), q, _, rfl, rfl, hq, rfl, fun b o e => (upd_ne fun z => by rw [z, nq] at e; cases e).trans (x b o e)⟩
      rintro σ12 H12 ⟨rfl, x12⟩
      have th12 := th11.ex x12
      -- 13
      refine ⟨fun σ' H' => ∃ o12, σ' = [some (.ref a), some (.int ti), some (.ref p), some (.ref va), some (.str d.start), some (.ref na), some (.int m), some (.ref dd), some (.ref de), some (.ref hl), some (.ref t), some (.ref u), o12, o13, o14, o15, none, none] ∧ Ex H12 H', ?_, ?_⟩
      · obtain ⟨dx, fs, et, g1, g2, g3, g4⟩ := th_ins th12
        refine op_one ⟨.ref t, rfl, t, dx, fs, rfl, et, g4, t, d', rfl, th12, m1.ap.en, by show d'.ents.length ≤ 1000; omega, fun q1 Ha xa fa => ?_⟩
        obtain ⟨k1, b1, e11, e12, e13, e14⟩ := df_vals fa
        refine ⟨q1, k1, rfl, e11, fun v1 nv1 => ?_⟩
        have xb := Ex.new (o := .lst (k1.map (·.2))) nv1
        have hv1 : upd Ha v1 (.lst (k1.map (·.2))) v1 = some (.lst (k1.map (·.2))) := upd_same
        have b14 : ∀ b ∈ b1, H12 b = none ∧ ∃ l, upd Ha v1 (.lst (k1.map (·.2))) b = some (.dK l) := fun b m => ⟨(e14 b m).1, (e14 b m).2.imp fun _ e => xb _ _ e⟩
        have xab := xa.trans xb
        clear e14 nv1 e11 fa xb xa
        generalize upd Ha v1 (.lst (k1.map (·.2))) = Hb at hv1 b14 xab ⊢
        refine ⟨.ref t, rfl, t, dx, fs, rfl, xab _ _ et, g3, t, d', rfl, th12.ex xab, m1.ap.dn, by show d'.deeds.length ≤ 1000; omega, fun q2 Hc xc fc => ?_⟩
        obtain ⟨k2, b2, e21, e22, e23, e24⟩ := df_vals fc
        refine ⟨q2, k2, rfl, e21, fun v2 nv2 => ?_⟩
        have xd := Ex.new (o := .lst (k2.map (·.2))) nv2
        refine ⟨v1, v2, _, _, rfl, rfl, (xc.trans xd) _ _ hv1, upd_same, ?_, fun L nL => ⟨L, rfl, ⟨_, .inl (.inl upd_same)⟩, ?_⟩⟩
        · have e23 : b2.length = d'.deeds.length := e23
          have e13 : b1.length = d'.ents.length := e13
          rw [e12, e22, List.length_map, List.length_map, sizeLine_eq]
          omega
        have y3 := Ex.new (o := .lst (k1.map (·.2) ++ k2.map (·.2))) nL
        have hL : upd (upd Hc v2 (.lst (k2.map (·.2)))) L (.lst (k1.map (·.2) ++ k2.map (·.2))) L = some (.lst ((b1 ++ b2).map V.ref)) := by rw [upd_same, e12, e22, List.map_append]
        have y := xd.trans y3
        generalize upd (upd Hc v2 (.lst (k2.map (·.2)))) L (.lst (k1.map (·.2) ++ k2.map (·.2))) = HL at hL y ⊢
        have bN : ∀ b ∈ b1 ++ b2, H12 b = none := fun b m => by
          rcases List.mem_append.mp m with m | m
          · exact (b14 b m).1
          · exact xab.none (e24 b m).1
        have bL : ∀ b ∈ b1 ++ b2, ∃ l, HL b = some (.dK l) := fun b m => by
          rcases List.mem_append.mp m with m | m
          · exact (b14 b m).2.imp fun _ e => y _ _ (xc _ _ e)
          · exact (e24 b m).2.imp fun _ e => y _ _ e
        have nLb : L ∉ b1 ++ b2 := fun m => by
          obtain ⟨l, e⟩ := bL L m
          rw [hL] at e
          cases e
        refine for_list (K := K) (xs := (b1 ++ b2).map V.ref) (fun i σ' H' => ∃ o12, σ' = [some (.ref a), some (.int ti), some (.ref p), some (.ref va), some (.str d.start), some (.ref na), some (.int m), some (.ref dd), some (.ref de), some (.ref hl), some (.ref t), some (.ref u), o12, o13, o14, o15, none, none] ∧ ClrI (b1 ++ b2) HL H') ⟨o12, rfl, fun _ _ _ e => e, bL⟩ (fun i σ' H' _ ⟨o, e, c⟩ => .inl (.inl (c.1 _ _ nLb hL))) (fun i x σ' H' ex ⟨o, e, c⟩ => ?_) fun σ' H' ⟨o, e, c⟩ => ⟨o, e, fun b o e => c.1 b o (fun mm => by rw [bN b mm] at e; cases e) (y _ _ (xc _ _ (xab _ _ e)))⟩
        subst e
        rw [List.getElem?_map] at ex
        obtain ⟨b, eb, rfl⟩ := Option.map_eq_some_iff.mp ex
        have mb := List.mem_of_getElem? eb
        obtain ⟨l, el⟩ := c.2 b mb
        exact ⟨.ref b, rfl, .inr (.inr (.inl ⟨rfl, .inl ⟨l, el⟩⟩)), b, l, rfl, rfl, el, _, rfl, c.put mb⟩
      rintro σ13 H13 ⟨o12, rfl, x13⟩
      have x3 := x11.trans (x12.trans x13)
      have A13 := A10.ex x3
      have xN13 := extN_ex xN10 x3
      have th13 := th10.ex x3
      have uh13 := uh10.ex x3
      clear th12 th11 x13 x12 x11 x3 A10 xN10 th10 uh10 H12 H11 H10
      -- 14
      refine ⟨fun σ' H' => ∃ (q w1 rw1 : Addr), σ' = [some (.ref a), some (.int ti), some (.ref p), some (.ref va), some (.str d.start), some (.ref na), some (.int m), some (.ref dd), some (.ref de), some (.ref hl), some (.ref t), some (.ref u), o12, some (.ref q), o14, o15, none, none] ∧ Ex H13 H' ∧ H' q = some (.lst [.ref w1, .str d'.start, .ref rw1]) ∧ H' w1 = some (.lst (d'.vals.map V.str)) ∧ RowsAt H' rw1 d'.deeds, ?_, ?_⟩
      · obtain ⟨dx, fs, et, g1, g2, g3, g4⟩ := th_ins th13
        refine lst_one (cons_one ⟨.ref t, rfl, t, dx, fs, rfl, et, g1, t, d', rfl, th13, fun w nw => cons_one ?_⟩)
        have xa := Ex.new (o := .lst (d'.vals.map V.str)) nw
        have hw : upd H13 w (.lst (d'.vals.map V.str)) w = some (.lst (d'.vals.map V.str)) := upd_same
        generalize upd H13 w (.lst (d'.vals.map V.str)) = Ha at xa hw ⊢
        have th2 := th13.ex xa
        refine ⟨.ref t, rfl, t, dx, fs, rfl, xa _ _ et, g2, t, d', rfl, th2, cons_one ?_⟩
        show tRows K _ _ _ _
        refine rows_go (ls := d'.deeds) (by omega) m1.di (fun Q' q => ⟨.ref t, rfl, t, dx, fs, rfl, xa _ _ et, g3, t, d', rfl, th2, m1.ap.dn, by show d'.deeds.length ≤ 1000; omega, q⟩) fun D Hb xb nD rw1 => ⟨by show 3 ≤ sizeLine; decide, fun q nq => ?_⟩
        have xc := Ex.new (o := .lst [.ref w, .str d'.start, .ref D]) nq
        exact ⟨q, w, D, rfl, xa.trans (xb.trans xc), upd_same, (xb.trans xc) _ _ hw, rw1.ex xc⟩
      rintro σ14 H14 ⟨q, w1, rw1, rfl, x14, hq, hw1, hrw⟩
      have A14 := A13.ex x14
      have xN14 := extN_ex xN13 x14
      have th14 := th13.ex x14
      have uh14 := uh13.ex x14
      clear A13 xN13 th13 uh13 x14 H13
      -- 15
      refine ⟨fun σ' H' => σ' = [some (.ref a), some (.int ti), some (.ref p), some (.ref va), some (.str d.start), some (.ref na), some (.int m), some (.ref dd), some (.ref de), some (.ref hl), some (.ref t), some (.ref u), o12, some (.ref q), o14, o15, none, none] ∧ Ex H14 H', ?_, ?_⟩
      · refine op_one ⟨.ref q, rfl, lst_one (cons_one ⟨.ref va, rfl, cons_one ⟨.str d.start, rfl, cons_one ?_⟩⟩)⟩
        refine ⟨.ref dd, rfl, .ref va, rfl, dd, va, d.deeds, d.vals, rfl, A14.dds, ft.dnd, by omega, A14.hva, by omega, fun r2 Ha nss pm so xa nr2 hr2 => ⟨by show 3 ≤ sizeLine; decide, fun q2 nq2 => ?_⟩⟩
        have xb := Ex.new (o := .lst [.ref va, .str d.start, .ref r2]) nq2
        have xab := xa.trans xb
        have hq2 : upd Ha q2 (.lst [.ref va, .str d.start, .ref r2]) q2 = some (.lst [.ref va, .str d.start, .ref r2]) := upd_same
        have hr3 := hr2.ex xb
        rw [← deeds_of io pm so] at hr3
        generalize upd Ha q2 (.lst [.ref va, .str d.start, .ref r2]) = Hb at xab hq2 hr3 ⊢
        obtain ⟨xs, ys, z1, z2, z3⟩ := rows_eqT (K := K) (hrw.ex xab) hr3
        have f1 : EqT K Hb 4 (.ref w1) (.ref va) := by
          refine .inr ⟨w1, va, _, _, rfl, rfl, .inl ⟨.inl (.inl (xab _ _ hw1)), .inl (.inl (xab _ _ A14.hva))⟩, ?_⟩
          rw [m1.vals]
          exact strs_eqT _
        have f2 : EqT K Hb 4 (.str d'.start) (.str d.start) := .inl (.inl ⟨by rw [m1.start], rfl⟩)
        have f3 : EqT K Hb 4 (.ref rw1) (.ref r2) := .inr ⟨rw1, r2, xs, ys, rfl, rfl, .inl ⟨.inl (.inl z1), .inl (.inl z2)⟩, z3⟩
        refine ⟨q, q2, _, _, 4, by decide, rfl, rfl, .inl (.inl (xab _ _ hq)), .inl (.inl hq2), .cons f1 (.cons f2 (.cons f3 .nil)), false, rfl, ?_⟩
        refine ⟨.ref t, rfl, .ref u, rfl, ?_⟩
        refine ne_go (th14.ex xab) m1.ap (uh14.ex xab) m2.ap (eq_twin io io2 m1 m2) fun Hc xc => ?_
        refine ⟨false, rfl, ?_⟩
        refine ⟨.ref t, rfl, .ref va, rfl, ?_⟩
        refine eqL_go (th14.ex (xab.trans xc)) m1.ap ((xab.trans xc) _ _ A14.hva) fun Hd xd => ?_
        exact ⟨false, rfl, rfl, xab.trans (xc.trans xd)⟩
      rintro σ15 H15 ⟨rfl, x15⟩
      have A15 := A14.ex x15
      have xN15 := extN_ex xN14 x15
      have th15 := th14.ex x15
      clear A14 xN14 th14 uh14 x15 hrw hw1 hq H14 m2 io2
      -- 16
      refine ⟨fun σ' H' => σ' = [some (.ref a), some (.int ti), some (.ref p), some (.ref va), some (.str d.start), some (.ref na), some (.int m), some (.ref dd), some (.ref de), some (.ref hl), some (.ref t), some (.ref u), o12, some (.ref q), o14, o15, none, none] ∧ Ex H15 H', ?_, ?_⟩
      · obtain ⟨dx, fs, et, g1, g2, g3, g4⟩ := th_ins th15
        refine op_one ?_
        show tRows K _ _ _ _
        refine rows_go (ls := d'.ents) (by omega) m1.ei (fun Q' q => ⟨.ref t, rfl, t, dx, fs, rfl, et, g4, t, d', rfl, th15, m1.ap.en, by show d'.ents.length ≤ 1000; omega, q⟩) fun D Hb xb nD rw1 => ?_
        have A2 := A15.ex xb
        refine ⟨.ref de, rfl, .ref va, rfl, de, va, d.ents, d.vals, rfl, A2.des, ft.end_, by omega, A2.hva, by omega, fun r2 Ha nss pm so xa nr2 hr2 => ?_⟩
        rw [← ents_of io pm so] at hr2
        obtain ⟨xs, ys, z1, z2, z3⟩ := rows_eqT (K := K) (rw1.ex xa) hr2
        exact ⟨D, r2, xs, ys, 3, by decide, rfl, rfl, .inl (.inl z1), .inl (.inl z2), z3, false, rfl, rfl, xb.trans xa⟩
      rintro σ16 H16 ⟨rfl, x16⟩
      have A16 := A15.ex x16
      have xN16 := extN_ex xN15 x16
      have th16 := th15.ex x16
      clear A15 xN15 th15 x16 H15
      have yd : ("yy" : Str) ∉ d.deeds.map (·.1) := fun z => absurd (sd _ z) (show ("yy" : Str) ∉ nmN by decide +kernel)
      have ye : ("yy" : Str) ∉ d.ents.map (·.1) := fun z => absurd (se _ z) (show ("yy" : Str) ∉ nmN by decide +kernel)
      have yok : okS "yy" = true := by decide +kernel
      have elen : d.ents.length ≤ 6 := eln
      have dlen : d.deeds.length ≤ 6 := dln
      -- 17
      refine ⟨fun σ' H' => ∃ mo : Addr, σ' = [some (.ref a), some (.int ti), some (.ref p), some (.ref va), some (.str d.start), some (.ref na), some (.int m), some (.ref dd), some (.ref de), some (.ref hl), some (.ref t), some (.ref u), o12, some (.ref q), some (.ref mo), o15, none, none] ∧ Ex H16 H' ∧ DD H' mo (d.ents ++ [(("yy" : Str), [])]), ?_, ?_⟩
      · obtain ⟨kvs, hk, pr⟩ := A16.des
        have pr : PR H16 d.ents kvs := pr
        have kl : kvs.length = d.ents.length := (Paired.length pr).symm
        have knd : ((kvs ++ [((.inr "yy" : Key), V.non)]).map (·.1)).Nodup := nd_snoc (by rw [pr.keys]; exact nd_inr ft.end_) (by rw [pr.keys]; exact fun z => ye (by obtain ⟨x, mx, e⟩ := List.mem_map.mp z; cases e; exact mx))
        show tExt1 K 8 _ _ _ _
        refine ext1_go (k := .inr "yy") (W := fun v H => ∃ e, v = .ref e ∧ H e = some (.dK [])) rfl hk (by omega) knd (fun v H1 H2 x ⟨e, e1, e2⟩ => ⟨e, e1, x _ _ e2⟩) (fun H1 Q' x q => fun e ne => q _ _ (Ex.new ne) ⟨e, rfl, upd_same⟩) fun mo H' v x nq hq hv => ?_
        obtain ⟨e, rfl, he⟩ := hv
        exact ⟨mo, rfl, x, dd_more (l := []) hq (Paired.mapP pr fun _ _ ⟨e1, b, e2, e3⟩ => ⟨e1, b, e2, x _ _ e3⟩) he⟩
      rintro σ17 H17 ⟨mo, rfl, x17, hmo⟩
      have A17 := A16.ex x17
      have xN17 := extN_ex xN16 x17
      have th17 := th16.ex x17
      clear A16 xN16 th16 x17 H16
      -- 18
      refine ⟨fun σ' H' => σ' = [some (.ref a), some (.int ti), some (.ref p), some (.ref va), some (.str d.start), some (.ref na), some (.int m), some (.ref dd), some (.ref de), some (.ref hl), some (.ref t), some (.ref u), o12, some (.ref q), some (.ref mo), o15, none, none] ∧ Ex H17 H', ?_, ?_⟩
      · refine ⟨.ref t, rfl, make_one ?_⟩
        refine ⟨.ref va, rfl, .str d.start, rfl, .ref dd, rfl, .ref mo, rfl, init_goL ⟨d.vals, d.start, d.deeds, d.ents ++ [(("yy" : Str), [])]⟩ A17.hva A17.dds hmo (fit_ent ft yok yd ye (by omega)) fun e Ha e' ne xa eh ioe => ?_⟩
        have me := made_of (fit_ent ft yok yd ye (by omega)) vs ioe
        have el7 : e'.ents.length = d.ents.length + 1 := me.el.trans (by show (d.ents ++ [(("yy" : Str), [])]).length = _; rw [List.length_append]; rfl)
        refine eq_go (th17.ex xa) m1.ap eh.th me.ap (.inr ⟨m1.vals.trans me.vals.symm, .inr ⟨m1.start.trans me.start.symm, .inr ⟨ord_deeds io ioe rfl rfl, .inl ⟨by rw [m1.el, el7]; omega, rfl⟩⟩⟩⟩) fun Hb xb => ?_
        have xab := xa.trans xb
        have Ab := A17.ex xab
        by_cases lt : 1 < d.vals.length
        · refine ⟨false, rfl, .ref va, rfl, .ref va, d.vals.length, rfl, .inl ⟨_, .inl (.inl Ab.hva), by rw [List.length_map]⟩, d.vals.length, 1, rfl, rfl, true, congrArg V.bl (decide_eq_true (by omega)), ?_⟩
          refine ⟨.ref t, rfl, make_one ?_⟩
          refine ⟨.ref va, rfl, va, _, rfl, .inl (.inl Ab.hva), fun rv nrv => ?_⟩
          have xc := Ex.new (o := .lst ((d.vals.map V.str).reverse)) nrv
          have hrv : upd Hb rv (.lst ((d.vals.map V.str).reverse)) rv = some (.lst (d.vals.reverse.map V.str)) := by rw [upd_same, List.map_reverse]
          generalize upd Hb rv (.lst ((d.vals.map V.str).reverse)) = Hc at xc hrv ⊢
          have Ac := Ab.ex xc
          refine ⟨.str d.start, rfl, .ref dd, rfl, .ref de, rfl, init_goL ⟨d.vals.reverse, d.start, d.deeds, d.ents⟩ hrv Ac.dds Ac.des (fit_rev ft) fun f Hd f' nf xd fh iof => ?_⟩
          have mf := made_of (fit_rev ft) (fun x m => vs x (List.mem_reverse.mp m)) iof
          refine eq_go (th17.ex (xab.trans (xc.trans xd))) m1.ap fh.th mf.ap (.inl ⟨?_, rfl⟩) fun He xe => ⟨false, rfl, rfl, xab.trans (xc.trans (xd.trans xe))⟩
          rw [m1.vals, mf.vals]
          exact rev_ne ft.vnd lt
        · exact ⟨false, rfl, .ref va, rfl, .ref va, d.vals.length, rfl, .inl ⟨_, .inl (.inl Ab.hva), by rw [List.length_map]⟩, d.vals.length, 1, rfl, rfl, false, congrArg V.bl (decide_eq_false (by omega)), rfl, xab⟩
      rintro σ18 H18 ⟨rfl, x18⟩
      have A18 := A17.ex x18
      have xN18 := extN_ex xN17 x18
      have th18 := th17.ex x18
      clear A17 xN17 th17 x18 hmo H17
      -- 19
      refine ⟨fun σ' H' => ∃ wd : Addr, σ' = [some (.ref a), some (.int ti), some (.ref p), some (.ref va), some (.str d.start), some (.ref na), some (.int m), some (.ref dd), some (.ref de), some (.ref hl), some (.ref t), some (.ref u), o12, some (.ref q), some (.ref mo), some (.ref wd), none, none] ∧ Ex H18 H' ∧ H' wd = some (.dK (ldV (wld d.vals d.start))), ?_, ?_⟩
      · show tWS3 K tYes _ _ _
        refine ws_go3 (fun _ => true) rfl rfl rfl A18.hva ft.vnd ft.vln (fun x H2 Q2 q => q) fun wd H9 x9 nwd hwd => ?_
        rw [List.filter_eq_self.mpr (fun _ _ => rfl)] at hwd
        exact ⟨wd, rfl, x9, hwd⟩
      rintro σ19 H19 ⟨wd, rfl, x19, hwd⟩
      have A19 := A18.ex x19
      have xN19 := extN_ex xN18 x19
      have th19 := th18.ex x19
      clear A18 xN18 th18 x19 H18
      -- 20
      refine ⟨fun σ' H' => σ' = [some (.ref a), some (.int ti), some (.ref p), some (.ref va), some (.str d.start), some (.ref na), some (.int m), some (.ref dd), some (.ref de), some (.ref hl), some (.ref t), some (.ref u), o12, some (.ref q), some (.ref mo), some (.ref wd), none, none] ∧ Ex H19 H', ?_, ?_⟩
      · refine ⟨.ref t, rfl, make_one ?_⟩
        refine ⟨.ref va, rfl, .str d.start, rfl, cons_one ?_⟩
        obtain ⟨kvs, hk, pr⟩ := A19.dds
        have pr : PR H19 d.deeds kvs := pr
        have kl : kvs.length = d.deeds.length := (Paired.length pr).symm
        have knd : ((kvs ++ [((.inr "yy" : Key), V.non)]).map (·.1)).Nodup := nd_snoc (by rw [pr.keys]; exact nd_inr ft.dnd) (by rw [pr.keys]; exact fun z => yd (by obtain ⟨x, mx, e⟩ := List.mem_map.mp z; cases e; exact mx))
        show tExt1 K 7 _ _ _ _
        refine ext1_go (k := .inr "yy") (W := fun v H => v = .ref wd ∧ H wd = some (.dK (ldV (wld d.vals d.start)))) rfl hk (by omega) knd (fun v H1 H2 x ⟨e1, e2⟩ => ⟨e1, x _ _ e2⟩) (fun H1 Q' x q => ⟨.ref wd, rfl, q _ _ Ex.refl ⟨rfl, x _ _ hwd⟩⟩) fun dm Ha v xa nq hq hv => ?_
        obtain ⟨rfl, hwd2⟩ := hv
        have hdm : DD Ha dm (d.deeds ++ [(("yy" : Str), wld d.vals d.start)]) := dd_more hq (Paired.mapP pr fun _ _ ⟨e1, b, e2, e3⟩ => ⟨e1, b, e2, xa _ _ e3⟩) hwd2
        have Aa := A19.ex xa
        have ftd := fit_deed ft yok yd ye (by omega)
        refine ⟨.ref de, rfl, init_goL ⟨d.vals, d.start, d.deeds ++ [(("yy" : Str), wld d.vals d.start)], d.ents⟩ Aa.hva hdm Aa.des ftd fun e Hb e' ne xb eh ioe => ?_⟩
        have me := made_of ftd vs ioe
        have el7 : e'.deeds.length = d.deeds.length + 1 := me.dl.trans (by show (d.deeds ++ [(("yy" : Str), _)]).length = _; rw [List.length_append]; rfl)
        exact eq_go (th19.ex (xa.trans xb)) m1.ap eh.th me.ap (.inr ⟨m1.vals.trans me.vals.symm, .inr ⟨m1.start.trans me.start.symm, .inl ⟨by rw [m1.dl, el7]; omega, rfl⟩⟩⟩) fun Hc xc => ⟨false, rfl, rfl, xa.trans (xb.trans xc)⟩
      rintro σ20 H20 ⟨rfl, x20⟩
      have A20 := A19.ex x20
      have xN20 := extN_ex xN19 x20
      have th20 := th19.ex x20
      clear A19 xN19 th19 x20 hwd H19
      -- 21
      refine ⟨fun σ' H' => σ' = [some (.ref a), some (.int ti), some (.ref p), some (.ref va), some (.str d.start), some (.ref na), some (.int m), some (.ref dd), some (.ref de), some (.ref hl), some (.ref t), some (.ref u), o12, some (.ref q), some (.ref mo), some (.ref wd), none, none] ∧ Ex H20 H', ?_, ?_⟩
      · by_cases lt : 1 < d.vals.length
        · obtain ⟨y, r, ey, my, yne⟩ := other_one (st := d.start) ft.vnd lt
          refine ⟨.ref va, rfl, .ref va, d.vals.length, rfl, .inl ⟨_, .inl (.inl A20.hva), by rw [List.length_map]⟩, d.vals.length, 1, rfl, rfl, true, congrArg V.bl (decide_eq_true (by omega)), ?_⟩
          refine ⟨.ref t, rfl, make_one ?_⟩
          refine ⟨.ref va, rfl, cons_one ?_⟩
          refine op_one ?_
          show tOth K (tTest (tOp rNe (tVar 17) (tVar 4))) _ _ _
          refine oth_go (fun v => !decide (v = d.start)) rfl rfl A20.hva ft.vln (fun x H2 Q2 q => ⟨.str x, rfl, .str d.start, rfl, rfl, _, rfl, ?_⟩) fun oq Ha xa noq hoq => ?_
          · have e : decide (V.str x = V.str d.start) = decide (x = d.start) := by
              by_cases z : x = d.start
              · rw [z, decide_eq_true rfl, decide_eq_true rfl]
              · rw [decide_eq_false z, decide_eq_false fun q => z (V.str.inj q)]
            rw [e]
            exact q
          rw [ey] at hoq
          have Aa := A20.ex xa
          refine ⟨oq, _, 0, .str y, rfl, rfl, .inl (.inl hoq), at_nat (k := 0) rfl, .ref dd, rfl, .ref de, rfl, init_goL ⟨d.vals, y, d.deeds, d.ents⟩ Aa.hva Aa.dds Aa.des (fit_start ft my) fun e Hb e' ne xb eh ioe => ?_⟩
          have me := made_of (fit_start ft my) vs ioe
          refine eq_go (th20.ex (xa.trans xb)) m1.ap eh.th me.ap (.inr ⟨m1.vals.trans me.vals.symm, .inl ⟨?_, rfl⟩⟩) fun Hc xc => ⟨false, rfl, rfl, xa.trans (xb.trans xc)⟩
          rw [m1.start, me.start]
          exact fun z => yne z.symm
        · exact ⟨.ref va, rfl, .ref va, d.vals.length, rfl, .inl ⟨_, .inl (.inl A20.hva), by rw [List.length_map]⟩, d.vals.length, 1, rfl, rfl, false, congrArg V.bl (decide_eq_false (by omega)), rfl, Ex.refl⟩
      rintro σ21 H21 ⟨rfl, x21⟩
      have A21 := A20.ex x21
      have xN21 := extN_ex xN20 x21
      clear A20 xN20 th20 x21 H20
      -- 22
      refine ⟨.ref p, rfl, .ref va, rfl, .str d.start, rfl, .ref dd, rfl, .ref de, rfl, p, va, dd, de, 616, d, rfl, A21.S, by decide, A21.hva, vap, A21.dds, A21.des, ft, ?_, ?_, vs, fun n mn => ?_, A21.tb, fun H' m' hm' x' S' t' => ⟨true, rfl, ?_⟩⟩
      · exact vlen
      · unfold ThD.names
        rw [List.length_append, List.length_map, List.length_map]
        omega
      · unfold ThD.names at mn
        rcases List.mem_append.mp mn with mn | mn
        · exact sd n mn
        · exact se n mn
      · exact ⟨_, _, _, _, _, _, _, _, _, _, _, _, _, _, _, rfl, extN_sqL (extN_viaP xN21 np x') sq, t'⟩
    · have ftA : ThD.Fit ⟨["a"], "a", [], []⟩ := ⟨by simp, (fun x mx => by rw [List.mem_singleton.mp mx]; decide +kernel), by simp, by show 1 ≤ 60; decide, List.mem_singleton.mpr rfl, by show 0 < 60; decide, by show 0 < 60; decide, .nil, .nil, (fun l z => by cases z), (fun l z => by cases z)⟩
      have vsA : ∀ x ∈ ([("a" : Str)] : List Str), x ∈ vlN := fun x mx => by rw [List.mem_singleton.mp mx]; decide +kernel
      have dd0 : ∀ {G : Hp} {q : Addr}, G q = some (.dK []) → DD G q [] := fun h => ⟨[], h, .nil⟩
      have s1 : 1 ≤ sizeLine := by decide
      refine op_one fun e1 n1 => fun e2 n2 => ⟨s1, fun l nl => ⟨rfl, rfl, ?_⟩⟩
      have h1 := ((Ex.new (o := .dK []) n2).trans (Ex.new (o := .lst [.str "a"]) nl)) _ _ (upd_same (a := e1) (o := .dK []) (H := H))
      have h2 := (Ex.new (o := .lst [.str "a"]) nl) _ _ (upd_same (a := e2) (o := .dK []))
      show ∀ x dx, _ → _ → _ → spInitL K C (.ref x :: ([.ref l, .str "a", .ref e2, .ref e1] ++ [])) _ _ _
      refine init_goL ⟨["a"], "a", [], []⟩ upd_same (dd0 h2) (dd0 h1) ftA fun x Ha d' nx xa th io => ?_
      refine make_one ⟨s1, fun l2 nl2 => fun e3 n3 => fun e4 n4 => ?_⟩
      have y2 := Ex.new (o := .lst [.str "a"]) nl2
      have y3 := Ex.new (o := .dK []) n3
      have y4 := Ex.new (o := .dK []) n4
      refine init_goL ⟨["a"], "a", [], []⟩ ((y3.trans y4) _ _ upd_same) (dd0 (y4 _ _ upd_same)) (dd0 upd_same) ftA fun x2 Hb d2 nx2 xb th2 io2 => ?_
      have m1 := made_of ftA vsA io
      have m2 := made_of ftA vsA io2
      exact eq_go (th.th.ex (y2.trans (y3.trans (y4.trans xb)))) m1.ap th2.th m2.ap (eq_twin io io2 m1 m2) fun Hc xc => hQ Hc
end
end TH

/-! GX: what a law's head tells, over lists of facts, defs, makers of lambdas, own exceptions (of no row) -/
namespace GX
open PySem PySem.Spec PyProof.Rows L2 LamX LamV XK0
/-! ### what is asked of a class, as a test of the head's part -/
def tailV : List Value := [.type "ValueError", .type "Exception", .type "BaseException", .type "object"]
def oexB (K : PySem.W.Frag) (C : Addr) : Bool := match K.lookup C with
  | some ⟨.type t, _, .cls cd, sl⟩ => decide (t = "type") && (!cd.hasDel && (cd.hasDict && ((match cd.mro with
      | .ref C' :: bm => decide (C' = C) && PySem.HandSPX.refsVE bm
      | _ => false) && (match sl.toList with
      | [_, _, _, _, some (.builtin n), _] => decide (n = "ValueError.__new__")
      | _ => false))))
  | _ => false
theorem oexB_ok {K : PySem.W.Frag} {C : Addr} (h : oexB K C = true) : ∃ nm q N bs bm sn sub ab col dd k0 k1 k2 k3 k5, K.lookup C = some (excClassObj nm q C N bs bm true sn sub ab col dd k0 k1 k2 k3 k5 "ValueError.__new__") ∧ PySem.HandSPX.refsVE bm = true := by
  unfold oexB at h
  split at h
  · rename_i t dd cd sl ho
    obtain ⟨nm, bs, mro, ns, qn, hd, sn, sub, ab, col, del⟩ := cd
    simp only [Bool.and_eq_true, decide_eq_true_eq, Bool.not_eq_true'] at h
    obtain ⟨rfl, h1, h2, h3, h4⟩ := h
    subst h1 h2
    split at h3
    · rename_i C' bm
      simp only [Bool.and_eq_true, decide_eq_true_eq] at h3
      obtain ⟨rfl, h3⟩ := h3
      split at h4
      · rename_i k0 k1 k2 k3 n k5 hs
        have hn : n = "ValueError.__new__" := of_decide_eq_true h4
        subst hn
        have hsl : sl = #[k0, k1, k2, k3, some (.builtin "ValueError.__new__"), k5] := by
          obtain ⟨l⟩ := sl
          simp only at hs
          rw [hs]
        subst hsl
        exact ⟨nm, qn, ns, bs, bm, sn, sub, ab, col, dd, k0, k1, k2, k3, k5, ho, h3⟩
      · cases h4
    · cases h3
  · cases h
def eqV' (a b : Option (Option Value)) : Bool := decide (a = b)
/-- the class by its name: right beneath TaskError (or it itself), as it stands behind the top -/
def clsB (K : PySem.W.Frag) (up : List Value) (x : Str) (fs : List Str) : Bool :=
  let C := He.ga K x
  He.eqO (PySem.W.nsIn K mainGlobals x) (some (some (.ref C))) && (oexB K C && (He.eqO (PySem.W.findIn K (.ref C) "__setattr__") (some (some (.builtin "object.__setattr__"))) && (xfB K C && (He.eqO (PySem.W.findIn K (.ref C) "__class__") (some (some (.builtin "object.__class__"))) &&
    (PySem.W.keepIn K (.ref C) && (decide (PySem.W.typeIn K (.ref C) = some (.type "type")) && ((PySem.W.clsIn K C).any (fun cd => decide (cd.mro = .ref C :: up)) && fs.all fun f => He.eqO (PySem.W.findIn K (.ref C) f) (some none))))))))
structure ClsF (K : PySem.W.Frag) (mg : Str → Option Value) (up : List Value) (x : Str) (fs : List Str) : Prop where
  gl : mg x = some (.ref (He.ga K x))
  ox : OexC K (He.ga K x)
  xf : XfC K (He.ga K x)
  ha : PySem.W.findIn K (.ref (He.ga K x)) "__class__" = some (some (.builtin "object.__class__"))
  mro : ∃ cd, PySem.W.clsIn K (He.ga K x) = some cd ∧ cd.mro = .ref (He.ga K x) :: up
  no : ∀ f ∈ fs, PySem.W.findIn K (.ref (He.ga K x)) f = some none
theorem any_ok {α : Type} {o : Option α} {p : α → Bool} (h : o.any p = true) : ∃ a, o = some a ∧ p a = true := by
  cases o with
  | none => cases h
  | some a => exact ⟨a, rfl, h⟩
theorem clsB_ok {K : PySem.W.Frag} {mg : Str → Option Value} {h : Heap} {up : List Value} {x : Str} {fs : List Str} (X : K.In h) (G : h.Ns mainGlobals mg) (c : clsB K up x fs = true) : ClsF K mg up x fs := by
  unfold clsB at c
  obtain ⟨c1, c⟩ := He.ba c
  obtain ⟨c2, c⟩ := He.ba c
  obtain ⟨c3, c⟩ := He.ba c
  obtain ⟨c4, c⟩ := He.ba c
  obtain ⟨c5, c⟩ := He.ba c
  obtain ⟨c6, c⟩ := He.ba c
  obtain ⟨c7, c⟩ := He.ba c
  obtain ⟨c8, c9⟩ := He.ba c
  have XF := xfB_ok c4
  obtain ⟨cd, hc, hm⟩ := any_ok c8
  exact ⟨PySem.W.mg_of X G (He.eqO_ok c1), ⟨oexB_ok c2, He.eqO_ok c3, XF.exC, of_decide_eq_true c7, c6⟩, XF, He.eqO_ok c5, ⟨cd, hc, of_decide_eq_true hm⟩, fun f hf => He.eqO_ok (List.all_eq_true.mp c9 f hf)⟩
def initB (K : PySem.W.Frag) (x : Str) : Bool := He.eqO (PySem.W.findIn K (.ref (He.ga K x)) "__init__") (some (some (.ref (He.fAd K (x, some "__init__"))))) && decide (PySem.W.typeIn K (.ref (He.fAd K (x, some "__init__"))) = some (.type "function"))
section
variable {K : PySem.W.Frag} {mg : Str → Option Value} {fd : FuncData}
theorem vals_app {vs zs : List V} {us ws : List Value} (a : Vals vs us) (b : Vals zs ws) : Vals (vs ++ zs) (us ++ ws) := a.append b
theorem vals_rev : ∀ {vs : List V} {us : List Value}, Vals vs us → Vals vs.reverse us.reverse
  | _, _, .nil => .nil
  | _, _, .cons r t => by
    rw [List.reverse_cons, List.reverse_cons]
    exact (vals_rev t).append (.cons r .nil)
theorem ec1_of {x f qual : Str} {params : Arguments} {scope : Scope} {up : List Value} {fs : List Str} {p1 p2 p3 p4 : Pos} (c : ClsF K mg up x fs) (hf : f ∈ fs) (hi : initB K x = true)
    (F : FunD K "__init__" qual params [.Assign [.Attribute (.Name "self" p1) f p2] (.Name f p3) p4] scope [] [] (He.fAd K (x, some "__init__")) fd) (S : FnScope ["self", f] ["self", f] scope) (hd : (f == ("__debug__" : Str)) = false) (hc : (f == ("__classdict__" : Str)) = false)
    (b1 : ∀ (kV doc pm : Value) (an : Option Addr) (cdv ct : Value) (us ws : List Value), us.length = 2 → ws.length = ([] : List Str).length → bindArgs (PySem.W.fnOf "__init__" qual params [.Assign [.Attribute (.Name "self" p1) f p2] (.Name f p3) p4] scope .none kV doc pm an cdv ct) ⟨us, ([] : List Str).zip ws⟩ = pure ((["self", f] : List Str).zip us))
    (b2 : ∀ (kV doc pm : Value) (an : Option Addr) (cdv ct : Value) (us ws : List Value), us.length = 1 → ws.length = [f].length → bindArgs (PySem.W.fnOf "__init__" qual params [.Assign [.Attribute (.Name "self" p1) f p2] (.Name f p3) p4] scope .none kV doc pm an cdv ct) ⟨us, [f].zip ws⟩ = pure ((["self", f] : List Str).zip (us ++ ws))) : Ec1 K mg x f (He.ga K x) := by
  obtain ⟨i1, i2⟩ := He.ba hi
  exact ⟨c.ox, c.gl, c.no f hf, _, fd, He.eqO_ok i1, of_decide_eq_true i2, fun P w base => ok_init1 F S hd hc, kbn_of F 2 [] (fun us ws => us) (fun a _ => a) b1, kbn_of F 1 [f] (fun us ws => us ++ ws) (fun a b => a.append b) b2⟩
theorem ec2_of {x f g qual : Str} {params : Arguments} {scope : Scope} {up : List Value} {fs : List Str} {p1 p2 p3 p4 q1 q2 q3 q4 : Pos} (c : ClsF K mg up x fs) (hf : f ∈ fs) (hg : g ∈ fs) (hi : initB K x = true)
    (F : FunD K "__init__" qual params [.Assign [.Attribute (.Name "self" p1) f p2] (.Name f p3) p4, .Assign [.Attribute (.Name "self" q1) g q2] (.Name g q3) q4] scope [] [] (He.fAd K (x, some "__init__")) fd) (S : FnScope ["self", f, g] ["self", f, g] scope)
    (hd : (f == ("__debug__" : Str)) = false) (hc : (f == ("__classdict__" : Str)) = false) (hd2 : (g == ("__debug__" : Str)) = false) (hc2 : (g == ("__classdict__" : Str)) = false)
    (b1 : ∀ (kV doc pm : Value) (an : Option Addr) (cdv ct : Value) (us ws : List Value), us.length = 3 → ws.length = ([] : List Str).length → bindArgs (PySem.W.fnOf "__init__" qual params [.Assign [.Attribute (.Name "self" p1) f p2] (.Name f p3) p4, .Assign [.Attribute (.Name "self" q1) g q2] (.Name g q3) q4] scope .none kV doc pm an cdv ct) ⟨us, ([] : List Str).zip ws⟩ = pure ((["self", f, g] : List Str).zip us))
    (b2 : ∀ (kV doc pm : Value) (an : Option Addr) (cdv ct : Value) (us ws : List Value), us.length = 1 → ws.length = [g, f].length → bindArgs (PySem.W.fnOf "__init__" qual params [.Assign [.Attribute (.Name "self" p1) f p2] (.Name f p3) p4, .Assign [.Attribute (.Name "self" q1) g q2] (.Name g q3) q4] scope .none kV doc pm an cdv ct) ⟨us, [g, f].zip ws⟩ = pure ((["self", f, g] : List Str).zip (us ++ ws.reverse))) : Ec2 K mg x f g (He.ga K x) := by
  obtain ⟨i1, i2⟩ := He.ba hi
  exact ⟨c.ox, c.gl, c.no f hf, c.no g hg, _, fd, He.eqO_ok i1, of_decide_eq_true i2, fun P w base => ok_init2 F S hd hc hd2 hc2, kbn_of F 3 [] (fun us ws => us) (fun a _ => a) b1, kbn_of F 1 [g, f] (fun us ws => us ++ ws.reverse) (fun a b => a.append (vals_rev b)) b2⟩
abbrev UpT (K : PySem.W.Frag) : List Value := .ref (He.ga K "TaskError") :: tailV
end
/-! ### the head's part: the module's names, the classes' dicts, the functions, their code -/
def as1 (g : Addr → Option Obj) : List Addr := match g mainGlobals with
  | some ⟨_, _, .dict es _, _⟩ => es.toList.flatMap fun e => He.refV e.val
  | _ => []
def as2 (g : Addr → Option Obj) : List Addr := (as1 g).flatMap fun a => match g a with
  | some ⟨_, _, .cls cd, _⟩ => [cd.ns]
  | some ⟨_, _, .func fd, _⟩ => He.refV fd.code
  | _ => []
def as3 (g : Addr → Option Obj) : List Addr := (as2 g).flatMap fun a => match g a with
  | some ⟨_, _, .dict es _, _⟩ => es.toList.flatMap fun e => (match e.val with
    | .ref b => (match g b with
      | some ⟨_, _, .func _, _⟩ => [b]
      | _ => [])
    | _ => [])
  | _ => []
def as4 (g : Addr → Option Obj) : List Addr := (as3 g).flatMap fun a => match g a with
  | some ⟨_, _, .func fd, _⟩ => He.refV fd.code
  | _ => []
def asX (g : Addr → Option Obj) : List Addr := mainGlobals :: sysModules :: (as1 g ++ (as2 g ++ (as3 g ++ as4 g)))
def nodB : List Addr → Bool
  | [] => true
  | a :: r => !r.contains a && nodB r
theorem nodB_ok : ∀ {l : List Addr}, nodB l = true → l.Nodup
  | [], _ => List.nodup_nil
  | a :: r, h => by
    obtain ⟨h1, h2⟩ := He.ba h
    refine List.nodup_cons.mpr ⟨fun z => ?_, nodB_ok h2⟩
    rw [Bool.not_eq_true'] at h1
    have : r.contains a = true := List.contains_iff_mem.mpr z
    rw [h1] at this
    cases this
def codeHdB (o : Obj) (c P : Addr) : Bool := match o with
  | ⟨.type t, _, .fields vs, _⟩ => decide (t = "code") && ((match (vs[11]? : Option Value) with
      | some (.ref Q) => decide (Q = P)
      | _ => false) && ((match vs.getD 18 .none with
      | .str _ _ => true
      | _ => false) && ((match vs.getD 7 .none with
      | .int _ _ => true
      | _ => false) && ((match vs.getD 9 .none with
      | .bool _ => true
      | _ => false) && ((match vs.getD 10 .none with
      | .int _ _ => true
      | _ => false) && !decide (c = P))))))
  | _ => false
theorem codeHdB_ok {h : Heap} {o : Obj} {c P : Addr} (e : h.get? c = some o) (b : codeHdB o c P = true) : PySem.W.CodeHd h c P := by
  unfold codeHdB at b
  split at b
  · rename_i t dd vs sl
    obtain ⟨b1, b⟩ := He.ba b
    obtain ⟨b2, b⟩ := He.ba b
    obtain ⟨b3, b⟩ := He.ba b
    obtain ⟨b4, b⟩ := He.ba b
    obtain ⟨b5, b⟩ := He.ba b
    obtain ⟨b6, b7⟩ := He.ba b
    have ht : t = "code" := of_decide_eq_true b1
    subst ht
    split at b2
    · rename_i Q hq
      have hQ : Q = P := of_decide_eq_true b2
      subst hQ
      split at b3
      · rename_i file tf h18
        split at b4
        · rename_i fl tg h7
          split at b5
          · rename_i inF h9
            split at b6
            · rename_i tx tt h10
              refine ⟨_, vs, file, tf, fl, tg, inF, tx, tt, e, rfl, rfl, hq, ?_, h18, h7, h9, h10, ?_⟩
              · rw [Array.getD_eq_getD_getElem?, hq]
                rfl
              · simpa using b7
            · cases b6
          · cases b5
        · cases b4
      · cases b3
    · cases b2
  · cases b
def tabOf (K : PySem.W.Frag) (x : Str) : Addr × Addr := match codeOf K (He.ga K x) with
  | some (.ref c) => (match K.lookup c with
    | some ⟨_, _, .fields vs, _⟩ => (match (vs[11]? : Option Value) with
      | some (.ref P) => (c, P)
      | _ => (0, 0))
    | _ => (0, 0))
  | _ => (0, 0)
def isRef (o : Option Value) (c : Addr) : Bool := match o with
  | some (.ref d) => decide (d = c)
  | _ => false
theorem isRef_ok {o : Option Value} {c : Addr} (h : isRef o c = true) : o = some (.ref c) := by
  unfold isRef at h
  split at h
  · rename_i d
    have e : d = c := of_decide_eq_true h
    rw [e]
  · cases h
def emptyB (o : Option Obj) : Bool := match o with
  | some ⟨.none, none, .fields vs, sl⟩ => vs.isEmpty && sl.isEmpty
  | _ => false
theorem emptyB_ok {o : Option Obj} (h : emptyB o = true) : o = some { cls := .none, data := .fields #[] } := by
  unfold emptyB at h
  split at h
  · rename_i vs sl
    obtain ⟨h1, h2⟩ := He.ba h
    rw [Array.isEmpty_iff.mp h1, Array.isEmpty_iff.mp h2]
  · cases h
def tabB (K : PySem.W.Frag) (g : Addr → Option Obj) (x : Str) : Bool := isRef (codeOf K (He.ga K x)) (tabOf K x).1 && ((match K.lookup (tabOf K x).1 with
  | some o => codeHdB o (tabOf K x).1 (tabOf K x).2
  | none => false) && ((K.lookup (tabOf K x).2).isNone && emptyB (g (tabOf K x).2)))
structure TabH (K : PySem.W.Frag) (h : Heap) (x : Str) : Prop where
  co : codeOf K (He.ga K x) = some (.ref (tabOf K x).1)
  hd : PySem.W.CodeHd h (tabOf K x).1 (tabOf K x).2
  no : K.lookup (tabOf K x).2 = none
  em : h.get? (tabOf K x).2 = some { cls := .none, data := .fields #[] }
theorem tabB_ok {K : PySem.W.Frag} {h : Heap} {x : Str} (X : K.In h) (b : tabB K h.get? x = true) : TabH K h x := by
  obtain ⟨b1, b⟩ := He.ba b
  obtain ⟨b2, b⟩ := He.ba b
  obtain ⟨b3, b4⟩ := He.ba b
  split at b2
  · rename_i o ho
    exact ⟨isRef_ok b1, codeHdB_ok (X _ _ ho) b2, Option.isNone_iff_eq_none.mp b3, emptyB_ok b4⟩
  · cases b2
section
variable (fa : List He.Fa) (fn : List He.DefD) (mk : List Str) (nms : List (Str × List Str))
def clsAll (K : PySem.W.Frag) : Bool := clsB K tailV "TaskError" [] && (nms.all (fun p => clsB K (UpT K) p.1 p.2 && initB K p.1) && (K.lookup sysModules).isSome)
def obsX (g : Addr → Option Obj) (K : PySem.W.Frag) : Bool × He.AlD := (clsAll nms K && (mk.all (fun x => tabB K g x) && nodB (mk.map fun x => (tabOf K x).2)), He.obsD fa fn K)
structure SayX (h : Heap) (K : PySem.W.Frag) : Prop where
  inh : K.In h
  cls : clsAll nms K = true
  tab : ∀ x ∈ mk, TabH K h x
  nod : (mk.map fun x => (tabOf K x).2).Nodup
  say : He.SaysD fa fn K
def hkX : PySem.W.Hook where
  α := Bool × He.AlD
  obs := fun s => obsX fa fn mk nms s.heap.get? (He.frG s.heap.get? (asX s.heap.get?))
  val := fun _ => (true, He.valD fn)
  says := fun _ h => ∃ K, SayX fa fn mk nms h K
  of := fun _ s e => by
    have e1 := congrArg Prod.fst e
    have e2 := congrArg Prod.snd e
    obtain ⟨c1, c2⟩ := He.ba e1
    obtain ⟨c2, c3⟩ := He.ba c2
    exact ⟨_, He.frG_in, c1, fun x hx => tabB_ok He.frG_in (List.all_eq_true.mp c2 x hx), nodB_ok c3, e2⟩
  keeps := fun _ h h' ⟨K, s⟩ k => ⟨K, PySem.W.Frag.In.keeps s.inh k, s.cls, fun x hx => ⟨(s.tab x hx).co, (s.tab x hx).hd.keeps k, (s.tab x hx).no, k _ _ (s.tab x hx).em⟩, s.nod, s.say⟩
def obX (s : PySem.W.SharedT) : Bool × He.AlD := obsX fa fn mk nms (HandSHeadRun.getT s) (He.frG (HandSHeadRun.getT s) (asX (HandSHeadRun.getT s)))
theorem obX_eq (s : PySem.W.SharedT) : obX fa fn mk nms s = (hkX fa fn mk nms).obs s.abs := by
  have e : HandSHeadRun.getT s = s.abs.heap.get? := funext (HandSHeadRun.getT_eq s)
  unfold obX
  rw [e]
  rfl
end
section
variable {fa : List He.Fa} {fn : List He.DefD} {mk : List Str} {nms : List (Str × List Str)} {h : Heap} {K : PySem.W.Frag} {mg : Str → Option Value}
theorem SayX.fact (s : SayX fa fn mk nms h K) {f : He.Fa} (hf : f ∈ fa) : f.ok K = true := by
  obtain ⟨i, hi⟩ := List.mem_iff_getElem?.mp hf
  exact s.say.fact i hi
theorem SayX.fd (s : SayX fa fn mk nms h K) {d : He.DefD} (hd : d ∈ fn) : ∃ fd, FunD K d.name d.qual d.params d.body d.scope (d.dvs K) (d.kws K) (He.fAd K d.at_) fd := by
  obtain ⟨i, hi⟩ := List.mem_iff_getElem?.mp hd
  exact s.say.def_ i hi
theorem SayX.glo (s : SayX fa fn mk nms h K) (G : h.Ns mainGlobals mg) {x : Str} (hf : He.Fa.glo x ∈ fa) : mg x = some (.ref (He.ga K x)) := He.glo_ok s.inh G (s.fact hf)
theorem SayX.free (s : SayX fa fn mk nms h K) (G : h.Ns mainGlobals mg) {x : Str} (hf : He.Fa.free x ∈ fa) : mg x = none := He.free_ok s.inh G (s.fact hf)
theorem SayX.te (s : SayX fa fn mk nms h K) (G : h.Ns mainGlobals mg) : ClsF K mg tailV "TaskError" [] := clsB_ok s.inh G (He.ba s.cls).1
theorem SayX.exc (s : SayX fa fn mk nms h K) (G : h.Ns mainGlobals mg) {p : Str × List Str} (hp : p ∈ nms) : ClsF K mg (UpT K) p.1 p.2 ∧ initB K p.1 = true := by
  have z := List.all_eq_true.mp (He.ba (He.ba s.cls).2).1 p hp
  exact ⟨clsB_ok s.inh G (He.ba z).1, (He.ba z).2⟩
theorem SayX.sm (s : SayX fa fn mk nms h K) : (K.lookup sysModules).isSome = true := (He.ba (He.ba s.cls).2).2
end
/-- a def's parameters, bound by place -/
theorem binds0 {K : PySem.W.Frag} {x qual : Str} {params : Arguments} {body : List Stmt} {scope : Scope} {f : Addr} {fd : FuncData} {ps : List Str} (F : FunD K x qual params body scope [] [] f fd)
    (h : ∀ (kV doc pm : Value) (an : Option Addr) (cdv ct : Value) (us : List Value), us.length = ps.length → bindArgs (PySem.W.fnOf x qual params body scope .none kV doc pm an cdv ct) ⟨us, []⟩ = pure (ps.zip us)) : Binds K fd ps [] := by
  obtain ⟨oc, od, dV, kV, doc, pm, an, cdv, ct, osl, rfl, lk, hcd, hD, hK⟩ := F.ex
  rcases hD with ⟨_, rfl⟩ | ⟨e, _⟩
  · exact fun s us _ hl => by
      rw [List.append_nil] at hl ⊢
      exact .of_eq (h kV doc pm an cdv ct us hl)
  · exact absurd rfl e
end GX

/-! GY: GX with one more test of the head's part -/
namespace GY
open PySem PySem.Spec PyProof.Rows L2 LamX LamV XK0
section
variable (xt : PySem.W.Frag → Bool) (fa : List He.Fa) (fn : List He.DefD) (mk : List Str) (nms : List (Str × List Str))
def obsY (g : Addr → Option Obj) (K : PySem.W.Frag) : Bool × He.AlD := (xt K && (GX.obsX fa fn mk nms g K).1, (GX.obsX fa fn mk nms g K).2)
structure SayY (h : Heap) (K : PySem.W.Frag) : Prop where
  s : GX.SayX fa fn mk nms h K
  x : xt K = true
def hkY : PySem.W.Hook where
  α := Bool × He.AlD
  obs := fun s => obsY xt fa fn mk nms s.heap.get? (He.frG s.heap.get? (GX.asX s.heap.get?))
  val := fun _ => (true, He.valD fn)
  says := fun _ h => ∃ K, SayY xt fa fn mk nms h K
  of := fun _ s e => by
    have e1 := congrArg Prod.fst e
    have e2 := congrArg Prod.snd e
    obtain ⟨c0, c1⟩ := He.ba e1
    obtain ⟨c1, c2⟩ := He.ba c1
    obtain ⟨c2, c3⟩ := He.ba c2
    exact ⟨_, ⟨He.frG_in, c1, fun x hx => GX.tabB_ok He.frG_in (List.all_eq_true.mp c2 x hx), GX.nodB_ok c3, e2⟩, c0⟩
  keeps := fun _ h h' ⟨K, s⟩ k => ⟨K, ⟨PySem.W.Frag.In.keeps s.s.inh k, s.s.cls, fun x hx => ⟨(s.s.tab x hx).co, (s.s.tab x hx).hd.keeps k, (s.s.tab x hx).no, k _ _ (s.s.tab x hx).em⟩, s.s.nod, s.s.say⟩, s.x⟩
def obY (s : PySem.W.SharedT) : Bool × He.AlD := obsY xt fa fn mk nms (HandSHeadRun.getT s) (He.frG (HandSHeadRun.getT s) (GX.asX (HandSHeadRun.getT s)))
theorem obY_eq (s : PySem.W.SharedT) : obY xt fa fn mk nms s = (hkY xt fa fn mk nms).obs s.abs := by
  have e : HandSHeadRun.getT s = s.abs.heap.get? := funext (HandSHeadRun.getT_eq s)
  unfold obY
  rw [e]
  rfl
end
end GY

/-! B16G: what the class says of comparing and of being asked, as a test of the head's part -/
namespace TH
open PySem PySem.Spec PyProof.Rows L2 OQ
def thB (K : PySem.W.Frag) : Bool :=
  let C := He.ga K "Thing"
  He.eqO (PySem.W.findIn K (.ref C) "__eq__") (some (some (.ref (He.fAd K ("Thing", some "__eq__"))))) && (PySem.W.isFn K (.ref (He.fAd K ("Thing", some "__eq__"))) && (He.eqO (PySem.W.findIn K (.ref C) "__ne__") (some (some (.builtin "object.__ne__"))) && (decide (PySem.W.mroIn K C (.type "object") = some true) && (PySem.W.notFirst K C (.type "list") &&
    (He.eqO (PySem.W.findIn K (.ref C) "__class__") (some (some (.builtin "object.__class__"))) && (He.eqO (PySem.W.specialIn K (.builtin "object.__class__") "__get__") (some (some (.builtin "getset_descriptor.__get__"))) && (decide (PySem.W.takesIn K (.builtin "object.__class__") = some true) && (decide (PySem.W.kitOne K (.ref C) (.ref C) = some true) && decide (PySem.W.kitOne K (.type "list") (.ref C) = some false)))))))))
theorem thB_ok {K : PySem.W.Frag} (h : thB K = true) : EqC K (He.ga K "Thing") (He.fAd K ("Thing", some "__eq__")) ∧ IsC K (He.ga K "Thing") := by
  unfold thB at h
  obtain ⟨h1, h⟩ := He.ba h
  obtain ⟨h2, h⟩ := He.ba h
  obtain ⟨h3, h⟩ := He.ba h
  obtain ⟨h4, h⟩ := He.ba h
  obtain ⟨h5, h⟩ := He.ba h
  obtain ⟨h6, h⟩ := He.ba h
  obtain ⟨h7, h⟩ := He.ba h
  obtain ⟨h8, h⟩ := He.ba h
  obtain ⟨h9, h10⟩ := He.ba h
  exact ⟨⟨He.eqO_ok h1, h2, He.eqO_ok h3, of_decide_eq_true h4, h5⟩, ⟨He.eqO_ok h6, He.eqO_ok h7, of_decide_eq_true h8, of_decide_eq_true h4, of_decide_eq_true h9, of_decide_eq_true h10⟩⟩
end TH

/-! the facts of the law's head (printed by genend.py) -/
namespace K01
open PySem PySem.Spec PyProof.Rows L2 LamX LamV XK0
def fD (x : Str) (t : Nat) : He.DefD := ⟨(x, none), x, x, defArgs (TH.top t), defBody (TH.top t), defScope (TH.top t), [], []⟩
def mD (x m q : Str) (t j : Nat) : He.DefD := ⟨(x, some m), m, q, defArgs (inClass (TH.top t) j), defBody (inClass (TH.top t) j), defScope (inClass (TH.top t) j), [], []⟩
def fnF : List He.DefD := [fD "is_list" 2, fD "is_word" 3, fD "first_bad_word" 4, fD "is_lead" 12, fD "first_wrong" 13, fD "ordered" 14, fD "_law_pool" 17, fD "_law_take" 18, fD "_law_one" 19, fD "_law_mixed" 20, fD "_law_met" 21, fD "_law_leads" 22, fD "_law_told" 23, fD "_law_doors_right" 24, fD "law" 25]
def fnI : List He.DefD := [mD "BadValues" "__init__" "BadValues.__init__" 7 0, mD "BadStart" "__init__" "BadStart.__init__" 8 0, mD "BadDeeds" "__init__" "BadDeeds.__init__" 9 0, mD "BadEntries" "__init__" "BadEntries.__init__" 10 0, mD "Thing" "__init__" "Thing.__init__" 15 0, mD "Thing" "worths" "Thing.worths" 15 1, mD "Thing" "start" "Thing.start" 15 2, mD "Thing" "deeds" "Thing.deeds" 15 3, mD "Thing" "entries" "Thing.entries" 15 4, mD "Thing" "__eq__" "Thing.__eq__" 15 5]
def fn : List He.DefD := fnF ++ fnI
def fa : List He.Fa := [.glo "is_list", .glo "is_word", .glo "first_bad_word", .glo "is_lead", .glo "first_wrong", .glo "ordered", .glo "_law_pool", .glo "_law_take", .glo "_law_one", .glo "_law_mixed", .glo "_law_met", .glo "_law_leads", .glo "_law_told", .glo "_law_doors_right", .glo "law", .free "isinstance", .free "list", .free "tuple", .free "str", .free "len", .free "all", .free "enumerate", .free "sorted", .free "dict", .free "range", .free "int", .free "abs", .free "bool", .free "sum", .str "LETTERS" "abcdefghijklmnopqrstuvwxyz", .glo "Thing", .cls "Thing", .mkr "Thing", .noat "Thing" "kept_values", .noat "Thing" "kept_start", .noat "Thing" "kept_deeds", .noat "Thing" "kept_entries", .meth "Thing" "worths", .meth "Thing" "start", .meth "Thing" "deeds", .meth "Thing" "entries", .exm "BadValues" "BadValues" true, .exm "BadValues" "BadStart" false, .exm "BadValues" "BadDeeds" false, .exm "BadValues" "BadEntries" false, .exm "BadStart" "BadValues" false, .exm "BadStart" "BadStart" true, .exm "BadStart" "BadDeeds" false, .exm "BadStart" "BadEntries" false, .exm "BadDeeds" "BadValues" false, .exm "BadDeeds" "BadStart" false, .exm "BadDeeds" "BadDeeds" true, .exm "BadDeeds" "BadEntries" false, .exm "BadEntries" "BadValues" false, .exm "BadEntries" "BadStart" false, .exm "BadEntries" "BadDeeds" false, .exm "BadEntries" "BadEntries" true]
def mk : List Str := ["_law_doors_right"]
def nms : List (Str × List Str) := [("BadValues", ["index"]), ("BadStart", ["thing"]), ("BadDeeds", ["name"]), ("BadEntries", ["name"])]
abbrev hk : PySem.W.Hook := GY.hkY TH.thB fa fn mk nms
end K01

/-! F01e: all promises joined (printed by gen01e.py) -/
namespace K01
open PySem PySem.Spec PyProof.Rows L2 LamX LamV XK0 TH
theorem law_all {P : Program} {w : World} {h base : Heap} {K : PySem.W.Frag} {mg : Str → Option Value} (SY : GY.SayY TH.thB fa fn mk nms h K) (G : h.Ns mainGlobals mg) {T : List (Addr × Str)} {c2 P2 : Addr} (t2 : codeOf K (He.fAd K ("_law_doors_right", none)) = some (.ref c2))
    (TB2 : TabB base mg c2 P2) (m2 : (P2, TH.lamD) ∈ T) (u2 : ∀ p ∈ T, p.1 = P2 → p.2 = TH.lamD) :
    ∃ fd, FnP K "law" (TH.top 25) (He.fAd K ("law", none)) fd ∧ FnOk P w K mg base CX0 9 (He.fAd K ("law", none)) fd ["_law_script"] (TH.spLawP K T) := by
  have S := SY.s
  obtain ⟨EQ, IC⟩ := thB_ok SY.x
  have fr : ∀ x, x ∈ (["isinstance", "list", "tuple", "str", "len", "all", "enumerate", "sorted", "dict", "range", "int", "abs", "bool", "sum"] : List Str) → mg x = none := fun x hx => by
    simp only [List.mem_cons, List.mem_nil_iff, or_false] at hx
    rcases hx with rfl | rfl | rfl | rfl | rfl | rfl | rfl | rfl | rfl | rfl | rfl | rfl | rfl | rfl <;> exact S.free G (by simp [fa])
  obtain ⟨tL, gL⟩ := He.str_ok S.inh G (S.fact (f := .str "LETTERS" "abcdefghijklmnopqrstuvwxyz") (by simp [fa]))
  let C : Addr := He.ga K "Thing"
  have TC : ThC K C := ⟨He.cls_ok (S.fact (f := .cls "Thing") (by simp [fa])), He.noat_ok (S.fact (f := .noat "Thing" "kept_values") (by simp [fa])), He.noat_ok (S.fact (f := .noat "Thing" "kept_start") (by simp [fa])), He.noat_ok (S.fact (f := .noat "Thing" "kept_deeds") (by simp [fa])), He.noat_ok (S.fact (f := .noat "Thing" "kept_entries") (by simp [fa]))⟩
  let CV : Addr := He.ga K "BadValues"
  let CS : Addr := He.ga K "BadStart"
  let CD : Addr := He.ga K "BadDeeds"
  let CE : Addr := He.ga K "BadEntries"
  obtain ⟨xV, iV⟩ := S.exc G (p := ("BadValues", ["index"])) (by simp [nms])
  obtain ⟨dxV, hxV⟩ := S.fd (d := mD "BadValues" "__init__" "BadValues.__init__" 7 0) (by simp [fn, fnI])
  have EV : Ec1 K mg "BadValues" "index" CV := GX.ec1_of xV (by simp) iV hxV ⟨rfl, rfl, rfl, by decide +kernel, rfl, by decide +kernel, by decide +kernel⟩ (by decide) (by decide) (fun _ _ _ _ _ _ us ws hl _ => match us, hl with | [_, _], _ => rfl) (fun _ _ _ _ _ _ us ws hl hw => match us, hl, ws, hw with | [_], _, [_], _ => rfl)
  obtain ⟨xS, iS⟩ := S.exc G (p := ("BadStart", ["thing"])) (by simp [nms])
  obtain ⟨dxS, hxS⟩ := S.fd (d := mD "BadStart" "__init__" "BadStart.__init__" 8 0) (by simp [fn, fnI])
  have ES : Ec1 K mg "BadStart" "thing" CS := GX.ec1_of xS (by simp) iS hxS ⟨rfl, rfl, rfl, by decide +kernel, rfl, by decide +kernel, by decide +kernel⟩ (by decide) (by decide) (fun _ _ _ _ _ _ us ws hl _ => match us, hl with | [_, _], _ => rfl) (fun _ _ _ _ _ _ us ws hl hw => match us, hl, ws, hw with | [_], _, [_], _ => rfl)
  obtain ⟨xD, iD⟩ := S.exc G (p := ("BadDeeds", ["name"])) (by simp [nms])
  obtain ⟨dxD, hxD⟩ := S.fd (d := mD "BadDeeds" "__init__" "BadDeeds.__init__" 9 0) (by simp [fn, fnI])
  have ED : Ec1 K mg "BadDeeds" "name" CD := GX.ec1_of xD (by simp) iD hxD ⟨rfl, rfl, rfl, by decide +kernel, rfl, by decide +kernel, by decide +kernel⟩ (by decide) (by decide) (fun _ _ _ _ _ _ us ws hl _ => match us, hl with | [_, _], _ => rfl) (fun _ _ _ _ _ _ us ws hl hw => match us, hl, ws, hw with | [_], _, [_], _ => rfl)
  obtain ⟨xE, iE⟩ := S.exc G (p := ("BadEntries", ["name"])) (by simp [nms])
  obtain ⟨dxE, hxE⟩ := S.fd (d := mD "BadEntries" "__init__" "BadEntries.__init__" 10 0) (by simp [fn, fnI])
  have EE : Ec1 K mg "BadEntries" "name" CE := GX.ec1_of xE (by simp) iE hxE ⟨rfl, rfl, rfl, by decide +kernel, rfl, by decide +kernel, by decide +kernel⟩ (by decide) (by decide) (fun _ _ _ _ _ _ us ws hl _ => match us, hl with | [_, _], _ => rfl) (fun _ _ _ _ _ _ us ws hl hw => match us, hl, ws, hw with | [_], _, [_], _ => rfl)
  have EX : ExcC K mg CV CS CD CE := ⟨EV, ES, ED, EE⟩
  have M4 : Met4 K mg CV CS CD CE := ⟨xV.gl, xS.gl, xD.gl, xE.gl, xV.xf, xS.xf, xD.xf, xE.xf, xV.no _ (by simp), xS.no _ (by simp), xD.no _ (by simp), xE.no _ (by simp), (He.exm_ok (S.fact (f := .exm "BadValues" "BadValues" true) (by simp [fa]))), (He.exm_ok (S.fact (f := .exm "BadStart" "BadValues" false) (by simp [fa]))), (He.exm_ok (S.fact (f := .exm "BadStart" "BadStart" true) (by simp [fa]))), (He.exm_ok (S.fact (f := .exm "BadDeeds" "BadValues" false) (by simp [fa]))), (He.exm_ok (S.fact (f := .exm "BadDeeds" "BadStart" false) (by simp [fa]))), (He.exm_ok (S.fact (f := .exm "BadDeeds" "BadDeeds" true) (by simp [fa]))), (He.exm_ok (S.fact (f := .exm "BadEntries" "BadValues" false) (by simp [fa]))), (He.exm_ok (S.fact (f := .exm "BadEntries" "BadStart" false) (by simp [fa]))), (He.exm_ok (S.fact (f := .exm "BadEntries" "BadDeeds" false) (by simp [fa]))), (He.exm_ok (S.fact (f := .exm "BadEntries" "BadEntries" true) (by simp [fa])))⟩
  obtain ⟨dislist, hislist⟩ := S.fd (d := fD "is_list" 2) (by simp [fn, fnF])
  have Hil : Has P w K mg base "is_list" 1 ["thing"] (spIsList K) := ⟨_, dislist, S.glo G (by simp [fa]), hislist.kp, GX.binds0 hislist (fun _ _ _ _ _ _ us hl => match us, hl with | [_], _ => rfl), ok_is_list hislist (fr "isinstance" (by simp)) (fr "list" (by simp)) (fr "tuple" (by simp))⟩
  obtain ⟨disword, hisword⟩ := S.fd (d := fD "is_word" 3) (by simp [fn, fnF])
  have Hiw : Has P w K mg base "is_word" 1 ["thing"] (spIsWord K) := ⟨_, disword, S.glo G (by simp [fa]), hisword.kp, GX.binds0 hisword (fun _ _ _ _ _ _ us hl => match us, hl with | [_], _ => rfl), ok_is_word hisword (fr "isinstance" (by simp)) (fr "str" (by simp)) (fr "len" (by simp)) (fr "all" (by simp)) gL⟩
  obtain ⟨dfirstbadword, hfirstbadword⟩ := S.fd (d := fD "first_bad_word" 4) (by simp [fn, fnF])
  have Hfb : Has P w K mg base "first_bad_word" 2 ["things", "barred"] (spFirstBad K) := ⟨_, dfirstbadword, S.glo G (by simp [fa]), hfirstbadword.kp, GX.binds0 hfirstbadword (fun _ _ _ _ _ _ us hl => match us, hl with | [_, _], _ => rfl), ok_first_bad hfirstbadword Hil Hiw (fr "list" (by simp)) (fr "enumerate" (by simp))⟩
  obtain ⟨dislead, hislead⟩ := S.fd (d := fD "is_lead" 12) (by simp [fn, fnF])
  have Hld : Has P w K mg base "is_lead" 2 ["thing", "known", "is_whole"] (spIsLead K) := ⟨_, dislead, S.glo G (by simp [fa]), hislead.kp, GX.binds0 hislead (fun _ _ _ _ _ _ us hl => match us, hl with | [_, _, _], _ => rfl), ok_is_lead hislead Hiw (fr "isinstance" (by simp)) (fr "dict" (by simp)) (fr "len" (by simp))⟩
  have Hlb : Has P w K mg base "is_lead" 2 ["thing", "known", "is_whole"] (spIsLeadB K) := ⟨_, dislead, S.glo G (by simp [fa]), hislead.kp, GX.binds0 hislead (fun _ _ _ _ _ _ us hl => match us, hl with | [_, _, _], _ => rfl), ok_is_leadB hislead Hiw (fr "isinstance" (by simp)) (fr "dict" (by simp)) (fr "len" (by simp))⟩
  obtain ⟨dfirstwrong, hfirstwrong⟩ := S.fd (d := fD "first_wrong" 13) (by simp [fn, fnF])
  have Hfw : Has P w K mg base "first_wrong" 3 ["leads", "known", "barred", "is_whole"] (spFirstWrong K) := ⟨_, dfirstwrong, S.glo G (by simp [fa]), hfirstwrong.kp, GX.binds0 hfirstwrong (fun _ _ _ _ _ _ us hl => match us, hl with | [_, _, _, _], _ => rfl), ok_first_wrong hfirstwrong Hiw Hld (fr "isinstance" (by simp)) (fr "dict" (by simp))⟩
  have Hfx : Has P w K mg base "first_wrong" 3 ["leads", "known", "barred", "is_whole"] (spFW K w) := ⟨_, dfirstwrong, S.glo G (by simp [fa]), hfirstwrong.kp, GX.binds0 hfirstwrong (fun _ _ _ _ _ _ us hl => match us, hl with | [_, _, _, _], _ => rfl), ok_fw hfirstwrong Hiw Hlb (fr "isinstance" (by simp)) (fr "dict" (by simp))⟩
  obtain ⟨dordered, hordered⟩ := S.fd (d := fD "ordered" 14) (by simp [fn, fnF])
  have Hol : Has P w K mg base "ordered" 1 ["leads", "known"] (spOrderedL K) := ⟨_, dordered, S.glo G (by simp [fa]), hordered.kp, GX.binds0 hordered (fun _ _ _ _ _ _ us hl => match us, hl with | [_, _], _ => rfl), ok_orderedL hordered (fr "sorted" (by simp))⟩
  have Hot : Has P w K mg base "ordered" 1 ["leads", "known"] (spOrderedT K) := ⟨_, dordered, S.glo G (by simp [fa]), hordered.kp, GX.binds0 hordered (fun _ _ _ _ _ _ us hl => match us, hl with | [_, _], _ => rfl), ok_orderedT hordered (fr "sorted" (by simp))⟩
  obtain ⟨dI, hI⟩ := S.fd (d := mD "Thing" "__init__" "Thing.__init__" 15 0) (by simp [fn, fnI])
  have bI : Binds K dI ["self", "values", "start", "deeds", "entries"] [] := GX.binds0 hI (fun _ _ _ _ _ _ us hl => match us, hl with | [_, _, _, _, _], _ => rfl)
  have bK : KBn K dI ["self", "values", "start", "deeds", "entries"] 1 ["entries", "deeds", "start", "values"] (fun us ws => us ++ ws.reverse) (fun us ws => us ++ ws.reverse) := kbn_of hI 1 ["entries", "deeds", "start", "values"] (fun us ws => us ++ ws.reverse) (fun a b => a.append (GX.vals_rev b)) (fun _ _ _ _ _ _ us ws hl hw => match us, hl, ws, hw with | [_], _, [_, _, _, _], _ => rfl)
  have OIL : FnOk P w K mg base CX0 4 (He.fAd K ("Thing", some "__init__")) dI ["self", "values", "start", "deeds", "entries"] (spInitL K C) := ok_initL hI TC Hfb Hiw Hfw Hol (fr "len" (by simp)) (fr "tuple" (by simp)) (fr "list" (by simp))
  have OIT : FnOk P w K mg base CX0 4 (He.fAd K ("Thing", some "__init__")) dI ["self", "values", "start", "deeds", "entries"] (spInitT K C) := ok_initT hI TC Hfb Hiw Hfw Hot (fr "len" (by simp)) (fr "tuple" (by simp)) (fr "list" (by simp))
  have OIX : FnOk P w K mg base (L2.CX P w) 4 (He.fAd K ("Thing", some "__init__")) dI ["self", "values", "start", "deeds", "entries"] (spInitX K w C CV CS CD CE) := ok_initX hI TC EX Hfb Hiw Hfx (fr "len" (by simp)) (fr "tuple" (by simp)) (fr "list" (by simp))
  obtain ⟨dMW, hMW⟩ := S.fd (d := mD "Thing" "worths" "Thing.worths" 15 1) (by simp [fn, fnI])
  have MW : C8.Met P w K mg base 1 C "worths" (spWorths C) [] := ⟨_, dMW, ["self"], [], TC.cls, He.meth_ok (S.fact (f := .meth "Thing" "worths") (by simp [fa])), ok_worths hMW TC (fr "list" (by simp)), GX.binds0 hMW (fun _ _ _ _ _ _ us hl => match us, hl with | [_], _ => rfl), .nil⟩
  obtain ⟨dMS, hMS⟩ := S.fd (d := mD "Thing" "start" "Thing.start" 15 2) (by simp [fn, fnI])
  have MS : C8.Met P w K mg base 1 C "start" (spStart C) [] := ⟨_, dMS, ["self"], [], TC.cls, He.meth_ok (S.fact (f := .meth "Thing" "start") (by simp [fa])), ok_start hMS TC, GX.binds0 hMS (fun _ _ _ _ _ _ us hl => match us, hl with | [_], _ => rfl), .nil⟩
  obtain ⟨dMD, hMD⟩ := S.fd (d := mD "Thing" "deeds" "Thing.deeds" 15 3) (by simp [fn, fnI])
  have MD : C8.Met P w K mg base 1 C "deeds" (spLds C ThD.deeds) [] := ⟨_, dMD, ["self"], [], TC.cls, He.meth_ok (S.fact (f := .meth "Thing" "deeds") (by simp [fa])), ok_deeds hMD TC (fr "dict" (by simp)), GX.binds0 hMD (fun _ _ _ _ _ _ us hl => match us, hl with | [_], _ => rfl), .nil⟩
  obtain ⟨dME, hME⟩ := S.fd (d := mD "Thing" "entries" "Thing.entries" 15 4) (by simp [fn, fnI])
  have ME : C8.Met P w K mg base 1 C "entries" (spLds C ThD.ents) [] := ⟨_, dME, ["self"], [], TC.cls, He.meth_ok (S.fact (f := .meth "Thing" "entries") (by simp [fa])), ok_ents hME TC (fr "dict" (by simp)), GX.binds0 hME (fun _ _ _ _ _ _ us hl => match us, hl with | [_], _ => rfl), .nil⟩
  obtain ⟨dE, hE⟩ := S.fd (d := mD "Thing" "__eq__" "Thing.__eq__" 15 5) (by simp [fn, fnI])
  have bE : Binds K dE ["self", "other"] [] := GX.binds0 hE (fun _ _ _ _ _ _ us hl => match us, hl with | [_, _], _ => rfl)
  have OE : FnOk P w K mg base CX0 1 (He.fAd K ("Thing", some "__eq__")) dE ["self", "other"] (spThEq K C) := ok_thEq hE TC IC (S.glo G (by simp [fa])) (fr "isinstance" (by simp))
  obtain ⟨dlawpool, hlawpool⟩ := S.fd (d := fD "_law_pool" 17) (by simp [fn, fnF])
  have Hpo : Has P w K mg base "_law_pool" 1 ["_law_script", "_law_turn"] (spPool K) := ⟨_, dlawpool, S.glo G (by simp [fa]), hlawpool.kp, GX.binds0 hlawpool (fun _ _ _ _ _ _ us hl => match us, hl with | [_, _], _ => rfl), ok_pool hlawpool (fr "int" (by simp)) (fr "abs" (by simp)) (fr "len" (by simp)) (fr "sum" (by simp))⟩
  obtain ⟨dlawtake, hlawtake⟩ := S.fd (d := fD "_law_take" 18) (by simp [fn, fnF])
  have Htk : Has P w K mg base "_law_take" 1 ["_law_pool_here", "_law_many"] (spTakeP) := ⟨_, dlawtake, S.glo G (by simp [fa]), hlawtake.kp, GX.binds0 hlawtake (fun _ _ _ _ _ _ us hl => match us, hl with | [_, _], _ => rfl), ok_takeP hlawtake (fr "int" (by simp))⟩
  obtain ⟨dlawone, hlawone⟩ := S.fd (d := fD "_law_one" 19) (by simp [fn, fnF])
  have Hon : Has P w K mg base "_law_one" 2 ["_law_pool_here", "_law_things"] (spOneP) := ⟨_, dlawone, S.glo G (by simp [fa]), hlawone.kp, GX.binds0 hlawone (fun _ _ _ _ _ _ us hl => match us, hl with | [_, _], _ => rfl), ok_oneP hlawone Htk (fr "len" (by simp))⟩
  obtain ⟨dlawmixed, hlawmixed⟩ := S.fd (d := fD "_law_mixed" 20) (by simp [fn, fnF])
  have Hmx : Has P w K mg base "_law_mixed" 2 ["_law_pool_here", "_law_things"] (spMixed) := ⟨_, dlawmixed, S.glo G (by simp [fa]), hlawmixed.kp, GX.binds0 hlawmixed (fun _ _ _ _ _ _ us hl => match us, hl with | [_, _], _ => rfl), ok_mixed hlawmixed Htk (fr "len" (by simp)) (fr "list" (by simp)) (fr "range" (by simp))⟩
  obtain ⟨dlawleads, hlawleads⟩ := S.fd (d := fD "_law_leads" 22) (by simp [fn, fnF])
  have Hle : Has P w K mg base "_law_leads" 3 ["_law_pool_here", "_law_names", "_law_values", "_law_is_whole"] (spLeads) := ⟨_, dlawleads, S.glo G (by simp [fa]), hlawleads.kp, GX.binds0 hlawleads (fun _ _ _ _ _ _ us hl => match us, hl with | [_, _, _, _], _ => rfl), ok_leads hlawleads Htk Hon Hmx (fr "len" (by simp)) (fr "dict" (by simp))⟩
  obtain ⟨dlawtold, hlawtold⟩ := S.fd (d := fD "_law_told" 23) (by simp [fn, fnF])
  have Hto : Has P w K mg base "_law_told" 1 ["_law_leads_here", "_law_values"] (spTold) := ⟨_, dlawtold, S.glo G (by simp [fa]), hlawtold.kp, GX.binds0 hlawtold (fun _ _ _ _ _ _ us hl => match us, hl with | [_, _], _ => rfl), ok_told hlawtold (fr "sorted" (by simp))⟩
  obtain ⟨dmt, hmt⟩ := S.fd (d := fD "_law_met" 21) (by simp [fn, fnF])
  obtain ⟨dlawdoorsright, hlawdoorsright⟩ := S.fd (d := fD "_law_doors_right" 24) (by simp [fn, fnF])
  have Hdr : Has P w K mg base "_law_doors_right" 8 ["_law_pool_here", "_law_values", "_law_start", "_law_deeds", "_law_entries"] (spDoors T) := ⟨_, dlawdoorsright, S.glo G (by simp [fa]), hlawdoorsright.kp, GX.binds0 hlawdoorsright (fun _ _ _ _ _ _ us hl => match us, hl with | [_, _, _, _, _], _ => rfl), ok_doors hlawdoorsright t2 TB2 m2 u2 M4 hmt (S.glo G (by simp [fa])) hmt.kp (He.mkr_ok (S.fact (f := .mkr "Thing") (by simp [fa]))) (S.glo G (by simp [fa])) bI OIX Hon (fr "len" (by simp)) (fr "isinstance" (by simp)) (fr "dict" (by simp)) (fr "list" (by simp)) (fr "bool" (by simp))⟩
  obtain ⟨dla, hla⟩ := S.fd (d := fD "law" 25) (by simp [fn, fnF])
  have OL := ok_lawP (P := P) (w := w) (base := base) hla Hpo Htk Hon Hmx Hle Hto Hdr (He.mkr_ok (S.fact (f := .mkr "Thing") (by simp [fa]))) (S.glo G (by simp [fa])) bI bK OIL OIT EQ OE bE MW MS MD ME (fr "len" (by simp)) (fr "dict" (by simp)) (fr "list" (by simp)) (fr "tuple" (by simp)) (fr "range" (by simp))
  exact ⟨dla, hla, OL⟩
end K01

/-! the head's looks, kernel runs (printed by genend.py) -/
namespace K01
open PySem PySem.W PySem.Calls PyProof.Rows
abbrev R : OpenRow := OpenLaw.row PySem.Challenge.rw_meettasks_k01_things_made
abbrev qv : Program := view R.prog [25]
def n0 : List PySem.Str := [(PySem.Str.ofString "is_list"), (PySem.Str.ofString "is_word"), (PySem.Str.ofString "first_bad_word"), (PySem.Str.ofString "TaskError"), (PySem.Str.ofString "BadValues"), (PySem.Str.ofString "BadStart"), (PySem.Str.ofString "BadDeeds"), (PySem.Str.ofString "BadEntries"), (PySem.Str.ofString "is_lead"), (PySem.Str.ofString "first_wrong"), (PySem.Str.ofString "ordered"), (PySem.Str.ofString "Thing"), (PySem.Str.ofString "_law_pool"), (PySem.Str.ofString "_law_take"), (PySem.Str.ofString "_law_one"), (PySem.Str.ofString "_law_mixed"), (PySem.Str.ofString "_law_met"), (PySem.Str.ofString "_law_leads"), (PySem.Str.ofString "_law_told"), (PySem.Str.ofString "_law_doors_right"), (PySem.Str.ofString "LETTERS")]
def names : List PySem.Str := n0
noncomputable abbrev Zs (w : World) (os : OsState) : SharedT := K01H.Sz w os
noncomputable abbrev KZ (w : World) (os : OsState) : Frag := He.frG (HandSHeadRun.getT (Zs w os)) (GX.asX (HandSHeadRun.getT (Zs w os)))
theorem zLooks (w : World) (os : OsState) : HandSHeadRun.looksF R.prog (boot_heap w.params) (Zs w os).abs = true := by kernel_rfl
theorem zSeen (w : World) (os : OsState) : HandSHeadRun.seenQ qv names (importedModules R.prog.main.body) (fun s => xlAt qv [] s && recOk R.toRowW.records s) (Zs w os).abs = openGood qv names := by kernel_rfl
theorem zFa (w : World) (os : OsState) : (fa.all fun f => f.ok (KZ w os)) = true := by kernel_rfl
theorem zFF (w : World) (os : OsState) : ((fnF.all fun d => d.ok (KZ w os)), fnF.map fun d => He.fnW (KZ w os) d.at_) = (true, fnF.map He.DefD.val) := by kernel_rfl
theorem zFI (w : World) (os : OsState) : ((fnI.all fun d => d.ok (KZ w os)), fnI.map fun d => He.fnW (KZ w os) d.at_) = (true, fnI.map He.DefD.val) := by kernel_rfl
theorem zTb (w : World) (os : OsState) : (mk.all (fun x => GX.tabB (KZ w os) (HandSHeadRun.getT (Zs w os)) x) && GX.nodB (mk.map fun x => (GX.tabOf (KZ w os) x).2)) = true := by kernel_rfl
theorem zCl (w : World) (os : OsState) : GX.clsAll nms (KZ w os) = true := by kernel_rfl
theorem zXt (w : World) (os : OsState) : TH.thB (KZ w os) = true := by kernel_rfl
theorem zOb (w : World) (os : OsState) : hk.obs (Zs w os).abs = (true, He.valD fn) := by
  rw [← GY.obY_eq]
  have a := zFF w os
  have b := zFI w os
  simp only [Prod.mk.injEq] at a b
  have dd : He.obsD fa fn (KZ w os) = He.valD fn := by
    unfold He.obsD He.valD
    rw [show fn = fnF ++ fnI from rfl, List.map_append, List.map_append, a.2, b.2, List.all_append, zFa, a.1, b.1]
    rfl
  show GY.obsY TH.thB fa fn mk nms _ (KZ w os) = _
  unfold GY.obsY GX.obsX
  rw [dd, zCl, zTb, zXt]
  rfl
end K01

open PySem PySem.W PySem.Calls PyProof.Rows
theorem PySem.Challenge.cw_meettasks_k01_things_made_holds : PySem.Challenge.rw_meettasks_k01_things_made.Holds := by
  w_on; o_law
  refine HG.head (r := OpenLaw.row PySem.Challenge.rw_meettasks_k01_things_made) (q := view (OpenLaw.row PySem.Challenge.rw_meettasks_k01_things_made).prog [25]) (H := K01.hk) (loose := K01.names) (d := HandSHeadRun.topDef (OpenLaw.row PySem.Challenge.rw_meettasks_k01_things_made).prog 25) (kwd := [])
    (by kernel_rfl) (fun s => by kernel_rfl) K01H.top K01.zLooks K01.zSeen K01.zOb (by kernel_rfl) (by kernel_rfl) (by kernel_rfl) (by rfl) (by first | assumption | decide +kernel) (by decide +kernel) ⟨rfl, rfl, rfl, rfl, rfl, by decide +kernel⟩ ?hw ?hc
  case hw => w_witness2
  case hc =>
    refine LamX.walk_ofG (l := PySem.Challenge.rw_meettasks_k01_things_made) (n := 63) (CX := L2.CX0) rfl (by decide) (by kernel_rfl) ?F (fun _ _ _ _ z => z)
    intro w mg fa h Y G hmg0
    obtain ⟨K, SY⟩ := Y
    have S := SY.s
    have hmg : mg ("law" : PySem.Str) = some (.ref fa) := by
      have e : (HandSHeadRun.topDef (OpenLaw.row PySem.Challenge.rw_meettasks_k01_things_made).prog 25).name = ("law" : PySem.Str) := by kernel_rfl
      rw [← e]
      exact hmg0
    have gl : mg ("law" : PySem.Str) = some (.ref (He.ga K "law")) := S.glo G (by simp [K01.fa])
    have efa : He.ga K "law" = fa := by
      rw [gl] at hmg
      exact Value.ref.inj (Option.some.inj hmg)
    subst efa
    have tb := S.tab "_law_doors_right" (by simp [K01.mk])
    refine ⟨K, [GX.tabOf K "_law_doors_right"], S.inh, fun p hp => ?_, fun p hp => ?_, fun p hp => ?_, fun base hK hg TB s H a ns hl hT hS e0 => ?_⟩
    · obtain rfl := List.mem_singleton.mp hp
      exact tb.em
    · obtain rfl := List.mem_singleton.mp hp
      exact tb.no
    · obtain rfl := List.mem_singleton.mp hp
      exact tb.hd
    · have hu2 : ∀ p ∈ [((GX.tabOf K "_law_doors_right").2, TH.lamD)], p.1 = (GX.tabOf K "_law_doors_right").2 → p.2 = TH.lamD := fun p hp e => by
        obtain rfl := List.mem_singleton.mp hp
        rfl
      obtain ⟨fd, FL, OL⟩ := K01.law_all (P := PySem.Challenge.rw_meettasks_k01_things_made.prog) (w := w) (base := base) SY G (T := [((GX.tabOf K "_law_doors_right").2, TH.lamD)]) tb.co (TB _ (by simp)) (by simp) hu2
      have hb := L2.FunD.bindsA (ps := ["_law_script"]) FL (fun _ _ _ _ _ _ us hl => match us, hl with | [_], _ => rfl) s [Value.ref a] rfl
      refine OL.run callerA [] s H ⟨[.ref a], []⟩ [.ref a] [.ref a] _ _ ⟨rfl, by decide, by decide⟩ e0 hb (.cons rfl .nil) ⟨a, ns, rfl, hS, hl, fun p hp => ?_, fun _ => rfl⟩
      obtain rfl := List.mem_singleton.mp hp
      exact LamX.TabS.nil (hT _ (by simp))
#print axioms PySem.Challenge.cw_meettasks_k01_things_made_holds

