import PyProof.Rows.All
import Wide.All
import OpenK.AllK
import Wide.FinOn
import HandS.Head0
import HandS.Head1
import HandS.Head2
import PySem.Challenge.RW_meettasks_k59_jobs_told_and_refused
import HandS.ForMost
import HandS.IsInst
import HandS.TupAny
import HandS.Flow
import HandS.ExcInit
import HandS.ExcIs
import HandS.ExcField
import HandS.ExcValue
import HandS.MakeKw
import HandS.MakeKwOnly
import KE.KExcIs
import HandS.Nested
import HandS.EndTab
import HandS.DeepEq
import PyProof.ReprRoads
import PyProof.ReprDict
import HandS.Words
import HandS.WordsExc
import HandS.WordsList
import HandS.TryMany
import HandS.Walk
import HandS.DictComp
import HandS.Star
import HandS.Conv
import HandS.TryOnly
import HandS.Defaults
import HandS.HeadHook1
import HandS.HeadHook2
import KE.GoesEnum
import KE.KDictSum
import HandS.More
import HandS.Codes
import KE.KDictPairs
import KE.KDictWalk
import KE.KeyNested
import KE.KTab
import HandS.OwnEq
import HandS.ListItems
import KE.KDictCopyH
import HandS.Style
import HandS.Finally
import HandS.Zip
import HandS.Small
import HandS.WordsDict
import HandS.TupSets
set_option Elab.async false
set_option linter.all false
set_option maxRecDepth 100000
set_option maxHeartbeats 0
/-! HG: the top in pieces whose states are written out; each piece is one kernel run. -/
noncomputable section
namespace HG
open PySem PySem.W PySem.Calls PyProof.Rows HandSHeadRun
section
variable (st : SharedT → Thread → Option (SharedT × Thread)) (m0 : Nat) (ann : Option Value)
/-- so many steps, none of them the end -/
def steps : Nat → SharedT → Thread → Option (SharedT × Thread)
  | 0, s, t => some (s, t)
  | k + 1, s, t => bif through t then none else bif stepOk m0 ann t then (match st s t with
      | none => none
      | some x => frS x.1 fun u => steps k u x.2) else none
/-- to the end of a block -/
def block : Nat → SharedT → Thread → Option (Flow × SharedT × Code × Pos)
  | 0, _, _ => none
  | k + 1, s, t => match endAt 1 t with
    | some f => some (f, s, t.code, t.pos)
    | none => bif stepOk m0 ann t then (match st s t with
      | none => none
      | some x => frS x.1 fun u => block k u x.2) else none
end
section
variable {tb : String → Option Builtin} {p : Program} {w : World} {m0 : Nat} {ann : Option Value}
theorem steps_ok {s' : SharedT} {t' : Thread} : ∀ {k : Nat} {s : SharedT} {t : Thread}, steps (stepT (denote tb) p w) m0 ann k s t = some (s', t') → topGo tb p w m0 ann k s.abs t = some (s'.abs, t') := by
  intro k
  induction k with
  | zero =>
    intro s t h
    cases h
    rfl
  | succ k ih =>
    intro s t h
    rw [steps] at h
    rw [topGo]
    cases a : through t <;> rw [a] at h
    · cases b : stepOk m0 ann t <;> rw [b] at h
      · cases h
      · cases c : stepT (denote tb) p w s t with
        | none =>
          rw [c] at h
          cases h
        | some x =>
          obtain ⟨x1, x2⟩ := x
          rw [c] at h
          have h' : frS x1 (fun u => steps (stepT (denote tb) p w) m0 ann k u x2) = some (s', t') := h
          rw [frS_eq] at h'
          have z := ih h'
          simp only [stepT_spec c]
          exact z
    · cases h
theorem block_ok {r : Flow × SharedT × Code × Pos} : ∀ {k : Nat} {s : SharedT} {t : Thread}, block (stepT (denote tb) p w) m0 ann k s t = some r → segRunT tb p w m0 ann 1 k s t = some r := by
  intro k
  induction k with
  | zero =>
    intro s t h
    cases h
  | succ k ih =>
    intro s t h
    rw [block] at h
    rw [segRunT]
    cases a : endAt 1 t with
    | some f =>
      rw [a] at h
      exact h
    | none =>
      rw [a] at h
      have h : (bif stepOk m0 ann t then (match stepT (denote tb) p w s t with
        | none => none
        | some x => frS x.1 fun u => block (stepT (denote tb) p w) m0 ann k u x.2) else none) = some r := h
      cases b : stepOk m0 ann t <;> rw [b] at h
      · cases h
      · cases c : stepT (denote tb) p w s t with
        | none =>
          rw [c] at h
          cases h
        | some x =>
          obtain ⟨x1, x2⟩ := x
          rw [c] at h
          have h' : frS x1 (fun u => block (stepT (denote tb) p w) m0 ann k u x2) = some r := h
          rw [frS_eq] at h'
          exact ih h'
end
def exQ : List Stmt → Env → Sem Flow := PySem.W.Fast.tw12563942051412417395
theorem exQ_eq : @PySem.execs = exQ := PySem.W.Fast.te12563942051412417395
/-- the first steps, from the boot -/
def first (st : SharedT → Thread → Option (SharedT × Thread)) (k : Nat) (p : Program) (w : World) (os : OsState) : Option (SharedT × Thread) := match putAll (boot_heap w.params).objs.toList .nil 0 with
  | none => none
  | some x => frNat x.2 fun n => steps st n (bootAnn w) k (bootT w os (x.1, n)) (topStub p)
abbrev bootS (w : World) (os : OsState) : Shared := ⟨boot_heap w.params, #[], boot_drawn, boot_toks, os⟩
theorem size_boot (w : World) : (boot_heap w.params).objs.size = 11 := by kernel_rfl
theorem ann_boot (w : World) : bootAnn w = some (.ref 6) := by kernel_rfl
abbrev an6 : Option Value := some (.ref 6)
theorem first_ok {k : Nat} {p : Program} {w : World} {os : OsState} {s : SharedT} {t : Thread} (h : first (stepQ (denQ tabQ) p w) k p w os = some (s, t)) : topGo treeTable p w 11 an6 k (bootS w os) (topStub p) = some (s.abs, t) := by
  rw [← stepQ_eq, ← denQ_eq, ← tabQ_eq] at h
  unfold first at h
  cases e : putAll (boot_heap w.params).objs.toList .nil 0 with
  | none =>
    rw [e] at h
    cases h
  | some x =>
    obtain ⟨T, n⟩ := x
    rw [e] at h
    have h : (frNat n fun n => steps (stepT (denote treeTable) p w) n (bootAnn w) k (bootT w os (T, n)) (topStub p)) = some (s, t) := h
    rw [frNat_eq] at h
    have z := steps_ok h
    have hh := putAll_heap e
    have hn : n = 11 := by
      rw [← size_boot w, ← hh]
      exact (absHeap_size T n _).symm
    rw [ann_boot, hn] at z
    subst hn
    have zz : (bootT w os (T, 11)).abs = bootS w os := congrArg (fun y => (⟨y, #[], boot_drawn, boot_toks, os⟩ : Shared)) hh
    rw [zz] at z
    exact z
section
variable {p : Program} {w : World} {env : Env} {q : Pos}
/-- a piece, and what follows -/
theorem piece {k N : Nat} {s s' : SharedT} {r : Shared} {l rest : List Stmt} {c : Code} {a b : Pos} (h : block (stepQ (denQ tabQ) p w) 11 an6 k s ⟨(exQ l env).wrap doneF deadEnd id id, c, a, [topFrame q]⟩ = some (.next, s', c, b))
    (z : topRun treeTable p w 11 an6 N s'.abs (restOf rest env c b [topFrame q]) = some r) : topRun treeTable p w 11 an6 (k + N) s.abs (restOf (l ++ rest) env c a [topFrame q]) = some r := by
  rw [← stepQ_eq, ← denQ_eq, ← tabQ_eq, ← exQ_eq] at h
  exact piece_app (segRun_of (block_ok h)) z
/-- behind the last piece -/
theorem last {k : Nat} {s s' : SharedT} {c : Code} {a : Pos} (h : goF (stepQ (denQ tabQ) p w) 11 an6 k s ⟨doneF .next, c, a, [topFrame q]⟩ = some s') : topRun treeTable p w 11 an6 k s.abs (restOf [] env c a [topFrame q]) = some s'.abs := by
  rw [← stepQ_eq, ← denQ_eq, ← tabQ_eq] at h
  exact goF_ok h
/-- the first steps, the block's begin, and what follows -/
theorem begin_ {k N : Nat} {os : OsState} {s : SharedT} {r : Shared} {b : List Stmt} {c : Code} {a : Pos} (h : first (stepQ (denQ tabQ) p w) k p w os = some (s, ⟨denQ tabQ (.body b env), c, a, [topFrame q]⟩))
    (hb : block (stepQ (denQ tabQ) p w) 11 an6 1 s ⟨(PySem.W.Fast.tw1066825118222455980 b env).wrap (fun _ => doneF .next) deadEnd id id, c, a, [topFrame q]⟩ = some (.next, s, c, a))
    (z : topRun treeTable p w 11 an6 N s.abs (restOf b env c a [topFrame q]) = some r) : topRun treeTable p w 11 an6 (k + (1 + N)) (bootS w os) (topStub p) = some r := by
  have h1 := first_ok h
  rw [← denQ_eq, ← tabQ_eq] at h1
  rw [← stepQ_eq, ← denQ_eq, ← tabQ_eq, ← PySem.W.Fast.te1066825118222455980] at hb
  exact go_top h1 (piece_block (segRun_of (block_ok hb)) z)
end
/-- what the top leaves, of a written state -/
theorem left {p q : Program} {loose : List PySem.Str} {Xt : Shared → Bool} {α : Type} {Yf : Shared → α} {Ya : World → α} {N M n k : Nat} {T : Params → BT} {life : Life} {d : Drawn} (e : opening p = plainProg p.main.scope.names) (hN : Nat.ble 600 N = true) (f : ∀ s, fenceModules? p s = some s)
    (run : ∀ (w : World) (os : OsState), topRun treeTable p w 11 an6 M (bootS w os) (topStub p) = some (SharedT.abs ⟨T w.params, n, life, #[], d, k, os⟩)) (le : Nat.ble M N = true)
    (l1 : ∀ (w : World) (os : OsState), looksF p (boot_heap w.params) (SharedT.abs ⟨T w.params, n, life, #[], d, k, os⟩) = true)
    (l2 : ∀ (w : World) (os : OsState), seenQ q loose (importedModules p.main.body) Xt (SharedT.abs ⟨T w.params, n, life, #[], d, k, os⟩) = openGood q loose)
    (l3 : ∀ (w : World) (os : OsState), Yf (SharedT.abs ⟨T w.params, n, life, #[], d, k, os⟩) = Ya w) : LeftO p q loose Xt Yf Ya N true := by
  refine LeftO.of_pieces (H₀ := boot_heap) (H₁ := fun P => absHeap (T P) n life) (gs₀ := #[]) (gs₁ := #[]) (d₀ := boot_drawn) (d₁ := d) (k₀ := boot_toks) (k₁ := k) (m₀ := 11) (ann := an6) (M := M) (boot_open e hN f) (fun w => ?_) run le fun w => funext fun os => ?_
  · have a := size_boot w
    have b := ann_boot w
    unfold bootAnn at b
    rw [a, b, boot_ns]
    rfl
  · have a := l1 w os
    have b := l2 w os
    rw [← seenQ_eq] at b
    exact Prod.ext a (Prod.ext b (l3 w os))
end HG

end
/-! HF: a law by a head in written-out pieces. -/
noncomputable section
namespace HG
open PySem PySem.W PySem.Calls PyProof.Rows HandSHeadRun
theorem head {r : OpenRow} {q : Program} {H : Hook} {M n k : Nat} {T : Params → BT} {life : Life} {dr : Drawn} {loose : List PySem.Str} {d : DefRec} {kwd : List (PySem.Str × PySem.Expr)}
    (e : opening r.prog = plainProg r.prog.main.scope.names) (f : ∀ s, fenceModules? r.prog s = some s)
    (run : ∀ (w : World) (os : OsState), topRun treeTable r.prog w 11 an6 M (bootS w os) (topStub r.prog) = some (SharedT.abs ⟨T w.params, n, life, #[], dr, k, os⟩))
    (l1 : ∀ (w : World) (os : OsState), looksF r.prog (boot_heap w.params) (SharedT.abs ⟨T w.params, n, life, #[], dr, k, os⟩) = true)
    (l2 : ∀ (w : World) (os : OsState), seenQ q loose (importedModules r.prog.main.body) (fun s => xlAt q [] s && recOk r.toRowW.records s) (SharedT.abs ⟨T w.params, n, life, #[], dr, k, os⟩) = openGood q loose)
    (l3 : ∀ (w : World) (os : OsState), H.obs (SharedT.abs ⟨T w.params, n, life, #[], dr, k, os⟩) = H.val w)
    (h1 : defOf q r.name = some (d, kwd)) (h2 : r.prog.theDef r.name = some (d.params, d.body, d.scope)) (h3 : kwWritten? d.params.kwonlyargs d.params.kw_defaults = some kwd)
    (h4 : (!r.writes || r.records.isEmpty) = true) (h5 : r.wellSaid = true) (h6 : (chainsOk q && opensWell r.prog && (frees r.toRowW && r.within.isEmpty)) = true) (h7 : r.prog.bare) (h8 : r.toRowW.promised)
    (call : WalkO q loose (XL q []) H.says r.toRowW d kwd fun f vs => PySem.call f vs) : r.Holds := by
  have L : LeftO r.prog q loose (fun s => xlAt q [] s && recOk r.toRowW.records s) H.obs H.val (M + 600) true :=
    left (M := M) e (Nat.ble_eq_true_of_le (Nat.le_add_left 600 M)) f run (Nat.ble_eq_true_of_le (Nat.le_add_right M 600)) l1 l2 l3
  exact holds_open (XP := XL q []) (YP := H.says) L H.of H.keeps (fun s z => xl_of s (Bool.and_eq_true_iff.mp z).1) XL.keeps h1 h2 h3 (fun s z => recFacts_of (Bool.and_eq_true_iff.mp z).2) h4 h5 h6 h7 h8 call
end HG

end
noncomputable section
namespace K59H
open PySem PySem.W PySem.Calls PyProof.Rows HandSHeadRun
abbrev Pg : Program := (OpenLaw.row PySem.Challenge.rw_meettasks_k59_jobs_told_and_refused).prog
abbrev S : String → PySem.Str := PySem.Str.ofString
abbrev N : Obj → BT → BT → BT := BT.node
abbrev e : BT := BT.nil
abbrev E (P : Params) (x : String) (t : Nat) (v : Value) : DictEntry := ⟨PySem.PyData.keyHash P (S x), .str (S x) t, v⟩
def dT (i : Nat) : DefRec := topDef Pg i
def dM (i j : Nat) : DefRec := match Pg.main.body[i]? with
  | some (.ClassDef _ _ _ b _ _ _ _ _ _ _) => (match b[j]? with
    | some (.FunctionDef n a c _ _ _ sc _ _ ps) => ⟨n, a, c, sc, ps⟩
    | _ => topDef Pg i)
  | _ => topDef Pg i
def o0 (P : Params) : Obj := ⟨(.type "tuple"), none, (.seq #[] 0), #[]⟩
def o1 (P : Params) : Obj := ⟨.none, none, (.fields #[]), #[]⟩
def o2 (P : Params) : Obj := ⟨(.type "code"), none, (.fields #[(.str (S "<module>") 182), (.str (S "<module>") 183), (.str (S "/claim/cut.py") 184), (.int 1 0), (.int 0 0), (.int 0 0), (.int 0 0), (.int 0 0), (.ref 11), (.bool false), (.int 181 0), (.ref 12), .none, .none, .none, .none, (.int 185 0), (.int 1 0), (.str (S "/claim/cut.py") 186)]), #[]⟩
def o3 (P : Params) : Obj := ⟨(.type "frame"), none, .plain, #[(some (.ref 13)), (some (.ref 3)), (some (.ref 3)), none, (some (.str (S "__main__") 164)), none, (some (.ref 0))]⟩
def Ta (P : Params) : BT := (N (boot_o_0 P) (N (boot_o_1 P) (N (boot_o_3 P) (N (boot_o_7 P) e e) (N (o0 P) e e)) (N (boot_o_5 P) (N (boot_o_9 P) e e) (N (o2 P) e e))) (N (boot_o_2 P) (N (boot_o_4 P) (N (boot_o_8 P) e e) (N (o1 P) e e)) (N (boot_o_6 P) (N (boot_o_10 P) e e) (N (o3 P) e e))))
def Sa (w : World) (os : OsState) : SharedT := ⟨Ta w.params, 15, ⟨[], [], [], 0, [], [], false, #[], [], 0, false, false, false, 0, [2000, 10, 10], false, 0, true, [], [], 0, false⟩, #[], ⟨0, 0, 0, 0⟩, 187, os⟩
def posa : Pos := ⟨0, 0, 0, 0⟩
def Tb (P : Params) : BT := (N (boot_o_0 P) (N (boot_o_1 P) (N (boot_o_3 P) (N (boot_o_7 P) e e) (N (o0 P) e e)) (N (boot_o_5 P) (N (boot_o_9 P) e e) (N (o2 P) e e))) (N (boot_o_2 P) (N (boot_o_4 P) (N (boot_o_8 P) e e) (N (o1 P) e e)) (N (boot_o_6 P) (N (boot_o_10 P) e e) (N (o3 P) e e))))
def Sb (w : World) (os : OsState) : SharedT := ⟨Tb w.params, 15, ⟨[], [], [], 0, [], [], false, #[], [], 0, false, false, false, 0, [2000, 10, 10], false, 0, true, [], [], 0, false⟩, #[], ⟨0, 0, 0, 0⟩, 187, os⟩
def posb : Pos := ⟨0, 0, 0, 0⟩
def o4 (P : Params) : Obj := ⟨(.type "dict"), none, (.dict #[E P "__name__" 165 (.str (S "law_meettasks_k59_jobs_told_and_refused") 552), E P "__doc__" 166 .none, E P "__package__" 167 .none, E P "__loader__" 168 (.builtin "__main__.__loader__#opaque"), E P "__spec__" 169 .none, E P "__annotations__" 170 (.ref 6), E P "__builtins__" 171 (.ref 4), E P "__file__" 173 (.str (S "/claim/cut.py") 172), E P "__cached__" 174 .none, E P "LETTERS" 190 (.str (S "abcdefghijklmnopqrstuvwxyz") 189), E P "is_integer" 197 (.ref 21), E P "is_natural" 204 (.ref 28), E P "is_positive" 211 (.ref 35), E P "is_list" 218 (.ref 42), E P "is_pair" 225 (.ref 49), E P "is_word" 231 (.ref 54), E P "TaskError" 251 (.ref 64), E P "NoThing" 276 (.ref 84), E P "BadNumber" 301 (.ref 103), E P "BadJobs" 326 (.ref 122), E P "NoJob" 351 (.ref 141), E P "BadComings" 376 (.ref 160), E P "is_job_body" 387 (.ref 169), E P "is_job" 395 (.ref 176), E P "body_kept" 401 (.ref 181), E P "spans_of" 417 (.ref 188), E P "Jobs" 479 (.ref 231), E P "check_job" 487 (.ref 242), E P "is_coming" 493 (.ref 247), E P "checked_comings" 499 (.ref 252), E P "inside_at" 505 (.ref 257), E P "priority_now" 511 (.ref 262), E P "moments_done" 517 (.ref 267), E P "ends_of" 523 (.ref 272), E P "done" 531 (.ref 279), E P "answers_in" 537 (.ref 284), E P "answers" 545 (.ref 291), E P "breakdown" 551 (.ref 296), E P "_law_pool" 565 (.ref 303), E P "_law_take" 575 (.ref 310), E P "_law_one" 583 (.ref 317), E P "_law_mixed" 593 (.ref 324), E P "_law_same" 599 (.ref 329), E P "_law_body" 605 (.ref 334), E P "_law_jobs" 620 (.ref 341), E P "_law_units" 631 (.ref 348), E P "_law_handed" 637 (.ref 353), E P "_law_made" 643 (.ref 358), E P "_law_ceilings" 649 (.ref 363), E P "_law_met" 657 (.ref 370), E P "_law_bad_jobs" 663 (.ref 375), E P "_law_bad_comings" 669 (.ref 380), E P "_law_refused" 688 (.ref 387), E P "law" 694 (.ref 392)] 54), #[]⟩
def o5 (P : Params) : Obj := ⟨.none, none, (.fields #[(.int 3 0), (.int 0 0), (.ref 20), (.int 5 0), (.int 0 0), (.ref 27), (.int 7 0), (.int 0 0), (.ref 34), (.int 9 0), (.int 0 0), (.ref 41), (.int 11 0), (.int 0 0), (.ref 48), (.int 13 0), (.int 0 0), (.ref 53), (.int 16 0), (.int 0 0), (.ref 60), (.int 18 0), (.int 0 0), (.ref 73), (.int 22 0), (.int 0 0), (.ref 92), (.int 26 0), (.int 0 0), (.ref 111), (.int 30 0), (.int 0 0), (.ref 130), (.int 34 0), (.int 0 0), (.ref 149), (.int 39 0), (.int 0 0), (.ref 168), (.int 49 0), (.int 0 0), (.ref 175), (.int 53 0), (.int 0 0), (.ref 180), (.int 55 0), (.int 0 0), (.ref 187), (.int 66 0), (.int 0 0), (.ref 194), (.int 97 0), (.int 0 0), (.ref 241), (.int 100 0), (.int 0 0), (.ref 246), (.int 104 0), (.int 0 0), (.ref 251), (.int 111 0), (.int 0 0), (.ref 256), (.int 113 0), (.int 0 0), (.ref 261), (.int 116 0), (.int 0 0), (.ref 266), (.int 133 0), (.int 0 0), (.ref 271), (.int 139 0), (.int 0 0), (.ref 278), (.int 141 0), (.int 0 0), (.ref 283), (.int 144 0), (.int 0 0), (.ref 290), (.int 146 0), (.int 0 0), (.ref 295), (.int 158 0), (.int 0 0), (.ref 302), (.int 165 0), (.int 0 0), (.ref 309), (.int 173 0), (.int 0 0), (.ref 316), (.int 175 0), (.int 0 0), (.ref 323), (.int 180 0), (.int 0 0), (.ref 328), (.int 190 0), (.int 0 0), (.ref 333), (.int 200 0), (.int 0 0), (.ref 340), (.int 208 0), (.int 0 0), (.ref 347), (.int 216 0), (.int 0 0), (.ref 352), (.int 221 0), (.int 0 0), (.ref 357), (.int 223 0), (.int 0 0), (.ref 362), (.int 229 0), (.int 0 0), (.ref 369), (.int 243 0), (.int 0 0), (.ref 374), (.int 254 0), (.int 0 0), (.ref 379), (.int 263 0), (.int 0 0), (.ref 386), (.int 277 0), (.int 0 0), (.ref 391)]), #[]⟩
def o6 (P : Params) : Obj := ⟨(.type "tuple"), none, (.seq #[] 0), #[]⟩
def o7 (P : Params) : Obj := ⟨.none, none, (.fields #[]), #[]⟩
def o8 (P : Params) : Obj := ⟨(.type "tuple"), none, (.seq #[(.str (S "thing") 194)] 0), #[]⟩
def o9 (P : Params) : Obj := ⟨(.type "tuple"), none, (.seq #[] 0), #[]⟩
def o10 (P : Params) : Obj := ⟨.none, none, (.func ⟨(S "is_integer"), (S "is_integer"), (dT 2).params, .stmts (dT 2).body, (dT 2).scope, 0, [], .none, .none, .none, .none, none, .none, .none, 0⟩), #[]⟩
def o11 (P : Params) : Obj := ⟨(.type "code"), none, (.fields #[(.str (S "is_integer") 191), (.str (S "is_integer") 192), (.str (S "/claim/cut.py") 193), (.int 3 0), (.int 1 0), (.int 0 0), (.int 0 0), (.int 3 0), (.ref 15), (.bool true), (.int 181 0), (.ref 16), .none, (.ref 17), (.ref 18), (.ref 19), (.int 195 0), (.int 3 0), (.str (S "/claim/cut.py") 196)]), #[]⟩
def o12 (P : Params) : Obj := ⟨(.type "function"), none, (.func ⟨(S "is_integer"), (S "is_integer"), (dT 2).params, .stmts (dT 2).body, (dT 2).scope, 3, [], .none, .none, .none, (.str (S "meettasks.basics") 187), none, (.ref 20), .none, 0⟩), #[]⟩
def o13 (P : Params) : Obj := ⟨(.type "tuple"), none, (.seq #[] 0), #[]⟩
def o14 (P : Params) : Obj := ⟨.none, none, (.fields #[]), #[]⟩
def o15 (P : Params) : Obj := ⟨(.type "tuple"), none, (.seq #[(.str (S "thing") 201)] 0), #[]⟩
def o16 (P : Params) : Obj := ⟨(.type "tuple"), none, (.seq #[] 0), #[]⟩
def o17 (P : Params) : Obj := ⟨.none, none, (.func ⟨(S "is_natural"), (S "is_natural"), (dT 3).params, .stmts (dT 3).body, (dT 3).scope, 0, [], .none, .none, .none, .none, none, .none, .none, 0⟩), #[]⟩
def o18 (P : Params) : Obj := ⟨(.type "code"), none, (.fields #[(.str (S "is_natural") 198), (.str (S "is_natural") 199), (.str (S "/claim/cut.py") 200), (.int 5 0), (.int 1 0), (.int 0 0), (.int 0 0), (.int 3 0), (.ref 22), (.bool true), (.int 181 0), (.ref 23), .none, (.ref 24), (.ref 25), (.ref 26), (.int 202 0), (.int 5 0), (.str (S "/claim/cut.py") 203)]), #[]⟩
def o19 (P : Params) : Obj := ⟨(.type "function"), none, (.func ⟨(S "is_natural"), (S "is_natural"), (dT 3).params, .stmts (dT 3).body, (dT 3).scope, 3, [], .none, .none, .none, (.str (S "meettasks.basics") 187), none, (.ref 27), .none, 0⟩), #[]⟩
def o20 (P : Params) : Obj := ⟨(.type "tuple"), none, (.seq #[] 0), #[]⟩
def o21 (P : Params) : Obj := ⟨.none, none, (.fields #[]), #[]⟩
def o22 (P : Params) : Obj := ⟨(.type "tuple"), none, (.seq #[(.str (S "thing") 208)] 0), #[]⟩
def o23 (P : Params) : Obj := ⟨(.type "tuple"), none, (.seq #[] 0), #[]⟩
def o24 (P : Params) : Obj := ⟨.none, none, (.func ⟨(S "is_positive"), (S "is_positive"), (dT 4).params, .stmts (dT 4).body, (dT 4).scope, 0, [], .none, .none, .none, .none, none, .none, .none, 0⟩), #[]⟩
def o25 (P : Params) : Obj := ⟨(.type "code"), none, (.fields #[(.str (S "is_positive") 205), (.str (S "is_positive") 206), (.str (S "/claim/cut.py") 207), (.int 7 0), (.int 1 0), (.int 0 0), (.int 0 0), (.int 3 0), (.ref 29), (.bool true), (.int 181 0), (.ref 30), .none, (.ref 31), (.ref 32), (.ref 33), (.int 209 0), (.int 7 0), (.str (S "/claim/cut.py") 210)]), #[]⟩
def o26 (P : Params) : Obj := ⟨(.type "function"), none, (.func ⟨(S "is_positive"), (S "is_positive"), (dT 4).params, .stmts (dT 4).body, (dT 4).scope, 3, [], .none, .none, .none, (.str (S "meettasks.basics") 187), none, (.ref 34), .none, 0⟩), #[]⟩
def o27 (P : Params) : Obj := ⟨(.type "tuple"), none, (.seq #[] 0), #[]⟩
def o28 (P : Params) : Obj := ⟨.none, none, (.fields #[]), #[]⟩
def o29 (P : Params) : Obj := ⟨(.type "tuple"), none, (.seq #[(.str (S "thing") 215)] 0), #[]⟩
def o30 (P : Params) : Obj := ⟨(.type "tuple"), none, (.seq #[] 0), #[]⟩
def o31 (P : Params) : Obj := ⟨.none, none, (.func ⟨(S "is_list"), (S "is_list"), (dT 5).params, .stmts (dT 5).body, (dT 5).scope, 0, [], .none, .none, .none, .none, none, .none, .none, 0⟩), #[]⟩
def o32 (P : Params) : Obj := ⟨(.type "code"), none, (.fields #[(.str (S "is_list") 212), (.str (S "is_list") 213), (.str (S "/claim/cut.py") 214), (.int 9 0), (.int 1 0), (.int 0 0), (.int 0 0), (.int 3 0), (.ref 36), (.bool true), (.int 181 0), (.ref 37), .none, (.ref 38), (.ref 39), (.ref 40), (.int 216 0), (.int 9 0), (.str (S "/claim/cut.py") 217)]), #[]⟩
def o33 (P : Params) : Obj := ⟨(.type "function"), none, (.func ⟨(S "is_list"), (S "is_list"), (dT 5).params, .stmts (dT 5).body, (dT 5).scope, 3, [], .none, .none, .none, (.str (S "meettasks.basics") 187), none, (.ref 41), .none, 0⟩), #[]⟩
def o34 (P : Params) : Obj := ⟨(.type "tuple"), none, (.seq #[] 0), #[]⟩
def o35 (P : Params) : Obj := ⟨.none, none, (.fields #[]), #[]⟩
def o36 (P : Params) : Obj := ⟨(.type "tuple"), none, (.seq #[(.str (S "thing") 222)] 0), #[]⟩
def o37 (P : Params) : Obj := ⟨(.type "tuple"), none, (.seq #[] 0), #[]⟩
def o38 (P : Params) : Obj := ⟨.none, none, (.func ⟨(S "is_pair"), (S "is_pair"), (dT 6).params, .stmts (dT 6).body, (dT 6).scope, 0, [], .none, .none, .none, .none, none, .none, .none, 0⟩), #[]⟩
def o39 (P : Params) : Obj := ⟨(.type "code"), none, (.fields #[(.str (S "is_pair") 219), (.str (S "is_pair") 220), (.str (S "/claim/cut.py") 221), (.int 11 0), (.int 1 0), (.int 0 0), (.int 0 0), (.int 3 0), (.ref 43), (.bool true), (.int 181 0), (.ref 44), .none, (.ref 45), (.ref 46), (.ref 47), (.int 223 0), (.int 11 0), (.str (S "/claim/cut.py") 224)]), #[]⟩
def o40 (P : Params) : Obj := ⟨(.type "function"), none, (.func ⟨(S "is_pair"), (S "is_pair"), (dT 6).params, .stmts (dT 6).body, (dT 6).scope, 3, [], .none, .none, .none, (.str (S "meettasks.basics") 187), none, (.ref 48), .none, 0⟩), #[]⟩
def o41 (P : Params) : Obj := ⟨(.type "tuple"), none, (.seq #[] 0), #[]⟩
def o42 (P : Params) : Obj := ⟨.none, none, (.fields #[]), #[]⟩
def o43 (P : Params) : Obj := ⟨.none, none, (.func ⟨(S "is_word"), (S "is_word"), (dT 7).params, .stmts (dT 7).body, (dT 7).scope, 0, [], .none, .none, .none, .none, none, .none, .none, 0⟩), #[]⟩
def o44 (P : Params) : Obj := ⟨(.type "code"), none, (.fields #[(.str (S "is_word") 226), (.str (S "is_word") 227), (.str (S "/claim/cut.py") 228), (.int 13 0), (.int 1 0), (.int 0 0), (.int 0 0), (.int 3 0), (.ref 50), (.bool true), (.int 181 0), (.ref 51), .none, .none, .none, (.ref 52), (.int 229 0), (.int 13 0), (.str (S "/claim/cut.py") 230)]), #[]⟩
def o45 (P : Params) : Obj := ⟨(.type "function"), none, (.func ⟨(S "is_word"), (S "is_word"), (dT 7).params, .stmts (dT 7).body, (dT 7).scope, 3, [], .none, .none, .none, (.str (S "meettasks.basics") 187), none, (.ref 53), .none, 0⟩), #[]⟩
def o46 (P : Params) : Obj := ⟨(.type "tuple"), none, (.seq #[(.type "ValueError")] 0), #[]⟩
def o47 (P : Params) : Obj := ⟨(.type "builtin_function_or_method"), none, (.fields #[(.builtin "type.__prepare__"), (.type "type")]), #[]⟩
def o48 (P : Params) : Obj := ⟨(.type "dict"), none, (.dict #[E P "__module__" 241 (.str (S "meettasks.errors") 232), E P "__qualname__" 243 (.str (S "TaskError") 242), E P "__firstlineno__" 245 (.int 16 244), E P "__static_attributes__" 246 (.ref 62)] 4), #[]⟩
def o49 (P : Params) : Obj := ⟨(.type "tuple"), none, (.seq #[] 0), #[]⟩
def o50 (P : Params) : Obj := ⟨.none, none, (.fields #[]), #[]⟩
def o51 (P : Params) : Obj := ⟨(.type "code"), none, (.fields #[(.str (S "TaskError") 236), (.str (S "TaskError") 237), (.str (S "/claim/cut.py") 238), (.int 16 0), (.int 0 0), (.int 0 0), (.int 0 0), (.int 0 0), (.ref 58), (.bool false), (.int 181 0), (.ref 59), .none, .none, .none, .none, (.int 239 0), (.int 16 0), (.str (S "/claim/cut.py") 240)]), #[]⟩
def o52 (P : Params) : Obj := ⟨(.type "frame"), none, .plain, #[(some (.ref 60)), (some (.ref 3)), (some (.ref 57)), none, (some (.str (S "meettasks.errors") 232)), none, (some (.ref 0))]⟩
def o53 (P : Params) : Obj := ⟨(.type "tuple"), none, (.seq #[] 0), #[]⟩
def o54 (P : Params) : Obj := ⟨(.type "dict"), none, (.dict #[E P "__module__" 241 (.str (S "meettasks.errors") 232), E P "__firstlineno__" 245 (.int 16 244), E P "__static_attributes__" 246 (.ref 62), E P "__weakref__" 248 (.ref 65), E P "__doc__" 249 .none] 3), #[]⟩
def o55 (P : Params) : Obj := ⟨(.type "type"), none, (.cls ⟨(S "TaskError"), [(.type "ValueError")], [(.ref 64), (.type "ValueError"), (.type "Exception"), (.type "BaseException"), (.type "object")], 63, (S "TaskError"), true, [], [(.ref 84), (.ref 103), (.ref 122), (.ref 141), (.ref 160)], false, none, false⟩), #[(some (.ref 55)), none, (some (.str (S "TaskError") 234)), (some (.str (S "TaskError") 242)), (some (.builtin "ValueError.__new__")), (some (.bool true))]⟩
def o56 (P : Params) : Obj := ⟨(.type "getset_descriptor"), none, (.fields #[(.str (S "__weakref__") 247), (.ref 64), (.builtin "ExceptionGroup.__weakref__"), .none]), #[]⟩
def o57 (P : Params) : Obj := ⟨(.type "super"), none, (.fields #[(.ref 64), (.ref 64), (.ref 64)]), #[]⟩
def o58 (P : Params) : Obj := ⟨(.type "builtin_function_or_method"), none, (.fields #[(.builtin "object.__init_subclass__"), (.ref 64)]), #[]⟩
def o59 (P : Params) : Obj := ⟨(.type "tuple"), none, (.seq #[(.ref 64)] 0), #[]⟩
def o60 (P : Params) : Obj := ⟨(.type "builtin_function_or_method"), none, (.fields #[(.builtin "type.__prepare__"), (.type "type")]), #[]⟩
def o61 (P : Params) : Obj := ⟨(.type "dict"), none, (.dict #[E P "__module__" 259 (.str (S "meettasks.errors") 232), E P "__qualname__" 261 (.str (S "NoThing") 260), E P "__firstlineno__" 263 (.int 18 262), E P "__init__" 271 (.ref 81), E P "__static_attributes__" 273 (.ref 82)] 5), #[]⟩
def o62 (P : Params) : Obj := ⟨(.type "tuple"), none, (.seq #[] 0), #[]⟩
def o63 (P : Params) : Obj := ⟨.none, none, (.fields #[(.int 20 0), (.int 4 0), (.ref 80)]), #[]⟩
def o64 (P : Params) : Obj := ⟨(.type "code"), none, (.fields #[(.str (S "NoThing") 254), (.str (S "NoThing") 255), (.str (S "/claim/cut.py") 256), (.int 18 0), (.int 0 0), (.int 0 0), (.int 0 0), (.int 0 0), (.ref 71), (.bool false), (.int 181 0), (.ref 72), .none, .none, .none, .none, (.int 257 0), (.int 18 0), (.str (S "/claim/cut.py") 258)]), #[]⟩
def o65 (P : Params) : Obj := ⟨(.type "frame"), none, .plain, #[(some (.ref 73)), (some (.ref 3)), (some (.ref 70)), none, (some (.str (S "meettasks.errors") 232)), none, (some (.ref 0))]⟩
def o66 (P : Params) : Obj := ⟨(.type "tuple"), none, (.seq #[] 0), #[]⟩
def o67 (P : Params) : Obj := ⟨.none, none, (.fields #[]), #[]⟩
def o68 (P : Params) : Obj := ⟨(.type "tuple"), none, (.seq #[(.str (S "self") 267), (.str (S "thing") 268)] 0), #[]⟩
def o69 (P : Params) : Obj := ⟨(.type "tuple"), none, (.seq #[] 0), #[]⟩
def o70 (P : Params) : Obj := ⟨.none, none, (.func ⟨(S "__init__"), (S "NoThing.__init__"), (dM 10 0).params, .stmts (dM 10 0).body, (dM 10 0).scope, 0, [], .none, .none, .none, .none, none, .none, .none, 0⟩), #[]⟩
def o71 (P : Params) : Obj := ⟨(.type "code"), none, (.fields #[(.str (S "__init__") 264), (.str (S "NoThing.__init__") 265), (.str (S "/claim/cut.py") 266), (.int 20 0), (.int 2 0), (.int 0 0), (.int 0 0), (.int 3 0), (.ref 75), (.bool true), (.int 181 0), (.ref 76), .none, (.ref 77), (.ref 78), (.ref 79), (.int 269 0), (.int 20 0), (.str (S "/claim/cut.py") 270)]), #[]⟩
def o72 (P : Params) : Obj := ⟨(.type "function"), none, (.func ⟨(S "__init__"), (S "NoThing.__init__"), (dM 10 0).params, .stmts (dM 10 0).body, (dM 10 0).scope, 3, [], .none, .none, .none, (.str (S "meettasks.errors") 232), none, (.ref 80), .none, 0⟩), #[]⟩
def o73 (P : Params) : Obj := ⟨(.type "tuple"), none, (.seq #[(.str (S "thing") 272)] 0), #[]⟩
def o74 (P : Params) : Obj := ⟨(.type "dict"), none, (.dict #[E P "__module__" 259 (.str (S "meettasks.errors") 232), E P "__firstlineno__" 263 (.int 18 262), E P "__init__" 271 (.ref 81), E P "__static_attributes__" 273 (.ref 82), E P "__doc__" 274 .none] 2), #[]⟩
def o75 (P : Params) : Obj := ⟨(.type "type"), none, (.cls ⟨(S "NoThing"), [(.ref 64)], [(.ref 84), (.ref 64), (.type "ValueError"), (.type "Exception"), (.type "BaseException"), (.type "object")], 83, (S "NoThing"), true, [], [], false, none, false⟩), #[(some (.ref 68)), none, (some (.str (S "NoThing") 252)), (some (.str (S "NoThing") 260)), (some (.builtin "ValueError.__new__")), (some (.bool true))]⟩
def o76 (P : Params) : Obj := ⟨(.type "super"), none, (.fields #[(.ref 84), (.ref 84), (.ref 84)]), #[]⟩
def o77 (P : Params) : Obj := ⟨(.type "builtin_function_or_method"), none, (.fields #[(.builtin "object.__init_subclass__"), (.ref 84)]), #[]⟩
def o78 (P : Params) : Obj := ⟨(.type "tuple"), none, (.seq #[(.ref 64)] 0), #[]⟩
def o79 (P : Params) : Obj := ⟨(.type "builtin_function_or_method"), none, (.fields #[(.builtin "type.__prepare__"), (.type "type")]), #[]⟩
def o80 (P : Params) : Obj := ⟨(.type "dict"), none, (.dict #[E P "__module__" 284 (.str (S "meettasks.errors") 232), E P "__qualname__" 286 (.str (S "BadNumber") 285), E P "__firstlineno__" 288 (.int 22 287), E P "__init__" 296 (.ref 100), E P "__static_attributes__" 298 (.ref 101)] 5), #[]⟩
def o81 (P : Params) : Obj := ⟨(.type "tuple"), none, (.seq #[] 0), #[]⟩
def o82 (P : Params) : Obj := ⟨.none, none, (.fields #[(.int 24 0), (.int 4 0), (.ref 99)]), #[]⟩
def o83 (P : Params) : Obj := ⟨(.type "code"), none, (.fields #[(.str (S "BadNumber") 279), (.str (S "BadNumber") 280), (.str (S "/claim/cut.py") 281), (.int 22 0), (.int 0 0), (.int 0 0), (.int 0 0), (.int 0 0), (.ref 90), (.bool false), (.int 181 0), (.ref 91), .none, .none, .none, .none, (.int 282 0), (.int 22 0), (.str (S "/claim/cut.py") 283)]), #[]⟩
def o84 (P : Params) : Obj := ⟨(.type "frame"), none, .plain, #[(some (.ref 92)), (some (.ref 3)), (some (.ref 89)), none, (some (.str (S "meettasks.errors") 232)), none, (some (.ref 0))]⟩
def o85 (P : Params) : Obj := ⟨(.type "tuple"), none, (.seq #[] 0), #[]⟩
def o86 (P : Params) : Obj := ⟨.none, none, (.fields #[]), #[]⟩
def o87 (P : Params) : Obj := ⟨(.type "tuple"), none, (.seq #[(.str (S "self") 292), (.str (S "number") 293)] 0), #[]⟩
def o88 (P : Params) : Obj := ⟨(.type "tuple"), none, (.seq #[] 0), #[]⟩
def o89 (P : Params) : Obj := ⟨.none, none, (.func ⟨(S "__init__"), (S "BadNumber.__init__"), (dM 11 0).params, .stmts (dM 11 0).body, (dM 11 0).scope, 0, [], .none, .none, .none, .none, none, .none, .none, 0⟩), #[]⟩
def o90 (P : Params) : Obj := ⟨(.type "code"), none, (.fields #[(.str (S "__init__") 289), (.str (S "BadNumber.__init__") 290), (.str (S "/claim/cut.py") 291), (.int 24 0), (.int 2 0), (.int 0 0), (.int 0 0), (.int 3 0), (.ref 94), (.bool true), (.int 181 0), (.ref 95), .none, (.ref 96), (.ref 97), (.ref 98), (.int 294 0), (.int 24 0), (.str (S "/claim/cut.py") 295)]), #[]⟩
def o91 (P : Params) : Obj := ⟨(.type "function"), none, (.func ⟨(S "__init__"), (S "BadNumber.__init__"), (dM 11 0).params, .stmts (dM 11 0).body, (dM 11 0).scope, 3, [], .none, .none, .none, (.str (S "meettasks.errors") 232), none, (.ref 99), .none, 0⟩), #[]⟩
def o92 (P : Params) : Obj := ⟨(.type "tuple"), none, (.seq #[(.str (S "number") 297)] 0), #[]⟩
def o93 (P : Params) : Obj := ⟨(.type "dict"), none, (.dict #[E P "__module__" 284 (.str (S "meettasks.errors") 232), E P "__firstlineno__" 288 (.int 22 287), E P "__init__" 296 (.ref 100), E P "__static_attributes__" 298 (.ref 101), E P "__doc__" 299 .none] 2), #[]⟩
def o94 (P : Params) : Obj := ⟨(.type "type"), none, (.cls ⟨(S "BadNumber"), [(.ref 64)], [(.ref 103), (.ref 64), (.type "ValueError"), (.type "Exception"), (.type "BaseException"), (.type "object")], 102, (S "BadNumber"), true, [], [], false, none, false⟩), #[(some (.ref 87)), none, (some (.str (S "BadNumber") 277)), (some (.str (S "BadNumber") 285)), (some (.builtin "ValueError.__new__")), (some (.bool true))]⟩
def o95 (P : Params) : Obj := ⟨(.type "super"), none, (.fields #[(.ref 103), (.ref 103), (.ref 103)]), #[]⟩
def o96 (P : Params) : Obj := ⟨(.type "builtin_function_or_method"), none, (.fields #[(.builtin "object.__init_subclass__"), (.ref 103)]), #[]⟩
def o97 (P : Params) : Obj := ⟨(.type "tuple"), none, (.seq #[(.ref 64)] 0), #[]⟩
def o98 (P : Params) : Obj := ⟨(.type "builtin_function_or_method"), none, (.fields #[(.builtin "type.__prepare__"), (.type "type")]), #[]⟩
def o99 (P : Params) : Obj := ⟨(.type "dict"), none, (.dict #[E P "__module__" 309 (.str (S "meettasks.errors") 232), E P "__qualname__" 311 (.str (S "BadJobs") 310), E P "__firstlineno__" 313 (.int 26 312), E P "__init__" 321 (.ref 119), E P "__static_attributes__" 323 (.ref 120)] 5), #[]⟩
def o100 (P : Params) : Obj := ⟨(.type "tuple"), none, (.seq #[] 0), #[]⟩
def o101 (P : Params) : Obj := ⟨.none, none, (.fields #[(.int 28 0), (.int 4 0), (.ref 118)]), #[]⟩
def o102 (P : Params) : Obj := ⟨(.type "code"), none, (.fields #[(.str (S "BadJobs") 304), (.str (S "BadJobs") 305), (.str (S "/claim/cut.py") 306), (.int 26 0), (.int 0 0), (.int 0 0), (.int 0 0), (.int 0 0), (.ref 109), (.bool false), (.int 181 0), (.ref 110), .none, .none, .none, .none, (.int 307 0), (.int 26 0), (.str (S "/claim/cut.py") 308)]), #[]⟩
def o103 (P : Params) : Obj := ⟨(.type "frame"), none, .plain, #[(some (.ref 111)), (some (.ref 3)), (some (.ref 108)), none, (some (.str (S "meettasks.errors") 232)), none, (some (.ref 0))]⟩
def o104 (P : Params) : Obj := ⟨(.type "tuple"), none, (.seq #[] 0), #[]⟩
def o105 (P : Params) : Obj := ⟨.none, none, (.fields #[]), #[]⟩
def o106 (P : Params) : Obj := ⟨(.type "tuple"), none, (.seq #[(.str (S "self") 317), (.str (S "job") 318)] 0), #[]⟩
def o107 (P : Params) : Obj := ⟨(.type "tuple"), none, (.seq #[] 0), #[]⟩
def o108 (P : Params) : Obj := ⟨.none, none, (.func ⟨(S "__init__"), (S "BadJobs.__init__"), (dM 12 0).params, .stmts (dM 12 0).body, (dM 12 0).scope, 0, [], .none, .none, .none, .none, none, .none, .none, 0⟩), #[]⟩
def o109 (P : Params) : Obj := ⟨(.type "code"), none, (.fields #[(.str (S "__init__") 314), (.str (S "BadJobs.__init__") 315), (.str (S "/claim/cut.py") 316), (.int 28 0), (.int 2 0), (.int 0 0), (.int 0 0), (.int 3 0), (.ref 113), (.bool true), (.int 181 0), (.ref 114), .none, (.ref 115), (.ref 116), (.ref 117), (.int 319 0), (.int 28 0), (.str (S "/claim/cut.py") 320)]), #[]⟩
def o110 (P : Params) : Obj := ⟨(.type "function"), none, (.func ⟨(S "__init__"), (S "BadJobs.__init__"), (dM 12 0).params, .stmts (dM 12 0).body, (dM 12 0).scope, 3, [], .none, .none, .none, (.str (S "meettasks.errors") 232), none, (.ref 118), .none, 0⟩), #[]⟩
def o111 (P : Params) : Obj := ⟨(.type "tuple"), none, (.seq #[(.str (S "job") 322)] 0), #[]⟩
def o112 (P : Params) : Obj := ⟨(.type "dict"), none, (.dict #[E P "__module__" 309 (.str (S "meettasks.errors") 232), E P "__firstlineno__" 313 (.int 26 312), E P "__init__" 321 (.ref 119), E P "__static_attributes__" 323 (.ref 120), E P "__doc__" 324 .none] 2), #[]⟩
def o113 (P : Params) : Obj := ⟨(.type "type"), none, (.cls ⟨(S "BadJobs"), [(.ref 64)], [(.ref 122), (.ref 64), (.type "ValueError"), (.type "Exception"), (.type "BaseException"), (.type "object")], 121, (S "BadJobs"), true, [], [], false, none, false⟩), #[(some (.ref 106)), none, (some (.str (S "BadJobs") 302)), (some (.str (S "BadJobs") 310)), (some (.builtin "ValueError.__new__")), (some (.bool true))]⟩
def o114 (P : Params) : Obj := ⟨(.type "super"), none, (.fields #[(.ref 122), (.ref 122), (.ref 122)]), #[]⟩
def o115 (P : Params) : Obj := ⟨(.type "builtin_function_or_method"), none, (.fields #[(.builtin "object.__init_subclass__"), (.ref 122)]), #[]⟩
def o116 (P : Params) : Obj := ⟨(.type "tuple"), none, (.seq #[(.ref 64)] 0), #[]⟩
def o117 (P : Params) : Obj := ⟨(.type "builtin_function_or_method"), none, (.fields #[(.builtin "type.__prepare__"), (.type "type")]), #[]⟩
def o118 (P : Params) : Obj := ⟨(.type "dict"), none, (.dict #[E P "__module__" 334 (.str (S "meettasks.errors") 232), E P "__qualname__" 336 (.str (S "NoJob") 335), E P "__firstlineno__" 338 (.int 30 337), E P "__init__" 346 (.ref 138), E P "__static_attributes__" 348 (.ref 139)] 5), #[]⟩
def o119 (P : Params) : Obj := ⟨(.type "tuple"), none, (.seq #[] 0), #[]⟩
def o120 (P : Params) : Obj := ⟨.none, none, (.fields #[(.int 32 0), (.int 4 0), (.ref 137)]), #[]⟩
def o121 (P : Params) : Obj := ⟨(.type "code"), none, (.fields #[(.str (S "NoJob") 329), (.str (S "NoJob") 330), (.str (S "/claim/cut.py") 331), (.int 30 0), (.int 0 0), (.int 0 0), (.int 0 0), (.int 0 0), (.ref 128), (.bool false), (.int 181 0), (.ref 129), .none, .none, .none, .none, (.int 332 0), (.int 30 0), (.str (S "/claim/cut.py") 333)]), #[]⟩
def o122 (P : Params) : Obj := ⟨(.type "frame"), none, .plain, #[(some (.ref 130)), (some (.ref 3)), (some (.ref 127)), none, (some (.str (S "meettasks.errors") 232)), none, (some (.ref 0))]⟩
def o123 (P : Params) : Obj := ⟨(.type "tuple"), none, (.seq #[] 0), #[]⟩
def o124 (P : Params) : Obj := ⟨.none, none, (.fields #[]), #[]⟩
def o125 (P : Params) : Obj := ⟨(.type "tuple"), none, (.seq #[(.str (S "self") 342), (.str (S "job") 343)] 0), #[]⟩
def o126 (P : Params) : Obj := ⟨(.type "tuple"), none, (.seq #[] 0), #[]⟩
def o127 (P : Params) : Obj := ⟨.none, none, (.func ⟨(S "__init__"), (S "NoJob.__init__"), (dM 13 0).params, .stmts (dM 13 0).body, (dM 13 0).scope, 0, [], .none, .none, .none, .none, none, .none, .none, 0⟩), #[]⟩
def o128 (P : Params) : Obj := ⟨(.type "code"), none, (.fields #[(.str (S "__init__") 339), (.str (S "NoJob.__init__") 340), (.str (S "/claim/cut.py") 341), (.int 32 0), (.int 2 0), (.int 0 0), (.int 0 0), (.int 3 0), (.ref 132), (.bool true), (.int 181 0), (.ref 133), .none, (.ref 134), (.ref 135), (.ref 136), (.int 344 0), (.int 32 0), (.str (S "/claim/cut.py") 345)]), #[]⟩
def o129 (P : Params) : Obj := ⟨(.type "function"), none, (.func ⟨(S "__init__"), (S "NoJob.__init__"), (dM 13 0).params, .stmts (dM 13 0).body, (dM 13 0).scope, 3, [], .none, .none, .none, (.str (S "meettasks.errors") 232), none, (.ref 137), .none, 0⟩), #[]⟩
def o130 (P : Params) : Obj := ⟨(.type "tuple"), none, (.seq #[(.str (S "job") 347)] 0), #[]⟩
def o131 (P : Params) : Obj := ⟨(.type "dict"), none, (.dict #[E P "__module__" 334 (.str (S "meettasks.errors") 232), E P "__firstlineno__" 338 (.int 30 337), E P "__init__" 346 (.ref 138), E P "__static_attributes__" 348 (.ref 139), E P "__doc__" 349 .none] 2), #[]⟩
def o132 (P : Params) : Obj := ⟨(.type "type"), none, (.cls ⟨(S "NoJob"), [(.ref 64)], [(.ref 141), (.ref 64), (.type "ValueError"), (.type "Exception"), (.type "BaseException"), (.type "object")], 140, (S "NoJob"), true, [], [], false, none, false⟩), #[(some (.ref 125)), none, (some (.str (S "NoJob") 327)), (some (.str (S "NoJob") 335)), (some (.builtin "ValueError.__new__")), (some (.bool true))]⟩
def o133 (P : Params) : Obj := ⟨(.type "super"), none, (.fields #[(.ref 141), (.ref 141), (.ref 141)]), #[]⟩
def o134 (P : Params) : Obj := ⟨(.type "builtin_function_or_method"), none, (.fields #[(.builtin "object.__init_subclass__"), (.ref 141)]), #[]⟩
def o135 (P : Params) : Obj := ⟨(.type "tuple"), none, (.seq #[(.ref 64)] 0), #[]⟩
def o136 (P : Params) : Obj := ⟨(.type "builtin_function_or_method"), none, (.fields #[(.builtin "type.__prepare__"), (.type "type")]), #[]⟩
def o137 (P : Params) : Obj := ⟨(.type "dict"), none, (.dict #[E P "__module__" 359 (.str (S "meettasks.errors") 232), E P "__qualname__" 361 (.str (S "BadComings") 360), E P "__firstlineno__" 363 (.int 34 362), E P "__init__" 371 (.ref 157), E P "__static_attributes__" 373 (.ref 158)] 5), #[]⟩
def o138 (P : Params) : Obj := ⟨(.type "tuple"), none, (.seq #[] 0), #[]⟩
def o139 (P : Params) : Obj := ⟨.none, none, (.fields #[(.int 36 0), (.int 4 0), (.ref 156)]), #[]⟩
def o140 (P : Params) : Obj := ⟨(.type "code"), none, (.fields #[(.str (S "BadComings") 354), (.str (S "BadComings") 355), (.str (S "/claim/cut.py") 356), (.int 34 0), (.int 0 0), (.int 0 0), (.int 0 0), (.int 0 0), (.ref 147), (.bool false), (.int 181 0), (.ref 148), .none, .none, .none, .none, (.int 357 0), (.int 34 0), (.str (S "/claim/cut.py") 358)]), #[]⟩
def o141 (P : Params) : Obj := ⟨(.type "frame"), none, .plain, #[(some (.ref 149)), (some (.ref 3)), (some (.ref 146)), none, (some (.str (S "meettasks.errors") 232)), none, (some (.ref 0))]⟩
def o142 (P : Params) : Obj := ⟨(.type "tuple"), none, (.seq #[] 0), #[]⟩
def o143 (P : Params) : Obj := ⟨.none, none, (.fields #[]), #[]⟩
def o144 (P : Params) : Obj := ⟨(.type "tuple"), none, (.seq #[(.str (S "self") 367), (.str (S "job") 368)] 0), #[]⟩
def o145 (P : Params) : Obj := ⟨(.type "tuple"), none, (.seq #[] 0), #[]⟩
def o146 (P : Params) : Obj := ⟨.none, none, (.func ⟨(S "__init__"), (S "BadComings.__init__"), (dM 14 0).params, .stmts (dM 14 0).body, (dM 14 0).scope, 0, [], .none, .none, .none, .none, none, .none, .none, 0⟩), #[]⟩
def o147 (P : Params) : Obj := ⟨(.type "code"), none, (.fields #[(.str (S "__init__") 364), (.str (S "BadComings.__init__") 365), (.str (S "/claim/cut.py") 366), (.int 36 0), (.int 2 0), (.int 0 0), (.int 0 0), (.int 3 0), (.ref 151), (.bool true), (.int 181 0), (.ref 152), .none, (.ref 153), (.ref 154), (.ref 155), (.int 369 0), (.int 36 0), (.str (S "/claim/cut.py") 370)]), #[]⟩
def o148 (P : Params) : Obj := ⟨(.type "function"), none, (.func ⟨(S "__init__"), (S "BadComings.__init__"), (dM 14 0).params, .stmts (dM 14 0).body, (dM 14 0).scope, 3, [], .none, .none, .none, (.str (S "meettasks.errors") 232), none, (.ref 156), .none, 0⟩), #[]⟩
def o149 (P : Params) : Obj := ⟨(.type "tuple"), none, (.seq #[(.str (S "job") 372)] 0), #[]⟩
def o150 (P : Params) : Obj := ⟨(.type "dict"), none, (.dict #[E P "__module__" 359 (.str (S "meettasks.errors") 232), E P "__firstlineno__" 363 (.int 34 362), E P "__init__" 371 (.ref 157), E P "__static_attributes__" 373 (.ref 158), E P "__doc__" 374 .none] 2), #[]⟩
def o151 (P : Params) : Obj := ⟨(.type "type"), none, (.cls ⟨(S "BadComings"), [(.ref 64)], [(.ref 160), (.ref 64), (.type "ValueError"), (.type "Exception"), (.type "BaseException"), (.type "object")], 159, (S "BadComings"), true, [], [], false, none, false⟩), #[(some (.ref 144)), none, (some (.str (S "BadComings") 352)), (some (.str (S "BadComings") 360)), (some (.builtin "ValueError.__new__")), (some (.bool true))]⟩
def o152 (P : Params) : Obj := ⟨(.type "super"), none, (.fields #[(.ref 160), (.ref 160), (.ref 160)]), #[]⟩
def o153 (P : Params) : Obj := ⟨(.type "builtin_function_or_method"), none, (.fields #[(.builtin "object.__init_subclass__"), (.ref 160)]), #[]⟩
def o154 (P : Params) : Obj := ⟨(.type "tuple"), none, (.seq #[] 0), #[]⟩
def o155 (P : Params) : Obj := ⟨.none, none, (.fields #[]), #[]⟩
def o156 (P : Params) : Obj := ⟨(.type "tuple"), none, (.seq #[(.str (S "thing") 382), (.str (S "within") 383), (.str (S "part") 384)] 0), #[]⟩
def o157 (P : Params) : Obj := ⟨(.type "tuple"), none, (.seq #[] 0), #[]⟩
def o158 (P : Params) : Obj := ⟨.none, none, (.func ⟨(S "is_job_body"), (S "is_job_body"), (dT 16).params, .stmts (dT 16).body, (dT 16).scope, 0, [], .none, .none, .none, .none, none, .none, .none, 0⟩), #[]⟩
def o159 (P : Params) : Obj := ⟨(.type "code"), none, (.fields #[(.str (S "is_job_body") 379), (.str (S "is_job_body") 380), (.str (S "/claim/cut.py") 381), (.int 39 0), (.int 2 0), (.int 0 0), (.int 0 0), (.int 3 0), (.ref 163), (.bool true), (.int 181 0), (.ref 164), .none, (.ref 165), (.ref 166), (.ref 167), (.int 385 0), (.int 39 0), (.str (S "/claim/cut.py") 386)]), #[]⟩
def o160 (P : Params) : Obj := ⟨(.type "function"), none, (.func ⟨(S "is_job_body"), (S "is_job_body"), (dT 16).params, .stmts (dT 16).body, (dT 16).scope, 3, [], .none, .none, .none, (.str (S "meettasks.jobs") 377), none, (.ref 168), .none, 0⟩), #[]⟩
def o161 (P : Params) : Obj := ⟨(.type "tuple"), none, (.seq #[] 0), #[]⟩
def o162 (P : Params) : Obj := ⟨.none, none, (.fields #[]), #[]⟩
def o163 (P : Params) : Obj := ⟨(.type "tuple"), none, (.seq #[(.str (S "thing") 391), (.str (S "priorities") 392)] 0), #[]⟩
def o164 (P : Params) : Obj := ⟨(.type "tuple"), none, (.seq #[] 0), #[]⟩
def o165 (P : Params) : Obj := ⟨.none, none, (.func ⟨(S "is_job"), (S "is_job"), (dT 17).params, .stmts (dT 17).body, (dT 17).scope, 0, [], .none, .none, .none, .none, none, .none, .none, 0⟩), #[]⟩
def o166 (P : Params) : Obj := ⟨(.type "code"), none, (.fields #[(.str (S "is_job") 388), (.str (S "is_job") 389), (.str (S "/claim/cut.py") 390), (.int 49 0), (.int 2 0), (.int 0 0), (.int 0 0), (.int 3 0), (.ref 170), (.bool true), (.int 181 0), (.ref 171), .none, (.ref 172), (.ref 173), (.ref 174), (.int 393 0), (.int 49 0), (.str (S "/claim/cut.py") 394)]), #[]⟩
def o167 (P : Params) : Obj := ⟨(.type "function"), none, (.func ⟨(S "is_job"), (S "is_job"), (dT 17).params, .stmts (dT 17).body, (dT 17).scope, 3, [], .none, .none, .none, (.str (S "meettasks.jobs") 377), none, (.ref 175), .none, 0⟩), #[]⟩
def o168 (P : Params) : Obj := ⟨(.type "tuple"), none, (.seq #[] 0), #[]⟩
def o169 (P : Params) : Obj := ⟨.none, none, (.fields #[]), #[]⟩
def o170 (P : Params) : Obj := ⟨.none, none, (.func ⟨(S "body_kept"), (S "body_kept"), (dT 18).params, .stmts (dT 18).body, (dT 18).scope, 0, [], .none, .none, .none, .none, none, .none, .none, 0⟩), #[]⟩
def o171 (P : Params) : Obj := ⟨(.type "code"), none, (.fields #[(.str (S "body_kept") 396), (.str (S "body_kept") 397), (.str (S "/claim/cut.py") 398), (.int 53 0), (.int 1 0), (.int 0 0), (.int 0 0), (.int 3 0), (.ref 177), (.bool true), (.int 181 0), (.ref 178), .none, .none, .none, (.ref 179), (.int 399 0), (.int 53 0), (.str (S "/claim/cut.py") 400)]), #[]⟩
def o172 (P : Params) : Obj := ⟨(.type "function"), none, (.func ⟨(S "body_kept"), (S "body_kept"), (dT 18).params, .stmts (dT 18).body, (dT 18).scope, 3, [], .none, .none, .none, (.str (S "meettasks.jobs") 377), none, (.ref 180), .none, 0⟩), #[]⟩
def o173 (P : Params) : Obj := ⟨(.type "tuple"), none, (.seq #[] 0), #[]⟩
def o174 (P : Params) : Obj := ⟨.none, none, (.fields #[]), #[]⟩
def o175 (P : Params) : Obj := ⟨(.type "tuple"), none, (.seq #[(.str (S "body") 405), (.str (S "path") 406), (.str (S "begin") 407), (.str (S "found") 408), (.str (S "at") 409), (.str (S "number") 410), (.str (S "part") 411), (.str (S "here") 412), (.str (S "inner") 413), (.str (S "end") 414)] 0), #[]⟩
def o176 (P : Params) : Obj := ⟨(.type "tuple"), none, (.seq #[] 0), #[]⟩
def o177 (P : Params) : Obj := ⟨.none, none, (.func ⟨(S "spans_of"), (S "spans_of"), (dT 19).params, .stmts (dT 19).body, (dT 19).scope, 0, [], .none, .none, .none, .none, none, .none, .none, 0⟩), #[]⟩
def o178 (P : Params) : Obj := ⟨(.type "code"), none, (.fields #[(.str (S "spans_of") 402), (.str (S "spans_of") 403), (.str (S "/claim/cut.py") 404), (.int 55 0), (.int 3 0), (.int 0 0), (.int 0 0), (.int 3 0), (.ref 182), (.bool true), (.int 181 0), (.ref 183), .none, (.ref 184), (.ref 185), (.ref 186), (.int 415 0), (.int 55 0), (.str (S "/claim/cut.py") 416)]), #[]⟩
def o179 (P : Params) : Obj := ⟨(.type "function"), none, (.func ⟨(S "spans_of"), (S "spans_of"), (dT 19).params, .stmts (dT 19).body, (dT 19).scope, 3, [], .none, .none, .none, (.str (S "meettasks.jobs") 377), none, (.ref 187), .none, 0⟩), #[]⟩
def o180 (P : Params) : Obj := ⟨(.type "tuple"), none, (.seq #[] 0), #[]⟩
def o181 (P : Params) : Obj := ⟨(.type "builtin_function_or_method"), none, (.fields #[(.builtin "type.__prepare__"), (.type "type")]), #[]⟩
def o182 (P : Params) : Obj := ⟨(.type "dict"), none, (.dict #[E P "__module__" 425 (.str (S "meettasks.jobs") 377), E P "__qualname__" 427 (.str (S "Jobs") 426), E P "__firstlineno__" 429 (.int 66 428), E P "__init__" 435 (.ref 200), E P "jobs" 442 (.ref 207), E P "cost" 450 (.ref 214), E P "ceiling" 458 (.ref 221), E P "__eq__" 466 (.ref 228), E P "__static_attributes__" 471 (.ref 229)] 9), #[]⟩
def o183 (P : Params) : Obj := ⟨(.type "tuple"), none, (.seq #[] 0), #[]⟩
def o184 (P : Params) : Obj := ⟨.none, none, (.fields #[(.int 68 0), (.int 4 0), (.ref 199), (.int 83 0), (.int 4 0), (.ref 206), (.int 86 0), (.int 4 0), (.ref 213), (.int 90 0), (.int 4 0), (.ref 220), (.int 95 0), (.int 4 0), (.ref 227)]), #[]⟩
def o185 (P : Params) : Obj := ⟨(.type "code"), none, (.fields #[(.str (S "Jobs") 420), (.str (S "Jobs") 421), (.str (S "/claim/cut.py") 422), (.int 66 0), (.int 0 0), (.int 0 0), (.int 0 0), (.int 0 0), (.ref 192), (.bool false), (.int 181 0), (.ref 193), .none, .none, .none, .none, (.int 423 0), (.int 66 0), (.str (S "/claim/cut.py") 424)]), #[]⟩
def o186 (P : Params) : Obj := ⟨(.type "frame"), none, .plain, #[(some (.ref 194)), (some (.ref 3)), (some (.ref 191)), none, (some (.str (S "meettasks.jobs") 377)), none, (some (.ref 0))]⟩
def o187 (P : Params) : Obj := ⟨(.type "tuple"), none, (.seq #[] 0), #[]⟩
def o188 (P : Params) : Obj := ⟨.none, none, (.fields #[]), #[]⟩
def o189 (P : Params) : Obj := ⟨.none, none, (.func ⟨(S "__init__"), (S "Jobs.__init__"), (dM 20 0).params, .stmts (dM 20 0).body, (dM 20 0).scope, 0, [], .none, .none, .none, .none, none, .none, .none, 0⟩), #[]⟩
def o190 (P : Params) : Obj := ⟨(.type "code"), none, (.fields #[(.str (S "__init__") 430), (.str (S "Jobs.__init__") 431), (.str (S "/claim/cut.py") 432), (.int 68 0), (.int 2 0), (.int 0 0), (.int 0 0), (.int 3 0), (.ref 196), (.bool true), (.int 181 0), (.ref 197), .none, .none, .none, (.ref 198), (.int 433 0), (.int 68 0), (.str (S "/claim/cut.py") 434)]), #[]⟩
def o191 (P : Params) : Obj := ⟨(.type "function"), none, (.func ⟨(S "__init__"), (S "Jobs.__init__"), (dM 20 0).params, .stmts (dM 20 0).body, (dM 20 0).scope, 3, [], .none, .none, .none, (.str (S "meettasks.jobs") 377), none, (.ref 199), .none, 0⟩), #[]⟩
def o192 (P : Params) : Obj := ⟨(.type "tuple"), none, (.seq #[] 0), #[]⟩
def o193 (P : Params) : Obj := ⟨.none, none, (.fields #[]), #[]⟩
def o194 (P : Params) : Obj := ⟨(.type "tuple"), none, (.seq #[(.str (S "self") 439)] 0), #[]⟩
def o195 (P : Params) : Obj := ⟨(.type "tuple"), none, (.seq #[] 0), #[]⟩
def o196 (P : Params) : Obj := ⟨.none, none, (.func ⟨(S "jobs"), (S "Jobs.jobs"), (dM 20 1).params, .stmts (dM 20 1).body, (dM 20 1).scope, 0, [], .none, .none, .none, .none, none, .none, .none, 0⟩), #[]⟩
def o197 (P : Params) : Obj := ⟨(.type "code"), none, (.fields #[(.str (S "jobs") 436), (.str (S "Jobs.jobs") 437), (.str (S "/claim/cut.py") 438), (.int 83 0), (.int 1 0), (.int 0 0), (.int 0 0), (.int 3 0), (.ref 201), (.bool true), (.int 181 0), (.ref 202), .none, (.ref 203), (.ref 204), (.ref 205), (.int 440 0), (.int 83 0), (.str (S "/claim/cut.py") 441)]), #[]⟩
def o198 (P : Params) : Obj := ⟨(.type "function"), none, (.func ⟨(S "jobs"), (S "Jobs.jobs"), (dM 20 1).params, .stmts (dM 20 1).body, (dM 20 1).scope, 3, [], .none, .none, .none, (.str (S "meettasks.jobs") 377), none, (.ref 206), .none, 0⟩), #[]⟩
def o199 (P : Params) : Obj := ⟨(.type "tuple"), none, (.seq #[] 0), #[]⟩
def o200 (P : Params) : Obj := ⟨.none, none, (.fields #[]), #[]⟩
def o201 (P : Params) : Obj := ⟨(.type "tuple"), none, (.seq #[(.str (S "self") 446), (.str (S "job") 447)] 0), #[]⟩
def o202 (P : Params) : Obj := ⟨(.type "tuple"), none, (.seq #[] 0), #[]⟩
def o203 (P : Params) : Obj := ⟨.none, none, (.func ⟨(S "cost"), (S "Jobs.cost"), (dM 20 2).params, .stmts (dM 20 2).body, (dM 20 2).scope, 0, [], .none, .none, .none, .none, none, .none, .none, 0⟩), #[]⟩
def o204 (P : Params) : Obj := ⟨(.type "code"), none, (.fields #[(.str (S "cost") 443), (.str (S "Jobs.cost") 444), (.str (S "/claim/cut.py") 445), (.int 86 0), (.int 2 0), (.int 0 0), (.int 0 0), (.int 3 0), (.ref 208), (.bool true), (.int 181 0), (.ref 209), .none, (.ref 210), (.ref 211), (.ref 212), (.int 448 0), (.int 86 0), (.str (S "/claim/cut.py") 449)]), #[]⟩
def o205 (P : Params) : Obj := ⟨(.type "function"), none, (.func ⟨(S "cost"), (S "Jobs.cost"), (dM 20 2).params, .stmts (dM 20 2).body, (dM 20 2).scope, 3, [], .none, .none, .none, (.str (S "meettasks.jobs") 377), none, (.ref 213), .none, 0⟩), #[]⟩
def o206 (P : Params) : Obj := ⟨(.type "tuple"), none, (.seq #[] 0), #[]⟩
def o207 (P : Params) : Obj := ⟨.none, none, (.fields #[]), #[]⟩
def o208 (P : Params) : Obj := ⟨(.type "tuple"), none, (.seq #[(.str (S "self") 454), (.str (S "thing") 455)] 0), #[]⟩
def o209 (P : Params) : Obj := ⟨(.type "tuple"), none, (.seq #[] 0), #[]⟩
def o210 (P : Params) : Obj := ⟨.none, none, (.func ⟨(S "ceiling"), (S "Jobs.ceiling"), (dM 20 3).params, .stmts (dM 20 3).body, (dM 20 3).scope, 0, [], .none, .none, .none, .none, none, .none, .none, 0⟩), #[]⟩
def o211 (P : Params) : Obj := ⟨(.type "code"), none, (.fields #[(.str (S "ceiling") 451), (.str (S "Jobs.ceiling") 452), (.str (S "/claim/cut.py") 453), (.int 90 0), (.int 2 0), (.int 0 0), (.int 0 0), (.int 3 0), (.ref 215), (.bool true), (.int 181 0), (.ref 216), .none, (.ref 217), (.ref 218), (.ref 219), (.int 456 0), (.int 90 0), (.str (S "/claim/cut.py") 457)]), #[]⟩
def o212 (P : Params) : Obj := ⟨(.type "function"), none, (.func ⟨(S "ceiling"), (S "Jobs.ceiling"), (dM 20 3).params, .stmts (dM 20 3).body, (dM 20 3).scope, 3, [], .none, .none, .none, (.str (S "meettasks.jobs") 377), none, (.ref 220), .none, 0⟩), #[]⟩
def o213 (P : Params) : Obj := ⟨(.type "tuple"), none, (.seq #[] 0), #[]⟩
def o214 (P : Params) : Obj := ⟨.none, none, (.fields #[]), #[]⟩
def o215 (P : Params) : Obj := ⟨(.type "tuple"), none, (.seq #[(.str (S "self") 462), (.str (S "other") 463)] 0), #[]⟩
def o216 (P : Params) : Obj := ⟨(.type "tuple"), none, (.seq #[] 0), #[]⟩
def o217 (P : Params) : Obj := ⟨.none, none, (.func ⟨(S "__eq__"), (S "Jobs.__eq__"), (dM 20 4).params, .stmts (dM 20 4).body, (dM 20 4).scope, 0, [], .none, .none, .none, .none, none, .none, .none, 0⟩), #[]⟩
def o218 (P : Params) : Obj := ⟨(.type "code"), none, (.fields #[(.str (S "__eq__") 459), (.str (S "Jobs.__eq__") 460), (.str (S "/claim/cut.py") 461), (.int 95 0), (.int 2 0), (.int 0 0), (.int 0 0), (.int 3 0), (.ref 222), (.bool true), (.int 181 0), (.ref 223), .none, (.ref 224), (.ref 225), (.ref 226), (.int 464 0), (.int 95 0), (.str (S "/claim/cut.py") 465)]), #[]⟩
def o219 (P : Params) : Obj := ⟨(.type "function"), none, (.func ⟨(S "__eq__"), (S "Jobs.__eq__"), (dM 20 4).params, .stmts (dM 20 4).body, (dM 20 4).scope, 3, [], .none, .none, .none, (.str (S "meettasks.jobs") 377), none, (.ref 227), .none, 0⟩), #[]⟩
def o220 (P : Params) : Obj := ⟨(.type "tuple"), none, (.seq #[(.str (S "kept_ceilings") 467), (.str (S "kept_costs") 468), (.str (S "kept_jobs") 469), (.str (S "kept_spans") 470)] 0), #[]⟩
def o221 (P : Params) : Obj := ⟨(.type "dict"), none, (.dict #[E P "__module__" 425 (.str (S "meettasks.jobs") 377), E P "__firstlineno__" 429 (.int 66 428), E P "__init__" 435 (.ref 200), E P "jobs" 442 (.ref 207), E P "cost" 450 (.ref 214), E P "ceiling" 458 (.ref 221), E P "__eq__" 466 (.ref 228), E P "__static_attributes__" 471 (.ref 229), E P "__dict__" 473 (.ref 232), E P "__weakref__" 475 (.ref 233), E P "__doc__" 476 .none, E P "__hash__" 477 .none] 5), #[]⟩
def o222 (P : Params) : Obj := ⟨(.type "type"), none, (.cls ⟨(S "Jobs"), [(.type "object")], [(.ref 231), (.type "object")], 230, (S "Jobs"), true, [], [], false, none, false⟩), #[none, none, (some (.str (S "Jobs") 418)), (some (.str (S "Jobs") 426)), (some (.builtin "object.__new__")), (some (.bool true))]⟩
def o223 (P : Params) : Obj := ⟨(.type "getset_descriptor"), none, (.fields #[(.str (S "__dict__") 472), (.ref 231), (.builtin "function.__dict__"), (.builtin "function.__dict__#set")]), #[]⟩
def o224 (P : Params) : Obj := ⟨(.type "getset_descriptor"), none, (.fields #[(.str (S "__weakref__") 474), (.ref 231), (.builtin "ExceptionGroup.__weakref__"), .none]), #[]⟩
def o225 (P : Params) : Obj := ⟨(.type "super"), none, (.fields #[(.ref 231), (.ref 231), (.ref 231)]), #[]⟩
def o226 (P : Params) : Obj := ⟨(.type "builtin_function_or_method"), none, (.fields #[(.builtin "object.__init_subclass__"), (.ref 231)]), #[]⟩
def o227 (P : Params) : Obj := ⟨(.type "tuple"), none, (.seq #[] 0), #[]⟩
def o228 (P : Params) : Obj := ⟨.none, none, (.fields #[]), #[]⟩
def o229 (P : Params) : Obj := ⟨(.type "tuple"), none, (.seq #[(.str (S "jobs") 483), (.str (S "job") 484)] 0), #[]⟩
def o230 (P : Params) : Obj := ⟨(.type "tuple"), none, (.seq #[] 0), #[]⟩
def o231 (P : Params) : Obj := ⟨.none, none, (.func ⟨(S "check_job"), (S "check_job"), (dT 21).params, .stmts (dT 21).body, (dT 21).scope, 0, [], .none, .none, .none, .none, none, .none, .none, 0⟩), #[]⟩
def o232 (P : Params) : Obj := ⟨(.type "code"), none, (.fields #[(.str (S "check_job") 480), (.str (S "check_job") 481), (.str (S "/claim/cut.py") 482), (.int 97 0), (.int 2 0), (.int 0 0), (.int 0 0), (.int 3 0), (.ref 236), (.bool true), (.int 181 0), (.ref 237), .none, (.ref 238), (.ref 239), (.ref 240), (.int 485 0), (.int 97 0), (.str (S "/claim/cut.py") 486)]), #[]⟩
def o233 (P : Params) : Obj := ⟨(.type "function"), none, (.func ⟨(S "check_job"), (S "check_job"), (dT 21).params, .stmts (dT 21).body, (dT 21).scope, 3, [], .none, .none, .none, (.str (S "meettasks.jobs") 377), none, (.ref 241), .none, 0⟩), #[]⟩
def o234 (P : Params) : Obj := ⟨(.type "tuple"), none, (.seq #[] 0), #[]⟩
def o235 (P : Params) : Obj := ⟨.none, none, (.fields #[]), #[]⟩
def o236 (P : Params) : Obj := ⟨.none, none, (.func ⟨(S "is_coming"), (S "is_coming"), (dT 22).params, .stmts (dT 22).body, (dT 22).scope, 0, [], .none, .none, .none, .none, none, .none, .none, 0⟩), #[]⟩
def o237 (P : Params) : Obj := ⟨(.type "code"), none, (.fields #[(.str (S "is_coming") 488), (.str (S "is_coming") 489), (.str (S "/claim/cut.py") 490), (.int 100 0), (.int 2 0), (.int 0 0), (.int 0 0), (.int 3 0), (.ref 243), (.bool true), (.int 181 0), (.ref 244), .none, .none, .none, (.ref 245), (.int 491 0), (.int 100 0), (.str (S "/claim/cut.py") 492)]), #[]⟩
def o238 (P : Params) : Obj := ⟨(.type "function"), none, (.func ⟨(S "is_coming"), (S "is_coming"), (dT 22).params, .stmts (dT 22).body, (dT 22).scope, 3, [], .none, .none, .none, (.str (S "meettasks.jobs") 377), none, (.ref 246), .none, 0⟩), #[]⟩
def o239 (P : Params) : Obj := ⟨(.type "tuple"), none, (.seq #[] 0), #[]⟩
def o240 (P : Params) : Obj := ⟨.none, none, (.fields #[]), #[]⟩
def o241 (P : Params) : Obj := ⟨.none, none, (.func ⟨(S "checked_comings"), (S "checked_comings"), (dT 23).params, .stmts (dT 23).body, (dT 23).scope, 0, [], .none, .none, .none, .none, none, .none, .none, 0⟩), #[]⟩
def o242 (P : Params) : Obj := ⟨(.type "code"), none, (.fields #[(.str (S "checked_comings") 494), (.str (S "checked_comings") 495), (.str (S "/claim/cut.py") 496), (.int 104 0), (.int 2 0), (.int 0 0), (.int 0 0), (.int 3 0), (.ref 248), (.bool true), (.int 181 0), (.ref 249), .none, .none, .none, (.ref 250), (.int 497 0), (.int 104 0), (.str (S "/claim/cut.py") 498)]), #[]⟩
def o243 (P : Params) : Obj := ⟨(.type "function"), none, (.func ⟨(S "checked_comings"), (S "checked_comings"), (dT 23).params, .stmts (dT 23).body, (dT 23).scope, 3, [], .none, .none, .none, (.str (S "meettasks.jobs") 377), none, (.ref 251), .none, 0⟩), #[]⟩
def o244 (P : Params) : Obj := ⟨(.type "tuple"), none, (.seq #[] 0), #[]⟩
def o245 (P : Params) : Obj := ⟨.none, none, (.fields #[]), #[]⟩
def o246 (P : Params) : Obj := ⟨.none, none, (.func ⟨(S "inside_at"), (S "inside_at"), (dT 24).params, .stmts (dT 24).body, (dT 24).scope, 0, [], .none, .none, .none, .none, none, .none, .none, 0⟩), #[]⟩
def o247 (P : Params) : Obj := ⟨(.type "code"), none, (.fields #[(.str (S "inside_at") 500), (.str (S "inside_at") 501), (.str (S "/claim/cut.py") 502), (.int 111 0), (.int 3 0), (.int 0 0), (.int 0 0), (.int 3 0), (.ref 253), (.bool true), (.int 181 0), (.ref 254), .none, .none, .none, (.ref 255), (.int 503 0), (.int 111 0), (.str (S "/claim/cut.py") 504)]), #[]⟩
def o248 (P : Params) : Obj := ⟨(.type "function"), none, (.func ⟨(S "inside_at"), (S "inside_at"), (dT 24).params, .stmts (dT 24).body, (dT 24).scope, 3, [], .none, .none, .none, (.str (S "meettasks.jobs") 377), none, (.ref 256), .none, 0⟩), #[]⟩
def o249 (P : Params) : Obj := ⟨(.type "tuple"), none, (.seq #[] 0), #[]⟩
def o250 (P : Params) : Obj := ⟨.none, none, (.fields #[]), #[]⟩
def o251 (P : Params) : Obj := ⟨.none, none, (.func ⟨(S "priority_now"), (S "priority_now"), (dT 25).params, .stmts (dT 25).body, (dT 25).scope, 0, [], .none, .none, .none, .none, none, .none, .none, 0⟩), #[]⟩
def o252 (P : Params) : Obj := ⟨(.type "code"), none, (.fields #[(.str (S "priority_now") 506), (.str (S "priority_now") 507), (.str (S "/claim/cut.py") 508), (.int 113 0), (.int 3 0), (.int 0 0), (.int 0 0), (.int 3 0), (.ref 258), (.bool true), (.int 181 0), (.ref 259), .none, .none, .none, (.ref 260), (.int 509 0), (.int 113 0), (.str (S "/claim/cut.py") 510)]), #[]⟩
def o253 (P : Params) : Obj := ⟨(.type "function"), none, (.func ⟨(S "priority_now"), (S "priority_now"), (dT 25).params, .stmts (dT 25).body, (dT 25).scope, 3, [], .none, .none, .none, (.str (S "meettasks.jobs") 377), none, (.ref 261), .none, 0⟩), #[]⟩
def o254 (P : Params) : Obj := ⟨(.type "tuple"), none, (.seq #[] 0), #[]⟩
def o255 (P : Params) : Obj := ⟨.none, none, (.fields #[]), #[]⟩
def o256 (P : Params) : Obj := ⟨.none, none, (.func ⟨(S "moments_done"), (S "moments_done"), (dT 26).params, .stmts (dT 26).body, (dT 26).scope, 0, [], .none, .none, .none, .none, none, .none, .none, 0⟩), #[]⟩
def o257 (P : Params) : Obj := ⟨(.type "code"), none, (.fields #[(.str (S "moments_done") 512), (.str (S "moments_done") 513), (.str (S "/claim/cut.py") 514), (.int 116 0), (.int 2 0), (.int 0 0), (.int 0 0), (.int 3 0), (.ref 263), (.bool true), (.int 181 0), (.ref 264), .none, .none, .none, (.ref 265), (.int 515 0), (.int 116 0), (.str (S "/claim/cut.py") 516)]), #[]⟩
def o258 (P : Params) : Obj := ⟨(.type "function"), none, (.func ⟨(S "moments_done"), (S "moments_done"), (dT 26).params, .stmts (dT 26).body, (dT 26).scope, 3, [], .none, .none, .none, (.str (S "meettasks.jobs") 377), none, (.ref 266), .none, 0⟩), #[]⟩
def o259 (P : Params) : Obj := ⟨(.type "tuple"), none, (.seq #[] 0), #[]⟩
def o260 (P : Params) : Obj := ⟨.none, none, (.fields #[]), #[]⟩
def o261 (P : Params) : Obj := ⟨.none, none, (.func ⟨(S "ends_of"), (S "ends_of"), (dT 27).params, .stmts (dT 27).body, (dT 27).scope, 0, [], .none, .none, .none, .none, none, .none, .none, 0⟩), #[]⟩
def o262 (P : Params) : Obj := ⟨(.type "code"), none, (.fields #[(.str (S "ends_of") 518), (.str (S "ends_of") 519), (.str (S "/claim/cut.py") 520), (.int 133 0), (.int 2 0), (.int 0 0), (.int 0 0), (.int 3 0), (.ref 268), (.bool true), (.int 181 0), (.ref 269), .none, .none, .none, (.ref 270), (.int 521 0), (.int 133 0), (.str (S "/claim/cut.py") 522)]), #[]⟩
def o263 (P : Params) : Obj := ⟨(.type "function"), none, (.func ⟨(S "ends_of"), (S "ends_of"), (dT 27).params, .stmts (dT 27).body, (dT 27).scope, 3, [], .none, .none, .none, (.str (S "meettasks.jobs") 377), none, (.ref 271), .none, 0⟩), #[]⟩
def o264 (P : Params) : Obj := ⟨(.type "tuple"), none, (.seq #[] 0), #[]⟩
def o265 (P : Params) : Obj := ⟨.none, none, (.fields #[]), #[]⟩
def o266 (P : Params) : Obj := ⟨(.type "tuple"), none, (.seq #[(.str (S "jobs") 527), (.str (S "comings") 528)] 0), #[]⟩
def o267 (P : Params) : Obj := ⟨(.type "tuple"), none, (.seq #[] 0), #[]⟩
def o268 (P : Params) : Obj := ⟨.none, none, (.func ⟨(S "done"), (S "done"), (dT 28).params, .stmts (dT 28).body, (dT 28).scope, 0, [], .none, .none, .none, .none, none, .none, .none, 0⟩), #[]⟩
def o269 (P : Params) : Obj := ⟨(.type "code"), none, (.fields #[(.str (S "done") 524), (.str (S "done") 525), (.str (S "/claim/cut.py") 526), (.int 139 0), (.int 2 0), (.int 0 0), (.int 0 0), (.int 3 0), (.ref 273), (.bool true), (.int 181 0), (.ref 274), .none, (.ref 275), (.ref 276), (.ref 277), (.int 529 0), (.int 139 0), (.str (S "/claim/cut.py") 530)]), #[]⟩
def o270 (P : Params) : Obj := ⟨(.type "function"), none, (.func ⟨(S "done"), (S "done"), (dT 28).params, .stmts (dT 28).body, (dT 28).scope, 3, [], .none, .none, .none, (.str (S "meettasks.jobs") 377), none, (.ref 278), .none, 0⟩), #[]⟩
def o271 (P : Params) : Obj := ⟨(.type "tuple"), none, (.seq #[] 0), #[]⟩
def o272 (P : Params) : Obj := ⟨.none, none, (.fields #[]), #[]⟩
def o273 (P : Params) : Obj := ⟨.none, none, (.func ⟨(S "answers_in"), (S "answers_in"), (dT 29).params, .stmts (dT 29).body, (dT 29).scope, 0, [], .none, .none, .none, .none, none, .none, .none, 0⟩), #[]⟩
def o274 (P : Params) : Obj := ⟨(.type "code"), none, (.fields #[(.str (S "answers_in") 532), (.str (S "answers_in") 533), (.str (S "/claim/cut.py") 534), (.int 141 0), (.int 2 0), (.int 0 0), (.int 0 0), (.int 3 0), (.ref 280), (.bool true), (.int 181 0), (.ref 281), .none, .none, .none, (.ref 282), (.int 535 0), (.int 141 0), (.str (S "/claim/cut.py") 536)]), #[]⟩
def o275 (P : Params) : Obj := ⟨(.type "function"), none, (.func ⟨(S "answers_in"), (S "answers_in"), (dT 29).params, .stmts (dT 29).body, (dT 29).scope, 3, [], .none, .none, .none, (.str (S "meettasks.jobs") 377), none, (.ref 283), .none, 0⟩), #[]⟩
def o276 (P : Params) : Obj := ⟨(.type "tuple"), none, (.seq #[] 0), #[]⟩
def o277 (P : Params) : Obj := ⟨.none, none, (.fields #[]), #[]⟩
def o278 (P : Params) : Obj := ⟨(.type "tuple"), none, (.seq #[(.str (S "jobs") 541), (.str (S "comings") 542)] 0), #[]⟩
def o279 (P : Params) : Obj := ⟨(.type "tuple"), none, (.seq #[] 0), #[]⟩
def o280 (P : Params) : Obj := ⟨.none, none, (.func ⟨(S "answers"), (S "answers"), (dT 30).params, .stmts (dT 30).body, (dT 30).scope, 0, [], .none, .none, .none, .none, none, .none, .none, 0⟩), #[]⟩
def o281 (P : Params) : Obj := ⟨(.type "code"), none, (.fields #[(.str (S "answers") 538), (.str (S "answers") 539), (.str (S "/claim/cut.py") 540), (.int 144 0), (.int 2 0), (.int 0 0), (.int 0 0), (.int 3 0), (.ref 285), (.bool true), (.int 181 0), (.ref 286), .none, (.ref 287), (.ref 288), (.ref 289), (.int 543 0), (.int 144 0), (.str (S "/claim/cut.py") 544)]), #[]⟩
def o282 (P : Params) : Obj := ⟨(.type "function"), none, (.func ⟨(S "answers"), (S "answers"), (dT 30).params, .stmts (dT 30).body, (dT 30).scope, 3, [], .none, .none, .none, (.str (S "meettasks.jobs") 377), none, (.ref 290), .none, 0⟩), #[]⟩
def o283 (P : Params) : Obj := ⟨(.type "tuple"), none, (.seq #[] 0), #[]⟩
def o284 (P : Params) : Obj := ⟨.none, none, (.fields #[]), #[]⟩
def o285 (P : Params) : Obj := ⟨.none, none, (.func ⟨(S "breakdown"), (S "breakdown"), (dT 31).params, .stmts (dT 31).body, (dT 31).scope, 0, [], .none, .none, .none, .none, none, .none, .none, 0⟩), #[]⟩
def o286 (P : Params) : Obj := ⟨(.type "code"), none, (.fields #[(.str (S "breakdown") 546), (.str (S "breakdown") 547), (.str (S "/claim/cut.py") 548), (.int 146 0), (.int 4 0), (.int 0 0), (.int 0 0), (.int 3 0), (.ref 292), (.bool true), (.int 181 0), (.ref 293), .none, .none, .none, (.ref 294), (.int 549 0), (.int 146 0), (.str (S "/claim/cut.py") 550)]), #[]⟩
def o287 (P : Params) : Obj := ⟨(.type "function"), none, (.func ⟨(S "breakdown"), (S "breakdown"), (dT 31).params, .stmts (dT 31).body, (dT 31).scope, 3, [], .none, .none, .none, (.str (S "meettasks.jobs") 377), none, (.ref 295), .none, 0⟩), #[]⟩
def o288 (P : Params) : Obj := ⟨(.type "tuple"), none, (.seq #[] 0), #[]⟩
def o289 (P : Params) : Obj := ⟨.none, none, (.fields #[]), #[]⟩
def o290 (P : Params) : Obj := ⟨(.type "tuple"), none, (.seq #[(.str (S "_law_script") 557), (.str (S "_law_turn") 558), (.str (S "_law_cell") 559), (.str (S "_law_blend") 560), (.str (S "_law_one_here") 561), (.str (S "_law_great") 562)] 0), #[]⟩
def o291 (P : Params) : Obj := ⟨(.type "tuple"), none, (.seq #[] 0), #[]⟩
def o292 (P : Params) : Obj := ⟨.none, none, (.func ⟨(S "_law_pool"), (S "_law_pool"), (dT 33).params, .stmts (dT 33).body, (dT 33).scope, 0, [], .none, .none, .none, .none, none, .none, .none, 0⟩), #[]⟩
def o293 (P : Params) : Obj := ⟨(.type "code"), none, (.fields #[(.str (S "_law_pool") 554), (.str (S "_law_pool") 555), (.str (S "/claim/cut.py") 556), (.int 158 0), (.int 2 0), (.int 0 0), (.int 0 0), (.int 3 0), (.ref 297), (.bool true), (.int 181 0), (.ref 298), .none, (.ref 299), (.ref 300), (.ref 301), (.int 563 0), (.int 158 0), (.str (S "/claim/cut.py") 564)]), #[]⟩
def o294 (P : Params) : Obj := ⟨(.type "function"), none, (.func ⟨(S "_law_pool"), (S "_law_pool"), (dT 33).params, .stmts (dT 33).body, (dT 33).scope, 3, [], .none, .none, .none, (.str (S "law_meettasks_k59_jobs_told_and_refused") 552), none, (.ref 302), .none, 0⟩), #[]⟩
def o295 (P : Params) : Obj := ⟨(.type "tuple"), none, (.seq #[] 0), #[]⟩
def o296 (P : Params) : Obj := ⟨.none, none, (.fields #[]), #[]⟩
def o297 (P : Params) : Obj := ⟨(.type "tuple"), none, (.seq #[(.str (S "_law_pool_here") 569), (.str (S "_law_many") 570), (.str (S "_law_draw") 571), (.str (S "_law_mixed_here") 572)] 0), #[]⟩
def o298 (P : Params) : Obj := ⟨(.type "tuple"), none, (.seq #[] 0), #[]⟩
def o299 (P : Params) : Obj := ⟨.none, none, (.func ⟨(S "_law_take"), (S "_law_take"), (dT 34).params, .stmts (dT 34).body, (dT 34).scope, 0, [], .none, .none, .none, .none, none, .none, .none, 0⟩), #[]⟩
def o300 (P : Params) : Obj := ⟨(.type "code"), none, (.fields #[(.str (S "_law_take") 566), (.str (S "_law_take") 567), (.str (S "/claim/cut.py") 568), (.int 165 0), (.int 2 0), (.int 0 0), (.int 0 0), (.int 3 0), (.ref 304), (.bool true), (.int 181 0), (.ref 305), .none, (.ref 306), (.ref 307), (.ref 308), (.int 573 0), (.int 165 0), (.str (S "/claim/cut.py") 574)]), #[]⟩
def o301 (P : Params) : Obj := ⟨(.type "function"), none, (.func ⟨(S "_law_take"), (S "_law_take"), (dT 34).params, .stmts (dT 34).body, (dT 34).scope, 3, [], .none, .none, .none, (.str (S "law_meettasks_k59_jobs_told_and_refused") 552), none, (.ref 309), .none, 0⟩), #[]⟩
def o302 (P : Params) : Obj := ⟨(.type "tuple"), none, (.seq #[] 0), #[]⟩
def o303 (P : Params) : Obj := ⟨.none, none, (.fields #[]), #[]⟩
def o304 (P : Params) : Obj := ⟨(.type "tuple"), none, (.seq #[(.str (S "_law_pool_here") 579), (.str (S "_law_things") 580)] 0), #[]⟩
def o305 (P : Params) : Obj := ⟨(.type "tuple"), none, (.seq #[] 0), #[]⟩
def o306 (P : Params) : Obj := ⟨.none, none, (.func ⟨(S "_law_one"), (S "_law_one"), (dT 35).params, .stmts (dT 35).body, (dT 35).scope, 0, [], .none, .none, .none, .none, none, .none, .none, 0⟩), #[]⟩
def o307 (P : Params) : Obj := ⟨(.type "code"), none, (.fields #[(.str (S "_law_one") 576), (.str (S "_law_one") 577), (.str (S "/claim/cut.py") 578), (.int 173 0), (.int 2 0), (.int 0 0), (.int 0 0), (.int 3 0), (.ref 311), (.bool true), (.int 181 0), (.ref 312), .none, (.ref 313), (.ref 314), (.ref 315), (.int 581 0), (.int 173 0), (.str (S "/claim/cut.py") 582)]), #[]⟩
def o308 (P : Params) : Obj := ⟨(.type "function"), none, (.func ⟨(S "_law_one"), (S "_law_one"), (dT 35).params, .stmts (dT 35).body, (dT 35).scope, 3, [], .none, .none, .none, (.str (S "law_meettasks_k59_jobs_told_and_refused") 552), none, (.ref 316), .none, 0⟩), #[]⟩
def o309 (P : Params) : Obj := ⟨(.type "tuple"), none, (.seq #[] 0), #[]⟩
def o310 (P : Params) : Obj := ⟨.none, none, (.fields #[]), #[]⟩
def o311 (P : Params) : Obj := ⟨(.type "tuple"), none, (.seq #[(.str (S "_law_pool_here") 587), (.str (S "_law_things") 588), (.str (S "_law_left") 589), (.str (S "_law_found") 590)] 0), #[]⟩
def o312 (P : Params) : Obj := ⟨(.type "tuple"), none, (.seq #[] 0), #[]⟩
def o313 (P : Params) : Obj := ⟨.none, none, (.func ⟨(S "_law_mixed"), (S "_law_mixed"), (dT 36).params, .stmts (dT 36).body, (dT 36).scope, 0, [], .none, .none, .none, .none, none, .none, .none, 0⟩), #[]⟩
def o314 (P : Params) : Obj := ⟨(.type "code"), none, (.fields #[(.str (S "_law_mixed") 584), (.str (S "_law_mixed") 585), (.str (S "/claim/cut.py") 586), (.int 175 0), (.int 2 0), (.int 0 0), (.int 0 0), (.int 3 0), (.ref 318), (.bool true), (.int 181 0), (.ref 319), .none, (.ref 320), (.ref 321), (.ref 322), (.int 591 0), (.int 175 0), (.str (S "/claim/cut.py") 592)]), #[]⟩
def o315 (P : Params) : Obj := ⟨(.type "function"), none, (.func ⟨(S "_law_mixed"), (S "_law_mixed"), (dT 36).params, .stmts (dT 36).body, (dT 36).scope, 3, [], .none, .none, .none, (.str (S "law_meettasks_k59_jobs_told_and_refused") 552), none, (.ref 323), .none, 0⟩), #[]⟩
def o316 (P : Params) : Obj := ⟨(.type "tuple"), none, (.seq #[] 0), #[]⟩
def o317 (P : Params) : Obj := ⟨.none, none, (.fields #[]), #[]⟩
def o318 (P : Params) : Obj := ⟨.none, none, (.func ⟨(S "_law_same"), (S "_law_same"), (dT 37).params, .stmts (dT 37).body, (dT 37).scope, 0, [], .none, .none, .none, .none, none, .none, .none, 0⟩), #[]⟩
def o319 (P : Params) : Obj := ⟨(.type "code"), none, (.fields #[(.str (S "_law_same") 594), (.str (S "_law_same") 595), (.str (S "/claim/cut.py") 596), (.int 180 0), (.int 2 0), (.int 0 0), (.int 0 0), (.int 3 0), (.ref 325), (.bool true), (.int 181 0), (.ref 326), .none, .none, .none, (.ref 327), (.int 597 0), (.int 180 0), (.str (S "/claim/cut.py") 598)]), #[]⟩
def o320 (P : Params) : Obj := ⟨(.type "function"), none, (.func ⟨(S "_law_same"), (S "_law_same"), (dT 37).params, .stmts (dT 37).body, (dT 37).scope, 3, [], .none, .none, .none, (.str (S "law_meettasks_k59_jobs_told_and_refused") 552), none, (.ref 328), .none, 0⟩), #[]⟩
def o321 (P : Params) : Obj := ⟨(.type "tuple"), none, (.seq #[] 0), #[]⟩
def o322 (P : Params) : Obj := ⟨.none, none, (.fields #[]), #[]⟩
def o323 (P : Params) : Obj := ⟨.none, none, (.func ⟨(S "_law_body"), (S "_law_body"), (dT 38).params, .stmts (dT 38).body, (dT 38).scope, 0, [], .none, .none, .none, .none, none, .none, .none, 0⟩), #[]⟩
def o324 (P : Params) : Obj := ⟨(.type "code"), none, (.fields #[(.str (S "_law_body") 600), (.str (S "_law_body") 601), (.str (S "/claim/cut.py") 602), (.int 190 0), (.int 3 0), (.int 0 0), (.int 0 0), (.int 3 0), (.ref 330), (.bool true), (.int 181 0), (.ref 331), .none, .none, .none, (.ref 332), (.int 603 0), (.int 190 0), (.str (S "/claim/cut.py") 604)]), #[]⟩
def o325 (P : Params) : Obj := ⟨(.type "function"), none, (.func ⟨(S "_law_body"), (S "_law_body"), (dT 38).params, .stmts (dT 38).body, (dT 38).scope, 3, [], .none, .none, .none, (.str (S "law_meettasks_k59_jobs_told_and_refused") 552), none, (.ref 333), .none, 0⟩), #[]⟩
def o326 (P : Params) : Obj := ⟨(.type "tuple"), none, (.seq #[] 0), #[]⟩
def o327 (P : Params) : Obj := ⟨.none, none, (.fields #[]), #[]⟩
def o328 (P : Params) : Obj := ⟨(.type "tuple"), none, (.seq #[(.str (S "_law_pool_here") 609), (.str (S "_law_many") 610), (.str (S "_law_words") 611), (.str (S "_law_order") 612), (.str (S "_law_found") 613), (.str (S "_law_word") 614), (.str (S "_law_priority") 615), (.str (S "_law_body_here") 616), (.str (S "_law_cost") 617)] 0), #[]⟩
def o329 (P : Params) : Obj := ⟨(.type "tuple"), none, (.seq #[] 0), #[]⟩
def o330 (P : Params) : Obj := ⟨.none, none, (.func ⟨(S "_law_jobs"), (S "_law_jobs"), (dT 39).params, .stmts (dT 39).body, (dT 39).scope, 0, [], .none, .none, .none, .none, none, .none, .none, 0⟩), #[]⟩
def o331 (P : Params) : Obj := ⟨(.type "code"), none, (.fields #[(.str (S "_law_jobs") 606), (.str (S "_law_jobs") 607), (.str (S "/claim/cut.py") 608), (.int 200 0), (.int 2 0), (.int 0 0), (.int 0 0), (.int 3 0), (.ref 335), (.bool true), (.int 181 0), (.ref 336), .none, (.ref 337), (.ref 338), (.ref 339), (.int 618 0), (.int 200 0), (.str (S "/claim/cut.py") 619)]), #[]⟩
def o332 (P : Params) : Obj := ⟨(.type "function"), none, (.func ⟨(S "_law_jobs"), (S "_law_jobs"), (dT 39).params, .stmts (dT 39).body, (dT 39).scope, 3, [], .none, .none, .none, (.str (S "law_meettasks_k59_jobs_told_and_refused") 552), none, (.ref 340), .none, 0⟩), #[]⟩
def o333 (P : Params) : Obj := ⟨(.type "tuple"), none, (.seq #[] 0), #[]⟩
def o334 (P : Params) : Obj := ⟨.none, none, (.fields #[]), #[]⟩
def o335 (P : Params) : Obj := ⟨(.type "tuple"), none, (.seq #[(.str (S "_law_body_here") 624), (.str (S "_law_around") 625), (.str (S "_law_found") 626), (.str (S "_law_number") 627), (.str (S "_law_part") 628)] 0), #[]⟩
def o336 (P : Params) : Obj := ⟨(.type "tuple"), none, (.seq #[] 0), #[]⟩
def o337 (P : Params) : Obj := ⟨.none, none, (.func ⟨(S "_law_units"), (S "_law_units"), (dT 40).params, .stmts (dT 40).body, (dT 40).scope, 0, [], .none, .none, .none, .none, none, .none, .none, 0⟩), #[]⟩
def o338 (P : Params) : Obj := ⟨(.type "code"), none, (.fields #[(.str (S "_law_units") 621), (.str (S "_law_units") 622), (.str (S "/claim/cut.py") 623), (.int 208 0), (.int 2 0), (.int 0 0), (.int 0 0), (.int 3 0), (.ref 342), (.bool true), (.int 181 0), (.ref 343), .none, (.ref 344), (.ref 345), (.ref 346), (.int 629 0), (.int 208 0), (.str (S "/claim/cut.py") 630)]), #[]⟩
def o339 (P : Params) : Obj := ⟨(.type "function"), none, (.func ⟨(S "_law_units"), (S "_law_units"), (dT 40).params, .stmts (dT 40).body, (dT 40).scope, 3, [], .none, .none, .none, (.str (S "law_meettasks_k59_jobs_told_and_refused") 552), none, (.ref 347), .none, 0⟩), #[]⟩
def o340 (P : Params) : Obj := ⟨(.type "tuple"), none, (.seq #[] 0), #[]⟩
def o341 (P : Params) : Obj := ⟨.none, none, (.fields #[]), #[]⟩
def o342 (P : Params) : Obj := ⟨.none, none, (.func ⟨(S "_law_handed"), (S "_law_handed"), (dT 41).params, .stmts (dT 41).body, (dT 41).scope, 0, [], .none, .none, .none, .none, none, .none, .none, 0⟩), #[]⟩
def o343 (P : Params) : Obj := ⟨(.type "code"), none, (.fields #[(.str (S "_law_handed") 632), (.str (S "_law_handed") 633), (.str (S "/claim/cut.py") 634), (.int 216 0), (.int 2 0), (.int 0 0), (.int 0 0), (.int 3 0), (.ref 349), (.bool true), (.int 181 0), (.ref 350), .none, .none, .none, (.ref 351), (.int 635 0), (.int 216 0), (.str (S "/claim/cut.py") 636)]), #[]⟩
def o344 (P : Params) : Obj := ⟨(.type "function"), none, (.func ⟨(S "_law_handed"), (S "_law_handed"), (dT 41).params, .stmts (dT 41).body, (dT 41).scope, 3, [], .none, .none, .none, (.str (S "law_meettasks_k59_jobs_told_and_refused") 552), none, (.ref 352), .none, 0⟩), #[]⟩
def o345 (P : Params) : Obj := ⟨(.type "tuple"), none, (.seq #[] 0), #[]⟩
def o346 (P : Params) : Obj := ⟨.none, none, (.fields #[]), #[]⟩
def o347 (P : Params) : Obj := ⟨.none, none, (.func ⟨(S "_law_made"), (S "_law_made"), (dT 42).params, .stmts (dT 42).body, (dT 42).scope, 0, [], .none, .none, .none, .none, none, .none, .none, 0⟩), #[]⟩
def o348 (P : Params) : Obj := ⟨(.type "code"), none, (.fields #[(.str (S "_law_made") 638), (.str (S "_law_made") 639), (.str (S "/claim/cut.py") 640), (.int 221 0), (.int 2 0), (.int 0 0), (.int 0 0), (.int 3 0), (.ref 354), (.bool true), (.int 181 0), (.ref 355), .none, .none, .none, (.ref 356), (.int 641 0), (.int 221 0), (.str (S "/claim/cut.py") 642)]), #[]⟩
def o349 (P : Params) : Obj := ⟨(.type "function"), none, (.func ⟨(S "_law_made"), (S "_law_made"), (dT 42).params, .stmts (dT 42).body, (dT 42).scope, 3, [], .none, .none, .none, (.str (S "law_meettasks_k59_jobs_told_and_refused") 552), none, (.ref 357), .none, 0⟩), #[]⟩
def o350 (P : Params) : Obj := ⟨(.type "tuple"), none, (.seq #[] 0), #[]⟩
def o351 (P : Params) : Obj := ⟨.none, none, (.fields #[]), #[]⟩
def o352 (P : Params) : Obj := ⟨.none, none, (.func ⟨(S "_law_ceilings"), (S "_law_ceilings"), (dT 43).params, .stmts (dT 43).body, (dT 43).scope, 0, [], .none, .none, .none, .none, none, .none, .none, 0⟩), #[]⟩
def o353 (P : Params) : Obj := ⟨(.type "code"), none, (.fields #[(.str (S "_law_ceilings") 644), (.str (S "_law_ceilings") 645), (.str (S "/claim/cut.py") 646), (.int 223 0), (.int 1 0), (.int 0 0), (.int 0 0), (.int 3 0), (.ref 359), (.bool true), (.int 181 0), (.ref 360), .none, .none, .none, (.ref 361), (.int 647 0), (.int 223 0), (.str (S "/claim/cut.py") 648)]), #[]⟩
def o354 (P : Params) : Obj := ⟨(.type "function"), none, (.func ⟨(S "_law_ceilings"), (S "_law_ceilings"), (dT 43).params, .stmts (dT 43).body, (dT 43).scope, 3, [], .none, .none, .none, (.str (S "law_meettasks_k59_jobs_told_and_refused") 552), none, (.ref 362), .none, 0⟩), #[]⟩
def o355 (P : Params) : Obj := ⟨(.type "tuple"), none, (.seq #[] 0), #[]⟩
def o356 (P : Params) : Obj := ⟨.none, none, (.fields #[]), #[]⟩
def o357 (P : Params) : Obj := ⟨(.type "tuple"), none, (.seq #[(.str (S "_law_ask") 653), (.str (S "e") 654)] 0), #[]⟩
def o358 (P : Params) : Obj := ⟨(.type "tuple"), none, (.seq #[] 0), #[]⟩
def o359 (P : Params) : Obj := ⟨.none, none, (.func ⟨(S "_law_met"), (S "_law_met"), (dT 44).params, .stmts (dT 44).body, (dT 44).scope, 0, [], .none, .none, .none, .none, none, .none, .none, 0⟩), #[]⟩
def o360 (P : Params) : Obj := ⟨(.type "code"), none, (.fields #[(.str (S "_law_met") 650), (.str (S "_law_met") 651), (.str (S "/claim/cut.py") 652), (.int 229 0), (.int 1 0), (.int 0 0), (.int 0 0), (.int 3 0), (.ref 364), (.bool true), (.int 181 0), (.ref 365), .none, (.ref 366), (.ref 367), (.ref 368), (.int 655 0), (.int 229 0), (.str (S "/claim/cut.py") 656)]), #[]⟩
def o361 (P : Params) : Obj := ⟨(.type "function"), none, (.func ⟨(S "_law_met"), (S "_law_met"), (dT 44).params, .stmts (dT 44).body, (dT 44).scope, 3, [], .none, .none, .none, (.str (S "law_meettasks_k59_jobs_told_and_refused") 552), none, (.ref 369), .none, 0⟩), #[]⟩
def o362 (P : Params) : Obj := ⟨(.type "tuple"), none, (.seq #[] 0), #[]⟩
def o363 (P : Params) : Obj := ⟨.none, none, (.fields #[]), #[]⟩
def o364 (P : Params) : Obj := ⟨.none, none, (.func ⟨(S "_law_bad_jobs"), (S "_law_bad_jobs"), (dT 45).params, .stmts (dT 45).body, (dT 45).scope, 0, [], .none, .none, .none, .none, none, .none, .none, 0⟩), #[]⟩
def o365 (P : Params) : Obj := ⟨(.type "code"), none, (.fields #[(.str (S "_law_bad_jobs") 658), (.str (S "_law_bad_jobs") 659), (.str (S "/claim/cut.py") 660), (.int 243 0), (.int 2 0), (.int 0 0), (.int 0 0), (.int 3 0), (.ref 371), (.bool true), (.int 181 0), (.ref 372), .none, .none, .none, (.ref 373), (.int 661 0), (.int 243 0), (.str (S "/claim/cut.py") 662)]), #[]⟩
def o366 (P : Params) : Obj := ⟨(.type "function"), none, (.func ⟨(S "_law_bad_jobs"), (S "_law_bad_jobs"), (dT 45).params, .stmts (dT 45).body, (dT 45).scope, 3, [], .none, .none, .none, (.str (S "law_meettasks_k59_jobs_told_and_refused") 552), none, (.ref 374), .none, 0⟩), #[]⟩
def o367 (P : Params) : Obj := ⟨(.type "tuple"), none, (.seq #[] 0), #[]⟩
def o368 (P : Params) : Obj := ⟨.none, none, (.fields #[]), #[]⟩
def o369 (P : Params) : Obj := ⟨.none, none, (.func ⟨(S "_law_bad_comings"), (S "_law_bad_comings"), (dT 46).params, .stmts (dT 46).body, (dT 46).scope, 0, [], .none, .none, .none, .none, none, .none, .none, 0⟩), #[]⟩
def o370 (P : Params) : Obj := ⟨(.type "code"), none, (.fields #[(.str (S "_law_bad_comings") 664), (.str (S "_law_bad_comings") 665), (.str (S "/claim/cut.py") 666), (.int 254 0), (.int 2 0), (.int 0 0), (.int 0 0), (.int 3 0), (.ref 376), (.bool true), (.int 181 0), (.ref 377), .none, .none, .none, (.ref 378), (.int 667 0), (.int 254 0), (.str (S "/claim/cut.py") 668)]), #[]⟩
def o371 (P : Params) : Obj := ⟨(.type "function"), none, (.func ⟨(S "_law_bad_comings"), (S "_law_bad_comings"), (dT 46).params, .stmts (dT 46).body, (dT 46).scope, 3, [], .none, .none, .none, (.str (S "law_meettasks_k59_jobs_told_and_refused") 552), none, (.ref 379), .none, 0⟩), #[]⟩
def o372 (P : Params) : Obj := ⟨(.type "tuple"), none, (.seq #[] 0), #[]⟩
def o373 (P : Params) : Obj := ⟨.none, none, (.fields #[]), #[]⟩
def o374 (P : Params) : Obj := ⟨(.type "tuple"), none, (.seq #[(.str (S "_law_pool_here") 673), (.str (S "_law_made_here") 674), (.str (S "_law_jobs_here") 675), (.str (S "_law_key") 676), (.str (S "_law_found") 677), (.str (S "_law_due") 678)] 0), #[]⟩
def o375 (P : Params) : Obj := ⟨(.type "tuple"), none, (.seq #[(.str (S "_law_made_here") 679), (.str (S "_law_bad") 680), (.str (S "_law_good") 681), (.str (S "_law_job") 682), (.str (S "_law_number") 683), (.str (S "_law_odd") 684), (.str (S "_law_thing") 685)] 0), #[]⟩
def o376 (P : Params) : Obj := ⟨.none, none, (.func ⟨(S "_law_refused"), (S "_law_refused"), (dT 47).params, .stmts (dT 47).body, (dT 47).scope, 0, [], .none, .none, .none, .none, none, .none, .none, 0⟩), #[]⟩
def o377 (P : Params) : Obj := ⟨(.type "code"), none, (.fields #[(.str (S "_law_refused") 670), (.str (S "_law_refused") 671), (.str (S "/claim/cut.py") 672), (.int 263 0), (.int 3 0), (.int 0 0), (.int 0 0), (.int 3 0), (.ref 381), (.bool true), (.int 181 0), (.ref 382), .none, (.ref 383), (.ref 384), (.ref 385), (.int 686 0), (.int 263 0), (.str (S "/claim/cut.py") 687)]), #[]⟩
def o378 (P : Params) : Obj := ⟨(.type "function"), none, (.func ⟨(S "_law_refused"), (S "_law_refused"), (dT 47).params, .stmts (dT 47).body, (dT 47).scope, 3, [], .none, .none, .none, (.str (S "law_meettasks_k59_jobs_told_and_refused") 552), none, (.ref 386), .none, 0⟩), #[]⟩
def o379 (P : Params) : Obj := ⟨(.type "tuple"), none, (.seq #[] 0), #[]⟩
def o380 (P : Params) : Obj := ⟨.none, none, (.fields #[]), #[]⟩
def o381 (P : Params) : Obj := ⟨.none, none, (.func ⟨(S "law"), (S "law"), (dT 48).params, .stmts (dT 48).body, (dT 48).scope, 0, [], .none, .none, .none, .none, none, .none, .none, 0⟩), #[]⟩
def o382 (P : Params) : Obj := ⟨(.type "code"), none, (.fields #[(.str (S "law") 689), (.str (S "law") 690), (.str (S "/claim/cut.py") 691), (.int 277 0), (.int 1 0), (.int 0 0), (.int 0 0), (.int 3 0), (.ref 388), (.bool true), (.int 181 0), (.ref 389), .none, .none, .none, (.ref 390), (.int 692 0), (.int 277 0), (.str (S "/claim/cut.py") 693)]), #[]⟩
def o383 (P : Params) : Obj := ⟨(.type "function"), none, (.func ⟨(S "law"), (S "law"), (dT 48).params, .stmts (dT 48).body, (dT 48).scope, 3, [], .none, .none, .none, (.str (S "law_meettasks_k59_jobs_told_and_refused") 552), none, (.ref 391), .none, 0⟩), #[]⟩
def T1 (P : Params) : BT := (N (boot_o_0 P) (N (boot_o_1 P) (N (o4 P) (N (boot_o_7 P) (N (o6 P) (N (o22 P) (N (o54 P) (N (o118 P) (N (o246 P) e e) (N (o374 P) e e)) (N (o182 P) (N (o310 P) e e) e)) (N (o86 P) (N (o150 P) (N (o278 P) e e) e) (N (o214 P) (N (o342 P) e e) e))) (N (o38 P) (N (o70 P) (N (o134 P) (N (o262 P) e e) e) (N (o198 P) (N (o326 P) e e) e)) (N (o102 P) (N (o166 P) (N (o294 P) e e) e) (N (o230 P) (N (o358 P) e e) e)))) (N (o14 P) (N (o30 P) (N (o62 P) (N (o126 P) (N (o254 P) e e) (N (o382 P) e e)) (N (o190 P) (N (o318 P) e e) e)) (N (o94 P) (N (o158 P) (N (o286 P) e e) e) (N (o222 P) (N (o350 P) e e) e))) (N (o46 P) (N (o78 P) (N (o142 P) (N (o270 P) e e) e) (N (o206 P) (N (o334 P) e e) e)) (N (o110 P) (N (o174 P) (N (o302 P) e e) e) (N (o238 P) (N (o366 P) e e) e))))) (N (o0 P) (N (o10 P) (N (o26 P) (N (o58 P) (N (o122 P) (N (o250 P) e e) (N (o378 P) e e)) (N (o186 P) (N (o314 P) e e) e)) (N (o90 P) (N (o154 P) (N (o282 P) e e) e) (N (o218 P) (N (o346 P) e e) e))) (N (o42 P) (N (o74 P) (N (o138 P) (N (o266 P) e e) e) (N (o202 P) (N (o330 P) e e) e)) (N (o106 P) (N (o170 P) (N (o298 P) e e) e) (N (o234 P) (N (o362 P) e e) e)))) (N (o18 P) (N (o34 P) (N (o66 P) (N (o130 P) (N (o258 P) e e) e) (N (o194 P) (N (o322 P) e e) e)) (N (o98 P) (N (o162 P) (N (o290 P) e e) e) (N (o226 P) (N (o354 P) e e) e))) (N (o50 P) (N (o82 P) (N (o146 P) (N (o274 P) e e) e) (N (o210 P) (N (o338 P) e e) e)) (N (o114 P) (N (o178 P) (N (o306 P) e e) e) (N (o242 P) (N (o370 P) e e) e)))))) (N (boot_o_5 P) (N (boot_o_9 P) (N (o8 P) (N (o24 P) (N (o56 P) (N (o120 P) (N (o248 P) e e) (N (o376 P) e e)) (N (o184 P) (N (o312 P) e e) e)) (N (o88 P) (N (o152 P) (N (o280 P) e e) e) (N (o216 P) (N (o344 P) e e) e))) (N (o40 P) (N (o72 P) (N (o136 P) (N (o264 P) e e) e) (N (o200 P) (N (o328 P) e e) e)) (N (o104 P) (N (o168 P) (N (o296 P) e e) e) (N (o232 P) (N (o360 P) e e) e)))) (N (o16 P) (N (o32 P) (N (o64 P) (N (o128 P) (N (o256 P) e e) e) (N (o192 P) (N (o320 P) e e) e)) (N (o96 P) (N (o160 P) (N (o288 P) e e) e) (N (o224 P) (N (o352 P) e e) e))) (N (o48 P) (N (o80 P) (N (o144 P) (N (o272 P) e e) e) (N (o208 P) (N (o336 P) e e) e)) (N (o112 P) (N (o176 P) (N (o304 P) e e) e) (N (o240 P) (N (o368 P) e e) e))))) (N (o2 P) (N (o12 P) (N (o28 P) (N (o60 P) (N (o124 P) (N (o252 P) e e) (N (o380 P) e e)) (N (o188 P) (N (o316 P) e e) e)) (N (o92 P) (N (o156 P) (N (o284 P) e e) e) (N (o220 P) (N (o348 P) e e) e))) (N (o44 P) (N (o76 P) (N (o140 P) (N (o268 P) e e) e) (N (o204 P) (N (o332 P) e e) e)) (N (o108 P) (N (o172 P) (N (o300 P) e e) e) (N (o236 P) (N (o364 P) e e) e)))) (N (o20 P) (N (o36 P) (N (o68 P) (N (o132 P) (N (o260 P) e e) e) (N (o196 P) (N (o324 P) e e) e)) (N (o100 P) (N (o164 P) (N (o292 P) e e) e) (N (o228 P) (N (o356 P) e e) e))) (N (o52 P) (N (o84 P) (N (o148 P) (N (o276 P) e e) e) (N (o212 P) (N (o340 P) e e) e)) (N (o116 P) (N (o180 P) (N (o308 P) e e) e) (N (o244 P) (N (o372 P) e e) e))))))) (N (boot_o_2 P) (N (boot_o_4 P) (N (boot_o_8 P) (N (o7 P) (N (o23 P) (N (o55 P) (N (o119 P) (N (o247 P) e e) (N (o375 P) e e)) (N (o183 P) (N (o311 P) e e) e)) (N (o87 P) (N (o151 P) (N (o279 P) e e) e) (N (o215 P) (N (o343 P) e e) e))) (N (o39 P) (N (o71 P) (N (o135 P) (N (o263 P) e e) e) (N (o199 P) (N (o327 P) e e) e)) (N (o103 P) (N (o167 P) (N (o295 P) e e) e) (N (o231 P) (N (o359 P) e e) e)))) (N (o15 P) (N (o31 P) (N (o63 P) (N (o127 P) (N (o255 P) e e) (N (o383 P) e e)) (N (o191 P) (N (o319 P) e e) e)) (N (o95 P) (N (o159 P) (N (o287 P) e e) e) (N (o223 P) (N (o351 P) e e) e))) (N (o47 P) (N (o79 P) (N (o143 P) (N (o271 P) e e) e) (N (o207 P) (N (o335 P) e e) e)) (N (o111 P) (N (o175 P) (N (o303 P) e e) e) (N (o239 P) (N (o367 P) e e) e))))) (N (o5 P) (N (o11 P) (N (o27 P) (N (o59 P) (N (o123 P) (N (o251 P) e e) (N (o379 P) e e)) (N (o187 P) (N (o315 P) e e) e)) (N (o91 P) (N (o155 P) (N (o283 P) e e) e) (N (o219 P) (N (o347 P) e e) e))) (N (o43 P) (N (o75 P) (N (o139 P) (N (o267 P) e e) e) (N (o203 P) (N (o331 P) e e) e)) (N (o107 P) (N (o171 P) (N (o299 P) e e) e) (N (o235 P) (N (o363 P) e e) e)))) (N (o19 P) (N (o35 P) (N (o67 P) (N (o131 P) (N (o259 P) e e) e) (N (o195 P) (N (o323 P) e e) e)) (N (o99 P) (N (o163 P) (N (o291 P) e e) e) (N (o227 P) (N (o355 P) e e) e))) (N (o51 P) (N (o83 P) (N (o147 P) (N (o275 P) e e) e) (N (o211 P) (N (o339 P) e e) e)) (N (o115 P) (N (o179 P) (N (o307 P) e e) e) (N (o243 P) (N (o371 P) e e) e)))))) (N (boot_o_6 P) (N (boot_o_10 P) (N (o9 P) (N (o25 P) (N (o57 P) (N (o121 P) (N (o249 P) e e) (N (o377 P) e e)) (N (o185 P) (N (o313 P) e e) e)) (N (o89 P) (N (o153 P) (N (o281 P) e e) e) (N (o217 P) (N (o345 P) e e) e))) (N (o41 P) (N (o73 P) (N (o137 P) (N (o265 P) e e) e) (N (o201 P) (N (o329 P) e e) e)) (N (o105 P) (N (o169 P) (N (o297 P) e e) e) (N (o233 P) (N (o361 P) e e) e)))) (N (o17 P) (N (o33 P) (N (o65 P) (N (o129 P) (N (o257 P) e e) e) (N (o193 P) (N (o321 P) e e) e)) (N (o97 P) (N (o161 P) (N (o289 P) e e) e) (N (o225 P) (N (o353 P) e e) e))) (N (o49 P) (N (o81 P) (N (o145 P) (N (o273 P) e e) e) (N (o209 P) (N (o337 P) e e) e)) (N (o113 P) (N (o177 P) (N (o305 P) e e) e) (N (o241 P) (N (o369 P) e e) e))))) (N (o3 P) (N (o13 P) (N (o29 P) (N (o61 P) (N (o125 P) (N (o253 P) e e) (N (o381 P) e e)) (N (o189 P) (N (o317 P) e e) e)) (N (o93 P) (N (o157 P) (N (o285 P) e e) e) (N (o221 P) (N (o349 P) e e) e))) (N (o45 P) (N (o77 P) (N (o141 P) (N (o269 P) e e) e) (N (o205 P) (N (o333 P) e e) e)) (N (o109 P) (N (o173 P) (N (o301 P) e e) e) (N (o237 P) (N (o365 P) e e) e)))) (N (o21 P) (N (o37 P) (N (o69 P) (N (o133 P) (N (o261 P) e e) e) (N (o197 P) (N (o325 P) e e) e)) (N (o101 P) (N (o165 P) (N (o293 P) e e) e) (N (o229 P) (N (o357 P) e e) e))) (N (o53 P) (N (o85 P) (N (o149 P) (N (o277 P) e e) e) (N (o213 P) (N (o341 P) e e) e)) (N (o117 P) (N (o181 P) (N (o309 P) e e) e) (N (o245 P) (N (o373 P) e e) e))))))))
def S1 (w : World) (os : OsState) : SharedT := ⟨T1 w.params, 393, ⟨[], [], [], 0, [], [], false, #[], [], 0, false, false, false, 0, [2000, 10, 10], false, 0, true, [], [], 0, false⟩, #[], ⟨0, 0, 0, 0⟩, 695, os⟩
def pos1 : Pos := ⟨277, 0, 307, 15⟩
def Tz (P : Params) : BT := (N (boot_o_0 P) (N (boot_o_1 P) (N (o4 P) (N (boot_o_7 P) (N (o6 P) (N (o22 P) (N (o54 P) (N (o118 P) (N (o246 P) e e) (N (o374 P) e e)) (N (o182 P) (N (o310 P) e e) e)) (N (o86 P) (N (o150 P) (N (o278 P) e e) e) (N (o214 P) (N (o342 P) e e) e))) (N (o38 P) (N (o70 P) (N (o134 P) (N (o262 P) e e) e) (N (o198 P) (N (o326 P) e e) e)) (N (o102 P) (N (o166 P) (N (o294 P) e e) e) (N (o230 P) (N (o358 P) e e) e)))) (N (o14 P) (N (o30 P) (N (o62 P) (N (o126 P) (N (o254 P) e e) (N (o382 P) e e)) (N (o190 P) (N (o318 P) e e) e)) (N (o94 P) (N (o158 P) (N (o286 P) e e) e) (N (o222 P) (N (o350 P) e e) e))) (N (o46 P) (N (o78 P) (N (o142 P) (N (o270 P) e e) e) (N (o206 P) (N (o334 P) e e) e)) (N (o110 P) (N (o174 P) (N (o302 P) e e) e) (N (o238 P) (N (o366 P) e e) e))))) (N (o0 P) (N (o10 P) (N (o26 P) (N (o58 P) (N (o122 P) (N (o250 P) e e) (N (o378 P) e e)) (N (o186 P) (N (o314 P) e e) e)) (N (o90 P) (N (o154 P) (N (o282 P) e e) e) (N (o218 P) (N (o346 P) e e) e))) (N (o42 P) (N (o74 P) (N (o138 P) (N (o266 P) e e) e) (N (o202 P) (N (o330 P) e e) e)) (N (o106 P) (N (o170 P) (N (o298 P) e e) e) (N (o234 P) (N (o362 P) e e) e)))) (N (o18 P) (N (o34 P) (N (o66 P) (N (o130 P) (N (o258 P) e e) e) (N (o194 P) (N (o322 P) e e) e)) (N (o98 P) (N (o162 P) (N (o290 P) e e) e) (N (o226 P) (N (o354 P) e e) e))) (N (o50 P) (N (o82 P) (N (o146 P) (N (o274 P) e e) e) (N (o210 P) (N (o338 P) e e) e)) (N (o114 P) (N (o178 P) (N (o306 P) e e) e) (N (o242 P) (N (o370 P) e e) e)))))) (N (boot_o_5 P) (N (boot_o_9 P) (N (o8 P) (N (o24 P) (N (o56 P) (N (o120 P) (N (o248 P) e e) (N (o376 P) e e)) (N (o184 P) (N (o312 P) e e) e)) (N (o88 P) (N (o152 P) (N (o280 P) e e) e) (N (o216 P) (N (o344 P) e e) e))) (N (o40 P) (N (o72 P) (N (o136 P) (N (o264 P) e e) e) (N (o200 P) (N (o328 P) e e) e)) (N (o104 P) (N (o168 P) (N (o296 P) e e) e) (N (o232 P) (N (o360 P) e e) e)))) (N (o16 P) (N (o32 P) (N (o64 P) (N (o128 P) (N (o256 P) e e) e) (N (o192 P) (N (o320 P) e e) e)) (N (o96 P) (N (o160 P) (N (o288 P) e e) e) (N (o224 P) (N (o352 P) e e) e))) (N (o48 P) (N (o80 P) (N (o144 P) (N (o272 P) e e) e) (N (o208 P) (N (o336 P) e e) e)) (N (o112 P) (N (o176 P) (N (o304 P) e e) e) (N (o240 P) (N (o368 P) e e) e))))) (N (o2 P) (N (o12 P) (N (o28 P) (N (o60 P) (N (o124 P) (N (o252 P) e e) (N (o380 P) e e)) (N (o188 P) (N (o316 P) e e) e)) (N (o92 P) (N (o156 P) (N (o284 P) e e) e) (N (o220 P) (N (o348 P) e e) e))) (N (o44 P) (N (o76 P) (N (o140 P) (N (o268 P) e e) e) (N (o204 P) (N (o332 P) e e) e)) (N (o108 P) (N (o172 P) (N (o300 P) e e) e) (N (o236 P) (N (o364 P) e e) e)))) (N (o20 P) (N (o36 P) (N (o68 P) (N (o132 P) (N (o260 P) e e) e) (N (o196 P) (N (o324 P) e e) e)) (N (o100 P) (N (o164 P) (N (o292 P) e e) e) (N (o228 P) (N (o356 P) e e) e))) (N (o52 P) (N (o84 P) (N (o148 P) (N (o276 P) e e) e) (N (o212 P) (N (o340 P) e e) e)) (N (o116 P) (N (o180 P) (N (o308 P) e e) e) (N (o244 P) (N (o372 P) e e) e))))))) (N (boot_o_2 P) (N (boot_o_4 P) (N (boot_o_8 P) (N (o7 P) (N (o23 P) (N (o55 P) (N (o119 P) (N (o247 P) e e) (N (o375 P) e e)) (N (o183 P) (N (o311 P) e e) e)) (N (o87 P) (N (o151 P) (N (o279 P) e e) e) (N (o215 P) (N (o343 P) e e) e))) (N (o39 P) (N (o71 P) (N (o135 P) (N (o263 P) e e) e) (N (o199 P) (N (o327 P) e e) e)) (N (o103 P) (N (o167 P) (N (o295 P) e e) e) (N (o231 P) (N (o359 P) e e) e)))) (N (o15 P) (N (o31 P) (N (o63 P) (N (o127 P) (N (o255 P) e e) (N (o383 P) e e)) (N (o191 P) (N (o319 P) e e) e)) (N (o95 P) (N (o159 P) (N (o287 P) e e) e) (N (o223 P) (N (o351 P) e e) e))) (N (o47 P) (N (o79 P) (N (o143 P) (N (o271 P) e e) e) (N (o207 P) (N (o335 P) e e) e)) (N (o111 P) (N (o175 P) (N (o303 P) e e) e) (N (o239 P) (N (o367 P) e e) e))))) (N (o5 P) (N (o11 P) (N (o27 P) (N (o59 P) (N (o123 P) (N (o251 P) e e) (N (o379 P) e e)) (N (o187 P) (N (o315 P) e e) e)) (N (o91 P) (N (o155 P) (N (o283 P) e e) e) (N (o219 P) (N (o347 P) e e) e))) (N (o43 P) (N (o75 P) (N (o139 P) (N (o267 P) e e) e) (N (o203 P) (N (o331 P) e e) e)) (N (o107 P) (N (o171 P) (N (o299 P) e e) e) (N (o235 P) (N (o363 P) e e) e)))) (N (o19 P) (N (o35 P) (N (o67 P) (N (o131 P) (N (o259 P) e e) e) (N (o195 P) (N (o323 P) e e) e)) (N (o99 P) (N (o163 P) (N (o291 P) e e) e) (N (o227 P) (N (o355 P) e e) e))) (N (o51 P) (N (o83 P) (N (o147 P) (N (o275 P) e e) e) (N (o211 P) (N (o339 P) e e) e)) (N (o115 P) (N (o179 P) (N (o307 P) e e) e) (N (o243 P) (N (o371 P) e e) e)))))) (N (boot_o_6 P) (N (boot_o_10 P) (N (o9 P) (N (o25 P) (N (o57 P) (N (o121 P) (N (o249 P) e e) (N (o377 P) e e)) (N (o185 P) (N (o313 P) e e) e)) (N (o89 P) (N (o153 P) (N (o281 P) e e) e) (N (o217 P) (N (o345 P) e e) e))) (N (o41 P) (N (o73 P) (N (o137 P) (N (o265 P) e e) e) (N (o201 P) (N (o329 P) e e) e)) (N (o105 P) (N (o169 P) (N (o297 P) e e) e) (N (o233 P) (N (o361 P) e e) e)))) (N (o17 P) (N (o33 P) (N (o65 P) (N (o129 P) (N (o257 P) e e) e) (N (o193 P) (N (o321 P) e e) e)) (N (o97 P) (N (o161 P) (N (o289 P) e e) e) (N (o225 P) (N (o353 P) e e) e))) (N (o49 P) (N (o81 P) (N (o145 P) (N (o273 P) e e) e) (N (o209 P) (N (o337 P) e e) e)) (N (o113 P) (N (o177 P) (N (o305 P) e e) e) (N (o241 P) (N (o369 P) e e) e))))) (N (o3 P) (N (o13 P) (N (o29 P) (N (o61 P) (N (o125 P) (N (o253 P) e e) (N (o381 P) e e)) (N (o189 P) (N (o317 P) e e) e)) (N (o93 P) (N (o157 P) (N (o285 P) e e) e) (N (o221 P) (N (o349 P) e e) e))) (N (o45 P) (N (o77 P) (N (o141 P) (N (o269 P) e e) e) (N (o205 P) (N (o333 P) e e) e)) (N (o109 P) (N (o173 P) (N (o301 P) e e) e) (N (o237 P) (N (o365 P) e e) e)))) (N (o21 P) (N (o37 P) (N (o69 P) (N (o133 P) (N (o261 P) e e) e) (N (o197 P) (N (o325 P) e e) e)) (N (o101 P) (N (o165 P) (N (o293 P) e e) e) (N (o229 P) (N (o357 P) e e) e))) (N (o53 P) (N (o85 P) (N (o149 P) (N (o277 P) e e) e) (N (o213 P) (N (o341 P) e e) e)) (N (o117 P) (N (o181 P) (N (o309 P) e e) e) (N (o245 P) (N (o373 P) e e) e))))))))
def Sz (w : World) (os : OsState) : SharedT := ⟨Tz w.params, 393, ⟨[], [], [], 0, [], [], false, #[], [], 0, false, false, false, 0, [2000, 10, 10], false, 0, true, [], [], 0, false⟩, #[], ⟨0, 0, 0, 0⟩, 695, os⟩
def posz : Pos := ⟨277, 0, 307, 15⟩
abbrev bd : List Stmt := behindTheImports Pg
def env : Env := { scope := Pg.main.scope, locals := mainNs, globals := mainNs, cells := [], code := (.ref 13), frame := some 14 }
abbrev cE : Code := .body bd env
abbrev qf : Pos := ⟨0, 0, 0, 0⟩
abbrev cut (a b : Nat) : List Stmt := (bd.drop a).take (b - a)
end K59H

end
noncomputable section
namespace K59H
open PySem PySem.W PySem.Calls PyProof.Rows HandSHeadRun HG
theorem g0 (w : World) (os : OsState) : first (stepQ (denQ tabQ) Pg w) 12 Pg w os = some (Sa w os, ⟨denQ tabQ cE, cE, posa, [topFrame qf]⟩) := by kernel_rfl
theorem gb (w : World) (os : OsState) : block (stepQ (denQ tabQ) Pg w) 11 an6 1 (Sa w os) ⟨(PySem.W.Fast.tw1066825118222455980 bd env).wrap (fun _ => doneF .next) deadEnd id id, cE, posa, [topFrame qf]⟩ = some (.next, Sa w os, cE, posa) := by kernel_rfl
theorem g1 (w : World) (os : OsState) : block (stepQ (denQ tabQ) Pg w) 11 an6 2882 (Sa w os) ⟨(exQ (cut 0 49) env).wrap doneF deadEnd id id, cE, posa, [topFrame qf]⟩ = some (.next, S1 w os, cE, pos1) := by kernel_rfl
theorem gz (w : World) (os : OsState) : goF (stepQ (denQ tabQ) Pg w) 11 an6 2 (S1 w os) ⟨doneF .next, cE, pos1, [topFrame qf]⟩ = some (Sz w os) := by kernel_rfl
theorem body_cut : bd = cut 0 49 ++ [] := by kernel_rfl
theorem top (w : World) (os : OsState) : topRun treeTable Pg w 11 an6 2897 (bootS w os) (topStub Pg) = some (Sz w os).abs := by
  refine begin_ (g0 w os) (gb w os) (N := 2884) ?_
  have z : topRun treeTable Pg w 11 an6 (2882 + 2) (Sa w os).abs (restOf (cut 0 49 ++ []) env cE posa [topFrame qf]) = some (Sz w os).abs := piece (g1 w os) (last (gz w os))
  rw [← body_cut] at z
  exact z
end K59H

end
/-! E1: a class over ValueError with an own __init__ is called, with keywords too (at the model's level). -/
namespace XMake
open PySem
/-- at C stands such a class, its line of ancestors behind itself is bm -/
def At (h : Heap) (C : Addr) (bm : List Value) : Prop := ∃ nm q N bs dct sn sub ab col dd a0 a1 a2 a3 a5, h.get? C = some (excClassObj nm q C N bs bm dct sn sub ab col dd a0 a1 a2 a3 a5 "ValueError.__new__")
/-- the built-in classes among bm are ValueError's -/
def Over (bm : List Value) : Prop := ∀ T : String, bm.contains (.type T) = [Value.type "ValueError", .type "Exception", .type "BaseException", .type "object"].contains (.type T)
theorem Over.has {bm : List Value} (o : Over bm) (C : Addr) (T : String) (b : Bool) (e : [Value.type "ValueError", .type "Exception", .type "BaseException", .type "object"].contains (.type T) = b) : (Value.ref C :: bm).contains (.type T) = b := by
  have z : (Value.type T == Value.ref C) = false := rfl
  rw [List.contains_cons, z, Bool.false_or]
  exact (o T).trans e
abbrev vf := PySem.F.excBase_ValueError
/-- the heap with a tuple of the arguments and the bare exception behind it -/
abbrev made (h : Heap) (C : Addr) (us : List Value) : Heap := (h.push (W.kdv_tup us)).push (HandSPX.excO C h.objs.size)
section
variable {P : Program} {w : World} {A : Around} {C : Addr} {bm us : List Value} {kw : List (Str × Value)} {h : Heap} {g : Array GenState} {d : Drawn} {t : Nat} {os : OsState}
theorem let_by {M : Model} {E : Value → Shared → Prop} {Q : Unit → Shared → Prop} (c : At h C bm) (o : Over bm) (k : Q () ⟨h, g, d, t, os⟩) : wpAny M A (checkBuiltinCall "ValueError.__new__" ⟨.ref C :: us, kw⟩) Q E ⟨h, g, d, t, os⟩ := by
  obtain ⟨nm, q, N, bs, dct, sn, sub, ab, col, dd, a0, a1, a2, a3, a5, c⟩ := c
  have v := o.has C "ValueError" true rfl
  have star := vf.noStar
  unfold checkBuiltinCall
  simp only [vf.newRow, vf.newSplit, vf.newKind]
  repeat
    first
      | (refine wpAny_isSubtype_exc c ?_
         rw [v])
      | refine wpAny_staticBase_exc c ?_
      | refine wpAny_madeBy_exc c ?_
      | refine wpAny_loadPart_at c ?_
      | simp only [if_false, Bool.false_eq_true, bne_self_eq_false]
      | wp_step
  exact k
theorem new {R : Result → Shared → Prop} (c : At h C bm) (o : Over bm) (l : us.length ≤ sizeLine) (k : R (.ok (.ret (.ref (h.objs.size + 1)))) ⟨made h C us, g, d, t, os⟩) :
    codeAny (model P w) A (.builtin "ValueError.__new__" ⟨.ref C :: us, kw⟩) R ⟨h, g, d, t, os⟩ := by
  obtain ⟨nm, q, N, bs, dct, sn, sub, ab, col, dd, a0, a1, a2, a3, a5, c⟩ := c
  have v := o.has C "ValueError" true rfl
  have v1 := o.has C "AttributeError" false (by decide)
  have v2 := o.has C "NameError" false (by decide)
  have ends := vf.ends
  refine codeAny_builtinAt vf.entry (wpAt_bind ?_)
  refine wpAt_bind (wpAt_stack fun _ _ => wpAt_of_wpAny ?_)
  wp_walk
  refine wpAt_of_wpAny ?_
  rw [vf.owner]
  repeat
    first
      | (with_reducible refine wpAny_isSubtype_exc c ?_
         first
           | rw [v]
           | rw [v1]
           | rw [v2])
      | with_reducible refine wpAny_madeHere_exc vf.canon c ?_
      | with_reducible refine wpAny_loadPart_at c ?_
      | wp_step
  show R (.ok (.ret (.ref (Heap.push h _).objs.size))) _
  rw [Heap.size_push]
  exact k
theorem At.on {h' : Heap} (c : At h C bm) (k : ∀ b o, h.get? b = some o → h'.get? b = some o) : At h' C bm := by
  obtain ⟨nm, q, N, bs, dct, sn, sub, ab, col, dd, a0, a1, a2, a3, a5, c⟩ := c
  exact ⟨nm, q, N, bs, dct, sn, sub, ab, col, dd, a0, a1, a2, a3, a5, k _ _ c⟩
theorem made_keeps (b : Addr) (o : Obj) (e : h.get? b = some o) : (made h C us).get? b = some o := by
  unfold made
  exact Heap.get?_push_of_some _ (Heap.get?_push_of_some _ e)
theorem made_here : (made h C us).get? (h.objs.size + 1) = some (HandSPX.excO C h.objs.size) := by
  unfold made
  heap_get
/-- type.__call__ of the class: made, then its __init__, at f -/
theorem by_type {E : Value → Shared → Prop} {Q : Fin → Shared → Prop} {f : Addr} (c : At h C bm) (o : Over bm) (l : us.length ≤ sizeLine)
    (i : W.Looks (model P w) h (typeLookup (.ref C) "__init__") (some (.ref f))) (b : ∀ x, W.Looks (model P w) h (bindSpecial (.ref f) x) (.ref f, [x]))
    (k : codeAny (model P w) A (.call (.ref f) ⟨.ref (h.objs.size + 1) :: us, kw⟩) (fun r s' => match r with
      | .error e => E e s'
      | .ok (.ret v) => v = .none ∧ Q (.done (.ret (.ref (h.objs.size + 1)))) s'
      | .ok _ => False) ⟨made h C us, g, d, t, os⟩) :
    wpAny (model P w) A (Builtin.«type.__call__» ⟨.ref C :: us, kw⟩) Q E ⟨h, g, d, t, os⟩ := by
  have c' := c
  obtain ⟨nm, q, N, bs, dct, sn, sub, ab, col, dd, a0, a1, a2, a3, a5, z⟩ := c'
  have z2 := made_keeps (C := C) (us := us) _ _ z
  have self := made_here (h := h) (C := C) (us := us)
  have own : (Value.ref C :: bm).contains (.ref C) = true := List.contains_iff_mem.mpr List.mem_cons_self
  have i2 := i.keeps (made_keeps (C := C) (us := us))
  have b2 := (b (.ref (h.objs.size + 1))).keeps (made_keeps (C := C) (us := us))
  repeat
    first
      | with_reducible refine wpAny_madeBy_exc z ?_
      | with_reducible refine wpAny_loadPart_at z ?_
      | wp_step
  refine codeAny_call_builtin_code (Code.quiet_builtin _ vf.quiet) (let_by c o (new c o l ?_))
  show wpAny _ _ _ _ _ _
  unfold isInstance
  repeat
    first
      | (with_reducible refine wpAny_isSubtype_exc z2 ?_
         rw [own])
      | with_reducible refine wpAny_loadPart_at self ?_
      | wp_step
  refine i2.at (wpAny_holding (wpAny_bind (b2.at (wpAny_bind (wpAny_call (codeAny_mono k fun r s' y => ?_))))))
  match r, y with
  | .error e, y => exact y
  | .ok (.ret v), y =>
    obtain ⟨rfl, y⟩ := y
    first
      | exact wpAny_pure (wpAny_pure y)
      | (wp_walk; exact y)
  | .ok .next, y => exact y.elim
  | .ok .brk, y => exact y.elim
  | .ok .cont, y => exact y.elim
/-- the class is called -/
theorem called {R : Result → Shared → Prop} {f : Addr} (c : At h C bm) (o : Over bm) (l : us.length ≤ sizeLine)
    (i : W.Looks (model P w) h (typeLookup (.ref C) "__init__") (some (.ref f))) (b : ∀ x, W.Looks (model P w) h (bindSpecial (.ref f) x) (.ref f, [x]))
    (k : codeAny (model P w) (A.under (.builtin "type.__call__" ⟨.ref C :: us, kw⟩)) (.call (.ref f) ⟨.ref (h.objs.size + 1) :: us, kw⟩) (W.InitBack (h.objs.size + 1) R) ⟨made h C us, g, d, t, os⟩) :
    codeAny (model P w) A (.call (.ref C) ⟨us, kw⟩) R ⟨h, g, d, t, os⟩ := by
  have c' := c
  obtain ⟨nm, q, N, bs, dct, sn, sub, ab, col, dd, a0, a1, a2, a3, a5, z⟩ := c'
  have t1 := tc_bind (.ref C)
  have t2 := tc_lookup
  have ty : (⟨h, g, d, t, os⟩ : Shared).TypeIs (.ref C) "type" := ⟨_, z, rfl⟩
  apply codeAny_of_tree
  show wpAny (model P w) _ (callAny (.ref C) _) _ _ _
  repeat
    any_goals
      first
        | with_reducible refine wpAny_loadPart_at z ?_
        | assumption
        | wp_step
  refine ⟨rfl, codeAny_call_builtin_at (Code.quiet_builtin _ (by decide +kernel)) entry_typeCall (wpAny_check_type_call_sub z (by_type c o l i b (codeAny_mono k fun r s' y => ?_)))⟩
  match r, y with
  | .error e, y => exact y
  | .ok (.ret v), y => exact y
  | .ok .next, y => exact y
  | .ok .brk, y => exact y
  | .ok .cont, y => exact y
end
end XMake

namespace L2
open PySem PySem.Spec PyProof.Rows
/-- C(.., k = v, ..), C an exception class of one's own with its own __init__: the new exception is a value -/
def tMkX (C : Addr) (n m : Nat) (sp : Sp) (gV : List V → List V → List V) (t tk : TA) : TE := fun σ H Q => t σ H fun vs H1 => tk σ H1 fun zs H2 => vs.length = n ∧ n ≤ 1000 ∧ zs.length = m ∧
  ∀ a, H2 a = none → sp (gV (.ref a :: vs) zs) (upd H2 a (exo a C none)) (fun v H3 => v = .non ∧ Q (.ref a) H3) (fun _ _ _ => False)
section
variable {X : Cx} {CX : CXT} {k n : Nat} {f C : Addr} {fd : FuncData} {ps ks : List Str} {sp : Sp} {x : Str} {p pos : Pos} {e : Expr} {es : List Expr} {kws : List Keyword} {t tk : TA} {g : List Value → List Value → List Value} {gV : List V → List V → List V}
/-- what is known of the class and of its __init__ -/
structure MkX (X : Cx) (CX : CXT) (k : Nat) (C f : Addr) (fd : FuncData) (ps : List Str) (sp : Sp) : Prop where
  cls : OexC X.K C
  ini : PySem.W.findIn X.K (.ref C) "__init__" = some (some (.ref f))
  fun_ : PySem.W.typeIn X.K (.ref f) = some (.type "function")
  ok : FnOk X.prog X.w X.K X.mg X.base CX k f fd ps sp
  room : Room (k + 1) X.A
  pass : Passes CX X (fun _ _ _ => False)
theorem MkX.run {pins : List (Addr × Obj)} {σ : St} {H : Hp} {s : Shared} {Q : VK} {us ws : List Value} {vs zs : List V} (M : MkX X CX k C f fd ps sp) (B : KBn X.K fd ps (n + 1) ks g gV)
    (I : Inv X pins σ H s) (r : Vals vs us) (rz : Vals zs ws) (l1 : vs.length = n) (l0 : n ≤ 1000) (l2 : zs.length = ks.length)
    (go : ∀ a, H a = none → sp (gV (.ref a :: vs) zs) (upd H a (exo a C none)) (fun v H2 => v = .non ∧ Q (.ref a) H2) (fun _ _ _ => False)) :
    wpAny (model X.prog X.w) X.A (call (.ref C) us (ks.zip ws)) (EP X pins σ Q) X.xe s := by
  obtain ⟨hp, gs, dr, tk, os⟩ := s
  obtain ⟨nm, q, N, bs, bm, sn, sub, ab, col, dd, a0, a1, a2, a3, a5, lk, anc⟩ := M.cls.cls
  have at_ : XMake.At hp C bm := ⟨nm, q, N, bs, true, sn, sub, ab, col, dd, a0, a1, a2, a3, a5, I.kIn _ _ lk⟩
  have over : XMake.Over bm := fun T => PySem.HandSPX.refsVE_contains T bm anc
  have few : us.length ≤ sizeLine := by
    have z := r.length
    rw [sizeLine_eq]
    omega
  -- the new exception's address
  obtain ⟨a, ea⟩ : ∃ a, a = hp.objs.size + 1 := ⟨_, rfl⟩
  have le : hp.objs.size ≤ a := by omega
  have free : H a = none := I.hok.fresh le
  have here : (XMake.made hp C us).get? a = some (PySem.HandSPX.excO C hp.objs.size) := by
    rw [ea]
    exact XMake.made_here
  have J : Inv X pins σ (upd H a (exo a C none)) ⟨XMake.made hp C us, gs, dr, tk, os⟩ := I.laid (t' := tk) (h' := XMake.made hp C us) XMake.made_keeps le (exo_ok here)
  have num : (Value.ref a :: us).length = n + 1 := by
    have z := r.length
    simp only [List.length_cons]
    omega
  have bound := B.to ⟨XMake.made hp C us, gs, dr, tk, os⟩ (Value.ref a :: us) ws J.kIn num (rz.length.symm.trans l2)
  have init := M.ok.run _ X.stack _ _ ⟨Value.ref a :: us, ks.zip ws⟩ (g (Value.ref a :: us) ws) _ _ (fun _ _ _ => False) (M.room.make C us (ks.zip ws)) (J.env0.make C us (ks.zip ws)) bound (B.rel (show Vals (V.ref a :: vs) (Value.ref a :: us) from .cons rfl r) rz) (go a free)
  refine wpAny_call (XMake.called at_ over few (PySem.W.looks_findIn I.kIn M.ini) (fun z => PySem.W.bind_fn I.kIn z M.fun_) ?_)
  rw [← ea]
  refine codeAny_mono init fun r s' z => ?_
  match r, z with
  | .error u, z => exact M.pass pins σ _ _ u s' J z
  | .ok (.ret u), z =>
    obtain ⟨v, H', L, rv, ev, y⟩ := J.after z
    rw [ev] at rv
    exact ⟨rv, .ref a, H', L, rfl, y⟩
  | .ok .next, z => exact z.elim
  | .ok .brk, z => exact z.elim
  | .ok .cont, z => exact z.elim
/-- C(e, ..) -/
theorem pe_mkX (T : OexC X.K C) (iC : PySem.W.findIn X.K (.ref C) "__init__" = some (some (.ref f))) (tI : PySem.W.typeIn X.K (.ref f) = some (.type "function"))
    (F : FnOk X.prog X.w X.K X.mg X.base CX k f fd ps sp) (hr : Room (k + 1) X.A) (hb : KBn X.K fd ps (n + 1) [] g gV) (hx : Passes CX X (fun _ _ _ => False)) (hg : Gl X x) (hm : X.mg x = some (.ref C)) (ha : PA X (e :: es) t)
    (dbg : (x == ("__debug__" : Str)) = false := by decide) (stars : starEach (e :: es) X.env = (false, eval e X.env) :: starEach es X.env := by rfl) (plain : (backTo pos (starEach es X.env)).any (·.1) = false := by rfl) :
    PE X (.Call (.Name x p) (e :: es) [] pos) (tMkX C n 0 sp gV t tNil) := ⟨fun pins s σ H Q I h => wpAny_Call_Name_kw (ld_glob I hg hm (PySem.W.callWith_K (h₀ := X.base) I.ok.mod.kin T.kC (thn (ha.run pos pins s σ H _ I h) fun us s1 ⟨vs, H1, I1, r1, l1, l0, _, q1⟩ =>
      ⟨I1.kIn, MkX.run (ks := []) (ws := []) (zs := []) ⟨T, iC, tI, F, hr, hx⟩ hb I1 r1 .nil l1 l0 rfl q1⟩) stars plain) dbg)⟩
/-- C(k = v, ..) -/
theorem pe_mkXK (T : OexC X.K C) (iC : PySem.W.findIn X.K (.ref C) "__init__" = some (some (.ref f))) (tI : PySem.W.typeIn X.K (.ref f) = some (.type "function"))
    (F : FnOk X.prog X.w X.K X.mg X.base CX k f fd ps sp) (hr : Room (k + 1) X.A) (hb : KBn X.K fd ps 1 ks g gV) (hx : Passes CX X (fun _ _ _ => False)) (hg : Gl X x) (hm : X.mg x = some (.ref C)) (hkw : PK X kws tk)
    (named : (backToKw pos (keywordEach kws X.env)).all (·.1.isSome) = true := by rfl) (names : (backToKw pos (keywordEach kws X.env)).filterMap (·.1) = ks := by rfl) (dbg : (x == ("__debug__" : Str)) = false := by decide)
    (plain : ((backTo pos (starEach [] X.env)).any (·.1) || (backToKw pos (keywordEach kws X.env)).any (·.1.isNone)) = false := by rfl) :
    PE X (.Call (.Name x p) [] kws pos) (tMkX C 0 ks.length sp gV tNil tk) := ⟨fun pins s σ H Q I h => wpAny_Call_Name_kw (ld_glob I hg hm (PySem.W.callWith_KW0 (h₀ := X.base) I.ok.mod.kin T.kC named (thn (hkw.run pos pins s σ H _ I h) fun ws s2 ⟨zs, H2, I2, rz, l1, l0, l2, q2⟩ =>
      ⟨I2.kIn, by
        rw [names]
        exact MkX.run (us := []) (vs := []) (n := 0) ⟨T, iC, tI, F, hr, hx⟩ hb I2 .nil rz rfl l0 l2 q2⟩) plain) dbg)⟩
end
/-! ### reading a field, isinstance -/
/-- e.f of an exception that is a value -/
def tXv (K : PySem.W.Frag) (f : Str) (te : TE) : TE := fun σ H Q => te σ H fun x H1 => ∃ (a C d : Addr) (fs : List (Str × V)) (v : V), x = .ref a ∧ H1 a = some (exo a C (some d)) ∧ H1 d = some (exd d fs) ∧ XfC K C ∧ PySem.W.findIn K (.ref C) f = some none ∧ fs.lookup f = some v ∧ Q v H1
theorem pe_xv {X : Cx} {e : Expr} {te : TE} {pos : Pos} {n : Str} (he : PE X e te) (base : attributeBase e n X.env (eval e X.env) = eval e X.env := by rfl) : PE X (.Attribute e n pos) (tXv X.K n te) := ⟨fun pins s σ H Q I h => attr_of base (thn (he.run pins s σ H _ I h) fun u s1 hh => by
  obtain ⟨x, H1, J, rx, a, C, d, fs, v, rfl, ea, ed, T, no, lf, q⟩ := hh
  obtain ⟨m, hm, rel⟩ := exd_at J.hok ed
  obtain ⟨od, at_, look⟩ := lookIn_ns hm
  obtain ⟨y, hy, ry⟩ := RelO.some_of (v := v) (o := m n) (lf ▸ rel n)
  obtain ⟨_, ho⟩ := exo_at J.hok ea
  have rx : u = Value.ref a := rx
  subst rx
  have own : PySem.W.InstAt s1.heap a _ C (some od) := ⟨ho, rfl, rfl, at_⟩
  exact HandSPX.exc_get J.kIn own T.ga T.gg T.exC (PySem.W.findObj_own T.hdC no rfl ((look n).trans (by rw [hy]))) (handed_of ry) ⟨v, H1, J.tok _, ry, q⟩)⟩
end L2

namespace L2
open PySem PySem.Spec PyProof.Rows
/-- an exception that is a value: of the class D -/
def IsX (H : Hp) (a D : Addr) : Prop := H a = some (exo a D none) ∨ ∃ d fs, H a = some (exo a D (some d)) ∧ H d = some (exd d fs)
def rIsX (K : PySem.W.Frag) : List V → Hp → VK → Prop := fun xs H Q => ∃ (a D : Addr) (c : V) (cv : Value) (b : Bool), xs = [.ref a, c] ∧ IsX H a D ∧ ExcC K D ∧ (∀ u, RelV c u → u = cv) ∧ PySem.W.kitOne K (.ref D) cv = some b ∧ Q (.bl b) H
theorem ExcC.kit {K : PySem.W.Frag} {D x : Addr} {ox : Obj} {od : Option Obj} (C : ExcC K D) : PySem.W.KitX K (.ref x) (.ref D) fun h => PySem.W.InstAt h x ox D od := by
  obtain ⟨cd, hc, _⟩ := PySem.W.any_some C.hd
  exact PySem.W.kitx_exc (by rw [hc]; rfl) C.hg C.hk C.hs C.ha C.hn C.ht C.hm
/-- such an exception stands in memory as an instance of its class -/
theorem IsX.inst {P : Program} {w : World} {H : Hp} {h : Heap} {a D : Addr} (k : HOk P w H h) (x : IsX H a D) : ∃ ox od, PySem.W.InstAt h a ox D od := by
  rcases x with x | ⟨d, fs, x, y⟩
  · obtain ⟨_, e⟩ := exo_at k x
    exact ⟨_, none, e, rfl, rfl, trivial⟩
  · obtain ⟨_, e⟩ := exo_at k x
    obtain ⟨m, n, _⟩ := exd_at k y
    obtain ⟨od, z, _⟩ := lookIn_ns n
    exact ⟨_, some od, e, rfl, rfl, z⟩
theorem call_isX {X : Cx} : CallR X (.builtin "isinstance") (rIsX X.K) := fun pins s σ H xs us Q I rel ⟨a, D, c, cv, b, ex, x, C, one, ans, q⟩ => by
  subst ex
  obtain ⟨u, v, rfl, ru, rv⟩ := vals2 rel
  have ru : u = Value.ref a := ru
  have ev := one v rv
  subst ru ev
  obtain ⟨ox, od, J⟩ := x.inst I.hok
  exact PySem.W.kia_one C.kit I.kIn J ans (fun z => nomatch z) fun tt => ⟨.bl b, H, I.kept (t' := tt) fun _ _ z => z, rfl, q⟩
/-- C(), no __init__ of its own -/
def tMk0 (C : Addr) : TE := fun σ H Q => ∀ a, H a = none → Q (.ref a) (upd H a (exo a C none))
theorem pe_mk0 {X : Cx} {C : Addr} {bmB : List Value} {B newId initId : String} {x : Str} {p pos : Pos} (F : ExcBaseFacts B newId initId bmB) (q : PySem.W.excIn X.K C bmB newId = true) (gC : X.mg x = some (.ref C)) (kC : PySem.W.keepIn X.K (.ref C) = true) (hg : Gl X x)
    (dbg : (x == ("__debug__" : Str)) = false := by decide) : PE X (.Call (.Name x p) [] [] pos) (tMk0 C) := ⟨fun pins s σ H Q I h => by
  refine wpAny_Call_Name_kw (ld_glob I hg gC (PySem.W.callWith_K0 I.kIn kC ?_) dbg)
  obtain ⟨bm, N, nm, qn, bs, dct, sn, sub, ab, col, dd, a0, a1, a2, a3, a5, mN, c1, c2, c3, T⟩ := exc_obj I.kIn q
  obtain ⟨hp, gs, dr, t, os⟩ := s
  refine wpAny_call_exc_subT F T c1 c2 c3 (fun h' e m => ?_) (Nat.zero_le sizeLine)
  have free : H e = none := I.hok.gone m.new
  obtain ⟨_, here, _, _⟩ := m.there
  exact ⟨.ref e, _, I.laidN (t' := t) m.keeps m.new free (exo_ok here), rfl, h e free⟩⟩
end L2

namespace LamV
open PySem PySem.Spec PyProof.Rows L2 LamX NdefX
/-- the words of a lambda that captures nothing -/
structure LF where
  qual : Str
  params : Arguments
  body : Expr
  scope : Scope
/-- the object at f is the lambda F with the code object c -/
def LamO (f c : Addr) (F : LF) : HO := .ext fun h => ∃ (pm ctv : Value), h.get? f = some (PySem.W.kla_obj "<lambda>" F.qual F.params F.body F.scope [] pm c ctv)
theorem lamO_at {P : Program} {w : World} {H : Hp} {h : Heap} {f c : Addr} {F : LF} (hok : HOk P w H h) (e : H f = some (LamO f c F)) : ∃ (pm ctv : Value), h.get? f = some (PySem.W.kla_obj "<lambda>" F.qual F.params F.body F.scope [] pm c ctv) := by
  obtain ⟨z, _, _⟩ := hok f _ e
  exact z
def IsLam (H : Hp) (f : Addr) (F : LF) : Prop := ∃ c, H f = some (LamO f c F) ∧ H c = some (CodeO c F.qual)
section
variable {X : Cx} {pins : List (Addr × Obj)} {σ : L2.St} {H : Hp} {s : Shared}
theorem clo_none {cells : List (Str × Addr)} {names : List (Str × NameKind)} (h : ∀ y ∈ names, y.2 ≠ .free) : cloFrom cells names [] = [] := by
  cases e : cloFrom cells names [] with
  | nil => rfl
  | cons p l =>
    have m : (p.1, p.2) ∈ cloFrom cells names [] := e ▸ List.mem_cons_self
    rcases cloFrom_mem m with z | ⟨z, _⟩
    · exact nomatch z
    · exact (h _ z rfl).elim
/-- the abstract heap with one more code object c in the table P -/
noncomputable abbrev more (H : Hp) (P : Addr) (ps : Array Value) (pos : Pos) (c : Addr) (q : Str) : Hp := upd (upd H P (.tbl (ps ++ #[rawInt pos.line, rawInt pos.col, .ref c]))) c (CodeO c q)
theorem more_ext {P c : Addr} {ps : Array Value} {pos : Pos} {q : Str} (hP : H P = some (.tbl ps)) (free : H c = none) : ExtN H (more H P ps pos c q) := by
  intro b o e n
  have ne : b ≠ P := by
    rintro rfl
    exact n ps (Option.some.inj (e.symm.trans hP))
  exact (upd_ne (ne_of_none e free)).trans ((upd_ne ne).trans e)
theorem more_tabs {T : List (Addr × Str)} {P c : Addr} {ps : Array Value} {pos : Pos} {q : Str} (t : Tabs T H) (only : ∀ p ∈ T, p.1 = P → p.2 = q) (hP : H P = some (.tbl ps)) (free : H c = none) : Tabs T (more H P ps pos c q) := by
  have ext := more_ext (pos := pos) (q := q) hP free
  rintro ⟨A, r⟩ m
  obtain ⟨rs, e, ok, tells⟩ := t _ m
  by_cases z : A = P
  · subst z
    cases e.symm.trans hP
    have eq : r = q := only _ m rfl
    subst eq
    have l : (ps ++ #[rawInt pos.line, rawInt pos.col, .ref c]).toList = ps.toList ++ [rawInt pos.line, rawInt pos.col, .ref c] := by rw [Array.toList_append]
    refine ⟨_, (upd_ne (ne_of_none hP free)).trans upd_same, l ▸ TriplesOk_snoc _ _ _ _ ok, fun p' cv y => ?_⟩
    rw [l] at y
    rcases among_app _ ok y with y | y
    · obtain ⟨d, d1, d2⟩ := tells p' cv y
      exact ⟨d, d1, ext _ _ d2 codeO_ne⟩
    · exact ⟨c, y, upd_same⟩
  · refine ⟨rs, (upd_ne (ne_of_none e free)).trans ((upd_ne z).trans e), ok, fun p' cv y => ?_⟩
    obtain ⟨d, d1, d2⟩ := tells p' cv y
    exact ⟨d, d1, ext _ _ d2 codeO_ne⟩
/-- the function object is laid down -/
theorem lam_laid {F : LF} {c : Addr} {tk : Nat} {pm ctv : Value} {H0 : Hp} {T : List (Addr × Str)} (J : Inv X pins σ H s) (ext : ExtN H0 H) (t : Tabs T H) (hc : H c = some (CodeO c F.qual)) :
    ∃ H1, Inv X pins σ H1 { s with heap := s.heap.push (PySem.W.kla_obj "<lambda>" F.qual F.params F.body F.scope [] pm c ctv), toks := tk } ∧ ExtN H0 H1 ∧ Tabs T H1 ∧ IsLam H1 s.heap.objs.size F := by
  have free : H s.heap.objs.size = none := J.hok.fresh (Nat.le_refl _)
  have at_ : (s.heap.push (PySem.W.kla_obj "<lambda>" F.qual F.params F.body F.scope [] pm c ctv)).get? s.heap.objs.size = some _ := Heap.get?_push_size s.heap rfl
  have keep : ∀ b o, H b = some o → upd H s.heap.objs.size (LamO s.heap.objs.size c F) b = some o := fun b o e => (upd_ne (ne_of_none e free)).trans e
  refine ⟨upd H s.heap.objs.size (LamO s.heap.objs.size c F), J.laid (fun b u e => Heap.get?_push_of_some _ e) (Nat.le_refl _) ⟨⟨pm, ctv, at_⟩, ⟨_, at_⟩, ?_⟩, fun b o e n => keep b o (ext b o e n), t.ext keep, c, upd_same, keep _ _ hc⟩
  rintro _ _ ⟨p, u, z⟩ st
  exact ⟨p, u, st _ z⟩
theorem lam_makeV {T : List (Addr × Str)} {c P : Addr} {params : Arguments} {body : Expr} {scope : Scope} {pos : Pos} {E : Value → Shared → Prop} {Q : Value → Shared → Prop} (I : Inv X pins σ H s) (TB : TabB X.base X.mg c P) (own : X.env.code = .ref c)
    (hm : (P, X.env.qual ++ "<lambda>") ∈ T) (only : ∀ p ∈ T, p.1 = P → p.2 = X.env.qual ++ "<lambda>") (t : Tabs T H) (hdef : defaultsOf params X.env = ([], [])) (hfree : ∀ y ∈ scope.names, y.2 ≠ .free)
    (h : ∀ (f : Addr) (H1 : Hp) (s' : Shared), Inv X pins σ H1 s' → ExtN H H1 → Tabs T H1 → H f = none → IsLam H1 f ⟨X.env.qual ++ "<lambda>", params, body, scope⟩ → Q (.ref f) s') :
    wpAny (model X.prog X.w) X.A (eval (.Lambda params body scope pos) X.env) Q E s := by
  obtain ⟨ps, eP, ok, tells⟩ := t _ hm
  have clo : closureFor scope X.env = pure [] := (closure_ok (scope := scope) (env := X.env) fun y m z => (hfree y m z).elim).trans (congrArg pure (clo_none hfree))
  have glob := I.mod.glob.keeps I.bk
  have code := TB.code.keeps I.bk
  have rows : s.heap.get? P = some { cls := .none, data := .fields ps } := I.hok P _ eP
  refine PySem.W.kla_eval hdef ?_
  cases am : codeAmong pos ps.toList with
  | some cv =>
    obtain ⟨d, rfl, d2⟩ := tells pos cv am
    refine PySem.W.kla_makeFunctionHit (mg := X.mg) (c := c) (P := P) (ps := ps) clo I.ok.glob glob own code rows ok am (TB.bm.keeps I.bk) fun ctv h' tk keep _ => ?_
    have J : Inv X pins σ H { s with heap := h', toks := tk } := I.kept keep
    obtain ⟨H1, J1, e1, t1, l1⟩ := lam_laid (F := ⟨X.env.qual ++ "<lambda>", params, body, scope⟩) (tk := tk) (pm := (X.mg "__name__").getD .none) (ctv := ctv) J (ExtN.refl H) t d2
    exact h _ H1 _ J1 e1 t1 (J.hok.fresh (Nat.le_refl _)) l1
  | none =>
    refine PySem.W.kla_makeFunction (mg := X.mg) (c := c) (P := P) (ps := ps) clo I.ok.glob glob own code rows ok am TB.gP (TB.bm.keeps I.bk) fun d ctv h' tk keep ge lt rec grew => ?_
    obtain ⟨d', oc, vs, tok, ed, r1, r2, r3⟩ := rec
    cases ed
    have free : H d = none := I.hok.fresh ge
    have J := inv_table (t' := tk) (more := #[rawInt pos.line, rawInt pos.col, .ref d]) I eP (fun b o n e => keep b o n e) grew ge ⟨oc, vs, tok, r1, r2, r3⟩
    obtain ⟨H1, J1, e1, t1, l1⟩ := lam_laid (F := ⟨X.env.qual ++ "<lambda>", params, body, scope⟩) (tk := tk) (pm := (X.mg "__name__").getD .none) (ctv := ctv) J (more_ext eP free) (more_tabs t only eP free) upd_same
    exact h _ H1 _ J1 e1 t1 (I.hok.fresh (Nat.le_trans ge (Nat.le_of_lt lt))) l1
end
/-- the reading of a lambda as a value -/
def tLamV (T : List (Addr × Str)) (F : LF) : TE := fun σ H Q => Tabs T H ∧ ∀ (f : Addr) (H1 : Hp), ExtN H H1 → Tabs T H1 → H f = none → IsLam H1 f F → Q (.ref f) H1
theorem pe_lamV {X : Cx} {T : List (Addr × Str)} {c P : Addr} {params : Arguments} {body : Expr} {scope : Scope} {pos : Pos} {q : Str} (TB : TabB X.base X.mg c P) (hcode : X.env.code = .ref c) (hq : X.env.qual ++ "<lambda>" = q)
    (hm : (P, q) ∈ T) (hu : ∀ p ∈ T, p.1 = P → p.2 = q) (hdef : defaultsOf params X.env = ([], [])) (hfree : ∀ y ∈ scope.names, y.2 ≠ .free) : PE X (.Lambda params body scope pos) (tLamV T ⟨q, params, body, scope⟩) := by
  subst hq
  refine ⟨fun pins s σ H Q I h => ?_⟩
  obtain ⟨hT, h⟩ := h
  exact lam_makeV I TB hcode hm hu hT hdef hfree fun f H1 s' I1 e1 e2 e3 e4 => ⟨.ref f, H1, I1, rfl, h f H1 e1 e2 e3 e4⟩
/-! ### its promise -/
structure LOk (P : Program) (w : World) (K : PySem.W.Frag) (mg : Str → Option Value) (base : Heap) (CX : CXT) (k : Nat) (F : LF) (sp : Sp) : Prop where
  run : ∀ (f : Addr) (A : Around) (outer : List Env) (s : Shared) (H : Hp) (us : List Value) (vs : List V) (Q : VK) (E : XK), Room k A → Env0 P w K mg base A outer s H → IsLam H f F → Vals vs us → sp vs H Q E →
    codeAny (model P w) A (.call (.ref f) ⟨us, []⟩) (CR CX outer P w H s Q E) s
abbrev nfOf (F : LF) (c : Addr) : NF := ⟨"<lambda>", F.qual, F.params, [], F.scope, [], c⟩
theorem lok_of {CX : CXT} {P : Program} {w : World} {K : PySem.W.Frag} {mg : Str → Option Value} {base : Heap} {ps : List Str} {F : LF} {k : Nat} {sp : Sp} (S : NScope ps ps [] F.scope)
    (bind : ∀ (pm cv ctv : Value) (us : List Value), us.length = ps.length → bindArgs (PySem.W.kla_fn "<lambda>" F.qual F.params F.body F.scope [] pm cv ctv) ⟨us, []⟩ = pure (ps.zip us)) (len : ∀ vs H Q E, sp vs H Q E → vs.length = ps.length)
    (hbody : ∀ (f c : Addr) (A : Around) (outer : List Env) (s : Shared) (H : Hp) (vs : List V) (Q : VK) (E : XK), Room k (A.deeper (envF (nfOf F c) f s.heap.objs.size)) → sp vs H Q E →
      ∃ t, PE (ncx CX P w K mg base ps (nfOf F c) f A outer s H E) F.body t ∧ t (startF ps vs []) H Q) : LOk P w K mg base CX (k + 1) F sp := ⟨fun f A outer s H us vs Q E room e0 ⟨c, isF, isC⟩ rel want => by
  have many := len _ _ _ _ want
  obtain ⟨pm, ctv, obj⟩ := lamO_at e0.hok isF
  obtain ⟨t, pe, rd⟩ := hbody f c A outer s H vs Q E (room.deeper _) want
  have nl : s.heap.NoLimit := e0.mod.nolimit.keeps fun b o z => (e0.bs b o z).1
  have cells : CellsAt (nfOf F c).cl [] [] s.heap H := ⟨rfl, fun _ _ z => (nomatch (show (none : Option Addr) = some _ from z)), fun _ _ _ z => (nomatch (show (none : Option Addr) = some _ from z)), fun _ _ z => by simp at z⟩
  refine PySem.W.kla_callFunE room.depth obj rfl S.co S.gen rfl (codeO_at e0.hok isC) ?_
  rw [bind pm (.ref c) ctv us (rel.length.symm.trans many)]
  refine wpAny_pure (wpAny_newFunctionEnv S.nocell (fun y m => S.par y.1 (List.of_mem_zip m).1) (fun g space but => ⟨nl.fresh _ but, ?_⟩) S.kind)
  have J : Inv (ncx CX P w K mg base ps (nfOf F c) f A outer s H E) [] (startF ps vs []) H { s with heap := g, toks := s.toks + (ps.zip us).length } :=
    inv_startN S room.hd e0 many rel cells space fun b o z => but.extBut b o (Nat.ne_of_lt (Heap.lt_size z)) (Heap.get?_push_of_some _ z)
  show codeAny (model P w) _ (.expr F.body _) _ _
  refine PySem.W.kla_codeExpr (wpAny_mono (pe.run [] _ _ H Q J rd) ?_ fun _ _ z => z)
  rintro v s' ⟨x, H', L, rx, q⟩
  exact ⟨x, H', L.os, L.bare, L.base, L.hok, rx, q⟩⟩
/-! ### a call of a name that holds a lambda -/
def tLCall (i : Nat) (LK : LF → Sp → Prop) (E : XK) (ta : TA) : TE := fun σ H Q => ∃ (f : Addr) (F : LF) (sp : Sp), σ[i]? = some (some (.ref f)) ∧ IsLam H f F ∧ LK F sp ∧ ta σ H fun vs H1 => IsLam H1 f F ∧ sp vs H1 Q E
theorem IsLam.fn {X : Cx} {pins : List (Addr × Obj)} {σ : L2.St} {H : Hp} {s : Shared} {f : Addr} {F : LF} (l : IsLam H f F) (J : Inv X pins σ H s) : PySem.W.FnAt f s.heap := by
  obtain ⟨c, isF, _⟩ := l
  obtain ⟨pm, ctv, z⟩ := lamO_at J.hok isF
  exact ⟨_, _, _, _, z⟩
theorem pe_lcall {X : Cx} {CX : CXT} {k i : Nat} {x : Str} {e : Expr} {es : List Expr} {ta : TA} {p pos : Pos} {LK : LF → Sp → Prop} {E : XK} (hL : ∀ F sp, LK F sp → LOk X.prog X.w X.K X.mg X.base CX k F sp) (hr : Room k X.A) (hx : Passes CX X E)
    (hN : X.N[i]? = some x) (hv : Vis X.env.scope x) (ha : PA X (e :: es) ta) (hd : (x == ("__debug__" : Str)) = false := by decide) (hcd : (x == ("__classdict__" : Str)) = false := by decide)
    (stars : starEach (e :: es) X.env = (false, eval e X.env) :: starEach es X.env := by rfl) (plain : (backTo pos (starEach es X.env)).any (·.1) = false := by rfl) :
    PE X (.Call (.Name x p) (e :: es) [] pos) (tLCall i LK E ta) := ⟨fun pins s σ H Q I ⟨f, F, sp, at_, lam, ok, h⟩ => by
  refine wpAny_Call_Name_kw (thn ((pe_var (pos := p) (i := i) hN hv hd hcd).run pins s σ H (fun v H1 => v = .ref f ∧ H1 = H) I ⟨.ref f, at_, rfl, rfl⟩) ?_)
  rintro u s1 ⟨v, H1, J, ru, ev, eH⟩
  rw [ev] at ru
  rw [eH] at J
  have ru : u = Value.ref f := ru
  subst ru
  refine PySem.W.callWith_F (lam.fn J) (thn (ha.run pos pins s1 σ H _ J h) ?_) stars plain
  rintro us s2 ⟨vs, H2, L, rel, lam2, want⟩
  refine ⟨lam2.fn L, wpAny_call (codeAny_mono ((hL F sp ok).run f X.A X.stack s2 H2 us vs Q E hr L.env0 lam2 rel want) fun r s' z => ?_)⟩
  match r, z with
  | .error y, z => exact hx pins σ H2 s2 y s' L z
  | .ok (.ret y), z => exact L.after z
  | .ok .next, z => exact z.elim
  | .ok .brk, z => exact z.elim
  | .ok .cont, z => exact z.elim⟩
end LamV

namespace L2
open PySem PySem.Spec PyProof.Rows
def keyD : Key → PyData
  | .inl i => .int i
  | .inr x => .str x
/-- the value v, read through H, is the datum d; nesting below n -/
def RdD (H : Hp) : Nat → V → PyData → Prop
  | 0 => fun _ _ => False
  | n + 1 => fun v d => match d with
    | .none => v = .non
    | .bool b => v = .bl b
    | .int i => v = .int i
    | .str x => v = .str x
    | .list xs => ∃ a ys, v = .ref a ∧ H a = some (.lst ys) ∧ Paired (RdD H n) ys xs
    | .tuple xs => ∃ a ys, v = .ref a ∧ H a = some (.tup ys) ∧ Paired (RdD H n) ys xs
    | .dict kvs => ∃ a ks, v = .ref a ∧ H a = some (.dK ks) ∧ Paired (fun (p : Key × V) (q : PyData × PyData) => q.1 = keyD p.1 ∧ RdD H n p.2 q.2) ks kvs
theorem RdD.ext {H H' : Hp} (e : ∀ b o, H b = some o → (∃ xs, o = .lst xs) ∨ (∃ xs, o = .tup xs) ∨ (∃ xs, o = .dK xs) → H' b = some o) : ∀ {n : Nat} {v : V} {d : PyData}, RdD H n v d → RdD H' n v d
  | 0, _, _, h => h.elim
  | n + 1, v, d, h => by
    cases d with
    | none => exact h
    | bool b => exact h
    | int i => exact h
    | str x => exact h
    | list xs =>
      obtain ⟨a, ys, h1, h2, h3⟩ := h
      exact ⟨a, ys, h1, e _ _ h2 (.inl ⟨_, rfl⟩), Paired.mapP h3 fun _ _ z => RdD.ext e z⟩
    | tuple xs =>
      obtain ⟨a, ys, h1, h2, h3⟩ := h
      exact ⟨a, ys, h1, e _ _ h2 (.inr (.inl ⟨_, rfl⟩)), Paired.mapP h3 fun _ _ z => RdD.ext e z⟩
    | dict kvs =>
      obtain ⟨a, ys, h1, h2, h3⟩ := h
      exact ⟨a, ys, h1, e _ _ h2 (.inr (.inr ⟨_, rfl⟩)), Paired.mapP h3 fun _ _ z => ⟨z.1, RdD.ext e z.2⟩⟩
section
variable {P : Program} {w : World} {H : Hp} {h : Heap}
theorem reads_all {F : V → PyData → Prop} (ih : ∀ v d u, F v d → RelV v u → ∃ as, Reads h u d as ∧ sysModules ∉ as) : ∀ {ys : List V} {xs : List PyData} {us : List Value}, Paired F ys xs → Vals ys us → ∃ as, ReadsAll h us xs as ∧ sysModules ∉ as
  | _, _, _, .nil, .nil => ⟨[], .nil, by simp⟩
  | _, _, _, .cons f t, .cons r q => by
    obtain ⟨a1, r1, n1⟩ := ih _ _ _ f r
    obtain ⟨a2, r2, n2⟩ := reads_all ih t q
    exact ⟨a1 ++ a2, .cons r1 r2, fun z => (List.mem_append.mp z).elim n1 n2⟩
theorem reads_keys {F : V → PyData → Prop} : ∀ {ks : List (Key × V)} {vs : List (Key × Value)} {es : List DictEntry} {kvs : List (PyData × PyData)}, KV ks vs → Pairs (mixKind P w) es vs → Paired (fun (p : Key × V) (q : PyData × PyData) => q.1 = keyD p.1 ∧ F p.2 q.2) ks kvs →
    ReadsAll h (es.map (·.key)) (kvs.map (·.1)) [] ∧ Vals (ks.map (·.2)) (es.map (·.val)) ∧ Paired F (ks.map (·.2)) (kvs.map (·.2))
  | _, _, _, _, .nil, .nil, .nil => ⟨.nil, .nil, .nil⟩
  | _, _, _, _, .cons (a := p) (b := q) r t, .cons (e := e) h1 h2 t2, .cons (b := z) f t3 => by
    obtain ⟨i1, i2, i3⟩ := reads_keys t t2 t3
    obtain ⟨r1, r2⟩ := r
    obtain ⟨f1, f2⟩ := f
    have hk : Reads h e.key z.1 [] := by
      rw [f1, r1]
      have h1' : keyIs q.1 e.key = true := h1
      rcases keyIs_shape h1' with ⟨i, t, e1, e2⟩ | ⟨x, t, e1, e2⟩
      · rw [e1, e2]; exact .int i t
      · rw [e1, e2]; exact .str x t
    refine ⟨.cons (as := []) (bs := []) hk i1, .cons ?_ i2, .cons f2 i3⟩
    show RelV p.2 e.val
    rw [h2]; exact r2
theorem rdD_reads (hok : HOk P w H h) (hs : H sysModules = none) : ∀ (n : Nat) (v : V) (d : PyData) (u : Value), RdD H n v d → RelV v u → ∃ as, Reads h u d as ∧ sysModules ∉ as
  | 0, _, _, _, r, _ => r.elim
  | n + 1, v, d, u, r, rv => by
    have ne : ∀ {a : Addr} {o : HO}, H a = some o → sysModules ≠ a := fun {a o} e z => by
      rw [← z, hs] at e
      cases e
    cases d with
    | none =>
      have r' : v = .non := r
      subst r'
      obtain rfl : u = Value.none := rv
      exact ⟨[], .none, by simp⟩
    | bool b =>
      have r' : v = .bl b := r
      subst r'
      obtain rfl : u = Value.bool b := rv
      exact ⟨[], .bool b, by simp⟩
    | int i =>
      have r' : v = .int i := r
      subst r'
      obtain ⟨t, rfl⟩ := rv
      exact ⟨[], .int i t, by simp⟩
    | str x =>
      have r' : v = .str x := r
      subst r'
      obtain ⟨t, rfl⟩ := rv
      exact ⟨[], .str x t, by simp⟩
    | list xs =>
      obtain ⟨a, ys, rfl, h2, h3⟩ := r
      obtain rfl : u = Value.ref a := rv
      obtain ⟨_, its, m, rr, e⟩ := hok a _ h2
      obtain ⟨as, q1, q2⟩ := reads_all (fun v d u => rdD_reads hok hs n v d u) h3 rr
      exact ⟨a :: as, .list e rfl rfl (by simpa using q1), fun z => (List.mem_cons.mp z).elim (ne h2) q2⟩
    | tuple xs =>
      obtain ⟨a, ys, rfl, h2, h3⟩ := r
      obtain rfl : u = Value.ref a := rv
      obtain ⟨_, its, rr, o, e, ec, m, ed⟩ := hok a _ h2
      obtain ⟨as, q1, q2⟩ := reads_all (fun v d u => rdD_reads hok hs n v d u) h3 rr
      exact ⟨as, .tuple e ec ed (by simpa using q1), q2⟩
    | dict kvs =>
      obtain ⟨a, ks, rfl, h2, h3⟩ := r
      obtain rfl : u = Value.ref a := rv
      obtain ⟨_, _, vs, rr, o, es, ep, e, ex, ed, _, pr, _⟩ := hok a _ h2
      obtain ⟨k1, k2, k3⟩ := reads_keys (h := h) rr pr h3
      obtain ⟨as, q1, q2⟩ := reads_all (fun v d u => rdD_reads hok hs n v d u) k3 k2
      exact ⟨a :: [] ++ as, .dict e ex.1 ed k1 q1, fun z => (List.mem_cons.mp z).elim (ne h2) q2⟩
end
/-- repr of a list, tuple, dict -/
def rRepr : List V → Hp → VK → Prop := fun xs H Q => ∃ (a : Addr) (n : Nat) (d : PyData), xs = [.ref a] ∧ RdD H n (.ref a) d ∧ d.showable = true ∧ d.depth ≤ 40 ∧ d.shown.length ≤ sizeLine ∧ Q (.str d.shown) H
theorem call_reprD {X : Cx} (hG : X.A.guards = some []) (hu : X.A.units + 64 < cLine) (hS : (X.K.lookup sysModules).isSome = true) : CallR X (.builtin "repr") rRepr := by
  intro pins s σ H xs us Q I r h
  obtain ⟨a, n, d, rfl, hd, hs, hdp, hsz, q⟩ := h
  obtain ⟨u1, rfl, r1⟩ := vals1 r
  obtain rfl : u1 = Value.ref a := r1
  obtain ⟨o, ho⟩ := Option.isSome_iff_exists.mp hS
  have hn : H sysModules = none := (I.bs _ _ (I.ok.mod.kin _ _ ho)).2
  obtain ⟨as, hr, hm⟩ := rdD_reads I.hok hn n (.ref a) d (.ref a) hd rfl
  exact repr_of_reads' hr hs (fun _ => hm) hG (by omega) (fun _ _ z => z) (fun h' u tk hk => ⟨.str d.shown, H, I.kept (t' := tk) hk, ⟨u, rfl⟩, q⟩) hsz
end L2

/-! the law's call, asked at the caller's own surroundings: what is tracked at its begin, and what its end leaves -/
namespace LamX
open PySem PySem.Spec PyProof.Rows L2
abbrev noRows : Obj := { cls := .none, data := .fields #[] }
abbrev scrO (us : List Value) : Obj := { cls := .type "list", data := .seq us.toArray }
/-- the begin: the script at a; ts: code objects with their tables, which are empty -/
structure Beg (K : PySem.W.Frag) (mg mb : Str → Option Value) (ts : List (Addr × Addr)) (s : Shared) (a : Addr) (us : List Value) (ns : List Int) : Prop where
  frag : K.In s.heap
  glob : s.heap.Ns mainGlobals mg
  blt : s.heap.Ns builtinsNs mb
  bltW : ∀ x : Str, x ≠ "__name__" → mb x = bootBuiltins x
  lim : s.heap.NoLimit
  gens : s.gens = #[]
  rows : ∀ p, p ∈ ts → s.heap.get? p.2 = some noRows
  out : ∀ p, p ∈ ts → K.lookup p.2 = none
  code : ∀ p, p ∈ ts → PySem.W.CodeHd s.heap p.1 p.2
  bmod : ∃ (m : Addr) (o : Obj), mg "__builtins__" = some (.ref m) ∧ m ≠ builtinsNs ∧ s.heap.get? m = some o ∧ o.cls = .type "module" ∧ o.dict = some builtinsNs ∧ o.data = .plain
  scr : s.heap.get? a = some (scrO us)
  nums : IntsAre us ns
  few : ns.length ≤ sizeLine
/-- what is tracked at the begin -/
noncomputable def begH (K : PySem.W.Frag) (ts : List (Addr × Addr)) (a : Addr) (us : List Value) (ns : List Int) : Hp := fun b =>
  match decide (b ∈ ts.map Prod.snd), decide (b = a), K.lookup a with
  | true, _, _ => some (.tbl #[])
  | false, true, none => some (.frz (scrO us) (.lst (ns.map V.int)))
  | false, true, some _ => none
  | false, false, _ => none
section
variable {K : PySem.W.Frag} {mg mb : Str → Option Value} {ts : List (Addr × Addr)} {s : Shared} {a : Addr} {us : List Value} {ns : List Int}
theorem begH_ways (b : Addr) : (b ∈ ts.map Prod.snd ∧ begH K ts a us ns b = some (.tbl #[])) ∨ (b ∉ ts.map Prod.snd ∧ b = a ∧ K.lookup a = none ∧ begH K ts a us ns b = some (.frz (scrO us) (.lst (ns.map V.int)))) ∨
    (b ∉ ts.map Prod.snd ∧ begH K ts a us ns b = none ∧ (b = a → K.lookup a ≠ none)) := by
  unfold begH
  by_cases m : b ∈ ts.map Prod.snd
  · exact .inl ⟨m, by rw [decide_eq_true m]⟩
  · rw [decide_eq_false m]
    by_cases q : b = a
    · rw [decide_eq_true q]
      cases k : K.lookup a with
      | none => exact .inr (.inl ⟨m, q, rfl, rfl⟩)
      | some o => exact .inr (.inr ⟨m, rfl, fun _ z => by cases z⟩)
    · rw [decide_eq_false q]
      exact .inr (.inr ⟨m, rfl, fun z => absurd z q⟩)
theorem snd_mem {p : Addr × Addr} (h : p ∈ ts) : p.2 ∈ ts.map Prod.snd := List.mem_map_of_mem h
theorem begH_tab {p : Addr × Addr} (h : p ∈ ts) : begH K ts a us ns p.2 = some (.tbl #[]) := by
  unfold begH
  rw [decide_eq_true (snd_mem h)]
namespace Beg
variable (B : Beg K mg mb ts s a us ns)
include B
theorem at_tab {b : Addr} (h : b ∈ ts.map Prod.snd) : s.heap.get? b = some noRows := by
  obtain ⟨p, m, rfl⟩ := List.mem_map.mp h
  exact B.rows p m
theorem no_tab : a ∉ ts.map Prod.snd := fun z => by
  have q := (B.at_tab z).symm.trans B.scr
  cases q
/-- neither a list nor a table without rows: it is not tracked -/
theorem loose {b : Addr} {o : Obj} (e : s.heap.get? b = some o) (h : match o.data with
    | .seq _ _ => False
    | .fields vs => vs ≠ #[]
    | _ => True) : begH K ts a us ns b = none := by
  rcases begH_ways (K := K) (ts := ts) (a := a) (us := us) (ns := ns) b with ⟨m, _⟩ | ⟨_, q, _, _⟩ | ⟨_, z, _⟩
  · cases (B.at_tab m).symm.trans e
    exact absurd rfl h
  · subst q
    cases B.scr.symm.trans e
    exact h.elim
  · exact z
noncomputable abbrev base (_ : Beg K mg mb ts s a us ns) : Heap := hidT s.heap (begH K ts a us ns)
theorem seen {b : Addr} {o : Obj} (e : s.heap.get? b = some o) (h : match o.data with
    | .seq _ _ => False
    | .fields vs => vs ≠ #[]
    | _ => True) : B.base.get? b = some o := hidT_get e (B.loose e h)
theorem space {b : Addr} {m : Str → Option Value} (z : s.heap.Ns b m) : B.base.Ns b m := by
  obtain ⟨o, es, ep, e, d, r⟩ := z
  exact ⟨o, es, ep, B.seen e (by rw [d]; trivial), d, r⟩
theorem kin : K.In B.base := fun b o e => by
  refine hidT_get (B.frag b o e) ?_
  rcases begH_ways (K := K) (ts := ts) (a := a) (us := us) (ns := ns) b with ⟨m, _⟩ | ⟨_, q, k, _⟩ | ⟨_, z, _⟩
  · obtain ⟨p, hp, rfl⟩ := List.mem_map.mp m
    rw [B.out p hp] at e
    cases e
  · rw [q, k] at e
    cases e
  · exact z
theorem module_ : L2.Mod K mg B.base where
  kin := B.kin
  glob := B.space B.glob
  blt := ⟨mb, B.space B.blt, B.bltW⟩
  nolimit := by
    obtain ⟨mc, z, q⟩ := B.lim
    exact ⟨mc, B.space z, q⟩
theorem table {p : Addr × Addr} (hp : p ∈ ts) : TabB B.base mg p.1 p.2 where
  code := by
    obtain ⟨o, vs, c1, c2, c3, c4, c5, c6, c7, e, d1, d2, d3, d4⟩ := B.code p hp
    refine ⟨o, vs, c1, c2, c3, c4, c5, c6, c7, B.seen e ?_, d1, d2, d3, d4⟩
    rw [d2]
    intro z
    rw [z] at d3
    cases d3
  bm := by
    obtain ⟨m, o, e1, e2, e3, e4, e5, e6⟩ := B.bmod
    refine ⟨m, o, e1, e2, fun z => ?_, fun z => ?_, B.seen e3 (by rw [e6]; trivial), e4, e5, e6⟩
    · obtain ⟨u, es, ep, g1, g2, _⟩ := B.glob
      rw [z, g1] at e3
      rw [Option.some.inj e3, e6] at g2
      cases g2
    · rw [z, B.rows p hp] at e3
      rw [← Option.some.inj e3] at e6
      cases e6
  gP := fun z => by
    obtain ⟨u, es, ep, g1, g2, _⟩ := B.glob
    rw [z, B.rows p hp] at g1
    rw [← Option.some.inj g1] at g2
    cases g2
theorem fine {P : Program} {w : World} : HOk P w (begH K ts a us ns) s.heap := fun b o e => by
  rcases begH_ways (K := K) (ts := ts) (a := a) (us := us) (ns := ns) b with ⟨m, q⟩ | ⟨_, q1, _, q⟩ | ⟨_, q, _⟩
  · cases q.symm.trans e
    exact B.at_tab m
  · cases q.symm.trans e
    subst q1
    exact ⟨B.scr, by rw [List.length_map]; exact B.few, us, _, vals_ints B.nums, B.scr⟩
  · cases q.symm.trans e
theorem script : SqL K (begH K ts a us ns) a (ns.map V.int) := by
  rcases begH_ways (K := K) (ts := ts) (a := a) (us := us) (ns := ns) a with ⟨m, _⟩ | ⟨_, _, _, q⟩ | ⟨_, _, q⟩
  · exact absurd m B.no_tab
  · exact .inl (.inr ⟨_, q⟩)
  · cases k : K.lookup a with
    | none => exact absurd k (q rfl)
    | some o =>
      cases (B.frag a o k).symm.trans B.scr
      exact .inr ⟨_, us.toArray, _, k, rfl, rfl, rfl, by rw [List.size_toArray, B.nums.length]; exact B.few, vals_ints B.nums⟩
theorem env {P : Program} {w : World} : Env0 P w K mg B.base callerA [] s (begH K ts a us ns) where
  frames := rfl
  mod := B.module_
  bs := fun _ _ e => of_hidT e
  bsz := Nat.le_of_eq (hidT_size s.heap _)
  funs := trivial
  frf := fun b m => nomatch m
  hok := B.fine
  bare := .of_eq B.gens
/-- behind the call -/
theorem left {P : Program} {w : World} {H : Hp} {s' : Shared} (u : Un [] [] (begH K ts a us ns) H s.heap s'.heap) (k : HOk P w H s'.heap) : OldK s.heap s'.heap := by
  have tb : ∀ {b : Addr}, b ∈ ts.map Prod.snd → ∃ vs : Array Value, s'.heap.get? b = some { cls := .none, data := .fields vs } := fun {b} m => by
    obtain ⟨p, hp, rfl⟩ := List.mem_map.mp m
    obtain ⟨vs, q⟩ := u.tbls p.2 #[] (begH_tab hp)
    exact ⟨_, k p.2 _ q⟩
  have nt : ∀ {b : Addr} {o : Obj}, b ∉ ts.map Prod.snd → s.heap.get? b = some o → s'.heap.get? b = some o := fun {b o} n e => by
    rcases begH_ways (K := K) (ts := ts) (a := a) (us := us) (ns := ns) b with ⟨m, _⟩ | ⟨_, q1, _, q⟩ | ⟨_, q, _⟩
    · exact absurd m n
    · subst q1
      cases B.scr.symm.trans e
      exact (k b _ (u.frzs b _ _ q)).1
    · exact u.keep b o e q List.not_mem_nil List.not_mem_nil
  constructor
  · intro b o e
    by_cases m : b ∈ ts.map Prod.snd
    · obtain ⟨vs, q⟩ := tb m
      obtain ⟨p, hp, rfl⟩ := List.mem_map.mp m
      cases (B.rows p hp).symm.trans e
      exact .inr (.inl ⟨((B.code p hp).tab (B.rows p hp)).isCodeTable, rfl, #[], vs, rfl, by rw [Array.empty_append]; exact q⟩)
    · exact .inl (nt m e)
  · intro b o e
    by_cases m : b ∈ ts.map Prod.snd
    · obtain ⟨vs, q⟩ := tb m
      exact ⟨_, q⟩
    · exact ⟨o, nt m e⟩
end Beg
end
/-- what is asked of a law: its call at the caller's own surroundings, whatever is tracked besides the script and the tables -/
def AskG (l : PySem.W.OpenLaw) (CX : CXT) (n : Nat) (w : World) (mg : Str → Option Value) (fa : Addr) (K : PySem.W.Frag) (ts : List (Addr × Addr)) : Prop := ∀ b : Heap, K.In b → b.Ns mainGlobals mg → (∀ p, p ∈ ts → TabB b mg p.1 p.2) →
  ∀ (s : Shared) (H : Hp) (a : Addr) (ns : List Int), ns.length ≤ n → (∀ p, p ∈ ts → H p.2 = some (.tbl #[])) → SqL K H a (ns.map V.int) → Env0 l.prog w K mg b callerA [] s H →
    codeAny (model l.prog w) callerA (.call (.ref fa) ⟨[.ref a], []⟩) (CR CX [] l.prog w H s (fun v _ => v = .bl true) fun _ _ _ => False) s
theorem walk_ofG {l : PySem.W.OpenLaw} {n : Nat} {q : Program} {loose : List Str} {XP : (Str → Option Value) → Heap → Prop} {YP : World → Heap → Prop} {d : DefRec} {CX : CXT} (h1 : l.most = some n) (h2 : n ≤ sizeLine) (h3 : d.params.defaults = [])
    (F : ∀ (w : World) (mg : Str → Option Value) (fa : Addr) (h : Heap), YP w h → h.Ns mainGlobals mg → mg d.name = some (.ref fa) → ∃ (K : PySem.W.Frag) (ts : List (Addr × Addr)),
      K.In h ∧ (∀ p, p ∈ ts → h.get? p.2 = some noRows) ∧ (∀ p, p ∈ ts → K.lookup p.2 = none) ∧ (∀ p, p ∈ ts → PySem.W.CodeHd h p.1 p.2) ∧ AskG l CX n w mg fa K ts)
    (h4 : ∀ (H : Hp) (s : Shared) (e : Value) (s' : Shared), CX [] H s (fun _ _ _ => False) e s' → False) : PySem.W.WalkO q loose XP YP l.row.toRowW d [] fun f vs => PySem.call f vs := by
  refine Att.attach_callB h1 h3 fun w _ s mg mb fa _ _ _ _ a us ns G Y _ _ _ m scr nums few _ gens => ?_
  obtain ⟨K, ts, k1, k2, k3, k4, ask⟩ := F w mg fa _ Y G.T.g m
  have B : Beg K mg mb ts s a us ns := ⟨k1, G.T.g, G.T.b, G.T.builtins, G.T.nolimit, gens, k2, k3, k4, G.T.bmain, scr, nums, Nat.le_trans few h2⟩
  refine codeAny_mono (ask B.base B.kin (B.space B.glob) (fun p hp => B.table hp) s _ a ns few (fun p hp => begH_tab hp) B.script B.env) fun r s' z => ?_
  match r, z with
  | .error e, z => exact (h4 _ _ e s' z).elim
  | .ok (.ret v), z =>
    obtain ⟨x, H, o1, o2, u, k, rx, ex⟩ := z
    have ex : x = .bl true := ex
    subst ex
    have rx : v = Value.bool true := rx
    subst rx
    exact ⟨rfl, B.left u k, o1, o2⟩
  | .ok .next, z => exact z.elim
  | .ok .brk, z => exact z.elim
  | .ok .cont, z => exact z.elim
end LamX

namespace XK0
open PySem PySem.Spec PyProof.Rows L2
theorem upd3 {H : Hp} {a d : Addr} {o1 o2 o3 : HO} (h : d ≠ a) : upd (upd (upd H a o1) d o2) a o3 = upd (upd H d o2) a o3 := by
  funext b
  by_cases e : b = a
  · rw [e, upd_same, upd_same]
  · rw [upd_ne e, upd_ne e]
    by_cases e2 : b = d
    · rw [e2, upd_same, upd_same]
    · rw [upd_ne e2, upd_ne e2, upd_ne e]
/-- the promise of an __init__ that keeps one thing -/
def spI1 (K : PySem.W.Frag) (f : Str) : Sp := fun vs H Q _ => ∃ (a C : Addr) (y : V), vs = [.ref a, y] ∧ OexC K C ∧ PySem.W.findIn K (.ref C) f = some none ∧ H a = some (exo a C none) ∧ ∀ d, H d = none → d ≠ a → Q .non (upd (upd H d (exd d [(f, y)])) a (exo a C (some d)))
def spI2 (K : PySem.W.Frag) (f g : Str) : Sp := fun vs H Q _ => ∃ (a C : Addr) (y z : V), vs = [.ref a, y, z] ∧ OexC K C ∧ PySem.W.findIn K (.ref C) f = some none ∧ PySem.W.findIn K (.ref C) g = some none ∧ H a = some (exo a C none) ∧
  ∀ d, H d = none → d ≠ a → Q .non (upd (upd H d (exd d [(g, z), (f, y)])) a (exo a C (some d)))
section
variable {P : Program} {w : World} {K : PySem.W.Frag} {mg : Str → Option Value} {base : Heap} {fI : Addr} {fd : FuncData} {params : Arguments} {body : List Stmt} {scope : Scope} {qual f g : Str} {p1 p2 p3 p4 q1 q2 q3 q4 : Pos}
theorem vis_par {N P : List Str} {sc : Scope} (S : FnScope N P sc) {x : Str} (h : x ∈ P) : Vis sc x := (S.par x h).elim (fun z => .inl z) (fun z => .inr (.inl z))
theorem ok_init1 (F : FunD K "__init__" qual params [.Assign [.Attribute (.Name "self" p1) f p2] (.Name f p3) p4] scope [] [] fI fd) (S : FnScope ["self", f] ["self", f] scope) (hd : (f == ("__debug__" : Str)) = false) (hc : (f == ("__classdict__" : Str)) = false) :
    FnOk P w K mg base CX0 1 fI fd ["self", f] (spI1 K f) := by
  refine F.ok S (fun vs H Q E h => ?_) (fun cdv A outer s H vs Q E hr h => ⟨_, PSs.nox (pss_one (ps_ost (pe_var (i := 0) rfl (vis_par S List.mem_cons_self)) (pe_var (i := 1) rfl (vis_par S (List.mem_cons_of_mem _ List.mem_cons_self)) hd hc))), ?_⟩)
  · obtain ⟨a, C, y, rfl, _⟩ := h
    rfl
  · obtain ⟨a, C, y, rfl, T, hno, ha, q⟩ := h
    exact ⟨y, rfl, .ref a, rfl, a, C, rfl, T, hno, .inl ⟨ha, fun dx n ne => q dx n ne⟩⟩
theorem ok_init2 (F : FunD K "__init__" qual params [.Assign [.Attribute (.Name "self" p1) f p2] (.Name f p3) p4, .Assign [.Attribute (.Name "self" q1) g q2] (.Name g q3) q4] scope [] [] fI fd) (S : FnScope ["self", f, g] ["self", f, g] scope)
    (hd : (f == ("__debug__" : Str)) = false) (hc : (f == ("__classdict__" : Str)) = false) (hd2 : (g == ("__debug__" : Str)) = false) (hc2 : (g == ("__classdict__" : Str)) = false) :
    FnOk P w K mg base CX0 1 fI fd ["self", f, g] (spI2 K f g) := by
  refine F.ok S (fun vs H Q E h => ?_) (fun cdv A outer s H vs Q E hr h => ⟨_, PSs.nox (pss_cons (ps_ost (pe_var (i := 0) rfl (vis_par S List.mem_cons_self)) (pe_var (i := 1) rfl (vis_par S (List.mem_cons_of_mem _ List.mem_cons_self)) hd hc))
    (pss_one (ps_ost (pe_var (i := 0) rfl (vis_par S List.mem_cons_self)) (pe_var (i := 2) rfl (vis_par S (List.mem_cons_of_mem _ (List.mem_cons_of_mem _ List.mem_cons_self))) hd2 hc2)))), ?_⟩)
  · obtain ⟨a, C, y, z, rfl, _⟩ := h
    rfl
  · obtain ⟨a, C, y, z, rfl, T, hno, hno2, ha, q⟩ := h
    refine ⟨y, rfl, .ref a, rfl, a, C, rfl, T, hno, .inl ⟨ha, fun dx n ne => ?_⟩⟩
    refine ⟨z, rfl, .ref a, rfl, a, C, rfl, T, hno2, .inr ⟨dx, [(f, y)], upd_same, ?_, by show 1 ≤ 900; omega, ?_⟩⟩
    · rw [upd_ne ne, upd_same]
    · have e : upd (upd (upd H dx (exd dx [(f, y)])) a (exo a C (some dx))) dx (exd dx [(g, z), (f, y)]) = upd (upd H dx (exd dx [(g, z), (f, y)])) a (exo a C (some dx)) := by
        funext b
        by_cases e1 : b = dx
        · rw [e1, upd_same, upd_ne ne, upd_same]
        · rw [upd_ne e1]
          by_cases e2 : b = a
          · rw [e2, upd_same, upd_same]
          · rw [upd_ne e2, upd_ne e1, upd_ne e2, upd_ne e1]
      rw [e]
      exact q dx n ne
end
theorem kbn_of {K : PySem.W.Frag} {x qual : Str} {params : Arguments} {body : List Stmt} {scope : Scope} {f : Addr} {fd : FuncData} {ps : List Str} (F : FunD K x qual params body scope [] [] f fd) (n : Nat) (ks : List Str) (g : {α : Type} → List α → List α → List α)
    (hrel : ∀ {vs zs : List V} {us ws : List Value}, Vals vs us → Vals zs ws → Vals (g vs zs) (g us ws))
    (h : ∀ (kV doc pm : Value) (an : Option Addr) (cdv ct : Value) (us ws : List Value), us.length = n → ws.length = ks.length → bindArgs (PySem.W.fnOf x qual params body scope .none kV doc pm an cdv ct) ⟨us, ks.zip ws⟩ = pure (ps.zip (g us ws))) : KBn K fd ps n ks g g := by
  obtain ⟨oc, od, dV, kV, doc, pm, an, cdv, ct, osl, rfl, lk, hcd, hD, hK⟩ := F.ex
  rcases hD with ⟨_, rfl⟩ | ⟨e, _⟩
  · exact ⟨fun s us ws X l1 l2 => .of_eq (h kV doc pm an cdv ct us ws l1 l2), fun r1 r2 => hrel r1 r2⟩
  · exact absurd rfl e
/-! ### a class of one field, of two -/
structure Ec1 (K : PySem.W.Frag) (mg : Str → Option Value) (x f : Str) (C : Addr) : Prop where
  ox : OexC K C
  gl : mg x = some (.ref C)
  no : PySem.W.findIn K (.ref C) f = some none
  ini : ∃ (fI : Addr) (fd : FuncData), PySem.W.findIn K (.ref C) "__init__" = some (some (.ref fI)) ∧ PySem.W.typeIn K (.ref fI) = some (.type "function") ∧
    (∀ (P : Program) (w : World) (base : Heap), FnOk P w K mg base CX0 1 fI fd ["self", f] (spI1 K f)) ∧ KBn K fd ["self", f] 2 [] (fun us ws => us) (fun us ws => us) ∧ KBn K fd ["self", f] 1 [f] (fun us ws => us ++ ws) (fun us ws => us ++ ws)
structure Ec2 (K : PySem.W.Frag) (mg : Str → Option Value) (x f g : Str) (C : Addr) : Prop where
  ox : OexC K C
  gl : mg x = some (.ref C)
  no : PySem.W.findIn K (.ref C) f = some none
  no2 : PySem.W.findIn K (.ref C) g = some none
  ini : ∃ (fI : Addr) (fd : FuncData), PySem.W.findIn K (.ref C) "__init__" = some (some (.ref fI)) ∧ PySem.W.typeIn K (.ref fI) = some (.type "function") ∧
    (∀ (P : Program) (w : World) (base : Heap), FnOk P w K mg base CX0 1 fI fd ["self", f, g] (spI2 K f g)) ∧ KBn K fd ["self", f, g] 3 [] (fun us ws => us) (fun us ws => us) ∧ KBn K fd ["self", f, g] 1 [g, f] (fun us ws => us ++ ws.reverse) (fun us ws => us ++ ws.reverse)
/-- the reading of a new error -/
def tNew (C : Addr) (fs : List (Str × V)) (Q : VK) (H : Hp) : Prop := ∀ a d, H a = none → H d = none → d ≠ a → Q (.ref a) (upd (upd H d (exd d fs)) a (exo a C (some d)))
section
variable {X : Cx} {x f g : Str} {C : Addr} {e1 e2 : Expr} {t1 t2 : TE} {p pos kp1 kp2 : Pos}
theorem fresh_of {H : Hp} {a d : Addr} {o : HO} (h : upd H a o d = none) : H d = none ∧ d ≠ a := by
  by_cases e : d = a
  · rw [e, upd_same] at h
    cases h
  · rw [upd_ne e] at h
    exact ⟨h, e⟩
def Mo (t : TE) : Prop := ∀ (σ : L2.St) (H : Hp) (Q Q' : VK), (∀ v H', Q v H' → Q' v H') → t σ H Q → t σ H Q'
theorem mo_var (i : Nat) : Mo (tVar i) := fun σ H Q Q' k ⟨v, e, h⟩ => ⟨v, e, k _ _ h⟩
theorem new1_ok {K : PySem.W.Frag} {mg : Str → Option Value} (E : Ec1 K mg x f C) {Q : VK} {H : Hp} {y : V} (h : tNew C [(f, y)] Q H) {a : Addr} (ha : H a = none) : spI1 K f [.ref a, y] (upd H a (exo a C none)) (fun v H2 => v = .non ∧ Q (.ref a) H2) (fun _ _ _ => False) := by
  refine ⟨a, C, y, rfl, E.ox, E.no, upd_same, fun d hd hne => ⟨rfl, ?_⟩⟩
  rw [upd3 hne]
  exact h a d ha (fresh_of hd).1 hne
theorem new2_ok {K : PySem.W.Frag} {mg : Str → Option Value} (E : Ec2 K mg x f g C) {Q : VK} {H : Hp} {y z : V} (h : tNew C [(g, z), (f, y)] Q H) {a : Addr} (ha : H a = none) : spI2 K f g [.ref a, y, z] (upd H a (exo a C none)) (fun v H2 => v = .non ∧ Q (.ref a) H2) (fun _ _ _ => False) := by
  refine ⟨a, C, y, z, rfl, E.ox, E.no, E.no2, upd_same, fun d hd hne => ⟨rfl, ?_⟩⟩
  rw [upd3 hne]
  exact h a d ha (fresh_of hd).1 hne
theorem pe_new1 (E : Ec1 X.K X.mg x f C) (hr : Room 2 X.A) (hg : Gl X x) (h1 : PE X e1 t1) (m1 : Mo t1) (hdb : (x == ("__debug__" : Str)) = false := by decide)
    (he : starEach [e1] X.env = (false, eval e1 X.env) :: starEach [] X.env := by rfl) : PE X (.Call (.Name x p) [e1] [] pos) (fun σ H Q => t1 σ H fun y H1 => tNew C [(f, y)] Q H1) := by
  obtain ⟨fI, fd, i1, i2, i3, i4, _⟩ := E.ini
  have q := pe_mkX (p := p) (pos := pos) (X := X) E.ox i1 i2 (i3 X.prog X.w X.base) hr i4 pass0 hg E.gl (pa_cons h1 pa_nil he) hdb he rfl
  refine ⟨fun pins s σ H Q I h => q.run pins s σ H Q I (m1 _ _ _ _ (fun y H1 h => ?_) h)⟩
  exact ⟨rfl, by omega, rfl, fun a ha => new1_ok E h ha⟩
theorem pe_new1K (E : Ec1 X.K X.mg x f C) (hr : Room 2 X.A) (hg : Gl X x) (h1 : PE X e1 t1) (m1 : Mo t1) (hdb : (x == ("__debug__" : Str)) = false := by decide)
    (hall : (backToKw pos (keywordEach [⟨some f, e1, kp1⟩] X.env)).all (·.1.isSome) = true := by rfl) (hks : (backToKw pos (keywordEach [⟨some f, e1, kp1⟩] X.env)).filterMap (·.1) = [f] := by rfl)
    (hpl : ((backTo pos (starEach [] X.env)).any (·.1) || (backToKw pos (keywordEach [⟨some f, e1, kp1⟩] X.env)).any (·.1.isNone)) = false := by rfl) :
    PE X (.Call (.Name x p) [] [⟨some f, e1, kp1⟩] pos) (fun σ H Q => t1 σ H fun y H1 => tNew C [(f, y)] Q H1) := by
  obtain ⟨fI, fd, i1, i2, i3, _, i5⟩ := E.ini
  have q := pe_mkXK (p := p) (pos := pos) (X := X) E.ox i1 i2 (i3 X.prog X.w X.base) hr i5 pass0 hg E.gl (pk_cons (nm := some f) (kpos := kp1) h1 pk_nil) hall hks hdb hpl
  refine ⟨fun pins s σ H Q I h => q.run pins s σ H Q I (m1 _ _ _ _ (fun y H1 h => ?_) h)⟩
  exact ⟨rfl, by omega, rfl, fun a ha => new1_ok E h ha⟩
theorem pe_new2 (E : Ec2 X.K X.mg x f g C) (hr : Room 2 X.A) (hg : Gl X x) (h1 : PE X e1 t1) (m1 : Mo t1) (h2 : PE X e2 t2) (m2 : Mo t2) (hdb : (x == ("__debug__" : Str)) = false := by decide)
    (he : starEach [e1, e2] X.env = (false, eval e1 X.env) :: starEach [e2] X.env := by rfl) (he2 : starEach [e2] X.env = (false, eval e2 X.env) :: starEach [] X.env := by rfl) (hpl : (backTo pos (starEach [e2] X.env)).any (·.1) = false := by rfl) :
    PE X (.Call (.Name x p) [e1, e2] [] pos) (fun σ H Q => t1 σ H fun y H1 => t2 σ H1 fun z H2 => tNew C [(g, z), (f, y)] Q H2) := by
  obtain ⟨fI, fd, i1, i2, i3, i4, _⟩ := E.ini
  have q := pe_mkX (p := p) (pos := pos) (X := X) E.ox i1 i2 (i3 X.prog X.w X.base) hr i4 pass0 hg E.gl (pa_cons h1 (pa_cons h2 pa_nil he2) he) hdb he hpl
  refine ⟨fun pins s σ H Q I h => q.run pins s σ H Q I (m1 _ _ _ _ (fun y H1 h => m2 _ _ _ _ (fun z H2 h => ?_) h) h)⟩
  exact ⟨rfl, by omega, rfl, fun a ha => new2_ok E h ha⟩
/-- C(g = e2, f = e1) -/
theorem pe_new2K (E : Ec2 X.K X.mg x f g C) (hr : Room 2 X.A) (hg : Gl X x) (h1 : PE X e1 t1) (m1 : Mo t1) (h2 : PE X e2 t2) (m2 : Mo t2) (hdb : (x == ("__debug__" : Str)) = false := by decide)
    (hall : (backToKw pos (keywordEach [⟨some g, e2, kp1⟩, ⟨some f, e1, kp2⟩] X.env)).all (·.1.isSome) = true := by rfl) (hks : (backToKw pos (keywordEach [⟨some g, e2, kp1⟩, ⟨some f, e1, kp2⟩] X.env)).filterMap (·.1) = [g, f] := by rfl)
    (hpl : ((backTo pos (starEach [] X.env)).any (·.1) || (backToKw pos (keywordEach [⟨some g, e2, kp1⟩, ⟨some f, e1, kp2⟩] X.env)).any (·.1.isNone)) = false := by rfl) :
    PE X (.Call (.Name x p) [] [⟨some g, e2, kp1⟩, ⟨some f, e1, kp2⟩] pos) (fun σ H Q => t2 σ H fun z H1 => t1 σ H1 fun y H2 => tNew C [(g, z), (f, y)] Q H2) := by
  obtain ⟨fI, fd, i1, i2, i3, _, i5⟩ := E.ini
  have q := pe_mkXK (p := p) (pos := pos) (X := X) E.ox i1 i2 (i3 X.prog X.w X.base) hr i5 pass0 hg E.gl (pk_cons (nm := some g) (kpos := kp1) h2 (pk_cons (nm := some f) (kpos := kp2) h1 pk_nil)) hall hks hdb hpl
  refine ⟨fun pins s σ H Q I h => q.run pins s σ H Q I (m2 _ _ _ _ (fun z H1 h => m1 _ _ _ _ (fun y H2 h => ?_) h) h)⟩
  exact ⟨rfl, by omega, rfl, fun a ha => new2_ok E h ha⟩
end
end XK0

namespace XK0
open PySem PySem.Spec PyProof.Rows L2 LamX LamV
/-- a made pair of errors, the look at their fields, and what is due -/
structure It where
  C : Addr
  fs : List (Str × V)
  due : List V
  ns : List Str
/-- a lambda that tells the named fields of its argument in a list -/
structure Lm (F : LF) (ns : List Str) : Prop where
  sc : NdefX.NScope ["_law_e"] ["_law_e"] [] F.scope
  bd : ∀ (pm cv ctv : Value) (us : List Value), us.length = 1 → bindArgs (PySem.W.kla_fn "<lambda>" F.qual F.params F.body F.scope [] pm cv ctv) ⟨us, []⟩ = pure ((["_law_e"] : List Str).zip us)
  sh : (∃ (f : Str) (p1 p2 p3 : Pos), ns = [f] ∧ F.body = .List [.Attribute (.Name "_law_e" p1) f p2] p3) ∨ ∃ (f g : Str) (p1 p2 p3 p4 p5 : Pos), ns = [f, g] ∧ F.body = .List [.Attribute (.Name "_law_e" p1) f p2, .Attribute (.Name "_law_e" p3) g p4] p5
def Item (L : Addr) (H : Hp) (i : It) (v : V) : Prop := ∃ t m1 d1 m2 d2 f dl, v = .ref t ∧ H t = some (.tup [.ref m1, .ref m2, .ref f, .ref dl]) ∧ H m1 = some (exo m1 i.C (some d1)) ∧ H d1 = some (exd d1 i.fs) ∧
  H m2 = some (exo m2 i.C (some d2)) ∧ H d2 = some (exd d2 i.fs) ∧ (∃ F, Lm F i.ns ∧ IsLam H f F) ∧ H dl = some (.lst i.due) ∧ dl ≠ L
/-- all but tables and the list at L stays -/
def Kp (L : Addr) (H H' : Hp) : Prop := ∀ b o, H b = some o → (∀ ps, o ≠ .tbl ps) → b ≠ L → H' b = some o
theorem Kp.refl {L : Addr} {H : Hp} : Kp L H H := fun _ _ h _ _ => h
theorem Kp.trans {L : Addr} {H H1 H2 : Hp} (a : Kp L H H1) (b : Kp L H1 H2) : Kp L H H2 := fun c o h n m => b c o (a c o h n m) n m
theorem Kp.new {L a : Addr} {H : Hp} {o : HO} (h : H a = none) : Kp L H (upd H a o) := fun b u e _ _ => by rw [upd_ne (ne_of_none e h)]; exact e
theorem Kp.extN {L : Addr} {H H' : Hp} (h : ExtN H H') : Kp L H H' := fun b o e n _ => h b o e n
theorem exd_tbl {e : Addr} {fs : List (Str × V)} (ps : Array Value) : exd e fs ≠ .tbl ps := fun z => by
  have z' : HO.ext _ = HO.tbl ps := z
  cases z'
theorem lamO_tbl {f c : Addr} {F : LF} (ps : Array Value) : LamO f c F ≠ .tbl ps := fun z => by
  have z' : HO.ext _ = HO.tbl ps := z
  cases z'
theorem not_at {H : Hp} {b L : Addr} {o : HO} {xs : List V} (hL : H L = some (.lst xs)) (h : H b = some o) (n : o ≠ .lst xs) : b ≠ L := fun z => by
  rw [z, hL] at h
  exact n (Option.some.inj h).symm
theorem exo_lst {e C : Addr} {d : Option Addr} (xs : List V) : exo e C d ≠ .lst xs := fun z => by
  have z' : HO.ext _ = HO.lst xs := z
  cases z'
theorem exd_lst {e : Addr} {fs : List (Str × V)} (ps : List V) : exd e fs ≠ .lst ps := fun z => by
  have z' : HO.ext _ = HO.lst ps := z
  cases z'
theorem lamO_lst {f c : Addr} {F : LF} (ps : List V) : LamO f c F ≠ .lst ps := fun z => by
  have z' : HO.ext _ = HO.lst ps := z
  cases z'
theorem codeO_lst {c : Addr} {q : Str} (ps : List V) : CodeO c q ≠ .lst ps := fun z => by
  have z' : HO.ext _ = HO.lst ps := z
  cases z'
theorem isLam_kp {L f : Addr} {H H' : Hp} {F : LF} {xs : List V} (hL : H L = some (.lst xs)) (k : Kp L H H') (h : IsLam H f F) : IsLam H' f F := by
  obtain ⟨c, h1, h2⟩ := h
  exact ⟨c, k _ _ h1 (fun ps => lamO_tbl ps) (not_at hL h1 (lamO_lst _)), k _ _ h2 (fun ps => codeO_ne ps) (not_at hL h2 (codeO_lst _))⟩
theorem Item.kp {L : Addr} {H H' : Hp} {i : It} {v : V} {xs : List V} (hL : H L = some (.lst xs)) (k : Kp L H H') (h : Item L H i v) : Item L H' i v := by
  obtain ⟨t, m1, d1, m2, d2, f, dl, rfl, h1, h2, h3, h4, h5, ⟨F, h6a, h6⟩, h7, h8⟩ := h
  exact ⟨t, m1, d1, m2, d2, f, dl, rfl, k _ _ h1 (fun _ z => nomatch z) (not_at hL h1 (fun z => nomatch z)), k _ _ h2 (fun _ => exo_tbl) (not_at hL h2 (exo_lst _)), k _ _ h3 exd_tbl (not_at hL h3 (exd_lst _)),
    k _ _ h4 (fun _ => exo_tbl) (not_at hL h4 (exo_lst _)), k _ _ h5 exd_tbl (not_at hL h5 (exd_lst _)), ⟨F, h6a, isLam_kp hL k h6⟩, k _ _ h7 (fun _ z => nomatch z) h8, h8⟩
/-- the state: the list at L holds these items -/
structure MS (T : List (Addr × Str)) (L : Addr) (its : List It) (H : Hp) : Prop where
  tab : Tabs T H
  lst : ∃ vs, H L = some (.lst vs) ∧ Paired (Item L H) its vs
theorem Paired.snoc {α β : Type} {F : α → β → Prop} : ∀ {l₁ : List α} {l₂ : List β} {a : α} {b : β}, Paired F l₁ l₂ → F a b → Paired F (l₁ ++ [a]) (l₂ ++ [b])
  | _, _, _, _, .nil, h => .cons h .nil
  | _, _, _, _, .cons r t, h => .cons r (Paired.snoc t h)
theorem Tabs.keep {T : List (Addr × Str)} {H H' : Hp} (t : Tabs T H) (k : ∀ b o, H b = some o → (∀ xs, o ≠ .lst xs) → H' b = some o) : Tabs T H' := fun p hp => by
  obtain ⟨ps, h1, h2, h3⟩ := t p hp
  refine ⟨ps, k _ _ h1 (fun _ z => nomatch z), h2, fun pos cv hc => ?_⟩
  obtain ⟨c, e1, e2⟩ := h3 pos cv hc
  exact ⟨c, e1, k _ _ e2 (fun _ => codeO_lst _)⟩
section
variable {K : PySem.W.Frag} {T : List (Addr × Str)} {L C : Addr} {fs : List (Str × V)} {due : List V} {ns : List Str} {F : LF} {its : List It} {A B tD tL : TE} {σ : L2.St} {H : Hp} {D : Ends}
theorem new_kp {a d : Addr} (ha : H a = none) (hd : H d = none) (hne : d ≠ a) : Kp L H (upd (upd H d (exd d fs)) a (exo a C (some d))) :=
  (Kp.new hd).trans (Kp.new (by rw [upd_ne hne.symm]; exact ha))
theorem new_ext {a d : Addr} (ha : H a = none) (hd : H d = none) : ∀ b o, H b = some o → upd (upd H d (exd d fs)) a (exo a C (some d)) b = some o := fun b o e => by
  rw [upd_ne (ne_of_none e ha), upd_ne (ne_of_none e hd)]
  exact e
/-- found.append((C(..), C(..), lambda e: .., [..])) -/
theorem line (hF : Lm F ns) (hL : tL = tVar 2) (hs : σ[2]? = some (some (.ref L))) (ms : MS T L its H) (hn : its.length < 1000) (hA : ∀ H Q, tNew C fs Q H → A σ H Q) (hB : ∀ H Q, tNew C fs Q H → B σ H Q) (hD : ∀ H Q, (∀ p, H p = none → Q (.ref p) (upd H p (.lst due))) → tD σ H Q)
    (k : ∀ H', MS T L (its ++ [⟨C, fs, due, ns⟩]) H' → Kp L H H' → D.nx σ H') : tDrop (tBM K "list" rAppend tL (tCons (tTup (tCons A (tCons B (tCons (tLamV T F) (tCons tD tNil))))) tNil)) D σ H := by
  subst hL
  obtain ⟨tab, vs, hl, hp⟩ := ms
  have hlen : vs.length = its.length := (Paired.length hp).symm
  refine ⟨.ref L, hs, .inl ⟨rfl, vs, .inl (.inl hl)⟩, ?_⟩
  refine hA _ _ fun m1 d1 a1 b1 c1 => ?_
  have e1 := new_ext (C := C) (fs := fs) a1 b1
  have k1 : Kp L H _ := new_kp (C := C) (fs := fs) a1 b1 c1
  have g1 : upd (upd H d1 (exd d1 fs)) m1 (exo m1 C (some d1)) m1 = some (exo m1 C (some d1)) := upd_same
  have g1d : upd (upd H d1 (exd d1 fs)) m1 (exo m1 C (some d1)) d1 = some (exd d1 fs) := by rw [upd_ne c1, upd_same]
  generalize upd (upd H d1 (exd d1 fs)) m1 (exo m1 C (some d1)) = H1 at e1 k1 g1 g1d ⊢
  refine hB _ _ fun m2 d2 a2 b2 c2 => ?_
  have e2 := new_ext (C := C) (fs := fs) a2 b2
  have k2 : Kp L H1 _ := new_kp (C := C) (fs := fs) a2 b2 c2
  have g2 : upd (upd H1 d2 (exd d2 fs)) m2 (exo m2 C (some d2)) m2 = some (exo m2 C (some d2)) := upd_same
  have g2d : upd (upd H1 d2 (exd d2 fs)) m2 (exo m2 C (some d2)) d2 = some (exd d2 fs) := by rw [upd_ne c2, upd_same]
  generalize upd (upd H1 d2 (exd d2 fs)) m2 (exo m2 C (some d2)) = H2 at e2 k2 g2 g2d ⊢
  refine ⟨tab.ext fun b o e => e2 b o (e1 b o e), fun f H3 x3 t3 f3 l3 => ?_⟩
  refine hD _ _ fun dl a4 => ?_
  have k3 : Kp L H2 H3 := .extN x3
  have k4 : Kp L H3 (upd H3 dl (.lst due)) := .new a4
  have hl3 : H3 L = some (.lst vs) := x3 _ _ (e2 _ _ (e1 _ _ hl)) (fun _ z => nomatch z)
  have hdl : dl ≠ L := fun z => by rw [z, hl3] at a4; cases a4
  have g4 : upd H3 dl (.lst due) dl = some (.lst due) := upd_same
  have e4 : ∀ b o, H3 b = some o → upd H3 dl (.lst due) b = some o := fun b o e => by rw [upd_ne (ne_of_none e a4)]; exact e
  generalize upd H3 dl (.lst due) = H4 at k4 g4 e4 ⊢
  refine ⟨by rw [sizeLine_eq]; show 4 ≤ _; omega, fun t a5 => ?_⟩
  have k5 : Kp L H4 (upd H4 t (.tup [.ref m1, .ref m2, .ref f, .ref dl])) := .new a5
  have g5 : upd H4 t (.tup [.ref m1, .ref m2, .ref f, .ref dl]) t = some (.tup [.ref m1, .ref m2, .ref f, .ref dl]) := upd_same
  have e5 : ∀ b o, H4 b = some o → upd H4 t (.tup [.ref m1, .ref m2, .ref f, .ref dl]) b = some o := fun b o e => by rw [upd_ne (ne_of_none e a5)]; exact e
  generalize upd H4 t (.tup [.ref m1, .ref m2, .ref f, .ref dl]) = H5 at k5 g5 e5 ⊢
  have hl5 : H5 L = some (.lst vs) := e5 _ _ (e4 _ _ hl3)
  refine ⟨L, vs, .ref t, rfl, rfl, hl5, by rw [sizeLine_eq]; omega, ?_⟩
  have k6 : Kp L H5 (upd H5 L (.lst (vs ++ [.ref t]))) := fun b o e _ n => by rw [upd_ne n]; exact e
  have t6 : Tabs T (upd H5 L (.lst (vs ++ [.ref t]))) := Tabs.keep (t3.ext fun b o e => e5 _ _ (e4 _ _ e)) fun b o e n => by rw [upd_ne (not_at hl5 e (n _))]; exact e
  have all : Kp L H (upd H5 L (.lst (vs ++ [.ref t]))) := ((((k1.trans k2).trans k3).trans k4).trans k5).trans k6
  have hl1 : H1 L = some (.lst vs) := e1 _ _ hl
  have hl2 : H2 L = some (.lst vs) := e2 _ _ hl1
  have hl4 : H4 L = some (.lst vs) := e4 _ _ hl3
  have kk : Kp L H2 (upd H5 L (.lst (vs ++ [.ref t]))) := ((k3.trans k4).trans k5).trans k6
  have kk1 : Kp L H1 (upd H5 L (.lst (vs ++ [.ref t]))) := k2.trans kk
  refine k _ ⟨t6, vs ++ [.ref t], upd_same, Paired.snoc (Paired.mapP hp fun i v z => Item.kp hl all z) ?_⟩ all
  refine ⟨t, m1, d1, m2, d2, f, dl, rfl, k6 _ _ g5 (fun _ z => nomatch z) (not_at hl5 g5 (fun z => nomatch z)), kk1 _ _ g1 (fun _ => exo_tbl) (not_at hl1 g1 (exo_lst _)), kk1 _ _ g1d exd_tbl (not_at hl1 g1d (exd_lst _)),
    kk _ _ g2 (fun _ => exo_tbl) (not_at hl2 g2 (exo_lst _)), kk _ _ g2d exd_tbl (not_at hl2 g2d (exd_lst _)), ⟨F, hF, isLam_kp hl3 ((k4.trans k5).trans k6) l3⟩, (k5.trans k6) _ _ g4 (fun _ z => nomatch z) hdl, hdl⟩
end
end XK0

namespace XK0
open PySem PySem.Spec PyProof.Rows L2 LamX LamV
/-- one line of a maker: what it adds, of x and y -/
def LineOk (X : Cx) (T : List (Addr × Str)) (st : Stmt) (it : V → V → It) : Prop := ∃ t, PS X st t ∧ ∀ (L : Addr) (x y : V) (its : List It) (σ : L2.St) (H : Hp) (D : Ends), σ[0]? = some (some x) → σ[1]? = some (some y) → σ[2]? = some (some (.ref L)) →
  MS T L its H → its.length < 1000 → (∀ H', MS T L (its ++ [it x y]) H' → Kp L H H' → D.nx σ H') → t D σ H
/-- where the maker stands: its table -/
structure Mkr (X : Cx) (T : List (Addr × Str)) (q : Str) : Prop where
  rm : Room 2 X.A
  nn : X.N = (["_law_x", "_law_y", "_law_found"] : List Str)
  vx : Vis X.env.scope "_law_x"
  vy : Vis X.env.scope "_law_y"
  vf : Vis X.env.scope "_law_found"
  tb : ∃ c P, TabB X.base X.mg c P ∧ X.env.code = .ref c ∧ (P, q) ∈ T ∧ ∀ p ∈ T, p.1 = P → p.2 = q
  qu : X.env.qual ++ "<lambda>" = q
section
variable {X : Cx} {T : List (Addr × Str)} {q cx f g : Str} {C : Addr} {params : Arguments} {body : Expr} {scope : Scope} {p1 p2 p3 p4 p5 p6 p7 p8 p9 p10 p11 p12 p13 p14 p15 p16 p17 p18 p19 : Pos} {k : Nat}
theorem line1_ok (M : Mkr X T q) (E : Ec1 X.K X.mg cx f C) (hg : Gl X cx) (hF : Lm ⟨q, params, body, scope⟩ [f]) (hdef : defaultsOf params X.env = ([], [])) (hfree : ∀ y ∈ scope.names, y.2 ≠ .free) (hdb : (cx == ("__debug__" : Str)) = false)
    (hline : (p2.endLine == p14.line) = true) :
    LineOk X T (.Expr (.Call (.Attribute (.Name "_law_found" p1) "append" p2) [.Tuple [.Call (.Name cx p3) [.Name "_law_x" p4] [] p5, .Call (.Name cx p6) [] [⟨some f, .Name "_law_x" p7, p8⟩] p9, .Lambda params body scope p10, .List [.Name "_law_x" p11] p12] k p13] [] p14) p15)
      (fun x y => ⟨C, [(f, x)], [x], [f]⟩) := by
  obtain ⟨c, P, TB, hc, hm, hu⟩ := M.tb
  have vX : ∀ p, PE X (.Name "_law_x" p) (tVar 0) := fun p => pe_var (by rw [M.nn]; rfl) M.vx
  have vF : ∀ p, PE X (.Name "_law_found" p) (tVar 2) := fun p => pe_var (by rw [M.nn]; rfl) M.vf
  refine ⟨_, ps_expr (pe_bm PySem.F.plainAttrs_list PySem.F.slot_list_append PySem.F.type_list_append mt_append (vF p1) (pa_cons (pe_tup (pa_cons (pe_new1 E M.rm hg (vX p4) (mo_var 0) hdb) (pa_cons (pe_new1K E M.rm hg (vX p7) (mo_var 0) hdb)
    (pa_cons (pe_lamV TB hc M.qu hm hu hdef hfree) (pa_cons (pe_lst (pa_cons (vX p11) pa_nil)) pa_nil))))) pa_nil) rfl rfl hline), ?_⟩
  intro L x y its σ H D hx hy hL ms hn kk
  exact line hF rfl hL ms hn (fun H Q h => ⟨x, hx, h⟩) (fun H Q h => ⟨x, hx, h⟩) (fun H Q h => ⟨x, hx, by rw [sizeLine_eq]; show 1 ≤ _; omega, fun p hp => h p hp⟩) kk
theorem line2_ok (M : Mkr X T q) (E : Ec2 X.K X.mg cx f g C) (hg : Gl X cx) (hF : Lm ⟨q, params, body, scope⟩ [f, g]) (hdef : defaultsOf params X.env = ([], [])) (hfree : ∀ y ∈ scope.names, y.2 ≠ .free) (hdb : (cx == ("__debug__" : Str)) = false)
    (hline : (p2.endLine == p14.line) = true) :
    LineOk X T (.Expr (.Call (.Attribute (.Name "_law_found" p1) "append" p2) [.Tuple [.Call (.Name cx p3) [.Name "_law_x" p4, .Name "_law_y" p16] [] p5, .Call (.Name cx p6) [] [⟨some g, .Name "_law_y" p7, p8⟩, ⟨some f, .Name "_law_x" p17, p18⟩] p9, .Lambda params body scope p10, .List [.Name "_law_x" p11, .Name "_law_y" p19] p12] k p13] [] p14) p15)
      (fun x y => ⟨C, [(g, y), (f, x)], [x, y], [f, g]⟩) := by
  obtain ⟨c, P, TB, hc, hm, hu⟩ := M.tb
  have vX : ∀ p, PE X (.Name "_law_x" p) (tVar 0) := fun p => pe_var (by rw [M.nn]; rfl) M.vx
  have vY : ∀ p, PE X (.Name "_law_y" p) (tVar 1) := fun p => pe_var (by rw [M.nn]; rfl) M.vy
  have vF : ∀ p, PE X (.Name "_law_found" p) (tVar 2) := fun p => pe_var (by rw [M.nn]; rfl) M.vf
  refine ⟨_, ps_expr (pe_bm PySem.F.plainAttrs_list PySem.F.slot_list_append PySem.F.type_list_append mt_append (vF p1) (pa_cons (pe_tup (pa_cons (pe_new2 E M.rm hg (vX p4) (mo_var 0) (vY p16) (mo_var 1) hdb) (pa_cons (pe_new2K E M.rm hg (vX p17) (mo_var 0) (vY p7) (mo_var 1) hdb)
    (pa_cons (pe_lamV TB hc M.qu hm hu hdef hfree) (pa_cons (pe_lst (pa_cons (vX p11) (pa_cons (vY p19) pa_nil))) pa_nil))))) pa_nil) rfl rfl hline), ?_⟩
  intro L x y its σ H D hx hy hL ms hn kk
  exact line hF rfl hL ms hn (fun H Q h => ⟨x, hx, y, hy, h⟩) (fun H Q h => ⟨y, hy, x, hx, h⟩) (fun H Q h => ⟨x, hx, y, hy, by rw [sizeLine_eq]; show 2 ≤ _; omega, fun p hp => h p hp⟩) kk
/-- lines one behind another, then the rest -/
theorem block_ok {rest : List Stmt} {tr : TS} (hr : PSs X rest tr) : ∀ {sts : List Stmt} {itf : List (V → V → It)}, Paired (LineOk X T) sts itf → ∃ t, PSs X (sts ++ rest) t ∧ ∀ (L : Addr) (x y : V) (its : List It) (σ : L2.St) (H : Hp) (D : Ends),
    σ[0]? = some (some x) → σ[1]? = some (some y) → σ[2]? = some (some (.ref L)) → MS T L its H → its.length + itf.length < 1000 → (∀ H', MS T L (its ++ itf.map (fun i => i x y)) H' → Kp L H H' → tr D σ H') → t D σ H
  | _, _, .nil => ⟨tr, hr, fun L x y its σ H D _ _ _ ms _ k => k H (by simpa using ms) Kp.refl⟩
  | _, _, .cons (b := i) (l₂ := r) h t => by
    obtain ⟨t1, p1, q1⟩ := h
    obtain ⟨t2, p2, q2⟩ := block_ok hr t
    refine ⟨tSeq t1 t2, pss_cons p1 p2, fun L x y its σ H D hx hy hL ms hn k => ?_⟩
    refine q1 L x y its σ H _ hx hy hL ms (by simp at hn; omega) fun H1 ms1 k1 => ?_
    refine q2 L x y _ σ H1 D hx hy hL ms1 (by simp at hn ⊢; omega) fun H2 ms2 k2 => k H2 (by simpa using ms2) (k1.trans k2)
end
/-- what a maker promises -/
def spMade (T : List (Addr × Str)) (itf : List (V → V → It)) : Sp := fun vs H Q _ => ∃ x y, vs = [x, y] ∧ Tabs T H ∧ ∀ L H', H L = none → MS T L (itf.map fun i => i x y) H' → Kp L H H' → Q (.ref L) H'
def codeOf (K : PySem.W.Frag) (f : Addr) : Option Value := match K.lookup f with
  | some ⟨_, _, .func fd, _⟩ => some fd.code
  | _ => none
theorem made_ok {P : Program} {w : World} {K : PySem.W.Frag} {mg : Str → Option Value} {base : Heap} {x : Str} {params : Arguments} {body sts : List Stmt} {scope : Scope} {f c Pt : Addr} {fd : FuncData} {T : List (Addr × Str)} {itf : List (V → V → It)} {p1 p2 p3 p4 p5 : Pos}
    (F : FunD K x x params body scope [] [] f fd) (hcode : codeOf K f = some (.ref c)) (TB : TabB base mg c Pt) (hm : (Pt, x ++ ".<locals>." ++ "<lambda>") ∈ T) (hu : ∀ p ∈ T, p.1 = Pt → p.2 = x ++ ".<locals>." ++ "<lambda>")
    (S : FnScope ["_law_x", "_law_y", "_law_found"] ["_law_x", "_law_y"] scope) (vf : scope.names.lookup ("_law_found" : Str) = some NameKind.local)
    (hb : body = .Assign [.Name "_law_found" p1] (.List [] p2) p3 :: (sts ++ [.Return (some (.Name "_law_found" p4)) p5])) (hn : itf.length < 900)
    (hl : ∀ X : Cx, X.K = K → X.mg = mg → X.env.scope = scope → Mkr X T (x ++ ".<locals>." ++ "<lambda>") → Paired (LineOk X T) sts itf) :
    FnOk P w K mg base CX0 3 f fd ["_law_x", "_law_y"] (spMade T itf) := by
  obtain ⟨oc, od, dV, kV, doc, pm, an, cdv, ct, osl, rfl, lk, hcd, _, _⟩ := F.ex
  have ec : cdv = .ref c := by
    unfold codeOf at hcode
    rw [lk] at hcode
    exact Option.some.inj hcode
  subst ec
  refine fn_of lk hcd S (fun vs H Q E h => ?_) fun A outer s H vs Q E hr h => ?_
  · obtain ⟨x, y, rfl, _⟩ := h
    rfl
  · subst hb
    obtain ⟨vx, vy, rfl, hT, hQ⟩ := h
    have M : Mkr (cxOf CX0 P w K mg base ["_law_x", "_law_y", "_law_found"] x scope f (.ref c) A outer s H E).nox T (x ++ ".<locals>." ++ "<lambda>") :=
      ⟨hr, rfl, vis_par S List.mem_cons_self, vis_par S (List.mem_cons_of_mem _ List.mem_cons_self), .inl vf, ⟨c, Pt, TB, rfl, hm, hu⟩, rfl⟩
    obtain ⟨t, ht, hq⟩ := block_ok (pss_one (ps_ret (pos := p5) (pe_var (pos := p4) (i := 2) (X := (cxOf CX0 P w K mg base ["_law_x", "_law_y", "_law_found"] x scope f (.ref c) A outer s H E).nox) rfl (.inl vf)))) (hl _ rfl rfl rfl M)
    refine ⟨_, PSs.nox (pss_cons (ps_set (i := 2) S.nd rfl (.inl vf) (pe_lst pa_nil)) ht), ?_⟩
    refine ⟨Nat.zero_le _, fun L hL => ?_⟩
    refine hq L vx vy [] _ _ _ rfl rfl rfl ⟨hT.ext fun b o e => by rw [upd_ne (ne_of_none e hL)]; exact e, [], upd_same, .nil⟩ (by simpa using (by omega : itf.length < 1000)) fun H' ms k => ?_
    refine ⟨.ref L, rfl, hQ L H' hL (by simpa using ms) ((Kp.new hL).trans k)⟩
end XK0

/-! E11: several clauses «except x as n»; raise C(e); what never comes; a def that may raise, by its name -/
namespace XK0
open PySem PySem.Spec PyProof.Rows L2 LamX LamV
abbrev Suit := Addr → Value → Option Addr → TS
/-- the clauses in turn: what each wishes, with the name in slot i -/
def wTurn (K : PySem.W.Frag) (i : Nat) (Wo : WX) (D : Ends) : List (Value × Suit) → WX
  | [] => Wo
  | q :: r => wAs K q.1 i q.2 (wTurn K i Wo D r) D
/-- clauses of one name n, with their suites -/
inductive Clauses (X : Cx) (n : Str) : List ExceptHandler → List (Value × Suit) → Prop
  | nil : Clauses X n [] []
  | cons {x : Str} {c : Value} {ts : Suit} {b0 : Stmt} {su : List Stmt} {p1 p2 : Pos} {hs : List ExceptHandler} {l : List (Value × Suit)} (nm : Names X x c)
      (go : ∀ (a : Addr) (oe : Obj) (cls : Value) (d : Option Addr) (pn : List (Addr × Obj)), Zc cls d oe → (∃ vs, oe.data = .fields vs) → PSs (X.suite a ((a, oe) :: pn)) (b0 :: su) (ts a cls d)) (r : Clauses X n hs l) :
      Clauses X n (.ExceptHandler (some (.Name x p1)) (some n) (b0 :: su) p2 :: hs) ((c, ts) :: l)
section
variable {X : Cx} {n : Str} {i : Nat} {Wo : WX}
/-- a caught exception, in the air over the frames; sI: the state without it -/
structure Air (X : Cx) (pins : List (Addr × Obj)) (σ : L2.St) (H : Hp) (sI : Shared) (B : Heap) (a : Addr) (cls : Value) (d : Option Addr) (s3 : Shared) : Prop where
  inv : Inv X pins σ H sI
  fly : HandSPX.FlyingZ B (X.env :: X.outer) a (Zc cls d) s3.heap
  nb : ∀ b o, sI.heap.get? b = some o → b ∉ frs X.stack → B.get? b = some o
  up : sI.heap.UpToSlots s3.heap
  na : H a = none
  os : s3.os = sI.os
  bare : AllBare s3.gens
theorem Air.on {pins : List (Addr × Obj)} {σ : L2.St} {H : Hp} {sI s3 : Shared} {B : Heap} {a : Addr} {cls : Value} {d : Option Addr} (A : Air X pins σ H sI B a cls d s3) : Inv X pins σ H s3 := A.inv.landed A.nb A.fly.1 A.up A.os A.bare
theorem Air.to {pins : List (Addr × Obj)} {σ : L2.St} {H : Hp} {sI s3 : Shared} {B : Heap} {a : Addr} {cls : Value} {d : Option Addr} (A : Air X pins σ H sI B a cls d s3) {h4 : Heap} (f : HandSPX.FlyingZ B (X.env :: X.outer) a (Zc cls d) h4) (u : s3.heap.UpToSlots h4) :
    Air X pins σ H sI B a cls d { s3 with heap := h4 } := ⟨A.inv, f, A.nb, A.up.trans u, A.na, A.os, A.bare⟩
/-- the exception as a pinned object -/
theorem Air.pin {pins : List (Addr × Obj)} {σ : L2.St} {H : Hp} {sI s3 : Shared} {B : Heap} {a : Addr} {cls : Value} {d : Option Addr} (A : Air X pins σ H sI B a cls d s3) (hf : X.env.frame = some X.env.locals) :
    ∃ oe, s3.heap.get? a = some oe ∧ Zc cls d oe ∧ (∃ vs, oe.data = .fields vs) ∧ Inv (X.suite a ((a, oe) :: (X.pn ++ pins))) [] σ H s3 := by
  obtain ⟨oe, vs, at_, z, dat⟩ := A.fly.there
  have off : a ∉ frs (X.env :: X.outer) := fun m => by
    obtain ⟨_, o2, at2, no⟩ := A.fly.2.2.1.mem m
    cases at_.symm.trans at2
    exact no _ dat
  have mem : ∀ e ∈ X.env :: X.outer, ∀ b, e.frame = some b → b ∈ frs (X.env :: X.outer) := fun e m b q => List.mem_filterMap.mpr ⟨e, m, q⟩
  refine ⟨oe, at_, z, ⟨vs, dat⟩, A.on.suite at_ dat A.na (fun y => ?_) fun m => ?_⟩
  · subst y
    exact off (mem _ List.mem_cons_self _ hf)
  · obtain ⟨e, m1, q⟩ := List.mem_filterMap.mp m
    exact off (mem e (List.mem_cons_of_mem _ m1) a q)
theorem clauses_go {pins : List (Addr × Obj)} {σ : L2.St} {H : Hp} {sI : Shared} {B : Heap} {a : Addr} {cls : Value} {d : Option Addr} {D : Ends} (hs : X.stack = X.env :: X.outer) (hf : X.env.frame = some X.env.locals) (nd : X.N.Nodup) (at_ : X.N[i]? = some n) (lc : X.env.kindOf n = some .local) (tk : Takes X Wo) :
    ∀ {hds : List ExceptHandler} {l : List (Value × Suit)}, Clauses X n hds l → ∀ s3, Air X pins σ H sI B a cls d s3 → wTurn X.K i Wo D l cls d σ H → wpAny (model X.prog X.w) X.A (handleBy (.ref a) X.env hds) (SP X pins D) X.xe s3 := by
  intro hds l C
  induction C with
  | nil =>
    intro s3 A want
    refine wpAny_handleBy_nil ?_
    have fly := A.fly
    obtain ⟨_, _, _, oe, vs, T, oT, ts, e1, z, dat, e2, _⟩ := fly
    have go : wpAny (model X.prog X.w) X.A (setFlight (.ref a) X.env.frame) (fun _ s4 => wpAny (model X.prog X.w) X.A (throw (.ref a) : Sem Flow) (SP X pins D) X.xe s4) X.xe s3 := by
      rw [hf]
      refine HandSPX.setFlight_upZ A.fly fun h4 held up => wpAny_throw (tk _ _ ⟨a, B, sI, pins, σ, H, cls, d, rfl, A.inv, A.nb, A.up.trans up, .inr (.inr ?_), A.na, A.os, A.bare, want⟩)
      rw [hs]
      exact held
    unfold PySem.passOn
    refine wpAny_bind (wpAny_field e1 dat e2 ?_)
    have ne : ¬ ((Value.ref T == Value.none) = true) := by simp
    rw [if_neg ne]
    first
      | exact wpAny_bind go
      | exact wpAny_bind (wpAny_pure (wpAny_bind go))
  | @cons x c ts b0 su p1 p2 hs2 l2 nm go r ih =>
    intro s3 A want
    obtain ⟨b, isB, yes, no⟩ := want
    obtain ⟨oe, here, z, dat, S⟩ := A.pin hf
    have ty : PySem.W.Looks (model X.prog X.w) s3.heap (typeOf (.ref a)) cls := fun _ _ _ _ k q => wpAny_typeOf_ref (k _ _ here) (by rw [z.1]; exact q)
    have one := PySem.W.exm_one (M := model X.prog X.w) A.on.kIn ty isB
    have named : ∀ {Q : Value → Shared → Prop} {E : Value → Shared → Prop}, Q c s3 → wpAny (model X.prog X.w) (X.A.mark (some (.ref a))) (eval (.Name x p1) X.env) Q E s3 := by
      intro Q E q
      obtain ⟨g, db, m | ⟨m, v, nn⟩⟩ := nm
      · exact ld_glob (X := X.suite a ((a, oe) :: (X.pn ++ pins))) S g m q db
      · exact ld_blt (X := X.suite a ((a, oe) :: (X.pn ++ pins))) S g m v q nn db
    refine wpAny_handleBy_cons (codeAny_handlers_test (named (one.here ?_))) (fun q => by cases q)
    cases b with
    | false => exact ih s3 A (no rfl)
    | true =>
      refine codeAny_handlers_suite_as (HandSPX.lands_againZ A.fly fun h4 f4 u4 => ?_)
      have A4 := A.to f4 u4
      obtain ⟨oe4, here4, z4, dat4, S4⟩ := A4.pin hf
      refine store_ok (X := X.suite a ((a, oe4) :: (X.pn ++ pins))) (v := .ref a) S4 nd at_ (.inl lc) rfl (fun s5 S5 => ?_) (.inr lc)
      refine wpAny_mono ((go a oe4 cls d (X.pn ++ pins) z4 dat4).run [] s5 _ H _ S5 (yes rfl a A.na)) (fun f s6 y => ?_) fun _ _ y => y.elim
      have off : ∀ {τ : L2.St} {G : Hp} {R : Shared → Prop}, Inv (X.suite a ((a, oe4) :: (X.pn ++ pins))) [] τ G s6 → (∀ s7, Inv X pins (τ.set i none) G s7 → R s7) → wpAny (model X.prog X.w) X.A (do bindName X.env n .none; unbindBehindTheSuite X.env n p2) (fun _ s7 => R s7) X.xe s6 :=
        fun I q => gone_ok (I.unsuite A.inv.ok) nd at_ lc q
      match f, y with
      | .next, ⟨τ, G, I, q⟩ => exact off I fun s7 J => ⟨_, _, J, q⟩
      | .brk, ⟨τ, G, I, q⟩ => exact off I fun s7 J => ⟨_, _, J, q⟩
      | .cont, ⟨τ, G, I, q⟩ => exact off I fun s7 J => ⟨_, _, J, q⟩
      | .ret u, ⟨v, τ, G, I, rv, q⟩ => exact off I fun s7 J => ⟨_, _, _, J, rv, q⟩
/-- try: body, except x as n: .., except y as n: .. -/
theorem ps_tryAs {h0 : ExceptHandler} {hds : List ExceptHandler} {l : List (Value × Suit)} {body : List Stmt} {tb : WX → TS} {pos : Pos} (hs : X.stack = X.env :: X.outer) (hf : X.env.frame = some X.env.locals) (nd : X.N.Nodup) (at_ : X.N[i]? = some n) (lc : X.env.kindOf n = some .local) (tk : Takes X Wo)
    (hb : ∀ (W : WX) (pn : List (Addr × Obj)) (xe : Value → Shared → Prop), Takes (X.tr pn xe) W → PassesOwn (model X.prog X.w) X.A X.env xe → PSs (X.tr pn xe) body (tb W)) (C : Clauses X n (h0 :: hds) l) :
    PS X (.Try body (h0 :: hds) [] [] pos) (fun D σ H => tb (wTurn X.K i Wo D l) D σ H) := by
  refine ⟨fun pins s σ H D I want => wpAny_Try_except ?_⟩
  have fr : X.A.frames = some (X.env :: X.outer) := I.ok.frames.trans (congrArg some hs)
  let xe : Value → Shared → Prop := fun e s1 => wpAny (model X.prog X.w) X.A (noteFrame e X.env) (fun _ s2 => wpAny (model X.prog X.w) X.A (setFlight e none) (fun _ s3 => wpAny (model X.prog X.w) X.A (handleBy e X.env (h0 :: hds)) (SP X pins D) X.xe s3) X.xe s2) X.xe s1
  have takes : Takes (X.tr (X.pn ++ pins) xe) (wTurn X.K i Wo D l) := by
    rintro u s' ⟨a, B, sI, pins', τ, G, cls, d, rfl, J, nb, up, sky, na, os, ag, w⟩
    have sky : Sky B (X.env :: X.outer) a (Zc cls d) X.env.locals s'.heap := hs ▸ sky
    exact Sky.land Zc.steady fr hf sky fun h3 f3 u3 => clauses_go hs hf nd at_ lc tk C _ ⟨J.ofTry I.ok, f3, nb, up.trans u3, na, os, ag⟩ w
  refine wpAny_mono ((hb _ (X.pn ++ pins) xe takes PassesOwn.looking).run [] s σ H D (I.toTry xe) want) (fun f s1 y => ?_) fun _ _ y => y
  match f, y with
  | .next, ⟨τ, G, J, q⟩ => exact wpAny_execs_nil ⟨τ, G, J.ofTry I.ok, q⟩
  | .brk, ⟨τ, G, J, q⟩ => exact ⟨τ, G, J.ofTry I.ok, q⟩
  | .cont, ⟨τ, G, J, q⟩ => exact ⟨τ, G, J.ofTry I.ok, q⟩
  | .ret u, ⟨v, τ, G, J, rv, q⟩ => exact ⟨v, τ, G, J.ofTry I.ok, rv, q⟩
end
/-! ### what never comes -/
theorem ps_dead {X : Cx} {st : Stmt} : PS X st (fun _ _ _ => False) := ⟨fun _ _ _ _ _ _ h => h.elim⟩
theorem pss_dead {X : Cx} {sts : List Stmt} : PSs X sts (fun _ _ _ => False) := ⟨fun _ _ _ _ _ _ h => h.elim⟩
theorem pe_dead {X : Cx} {e : Expr} : PE X e (fun _ _ _ => False) := ⟨fun _ _ _ _ _ _ h => h.elim⟩
/-! ### raise C(e) -/
theorem del_new {H : Hp} {a d : Addr} {o o1 o2 o3 : HO} (ha : H a = none) (ne : d ≠ a) : upd (L2.del (upd (upd (upd H a o1) d o2) a o3) a) d o = upd H d o := by
  funext b
  by_cases e : b = d
  · rw [e, upd_same, upd_same]
  · rw [upd_ne e, upd_ne e]
    unfold L2.del
    by_cases e2 : b = a
    · rw [if_pos e2, e2, ha]
    · rw [if_neg e2, upd_ne e2, upd_ne e, upd_ne e2]
theorem ps_raise1 {X : Cx} {x f : Str} {C : Addr} {W : WX} {e : Expr} {t : TE} {p pos pos2 : Pos} (E : Ec1 X.K X.mg x f C) (hc : X.calm = true) (hr : Room 2 X.A) (tk : Takes X W) (hg : Gl X x) (h : PE X e t) (hdb : (x == ("__debug__" : Str)) = false := by decide)
    (he : starEach [e] X.env = (false, eval e X.env) :: starEach [] X.env := by rfl) : PS X (.Raise (some (.Call (.Name x p) [e] [] pos)) none pos2) (fun D σ H => tMkO C (spI1 X.K f) [] (tCons t tNil) σ H fun cls d H' => W cls d σ H') := by
  obtain ⟨fI, fd, i1, i2, i3, ⟨b1, b2⟩, _⟩ := E.ini
  have bd : Binds X.K fd ["self", f] [] := fun s us kin hl => by
    have z := b1 s us [] kin (by simpa using hl) rfl
    simpa using z
  exact ps_raise (pos := pos2) hc tk (pmk_oex (p := p) (pos := pos) E.ox i1 i2 (i3 X.prog X.w X.base) hr bd .nil pass0 hg E.gl (pa_cons h pa_nil he) hdb he rfl)
theorem mk1_ok {K : PySem.W.Frag} {mg : Str → Option Value} {x f : Str} {C : Addr} (E : Ec1 K mg x f C) {Q : XK} {H1 : Hp} {y : V} (k : ∀ d, H1 d = none → Q (.ref C) (some d) (upd H1 d (.xd [(f, y)]))) :
    [y].length ≤ 1000 ∧ ∀ a, H1 a = none → spI1 K f (.ref a :: ([y] ++ [])) (upd H1 a (exo a C none)) (fun v H2 => v = .non ∧ ∃ (d : Addr) (fs : List (Str × V)), H2 a = some (exo a C (some d)) ∧ H2 d = some (exd d fs) ∧ H1 d = none ∧ Q (.ref C) (some d) (upd (L2.del H2 a) d (.xd fs))) (fun _ _ _ => False) := by
  refine ⟨by show 1 ≤ 1000; decide, fun a ha => ⟨a, C, y, rfl, E.ox, E.no, upd_same, fun d hd ne => ⟨rfl, d, [(f, y)], upd_same, (upd_ne ne).trans upd_same, (fresh_of hd).1, ?_⟩⟩⟩
  rw [del_new ha ne]
  exact k d (fresh_of hd).1
/-! ### a def that may raise, by the module's name -/
def HasX (P : Program) (w : World) (K : PySem.W.Frag) (mg : Str → Option Value) (base : Heap) (x : Str) (k : Nat) (ps : List Str) (sp : Sp) : Prop := ∃ f fd, mg x = some (.ref f) ∧ PySem.W.keepIn K (.ref f) = true ∧ Binds K fd ps [] ∧ FnOk P w K mg base (L2.CX P w) k f fd ps sp
theorem pe_hasX {X : Cx} {k j : Nat} {x : Str} {ps : List Str} {sp : Sp} {W : WX} {E : XK} {p pos : Pos} {e : Expr} {es : List Expr} {t : TA} (F : HasX X.prog X.w X.K X.mg X.base x k ps sp) (hr : Room j X.A) (le : k ≤ j) (hg : Gl X x) (tk : Takes X W) (hW : ∀ cls d σ H, E cls d H → W cls d σ H) (ha : PA X (e :: es) t) (dbg : (x == ("__debug__" : Str)) = false := by decide)
    (stars : starEach (e :: es) X.env = (false, eval e X.env) :: starEach es X.env := by rfl) (plain : (backTo pos (starEach es X.env)).any (·.1) = false := by rfl) : PE X (.Call (.Name x p) (e :: es) [] pos) (tCall sp [] E t) := by
  obtain ⟨f, fd, gf, kf, bf, F⟩ := F
  exact pe_call F (hr.mono le) hg gf kf bf .nil (passes_call tk hW) ha dbg stars plain
end XK0

/-! A1: is_list, is_word, first_bad_word -/
namespace TH
open PySem PySem.Spec PyProof.Rows L2
def top (i : Nat) : Stmt := PySem.Challenge.pw_meettasks_k59_jobs_told_and_refused.main.body.getD i (.Pass ⟨0, 0, 0, 0⟩)
abbrev FnP (K : PySem.W.Frag) (x : Str) (st : Stmt) (f : Addr) (fd : FuncData) : Prop := FunD K x x (defArgs st) (defBody st) (defScope st) [] [] f fd
/-- nothing that was there is changed -/
def Ex (H H' : Hp) : Prop := ∀ b o, H b = some o → H' b = some o
theorem Ex.refl {H : Hp} : Ex H H := fun _ _ h => h
theorem Ex.trans {H H1 H2 : Hp} (a : Ex H H1) (b : Ex H1 H2) : Ex H H2 := fun c o h => b c o (a c o h)
theorem Ex.new {H : Hp} {a : Addr} {o : HO} (h : H a = none) : Ex H (upd H a o) := fun b u e => (upd_ne (ne_of_none e h)).trans e
theorem Ex.none {H H' : Hp} (x : Ex H H') {p : Addr} (h : H' p = none) : H p = none := by
  cases q : H p with
  | none => rfl
  | some o => rw [x _ _ q] at h; cases h
theorem Ex.sqL {K : PySem.W.Frag} {H H' : Hp} {a : Addr} {xs : List V} (k : Ex H H') (h : SqL K H a xs) : SqL K H' a xs := h.imp (Or.imp (k _ _) fun ⟨o, z⟩ => ⟨o, k _ _ z⟩) id
theorem Ex.sqT {K : PySem.W.Frag} {H H' : Hp} {a : Addr} {xs : List V} (k : Ex H H') (h : SqT K H a xs) : SqT K H' a xs := h.imp (Or.imp (k _ _) fun ⟨o, z⟩ => ⟨o, k _ _ z⟩) id
/-- a def that keeps a promise, by the module's name -/
def Has (P : Program) (w : World) (K : PySem.W.Frag) (mg : Str → Option Value) (base : Heap) (x : Str) (k : Nat) (ps : List Str) (sp : Sp) : Prop := ∃ f fd, mg x = some (.ref f) ∧ PySem.W.keepIn K (.ref f) = true ∧ Binds K fd ps [] ∧ FnOk P w K mg base CX0 k f fd ps sp
theorem pe_has {X : Cx} {k j : Nat} {x : Str} {ps : List Str} {sp : Sp} {p pos : Pos} {e : Expr} {es : List Expr} {t : TA} (F : Has X.prog X.w X.K X.mg X.base x k ps sp) (hr : Room j X.A) (le : k ≤ j) (hg : Gl X x) (ha : PA X (e :: es) t) (dbg : (x == ("__debug__" : Str)) = false := by decide)
    (stars : starEach (e :: es) X.env = (false, eval e X.env) :: starEach es X.env := by rfl) (plain : (backTo pos (starEach es X.env)).any (·.1) = false := by rfl) : PE X (.Call (.Name x p) (e :: es) [] pos) (tCall sp [] E0 t) := by
  obtain ⟨f, fd, gf, kf, bf, F⟩ := F
  exact pe_call F (hr.mono le) hg gf kf bf .nil pass0 ha dbg stars plain
/-! ### kinds of values -/
def tys : List String := ["NoneType", "bool", "int", "str", "list", "tuple", "dict"]
/-- the kind of a value -/
def Kd (K : PySem.W.Frag) (H : Hp) (v : V) (T : String) : Prop := T ∈ tys ∧ TyX K H v (.type T) ∧ ∀ x, v = .str x → x.length ≤ 1000
theorem tyx_ex {K : PySem.W.Frag} {H H' : Hp} {v : V} {t : Value} (x : Ex H H') (h : TyX K H v t) : TyX K H' v t := by
  cases h with
  | base h =>
    refine .base ?_
    cases h with
    | non => exact .non
    | bl b => exact .bl b
    | int i => exact .int i
    | str z => exact .str z
    | flt z => exact .flt z
    | lst e => exact .lst (x _ _ e)
    | frz e => exact .frz (x _ _ e)
    | tup e => exact .tup (x _ _ e)
    | dK e => exact .dK (x _ _ e)
    | dT e => exact .dT (x _ _ e)
    | ins e cl ha hn htk hm => exact .ins (x _ _ e) cl ha hn htk hm
  | byt b => exact .byt b
  | set e => exact .set (x _ _ e)
  | kList e c => exact .kList e c
  | kTuple e c => exact .kTuple e c
  | kDict e c => exact .kDict e c
  | fTuple e => exact .fTuple (x _ _ e)
  | fDict e => exact .fDict (x _ _ e)
theorem Kd.ex {K : PySem.W.Frag} {H H' : Hp} {v : V} {T : String} (x : Ex H H') (h : Kd K H v T) : Kd K H' v T := ⟨h.1, tyx_ex x h.2.1, h.2.2⟩
theorem Kd.str {K : PySem.W.Frag} {H : Hp} {v : V} (h : Kd K H v "str") : ∃ x, v = .str x ∧ x.length ≤ 1000 := by
  obtain ⟨_, h, l⟩ := h
  generalize e : Value.type "str" = t at h
  cases h with
  | base h => cases h <;> first | exact ⟨_, rfl, l _ rfl⟩ | (exfalso; simp at e)
  | _ => exfalso; simp at e
def isLt (T : String) : Bool := decide (T = "list") || decide (T = "tuple")
theorem kit_lt {K : PySem.W.Frag} {T : String} (h : T ∈ tys) : PySem.W.kitAny K (.type T) [.type "list", .type "tuple"] = some (isLt T) := by
  have key : ∀ a b c : Bool, ∀ S : String, kitB S "list" = some a → kitB S "tuple" = some b → isLt S = c → (a || b) = c → PySem.W.kitAny K (.type S) [.type "list", .type "tuple"] = some (isLt S) := by
    intro a b c S h1 h2 h3 h4
    unfold PySem.W.kitAny
    rw [kit_ty h1]
    cases a with
    | true => rw [h3, ← h4]; rfl
    | false =>
      show PySem.W.kitAny K (.type S) [.type "tuple"] = _
      unfold PySem.W.kitAny
      rw [kit_ty h2]
      cases b with
      | true => rw [h3, ← h4]; rfl
      | false => rw [h3, ← h4]; rfl
  simp only [tys, List.mem_cons, List.mem_nil_iff, or_false] at h
  rcases h with rfl | rfl | rfl | rfl | rfl | rfl | rfl
  · exact key false false false _ (by decide +kernel) (by decide +kernel) (by decide +kernel) rfl
  · exact key false false false _ (by decide +kernel) (by decide +kernel) (by decide +kernel) rfl
  · exact key false false false _ (by decide +kernel) (by decide +kernel) (by decide +kernel) rfl
  · exact key false false false _ (by decide +kernel) (by decide +kernel) (by decide +kernel) rfl
  · exact key true false true _ (by decide +kernel) (by decide +kernel) (by decide +kernel) rfl
  · exact key false true true _ (by decide +kernel) (by decide +kernel) (by decide +kernel) rfl
  · exact key false false false _ (by decide +kernel) (by decide +kernel) (by decide +kernel) rfl
theorem kit_str {K : PySem.W.Frag} {T : String} (h : T ∈ tys) : PySem.W.kitOne K (.type T) (.type "str") = some (decide (T = "str")) := by
  simp only [tys, List.mem_cons, List.mem_nil_iff, or_false] at h
  rcases h with rfl | rfl | rfl | rfl | rfl | rfl | rfl <;> exact kit_ty (by decide +kernel)
/-! ### is_list -/
abbrev sIsList : Stmt := top 5
abbrev sIsWord : Stmt := top 7
def spIsList (K : PySem.W.Frag) : Sp := fun vs H Q _ => ∃ v T, vs = [v] ∧ Kd K H v T ∧ ∀ H', Ex H H' → Q (.bl (isLt T)) H'
section
variable {P : Program} {w : World} {K : PySem.W.Frag} {mg : Str → Option Value} {base : Heap} {f : Addr} {fd : FuncData}
theorem scIsList : FnScope ["thing"] ["thing"] (defScope sIsList) := ⟨rfl, rfl, rfl, by decide +kernel, rfl, by decide +kernel, by decide +kernel⟩
theorem ok_is_list (F : FnP K "is_list" sIsList f fd) (gi : mg "isinstance" = none) (gl : mg "list" = none) (gt : mg "tuple" = none) : FnOk P w K mg base CX0 1 f fd ["thing"] (spIsList K) := by
  refine F.ok scIsList (fun vs H Q E h => ?_) (fun cdv A outer s H vs Q E hr h => ?_)
  · obtain ⟨v, T, rfl, _⟩ := h
    rfl
  · refine ⟨_, PSs.nox (pss_one (ps_ret (pe_callB call_isiT rfl gi boot_isinstance (pa_cons (pv 0) (pa_cons (pe_tup (pa_cons (pe_bltn (v := .ty "list") rfl gl boot_list rfl) (pa_cons (pe_bltn (v := .ty "tuple") rfl gt boot_tuple rfl) pa_nil))) pa_nil))))), ?_⟩
    obtain ⟨v, T, rfl, ⟨t1, t2, _⟩, hQ⟩ := h
    exact ⟨v, rfl, by show 2 ≤ sizeLine; decide, fun tp htp => ⟨v, tp, _, _, [.type "list", .type "tuple"], _, rfl, upd_same, .cons (.ty "list") (.cons (.ty "tuple") .nil), tyx_ex (Ex.new htp) t2, kit_lt t1, hQ _ (Ex.new htp)⟩⟩
end
end TH

/-! A2: is_word -/
namespace TH
open PySem PySem.Spec PyProof.Rows L2
def letters : Str := "abcdefghijklmnopqrstuvwxyz"
def okS (x : Str) : Bool := decide (1 ≤ x.length) && (decide (x.length ≤ 8) && x.cps.toList.all fun c => decide (c ∈ letters.cps.toList))
/-- a word: one to eight small letters -/
def isWd : V → Bool
  | .str x => okS x
  | _ => false
def spIsWord (K : PySem.W.Frag) : Sp := fun vs H Q _ => ∃ v T, vs = [v] ∧ Kd K H v T ∧ ∀ H', Ex H H' → Q (.bl (isWd v)) H'
theorem isWd_no {K : PySem.W.Frag} {H : Hp} {v : V} {T : String} (h : Kd K H v T) (n : T ≠ "str") : isWd v = false := by
  cases v with
  | str x =>
    obtain ⟨_, t, _⟩ := h
    cases t with
    | base t => cases t; exact absurd rfl n
  | _ => rfl
section
variable {P : Program} {w : World} {K : PySem.W.Frag} {mg : Str → Option Value} {base : Heap} {f : Addr} {fd : FuncData}
theorem scIsWord : FnScope ["thing", "sign"] ["thing"] (defScope sIsWord) := ⟨rfl, rfl, rfl, by decide +kernel, rfl, by decide +kernel, by decide +kernel⟩
theorem ok_is_word {t : Tok} (F : FnP K "is_word" sIsWord f fd) (gi : mg "isinstance" = none) (gs : mg "str" = none) (gn : mg "len" = none) (ga : mg "all" = none) (gL : mg "LETTERS" = some (.str letters t)) : FnOk P w K mg base CX0 1 f fd ["thing"] (spIsWord K) := by
  refine F.ok scIsWord (fun vs H Q E h => ?_) (fun cdv A outer s H vs Q E hr h => ?_)
  · obtain ⟨v, T, rfl, _⟩ := h
    rfl
  · refine ⟨_, PSs.nox (pss_one (ps_ret (pe_and (pe_callB call_isi rfl gi boot_isinstance (pa_cons (pv 0) (pa_cons (pe_bltn (v := .ty "str") rfl gs boot_str rfl) pa_nil)))
      (pe_and (pe_chain op_le op_le pe_int (pe_callB call_len rfl gn boot_len (pa_cons (pv 0) pa_nil)) pe_int)
      (pe_one (pe_callB (cr_all rfl) rfl ga boot_all (pa_cons (pe_lc (own := [("sign", 1)]) rfl scIsWord.nd (pi_str (pv 0)) (blkOk_by (by kernel_rfl)) (fun s H C cl fp => pg_name (i := 1) scIsWord.nd rfl (.inl rfl) (.inr rfl)) (fun s H C cl fp => pts_nil)
        (fun s H C cl fp => pe_cmpR op_in_sign (pv 1) (pe_glob (v := .str letters) rfl gL ⟨_, rfl⟩) (by with_unfolding_all rfl))) pa_nil))))))), ?_⟩
    obtain ⟨v, T, rfl, k, hQ⟩ := h
    refine ⟨v, rfl, v, .ty "str", _, _, _, rfl, .ty "str", k.2.1, kit_str k.1, _, rfl, ?_⟩
    by_cases hT : T = "str"
    · subst hT
      obtain ⟨x, rfl, hl⟩ := k.str
      rw [if_pos (by simp)]
      refine ⟨.str x, rfl, .str x, x.length, rfl, ⟨by rw [sizeLine_eq]; omega, rfl⟩, 1, x.length, rfl, rfl, _, rfl, ?_⟩
      by_cases h1 : (1 : Int) ≤ x.length
      · rw [if_pos (decide_eq_true h1)]
        refine ⟨x.length, 8, rfl, rfl, _, rfl, ?_⟩
        by_cases h8 : (x.length : Int) ≤ 8
        · rw [if_pos (decide_eq_true h8)]
          refine ⟨.str x, rfl, x, rfl, fun D hD => ?_⟩
          have ext : ∀ l : List V, Ex H (upd H D (.lst l)) := fun l => Ex.new hD
          refine lc_it walk_str (fun n H2 => H2 = upd H D (.lst ((x.cps.toList.take n).map fun c => V.bl (decide (c ∈ letters.cps.toList))))) rfl (fun _ _ _ _ => trivial) (fun n v H2 H3 hn e y => ?_) fun H2 e => ?_
          · obtain ⟨rfl, c, hc, rfl⟩ := y
            subst e
            refine ⟨rfl, .str ⟨#[c]⟩, rfl, c, letters, rfl, rfl, _, upd_same, ?_, ?_⟩
            · have e1 : x.cps.toList.length = x.length := Array.length_toList
              rw [sizeLine_eq, List.length_map, List.length_take, e1]
              have := Nat.min_le_right n x.length
              omega
            · rw [upd_upd]
              have hc' : x.cps.toList[n]? = some c := by simpa using hc
              rw [List.take_add_one, hc', List.map_append]
              rfl
          · subst e
            have et : x.cps.toList.take x.cps.size = x.cps.toList := List.take_of_length_le (by simp)
            refine ⟨D, x.cps.toList.map fun c => decide (c ∈ letters.cps.toList), rfl, .inl (.inl ?_), ?_⟩
            · rw [upd_same, et, List.map_map]
              rfl
            · have q := hQ _ (ext ((x.cps.toList.take x.cps.size).map fun c => V.bl (decide (c ∈ letters.cps.toList))))
              have e2 : isWd (.str x) = (x.cps.toList.map fun c => decide (c ∈ letters.cps.toList)).all id := by
                show okS x = _
                unfold okS
                rw [decide_eq_true (show 1 ≤ x.length by omega), decide_eq_true (show x.length ≤ 8 by omega), List.all_map]
                rfl
              rw [e2] at q
              exact q
        · rw [if_neg (by simpa using h8)]
          have q := hQ _ Ex.refl
          rw [show isWd (.str x) = false by
            show okS x = false
            unfold okS
            rw [decide_eq_false (show ¬ x.length ≤ 8 by omega)]
            simp] at q
          exact q
      · rw [if_neg (by simpa using h1)]
        refine ⟨_, rfl, ?_⟩
        have q := hQ _ Ex.refl
        rw [show isWd (.str x) = false by
          show okS x = false
          unfold okS
          rw [decide_eq_false (show ¬ 1 ≤ x.length by omega)]
          rfl] at q
        exact q
    · rw [if_neg (by simpa using hT)]
      have q := hQ _ Ex.refl
      rw [isWd_no k hT] at q
      exact q
end
end TH

/-! A3: enumerate over a tuple -/
namespace TH
open PySem PySem.Spec PyProof.Rows L2
abbrev enO (it : Addr) : Obj := { cls := .type "enumerate", data := .fields #[.none, .bool false, .ref it, rawInt 0, .none, .none] }
set_option maxHeartbeats 8000000 in
theorem enum_made {v : Value} {o : Obj} {G : Heap → Prop} (B : Begins v o G) :
    Meets (Builtin.«enumerate.__new__» ⟨[.type "enumerate", v], []⟩) (fun _ R s => G s.heap ∧ R (.ok (.ret (.ref (s.heap.push o).objs.size))) { s with heap := (s.heap.push o).push (enO s.heap.objs.size) }) :=
  .of_wp fun prog w A R s ⟨g1, g2⟩ => by
    obtain ⟨hp, g, d, tk, os⟩ := s
    have sb := sub_enumerate
    have begun : ∀ {A' : Around} {E : Value → Shared → Prop} {Q : Value → Shared → Prop}, Q (.ref hp.objs.size) ⟨hp.push o, g, d, tk, os⟩ → wpAny (model prog w) A' (pyIter v) Q E ⟨hp, g, d, tk, os⟩ := fun q => B.iter prog w _ _ _ _ g1 q
    wp_walk using begun
    refine wpAny_stack_any fun st => wpAny_pure ?_
    split
    · rename_i c _ _ _ _ _
      cases (c == Value.type "enumerate") <;> (wp_walk using begun; exact ⟨_, rfl, g2⟩)
    · wp_walk using begun
      exact ⟨_, rfl, g2⟩
theorem enum_call {prog : Program} {w : World} {A : Around} {E : Value → Shared → Prop} {s : Shared} {v : Value} {o : Obj} {G : Heap → Prop} {Q : Value → Shared → Prop} (B : Begins v o G) (g1 : G s.heap)
    (q : Q (.ref (s.heap.objs.size + 1)) { s with heap := (s.heap.push o).push (enO s.heap.objs.size) }) : wpAny (model prog w) A (call (.type "enumerate") [v]) Q E s := by
  refine callType_new F.called_enumerate (by decide) (F.typeCall_enumerate_1 _) (F.newCall_enumerate_1 _) (fun x => F.args_object_init_2 x _) F.entry_enumerate_new (enum_made B) ⟨g1, ?_⟩
  have sz : (s.heap.push o).objs.size = s.heap.objs.size + 1 := Heap.size_push ..
  have new := Heap.get?_push_size (s.heap.push o) (o := enO s.heap.objs.size) rfl
  show _ ∧ _
  rw [sz] at new ⊢
  exact ⟨⟨_, new, rfl⟩, q⟩
/-- the tuple at a, each item in a new pair -/
def ItE (K : PySem.W.Frag) (a : Addr) : It :=
  ⟨fun i H => ∃ (xs : List V) (x : V), SqT K H a xs ∧ xs[i]? = some x, fun i H v H' => ∃ T x, v = .ref T ∧ H T = none ∧ H' = upd H T (.tup [.int (i : Nat), x]) ∧ ∀ xs, SqT K H a xs → xs[i]? = some x, fun i H => ∃ xs : List V, SqT K H a xs ∧ xs.length = i⟩
theorem walk_enumT {K : PySem.W.Frag} {a : Addr} {xs : List V} : Walk (ItE K a) xs.length (fun H => SqT K H a xs) (YPair (fun i => some (.int (i : Nat))) (fun i => xs[i]?)) where
  goes := fun i H hi h => ⟨xs, xs[i], h, List.getElem?_eq_getElem hi⟩
  stops := fun H h => ⟨xs, h, rfl⟩
  yields := fun i H v H' _ h ⟨T, x, e1, e2, e3, e4⟩ => ⟨T, _, x, e1, e2, e3, rfl, e4 xs h⟩
/-- how the two new objects stand at turn i -/
def EnSt (a e it : Addr) (i : Nat) (h : Heap) : Prop := (∃ old, IsEnum h e it ((i : Nat) : Int) old) ∧ h.IsTupleIter it a i ∧ e ≠ it ∧ a ≠ it ∧ e ≠ a
theorem turn_enumT {P : Program} {w : World} {K : PySem.W.Frag} {elts : List Expr} {kk : Nat} {tpos : Pos} (a e it : Addr) : Turn P w K (.Tuple elts kk tpos) (ItE K a) [e, it] e (EnSt a e it) where
  mem := List.mem_cons_self
  obj := fun i h ⟨⟨old, he⟩, ⟨o, ho, _, hd⟩, _⟩ b hb => by
    rcases List.mem_cons.mp hb with z | z
    · subst z
      exact ⟨_, he, fun v q => nomatch q⟩
    · rw [List.mem_singleton.mp z]
      exact ⟨o, ho, fun v q => by rw [hd] at q; cases q⟩
  keep := fun i h h' ⟨⟨old, he⟩, hi, hne⟩ k => ⟨⟨old, k e List.mem_cons_self _ he⟩, hi.at fun o q => k it (by simp) o q, hne⟩
  item := by
    intro X hP hw hK hc i pins s σ H E I hf st ⟨xs, x, sq, hx⟩
    subst hP hw hK
    obtain ⟨⟨old, he⟩, hit, ne, na, nea⟩ := st
    obtain ⟨its, rel, tp, _⟩ := I.tuple sq
    obtain ⟨u, hu, ru⟩ := rel.get hx
    have lte : e < s.heap.objs.size := Heap.lt_size he
    have lti : it < s.heap.objs.size := by
      obtain ⟨_, q, _⟩ := hit
      exact Heap.lt_size q
    have lt : i < its.toArray.size := by
      obtain ⟨z, _⟩ := List.getElem?_eq_some_iff.mp hu
      simpa using z
    refine wpAny_pyNext_enum_itemC (Draws.tuple (show X.A.in1.handled = none from I.ok.hd hc) it a na its.toArray) he ⟨hit, tp⟩ lt ne (by simp [ne, nea]) fun y h1 tk py out st1 new sz keep => ?_
    have ey : y = u := Option.some.inj (py.symm.trans (by simpa using hu))
    subst ey
    refine ⟨_, rfl, wpAny_letOwnedTupleGo_enum (s := { s with heap := h1, toks := tk + 1 }) out fun h2 he2 sb => ?_⟩
    have new2 : h2.get? s.heap.objs.size = some { cls := .type "tuple", data := .seq #[.int i tk, y] } := (sb.2 _ (Nat.ne_of_gt lte)).trans new
    have ok : ObjOk X.prog X.w (upd H s.heap.objs.size (.tup [.int (i : Nat), x])) h2 s.heap.objs.size (.tup [.int (i : Nat), x]) := ⟨by show 2 ≤ sizeLine; decide, [.int i tk, y], .cons ⟨_, rfl⟩ (.cons ru .nil), _, new2, rfl, _, rfl⟩
    have J : Inv X pins σ (upd H s.heap.objs.size (.tup [.int (i : Nat), x])) { s with heap := h2, toks := tk + 1 } :=
      I.turnedNew (ch := [e, it]) (fun b ob hb q => (sb.2 b fun z => hb (by simp [z])).trans (keep b ob (fun z => hb (by simp [z])) (fun z => hb (by simp [z])) q)) hf (Nat.le_refl _) ok
    refine ⟨.ref s.heap.objs.size, _, J, rfl, ⟨_, x, rfl, I.hok.fresh (Nat.le_refl _), rfl, fun ys z => by rw [I.tuple_inj z sq]; exact hx⟩, ⟨⟨y, ?_⟩, st1.1.at fun o q => (sb.2 it (Ne.symm ne)).trans q, ne, na, nea⟩, fun b hb => ?_⟩
    · rw [show ((i + 1 : Nat) : Int) = (i : Int) + 1 by omega]
      exact he2
    · have lb : b < s.heap.objs.size := by
        rcases List.mem_cons.mp hb with z | z
        · rw [z]; exact lte
        · rw [List.mem_singleton.mp z]; exact lti
      exact (upd_ne (Nat.ne_of_lt lb)).trans (hf b hb).1
  done := by
    intro X hP hw hK hc i pins s σ H E I hf st ⟨xs, sq, le⟩
    subst hP hw hK le
    obtain ⟨⟨old, he⟩, hit, ne, na, nea⟩ := st
    obtain ⟨its, rel, tp, _⟩ := I.tuple sq
    have en : its.toArray.size = xs.length := by
      rw [List.size_toArray]
      exact rel.length.symm
    obtain ⟨f0, f1, _, f3, f4, f5⟩ := hf it (by simp)
    exact wpAny_pyNext_enum_endD (Draws.tuple (show X.A.in1.handled = none from I.ok.hd hc) it a na its.toArray) he ⟨en ▸ hit, tp⟩ fun h1 eb => ⟨rfl, I.turned (t' := s.toks) (fun b o nb q => eb b o nb q) f0 f1 f3 f4 f5⟩
  self := fun A i s Q E ⟨⟨_, he⟩, _⟩ h => wpAny_pyIter_enum he h
/-- a sequence: a list or a tuple -/
def Sq (K : PySem.W.Frag) (H : Hp) (a : Addr) (xs : List V) : Prop := SqL K H a xs ∨ SqT K H a xs
/-- a walk in numbered pairs over xs, which goes as long as what stood at its begin stands -/
def EnW (H : Hp) (xs : List V) (J : It) : Prop := ∃ G, Walk J xs.length G (YPair (fun i => some (.int (i : Nat))) (fun i => xs[i]?)) ∧ ∀ H', Ex H H' → G H'
def iEnumT (K : PySem.W.Frag) (ta : TA) : TI := fun σ H R => ta σ H fun vs H1 => ∃ (a : Addr) (xs : List V) (H0 : Hp), vs = [.ref a] ∧ Ex H0 H1 ∧ Sq K H0 a xs ∧ ∀ J, EnW H0 xs J → R J H1
/-- enumerate of a list or a tuple -/
theorem pi_enumT {X : Cx} {e : Expr} {ta : TA} {p pos tpos : Pos} {elts : List Expr} {kk : Nat} (hg : Gl X "enumerate") (hm : X.mg "enumerate" = none) (ha : PA X [e] ta) (stars : starEach [e] X.env = [(false, eval e X.env)] := by rfl) :
    PI X (.Tuple elts kk tpos) (.Call (.Name "enumerate" p) [e] [] pos) (iEnumT X.K ta) := ⟨fun pins s σ H R I h => Call_ (ld_blt I hg hm boot_enumerate (PyProof.Rows.callWith_type1 (thn (ha.run pos pins s σ H _ I h) fun us s1 ⟨vs, H1, J, rel, a, xs, H0, ev, x0, sq, q⟩ => by
  subst ev
  cases rel with
  | cons r rr =>
    cases rr
    cases r
    have far : ∀ b, b ∈ [s1.heap.objs.size + 1, s1.heap.objs.size] → s1.heap.objs.size ≤ b := fun b m => by
      rcases List.mem_cons.mp m with z | z
      · rw [z]; exact Nat.le_succ _
      · rw [List.mem_singleton.mp z]; exact Nat.le_refl _
    have apart : ∀ b, b ∈ [s1.heap.objs.size + 1, s1.heap.objs.size] → FpOk X pins H1 b := fun b m => J.fpOk (far b m) (J.hok.fresh (far b m))
    rcases sq with sq | sq
    · obtain ⟨its, _, lp, _⟩ := J.list (x0.sqL sq)
      exact call_enumerate_list lp.isList fun h1 en li _ keep => wpAny_pyIter_enum en ⟨s1.heap.objs.size + 1, _, _, _, H1, rfl, J.kept (t' := s1.toks) keep, turn_enum a (s1.heap.objs.size + 1) s1.heap.objs.size, ⟨⟨.none, en⟩, li, Nat.succ_ne_self _⟩, apart, q _ ⟨_, walk_enum, fun H' x => x.sqL sq⟩⟩
    · obtain ⟨its, _, tp, _⟩ := J.tuple (x0.sqT sq)
      have la : a < s1.heap.objs.size := by
        obtain ⟨_, z, _⟩ := tp
        exact Heap.lt_size z
      have tI : (s1.heap.push { cls := .type "tuple_iterator", data := .fields #[.ref a, .int 0 0] }).objs.size = s1.heap.objs.size + 1 := Heap.size_push ..
      have en : IsEnum ((s1.heap.push { cls := .type "tuple_iterator", data := .fields #[.ref a, .int 0 0] }).push (enO s1.heap.objs.size)) (s1.heap.objs.size + 1) s1.heap.objs.size 0 .none := by
        have z := Heap.get?_push_size (s1.heap.push { cls := .type "tuple_iterator", data := .fields #[.ref a, .int 0 0] }) (o := enO s1.heap.objs.size) rfl
        rw [tI] at z
        exact z
      refine enum_call (begins_tuple a its.toArray) tp (wpAny_pyIter_enum en ⟨s1.heap.objs.size + 1, _, _, _, H1, rfl, J.kept (t' := s1.toks) fun b o z => Heap.get?_push_of_some _ (Heap.get?_push_of_some _ z), turn_enumT a (s1.heap.objs.size + 1) s1.heap.objs.size, ⟨⟨.none, en⟩, ⟨_, Heap.get?_push_of_some _ (Heap.get?_push_size _ rfl), rfl, rfl⟩, Nat.succ_ne_self _, Nat.ne_of_lt la, Nat.ne_of_gt (Nat.lt_succ_of_lt la)⟩, apart, q _ ⟨_, walk_enumT, fun H' x => x.sqT sq⟩⟩)) stars rfl))⟩
end TH

/-! A4: first_bad_word -/
namespace TH
open PySem PySem.Spec PyProof.Rows L2
/-- the first that is no word, or was met -/
def fbw : List V → List V → Nat → Option Nat
  | [], _, _ => none
  | x :: r, met, i => if (!isWd x || inV x met) = true then some i else fbw r (met ++ [x]) (i + 1)
def optV : Option Nat → V
  | none => .non
  | some i => .int i
theorem Sq.ex {K : PySem.W.Frag} {H H' : Hp} {a : Addr} {xs : List V} (k : Ex H H') (h : Sq K H a xs) : Sq K H' a xs := h.imp k.sqL k.sqT
theorem sqL_kd {K : PySem.W.Frag} {H : Hp} {a : Addr} {xs : List V} (h : SqL K H a xs) : Kd K H (.ref a) "list" := by
  refine ⟨by decide, ?_, fun x z => nomatch z⟩
  rcases h with (h | ⟨o, h⟩) | ⟨o, its, n, hk, hc, _⟩
  · exact .base (.lst h)
  · exact .base (.frz h)
  · exact .kList hk hc
theorem sqT_kd {K : PySem.W.Frag} {H : Hp} {a : Addr} {xs : List V} (h : SqT K H a xs) : Kd K H (.ref a) "tuple" := by
  refine ⟨by decide, ?_, fun x z => nomatch z⟩
  rcases h with (h | ⟨o, h⟩) | ⟨o, its, n, hk, hc, _⟩
  · exact .base (.tup h)
  · exact .fTuple h
  · exact .kTuple hk hc
def spFirstBad (K : PySem.W.Frag) : Sp := fun vs H Q _ => ∃ (v : V) (b : Addr), vs = [v, .ref b] ∧ H b = some (.lst []) ∧
  ((∃ T, Kd K H v T ∧ isLt T = false ∧ ∀ H', Ex H H' → Q (.int 0) H') ∨
   ∃ (a : Addr) (xs : List V), v = .ref a ∧ Sq K H a xs ∧ xs.length ≤ 1000 ∧ (∀ x ∈ xs, ∃ T, Kd K H x T) ∧ ∀ H', Ex H H' → Q (optV (fbw xs [] 0)) H')
theorem isWd_str {v : V} (h : isWd v = true) : ∃ x, v = .str x := by
  cases v with
  | str x => exact ⟨x, rfl⟩
  | _ => cases h
theorem fbw_step {xs : List V} {i : Nat} {x : V} {met : List V} (h : xs[i]? = some x) : fbw (xs.drop i) met i = if (!isWd x || inV x met) = true then some i else fbw (xs.drop (i + 1)) (met ++ [x]) (i + 1) := by
  obtain ⟨lt, e⟩ := List.getElem?_eq_some_iff.mp h
  rw [List.drop_eq_getElem_cons lt, e]
  rfl
section
variable {P : Program} {w : World} {K : PySem.W.Frag} {mg : Str → Option Value} {base : Heap} {f : Addr} {fd : FuncData}
end
end TH

/-! A5: [*d, ..]; a Thing in memory; names_of, led_to -/
namespace TH
open PySem PySem.Spec PyProof.Rows L2
def tStarD (te : TE) (t : TA) : TA := fun σ H Q => te σ H fun x H1 => ∃ (d : Addr) (kvs : List (Key × V)), x = .ref d ∧ Rd H1 d (.dK kvs) ∧ t σ H1 fun ys H2 => Q ((kvs.map fun kv => kV kv.1) ++ ys) H2
theorem pa_starD {X : Cx} {e : Expr} {es : List Expr} {te : TE} {t : TA} {p : Pos} (hc : X.calm = true) (he : PE X e te) (hr : PA X es t) (stars : starEach (.Starred e p :: es) X.env = (true, eval e X.env) :: starEach es X.env := by rfl) :
    PA X (.Starred e p :: es) (tStarD te t) := ⟨fun pos pins s σ H Q I h => PySem.W.items_star (thn (he.run pins s σ H _ I h) fun v s1 ⟨y, H1, J, ry, d, kvs, ey, rd, q⟩ => by
  subst ey
  have ry : v = Value.ref d := ry
  subst ry
  obtain ⟨z, lo, vs, rel, dd⟩ := dk_rd J.hok rd
  obtain ⟨ep, at_⟩ := dd.dictAt
  have ek : (kvs.map fun kv => kV kv.1) = vs.map fun p => kV p.1 := by
    have e := congrArg (List.map kV) rel.keys
    simp only [List.map_map] at e
    exact e
  unfold PySem.W.StarOf notIterableAtAll
  refine wpAny_bind (wpAny_specialOf dd.typeIs PySem.F.slot_dict_iter.lookup (wpAny_pure ⟨rfl, ?_⟩))
  refine PySem.W.kdu_collect (PySem.W.kdl_dict (knd := mixKind X.prog X.w) (kvs := vs) (ep := ep) lo) (J.ok.hd hc) at_ (by rw [← rel.length]; exact z) fun h1 tk acc keep its => ?_
  have vals : Vals (vs.map fun p => kV p.1) acc.toList := keys_at (by rw [Array.length_toList]; exact its.1) fun j v e => its.2 j v (by rw [← Array.getElem?_toList]; exact e)
  exact thn (hr.run pos pins _ σ H1 _ (J.kept (t' := tk) keep) q) fun ws s3 ⟨us, H3, L, r3, q3⟩ => ⟨_, H3, L, (ek ▸ vals).append r3, q3⟩) stars⟩
/-! ### a Thing -/
abbrev Ld := List (Str × Str)
abbrev Lds := List (Str × Ld)
structure ThD where
  vals : List Str
  start : Str
  deeds : Lds
  ents : Lds
def ldV (l : Ld) : List (Key × V) := l.map fun p => (Sum.inr p.1, V.str p.2)
/-- a dict of dicts at a -/
def DD (H : Hp) (a : Addr) (ls : Lds) : Prop := ∃ kvs : List (Key × V), H a = some (.dK kvs) ∧ Paired (fun (l : Str × Ld) (kv : Key × V) => kv.1 = Sum.inr l.1 ∧ ∃ b, kv.2 = .ref b ∧ H b = some (.dK (ldV l.2))) ls kvs
theorem DD.ex {H H' : Hp} {a : Addr} {ls : Lds} (x : Ex H H') (h : DD H a ls) : DD H' a ls := by
  obtain ⟨kvs, e, p⟩ := h
  exact ⟨kvs, x _ _ e, Paired.mapP p fun _ _ ⟨e1, b, e2, e3⟩ => ⟨e1, b, e2, x _ _ e3⟩⟩
theorem DD.keys {ls : Lds} {kvs : List (Key × V)} {R : Str × Ld → Key × V → Prop} (p : Paired R ls kvs) (h : ∀ l kv, R l kv → kv.1 = Sum.inr l.1) : kvs.map (fun kv => kV kv.1) = ls.map fun l => V.str l.1 := by
  induction p with
  | nil => rfl
  | cons r _ ih => rw [List.map_cons, List.map_cons, ih, h _ _ r]; rfl
def look (ls : Lds) (n : Str) : Option Ld := (ls.find? fun l => decide (l.1 = n)).map (·.2)
def lookL (l : Ld) (n : Str) : Option Str := (l.find? fun p => decide (p.1 = n)).map (·.2)
theorem lookL_val (l : Ld) (n : Str) : valV (ldV l) (Sum.inr n) = (lookL l n).map V.str := by
  induction l with
  | nil => rfl
  | cons p l ih =>
    by_cases e : p.1 = n
    · rw [show ldV (p :: l) = (Sum.inr p.1, V.str p.2) :: ldV l from rfl, valV_pos (congrArg Sum.inr e)]
      unfold lookL
      rw [List.find?_cons, decide_eq_true e]
      rfl
    · rw [show ldV (p :: l) = (Sum.inr p.1, V.str p.2) :: ldV l from rfl, valV_neg (fun z => e (Sum.inr.inj z)), ih]
      unfold lookL
      rw [List.find?_cons, decide_eq_false e]
theorem look_val {H : Hp} {ls : Lds} {kvs : List (Key × V)} (p : Paired (fun (l : Str × Ld) (kv : Key × V) => kv.1 = Sum.inr l.1 ∧ ∃ b, kv.2 = .ref b ∧ H b = some (.dK (ldV l.2))) ls kvs) (n : Str) :
    (look ls n = none ∧ valV kvs (Sum.inr n) = none) ∨ ∃ l b, look ls n = some l ∧ valV kvs (Sum.inr n) = some (.ref b) ∧ H b = some (.dK (ldV l)) := by
  induction p with
  | nil => exact .inl ⟨rfl, rfl⟩
  | @cons l kv ls kvs r _ ih =>
    obtain ⟨e1, b, e2, e3⟩ := r
    by_cases e : l.1 = n
    · refine .inr ⟨l.2, b, ?_, ?_, e3⟩
      · unfold look
        rw [List.find?_cons, decide_eq_true e]
        rfl
      · rw [valV_pos (e1.trans (congrArg Sum.inr e)), e2]
    · have n1 : look (l :: ls) n = look ls n := by
        unfold look
        rw [List.find?_cons, decide_eq_false e]
      have n2 : valV (kv :: kvs) (Sum.inr n) = valV kvs (Sum.inr n) := valV_neg fun z => e (Sum.inr.inj (e1.symm.trans z))
      rw [n1, n2]
      exact ih
/-- the object t is the Thing d of the class C -/
def IsTh (H : Hp) (C t : Addr) (d : ThD) : Prop := ∃ dx vt dd de, H t = some (.ins C dx [("kept_values", .ref vt), ("kept_start", .str d.start), ("kept_deeds", .ref dd), ("kept_entries", .ref de)]) ∧ H vt = some (.tup (d.vals.map V.str)) ∧ DD H dd d.deeds ∧ DD H de d.ents
theorem IsTh.ex {H H' : Hp} {C t : Addr} {d : ThD} (x : Ex H H') (h : IsTh H C t d) : IsTh H' C t d := by
  obtain ⟨dx, vt, dd, de, e1, e2, e3, e4⟩ := h
  exact ⟨dx, vt, dd, de, x _ _ e1, x _ _ e2, e3.ex x, e4.ex x⟩
/-- what the class says of its fields -/
structure ThC (K : PySem.W.Frag) (C : Addr) : Prop where
  cls : Cls K C
  vals : NoAttr K C "kept_values"
  start : NoAttr K C "kept_start"
  deeds : NoAttr K C "kept_deeds"
  ents : NoAttr K C "kept_entries"
end TH

/-! A6: names_of, led_to -/
namespace TH
open PySem PySem.Spec PyProof.Rows L2
def ThD.names (d : ThD) : List Str := d.deeds.map (·.1) ++ d.ents.map (·.1)
def spNamesOf (C : Addr) : Sp := fun vs H Q _ => ∃ (t : Addr) (d : ThD), vs = [.ref t] ∧ IsTh H C t d ∧ d.names.length < 64 ∧ ∀ (p : Addr) (ys : List Str) (H' : Hp), Ex H H' → H p = none → H' p = some (.lst (ys.map V.str)) → ys.Perm d.names → sortedS ys = true → Q (.ref p) H'
/-- where a use leads: what the deed says, or the entry, if it is open -/
def ThD.led (d : ThD) (v n : Str) : Option Str := match look d.deeds n with
  | some l => lookL l v
  | none => match look d.ents n with
    | some l => lookL l v
    | none => none
def optS : Option Str → V
  | none => .non
  | some x => .str x
def spLedTo (C : Addr) : Sp := fun vs H Q _ => ∃ (t : Addr) (d : ThD) (v n : Str), vs = [.ref t, .str v, .str n] ∧ IsTh H C t d ∧ ((∃ l, look d.deeds n = some l ∧ (lookL l v).isSome = true) ∨ (look d.deeds n = none ∧ (look d.ents n).isSome = true)) ∧ Q (optS (d.led v n)) H
section
variable {P : Program} {w : World} {K : PySem.W.Frag} {mg : Str → Option Value} {base : Heap} {f C : Addr} {fd : FuncData}
end
end TH

/-! A7: the rows, plainly -/
namespace TH
open PySem PySem.Spec PyProof.Rows L2
abbrev Fnd := List (Str × List Str)
def rowOf (f : Fnd) (v : Str) : Option (List Str) := (f.find? fun p => decide (p.1 = v)).map (·.2)
def nStep (d : ThD) (w : Str) (st : Fnd × List Str) (n : Str) : Fnd × List Str := match d.led w n with
  | none => st
  | some g => match rowOf st.1 g with
    | some _ => st
    | none => (st.1 ++ [(g, (rowOf st.1 w).getD [] ++ [n])], st.2 ++ [g])
def wStep (d : ThD) (ns : List Str) (st : Fnd × List Str) (w : Str) : Fnd × List Str := ns.foldl (nStep d w) st
def tier (d : ThD) (ns : List Str) (f : Fnd) (ws : List Str) : Fnd × List Str := ws.foldl (wStep d ns) (f, [])
inductive Run (d : ThD) (ns : List Str) : Fnd → List Str → Fnd → Prop where
  | nil (f : Fnd) : Run d ns f [] f
  | step {f : Fnd} {ws : List Str} {f' : Fnd} (h : ws ≠ []) (r : Run d ns (tier d ns f ws).1 (tier d ns f ws).2 f') : Run d ns f ws f'
/-- a right Thing -/
structure ThD.Ok (d : ThD) : Prop where
  few : d.vals.length ≤ 10
  start : d.start ∈ d.vals
  txt : ∀ v ∈ d.vals, PyData.canLay0 (.str v) = true
  deeds : ∀ n l, look d.deeds n = some l → ∀ v ∈ d.vals, ∃ g ∈ d.vals, lookL l v = some g
  ents : ∀ n l, look d.ents n = some l → ∀ v g, lookL l v = some g → g ∈ d.vals
/-- all names are the Thing's -/
def ThD.Own (d : ThD) (ns : List Str) : Prop := ∀ n ∈ ns, (look d.deeds n).isSome = true ∨ (look d.ents n).isSome = true
theorem ThD.Ok.led {d : ThD} (k : d.Ok) {v n g : Str} (hv : v ∈ d.vals) (h : d.led v n = some g) : g ∈ d.vals := by
  unfold ThD.led at h
  cases q : look d.deeds n with
  | some l =>
    rw [q] at h
    obtain ⟨g', m, e⟩ := k.deeds n l q v hv
    have h : lookL l v = some g := h
    rw [e] at h
    cases h
    exact m
  | none =>
    rw [q] at h
    cases q2 : look d.ents n with
    | some l =>
      rw [q2] at h
      exact k.ents n l q2 v g h
    | none =>
      rw [q2] at h
      cases h
/-- what holds of the rows found -/
structure FOk (d : ThD) (f : Fnd) : Prop where
  nd : (f.map (·.1)).Nodup
  sub : ∀ p ∈ f, p.1 ∈ d.vals
  row : ∀ p ∈ f, p.2.length ≤ f.length
theorem rowOf_some {f : Fnd} {v : Str} {r : List Str} (h : rowOf f v = some r) : (v, r) ∈ f := by
  unfold rowOf at h
  obtain ⟨p, e, rfl⟩ := Option.map_eq_some_iff.mp h
  have z := List.find?_some e
  have m := List.mem_of_find?_eq_some e
  simp only [decide_eq_true_eq] at z
  rw [← z]
  exact m
theorem rowOf_none {f : Fnd} {v : Str} (h : rowOf f v = none) : v ∉ f.map (·.1) := by
  intro m
  obtain ⟨p, hp, rfl⟩ := List.mem_map.mp m
  unfold rowOf at h
  have z := List.find?_eq_none.mp (Option.map_eq_none_iff.mp h) p hp
  simp at z
theorem rowOf_mem {f : Fnd} {v : Str} (h : v ∈ f.map (·.1)) : ∃ r, rowOf f v = some r := by
  cases q : rowOf f v with
  | some r => exact ⟨r, rfl⟩
  | none => exact absurd h (rowOf_none q)
theorem FOk.has {d : ThD} {f : Fnd} (k : FOk d f) {v : Str} (h : v ∈ f.map (·.1)) : v ∈ d.vals := by
  obtain ⟨p, hp, rfl⟩ := List.mem_map.mp h
  exact k.sub p hp
theorem FOk.len {d : ThD} {f : Fnd} (k : FOk d f) : f.length ≤ d.vals.length := by
  have z := k.nd.length_le_of_subset (l₂ := d.vals) fun v m => by
    obtain ⟨p, hp, rfl⟩ := List.mem_map.mp m
    exact k.sub p hp
  simpa using z
/-- one step keeps it -/
theorem nStep_ok {d : ThD} (k : d.Ok) {w : Str} {st : Fnd × List Str} {n : Str} (h : FOk d st.1) (hw : w ∈ st.1.map (·.1)) (hl : ∀ g ∈ st.2, g ∈ st.1.map (·.1)) :
    FOk d (nStep d w st n).1 ∧ (∀ v ∈ st.1.map (·.1), v ∈ (nStep d w st n).1.map (·.1)) ∧ (∀ g ∈ (nStep d w st n).2, g ∈ (nStep d w st n).1.map (·.1)) ∧ (nStep d w st n).1.length - st.1.length = (nStep d w st n).2.length - st.2.length ∧ st.1.length ≤ (nStep d w st n).1.length ∧ st.2.length ≤ (nStep d w st n).2.length := by
  have same : FOk d st.1 ∧ (∀ v ∈ st.1.map (·.1), v ∈ st.1.map (·.1)) ∧ (∀ g ∈ st.2, g ∈ st.1.map (·.1)) ∧ st.1.length - st.1.length = st.2.length - st.2.length ∧ st.1.length ≤ st.1.length ∧ st.2.length ≤ st.2.length := ⟨h, fun _ m => m, hl, by omega, Nat.le_refl _, Nat.le_refl _⟩
  unfold nStep
  cases q : d.led w n with
  | none => exact same
  | some g =>
    dsimp only
    cases q2 : rowOf st.1 g with
    | some r => exact same
    | none =>
      have wv : w ∈ d.vals := by
        obtain ⟨p, hp, rfl⟩ := List.mem_map.mp hw
        exact h.sub p hp
      have gv := k.led wv q
      have ng := rowOf_none q2
      obtain ⟨r, er⟩ := rowOf_mem hw
      have lr := h.row _ (rowOf_some er)
      refine ⟨⟨?_, fun p hp => ?_, fun p hp => ?_⟩, fun v m => ?_, fun x m => ?_, ?_, ?_, ?_⟩
      · rw [List.map_append]
        refine List.nodup_append.mpr ⟨h.nd, by simp, fun a ha b hb => ?_⟩
        rw [List.map_cons, List.map_nil, List.mem_singleton] at hb
        rw [hb]
        exact fun z => ng ((show a = g from z) ▸ ha)
      · rcases List.mem_append.mp hp with z | z
        · exact h.sub p z
        · rw [List.mem_singleton.mp z]; exact gv
      · rw [List.length_append]
        rcases List.mem_append.mp hp with z | z
        · have := h.row p z
          omega
        · rw [List.mem_singleton.mp z, er]
          simp only [Option.getD_some, List.length_append, List.length_cons, List.length_nil]
          have : r.length ≤ st.1.length := lr
          omega
      · rw [List.map_append]
        exact List.mem_append_left _ m
      · rw [List.map_append]
        rcases List.mem_append.mp m with z | z
        · exact List.mem_append_left _ (hl x z)
        · rw [List.mem_singleton.mp z]
          exact List.mem_append_right _ (by simp)
      · simp only [List.length_append, List.length_cons, List.length_nil]
        omega
      · simp only [List.length_append]
        omega
      · simp only [List.length_append]
        omega
end TH

/-! A8: rows_from -/
namespace TH
open PySem PySem.Spec PyProof.Rows L2 LamV
/-- rows as a dict of tuples at a -/
def FD (K : PySem.W.Frag) (H : Hp) (a : Addr) (f : Fnd) : Prop := ∃ kvs : List (Key × V), H a = some (.dK kvs) ∧ Paired (fun (p : Str × List Str) (kv : Key × V) => kv.1 = Sum.inr p.1 ∧ ∃ b, kv.2 = .ref b ∧ SqT K H b (p.2.map V.str)) f kvs
/-- a lambda that is always True -/
def LTrue (P : Program) (w : World) (K : PySem.W.Frag) (mg : Str → Option Value) (base : Heap) (F : LF) : Prop := LOk P w K mg base CX0 1 F fun vs H Q _ => ∃ v, vs = [v] ∧ Q (.bl true) H
theorem IsLam.ex {H H' : Hp} {f : Addr} {F : LF} (x : Ex H H') (h : IsLam H f F) : IsLam H' f F := by
  obtain ⟨c, e1, e2⟩ := h
  exact ⟨c, x _ _ e1, x _ _ e2⟩
def spRowsFrom (P : Program) (w : World) (K : PySem.W.Frag) (mg : Str → Option Value) (base : Heap) (C : Addr) : Sp := fun vs H Q _ => ∃ (t : Addr) (d : ThD) (b : Str) (nl : Addr) (ns : List Str) (fl : Addr) (F : LF), vs = [.ref t, .str b, .ref nl, .ref fl] ∧ IsTh H C t d ∧ d.Ok ∧ b ∈ d.vals ∧ SqL K H nl (ns.map V.str) ∧ ns.length ≤ 60 ∧ d.Own ns ∧ IsLam H fl F ∧ LTrue P w K mg base F ∧
  ∀ (p : Addr) (H' : Hp) (f : Fnd), Ex H H' → H p = none → FD K H' p f → FOk d f → Run d ns [(b, [])] [b] f → Q (.ref p) H'
theorem ne_new {H : Hp} {p q : Addr} {o : HO} (h : upd H p o q = none) : q ≠ p := fun z => by
  rw [z, upd_same] at h
  cases h
theorem FD.ex {K : PySem.W.Frag} {H H' : Hp} {a : Addr} {f : Fnd} (x : Ex H H') (h : FD K H a f) : FD K H' a f := by
  obtain ⟨kvs, e, p⟩ := h
  exact ⟨kvs, x _ _ e, Paired.mapP p fun _ _ ⟨e1, b, e2, e3⟩ => ⟨e1, b, e2, x.sqT e3⟩⟩
theorem dp_strs {K : PySem.W.Frag} {H : Hp} : ∀ ws : List Str, DpAll K H (ws.map V.str) (ws.map PyData.str)
  | [] => .nil
  | w :: r => .cons (.str w) (dp_strs r)
theorem lay_strs : ∀ {ws : List Str}, (∀ w ∈ ws, PyData.canLay0 (.str w) = true) → PyData.canLayAll0 (ws.map PyData.str) = true ∧ PyData.depthAll (ws.map PyData.str) = 0
  | [], _ => ⟨rfl, rfl⟩
  | w :: r, h => by
    obtain ⟨a, b⟩ := lay_strs (ws := r) fun v m => h v (List.mem_cons_of_mem _ m)
    have c := h w List.mem_cons_self
    refine ⟨?_, ?_⟩
    · show (PyData.canLay0 (.str w) && PyData.canLayAll0 (r.map PyData.str)) = true
      rw [c, a]
      rfl
    · show max (PyData.depth (.str w)) (PyData.depthAll (r.map PyData.str)) = 0
      rw [b]
      rfl
theorem shaped_strs {ws : List Str} (h : ∀ w ∈ ws, PyData.canLay0 (.str w) = true) : SeqAt.shaped (.list (ws.map PyData.str)) = true := by
  obtain ⟨a, b⟩ := lay_strs h
  have e1 : PyData.canLay0 (.list (ws.map PyData.str)) = PyData.canLayAll0 (ws.map PyData.str) := by unfold PyData.canLay0; rfl
  have e2 : PyData.depth (.list (ws.map PyData.str)) = PyData.depthAll (ws.map PyData.str) + 1 := by unfold PyData.depth; rfl
  unfold SeqAt.shaped
  rw [e1, a, e2, b]
  decide
theorem eqv_nil (ws : List Str) : PyData.eqv (.list (ws.map PyData.str)) (.list []) = decide (ws = []) := by
  cases ws with
  | nil => rfl
  | cons w r => rfl
/-- what holds at each turn of the while -/
def RInv (K : PySem.W.Frag) (H : Hp) (d : ThD) (ns : List Str) (t nl fl p : Addr) (b : Str) (m : Nat) (σ : L2.St) (H2 : Hp) : Prop := ∃ (fnd : Fnd) (ws : List Str) (wl : Addr) (o6 o7 o8 o9 : Option V), σ = [some (.ref t), some (.str b), some (.ref nl), some (.ref fl), some (.ref p), some (.ref wl), o6, o7, o8, o9] ∧ Ex H H2 ∧ FD K H2 p fnd ∧ FOk d fnd ∧ H2 wl = some (.lst (ws.map V.str)) ∧ H wl = none ∧ wl ≠ p ∧ (∀ g ∈ ws, g ∈ fnd.map (·.1)) ∧ ws.length ≤ 10 ∧
  m = 2 * (d.vals.length - fnd.length) + (if ws = [] then 0 else 1) ∧ ∀ f', Run d ns fnd ws f' → Run d ns [(b, [])] [b] f'
theorem opR_imp {X : Cx} {g : Value → Value → Sem Value} {r r' : R2} (h : OpR X g r) (i : ∀ x y H Q, r' x y H Q → r x y H Q) : OpR X g r' := fun pins s σ H x y v u Q I a c q => h pins s σ H x y v u Q I a c (i x y H Q q)
def rCatN (K : PySem.W.Frag) : R2 := fun x y H Q => ∃ a b xs ys, x = .ref a ∧ y = .ref b ∧ SqT K H a xs ∧ SqT K H b ys ∧ xs.length + ys.length ≤ sizeLine ∧ ∀ r H', Ex H H' → SqT K H' r (xs ++ ys) → Q (.ref r) H'
theorem op_catN {X : Cx} : OpR X (binaryOp .Add) (rCatN X.K) := opR_imp op_catA fun x y H Q ⟨a, b, xs, ys, e1, e2, s1, s2, l, q⟩ => ⟨a, b, xs, ys, e1, e2, s1, s2, l, fun z => q b H Ex.refl (by rw [z]; exact s2), fun _ z => q a H Ex.refl (by rw [z, List.append_nil]; exact s1), fun _ _ p np => q p _ (Ex.new np) (.inl (.inl upd_same))⟩
/-- a tuple stands where something else is written -/
theorem sqT_put {K : PySem.W.Frag} {H : Hp} {p a : Addr} {u o : HO} {xs : List V} (hp : H p = some u) (n1 : ∀ ys, u ≠ .tup ys) (n2 : ∀ ob v, u ≠ .frz ob v) (h : SqT K H a xs) : SqT K (upd H p o) a xs := by
  rcases h with (h | ⟨ob, h⟩) | h
  · exact .inl (.inl ((upd_ne fun z => n1 xs (Option.some.inj ((z ▸ hp).symm.trans h))).trans h))
  · exact .inl (.inr ⟨ob, (upd_ne fun z => n2 ob _ (Option.some.inj ((z ▸ hp).symm.trans h))).trans h⟩)
  · exact .inr h
theorem row_val {R : Str × List Str → Key × V → Prop} {f : Fnd} {kvs : List (Key × V)} (p : Paired R f kvs) (h1 : ∀ a kv, R a kv → kv.1 = Sum.inr a.1) (v : Str) : (rowOf f v = none ∧ valV kvs (Sum.inr v) = none) ∨ ∃ r kv, rowOf f v = some r ∧ valV kvs (Sum.inr v) = some kv.2 ∧ R (v, r) kv := by
  induction p with
  | nil => exact .inl ⟨rfl, rfl⟩
  | @cons a kv f kvs r _ ih =>
    by_cases e : a.1 = v
    · refine .inr ⟨a.2, kv, ?_, valV_pos ((h1 _ _ r).trans (congrArg Sum.inr e)), by rw [← e]; exact r⟩
      unfold rowOf
      rw [List.find?_cons, decide_eq_true e]
      rfl
    · have q1 : rowOf (a :: f) v = rowOf f v := by
        unfold rowOf
        rw [List.find?_cons, decide_eq_false e]
      have q2 : valV (kv :: kvs) (Sum.inr v) = valV kvs (Sum.inr v) := valV_neg fun z => e (Sum.inr.inj ((h1 _ _ r).symm.trans z))
      rw [q1, q2]
      exact ih
theorem paired_snoc {α β : Type} {R : α → β → Prop} {l : List α} {r : List β} {a : α} {b : β} (p : Paired R l r) (h : R a b) : Paired R (l ++ [a]) (r ++ [b]) := by
  induction p with
  | nil => exact .cons h .nil
  | cons x _ ih => exact .cons x ih
/-- the state within the two loops -/
structure StI (K : PySem.W.Frag) (H : Hp) (d : ThD) (t nl fl p wl ll : Addr) (b : Str) (fnd : Fnd) (ws : List Str) (st : Fnd × List Str) (o7 o8 o9 : Option V) (σ : L2.St) (H4 : Hp) : Prop where
  sl : σ = [some (.ref t), some (.str b), some (.ref nl), some (.ref fl), some (.ref p), some (.ref wl), some (.ref ll), o7, o8, o9]
  ex : Ex H H4
  wt : H4 wl = some (.lst (ws.map V.str))
  fd : FD K H4 p st.1
  ok : FOk d st.1
  lt : H4 ll = some (.lst (st.2.map V.str))
  old : ∀ v ∈ fnd.map (·.1), v ∈ st.1.map (·.1)
  new : ∀ g ∈ st.2, g ∈ st.1.map (·.1)
  len : st.1.length = fnd.length + st.2.length
section
variable {P : Program} {w : World} {K : PySem.W.Frag} {mg : Str → Option Value} {base : Heap} {f C : Addr} {fd : FuncData}
end
end TH

/-! A9: check_entry, checked_names, where they let by -/
namespace TH
open PySem PySem.Spec PyProof.Rows L2
/-- a statement that is never come to -/
theorem ps_dead {X : Cx} {st : Stmt} : PS X st (fun _ _ _ => False) := ⟨fun _ _ _ _ _ _ h => h.elim⟩
def spCheckEntry (K : PySem.W.Frag) (C : Addr) : Sp := fun vs H Q _ => ∃ (t : Addr) (d : ThD) (x : Str), vs = [.ref t, .str x] ∧ IsTh H C t d ∧ okS x = true ∧ (look d.ents x).isSome = true ∧ ∀ H', Ex H H' → Q .non H'
theorem okS_len {x : Str} (h : okS x = true) : x.length ≤ 8 := by
  unfold okS at h
  simp only [Bool.and_eq_true, decide_eq_true_eq] at h
  exact h.2.1
theorem str_kd {K : PySem.W.Frag} {H : Hp} {x : Str} (h : x.length ≤ 1000) : Kd K H (.str x) "str" := ⟨by decide, .base (.str x), fun y e => by cases e; exact h⟩
def spCheckedNames (K : PySem.W.Frag) : Sp := fun vs H Q _ => ∃ (a kl : Addr) (xs ks : List Str), vs = [.ref a, .ref kl] ∧ Sq K H a (xs.map V.str) ∧ SqL K H kl (ks.map V.str) ∧ xs.length ≤ 60 ∧ (∀ x ∈ xs, okS x = true) ∧ xs.Nodup ∧ (∀ x ∈ xs, x ∈ ks) ∧ ∀ (p : Addr) (H' : Hp), Ex H H' → H p = none → H' p = some (.lst (xs.map V.str)) → Q (.ref p) H'
theorem inV_strs (x : Str) (xs : List Str) : inV (.str x) (xs.map V.str) = decide (x ∈ xs) := by
  induction xs with
  | nil => rfl
  | cons y r ih =>
    have e : inV (.str x) ((y :: r).map V.str) = (eqV (.str y) (.str x) || inV (.str x) (r.map V.str)) := rfl
    rw [e, ih]
    have e2 : eqV (.str y) (.str x) = decide (y = x) := by
      show (y == x) = _
      by_cases z : y = x
      · subst z; simp
      · rw [decide_eq_false z]; exact beq_eq_false_iff_ne.mpr z
    rw [e2]
    by_cases z : y = x
    · simp [z]
    · have z' : ¬ x = y := fun q => z q.symm
      simp [z, z']
theorem fbw_none : ∀ (xs met : List Str) (i : Nat), (∀ x ∈ xs, okS x = true) → xs.Nodup → (∀ x ∈ xs, x ∉ met) → fbw (xs.map V.str) (met.map V.str) i = none
  | [], _, _, _, _, _ => rfl
  | x :: r, met, i, h, nd, nm => by
    have e : fbw ((x :: r).map V.str) (met.map V.str) i = if (!isWd (.str x) || inV (.str x) (met.map V.str)) = true then some i else fbw (r.map V.str) (met.map V.str ++ [.str x]) (i + 1) := rfl
    have n1 : isWd (.str x) = true := h x List.mem_cons_self
    rw [e, n1, inV_strs, decide_eq_false (nm x List.mem_cons_self), if_neg (by simp)]
    have q := fbw_none r (met ++ [x]) (i + 1) (fun y m => h y (List.mem_cons_of_mem _ m)) (List.nodup_cons.mp nd).2 fun y m z => by
      rcases List.mem_append.mp z with z | z
      · exact nm y (List.mem_cons_of_mem _ m) z
      · rw [List.mem_singleton.mp z] at m
        exact (List.nodup_cons.mp nd).1 m
    rw [List.map_append] at q
    exact q
section
variable {P : Program} {w : World} {K : PySem.W.Frag} {mg : Str → Option Value} {base : Heap} {f C : Addr} {fd : FuncData}
/-- an expression that is never come to -/
theorem pe_dead {X : Cx} {e : Expr} : PE X e (fun _ _ _ => False) := ⟨fun _ _ _ _ _ _ h => h.elim⟩
end
end TH

/-! A10: first_open, where it lets by -/
namespace TH
open PySem PySem.Spec PyProof.Rows L2 LamV LamX XK0
theorem Ex.extN {H H' : Hp} (x : Ex H H') : ExtN H H' := fun b o e _ => x b o e
theorem Ex.tabs {H H' : Hp} {T : List (Addr × Str)} (x : Ex H H') (t : Tabs T H) : Tabs T H' := t.ext x
theorem extN_lst {H H' : Hp} {a : Addr} {xs : List V} (x : ExtN H H') (h : H a = some (.lst xs)) : H' a = some (.lst xs) := x _ _ h fun _ z => (nomatch z)
theorem extN_sqL {K : PySem.W.Frag} {H H' : Hp} {a : Addr} {xs : List V} (x : ExtN H H') (h : SqL K H a xs) : SqL K H' a xs := h.imp (Or.imp (fun z => x _ _ z fun _ q => (nomatch q)) fun ⟨o, z⟩ => ⟨o, x _ _ z fun _ q => (nomatch q)⟩) id
theorem DD.exN {H H' : Hp} {a : Addr} {ls : Lds} (x : ExtN H H') (h : DD H a ls) : DD H' a ls := by
  obtain ⟨kvs, e, p⟩ := h
  exact ⟨kvs, x _ _ e fun _ q => (nomatch q), Paired.mapP p fun _ _ ⟨e1, b, e2, e3⟩ => ⟨e1, b, e2, x _ _ e3 fun _ q => (nomatch q)⟩⟩
theorem IsTh.exN {H H' : Hp} {C t : Addr} {d : ThD} (x : ExtN H H') (h : IsTh H C t d) : IsTh H' C t d := by
  obtain ⟨dx, vt, dd, de, e1, e2, e3, e4⟩ := h
  exact ⟨dx, vt, dd, de, x _ _ e1 fun _ q => (nomatch q), x _ _ e2 fun _ q => (nomatch q), e3.exN x, e4.exN x⟩
/-- the first row found whose value is led on -/
def firstIn (l : Ld) (f : Fnd) : Option (List Str) := (f.find? fun p => (lookL l p.1).isSome).map (·.2)
/-- nothing but a table stood there -/
def NewP (H : Hp) (p : Addr) : Prop := ∀ o, H p = some o → (∀ ps, o ≠ .tbl ps) → False
abbrev lamQ : Str := ("first_open" : Str) ++ ".<locals>." ++ "<lambda>"
def spFirstOpen (K : PySem.W.Frag) (C : Addr) (T : List (Addr × Str)) : Sp := fun vs H Q _ => ∃ (t a : Addr) (d : ThD) (x : Str) (xs : List Str) (l : Ld), vs = [.ref t, .str x, .ref a] ∧ IsTh H C t d ∧ d.Ok ∧ okS x = true ∧ look d.ents x = some l ∧ Sq K H a (xs.map V.str) ∧ xs.length ≤ 60 ∧ d.names.length < 60 ∧ (∀ y ∈ xs, okS y = true) ∧ xs.Nodup ∧ (∀ y ∈ xs, y ∈ d.names) ∧ Tabs T H ∧
  ∀ (ys : List Str) (f : Fnd), ys.Perm xs → sortedS ys = true → Run d ys [(d.start, [])] [d.start] f →
    (∀ H', ExtN H H' → Tabs T H' → firstIn l f = none → Q .non H') ∧ ∀ (row : List Str) (p : Addr) (H' : Hp), ExtN H H' → Tabs T H' → firstIn l f = some row → NewP H p → H' p = some (.lst (row.map V.str)) → Q (.ref p) H'
theorem look_mem {ls : Lds} {n : Str} (h : n ∈ ls.map (·.1)) : (look ls n).isSome = true := by
  obtain ⟨p, hp, rfl⟩ := List.mem_map.mp h
  unfold look
  rw [Option.isSome_map]
  exact List.find?_isSome.mpr ⟨p, hp, by simp⟩
theorem names_look {d : ThD} {n : Str} (h : n ∈ d.names) : (look d.deeds n).isSome = true ∨ (look d.ents n).isSome = true := by
  unfold ThD.names at h
  rcases List.mem_append.mp h with h | h
  · exact .inl (look_mem h)
  · exact .inr (look_mem h)
theorem paired_get {α β : Type} {R : α → β → Prop} {l : List α} {r : List β} (p : Paired R l r) : ∀ {i : Nat} {y : β}, r[i]? = some y → ∃ x, l[i]? = some x ∧ R x y := by
  induction p with
  | nil => intro i y h; simp at h
  | cons x _ ih =>
    intro i y h
    cases i with
    | zero => simp at h; subst h; exact ⟨_, rfl, x⟩
    | succ i =>
      obtain ⟨z, e, q⟩ := ih (by simpa using h)
      exact ⟨z, by simpa using e, q⟩
theorem firstIn_step {l : Ld} {f : Fnd} {i : Nat} {p : Str × List Str} (h : f[i]? = some p) : firstIn l (f.drop i) = if (lookL l p.1).isSome = true then some p.2 else firstIn l (f.drop (i + 1)) := by
  obtain ⟨lt, e⟩ := List.getElem?_eq_some_iff.mp h
  rw [List.drop_eq_getElem_cons lt, e]
  unfold firstIn
  rw [List.find?_cons]
  cases (lookL l p.1).isSome <;> rfl
theorem lt_true {P : Program} {w : World} {K : PySem.W.Frag} {mg : Str → Option Value} {base : Heap} {q x : Str} {params : Arguments} {scope : Scope} {j : Nat} {pos : Pos} (S : NdefX.NScope [x] [x] [] scope)
    (bd : ∀ (pm cv ctv : Value) (us : List Value), us.length = [x].length → bindArgs (PySem.W.kla_fn "<lambda>" q params (.Constant (.bool true) j pos) scope [] pm cv ctv) ⟨us, []⟩ = pure ([x].zip us)) : LTrue P w K mg base ⟨q, params, .Constant (.bool true) j pos, scope⟩ := by
  refine lok_of (k := 0) (ps := [x]) S bd (fun vs H Q E z => ?_) fun f c A outer s H vs Q E hr z => ?_
  · obtain ⟨v, rfl, _⟩ := z
    rfl
  · obtain ⟨v, rfl, q⟩ := z
    exact ⟨_, pe_bl, q⟩
section
variable {P : Program} {w : World} {K : PySem.W.Frag} {mg : Str → Option Value} {base : Heap} {f C c Pt : Addr} {fd : FuncData} {T : List (Addr × Str)}
end
end TH

/-! A11: _law_spring, _law_take, _law_one -/
namespace TH
open PySem PySem.Spec PyProof.Rows L2 LamV LamX XK0
/-- the spring: what is left of the script, the cell in use, how many were taken, the mixed number -/
structure Spg (H : Hp) (sp l : Addr) (ns : List Int) (a m : Int) (n : Nat) : Prop where
  hs : H sp = some (.lst [.ref l, .int a, .int n, .int m])
  hl : H l = some (.lst (ns.map V.int))
  ne : sp ≠ l
  a0 : 0 ≤ a
  m0 : 0 ≤ m
  m1 : m < 2147483647
def Spr (H : Hp) (sp l : Addr) (n : Nat) : Prop := ∃ ns a m, Spg H sp l ns a m n
/-- nothing but the spring is changed -/
def ExS (sp l : Addr) (H H' : Hp) : Prop := ∀ b o, b ≠ sp → b ≠ l → H b = some o → H' b = some o
theorem ExS.refl {sp l : Addr} {H : Hp} : ExS sp l H H := fun _ _ _ _ h => h
theorem ExS.trans {sp l : Addr} {H H1 H2 : Hp} (x : ExS sp l H H1) (y : ExS sp l H1 H2) : ExS sp l H H2 := fun b o h1 h2 e => y b o h1 h2 (x b o h1 h2 e)
theorem Ex.exS {sp l : Addr} {H H' : Hp} (x : Ex H H') : ExS sp l H H' := fun b o _ _ e => x b o e
theorem ExS.updS {sp l : Addr} {H : Hp} {o : HO} : ExS sp l H (upd H sp o) := fun _ _ h1 _ e => (upd_ne h1).trans e
theorem ExS.updL {sp l : Addr} {H : Hp} {o : HO} : ExS sp l H (upd H l o) := fun _ _ _ h2 e => (upd_ne h2).trans e
theorem Spg.ex {H H' : Hp} {sp l : Addr} {ns : List Int} {a m : Int} {n : Nat} (x : Ex H H') (h : Spg H sp l ns a m n) : Spg H' sp l ns a m n := ⟨x _ _ h.hs, x _ _ h.hl, h.ne, h.a0, h.m0, h.m1⟩
theorem Spr.ex {H H' : Hp} {sp l : Addr} {n : Nat} (x : Ex H H') : Spr H sp l n → Spr H' sp l n := fun ⟨ns, a, m, h⟩ => ⟨ns, a, m, h.ex x⟩
/-- what is free now was free before -/
theorem ExS.none {sp l p : Addr} {H H' : Hp} {n k : Nat} (x : ExS sp l H H') (s : Spr H' sp l k) (h : H' p = none) : H p = none := by
  obtain ⟨_, _, _, s⟩ := s
  cases q : H p with
  | none => rfl
  | some o =>
    rw [x p o (fun z => by rw [z, s.hs] at h; cases h) (fun z => by rw [z, s.hl] at h; cases h) q] at h
    cases h
theorem dp_ints {K : PySem.W.Frag} {H : Hp} : ∀ ns : List Int, DpAll K H (ns.map V.int) (ns.map PyData.int)
  | [] => .nil
  | i :: r => .cons (.int i) (dp_ints r)
theorem lay_ints : ∀ ns : List Int, PyData.canLayAll0 (ns.map PyData.int) = true ∧ PyData.depthAll (ns.map PyData.int) = 0
  | [] => ⟨rfl, rfl⟩
  | i :: r => by
    obtain ⟨a, b⟩ := lay_ints r
    refine ⟨?_, ?_⟩
    · show (PyData.canLay0 (.int i) && PyData.canLayAll0 (r.map PyData.int)) = true
      rw [a]
      rfl
    · show max (PyData.depth (.int i)) (PyData.depthAll (r.map PyData.int)) = 0
      rw [b]
      rfl
theorem shaped_ints (ns : List Int) : SeqAt.shaped (.list (ns.map PyData.int)) = true := by
  obtain ⟨a, b⟩ := lay_ints ns
  have e1 : PyData.canLay0 (.list (ns.map PyData.int)) = PyData.canLayAll0 (ns.map PyData.int) := by unfold PyData.canLay0; rfl
  have e2 : PyData.depth (.list (ns.map PyData.int)) = PyData.depthAll (ns.map PyData.int) + 1 := by unfold PyData.depth; rfl
  unfold SeqAt.shaped
  rw [e1, a, e2, b]
  decide
theorem eqv_nilI (ns : List Int) : PyData.eqv (.list (ns.map PyData.int)) (.list []) = decide (ns = []) := by
  cases ns with
  | nil => rfl
  | cons w r => rfl
def spTake : Sp := fun vs H Q _ => ∃ (sp l : Addr) (k : Int) (n : Nat), vs = [.ref sp, .int k] ∧ Spr H sp l n ∧ n < 1000000 ∧ 1 ≤ k ∧ k ≤ 1000 ∧ ∀ (d : Nat) (H' : Hp), (d : Int) < k → ExS sp l H H' → Spr H' sp l (n + 1) → Q (.int d) H'
/-- at each turn of the while -/
def TInv (H : Hp) (sp l : Addr) (k : Int) (n c : Nat) (σ : L2.St) (H2 : Hp) : Prop := ∃ (ns : List Int) (a m : Int) (o2 : Option V), σ = [some (.ref sp), some (.int k), o2, none, none] ∧ ExS sp l H H2 ∧ Spg H2 sp l ns a m (n + 1) ∧ c = ns.length
theorem tand_go {t u : TT} {σ : L2.St} {H : Hp} {Q : Bool → Hp → Prop} {N : Hp → Prop} (c e : Bool) (ht : ∀ Q, Q c H → t σ H Q) (hu : ∀ Q, (∀ H1, N H1 → Q e H1) → u σ H Q) (n0 : N H) (h : ∀ H1, N H1 → Q (c && e) H1) : tAnd t u σ H Q := by
  refine ht _ ?_
  cases c with
  | true => exact hu _ h
  | false => exact h H n0
section
variable {P : Program} {w : World} {K : PySem.W.Frag} {mg : Str → Option Value} {base : Heap} {f : Addr} {fd : FuncData}
end
end TH

/-! A12: _law_spring, _law_one, _law_mix -/
namespace TH
open PySem PySem.Spec PyProof.Rows L2 LamV LamX XK0
theorem at_nat {xs : List V} {k : Nat} {y : V} (h : xs[k]? = some y) : atI xs (k : Int) = some y := by
  obtain ⟨lt, _⟩ := List.getElem?_eq_some_iff.mp h
  unfold atI ixN
  rw [if_pos (Int.natCast_nonneg k), if_pos (by omega), Option.bind_some, Int.toNat_natCast]
  exact h
def spSpring (K : PySem.W.Frag) : Sp := fun vs H Q _ => ∃ (a : Addr) (ns : List Int), vs = [.ref a] ∧ SqL K H a (ns.map V.int) ∧ ns.length ≤ sizeLine ∧ ∀ (sp l : Addr) (H' : Hp), Ex H H' → H sp = none → H l = none → Spr H' sp l 0 → Q (.ref sp) H'
def spOne : Sp := fun vs H Q _ => ∃ (sp l t : Addr) (n : Nat) (xs : List V), vs = [.ref sp, .ref t] ∧ Spr H sp l n ∧ n < 1000000 ∧ t ≠ sp ∧ t ≠ l ∧ H t = some (.lst xs) ∧ xs ≠ [] ∧ xs.length ≤ 1000 ∧ ∀ (y : V) (H' : Hp), y ∈ xs → ExS sp l H H' → Spr H' sp l (n + 1) → Q y H'
section
variable {P : Program} {w : World} {K : PySem.W.Frag} {mg : Str → Option Value} {base : Heap} {f : Addr} {fd : FuncData}
end
end TH

/-! A13: _law_mix -/
namespace TH
open PySem PySem.Spec PyProof.Rows L2 LamV LamX XK0
theorem erase_perm {α : Type} : ∀ {l : List α} {i : Nat} {y : α}, l[i]? = some y → (y :: l.eraseIdx i).Perm l
  | [], _, _, h => by simp at h
  | x :: r, 0, y, h => by
    simp at h
    subst h
    exact List.Perm.refl _
  | x :: r, i + 1, y, h => by
    have ih := erase_perm (l := r) (i := i) (y := y) (by simpa using h)
    exact (List.Perm.swap x y _).trans (ih.cons x)
def spMix (K : PySem.W.Frag) : Sp := fun vs H Q _ => ∃ (sp l t : Addr) (n : Nat) (xs : List V), vs = [.ref sp, .ref t] ∧ Spr H sp l n ∧ n + xs.length < 1000000 ∧ t ≠ sp ∧ t ≠ l ∧ Sq K H t xs ∧ xs.length ≤ 1000 ∧
  ∀ (q : Addr) (ys : List V) (H' : Hp), ExS sp l H H' → Spr H' sp l (n + xs.length) → H q = none → H' q = some (.lst ys) → ys.Perm xs → Q (.ref q) H'
/-- at each turn -/
def MInv (H : Hp) (sp l lf D : Addr) (n : Nat) (xs : List V) (i : Nat) (H2 : Hp) : Prop := ∃ left acc, ExS sp l H H2 ∧ Spr H2 sp l (n + i) ∧ H2 lf = some (.lst left) ∧ H2 D = some (.lst acc) ∧ (acc ++ left).Perm xs ∧ acc.length = i
section
variable {P : Program} {w : World} {K : PySem.W.Frag} {mg : Str → Option Value} {base : Heap} {f : Addr} {fd : FuncData}
end
end TH

/-! A14: the parts; _law_names, _law_led -/
namespace TH
open PySem PySem.Spec PyProof.Rows L2 LamV LamX XK0
/-- the parts that a thing is made of -/
def IsPt (H : Hp) (pt : Addr) (d : ThD) : Prop := ∃ vl dd de, H pt = some (.tup [.ref vl, .str d.start, .ref dd, .ref de]) ∧ H vl = some (.lst (d.vals.map V.str)) ∧ DD H dd d.deeds ∧ DD H de d.ents
theorem IsPt.exN {H H' : Hp} {pt : Addr} {d : ThD} (x : ExtN H H') (h : IsPt H pt d) : IsPt H' pt d := by
  obtain ⟨vl, dd, de, e1, e2, e3, e4⟩ := h
  exact ⟨vl, dd, de, x _ _ e1 fun _ q => (nomatch q), x _ _ e2 fun _ q => (nomatch q), e3.exN x, e4.exN x⟩
theorem IsPt.ex {H H' : Hp} {pt : Addr} {d : ThD} (x : Ex H H') (h : IsPt H pt d) : IsPt H' pt d := h.exN x.extN
def spNames : Sp := fun vs H Q _ => ∃ (pt : Addr) (d : ThD), vs = [.ref pt] ∧ IsPt H pt d ∧ d.names.length < 64 ∧ ∀ (p : Addr) (ys : List Str) (H' : Hp), Ex H H' → H p = none → H' p = some (.lst (ys.map V.str)) → ys.Perm d.names → sortedS ys = true → Q (.ref p) H'
def spLed : Sp := fun vs H Q _ => ∃ (pt : Addr) (d : ThD) (v n : Str), vs = [.ref pt, .str v, .str n] ∧ IsPt H pt d ∧ ((∃ l, look d.deeds n = some l ∧ (lookL l v).isSome = true) ∨ (look d.deeds n = none ∧ (look d.ents n).isSome = true)) ∧ Q (optS (d.led v n)) H
section
variable {P : Program} {w : World} {K : PySem.W.Frag} {mg : Str → Option Value} {base : Heap} {f : Addr} {fd : FuncData}
end
end TH

/-! A15: _law_thing -/
namespace TH
open PySem PySem.Spec PyProof.Rows L2 LamV LamX XK0
def rDictP (K : PySem.W.Frag) : List V → Hp → VK → Prop := fun xs H Q => ∃ (a : Addr) (ps : List Addr) (kvs : List (Key × V)), xs = [.ref a] ∧ SqL K H a (ps.map V.ref) ∧ Paired (fun p kv => SqT K H p [kV kv.1, kv.2]) ps kvs ∧ ∀ p, H p = none → Q (.ref p) (upd H p (.dK (mergeK [] kvs)))
theorem call_dictPK {X : Cx} (hc : X.calm = true) : CallR X (.type "dict") (rDictP X.K) := call_dictP hc
theorem cut_take (xs : List V) (k : Nat) : cutV xs none (some (k : Int)) = xs.take k := by
  unfold cutV
  rw [HT.sIx_none, HT.sIx_nat, List.drop_zero, Nat.sub_zero]
  by_cases h : k ≤ xs.length
  · rw [Nat.min_eq_left h]
  · rw [Nat.min_eq_right (by omega), List.take_of_length_le (Nat.le_refl _), List.take_of_length_le (by omega)]
/-- what is no list stands while only the spring is changed -/
theorem ExS.non {sp l b : Addr} {H H' : Hp} {n : Nat} {o : HO} (x : ExS sp l H H') (s : Spr H sp l n) (h : H b = some o) (no : ∀ xs, o ≠ .lst xs) : H' b = some o := by
  obtain ⟨ns, a, m, s⟩ := s
  exact x b o (fun z => by rw [z, s.hs] at h; exact no _ (Option.some.inj h).symm) (fun z => by rw [z, s.hl] at h; exact no _ (Option.some.inj h).symm) h
theorem Spr.new {H : Hp} {sp l p : Addr} {n : Nat} {o : HO} (s : Spr H sp l n) (h : H p = none) : Spr (upd H p o) sp l n := s.ex (Ex.new h)
theorem Spr.off {H : Hp} {sp l p : Addr} {n : Nat} (s : Spr H sp l n) (h : H p = none) : p ≠ sp ∧ p ≠ l := by
  obtain ⟨ns, a, m, s⟩ := s
  exact ⟨fun z => (by rw [z, s.hs] at h; cases h), fun z => (by rw [z, s.hl] at h; cases h)⟩
theorem Spr.put {H : Hp} {sp l p : Addr} {n : Nat} {o : HO} (s : Spr H sp l n) (h : p ≠ sp ∧ p ≠ l) : Spr (upd H p o) sp l n := by
  obtain ⟨ns, a, m, s⟩ := s
  exact ⟨ns, a, m, (upd_ne h.1.symm).trans s.hs, (upd_ne h.2.symm).trans s.hl, s.ne, s.a0, s.m0, s.m1⟩
theorem DD.exS {sp l : Addr} {H H' : Hp} {n : Nat} {a : Addr} {ls : Lds} (x : ExS sp l H H') (s : Spr H sp l n) (h : DD H a ls) : DD H' a ls := by
  obtain ⟨kvs, e, p⟩ := h
  exact ⟨kvs, x.non s e (fun _ z => nomatch z), Paired.mapP p fun _ _ ⟨e1, b, e2, e3⟩ => ⟨e1, b, e2, x.non s e3 (fun _ z => nomatch z)⟩⟩
/-! ### dict([(worth, _law_one(spring, values)) for worth in ks]) -/
theorem putK_fresh {kvs : List (Key × V)} {k : Key} {v : V} (h : k ∉ kvs.map (·.1)) : putK kvs k v = kvs ++ [(k, v)] := by
  refine putK_new _ ?_
  induction kvs with
  | nil => rfl
  | cons p r ih =>
    simp only [List.map_cons, List.mem_cons, not_or] at h
    rw [valV_neg fun z => h.1 z.symm]
    exact ih h.2
theorem merge_nd : ∀ (more kvs : List (Key × V)), ((kvs ++ more).map (·.1)).Nodup → mergeK kvs more = kvs ++ more
  | [], kvs, _ => (List.append_nil _).symm
  | p :: r, kvs, h => by
    show mergeK (putK kvs p.1 p.2) r = _
    have e : p.1 ∉ kvs.map (·.1) := fun z => by
      rw [List.map_append, List.map_cons] at h
      exact (List.nodup_append.mp h).2.2 _ z _ List.mem_cons_self rfl
    rw [putK_fresh e, merge_nd r (kvs ++ [(p.1, p.2)]) (by simpa using h)]
    simp
theorem keys_nd {ld : Ld} (h : (ld.map (·.1)).Nodup) : ((ldV ld).map (·.1)).Nodup := by
  have e : (ldV ld).map (·.1) = (ld.map (·.1)).map Sum.inr := by
    unfold ldV
    rw [List.map_map, List.map_map]
    rfl
  rw [e]
  refine List.pairwise_map.mpr (List.Pairwise.imp (fun z q => z (Sum.inr.inj q)) h)
def tDO (K : PySem.W.Frag) (i : Nat) : TE := tCB (rDictP K) (tCons (tLc (iList K (tVar i)) (gName 8) tYes (tTup (tCons (tVar 8) (tCons (tCall spOne [] E0 (tCons (tVar 0) (tCons (tVar 3) tNil))) tNil))) [8]) tNil)
/-- at each turn: the pairs so far -/
def DOInv (H : Hp) (sp l D : Addr) (n : Nat) (ks vals : List Str) (i : Nat) (H2 : Hp) : Prop := ∃ (ps : List Addr) (ld : Ld), ExS sp l H H2 ∧ Spr H2 sp l (n + i) ∧ H2 D = some (.lst (ps.map V.ref)) ∧ ld.map (·.1) = ks.take i ∧ (∀ q ∈ ld, q.2 ∈ vals) ∧ ps.length = i ∧ Paired (fun p kv => H2 p = some (.tup [kV kv.1, kv.2])) ps (ldV ld)
theorem paired_app {α β : Type} {R : α → β → Prop} : ∀ {l : List α} {r : List β} {a : α} {b : β}, Paired R l r → R a b → Paired R (l ++ [a]) (r ++ [b])
  | _, _, _, _, .nil, h => .cons h .nil
  | _, _, _, _, .cons x q, h => .cons x (paired_app q h)
theorem dictOne_go {K : PySem.W.Frag} {σ : L2.St} {H : Hp} {Q : VK} {sp l va ka : Addr} {n i : Nat} {vals ks : List Str} (len : σ.length = 9) (s0 : σ[0]? = some (some (.ref sp))) (s3 : σ[3]? = some (some (.ref va))) (si : σ[i]? = some (some (.ref ka))) (S : Spr H sp l n) (hn : n + ks.length < 1000000)
    (hv : H va = some (.lst (vals.map V.str))) (v1 : va ≠ sp ∧ va ≠ l) (hk : H ka = some (.lst (ks.map V.str))) (k1 : ka ≠ sp ∧ ka ≠ l) (ne : vals ≠ []) (vl : vals.length ≤ 100) (kl : ks.length ≤ 100) (nd : ks.Nodup)
    (hQ : ∀ (ld : Ld) (p : Addr) (H' : Hp), ld.map (·.1) = ks → (∀ q ∈ ld, q.2 ∈ vals) → ExS sp l H H' → Spr H' sp l (n + ks.length) → H p = none → H' p = some (.dK (ldV ld)) → Q (.ref p) H') : tDO K i σ H Q := by
  refine ⟨.ref ka, si, ka, rfl, ⟨_, .inl (.inl hk)⟩, fun D nD => ?_⟩
  have d1 := S.off nD
  have keepL : ∀ {H2 : Hp} {b : Addr} {xs : List V}, ExS sp l H H2 → H b = some (.lst xs) → b ≠ sp ∧ b ≠ l → H2 b = some (.lst xs) := fun x h q => x _ _ q.1 q.2 h
  refine lc_list (K := K) (xs := ks.map V.str) (DOInv H sp l D n ks vals) ⟨[], [], (Ex.new nD).exS, S.new nD, upd_same, rfl, fun q m => (nomatch m), rfl, .nil⟩ (fun i H2 _ ⟨ps, ld, x, _⟩ => .inl (.inl (keepL x hk k1))) (fun i v H2 hv2 h => ?_) fun H2 h => ?_
  · obtain ⟨ps, ld, x2, S2, hD, lk, lv, pl, pr⟩ := h
    rw [List.getElem?_map] at hv2
    obtain ⟨w, ew, rfl⟩ := Option.map_eq_some_iff.mp hv2
    have ilt : i < ks.length := (List.getElem?_eq_some_iff.mp ew).1
    have a8 : (((wipe σ [8]).set 8 (some (V.str w))))[8]? = some (some (V.str w)) := List.getElem?_set_self (by rw [wipe_length, len]; decide)
    have a0 : (((wipe σ [8]).set 8 (some (V.str w))))[0]? = some (some (V.ref sp)) := by
      rw [List.getElem?_set_ne (by decide)]
      exact (List.getElem?_set_ne (by decide)).trans s0
    have a3 : (((wipe σ [8]).set 8 (some (V.str w))))[3]? = some (some (V.ref va)) := by
      rw [List.getElem?_set_ne (by decide)]
      exact (List.getElem?_set_ne (by decide)).trans s3
    refine ⟨?_, ?_⟩
    · show ((σ.set 8 none).set 8 (some (V.str w))).set 8 none = σ.set 8 none
      rw [List.set_set, List.set_set]
    refine ⟨.str w, a8, .ref sp, a0, .ref va, a3, sp, l, va, n + i, vals.map V.str, rfl, S2, by omega, v1.1, v1.2, keepL x2 hv v1, by simpa using ne, by rw [List.length_map]; omega, fun y H3 my x3 S3 => ?_⟩
    obtain ⟨g, mg, rfl⟩ := List.mem_map.mp my
    refine ⟨by show 2 ≤ sizeLine; decide, fun p np => ?_⟩
    have hD3 : H3 D = some (.lst (ps.map V.ref)) := x3 _ _ d1.1 d1.2 hD
    have pD : p ≠ D := fun z => by rw [z, hD3] at np; cases np
    have p1 := S3.off np
    refine ⟨ps.map V.ref, (upd_ne pD.symm).trans hD3, by rw [sizeLine_eq, List.length_map]; omega, ps ++ [p], ld ++ [(w, g)], ?_, (S3.new np).put d1, ?_, ?_, ?_, ?_, ?_⟩
    · intro b o b1 b2 e
      have bp : b ≠ p := fun z => by rw [z] at e; rw [x3 _ _ p1.1 p1.2 (x2 _ _ p1.1 p1.2 e)] at np; cases np
      have bD : b ≠ D := fun z => by rw [z, nD] at e; cases e
      exact (upd_ne bD).trans ((upd_ne bp).trans (x3 _ _ b1 b2 (x2 _ _ b1 b2 e)))
    · rw [upd_same, List.map_append]
      rfl
    · rw [List.map_append, lk, List.take_add_one, ew]
      rfl
    · intro q hq
      rcases List.mem_append.mp hq with z | z
      · exact lv q z
      · rw [List.mem_singleton.mp z]; exact mg
    · rw [List.length_append, pl]
      rfl
    · unfold ldV
      rw [List.map_append]
      refine paired_app (Paired.mapP pr fun b kv e => ?_) ?_
      · have e3 : H3 b = some (.tup [kV kv.1, kv.2]) := x3.non S2 e fun _ z => nomatch z
        have n1 : b ≠ p := fun z => by rw [z, np] at e3; cases e3
        have n2 : b ≠ D := fun z => by rw [z, hD3] at e3; cases e3
        exact (upd_ne n2).trans ((upd_ne n1).trans e3)
      · exact (upd_ne pD).trans upd_same
  · obtain ⟨ps, ld, x2, S2, hD, lk, lv, pl, pr⟩ := h
    rw [List.length_map] at lk pl S2
    rw [List.take_length] at lk
    have nd2 : (ld.map (·.1)).Nodup := lk ▸ nd
    refine ⟨D, ps, ldV ld, rfl, .inl (.inl hD), Paired.mapP pr fun p kv e => .inl (.inl e), fun p np => ?_⟩
    have em : mergeK [] (ldV ld) = ldV ld := merge_nd _ _ (keys_nd nd2)
    rw [em]
    have p1 := S2.off np
    exact hQ ld p _ lk lv (x2.trans (Ex.new np).exS) (S2.new np) (x2.none (n := 0) S2 np) upd_same
end TH

/-! A16: _law_thing -/
namespace TH
open PySem PySem.Spec PyProof.Rows L2 LamV LamX XK0
def valN : List Str := ["a", "b", "c", "d"]
def deedN : List Str := ["p", "q"]
def entN : List Str := ["e", "g", "h"]
/-- right parts -/
structure ThD.Good (d : ThD) : Prop where
  vals : ∃ k, 2 ≤ k ∧ k ≤ 4 ∧ d.vals = valN.take k
  start : d.start ∈ d.vals
  dn : ∃ k, k ≤ 2 ∧ d.deeds.map (·.1) = deedN.take k
  en : ∃ k, 1 ≤ k ∧ k ≤ 3 ∧ d.ents.map (·.1) = entN.take k
  dl : ∀ p ∈ d.deeds, p.2.map (·.1) = d.vals ∧ ∀ q ∈ p.2, q.2 ∈ d.vals
  el : ∀ p ∈ d.ents, (p.2.map (·.1)).Nodup ∧ (∀ q ∈ p.2, q.1 ∈ d.vals) ∧ ∀ q ∈ p.2, q.2 ∈ d.vals
/-- the parts, their list of values is none of the spring's -/
def IsPtS (sp l : Addr) (H : Hp) (pt : Addr) (d : ThD) : Prop := ∃ vl dd de, H pt = some (.tup [.ref vl, .str d.start, .ref dd, .ref de]) ∧ H vl = some (.lst (d.vals.map V.str)) ∧ (vl ≠ sp ∧ vl ≠ l) ∧ DD H dd d.deeds ∧ DD H de d.ents
theorem IsPtS.pt {sp l : Addr} {H : Hp} {pt : Addr} {d : ThD} (h : IsPtS sp l H pt d) : IsPt H pt d := by
  obtain ⟨vl, dd, de, e1, e2, _, e3, e4⟩ := h
  exact ⟨vl, dd, de, e1, e2, e3, e4⟩
def spThing : Sp := fun vs H Q _ => ∃ (sp l : Addr) (n : Nat) (most many : Int), vs = [.ref sp, .int most, .int many] ∧ Spr H sp l n ∧ n + 200 < 1000000 ∧ 2 ≤ most ∧ most ≤ 4 ∧ 1 ≤ many ∧ many ≤ 3 ∧
  ∀ (pt : Addr) (d : ThD) (m : Nat) (H' : Hp), d.Good → m ≤ n + 100 → ExS sp l H H' → Spr H' sp l m → H pt = none → IsPtS sp l H' pt d → Q (.ref pt) H'
/-- dict([(name, dict([..])) for name in ..]) -/
def tDDs (K : PySem.W.Frag) (tl : TE) : TE := tCB (rDictP K) (tCons (tLc (iList K tl) (gName 4) tYes (tTup (tCons (tVar 4) (tCons (tDO K 3) tNil))) [4]) tNil)
def PR (H : Hp) (lds : Lds) (kvs : List (Key × V)) : Prop := Paired (fun (l : Str × Ld) (kv : Key × V) => kv.1 = Sum.inr l.1 ∧ ∃ b, kv.2 = .ref b ∧ H b = some (.dK (ldV l.2))) lds kvs
theorem PR.keys {H : Hp} {lds : Lds} {kvs : List (Key × V)} (p : PR H lds kvs) : kvs.map (·.1) = (lds.map (·.1)).map Sum.inr := by
  induction p with
  | nil => rfl
  | cons r _ ih =>
    simp only [List.map_cons] at ih ⊢
    rw [ih, r.1]
theorem nd_inr {xs : List Str} (h : xs.Nodup) : (xs.map (Sum.inr : Str → Key)).Nodup := List.pairwise_map.mpr (List.Pairwise.imp (fun z q => z (Sum.inr.inj q)) h)
def DInv (H : Hp) (sp l D : Addr) (n : Nat) (names vals : List Str) (i : Nat) (H2 : Hp) : Prop := ∃ (ps : List Addr) (lds : Lds) (kvs : List (Key × V)), ExS sp l H H2 ∧ Spr H2 sp l (n + i * vals.length) ∧ H2 D = some (.lst (ps.map V.ref)) ∧ ps.length = i ∧ lds.map (·.1) = names.take i ∧
  (∀ p ∈ lds, p.2.map (·.1) = vals ∧ ∀ q ∈ p.2, q.2 ∈ vals) ∧ Paired (fun p kv => H2 p = some (.tup [kV kv.1, kv.2])) ps kvs ∧ PR H2 lds kvs
theorem deeds_go {K : PySem.W.Frag} {tl : TE} {σ : L2.St} {H : Hp} {Q : VK} {sp l va : Addr} {n : Nat} {vals : List Str} (len : σ.length = 9) (s0 : σ[0]? = some (some (.ref sp))) (s3 : σ[3]? = some (some (.ref va))) (S : Spr H sp l n) (hn : n + 100 < 1000000)
    (hv : H va = some (.lst (vals.map V.str))) (v1 : va ≠ sp ∧ va ≠ l) (ne : vals ≠ []) (vl : vals.length ≤ 4) (nd : vals.Nodup)
    (htl : ∀ Q, (∀ k ka H1, k ≤ 2 → ExS sp l H H1 → Spr H1 sp l (n + 1) → H ka = none → H1 ka = some (.lst ((deedN.take k).map V.str)) → Q (V.ref ka) H1) → tl σ H Q)
    (hQ : ∀ (lds : Lds) (p : Addr) (H' : Hp) (k m : Nat), k ≤ 2 → m ≤ n + 9 → lds.map (·.1) = deedN.take k → (∀ p ∈ lds, p.2.map (·.1) = vals ∧ ∀ q ∈ p.2, q.2 ∈ vals) → ExS sp l H H' → Spr H' sp l m → H p = none → DD H' p lds → Q (.ref p) H') : tDDs K tl σ H Q := by
  refine htl _ fun k ka H1 hk x1 S1 nka hka => ?_
  have k1 := S.off nka
  refine ⟨ka, rfl, ⟨_, .inl (.inl hka)⟩, fun D nD => ?_⟩
  have d1 := S1.off nD
  have nDH : H D = none := x1.none (n := 0) S1 nD
  have ndn : (deedN.take k).Nodup := (List.take_sublist k deedN).nodup (by decide)
  have kl : (deedN.take k).length = k := by rw [List.length_take]; exact Nat.min_eq_left hk
  refine lc_list (K := K) (xs := (deedN.take k).map V.str) (DInv H1 sp l D (n + 1) (deedN.take k) vals) ⟨[], [], [], (Ex.new nD).exS, by rw [Nat.zero_mul]; exact S1.new nD, upd_same, rfl, rfl, fun q m => (nomatch m), .nil, .nil⟩ (fun i H2 _ ⟨ps, ld, kvs, x, _⟩ => .inl (.inl (x _ _ k1.1 k1.2 hka))) (fun i v H2 hv2 h => ?_) fun H2 h => ?_
  · obtain ⟨ps, lds, kvs, x2, S2, hD, pl, lk, lv, pr, pr2⟩ := h
    rw [List.getElem?_map] at hv2
    obtain ⟨w, ew, rfl⟩ := Option.map_eq_some_iff.mp hv2
    have ilt : i < k := by
      have := (List.getElem?_eq_some_iff.mp ew).1
      omega
    have bd : i * vals.length ≤ 2 * 4 := Nat.mul_le_mul (by omega) vl
    have a4 : (((wipe σ [4]).set 4 (some (V.str w))))[4]? = some (some (V.str w)) := List.getElem?_set_self (by rw [wipe_length, len]; decide)
    have a0 : (((wipe σ [4]).set 4 (some (V.str w))))[0]? = some (some (V.ref sp)) := by
      rw [List.getElem?_set_ne (by decide)]
      exact (List.getElem?_set_ne (by decide)).trans s0
    have a3 : (((wipe σ [4]).set 4 (some (V.str w))))[3]? = some (some (V.ref va)) := by
      rw [List.getElem?_set_ne (by decide)]
      exact (List.getElem?_set_ne (by decide)).trans s3
    refine ⟨?_, ?_⟩
    · show ((σ.set 4 none).set 4 (some (V.str w))).set 4 none = σ.set 4 none
      rw [List.set_set, List.set_set]
    have hv1 := x1 _ _ v1.1 v1.2 hv
    have hv22 := x2 _ _ v1.1 v1.2 hv1
    refine ⟨.str w, a4, dictOne_go (by rw [List.length_set, wipe_length]; exact len) a0 a3 a3 S2 (by omega) hv22 v1 hv22 v1 ne (by omega) (by omega) nd fun ld b H3 k3 m3 x3 S3 nb hb => ?_⟩
    refine ⟨by show 2 ≤ sizeLine; decide, fun p np => ?_⟩
    have hD3 : H3 D = some (.lst (ps.map V.ref)) := x3 _ _ d1.1 d1.2 hD
    have pD : p ≠ D := fun z => by rw [z, hD3] at np; cases np
    have p1 := S3.off np
    have bp : b ≠ p := fun z => by rw [z, np] at hb; cases hb
    have bD : b ≠ D := fun z => by rw [z, hD3] at hb; cases hb
    refine ⟨ps.map V.ref, (upd_ne pD.symm).trans hD3, by rw [sizeLine_eq, List.length_map]; omega, ps ++ [p], lds ++ [(w, ld)], kvs ++ [(.inr w, .ref b)], ?_, ?_, ?_, by rw [List.length_append, pl]; rfl, ?_, ?_, ?_, ?_⟩
    · intro c o c1 c2 e
      have cp : c ≠ p := fun z => by rw [z] at e; rw [x3 _ _ p1.1 p1.2 (x2 _ _ p1.1 p1.2 e)] at np; cases np
      have cD : c ≠ D := fun z => by rw [z, nD] at e; cases e
      exact (upd_ne cD).trans ((upd_ne cp).trans (x3 _ _ c1 c2 (x2 _ _ c1 c2 e)))
    · rw [Nat.succ_mul, ← Nat.add_assoc]
      exact (S3.new np).put d1
    · rw [upd_same, List.map_append]
      rfl
    · rw [List.map_append, lk, List.take_add_one, ew]
      rfl
    · intro q hq
      rcases List.mem_append.mp hq with z | z
      · exact lv q z
      · rw [List.mem_singleton.mp z]; exact ⟨k3, m3⟩
    · refine paired_app (Paired.mapP pr fun b kv e => ?_) ((upd_ne pD).trans upd_same)
      have e3 : H3 b = some (.tup [kV kv.1, kv.2]) := x3.non S2 e fun _ z => nomatch z
      have n1 : b ≠ p := fun z => by rw [z, np] at e3; cases e3
      have n2 : b ≠ D := fun z => by rw [z, hD3] at e3; cases e3
      exact (upd_ne n2).trans ((upd_ne n1).trans e3)
    · refine paired_app (Paired.mapP pr2 fun l' kv ⟨e1, b', e2, e3⟩ => ⟨e1, b', e2, ?_⟩) ⟨rfl, b, rfl, (upd_ne bD).trans ((upd_ne bp).trans hb)⟩
      have e3 := x3.non S2 e3 fun _ z => nomatch z
      have n1 : b' ≠ p := fun z => by rw [z, np] at e3; cases e3
      have n2 : b' ≠ D := fun z => by rw [z, hD3] at e3; cases e3
      exact (upd_ne n2).trans ((upd_ne n1).trans e3)
  · obtain ⟨ps, lds, kvs, x2, S2, hD, pl, lk, lv, pr, pr2⟩ := h
    rw [List.length_map] at lk pl S2
    rw [List.take_length] at lk
    rw [kl] at S2
    have bd : k * vals.length ≤ 2 * 4 := Nat.mul_le_mul hk vl
    refine ⟨D, ps, kvs, rfl, .inl (.inl hD), Paired.mapP pr fun p kv e => .inl (.inl e), fun p np => ?_⟩
    have em : mergeK [] kvs = kvs := merge_nd _ _ (by rw [List.nil_append, pr2.keys, lk]; exact nd_inr ndn)
    rw [em]
    have p1 := S2.off np
    have x3 : ExS sp l H (upd H2 p (.dK kvs)) := (x1.trans x2).trans (Ex.new np).exS
    refine hQ lds p _ k _ hk (by omega) lk lv x3 (S2.new np) ((x1.trans x2).none (n := 0) S2 np) ⟨kvs, upd_same, Paired.mapP pr2 fun l' kv ⟨e1, b', e2, e3⟩ => ⟨e1, b', e2, ?_⟩⟩
    exact (Ex.new np) _ _ e3
end TH

/-! A17: _law_thing, the def -/
namespace TH
open PySem PySem.Spec PyProof.Rows L2 LamV LamX XK0
theorem perm_strs {ys : List V} {ks : List Str} (h : ys.Perm (ks.map V.str)) : ∃ zs : List Str, ys = zs.map V.str ∧ zs.Perm ks := by
  have e : ∃ zs : List Str, ys = zs.map V.str := by
    have all : ∀ y ∈ ys, ∃ z, y = V.str z := fun y m => by
      obtain ⟨z, _, e⟩ := List.mem_map.mp (h.mem_iff.mp m)
      exact ⟨z, e.symm⟩
    clear h
    induction ys with
    | nil => exact ⟨[], rfl⟩
    | cons y r ih =>
      obtain ⟨z, rfl⟩ := all y List.mem_cons_self
      obtain ⟨zs, rfl⟩ := ih fun y m => all y (List.mem_cons_of_mem _ m)
      exact ⟨z :: zs, rfl⟩
  obtain ⟨zs, rfl⟩ := e
  refine ⟨zs, rfl, ?_⟩
  have := h.filterMap fun v => match v with | .str z => some z | _ => none
  rw [List.filterMap_map, List.filterMap_map] at this
  have id : ∀ l : List Str, l.filterMap ((fun v => match v with | V.str z => some z | _ => none) ∘ V.str) = l := fun l => by
    induction l with
    | nil => rfl
    | cons a r ih => rw [List.filterMap_cons]; simp only [Function.comp]; exact congrArg _ ih
  rwa [id, id] at this
/-- at each turn of the for -/
def EInv (H : Hp) (sp l va dd de na : Addr) (n : Nat) (most many : Int) (names vals : List Str) (i : Nat) (σ : L2.St) (H2 : Hp) : Prop := ∃ (o4 o7 : Option V) (lds : Lds) (kvs : List (Key × V)) (m : Nat), σ = [some (.ref sp), some (.int most), some (.int many), some (.ref va), o4, some (.ref dd), some (.ref de), o7, none] ∧
  ExS sp l H H2 ∧ H2 na = some (.lst (names.map V.str)) ∧ Spr H2 sp l m ∧ m ≤ n + i * 9 ∧ H2 de = some (.dK kvs) ∧ Paired (fun (l : Str × Ld) (kv : Key × V) => kv.1 = Sum.inr l.1 ∧ ∃ b, kv.2 = .ref b ∧ b ≠ de ∧ H2 b = some (.dK (ldV l.2))) lds kvs ∧ lds.map (·.1) = names.take i ∧ ∀ p ∈ lds, (p.2.map (·.1)).Nodup ∧ (∀ q ∈ p.2, q.1 ∈ vals) ∧ ∀ q ∈ p.2, q.2 ∈ vals
section
variable {P : Program} {w : World} {K : PySem.W.Frag} {mg : Str → Option Value} {base : Heap} {f : Addr} {fd : FuncData}
end
end TH

/-! A18: check_entry, checked_names, where they raise -/
namespace TH
open PySem PySem.Spec PyProof.Rows L2 LamV LamX XK0
/-- C with the fields fs is raised, nothing else is changed -/
def Rz (E : XK) (H : Hp) (C : Addr) (fs : List (Str × V)) : Prop := ∀ H1 dd, Ex H H1 → H1 dd = none → E (.ref C) (some dd) (upd H1 dd (.xd fs))
theorem Rz.ex {E : XK} {H H1 : Hp} {C : Addr} {fs : List (Str × V)} (x : Ex H H1) (r : Rz E H C fs) : Rz E H1 C fs := fun H2 dd y n => r H2 dd (x.trans y) n
theorem FunD.okX {K : PySem.W.Frag} {P : Program} {w : World} {mg : Str → Option Value} {base : Heap} {x qual : Str} {st : Stmt} {f : Addr} {fd : FuncData} {N ps : List Str} {k : Nat} {sp : Sp} (F : FunD K x qual (defArgs st) (defBody st) (defScope st) [] [] f fd) (S : FnScope N ps (defScope st)) (len : ∀ vs H Q E, sp vs H Q E → vs.length = ps.length)
    (hbody : ∀ (cdv : Value) (A : Around) (outer : List Env) (s : Shared) (H : Hp) (vs : List V) (Q : VK) (E : XK), Room k (A.deeper (envOfC qual (defScope st) s.heap.objs.size f cdv)) → sp vs H Q E →
      ∃ t, PSs (cxOf (L2.CX P w) P w K mg base N qual (defScope st) f cdv A outer s H E) (defBody st) t ∧ t { nx := fun _ H' => Q .non H', rt := Q } (L2.start N vs) H) : FnOk P w K mg base (L2.CX P w) (k + 1) f fd ps sp := by
  obtain ⟨oc, od, dV, kV, doc, pm, an, cdv, ct, osl, rfl, lk, hcd, _⟩ := F.ex
  exact fn_of lk hcd S len fun A outer s H vs Q E hr hsp => hbody cdv A outer s H vs Q E hr hsp
/-- no entry of the thing -/
def NoEnt (d : ThD) (v : V) : Prop := isWd v = false ∨ ∃ x, v = .str x ∧ okS x = true ∧ look d.ents x = none
def spCheckEntryX (K : PySem.W.Frag) (C CN : Addr) : Sp := fun vs H Q E => ∃ (t : Addr) (d : ThD) (v : V) (T : String), vs = [.ref t, v] ∧ IsTh H C t d ∧ Kd K H v T ∧
  ((NoEnt d v ∧ Rz E H CN [("entry", v)]) ∨ ∃ x, v = .str x ∧ okS x = true ∧ (look d.ents x).isSome = true ∧ ∀ H', Ex H H' → Q .non H')
def fewL (xs : List V) : List V := match fbw xs [] 0 with
  | none => xs
  | some i => xs.take i
def strange (few : List V) (known : List Str) : Option Nat := few.findIdx? fun x => !inV x (known.map V.str)
def badIx (xs : List V) (known : List Str) : Option Nat := match strange (fewL xs) known with
  | some j => some j
  | none => fbw xs [] 0
def spCNX (K : PySem.W.Frag) (CB : Addr) : Sp := fun vs H Q E => ∃ (v : V) (kl : Addr) (ks : List Str) (j : Nat), vs = [v, .ref kl] ∧ SqL K H kl (ks.map V.str) ∧ Rz E H CB [("index", .int j)] ∧
  ((∃ T, Kd K H v T ∧ isLt T = false ∧ j = 0) ∨ ∃ (a : Addr) (xs : List V), v = .ref a ∧ Sq K H a xs ∧ xs.length ≤ 60 ∧ (∀ x ∈ xs, ∃ T, Kd K H x T) ∧ badIx xs ks = some j)
section
variable {P : Program} {w : World} {K : PySem.W.Frag} {mg : Str → Option Value} {base : Heap} {f C CN CB : Addr} {fd : FuncData}
theorem raise_go {X : Cx} {f : Str} {C : Addr} {E : XK} {σ : L2.St} {H : Hp} {t : TE} {y : V} {Q : XK} (Ec : ∃ x, Ec1 X.K X.mg x f C) (h : ∀ Q, Q y H → t σ H Q) (r : ∀ d, H d = none → Q (.ref C) (some d) (upd H d (.xd [(f, y)]))) : tMkO C (spI1 X.K f) [] (tCons t tNil) σ H Q := by
  obtain ⟨x, Ec⟩ := Ec
  refine h _ ?_
  exact mk1_ok Ec r
end
end TH

/-! A19: checked_names, where it raises -/
namespace TH
open PySem PySem.Spec PyProof.Rows L2 LamV LamX XK0
open C8 (pss_cut tCut)
theorem fbw_some : ∀ {xs met : List V} {i j : Nat}, fbw xs met i = some j → i ≤ j ∧ j < i + xs.length ∧ ∀ x ∈ xs.take (j - i), isWd x = true
  | [], _, _, _, h => by cases h
  | x :: r, met, i, j, h => by
    have e : fbw (x :: r) met i = if (!isWd x || inV x met) = true then some i else fbw r (met ++ [x]) (i + 1) := rfl
    rw [e] at h
    by_cases c : (!isWd x || inV x met) = true
    · rw [if_pos c] at h
      cases h
      refine ⟨Nat.le_refl _, by rw [List.length_cons]; omega, fun y m => ?_⟩
      rw [Nat.sub_self] at m
      cases m
    · rw [if_neg c] at h
      obtain ⟨h1, h2, h3⟩ := fbw_some h
      refine ⟨by omega, by rw [List.length_cons]; omega, fun y m => ?_⟩
      rw [show j - i = (j - (i + 1)) + 1 by omega, List.take_succ_cons] at m
      rcases List.mem_cons.mp m with rfl | m
      · cases w : isWd y with
        | true => rfl
        | false => rw [w] at c; exact absurd rfl c
      · exact h3 y m
theorem fbw_all : ∀ {xs met : List V} {i : Nat}, fbw xs met i = none → ∀ x ∈ xs, isWd x = true
  | [], _, _, _, _, m => by cases m
  | x :: r, met, i, h, y, m => by
    have e : fbw (x :: r) met i = if (!isWd x || inV x met) = true then some i else fbw r (met ++ [x]) (i + 1) := rfl
    rw [e] at h
    by_cases c : (!isWd x || inV x met) = true
    · rw [if_pos c] at h
      cases h
    · rw [if_neg c] at h
      rcases List.mem_cons.mp m with rfl | m
      · cases w : isWd y with
        | true => rfl
        | false => rw [w] at c; exact absurd rfl c
      · exact fbw_all h y m
theorem fewL_wd {xs : List V} : ∀ x ∈ fewL xs, isWd x = true := by
  unfold fewL
  cases h : fbw xs [] 0 with
  | none => exact fbw_all h
  | some i => exact (fbw_some h).2.2
theorem fewL_len {xs : List V} : (fewL xs).length ≤ xs.length := by
  unfold fewL
  cases h : fbw xs [] 0 with
  | none => exact Nat.le_refl _
  | some i => simp only [List.length_take]; exact Nat.min_le_right _ _
/-- positions so far -/
def PosOf (p : V → Bool) (few : List V) (n : Nat) (js : List Nat) : Prop := js.head? = (few.take n).findIdx? p ∧ js.length ≤ n
theorem posOf_step {p : V → Bool} {few : List V} {n : Nat} {js : List Nat} {x : V} (h : PosOf p few n js) (e : few[n]? = some x) : PosOf p few (n + 1) (if p x = true then js ++ [n] else js) := by
  obtain ⟨h1, h2⟩ := h
  have lt := (List.getElem?_eq_some_iff.mp e).1
  have tl : (few.take n).length = n := by rw [List.length_take]; exact Nat.min_eq_left (by omega)
  have ef : (few.take (n + 1)).findIdx? p = ((few.take n).findIdx? p).or (if p x = true then some n else none) := by
    rw [List.take_add_one, e, Option.toList_some, List.findIdx?_append, List.findIdx?_singleton, tl]
    cases p x
    · rfl
    · simp
  unfold PosOf
  rw [ef, ← h1]
  cases p x with
  | false => exact ⟨by simp, by simpa using Nat.le_succ_of_le h2⟩
  | true =>
    refine ⟨?_, by simpa using h2⟩
    cases js <;> rfl
theorem map_int (js : List Nat) : (js.map fun (j : Nat) => V.int j) = (js.map fun (j : Nat) => (j : Int)).map V.int := by
  rw [List.map_map]
  rfl
section
variable {P : Program} {w : World} {K : PySem.W.Frag} {mg : Str → Option Value} {base : Heap} {f C CN CB : Addr} {fd : FuncData}
end
end TH

/-! A20: first_open, shut_ring, is_shut_ring, helpers_of, idle_lots, where they raise before anything else -/
namespace TH
open PySem PySem.Spec PyProof.Rows L2 LamV LamX XK0
open C8 (pss_cut tCut)
/-- the names nv are refused with the index j, known being told by ks -/
def BadNm (K : PySem.W.Frag) (H : Hp) (nv : V) (known : List Str) (j : Nat) : Prop := (∃ T, Kd K H nv T ∧ isLt T = false ∧ j = 0) ∨ ∃ (a : Addr) (xs : List V), nv = .ref a ∧ Sq K H a xs ∧ xs.length ≤ 60 ∧ (∀ x ∈ xs, ∃ T, Kd K H x T) ∧ ∀ ks : List Str, (∀ x, x ∈ ks ↔ x ∈ known) → badIx xs ks = some j
theorem BadNm.ex {K : PySem.W.Frag} {H H' : Hp} {nv : V} {known : List Str} {j : Nat} (x : Ex H H') (h : BadNm K H nv known j) : BadNm K H' nv known j := by
  rcases h with ⟨T, kd, nl, e⟩ | ⟨a, xs, e, sq, l, kds, b⟩
  · exact .inl ⟨T, kd.ex x, nl, e⟩
  · exact .inr ⟨a, xs, e, sq.ex x, l, fun y m => (kds y m).imp fun _ z => z.ex x, b⟩
/-- refused: by the entry, or by the names -/
def Rfs (K : PySem.W.Frag) (CN CB : Addr) (E : XK) (H : Hp) (d : ThD) (v nv : V) (known : Str → List Str) : Prop := (NoEnt d v ∧ Rz E H CN [("entry", v)]) ∨ ∃ (x : Str) (j : Nat), v = .str x ∧ okS x = true ∧ (look d.ents x).isSome = true ∧ Rz E H CB [("index", .int j)] ∧ BadNm K H nv (known x) j
def spF3X (K : PySem.W.Frag) (C CN CB : Addr) (known : ThD → Str → List Str) : Sp := fun vs H Q E => ∃ (t : Addr) (d : ThD) (v nv : V) (T : String), vs = [.ref t, v, nv] ∧ IsTh H C t d ∧ d.names.length < 60 ∧ Kd K H v T ∧ Rfs K CN CB E H d v nv (known d)
def spF4X (K : PySem.W.Frag) (C CN CB : Addr) (known : ThD → Str → List Str) : Sp := fun vs H Q E => ∃ (t : Addr) (d : ThD) (v nv p : V) (T : String), vs = [.ref t, v, nv, p] ∧ IsTh H C t d ∧ d.names.length < 60 ∧ Kd K H v T ∧ Rfs K CN CB E H d v nv (known d)
def spF2X (K : PySem.W.Frag) (C CN : Addr) : Sp := fun vs H Q E => ∃ (t : Addr) (d : ThD) (v : V) (T : String), vs = [.ref t, v] ∧ IsTh H C t d ∧ Kd K H v T ∧ NoEnt d v ∧ Rz E H CN [("entry", v)]
def allNames (d : ThD) (_ : Str) : List Str := d.names
def lessNames (d : ThD) (x : Str) : List Str := d.names.filter fun y => !decide (y = x)
section
variable {P : Program} {w : World} {K : PySem.W.Frag} {mg : Str → Option Value} {base : Heap} {f C CN CB : Addr} {fd : FuncData}
/-- the names without the entry -/
theorem less_go {K : PySem.W.Frag} {i : Nat} {tn : TE} {σ : L2.St} {H : Hp} {Q : VK} {x : Str} (Py : List Str → Prop) (hi : i ≠ 1) (sl : σ[1]? = some (some (.str x))) (li : i < σ.length) (hn : ∀ Q, (∀ p H1 (ys : List Str), ys.length ≤ 100 → Py ys → Ex H H1 → H1 p = some (.lst (ys.map V.str)) → Q (V.ref p) H1) → tn σ H Q)
    (hQ : ∀ (q : Addr) (H' : Hp) (ys : List Str), Py ys → Ex H H' → H' q = some (.lst ((ys.filter fun y => !decide (y = x)).map V.str)) → Q (.ref q) H') : tLc (iList K tn) (gName i) (tTest (tOp rNe (tVar i) (tVar 1))) (tVar i) [i] σ H Q := by
  refine hn _ fun p H1 ys len py x1 hp => ⟨p, rfl, ⟨_, .inl (.inl hp)⟩, fun D nD => ?_⟩
  refine lc_list (K := K) (xs := ys.map V.str) (fun n H2 => Ex H1 H2 ∧ H2 D = some (.lst (((ys.take n).filter fun y => !decide (y = x)).map V.str))) ⟨Ex.new nD, upd_same⟩ (fun n H2 _ h => .inl (.inl (h.1 _ _ hp))) (fun n v H2 hv h => ?_) fun H2 h => ?_
  · obtain ⟨x2, hD⟩ := h
    rw [List.getElem?_map] at hv
    obtain ⟨w, ew, rfl⟩ := Option.map_eq_some_iff.mp hv
    have ai : (((wipe σ [i]).set i (some (V.str w))))[i]? = some (some (V.str w)) := List.getElem?_set_self (by rw [wipe_length]; exact li)
    have a1 : (((wipe σ [i]).set i (some (V.str w))))[1]? = some (some (V.str x)) := by
      rw [List.getElem?_set_ne hi]
      exact (List.getElem?_set_ne hi).trans sl
    refine ⟨?_, .str w, ai, .str x, a1, rfl, _, rfl, ?_⟩
    · show ((σ.set i none).set i (some (V.str w))).set i none = σ.set i none
      rw [List.set_set, List.set_set]
    rw [List.take_add_one, ew, Option.toList_some, List.filter_append]
    by_cases q : w = x
    · rw [show (!decide (V.str w = V.str x)) = false by rw [decide_eq_true (congrArg V.str q)]; rfl]
      refine ⟨x2, ?_⟩
      rw [List.filter_cons_of_neg (by simpa using q), List.filter_nil, List.append_nil]
      exact hD
    · rw [show (!decide (V.str w = V.str x)) = true by rw [decide_eq_false (fun z => q (V.str.inj z))]; rfl]
      have ln : ((ys.take n).filter fun y => !decide (y = x)).length ≤ ys.length := Nat.le_trans (List.length_filter_le _ _) (by rw [List.length_take]; exact Nat.min_le_right _ _)
      refine ⟨.str w, ai, _, hD, by rw [sizeLine_eq, List.length_map]; omega, fun b o e => (upd_ne fun z => by rw [z, nD] at e; cases e).trans (x2 _ _ e), ?_⟩
      rw [upd_same, List.filter_cons_of_pos (by simpa using q), List.filter_nil, List.map_append]
      rfl
  · obtain ⟨x2, hD⟩ := h
    rw [List.length_map, List.take_length] at hD
    exact hQ D H2 ys py (x1.trans x2) hD
theorem less_mem {d : ThD} {x : Str} {ys : List Str} (pm : ys.Perm d.names) (z : Str) : z ∈ ys.filter (fun y => !decide (y = x)) ↔ z ∈ lessNames d x := by
  unfold lessNames
  rw [List.mem_filter, List.mem_filter, pm.mem_iff]
theorem bad_go {K : PySem.W.Frag} {CB : Addr} {E : XK} {H H2 : Hp} {Q : VK} {d : ThD} {x : Str} {nv : V} {j : Nat} {ys : List Str} {q : Addr} (x2 : Ex H H2) (rz : Rz E H CB [("index", .int j)]) (bn : BadNm K H nv (lessNames d x) j) (pm : ys.Perm d.names) (hq : H2 q = some (.lst ((ys.filter fun y => !decide (y = x)).map V.str))) : spCNX K CB [nv, .ref q] H2 Q E := by
  refine ⟨nv, q, _, j, rfl, .inl (.inl hq), rz.ex x2, ?_⟩
  rcases bn.ex x2 with z | ⟨a, xs, e, sq, l, kds, b⟩
  · exact .inl z
  · exact .inr ⟨a, xs, e, sq, l, kds, b _ (less_mem pm)⟩
end
end TH

/-! A21: is_lead, first_wrong, where all is right -/
namespace TH
open PySem PySem.Spec PyProof.Rows L2 LamV LamX XK0
open C8 (pss_cut tCut)
/-- a right lead -/
def LeadOk (vals : List Str) (wh : Bool) (ld : Ld) : Prop := (∀ q ∈ ld, q.1 ∈ vals ∧ q.2 ∈ vals) ∧ (ld.map (·.1)).Nodup ∧ ld.length ≤ 1000 ∧ (wh = true → ld.length = vals.length)
def spIsLead (K : PySem.W.Frag) : Sp := fun vs H Q _ => ∃ (a kt : Addr) (ld : Ld) (vals : List Str) (wh : Bool), vs = [.ref a, .ref kt, .bl wh] ∧ H a = some (.dK (ldV ld)) ∧ SqT K H kt (vals.map V.str) ∧ vals.length ≤ 1000 ∧ (∀ x ∈ vals, okS x = true) ∧ LeadOk vals wh ld ∧ ∀ H', Ex H H' → Q (.bl true) H'
def spFirstWrong (K : PySem.W.Frag) : Sp := fun vs H Q _ => ∃ (a kt bl : Addr) (lds : Lds) (vals bs : List Str) (wh : Bool), vs = [.ref a, .ref kt, .ref bl, .bl wh] ∧ DD H a lds ∧ SqT K H kt (vals.map V.str) ∧ SqL K H bl (bs.map V.str) ∧ vals.length ≤ 1000 ∧ (∀ x ∈ vals, okS x = true) ∧
  (∀ l ∈ lds, okS l.1 = true ∧ l.1 ∉ bs ∧ LeadOk vals wh l.2) ∧ ∀ (p : Addr) (H' : Hp), Ex H H' → H p = none → H' p = some (.lst []) → Q (.ref p) H'
theorem Ex.unlock {H H' : Hp} {a : Addr} {u v : HO} (h : H a = some u) (x : Ex (upd H a v) H') : Ex H (upd H' a u) := fun b o e => by
  by_cases z : b = a
  · subst z
    rw [upd_same]
    exact h.symm.trans e
  · exact (upd_ne z).trans (x _ _ ((upd_ne z).trans e))
/-- what is no such object stands while it is locked -/
theorem lock_ne {H H' : Hp} {a b : Addr} {u v o : HO} (h : H a = some u) (x : Ex (upd H a v) H') (e : H b = some o) (n : o ≠ u) : H' b = some o := x _ _ ((upd_ne fun z => n (by rw [z, h] at e; exact (Option.some.inj e).symm)).trans e)
theorem lock_sqT {K : PySem.W.Frag} {H H' : Hp} {a b : Addr} {kvs : List (Key × V)} {v : HO} {xs : List V} (h : H a = some (.dK kvs)) (x : Ex (upd H a v) H') (e : SqT K H b xs) : SqT K H' b xs := x.sqT (sqT_put h (fun _ z => nomatch z) (fun _ _ z => nomatch z) e)
theorem flat_strs (vals : List Str) : (vals.map V.str).all flatV = true := List.all_eq_true.mpr fun y hy => by
  obtain ⟨q, _, rfl⟩ := List.mem_map.mp hy
  rfl
theorem lookL_mem : ∀ {ld : Ld} {q : Str × Str}, (ld.map (·.1)).Nodup → q ∈ ld → lookL ld q.1 = some q.2
  | p :: r, q, nd, m => by
    rw [List.map_cons, List.nodup_cons] at nd
    unfold lookL
    rw [List.find?_cons]
    rcases List.mem_cons.mp m with rfl | m
    · rw [decide_eq_true rfl]
      rfl
    · have ne : ¬ p.1 = q.1 := fun z => nd.1 (z ▸ List.mem_map_of_mem m)
      rw [decide_eq_false ne]
      exact lookL_mem nd.2 m
section
variable {P : Program} {w : World} {K : PySem.W.Frag} {mg : Str → Option Value} {base : Heap} {f C CN CB : Addr} {fd : FuncData}
end
end TH

/-! A22: o.f as a target; dict comprehensions over any walk; ordered -/
namespace TH
open PySem PySem.Spec PyProof.Rows L2 LamV LamX XK0
open C8 (pss_cut tCut)
/-- o.f = .. -/
def gFld (K : PySem.W.Frag) (ta : TE) (f : Str) : TG := fun v σ H Q => ta σ H fun x H1 => ∃ a C dx fs, x = .ref a ∧ H1 a = some (.ins C dx fs) ∧ Cls K C ∧ NoAttr K C f ∧ fs.length < 1000 ∧ Q σ (upd H1 a (.ins C dx (putF f v fs)))
theorem pg_fld {X : Cx} {o : Expr} {f : Str} {pos : Pos} {ta : TE} (ha : PE X o ta)
    (hb : ∀ v, assign (.Attribute o f pos) X.env v = (do
      let ov ← holding [v] (eval o X.env)
      standAt pos.atName
      holding [v, ov] (setAttr ov f v)
      release [v, ov] []) := by intro _; rfl) : PG X (.Attribute o f pos) (gFld X.K ta f) := by
  refine ⟨fun pins s σ H v u Q I r h => ?_⟩
  rw [hb]
  refine wpAny_bind (wpAny_holding (thn (ha.run pins s σ H _ I h) fun ov s1 ⟨x, H1, I1, rx, a, C, dx, fs, ex, ea, c, n, l, q⟩ => ?_))
  subst ex
  obtain rfl : ov = Value.ref a := rx
  refine wpAny_bind (wpAny_standAt (wpAny_bind (wpAny_holding (setattr_ok I1 ea c n l r fun s2 I2 => ?_))))
  exact wpAny_release ⟨σ, _, I2, q⟩
/-- a dict comprehension over any walk -/
theorem dc_it {J : L2.It} {n : Nat} {G : Hp → Prop} {Y : Nat → Hp → V → Hp → Prop} (w : Walk J n G Y) {g : TG} {tt : TT} {tk tv : TE} {vs : List Nat} {σ : L2.St} {H1 : Hp} {D : Addr} {Qd : Hp → Prop} (Pv : Nat → Hp → Prop) (h0 : Pv 0 (upd H1 D (.dK []))) (hG : ∀ i H, i ≤ n → Pv i H → G H)
    (hs : ∀ i x H H', i < n → Pv i H → Y i H x H' → g x (wipe σ vs) H' fun σ2 H2 => wipe σ2 vs = wipe σ vs ∧ tt σ2 H2 fun b H3 =>
      if b = true then tk σ2 H3 fun y H4 => tv σ2 H4 fun z H5 => ∃ kvs k, y = kV k ∧ H5 D = some (.dK kvs) ∧ kvs.length < sizeLine ∧ Pv (i + 1) (upd H5 D (.dK (putK kvs k z))) else Pv (i + 1) H3) (hd : ∀ H, Pv n H → Qd H) :
    ∃ W : Nat → Nat → Hp → Prop, (∃ m, W 0 m (upd H1 D (.dK []))) ∧ ∀ i m H, W i m H →
      (J.stop i H ∧ Qd H) ∨ (J.go i H ∧ ∃ Nx : Hp → Prop, (∀ H', Nx H' → ∃ m', m' < m ∧ W (i + 1) m' H') ∧ ∀ x H', J.yld i H x H' → g x (wipe σ vs) H' fun σ2 H2 => wipe σ2 vs = wipe σ vs ∧ tt σ2 H2 fun b H3 =>
        if b = true then tk σ2 H3 fun y H4 => tv σ2 H4 fun z H5 => ∃ kvs k, y = kV k ∧ H5 D = some (.dK kvs) ∧ kvs.length < sizeLine ∧ Nx (upd H5 D (.dK (putK kvs k z))) else Nx H3) := by
  refine ⟨fun i m H => m = n - i ∧ i ≤ n ∧ Pv i H, ⟨n, by simp, Nat.zero_le _, h0⟩, ?_⟩
  rintro i m H ⟨rfl, hi, p⟩
  have q := hG i H hi p
  by_cases hlt : i < n
  · exact .inr ⟨w.goes i H hlt q, Pv (i + 1), fun H' p' => ⟨n - (i + 1), by omega, rfl, hlt, p'⟩, fun x H' y => hs i x H H' hlt p (w.yields i H x H' hlt q y)⟩
  · have e : i = n := by omega
    subst e
    exact .inl ⟨w.stops H q, hd H p⟩
/-! ### ordered -/
def ordL (vals : List Str) (l : Ld) : Ld := vals.filterMap fun v => (lookL l v).map fun g => (v, g)
theorem ordL_snoc (vals : List Str) (v : Str) (l : Ld) : ordL (vals ++ [v]) l = ordL vals l ++ (match lookL l v with | some g => [(v, g)] | none => []) := by
  unfold ordL
  rw [List.filterMap_append]
  congr 1
  cases h : lookL l v <;> simp [h]
theorem ordL_keys {vals : List Str} {l : Ld} {v : Str} (h : v ∈ (ordL vals l).map (·.1)) : v ∈ vals := by
  obtain ⟨q, hq, rfl⟩ := List.mem_map.mp h
  unfold ordL at hq
  obtain ⟨u, hu, e⟩ := List.mem_filterMap.mp hq
  obtain ⟨g, _, rfl⟩ := Option.map_eq_some_iff.mp e
  exact hu
theorem ordL_len (vals : List Str) (l : Ld) : (ordL vals l).length ≤ vals.length := List.length_filterMap_le _ _
theorem ldV_keys (l : Ld) : (ldV l).map (·.1) = (l.map (·.1)).map Sum.inr := by
  unfold ldV
  rw [List.map_map, List.map_map]
  rfl
/-- the inner dict -/
def tIN (K : PySem.W.Frag) : TE := tDc (iList K (tVar 1)) (gName 3) (tTest (tDIn (tVar 3) (tDGet (tVar 0) (tVar 2)))) (tVar 3) (tDGet (tDGet (tVar 0) (tVar 2)) (tVar 3)) [3]
theorem take_fresh {α : Type} {xs : List α} {i : Nat} {x : α} (nd : xs.Nodup) (e : xs[i]? = some x) : x ∉ xs.take i := fun m => by
  have nn := List.nodup_append.mp (show (xs.take i ++ xs.drop i).Nodup by rw [List.take_append_drop]; exact nd)
  refine nn.2.2 _ m _ ?_ rfl
  obtain ⟨lt, e⟩ := List.getElem?_eq_some_iff.mp e
  rw [List.drop_eq_getElem_cons lt, e]
  exact List.mem_cons_self
theorem inner_go {K : PySem.W.Frag} {σ : L2.St} {H : Hp} {Q : VK} {a kl b : Addr} {name : Str} {kvs : List (Key × V)} {l : Ld} {vals : List Str} (len : σ.length = 4) (s0 : σ[0]? = some (some (.ref a))) (s1 : σ[1]? = some (some (.ref kl))) (s2 : σ[2]? = some (some (.str name)))
    (ha : H a = some (.dK kvs)) (hv : valV kvs (Sum.inr name) = some (.ref b)) (hb : H b = some (.dK (ldV l))) (hk : SqL K H kl (vals.map V.str)) (nd : vals.Nodup) (vl : vals.length ≤ 1000)
    (hQ : ∀ (p : Addr) (H' : Hp), Ex H H' → H p = none → H' p = some (.dK (ldV (ordL vals l))) → Q (.ref p) H') : tIN K σ H Q := by
  refine ⟨.ref kl, s1, kl, rfl, ⟨_, hk⟩, fun D nD => ?_⟩
  refine dc_it (walk_list (xs := vals.map V.str)) (fun i H2 => Ex H H2 ∧ H2 D = some (.dK (ldV (ordL (vals.take i) l)))) ⟨Ex.new nD, upd_same⟩ (fun i H2 _ h => h.1.sqL hk) (fun i v H2 H3 hi h y => ?_) fun H2 h => ?_
  · obtain ⟨x2, hD⟩ := h
    obtain ⟨rfl, y⟩ := y
    rw [List.getElem?_map] at y
    obtain ⟨w, ew, rfl⟩ := Option.map_eq_some_iff.mp y
    have a3 : (((wipe σ [3]).set 3 (some (V.str w))))[3]? = some (some (V.str w)) := List.getElem?_set_self (by rw [wipe_length, len]; decide)
    have up : ∀ j, j ≠ 3 → (((wipe σ [3]).set 3 (some (V.str w))))[j]? = σ[j]? := fun j hj => by
      rw [List.getElem?_set_ne hj.symm]
      exact List.getElem?_set_ne hj.symm
    have a0 := (up 0 (by decide)).trans s0
    have a2 := (up 2 (by decide)).trans s2
    have g1 : DGet H3 a (.str name) (some (.ref b)) := hv ▸ DGet.k (k := Sum.inr name) (x2 _ _ ha)
    have g2 : DGet H3 b (.str w) (valV (ldV l) (Sum.inr w)) := DGet.k (k := Sum.inr w) (x2 _ _ hb)
    refine ⟨?_, .str w, a3, .ref a, a0, .str name, a2, a, .ref b, rfl, g1, b, _, rfl, g2, _, rfl, ?_⟩
    · show ((σ.set 3 none).set 3 (some (V.str w))).set 3 none = σ.set 3 none
      rw [List.set_set, List.set_set]
    rw [List.take_add_one, ew, Option.toList_some, ordL_snoc]
    rw [lookL_val] at g2 ⊢
    cases q : lookL l w with
    | none => exact ⟨x2, by rw [List.append_nil]; exact hD⟩
    | some g =>
      rw [q] at g2
      have fr : (Sum.inr w : Key) ∉ (ldV (ordL (vals.take i) l)).map (·.1) := fun z => by
        rw [ldV_keys] at z
        obtain ⟨u, mu, eu⟩ := List.mem_map.mp z
        cases eu
        exact take_fresh nd ew (ordL_keys mu)
      have ln : (ldV (ordL (vals.take i) l)).length ≤ vals.length := by
        unfold ldV
        rw [List.length_map]
        exact Nat.le_trans (ordL_len _ _) (by rw [List.length_take]; exact Nat.min_le_right _ _)
      refine ⟨.str w, a3, .ref a, a0, .str name, a2, a, .ref b, rfl, g1, .str w, a3, b, .str g, rfl, g2, _, Sum.inr w, rfl, hD, by rw [sizeLine_eq]; omega, fun c o e => (upd_ne fun z => by rw [z, nD] at e; cases e).trans (x2 _ _ e), ?_⟩
      rw [upd_same, putK_fresh fr]
      unfold ldV
      rw [List.map_append]
      rfl
  · obtain ⟨x2, hD⟩ := h
    rw [List.length_map, List.take_length] at hD
    exact hQ D H2 x2 nD hD
/-- as PR, none of the dicts being N -/
def PRn (N : Addr) (H : Hp) (lds : Lds) (kvs : List (Key × V)) : Prop := Paired (fun (l : Str × Ld) (kv : Key × V) => kv.1 = Sum.inr l.1 ∧ ∃ b, kv.2 = .ref b ∧ b ≠ N ∧ H b = some (.dK (ldV l.2))) lds kvs
theorem PRn.pr {N : Addr} {H : Hp} {lds : Lds} {kvs : List (Key × V)} (p : PRn N H lds kvs) : PR H lds kvs := Paired.mapP p fun _ _ ⟨e1, b, e2, _, e3⟩ => ⟨e1, b, e2, e3⟩
def ordD (vals : List Str) (lds : Lds) (ns : List Str) : Lds := ns.map fun n => (n, ordL vals ((look lds n).getD []))
def spOrdered (K : PySem.W.Frag) : Sp := fun vs H Q _ => ∃ (a kl : Addr) (lds : Lds) (vals : List Str), vs = [.ref a, .ref kl] ∧ DD H a lds ∧ (lds.map (·.1)).Nodup ∧ lds.length < 64 ∧ SqL K H kl (vals.map V.str) ∧ vals.Nodup ∧ vals.length ≤ 1000 ∧
  ∀ (p : Addr) (H' : Hp) (ns : List Str), ns.Perm (lds.map (·.1)) → sortedS ns = true → Ex H H' → H p = none → DD H' p (ordD vals lds ns) → Q (.ref p) H'
section
variable {P : Program} {w : World} {K : PySem.W.Frag} {mg : Str → Option Value} {base : Heap} {f C CN CB : Addr} {fd : FuncData}
end
end TH

/-! A23: Thing.__init__ of right parts, _law_made -/
namespace TH
open PySem PySem.Spec PyProof.Rows L2 LamV LamX XK0
open C8 (pss_cut tCut)
/-- all but p stands -/
def ExA (p : Addr) (H H' : Hp) : Prop := ∀ b o, b ≠ p → H b = some o → H' b = some o
theorem Ex.exA {p : Addr} {H H' : Hp} (x : Ex H H') : ExA p H H' := fun b o _ e => x b o e
theorem ExA.trans {p : Addr} {H H1 H2 : Hp} (x : ExA p H H1) (y : ExA p H1 H2) : ExA p H H2 := fun b o n e => y b o n (x b o n e)
theorem ExA.upd {p : Addr} {H : Hp} {o : HO} : ExA p H (upd H p o) := fun b _ n e => (upd_ne n).trans e
theorem ExA.non {p b : Addr} {H H' : Hp} {o u : HO} (x : ExA p H H') (hp : H p = some u) (h : H b = some o) (n : o ≠ u) : H' b = some o := x b o (fun z => n (by rw [z, hp] at h; exact (Option.some.inj h).symm)) h
theorem ExA.sqL {K : PySem.W.Frag} {p a : Addr} {H H' : Hp} {C dx : Addr} {fs : List (Str × V)} {xs : List V} (x : ExA p H H') (hp : H p = some (.ins C dx fs)) (h : SqL K H a xs) : SqL K H' a xs := h.imp (Or.imp (fun z => x.non hp z fun q => nomatch q) fun ⟨o, z⟩ => ⟨o, x.non hp z fun q => nomatch q⟩) id
theorem ExA.sqT {K : PySem.W.Frag} {p a : Addr} {H H' : Hp} {C dx : Addr} {fs : List (Str × V)} {xs : List V} (x : ExA p H H') (hp : H p = some (.ins C dx fs)) (h : SqT K H a xs) : SqT K H' a xs := h.imp (Or.imp (fun z => x.non hp z fun q => nomatch q) fun ⟨o, z⟩ => ⟨o, x.non hp z fun q => nomatch q⟩) id
theorem DD.exA {p a : Addr} {H H' : Hp} {C dx : Addr} {fs : List (Str × V)} {ls : Lds} (x : ExA p H H') (hp : H p = some (.ins C dx fs)) (h : DD H a ls) : DD H' a ls := by
  obtain ⟨kvs, e, q⟩ := h
  exact ⟨kvs, x.non hp e (fun z => nomatch z), Paired.mapP q fun _ _ ⟨e1, b, e2, e3⟩ => ⟨e1, b, e2, x.non hp e3 fun z => nomatch z⟩⟩
theorem putF_new {f : Str} {v : V} : ∀ {fs : List (Str × V)}, f ∉ fs.map (·.1) → putF f v fs = fs ++ [(f, v)]
  | [], _ => rfl
  | (g, x) :: r, h => by
    simp only [List.map_cons, List.mem_cons, not_or] at h
    show (if g = f then (g, v) :: r else (g, x) :: putF f v r) = _
    rw [if_neg fun z => h.1 z.symm, putF_new h.2]
    rfl
/-- parts that Thing takes -/
structure ThD.Fit (d : ThD) : Prop where
  vne : d.vals ≠ []
  vok : ∀ x ∈ d.vals, okS x = true
  vnd : d.vals.Nodup
  vln : d.vals.length ≤ 60
  st : d.start ∈ d.vals
  dln : d.deeds.length < 60
  eln : d.ents.length < 60
  dnd : (d.deeds.map (·.1)).Nodup
  end_ : (d.ents.map (·.1)).Nodup
  dok : ∀ l ∈ d.deeds, okS l.1 = true ∧ LeadOk d.vals true l.2
  eok : ∀ l ∈ d.ents, okS l.1 = true ∧ l.1 ∉ d.deeds.map (·.1) ∧ LeadOk d.vals false l.2
/-- the thing made of such parts: names in order, values in theirs -/
def IsOrd (d d' : ThD) : Prop := ∃ ns ms, ns.Perm (d.deeds.map (·.1)) ∧ sortedS ns = true ∧ ms.Perm (d.ents.map (·.1)) ∧ sortedS ms = true ∧ d' = ⟨d.vals, d.start, ordD d.vals d.deeds ns, ordD d.vals d.ents ms⟩
def spInit (K : PySem.W.Frag) (C : Addr) : Sp := fun vs H Q _ => ∃ (p dx vl dd de : Addr) (d : ThD), vs = [.ref p, .ref vl, .str d.start, .ref dd, .ref de] ∧ H p = some (.ins C dx []) ∧ SqL K H vl (d.vals.map V.str) ∧ DD H dd d.deeds ∧ DD H de d.ents ∧ d.Fit ∧
  ∀ (H' : Hp) (d' : ThD), ExA p H H' → IsTh H' C p d' → IsOrd d d' → Q .non H'
section
variable {P : Program} {w : World} {K : PySem.W.Frag} {mg : Str → Option Value} {base : Heap} {f C CN CB : Addr} {fd : FuncData}
def f2 (a b : V) : List (Str × V) := [("kept_values", a), ("kept_start", b)]
def f4 (a b c d : V) : List (Str × V) := [("kept_values", a), ("kept_start", b), ("kept_deeds", c), ("kept_entries", d)]
theorem flds2 (a b : V) : putF "kept_start" b (putF "kept_values" a []) = f2 a b := by
  have n1 : ("kept_start" : Str) ∉ ([("kept_values" : Str)] : List Str) := by decide +kernel
  exact putF_new (fs := [(("kept_values" : Str), a)]) n1
theorem flds4 (a b c d : V) : putF "kept_entries" d (putF "kept_deeds" c (f2 a b)) = f4 a b c d := by
  have n2 : ("kept_deeds" : Str) ∉ ([("kept_values" : Str), "kept_start"] : List Str) := by decide +kernel
  have n3 : ("kept_entries" : Str) ∉ ([("kept_values" : Str), "kept_start", "kept_deeds"] : List Str) := by decide +kernel
  rw [putF_new (f := "kept_deeds") (fs := f2 a b) n2]
  exact putF_new (fs := f2 a b ++ [(("kept_deeds" : Str), c)]) n3
/-- the thing of the parts -/
def spMade (K : PySem.W.Frag) (C : Addr) : Sp := fun vs H Q _ => ∃ (pt : Addr) (d : ThD), vs = [.ref pt] ∧ IsPt H pt d ∧ d.Fit ∧ ∀ (t : Addr) (H' : Hp) (d' : ThD), Ex H H' → H t = none → IsTh H' C t d' → IsOrd d d' → Q (.ref t) H'
end
end TH

/-! O1: a dict whose keys are of many kinds: None, numbers, texts, tuples of such -/
namespace OD
open PySem PySem.Spec
/-- the entries es are of the keys ks -/
def EntK (w : World) (h : Heap) (es : Array DictEntry) (ks : List NestedKey) : Prop :=
  es.size = ks.length ∧ ∀ (i : Nat) (e : DictEntry), es[i]? = some e → ∃ k, ks[i]? = some k ∧ NestedIs h k e.key ∧ e.hash = k.hash w ∧ k.depth ≤ 8
section
variable {prog : Program} {w : World} {A : Around} {E : Value → Shared → Prop} {s : Shared} {d : Addr} {o : Obj} {es : Array DictEntry} {ep : Nat} {key : Value} {k : NestedKey} {ks : List NestedKey}
abbrev plc (w : World) (es : Array DictEntry) (k : NestedKey) : List Nat := placesWithHash es.size (fun j => es[j]?.map (·.hash)) (k.hash w)
/-- how far the search has come at place i -/
def Seen (ks : List NestedKey) (k : NestedKey) (i : Nat) (hit : Option Nat) : Prop := (hit = none ∧ ∀ j, j < i → ks[j]? ≠ some k) ∨ ∃ j, hit = some j ∧ j < i ∧ ks[j]? = some k
theorem seen_end {i : Nat} {hit : Option Nat} (nd : ks.Nodup) (x : Seen ks k i hit) (far : ∀ j, i ≤ j → ks[j]? ≠ some k) : hit = ks.findIdx? fun y => decide (y = k) := by
  rcases x with ⟨rfl, no⟩ | ⟨j, rfl, _, e⟩
  · symm
    refine List.findIdx?_eq_none_iff.mpr fun y my => ?_
    obtain ⟨j, e⟩ := List.getElem?_of_mem my
    refine decide_eq_false fun z => ?_
    subst z
    by_cases l : j < i
    · exact no j l e
    · exact far j (by omega) e
  · symm
    obtain ⟨lt, e2⟩ := List.getElem?_eq_some_iff.mp e
    refine List.findIdx?_eq_some_iff_getElem.mpr ⟨lt, decide_eq_true e2, fun i hi => ?_⟩
    simp only [decide_eq_true_eq]
    intro z
    have := (List.getElem?_inj (i := i) (j := j) (by omega) nd).mp (by rw [List.getElem?_eq_getElem (by omega), List.getElem?_eq_getElem lt, z, e2])
    omega
theorem tells_not {stored : List Value} {Q : Bool → Shared → Prop} (is : NestedIs s.heap k key) (dp : k.depth ≤ 8) (st : ∀ v ∈ stored, ∃ y : NestedKey, NestedIs s.heap y v ∧ y.depth ≤ 8) (q : Q false s) : wpAny (model prog w) A (tableMayTell key stored) Q E s := by
  unfold tableMayTell
  split
  · exact wpAny_pure q
  · refine wpAny_bind (quiet_key k key 8 s is dp A _ _ ?_)
    simp only [Bool.not_true, Bool.false_eq_true, if_false]
    refine wpAny_bind (wpAny_forIn_list _ (fun rest r t => t = s ∧ r = (none, ()) ∧ ∀ v ∈ rest, ∃ y : NestedKey, NestedIs s.heap y v ∧ y.depth ≤ 8) _ (fun v rest r t ⟨et, er, all⟩ => ?_) (fun r t ⟨et, er, _⟩ => ?_) _ _ ⟨rfl, rfl, st⟩)
    · subst et er
      obtain ⟨y, iy, dy⟩ := all v List.mem_cons_self
      refine wpAny_bind (quiet_key y v 8 _ iy dy A _ _ ?_)
      simp only [Bool.not_true, Bool.false_eq_true, if_false]
      exact wpAny_pure ⟨rfl, rfl, fun u mu => all u (List.mem_cons_of_mem _ mu)⟩
    · subst et er
      exact wpAny_pure q
theorem stored_keys (ek : EntK w s.heap es ks) : ∀ v ∈ (plc w es k).filterMap (fun j => es[j]?.map (·.key)), ∃ y : NestedKey, NestedIs s.heap y v ∧ y.depth ≤ 8 := fun v mv => by
  obtain ⟨j, _, e⟩ := List.mem_filterMap.mp mv
  obtain ⟨en, e1, e2⟩ := Option.map_eq_some_iff.mp e
  subst e2
  obtain ⟨y, _, i1, _, dy⟩ := ek.2 j en e1
  exact ⟨y, i1, dy⟩
theorem no_place (ek : EntK w s.heap es ks) {j : Nat} (h : ks[j]? = some k) : ((es[j]?.map (·.hash)) == some (k.hash w)) = true := by
  have lt : j < es.size := by rw [ek.1]; exact (List.getElem?_eq_some_iff.mp h).1
  obtain ⟨y, e1, _, e2, _⟩ := ek.2 j es[j] (Array.getElem?_eq_getElem lt)
  rw [h] at e1
  cases e1
  rw [Array.getElem?_eq_getElem lt, Option.map_some, e2]
  exact beq_self_eq_true _
/-- a step of the search -/
theorem seen_step {i x : Nat} {hit : Option Nat} (ek : EntK w s.heap es ks) (sn : Seen ks k i hit) (ix : i ≤ x) (skip : ∀ j, i ≤ j → j < x → ((es[j]?.map (·.hash)) == some (k.hash w)) = false) : Seen ks k x hit := by
  rcases sn with ⟨h0, no⟩ | ⟨j, h1, h2, h3⟩
  · refine .inl ⟨h0, fun j jx e => ?_⟩
    by_cases l : j < i
    · exact no j l e
    · have := skip j (by omega) jx
      rw [no_place ek e] at this
      cases this
  · exact .inr ⟨j, h1, by omega, h3⟩
theorem seen_more {x : Nat} {hit : Option Nat} {y : NestedKey} (sn : Seen ks k x hit) (e : ks[x]? = some y) (ne : y ≠ k) : Seen ks k (x + 1) hit := by
  rcases sn with ⟨h0, no⟩ | ⟨j, h1, h2, h3⟩
  · refine .inl ⟨h0, fun j jx e2 => ?_⟩
    by_cases l : j < x
    · exact no j l e2
    · have : j = x := by omega
      subst this
      rw [e] at e2
      exact ne (Option.some.inj e2)
  · exact .inr ⟨j, h1, by omega, h3⟩
/-- what is known at each turn of a search -/
def Turn1 (w : World) (es : Array DictEntry) (ks : List NestedKey) (k : NestedKey) (rest : List Nat) (hit : Option Nat) : Prop :=
  ∃ i, rest = (List.range' i (es.size - i)).filter (fun j => (es[j]?.map (·.hash)) == some (k.hash w)) ∧ i ≤ es.size ∧ Seen ks k i hit
theorem turn_first : Turn1 w es ks k (plc w es k) none := ⟨0, by unfold plc; rw [placesWithHash, List.range_eq_range', Nat.sub_zero], Nat.zero_le _, .inl ⟨rfl, fun _ h => absurd h (Nat.not_lt_zero _)⟩⟩
theorem turn_last {hit : Option Nat} (ek : EntK w s.heap es ks) (nd : ks.Nodup) (t : Turn1 w es ks k [] hit) : hit = ks.findIdx? fun y => decide (y = k) := by
  obtain ⟨i, e, le, sn⟩ := t
  refine seen_end nd sn fun j ij ej => ?_
  have z := no_place ek ej
  have lt : j < es.size := by rw [ek.1]; exact (List.getElem?_eq_some_iff.mp ej).1
  have := List.filter_eq_nil_iff.mp e.symm j (List.mem_range'_1.mpr ⟨ij, by omega⟩)
  exact this z
theorem turn_next {x : Nat} {rest : List Nat} {hit : Option Nat} (ek : EntK w s.heap es ks) (t : Turn1 w es ks k (x :: rest) hit) : x < es.size ∧ Seen ks k x hit ∧ ∀ hit', Seen ks k (x + 1) hit' → Turn1 w es ks k rest hit' := by
  obtain ⟨i, e, le, sn⟩ := t
  obtain ⟨h1, h2, h3, h4, h5⟩ := filter_range'_cons _ _ _ _ _ e.symm
  have lt : x < es.size := by omega
  refine ⟨lt, seen_step ek sn h1 h4, fun hit' sn' => ⟨x + 1, ?_, lt, sn'⟩⟩
  rw [h5]
  congr 2
  omega
end
end OD

/-! O2: finding a key -/
namespace OD
open PySem PySem.Spec
section
variable {prog : Program} {w : World} {A : Around} {E : Value → Shared → Prop} {s : Shared} {d : Addr} {o : Obj} {es : Array DictEntry} {ep : Nat} {key : Value} {k : NestedKey} {ks : List NestedKey}
theorem walk_plain {Q : Option Nat → Shared → Prop} (room : A.units + 8 < cLine) (is : NestedIs s.heap k key) (dp : k.depth ≤ 8) (oh : s.heap.get? d = some o) (dh : o.data = .dict es ep) (ek : EntK w s.heap es ks) (nd : ks.Nodup)
    (q : Q (ks.findIdx? fun y => decide (y = k)) s) : wpAny (model prog w) A (dictWalkPlain d key (k.hash w) es (plc w es k)) Q E s := by
  unfold dictWalkPlain
  refine wpAny_bind (wpAny_forIn_list _ (fun rest r t => t = s ∧ r = (none, ()) ∧ Turn1 w es ks k rest none) _ (fun x rest r t ⟨et, er, tn⟩ => ?_) (fun r t ⟨et, er, tn⟩ => ?_) _ _ ⟨rfl, rfl, turn_first⟩)
  · subst et er
    obtain ⟨lt, sn, next⟩ := turn_next ek tn
    obtain ⟨y, ey, iy, hy, dy⟩ := ek.2 x es[x] (Array.getElem?_eq_getElem lt)
    rw [Array.getElem?_eq_getElem lt]
    dsimp only
    have more : y ≠ k → Turn1 w es ks k rest none := fun ne => next none (seen_more sn ey ne)
    by_cases hh : (es[x].hash == k.hash w) = true
    · rw [if_pos hh]
      refine wpAny_bind (wpAny_dictEpoch oh dh (wpAny_bind (eqAt_key y k A t _ _ iy is (by omega) _ _ _ _ (wpAny_bind (wpAny_dictEpoch oh dh ?_)))))
      rw [show (ep != ep) = false by simp, if_neg Bool.false_ne_true, ← NestedKey.decide_eq]
      by_cases e : y = k
      · rw [decide_eq_true e]
        have z := seen_end (hit := some x) nd (.inr ⟨x, rfl, Nat.lt_succ_self x, e ▸ ey⟩) fun j xj ej => by
          have := (List.getElem?_inj (i := x) (j := j) (List.getElem?_eq_some_iff.mp ey).1 nd).mp (by rw [ey, ej, e])
          omega
        rw [← z] at q
        exact wpAny_bind (wpAny_rule (wpAny_pure (wpAny_pure q)))
      · rw [decide_eq_false e]
        exact wpAny_bind (wpAny_rule (wpAny_pure ⟨rfl, rfl, more e⟩))
    · rw [if_neg hh]
      refine wpAny_pure ⟨rfl, rfl, more fun e => hh ?_⟩
      rw [hy, e]
      exact beq_self_eq_true _
  · subst et er
    have z := turn_last ek nd tn
    rw [← z] at q
    exact wpAny_pure q
theorem find_key {Q : Option Nat → Shared → Prop} (room : A.units + 8 < cLine) (is : NestedIs s.heap k key) (dp : k.depth ≤ 8) (oh : s.heap.get? d = some o) (dh : o.data = .dict es ep) (ek : EntK w s.heap es ks) (nd : ks.Nodup)
    (q : Q (ks.findIdx? fun y => decide (y = k)) s) : wpAny (model prog w) A (dictFind d key (k.hash w)) Q E s := by
  have asText : ∀ x t, key = .str x t → (es.all fun e => isExactStrKey e.key) = true → (es.findIdx? fun e => e.key.isStr x) = ks.findIdx? fun y => decide (y = k) := fun x t e all => by
    subst e
    cases is
    have pt : ∀ (i : Nat) (e : DictEntry), es[i]? = some e → ∃ y, ks[i]? = some y ∧ e.key.isStr x = decide (y = .text x) := fun i e ei => by
      obtain ⟨y, ey, iy, _, _⟩ := ek.2 i e ei
      refine ⟨y, ey, ?_⟩
      have ex := Array.all_eq_true_iff_forall_mem.mp all e (Array.mem_of_getElem? ei)
      cases ek2 : e.key with
      | str z u =>
        rw [ek2] at iy
        cases iy
        by_cases q2 : z = x
        · subst q2
          rw [decide_eq_true rfl]
          simp [Value.isStr]
        · rw [decide_eq_false fun q3 => q2 (by injection q3)]
          simpa [Value.isStr] using q2
      | _ => rw [ek2] at ex; cases ex
    cases h : ks.findIdx? fun y => decide (y = .text x) with
    | none =>
      refine Array.findIdx?_eq_none_iff.mpr fun e me => ?_
      obtain ⟨i, ei⟩ := Array.getElem?_of_mem me
      obtain ⟨y, ey, e2⟩ := pt i e ei
      rw [e2]
      exact List.findIdx?_eq_none_iff.mp h y (List.mem_of_getElem? ey)
    | some j =>
      obtain ⟨lt, e1, e2⟩ := List.findIdx?_eq_some_iff_getElem.mp h
      have lt2 : j < es.size := by rw [ek.1]; exact lt
      refine Array.findIdx?_eq_some_iff_getElem.mpr ⟨lt2, ?_, fun i ij => ?_⟩
      · obtain ⟨y, ey, e3⟩ := pt j es[j] (Array.getElem?_eq_getElem lt2)
        rw [List.getElem?_eq_getElem lt] at ey
        cases ey
        rw [e3]
        exact e1
      · obtain ⟨y, ey, e3⟩ := pt i es[i] (Array.getElem?_eq_getElem (by omega))
        rw [List.getElem?_eq_getElem (by omega)] at ey
        cases ey
        rw [e3]
        exact e2 i ij
  by_cases tx : ∃ x t, key = .str x t ∧ (es.all fun e => isExactStrKey e.key) = true
  · obtain ⟨x, t, rfl, all⟩ := tx
    exact PyProof.Rows.KTD.kt_dictFind_strs oh dh all (by rw [asText x t rfl all]; exact q)
  have any0 : ¬ (es.any fun en => en.key == key && en.hash != k.hash w) = true := fun z => by
    obtain ⟨i, li, zi⟩ := Array.any_eq_true.mp z
    rw [Bool.and_eq_true] at zi
    obtain ⟨y, ey, iy, hy, _⟩ := ek.2 i es[i] (Array.getElem?_eq_getElem li)
    rw [eq_of_beq zi.1] at iy
    have e2 := NestedIs.inj _ _ _ iy is
    have z2 := zi.2
    rw [hy, e2] at z2
    simp at z2
  have st := stored_keys (k := k) ek
  have one : ∀ {Q2 : Bool → Shared → Prop} (stored : List Value), (∀ v ∈ stored, ∃ y : NestedKey, NestedIs s.heap y v ∧ y.depth ≤ 8) → Q2 false s → wpAny (model prog w) A (if (stored == [key]) = true then pure false else tableMayTell key stored) Q2 E s := fun stored h q2 => by
    split
    · exact wpAny_pure q2
    · exact tells_not is dp h q2
  unfold dictFind
  refine wpAny_holding (wpAny_bind (wpAny_dictEntries oh dh ?_))
  have fin : ∀ (hit : Option Nat), Turn1 w es ks k [] hit → Q hit s := fun hit tn => turn_last ek nd tn ▸ q
  cases key <;> first | (exfalso; cases is; done) | skip
  all_goals dsimp only
  all_goals first | rw [if_neg fun z => tx ⟨_, _, rfl, z⟩] | skip
  all_goals refine wpAny_ite_split (fun _ => walk_plain room is dp oh dh ek nd q) fun _ => ?_
  all_goals first | rw [if_neg any0] | skip
  all_goals refine wpAny_ite_split (fun _ => wpAny_bind (wpAny_pure ?_)) (fun _ => wpAny_bind (tells_not is dp st ?_))
  all_goals rw [if_neg (by simp)]
  all_goals
    refine wpAny_bind (wpAny_forIn_list _ (fun rest r t => t = s ∧ ∃ hit, r = (none, hit) ∧ Turn1 w es ks k rest hit) _ (fun x rest r t ⟨et, hit, er, tn⟩ => ?_) (fun r t ⟨et, hit, er, tn⟩ => ?_) _ _ ⟨rfl, none, rfl, turn_first⟩)
    · subst et er
      obtain ⟨lt, sn, next⟩ := turn_next ek tn
      obtain ⟨y, ey, iy, hy, dy⟩ := ek.2 x es[x] (Array.getElem?_eq_getElem lt)
      rw [Array.getElem?_eq_getElem lt]
      dsimp only
      have more : y ≠ k → Turn1 w es ks k rest hit := fun ne => next hit (seen_more sn ey ne)
      refine wpAny_ite_split (fun _ => ?_) fun hh => wpAny_pure ⟨rfl, hit, rfl, more fun e => hh (by rw [hy, e]; exact beq_self_eq_true _)⟩
      refine wpAny_bind (wpAny_dictEpoch oh dh (wpAny_bind (eqAt_key y k A t _ _ iy is (by omega) _ _ _ _ (wpAny_bind (wpAny_dictEpoch oh dh ?_)))))
      rw [show (ep != ep) = false by simp, if_neg Bool.false_ne_true, ← NestedKey.decide_eq]
      by_cases e : y = k
      · rw [decide_eq_true e, if_pos rfl]
        rcases sn with ⟨rfl, no⟩ | ⟨j, rfl, jx, ej⟩
        · rw [if_neg (by simp)]
          have z := seen_end (hit := some x) nd (.inr ⟨x, rfl, Nat.lt_succ_self x, e ▸ ey⟩) fun j xj ej => by
            have := (List.getElem?_inj (i := x) (j := j) (List.getElem?_eq_some_iff.mp ey).1 nd).mp (by rw [ey, ej, e])
            omega
          refine wpAny_bind (wpAny_rule (wpAny_ite_split (fun _ => wpAny_pure (wpAny_pure (z ▸ q))) fun _ => wpAny_pure ⟨rfl, some x, rfl, next _ (.inr ⟨x, rfl, Nat.lt_succ_self x, e ▸ ey⟩)⟩))
        · have := (List.getElem?_inj (i := x) (j := j) (List.getElem?_eq_some_iff.mp ey).1 nd).mp (by rw [ey, ej, e])
          omega
      · rw [decide_eq_false e, if_neg Bool.false_ne_true]
        refine wpAny_bind (wpAny_rule ?_)
        rw [if_neg (by simp)]
        exact wpAny_pure ⟨rfl, hit, rfl, more e⟩
    · subst et er
      exact wpAny_pure (fin hit tn)
end
end OD

/-! O3: a dict of mixed keys: d[k], a new key, dict(pairs) -/
namespace OD
open PySem PySem.Spec PyProof.Rows L2
section
variable {prog : Program} {w : World} {A : Around} {E : Value → Shared → Prop} {s : Shared} {d : Addr} {o : Obj} {es : Array DictEntry} {ep : Nat} {key : Value} {k : NestedKey} {ks : List NestedKey}
theorem get_key {Q : Value → Shared → Prop} {i : Nat} {e : DictEntry} (room : A.in1.units + 8 < cLine) (is : NestedIs s.heap k key) (dp : k.depth ≤ 8) (raw : s.heap.DictRaw d es ep) (ek : EntK w s.heap es ks) (nd : ks.Nodup) (ik : ks[i]? = some k) (ie : es[i]? = some e)
    (q : ∀ tk, Q e.val { s with toks := tk }) : wpAny (model prog w) A (getItem (.ref d) key) Q E s := by
  obtain ⟨o, oh, ox, dh⟩ := id raw
  have ty : s.TypeIs (.ref d) "dict" := raw.typeIs
  have pos : (ks.findIdx? fun y => decide (y = k)) = some i := (seen_end (hit := some i) (i := i + 1) nd (.inr ⟨i, rfl, Nat.lt_succ_self i, ik⟩) fun j xj ej => by
    have := (List.getElem?_inj (i := i) (j := j) (List.getElem?_eq_some_iff.mp ik).1 nd).mp (by rw [ik, ej])
    omega).symm
  unfold getItem
  refine wpAny_holding (wpAny_bind (wpAny_sequenceKey ty (by decide) (wpAny_bind (wpAny_callSpecial?_slot (name := Str.ofString "__getitem__") ty slot_dict_getitem (wpAny_call_entry slot_dict_getitem ty entry_dict_getitem ?_ (args_dict_getitem _ _))))))
  show wpAny _ _ (dictGet d key >>= _) _ _ s
  refine wpAny_bind ?_
  unfold dictGet
  refine wpAny_holding (wpAny_bind (pyHash_key k key _ s _ is (by omega) (wpAny_bind (find_key (s := { s with toks := s.toks + k.draws }) (ks := ks) room is dp oh dh ek nd ?_))))
  rw [pos]
  refine wpAny_bind (wpAny_dictEntries (s := { s with toks := s.toks + k.draws }) oh dh (wpAny_pure ?_))
  rw [ie]
  exact wpAny_pure ⟨e.val, rfl, wpAny_pure (q _)⟩
theorem set_key {v : Value} {Q : Unit → Shared → Prop} (room : A.units + 8 < cLine) (is : NestedIs s.heap k key) (dp : k.depth ≤ 8) (raw : s.heap.DictRaw d es ep) (ek : EntK w s.heap es ks) (nd : ks.Nodup) (new : k ∉ ks) (z : es.size ≤ sizeLine)
    (q : ∀ h' tk, h'.DictRaw d (es.push ⟨k.hash w, key, v⟩) (ep + 1) → Heap.SameBut d s.heap h' → Q () { s with heap := h', toks := tk }) : wpAny (model prog w) A (dictSet d key v) Q E s := by
  obtain ⟨o, oh, ox, dh⟩ := id raw
  have pos : (ks.findIdx? fun y => decide (y = k)) = none := List.findIdx?_eq_none_iff.mpr fun y my => decide_eq_false fun e => new (e ▸ my)
  unfold dictSet
  refine wpAny_holding (wpAny_bind (pyHash_key k key _ s _ is (by omega) ?_))
  unfold dictSetHashed
  refine wpAny_holding (wpAny_bind (find_key (s := { s with toks := s.toks + k.draws }) (ks := ks) room is dp oh dh ek nd ?_))
  rw [pos]
  refine wpAny_bind (wpAny_rule (wpAny_updateDictKeys (hz := z) (s := { s with toks := s.toks + k.draws }) oh dh ?_))
  exact q _ _ ⟨_, Heap.get?_update_self _ oh (Obj.isFreed_of_dict (Obj.data_mapDictKeys dh _)), ox.mapDictKeys _, Obj.data_mapDictKeys dh _⟩ (Heap.SameBut.update ..)
end
/-! ### by hand -/
/-- a row: the key, its name and its value -/
abbrev MRow := NestedKey × V × V
def EntR (w : World) (r : MRow) (e : DictEntry) : Prop := RelV r.2.1 e.key ∧ e.hash = r.1.hash w ∧ RelV r.2.2 e.val
def phiD (w : World) (a : Addr) (rows : List MRow) : Heap → Prop := fun h => (a == sysModules) = false ∧ ∃ es ep, h.DictRaw a es ep ∧ Paired (EntR w) rows es.toList
/-- the dict of these rows at a -/
def DO (w : World) (a : Addr) (rows : List MRow) : HO := .ext (phiD w a rows)
/-- v names the key k -/
inductive NKey (H : Hp) : NestedKey → V → Prop
  | non : NKey H .none .non
  | int (i : Int) : NKey H (.num i) (.int i)
  | str (x : Str) : NKey H (.text x) (.str x)
  | tup (T : Addr) (x : Str) (h : H T = some (.tup [.str x])) : NKey H (.tup [.text x]) (.ref T)
theorem NKey.ex {H H' : Hp} {k : NestedKey} {v : V} (x : TH.Ex H H') (h : NKey H k v) : NKey H' k v := by
  cases h with
  | non => exact .non
  | int i => exact .int i
  | str y => exact .str y
  | tup T y h => exact .tup T y (x _ _ h)
theorem nk_is {X : Cx} {pins : List (Addr × Obj)} {σ : L2.St} {H : Hp} {s : Shared} {k : NestedKey} {v : V} {u : Value} (I : Inv X pins σ H s) (h : NKey H k v) (r : RelV v u) : NestedIs s.heap k u ∧ k.depth ≤ 8 := by
  cases h with
  | non => cases r; exact ⟨.none, by decide⟩
  | int i => obtain ⟨t, rfl⟩ := r; exact ⟨.int i t, by simp [NestedKey.depth]⟩
  | str x => obtain ⟨t, rfl⟩ := r; exact ⟨.text x t, by simp [NestedKey.depth]⟩
  | tup T x h =>
    cases r
    obtain ⟨_, its, rv, o, h1, h2, n, h3⟩ := I.hok T _ h
    cases rv with
    | cons q rr =>
      cases rr
      obtain ⟨t, rfl⟩ := q
      exact ⟨.tup h1 h2 h3 (.cons (.text x t) .nil), by simp [NestedKey.depth, NestedKey.depthAll]⟩
theorem paired_arr {α : Type} {R : α → DictEntry → Prop} {rows : List α} {es : Array DictEntry} (p : Paired R rows es.toList) : es.size = rows.length ∧ ∀ (i : Nat) (e : DictEntry), es[i]? = some e → ∃ r, rows[i]? = some r ∧ R r e := by
  have l := Paired.length p
  refine ⟨by rw [l, Array.length_toList], fun i e ei => ?_⟩
  have lt : i < rows.length := by
    rw [l, Array.length_toList]
    exact (Array.getElem?_eq_some_iff.mp ei).1
  obtain ⟨b, eb, rb⟩ := L2.paired_get p (List.getElem?_eq_getElem lt)
  have e3 : es[i]? = some b := by rw [← Array.getElem?_toList]; exact eb
  rw [ei] at e3
  cases e3
  exact ⟨_, List.getElem?_eq_getElem lt, rb⟩
theorem ent_k {w : World} {h : Heap} {rows : List MRow} {es : Array DictEntry} (p : Paired (EntR w) rows es.toList) (nk : ∀ r ∈ rows, ∀ u, RelV r.2.1 u → NestedIs h r.1 u ∧ r.1.depth ≤ 8) : EntK w h es (rows.map (·.1)) := by
  obtain ⟨l, g⟩ := paired_arr p
  refine ⟨by rw [l, List.length_map], fun i e ei => ?_⟩
  obtain ⟨r, er, r1, r2, _⟩ := g i e ei
  obtain ⟨i1, i2⟩ := nk r (List.mem_of_getElem? er) _ r1
  exact ⟨r.1, by rw [List.getElem?_map, er]; rfl, i1, r2, i2⟩
theorem phi_at {w : World} {a : Addr} {rows : List MRow} : ∀ h1 h2 : Heap, phiD w a rows h1 → (∀ o, h1.get? a = some o → h2.get? a = some o) → phiD w a rows h2 := fun h1 h2 ⟨n, es, ep, r, p⟩ k => ⟨n, es, ep, r.at k, p⟩
theorem do_ok {P : Program} {w w2 : World} {H : Hp} {h : Heap} {a : Addr} {rows : List MRow} (x : phiD w2 a rows h) : ObjOk P w H h a (DO w2 a rows) := by
  obtain ⟨n, es, ep, ⟨o, ho, r⟩, p⟩ := x
  exact ⟨⟨n, es, ep, ⟨o, ho, r⟩, p⟩, ⟨o, ho⟩, phi_at⟩
theorem do_at {X : Cx} {pins : List (Addr × Obj)} {σ : L2.St} {H : Hp} {s : Shared} {a : Addr} {w2 : World} {rows : List MRow} (I : Inv X pins σ H s) (h : Rd H a (DO w2 a rows)) : phiD w2 a rows s.heap := (h.ok I.hok).1
/-- d[k] of a key that is there -/
def rIxO (w : World) : R2 := fun x y H Q => ∃ (a : Addr) (rows : List MRow) (i : Nat) (r : MRow), x = .ref a ∧ Rd H a (DO w a rows) ∧ (∀ r ∈ rows, NKey H r.1 r.2.1) ∧ (rows.map (·.1)).Nodup ∧ rows[i]? = some r ∧ y = r.2.1 ∧ Q r.2.2 H
theorem ix_odd {X : Cx} (hu : X.A.units + 16 < cLine) : IxR X (rIxO X.w) := by
  intro value slice pins s σ H x y v u Q I rx ry ⟨a, rows, i, r, ex, ha, nk, nd, ir, ey, q⟩ hs
  subst ex ey
  obtain rfl : v = Value.ref a := rx
  obtain ⟨_, es, ep, raw, p⟩ := do_at I ha
  obtain ⟨e, ee, r1, r2, r3⟩ := L2.paired_get p ir
  have ek := ent_k p fun r mr u ru => nk_is I (nk r mr) ru
  obtain ⟨is, dp⟩ := nk_is I (nk r (List.mem_of_getElem? ir)) ry
  refine subscriptTail_builtinR (x := e.val) raw.typeIs slot_dict_getitem.lookup (get_key (Q := fun z s' => z = e.val ∧ EP X pins σ Q z s') (i := i) (by have := Around.in1_units X.A; omega) is dp raw ek nd (by rw [List.getElem?_map, ir]; rfl) (by rw [← Array.getElem?_toList]; exact ee) fun tk => ⟨rfl, r.2.2, H, I.tok tk, r3, q⟩) hs
end OD

/-! O4: a dict of mixed keys: isinstance, the walk of its keys, dict(pairs) -/
namespace OD
open PySem PySem.Spec PyProof.Rows L2
/-- isinstance(x, dict) of such -/
def rIsO (w : World) : List V → Hp → VK → Prop := fun xs H Q => ∃ (a : Addr) (rows : List MRow), xs = [.ref a, .ty "dict"] ∧ Rd H a (DO w a rows) ∧ Q (.bl true) H
theorem call_isO {X : Cx} : CallR X (.builtin "isinstance") (rIsO X.w) := by
  intro pins s σ H xs us Q I r ⟨a, rows, ex, ha, q⟩
  subst ex
  obtain ⟨u1, u2, rfl, r1, r2⟩ := vals2 r
  cases (show u1 = Value.ref a from r1)
  cases (show u2 = Value.type "dict" from r2)
  obtain ⟨_, es, ep, ⟨o, oh, ox, _⟩, _⟩ := do_at I ha
  exact PySem.W.kia_one (b := true) PySem.W.kitx_dict I.kIn ⟨o, oh, ox.1⟩ (kit_ty (by decide +kernel)) (fun z => nomatch z) fun tk => ⟨.bl true, H, I.tok tk, rfl, q⟩
/-- the keys of the locked dict at d -/
def Itx (w : World) (d : Addr) (o : Obj) (rows : List MRow) : It :=
  ⟨fun i H => H d = some (.frz o (DO w d rows)) ∧ i < rows.length, fun i H x H' => H' = H ∧ ∃ r, rows[i]? = some r ∧ x = r.2.1, fun i H => H d = some (.frz o (DO w d rows)) ∧ rows.length ≤ i⟩
theorem frz_at {X : Cx} {pins : List (Addr × Obj)} {σ : L2.St} {H : Hp} {s : Shared} {d : Addr} {o : Obj} {rows : List MRow} (I : Inv X pins σ H s) (h : H d = some (.frz o (DO X.w d rows))) :
    s.heap.get? d = some o ∧ (d == sysModules) = false ∧ ∃ es ep, o.ExactDict ∧ o.data = .dict es ep ∧ Paired (EntR X.w) rows es.toList := by
  obtain ⟨gd, z⟩ := I.hok d _ h
  obtain ⟨⟨n, es, ep, ⟨o', oh, ox, od⟩, p⟩, _⟩ := z
  rw [gd] at oh
  cases oh
  exact ⟨gd, n, es, ep, ox, od, p⟩
theorem turn_odd {P : Program} {w : World} {K : PySem.W.Frag} {tg : Expr} {d : Addr} {o : Obj} {es : Array DictEntry} {ep : Nat} {rows : List MRow} (it : Addr) (od : o.data = .dict es ep) : Turn P w K tg (Itx w d o rows) [it] it (fun i h => h.IsKeyIter it d i rows.length ep) where
  mem := List.mem_cons_self
  obj := fun i h st b hb => by
    cases List.mem_singleton.mp hb
    obtain ⟨oi, e, _, dd⟩ := st
    exact ⟨oi, e, fun v z => by rw [dd] at z; cases z⟩
  keep := fun i h h' st k => st.at fun oi e => k it List.mem_cons_self oi e
  item := by
    intro X hP hw hK hc i pins s σ H E I hf st ⟨hd, hi⟩
    subst hP hw hK
    obtain ⟨f0, f1, f2, f3, f4, f5⟩ := hf it List.mem_cons_self
    obtain ⟨gd, _, es', ep', ox, od', p⟩ := frz_at I hd
    obtain ⟨rfl, rfl⟩ := dict_ep od od'
    obtain ⟨r, er⟩ : ∃ r, rows[i]? = some r := ⟨rows[i], List.getElem?_eq_getElem hi⟩
    obtain ⟨e, ee, r1, _, _⟩ := L2.paired_get p er
    refine next_key_item st gd od' (paired_arr p).1 (by rw [← Array.getElem?_toList]; exact ee) fun h' st' sb => ?_
    obtain ⟨oi, e1, e2, e3⟩ := id st'
    exact ⟨_, rfl, go_of (s := { s with heap := h' }) e1 e2 e3 (by decide) ⟨r.2.1, H, I.turned (t' := s.toks) (fun b ob nb q => (sb.2 b nb).trans q) f0 f1 f3 f4 f5, r1, ⟨rfl, r, er, rfl⟩, st', fun b hb => (hf b hb).1⟩⟩
  done := by
    intro X hP hw hK hc i pins s σ H E I hf st ⟨hd, hi⟩
    subst hP hw hK
    obtain ⟨f0, f1, f2, f3, f4, f5⟩ := hf it List.mem_cons_self
    obtain ⟨gd, _, es', ep', ox, od', p⟩ := frz_at I hd
    obtain ⟨rfl, rfl⟩ := dict_ep od od'
    exact next_key_end (I.ok.hd hc) st gd od' (paired_arr p).1 hi fun h' eb => ⟨rfl, I.turned (t' := s.toks) (fun b ob nb q => eb b ob nb q) f0 f1 f3 f4 f5⟩
  self := fun A i s Q E st h => wpAny_pyIter_keyiter st h
/-- for k in d, of such a locked dict -/
def iOdd (w : World) (td : TE) : TI := fun σ H R => td σ H fun x H1 => ∃ d o rows, x = .ref d ∧ H1 d = some (.frz o (DO w d rows)) ∧ R (Itx w d o rows) H1
theorem pi_odd {X : Cx} {tg e : Expr} {td : TE} (he : PE X e td) : PI X tg e (iOdd X.w td) := by
  refine ⟨fun pins s σ H R I h => thn (he.run pins s σ H _ I h) fun u s1 ⟨x, H1, I1, rx, d, o, rows, ex, hd, q⟩ => ?_⟩
  subst ex
  obtain rfl : u = Value.ref d := rx
  obtain ⟨gd, ns, es, ep, ox, od, p⟩ := frz_at I1 hd
  refine iter_keys ns gd ox od (pi_one (tk := s1.toks) I1 _ (turn_odd _ od) ⟨_, Heap.get?_push_size _ rfl, rfl, ?_⟩ q)
  rw [(paired_arr p).1]
  rfl
theorem walk_odd {w : World} {d : Addr} {o : Obj} {rows : List MRow} : Walk (Itx w d o rows) rows.length (fun H => H d = some (.frz o (DO w d rows))) (fun i H x H' => H' = H ∧ ∃ r, rows[i]? = some r ∧ x = r.2.1) where
  goes := fun i H hi h => ⟨h, hi⟩
  stops := fun H h => ⟨h, Nat.le_refl _⟩
  yields := fun i H v H' _ h y => y
/-! ### dict(pairs) -/
/-- the table so far: the first rows' pairs, and all that stood stands -/
def Tb (w : World) (h0 : Heap) (d : Addr) (ps : List (NestedKey × Value × Value)) (i : Nat) (h : Heap) : Prop :=
  (∃ es ep, h.DictRaw d es ep ∧ es.toList = (ps.take i).map fun p => (⟨p.1.hash w, p.2.1, p.2.2⟩ : DictEntry)) ∧ ∀ b o, b ≠ d → h0.get? b = some o → h.get? b = some o
theorem call_dict_mixed {prog : Program} {w : World} {A : Around} {E : Value → Shared → Prop} {s : Shared} {l : Addr} {fp : List Addr} {n : Nat} {Rel : Nat → Value → Value → Prop} {OK : Heap → Prop} {ps : List (NestedKey × Value × Value)} {Q : Value → Shared → Prop} {T : String} (PA : PairArg prog w T l fp [] n Rel OK) (hh : A.handled = none) (ok : OK s.heap) (room : A.units + 14 < cLine)
    (ln : ps.length = n) (rel : ∀ i k v, Rel i k v → ∃ nk, ps[i]? = some (nk, k, v)) (is : ∀ p ∈ ps, NestedIs s.heap p.1 p.2.1 ∧ p.1.depth ≤ 8) (nd : (ps.map (·.1)).Nodup) (z : n ≤ sizeLine)
    (q : ∀ h' tk es ep, h'.DictRaw s.heap.objs.size es ep → es.toList = (ps.map fun p => (⟨p.1.hash w, p.2.1, p.2.2⟩ : DictEntry)) → (∀ b o, s.heap.get? b = some o → h'.get? b = some o) → Q (.ref s.heap.objs.size) { s with heap := h', toks := tk }) : wpAny (model prog w) A (call (.type "dict") [.ref l]) Q E s := by
  refine call_dict_arg PA ok fun s1 e1 df ok1 => ?_
  subst e1
  have k0 : ∀ b o, b ≠ s.heap.objs.size → s.heap.get? b = some o → (s.heap.push { cls := .type "dict", data := .dict #[] }).get? b = some o := fun b o _ e => Heap.get?_push_of_some _ e
  have ty : ∀ h', (∀ b o, b ≠ s.heap.objs.size → s.heap.get? b = some o → h'.get? b = some o) → ∀ p ∈ ps, NestedIs h' p.1 p.2.1 ∧ p.1.depth ≤ 8 := fun h' k p mp => ⟨NestedIs.at (fun a o vs m e _ => k a o (Nat.ne_of_lt (Heap.lt_size e)) e) _ _ (is p mp).1, (is p mp).2⟩
  refine updateFrom_arg (A := A.in1) (Tab := Tb w s.heap s.heap.objs.size ps) PA .none hh ok1 df ⟨⟨#[], 0, ⟨_, Heap.get?_push_size _ rfl, ⟨rfl, rfl, rfl⟩, rfl⟩, rfl⟩, k0⟩ (fun i h t => ?_) (fun i h h' wr nd2 hw t k => ?_) (fun i key v s2 Q2 E2 li ri t _ q2 => ?_) fun h' tk t k => ?_
  · obtain ⟨⟨es, ep, ⟨o, oh, _⟩, _⟩, _⟩ := t
    exact Heap.lt_size oh
  · obtain ⟨⟨es, ep, r, e⟩, st⟩ := t
    refine ⟨⟨es, ep, r.at fun o q => k _ o nd2 q, e⟩, fun b o nb e2 => k b o (fun m => ?_) (st b o nb e2)⟩
    rcases hw b m with m | m
    · cases m
    · rw [k0 b o nb e2] at m
      cases m
  · obtain ⟨nk, en⟩ := rel i key v ri
    obtain ⟨⟨es, ep, raw, ee⟩, st⟩ := t
    have lt := (List.getElem?_eq_some_iff.mp en).1
    have isn := ty s2.heap st
    have ek : EntK w s2.heap es ((ps.take i).map (·.1)) := by
      refine ⟨by rw [← Array.length_toList, ee, List.length_map, List.length_map], fun j e ej => ?_⟩
      rw [← Array.getElem?_toList, ee, List.getElem?_map] at ej
      obtain ⟨p, ep2, rfl⟩ := Option.map_eq_some_iff.mp ej
      obtain ⟨i1, i2⟩ := isn p (List.mem_of_mem_take (List.mem_of_getElem? ep2))
      exact ⟨p.1, by rw [List.getElem?_map, ep2]; rfl, i1, rfl, i2⟩
    obtain ⟨i1, i2⟩ := isn _ (List.mem_of_getElem? en)
    have ts : ps.take (i + 1) = ps.take i ++ [(nk, key, v)] := by rw [List.take_add_one, en]; rfl
    have nd3 : ((ps.take (i + 1)).map (·.1)).Nodup := ((List.take_sublist _ ps).map _).nodup nd
    rw [ts, List.map_append] at nd3
    obtain ⟨n1, _, n2⟩ := List.nodup_append.mp nd3
    refine set_key (k := nk) (ks := (ps.take i).map (·.1)) (by have := Around.in1_units A; have := Around.in1_units A.in1; omega) i1 i2 raw ek n1 (fun m => n2 _ m _ (List.mem_singleton.mpr rfl) rfl) (by rw [ek.1, List.length_map, List.length_take]; omega) fun h' tk raw' sb => q2 h' tk ⟨⟨_, _, raw', ?_⟩, fun b o nb e => sb.extBut b o nb (st b o nb e)⟩ sb
    rw [Array.toList_push, ee, ts, List.map_append]
    rfl
  · obtain ⟨⟨es, ep, raw, ee⟩, st⟩ := t
    rw [List.take_of_length_le (by omega)] at ee
    exact ⟨rfl, q h' tk es ep raw ee fun b o e => st b o (Nat.ne_of_lt (Heap.lt_size e)) e⟩
end OD

/-! O5: dict(pairs) of mixed keys, by hand -/
namespace OD
open PySem PySem.Spec PyProof.Rows L2
/-- dict(l) of a list of pairs with different keys -/
def rDictO (K : PySem.W.Frag) (w : World) : List V → Hp → VK → Prop := fun xs H Q => ∃ (a : Addr) (ps : List Addr) (rows : List MRow), xs = [.ref a] ∧ SqL K H a (ps.map V.ref) ∧ Paired (fun p (r : MRow) => SqT K H p [r.2.1, r.2.2]) ps rows ∧ (∀ r ∈ rows, NKey H r.1 r.2.1) ∧ (rows.map (·.1)).Nodup ∧ ∀ p, H p = none → Q (.ref p) (upd H p (DO w p rows))
theorem mixed_of {X : Cx} {pins : List (Addr × Obj)} {σ : L2.St} {H : Hp} {s : Shared} (I : Inv X pins σ H s) : ∀ {ps : List Addr} {rows : List MRow}, Paired (fun p (r : MRow) => SqT X.K H p [r.2.1, r.2.2]) ps rows → (∀ r ∈ rows, NKey H r.1 r.2.1) →
    ∃ prs : List (NestedKey × Value × Value), Paired (fun (r : MRow) p => r.1 = p.1 ∧ RelV r.2.1 p.2.1 ∧ RelV r.2.2 p.2.2) rows prs ∧ (∀ p ∈ prs, NestedIs s.heap p.1 p.2.1 ∧ p.1.depth ≤ 8) ∧ prs.length = ps.length ∧ ∀ (j : Nat) (k : NestedKey) (u v : Value), prs[j]? = some (k, u, v) → ∃ b, ps[j]? = some b ∧ s.heap.IsTuple b #[u, v]
  | _, _, .nil, _ => ⟨[], .nil, fun _ m => (nomatch m), rfl, fun j _ _ _ e => by simp at e⟩
  | _, _, .cons (a := p) (b := r) h t, nk => by
    obtain ⟨prs, rl, is, ln, at_⟩ := mixed_of I t fun r m => nk r (List.mem_cons_of_mem _ m)
    obtain ⟨its, rv, tp, _⟩ := I.tuple h
    obtain ⟨u, v, rfl, ru, rv2⟩ := vals2 rv
    refine ⟨(r.1, u, v) :: prs, .cons ⟨rfl, ru, rv2⟩ rl, fun q m => ?_, by rw [List.length_cons, List.length_cons, ln], fun j k u2 v2 e => ?_⟩
    · rcases List.mem_cons.mp m with rfl | m
      · exact nk_is I (nk r List.mem_cons_self) ru
      · exact is q m
    · cases j with
      | zero =>
        cases (Option.some.inj e)
        exact ⟨p, rfl, tp⟩
      | succ j =>
        obtain ⟨b, e1, e2⟩ := at_ j k u2 v2 (by simpa using e)
        exact ⟨b, by simpa using e1, e2⟩
theorem call_dictO {X : Cx} (hc : X.calm = true) (hu : X.A.units + 16 < cLine) : CallR X (.type "dict") (rDictO X.K X.w) := by
  intro pins s σ H xs us Q I r ⟨a, ps, rows, ex, sq, pr, nk, nd, q⟩
  subst ex
  obtain ⟨u, rfl, rx⟩ := vals1 r
  cases (show u = Value.ref a from rx)
  obtain ⟨its, rv, pl, hz⟩ := I.list sq
  obtain rfl := refs_at rv
  rw [List.length_map] at hz
  obtain ⟨prs, rl, is, ln, at_⟩ := mixed_of I pr nk
  have keys : rows.map (·.1) = prs.map (·.1) := by
    clear q nd at_ ln is pr nk
    induction rl with
    | nil => rfl
    | cons h _ ih => rw [List.map_cons, List.map_cons, ih, h.1]
  obtain ⟨o, n, oh, oc, od, dat⟩ := pl
  refine call_dict_mixed (ps := prs) (PairArg.list a (ps.map Value.ref).toArray (fun j => (ps[j]?).getD 0) (prs.map fun p => (p.2.1, p.2.2))) (I.ok.hd hc) ⟨⟨o, n, oh, oc, od, dat⟩, by simp [ln], fun j k v e => ?_⟩ (by omega) (by simp) (fun i k v e => ?_) is (keys ▸ nd) (by rw [List.length_map, ln]; exact hz) fun h' tk es ep raw ee keep => ?_
  · rw [List.getElem?_map] at e
    obtain ⟨⟨y, u, v2⟩, e1, e2⟩ := Option.map_eq_some_iff.mp e
    cases e2
    obtain ⟨b, e3, e4⟩ := at_ j y u v2 e1
    have g : (fun j => (ps[j]?).getD 0) j = b := by dsimp only; rw [e3]; rfl
    rw [g]
    exact ⟨by simp [e3], .inl e4⟩
  · rw [PairRel, List.getElem?_map] at e
    obtain ⟨⟨y, u, v2⟩, e1, e2⟩ := Option.map_eq_some_iff.mp e
    cases e2
    exact ⟨y, e1⟩
  · have hm : (s.heap.objs.size == sysModules) = false := beq_eq_false_iff_ne.mpr (Nat.ne_of_gt I.big)
    have pe : Paired (EntR X.w) rows es.toList := by
      rw [ee]
      clear q nd at_ ln is pr nk keys ee raw
      induction rl with
      | nil => exact .nil
      | cons h _ ih => exact .cons ⟨h.2.1, by rw [h.1], h.2.2⟩ ih
    exact ⟨.ref s.heap.objs.size, _, I.laid (t' := tk) keep (Nat.le_refl _) (do_ok (rows := rows) ⟨hm, es, ep, raw, pe⟩), rfl, q _ (I.hok.fresh (Nat.le_refl _))⟩
end OD

/-! O6: == and != by an own __eq__, with either answer -/
namespace OQ
open PySem PySem.Spec PyProof.Rows L2
/-- what the class C says of comparing -/
structure EqC (K : PySem.W.Frag) (C f : Addr) : Prop where
  eq : PySem.W.findIn K (.ref C) "__eq__" = some (some (.ref f))
  fn : PySem.W.isFn K (.ref f) = true
  ne : PySem.W.findIn K (.ref C) "__ne__" = some (some (.builtin "object.__ne__"))
  ob : PySem.W.mroIn K C (.type "object") = some true
  di : PySem.W.notFirst K C (.type "dict") = true
section
variable {X : Cx} {CX : CXT} {n : Nat} {C f : Addr} {fd : FuncData} {ps : List Str} {sp : Sp} {E : XK}
/-- an instance of C, or a dict -/
def Side (C : Addr) (H : Hp) (y : V) : Prop := (∃ b dy gs, y = .ref b ∧ H b = some (.ins C dy gs)) ∨ ∃ b xs, y = .ref b ∧ H b = some (.dK xs)
theorem side_type {pins : List (Addr × Obj)} {σ : L2.St} {H : Hp} {s : Shared} {y : V} {u : Value} (c : EqC X.K C f) (I : Inv X pins σ H s) (d : Side C H y) (r : RelV y u) : ∃ tb, PySem.W.Looks (model X.prog X.w) s.heap (typeOf u) tb ∧ PySem.W.notFirst X.K C tb = true := by
  rcases d with ⟨b, dy, gs, rfl, hb⟩ | ⟨b, xs, rfl, hb⟩
  · cases r
    obtain ⟨mB, J, _⟩ := ins_get I.hok hb
    obtain ⟨od, J, _⟩ := J.look
    exact ⟨_, J.type, by simp [PySem.W.notFirst]⟩
  · cases r
    obtain ⟨_, _, vs, _, o, es, ep, g, ex, _⟩ := (show ObjOk X.prog X.w H s.heap b (.dK xs) from I.hok b _ hb)
    have e : o.cls = .type "dict" := ex.1
    exact ⟨.type "dict", e ▸ (PySem.W.Looks.ld g).andThen .now, c.di⟩
theorem call_eq {A : Around} {pins : List (Addr × Obj)} {σ : L2.St} {H : Hp} {s : Shared} {x y : V} {v u : Value} {Q : Value → Shared → Prop} {q : VK} (c : EqC X.K C f) (F : FnOk X.prog X.w X.K X.mg X.base CX n f fd ps sp) (sb : Sub X n A) (bd : Binds X.K fd ps []) (hx : Passes CX X E) (I : Inv X pins σ H s) (rx : RelV x v) (ry : RelV y u)
    (h : sp [x, y] H q E) (k : ∀ z w s' H', Inv X pins σ H' s' → RelV z w → q z H' → Q w s') : wpAny (model X.prog X.w) A (call (.ref f) [v, u]) Q X.xe s := by
  have e0 : Env0 X.prog X.w X.K X.mg X.base A X.stack s H := by
    have e := I.env0
    exact ⟨by rw [sb.fr]; exact e.frames, e.mod, e.bs, e.bsz, e.funs, e.frf, e.hok, e.bare⟩
  have hl := F.len _ _ _ _ h
  refine wpAny_call (codeAny_mono (F.run A X.stack s H ⟨[v, u], []⟩ [v, u] [x, y] _ E sb.room e0 (by
    have z := bd s [v, u] I.kIn (by simpa using hl)
    simpa using z) (.cons rx (.cons ry .nil)) h) fun r s' hq => ?_)
  cases r with
  | error e => exact hx pins σ H s e s' I hq
  | ok fl =>
    cases fl with
    | ret w =>
      obtain ⟨z, H', I', rz, qz⟩ := I.after hq
      exact k z w s' H' I' rz qz
    | next => exact hq.elim
    | brk => exact hq.elim
    | cont => exact hq.elim
/-- x == y -/
def rEq (C : Addr) (sp : Sp) (E : XK) : R2 := fun x y H Q => ∃ a dx fs, x = .ref a ∧ H a = some (.ins C dx fs) ∧ Side C H y ∧ sp [x, y] H (fun v H' => ∃ r, v = .bl r ∧ Q (.bl r) H') E
/-- x != y -/
def rNe (C : Addr) (sp : Sp) (E : XK) : R2 := fun x y H Q => ∃ a dx fs, x = .ref a ∧ H a = some (.ins C dx fs) ∧ Side C H y ∧ sp [x, y] H (fun v H' => ∃ r, v = .bl r ∧ Q (.bl (!r)) H') E
theorem op_eqO (c : EqC X.K C f) (F : FnOk X.prog X.w X.K X.mg X.base CX n f fd ps sp) (hr : Room n X.A) (bd : Binds X.K fd ps []) (hx : Passes CX X E) : OpR X (compareOp .Eq) (rEq C sp E) := by
  intro pins s σ H x y v u Q I rx ry ⟨a, dx, fs, ex, ha, sd, h⟩
  subst ex
  obtain ⟨tb, ty, nf⟩ := side_type c I sd ry
  obtain ⟨mA, J, _⟩ := ins_get I.hok ha
  obtain ⟨od, J, _⟩ := J.look
  obtain ⟨m, hF⟩ := I.fr
  cases rx
  refine PySem.W.cmp_K (op := .Eq) (tb := tb) hr.units0 hF I.ok.mod.kin J ty nf c.eq c.fn (call_eq (x := .ref a) c F ⟨hr, rfl⟩ bd hx I rfl ry h fun z w s' H' I' rz ⟨r, ez, q⟩ => ?_)
  subst ez
  cases rz
  exact ⟨.bl r, H', I', rfl, q⟩
theorem op_neO (c : EqC X.K C f) (G : FnOk X.prog X.w X.K X.mg X.base CX n f fd ps sp) (hr : Room (n + 1) X.A) (bd : Binds X.K fd ps []) (hx : Passes CX X E) : OpR X (compareOp .NotEq) (rNe C sp E) := by
  intro pins s σ H x y v u Q I rx ry ⟨a, dx, fs, ex, ha, sd, h⟩
  subst ex
  obtain ⟨tb, ty, nf⟩ := side_type c I sd ry
  obtain ⟨mA, J, _⟩ := ins_get I.hok ha
  obtain ⟨od, J, _⟩ := J.look
  have kin := I.kIn
  have rx2 : v = Value.ref a := rx
  subst rx2
  have hr1 := hr.in1
  have un := hr1.units0
  have own : wpAny (model X.prog X.w) X.A (call (.builtin "object.__ne__") [.ref a, u]) (PySem.W.CmpBack (EP X pins σ Q)) X.xe s := by
    refine wpAny_call (codeAny_call_builtin F.cmp_object.ne.plain F.cmpEntry_ne (PySem.W.check_slot F.cmpKind_ne F.cmpSplit_ne (J.type.andThen (PySem.W.looks_mroIn kin c.ob)) (F.cmpArgs_ne _ _) ?_))
    unfold Builtin.«object.__ne__»
    repeat (first
      | with_reducible refine wpAny_cRoomFor un ?_
      | (refine wpAny_bind (m := callSpecialIfBound? (.ref a) (Str.ofString "__eq__") [u]) (PySem.W.ifBound_K kin J c.eq c.fn (call_eq (x := .ref a) c G ⟨hr1, rfl⟩ bd hx I rfl ry h fun z w s' H' I' rz ⟨r, ez, q⟩ => ?_)))
      | wp_step)
    subst ez
    cases rz
    repeat (first | (refine wpAny_bind (m := truthy (.bool _)) (wpAny_truthy_bool ?_)) | wp_step)
    exact ⟨.bl (!r), H', I', rfl, q⟩
  have try1 : wpAny (model X.prog X.w) X.A (tryCompare (.ref a) "__ne__" u) (fun r s' => ∃ z, r = some z ∧ EP X pins σ Q z s') X.xe s := by
    unfold tryCompare callSpecialIfBound? bindSpecialIfBound?
    refine wpAny_bind (wpAny_holding (wpAny_bind (wpAny_bind (wpAny_bind (J.type.here ((PySem.W.looks_findIn kin c.ne).here ?_))))))
    have back : wpAny (model X.prog X.w) X.A (call (.builtin "object.__ne__") ([.ref a] ++ [u]) >>= fun z => pure (some z)) (fun r s' => wpAny (model X.prog X.w) X.A (match r with | some Value.notImplemented => pure none | none => pure none | some z => pure (some z)) (fun r s' => ∃ z, r = some z ∧ EP X pins σ Q z s') X.xe s') X.xe s := by
      refine wpAny_bind (wpAny_mono own (fun z s' q => wpAny_pure ?_) fun _ _ e => e)
      cases z <;> first | exact q.elim | exact wpAny_pure ⟨_, rfl, q⟩
    refine wpAny_bind (wpAny_askSetting (wpAny_ite ?_))
    split
    · exact wpAny_bind (wpAny_of_eq (F.cmp_object.ne.bind _) (wpAny_pure (by exact back)))
    · exact wpAny_tryCatch (wpAny_bind (wpAny_of_eq (F.cmp_object.ne.bind _) (wpAny_pure (by exact back))))
  show wpAny (model X.prog X.w) X.A (richCompare .NotEq (.ref a) u) (EP X pins σ Q) X.xe s
  unfold richCompare
  simp only [oneThing_ref]
  refine wpAny_holding (wpAny_bind (wpAny_cRoomFor hr.units0 (wpAny_bind (J.type.here (wpAny_bind (ty.here ?_))))))
  rw [cmpInfo_NotEq]
  dsimp only
  split
  · rename_i q
    have e : PySem.W.subIn X.K tb (.ref C) = some false := by
      rcases Bool.or_eq_true_iff.mp nf with e | e
      · rw [beq_iff_eq.mp e] at q
        simp at q
      · exact beq_iff_eq.mp e
    refine wpAny_bind ((PySem.W.looks_subIn kin e).here ?_)
    rw [if_neg Bool.false_ne_true]
    refine wpAny_bind (wpAny_mono try1 (fun r s' ⟨z, ez, q2⟩ => ?_) fun _ _ e => e)
    subst ez
    exact wpAny_pure q2
  · refine wpAny_bind (wpAny_pure ?_)
    rw [if_neg Bool.false_ne_true]
    refine wpAny_bind (wpAny_mono try1 (fun r s' ⟨z, ez, q2⟩ => ?_) fun _ _ e => e)
    subst ez
    exact wpAny_pure q2
end
end OQ

/-! O7: list(d.values()); != of lists whose items are the same or equal -/
namespace OD
open PySem PySem.Spec PyProof.Rows L2
def tListVals (te : TE) : TE := fun σ H Q => te σ H fun x H1 => ∃ (d : Addr) (kvs : List (Key × V)), x = .ref d ∧ H1 d = some (.dK kvs) ∧ ∀ p, H1 p = none → Q (.ref p) (upd H1 p (.lst (kvs.map (·.2))))
theorem kv_vals {kvs : List (Key × V)} {vs : List (Key × Value)} (kv : KV kvs vs) : Vals (kvs.map (·.2)) (vs.map (·.2)) := by
  induction kv with
  | nil => exact .nil
  | cons h _ ih => exact .cons h.2 ih
theorem pe_listValues {X : Cx} {e : Expr} {te : TE} {p apos cpos pos : Pos} (hc : X.calm = true) (he : PE X e te) (hg : Gl X "list") (hm : X.mg "list" = none) (hv : bootBuiltins "list" = some (.type "list")) (hbase : attributeBase e "values" X.env (eval e X.env) = eval e X.env := by rfl) (hline : (apos.endLine == cpos.line) = true := by rfl)
    (hs : starEach [.Call (.Attribute e "values" apos) [] [] cpos] X.env = (false, eval (.Call (.Attribute e "values" apos) [] [] cpos) X.env) :: starEach [] X.env := by rfl) :
    PE X (.Call (.Name "list" p) [.Call (.Attribute e "values" apos) [] [] cpos] [] pos) (tListVals te) := by
  refine ⟨fun pins s σ H Q I hq => wpAny_Call_Name_kw (ld_blt I hg hm hv (PyProof.Rows.callWith_type1 ?_ hs rfl))⟩
  rw [hs]
  refine Calls.spliced_cons (wpAny_Call_method (T := "dict") (id := "dict.values") hbase rfl hline F.plainAttrs_dict F.slot_dict_values F.type_dict_values (thn (he.run pins s σ H _ I hq) fun u s1 ⟨x, H1, I1, rx, d, kvs, ex, hd, q⟩ => ?_))
  subst ex
  obtain rfl : u = Value.ref d := rx
  obtain ⟨hz, hs0, vs, kv, hdo⟩ := I1.hok d _ hd
  obtain ⟨es, ep, raw, sz, at_⟩ := hdo.raw
  have lk : kvs.length = vs.length := Paired.length kv
  refine ⟨hdo.typeIs, hdo.mapOf.noDict, ?_⟩
  show wpAny _ _ (callWith cpos (.builtin "dict.values") [.ref d] [] []) _ X.xe s1
  refine method_meetsIn F.slot_dict_values F.entry_dict_values rfl (PySem.evalArgs_none ⟨rfl, hdo.typeIs, F.args_dict_values_1 _, _, meets_dict_values_raw d hs0, ⟨es, ep, raw⟩, ?_⟩)
  refine Calls.spliced_nil ?_
  have I2 : Inv X pins σ H1 { s1 with heap := s1.heap.push { cls := .type "dict_values", data := .fields #[.ref d] } } := I1.kept (t' := s1.toks) fun b ob q => Heap.get?_push_of_some _ q
  refine PySem.W.kdl_call (PySem.KdlSrc.rawValues (r := s1.heap.objs.size) (d := d) (es := es) (ep := ep)) (I1.ok.hd hc) ⟨⟨_, Heap.get?_push_size _ rfl, rfl, rfl⟩, raw.push _⟩ (by omega) fun h' tk acc c keep new its => ?_
  have ev : acc.toList = vs.map (·.2) := by
    have l : acc.size = es.size := its.1
    refine List.ext_getElem? fun i => ?_
    by_cases lt : i < acc.size
    · have e1 : acc.toList[i]? = some acc[i] := by rw [Array.getElem?_toList, Array.getElem?_eq_getElem lt]
      obtain ⟨hi, e2⟩ := its.2 i acc[i] (Array.getElem?_eq_getElem lt)
      obtain ⟨⟨k, v⟩, ek⟩ : ∃ q, vs[i]? = some q := ⟨vs[i]'(by omega), List.getElem?_eq_getElem (by omega)⟩
      have e3 := (at_ i hi k v ek).2
      rw [e1, List.getElem?_map, ek, e2, e3]
      rfl
    · rw [List.getElem?_eq_none (by rw [Array.length_toList]; omega), List.getElem?_eq_none (by rw [List.length_map]; omega)]
  refine ⟨.ref _, _, I2.laid (t' := tk) keep (Nat.le_refl _) (show ObjOk X.prog X.w _ h' _ (.lst (kvs.map (·.2))) from ⟨by rw [List.length_map]; exact hz, acc.toList, c, ev ▸ kv_vals kv, by rw [Array.toArray_toList]; exact new⟩), rfl, q _ (I2.hok.fresh (Nat.le_refl _))⟩
/-! ### != -/
/-- the same, or equal, of nesting below n -/
def EqT (K : PySem.W.Frag) (H : Hp) : Nat → V → V → Prop
  | 0 => fun x y => (x = y ∧ flatB x = true) ∨ ∃ a, x = .ref a ∧ y = .ref a
  | n + 1 => fun x y => ((x = y ∧ flatB x = true) ∨ ∃ a, x = .ref a ∧ y = .ref a) ∨ ∃ a b xs ys, x = .ref a ∧ y = .ref b ∧ ((SqL K H a xs ∧ SqL K H b ys) ∨ (SqT K H a xs ∧ SqT K H b ys)) ∧ Paired (EqT K H n) xs ys
section
variable {X : Cx} {pins : List (Addr × Obj)} {σ : L2.St} {H : Hp} {s : Shared}
theorem all_true (n : Nat) : ((List.range n).all fun _ => true) = true := List.all_eq_true.mpr fun _ _ => rfl
theorem pair_at {A : Around} {F : V → V → Prop} (ih : ∀ x y v u, F x y → RelV x v → RelV y u → SeqAt.EqAt A s v u true) {xs ys : List V} (hp : Paired F xs ys) :
    ∀ {us ws : List Value}, Vals xs us → Vals ys ws → ∀ j (h1 : j < us.length) (h2 : j < ws.length), SeqAt.EqAt A s us[j] ws[j] true := by
  induction hp with
  | nil => intro us ws r1 r2 j h1 h2; cases r1; exact absurd h1 (Nat.not_lt_zero j)
  | cons h _ k =>
    intro us ws r1 r2 j h1 h2
    cases r1 with
    | cons a1 b1 =>
      cases r2 with
      | cons a2 b2 =>
        cases j with
        | zero => exact ih _ _ _ _ h a1 a2
        | succ j => exact k b1 b2 j (Nat.lt_of_succ_lt_succ h1) (Nat.lt_of_succ_lt_succ h2)
theorem eqT_run (I : Inv X pins σ H s) : ∀ (n : Nat) (A : Around), A.units + n < cLine → ∀ (x y : V) (v u : Value), EqT X.K H n x y → RelV x v → RelV y u → SeqAt.EqAt A s v u true
  | 0, A, hu, x, y, v, u, h, rx, ry => by
    rcases h with ⟨rfl, f⟩ | ⟨a, rfl, rfl⟩
    · exact eqAt_same rx ry f
    · cases (show v = Value.ref a from rx)
      cases (show u = Value.ref a from ry)
      exact SeqAt.EqAt.same _
  | n + 1, A, hu, x, y, v, u, h, rx, ry => by
    rcases h with (⟨rfl, f⟩ | ⟨a, rfl, rfl⟩) | ⟨a, b, xs, ys, rfl, rfl, h, pr⟩
    · exact eqAt_same rx ry f
    · cases (show v = Value.ref a from rx)
      cases (show u = Value.ref a from ry)
      exact SeqAt.EqAt.same _
    · cases (show v = Value.ref a from rx)
      cases (show u = Value.ref b from ry)
      by_cases e : a = b
      · subst e
        exact SeqAt.EqAt.same _
      refine SeqAt.EqAt.of_refs e ?_
      have go : ∀ {us ws : List Value}, Vals xs us → Vals ys ws → us.toArray.size = ws.toArray.size ∧ ∀ j (h1 : j < us.toArray.size) (h2 : j < ws.toArray.size), SeqAt.EqAt A.in1 s us.toArray[j] ws.toArray[j] true := fun r1 r2 => by
        refine ⟨by rw [List.size_toArray, List.size_toArray, ← r1.length, ← r2.length]; exact Paired.length pr, fun j h1 h2 => ?_⟩
        have k := pair_at (A := A.in1) (eqT_run I n A.in1 (by show A.units + 1 + n < cLine; omega)) pr r1 r2 j (by simpa using h1) (by simpa using h2)
        simpa using k
      rcases h with ⟨ha, hb⟩ | ⟨ha, hb⟩
      · obtain ⟨us, r1, p1, _⟩ := I.list ha
        obtain ⟨ws, r2, p2, _⟩ := I.list hb
        obtain ⟨sz, st⟩ := go r1 r2
        have z := SeqAt.RcAt.lists (A := A) (e := fun _ => true) p1.isList p2.isList sz (by omega) st
        rwa [all_true] at z
      · obtain ⟨us, r1, p1, _⟩ := I.tuple ha
        obtain ⟨ws, r2, p2, _⟩ := I.tuple hb
        obtain ⟨sz, st⟩ := go r1 r2
        have z := SeqAt.RcAt.tuples (A := A) (e := fun _ => true) p1 p2 (by omega) st
        rw [all_true, sz, beq_self_eq_true] at z
        exact z
/-- two lists != : they are not unlike -/
def rNeT (K : PySem.W.Frag) : R2 := fun x y H Q => ∃ a b xs ys n, n ≤ 60 ∧ x = .ref a ∧ y = .ref b ∧ SqL K H a xs ∧ SqL K H b ys ∧ Paired (EqT K H n) xs ys ∧ Q (.bl false) H
theorem op_neT (hu : X.A.units + 64 < cLine) : OpR X (compareOp .NotEq) (rNeT X.K) := by
  intro pins s σ H x y v u Q I rx ry ⟨a, b, xs, ys, n, hn, ex, ey, ha, hb, pr, q⟩
  subst ex ey
  cases (show v = Value.ref a from rx)
  cases (show u = Value.ref b from ry)
  obtain ⟨us, r1, p1, _⟩ := I.list ha
  obtain ⟨ws, r2, p2, _⟩ := I.list hb
  have sz : us.toArray.size = ws.toArray.size := by
    rw [List.size_toArray, List.size_toArray, ← r1.length, ← r2.length]
    exact Paired.length pr
  have z := SeqAt.RcNeAt.lists (A := X.A) (s := s) (e := fun _ => true) p1.isList p2.isList sz (by omega) fun j h1 h2 => by
    have k := pair_at (A := X.A.in1) (eqT_run I n X.A.in1 (by show X.A.units + 1 + n < cLine; omega)) pr r1 r2 j (by simpa using h1) (by simpa using h2)
    simpa using k
  rw [all_true] at z
  exact z X.prog X.w X.xe _ ⟨.bl false, H, I, rfl, q⟩
/-- two tuples == -/
def rEqT (K : PySem.W.Frag) : R2 := fun x y H Q => ∃ a b xs ys n, n ≤ 60 ∧ x = .ref a ∧ y = .ref b ∧ SqT K H a xs ∧ SqT K H b ys ∧ Paired (EqT K H n) xs ys ∧ Q (.bl true) H
theorem op_eqT (hu : X.A.units + 64 < cLine) : OpR X (compareOp .Eq) (rEqT X.K) := by
  intro pins s σ H x y v u Q I rx ry ⟨a, b, xs, ys, n, hn, ex, ey, ha, hb, pr, q⟩
  subst ex ey
  cases (show v = Value.ref a from rx)
  cases (show u = Value.ref b from ry)
  obtain ⟨us, r1, p1, _⟩ := I.tuple ha
  obtain ⟨ws, r2, p2, _⟩ := I.tuple hb
  have sz : us.toArray.size = ws.toArray.size := by
    rw [List.size_toArray, List.size_toArray, ← r1.length, ← r2.length]
    exact Paired.length pr
  have z := SeqAt.RcAt.tuples (A := X.A) (s := s) (e := fun _ => true) p1 p2 (by omega) fun j h1 h2 => by
    have k := pair_at (A := X.A.in1) (eqT_run I n X.A.in1 (by show X.A.units + 1 + n < cLine; omega)) pr r1 r2 j (by simpa using h1) (by simpa using h2)
    simpa using k
  rw [all_true, sz, beq_self_eq_true] at z
  exact z X.prog X.w X.xe _ ⟨.bl true, H, I, rfl, q⟩
end
end OD

/-! J1: is_integer, is_natural, is_positive, is_pair -/
namespace TH
open PySem PySem.Spec PyProof.Rows L2 LamV LamX XK0
open C8 (pss_cut tCut)
abbrev sIsInt : Stmt := top 2
abbrev sIsNat : Stmt := top 3
abbrev sIsPos : Stmt := top 4
abbrev sIsPair : Stmt := top 6
def intV : V → Option Int
  | .int i => some i
  | _ => none
def natV (v : V) : Bool := match intV v with
  | some i => decide (0 ≤ i)
  | none => false
def posV (v : V) : Bool := match intV v with
  | some i => decide (1 ≤ i)
  | none => false
theorem Kd.int {K : PySem.W.Frag} {H : Hp} {v : V} (h : Kd K H v "int") : ∃ i, v = .int i := by
  obtain ⟨_, h, l⟩ := h
  generalize e : Value.type "int" = t at h
  cases h with
  | base h => cases h <;> first | exact ⟨_, rfl⟩ | (exfalso; simp at e)
  | _ => exfalso; simp at e
theorem intV_no {K : PySem.W.Frag} {H : Hp} {v : V} {T : String} (h : Kd K H v T) (n : T ≠ "int") : intV v = none := by
  cases v with
  | int i =>
    obtain ⟨_, t, _⟩ := h
    cases t with
    | base t => cases t; exact absurd rfl n
  | _ => rfl
theorem int_kd {K : PySem.W.Frag} {H : Hp} {i : Int} : Kd K H (.int i) "int" := ⟨by decide, .base (.int i), fun _ z => nomatch z⟩
theorem kit_int {K : PySem.W.Frag} {T : String} (h : T ∈ tys) : PySem.W.kitOne K (.type T) (.type "int") = some (decide (T = "int") || decide (T = "bool")) := by
  simp only [tys, List.mem_cons, List.mem_nil_iff, or_false] at h
  rcases h with rfl | rfl | rfl | rfl | rfl | rfl | rfl <;> exact kit_ty (by decide +kernel)
theorem kit_bool {K : PySem.W.Frag} {T : String} (h : T ∈ tys) : PySem.W.kitOne K (.type T) (.type "bool") = some (decide (T = "bool")) := by
  simp only [tys, List.mem_cons, List.mem_nil_iff, or_false] at h
  rcases h with rfl | rfl | rfl | rfl | rfl | rfl | rfl <;> exact kit_ty (by decide +kernel)
def spIsInt (K : PySem.W.Frag) : Sp := fun vs H Q _ => ∃ v T, vs = [v] ∧ Kd K H v T ∧ Q (.bl (intV v).isSome) H
def spIsNat (K : PySem.W.Frag) : Sp := fun vs H Q _ => ∃ v T, vs = [v] ∧ Kd K H v T ∧ Q (.bl (natV v)) H
def spIsPos (K : PySem.W.Frag) : Sp := fun vs H Q _ => ∃ v T, vs = [v] ∧ Kd K H v T ∧ Q (.bl (posV v)) H
def spIsPair (K : PySem.W.Frag) : Sp := fun vs H Q _ => (∃ v T, vs = [v] ∧ Kd K H v T ∧ isLt T = false ∧ ∀ H', Ex H H' → Q (.bl false) H') ∨ (∃ a xs, vs = [.ref a] ∧ Sq K H a xs ∧ ∀ H', Ex H H' → Q (.bl (decide (xs.length = 2))) H')
section
variable {P : Program} {w : World} {K : PySem.W.Frag} {mg : Str → Option Value} {base : Heap} {f C CN : Addr} {fd : FuncData}
theorem scIsInt : FnScope ["thing"] ["thing"] (defScope sIsInt) := ⟨rfl, rfl, rfl, by decide +kernel, rfl, by decide +kernel, by decide +kernel⟩
theorem scIsNat : FnScope ["thing"] ["thing"] (defScope sIsNat) := ⟨rfl, rfl, rfl, by decide +kernel, rfl, by decide +kernel, by decide +kernel⟩
theorem scIsPos : FnScope ["thing"] ["thing"] (defScope sIsPos) := ⟨rfl, rfl, rfl, by decide +kernel, rfl, by decide +kernel, by decide +kernel⟩
theorem scIsPair : FnScope ["thing"] ["thing"] (defScope sIsPair) := ⟨rfl, rfl, rfl, by decide +kernel, rfl, by decide +kernel, by decide +kernel⟩
theorem ok_is_int (F : FnP K "is_integer" sIsInt f fd) (gi : mg "isinstance" = none) (gn : mg "int" = none) (gb : mg "bool" = none) : FnOk P w K mg base CX0 1 f fd ["thing"] (spIsInt K) := by
  refine F.ok scIsInt (fun vs H Q E h => ?_) (fun cdv A outer s H vs Q E hr h => ?_)
  · obtain ⟨v, T, rfl, _⟩ := h
    rfl
  · refine ⟨_, PSs.nox (pss_one (ps_ret (pe_and (pe_callB call_isi rfl gi boot_isinstance (pa_cons (pv 0) (pa_cons (pe_bltn (v := .ty "int") rfl gn boot_int rfl) pa_nil)))
      (pe_one (pe_not (pe_callB call_isi rfl gi boot_isinstance (pa_cons (pv 0) (pa_cons (pe_bltn (v := .ty "bool") rfl gb boot_bool rfl) pa_nil)))))))), ?_⟩
    obtain ⟨v, T, rfl, k, hQ⟩ := h
    refine ⟨v, rfl, v, .ty "int", _, _, _, rfl, .ty "int", k.2.1, kit_int k.1, _, rfl, ?_⟩
    by_cases hT : T = "int"
    · subst hT
      obtain ⟨i, rfl⟩ := k.int
      exact ⟨_, rfl, _, .ty "bool", _, _, _, rfl, .ty "bool", k.2.1, kit_bool k.1, _, rfl, hQ⟩
    · rw [intV_no k hT] at hQ
      by_cases hB : T = "bool"
      · subst hB
        exact ⟨_, rfl, _, .ty "bool", _, _, _, rfl, .ty "bool", k.2.1, kit_bool k.1, _, rfl, hQ⟩
      · rw [decide_eq_false hT, decide_eq_false hB]
        exact hQ
theorem ok_is_nat (F : FnP K "is_natural" sIsNat f fd) (FI : Has P w K mg base "is_integer" 1 ["thing"] (spIsInt K)) : FnOk P w K mg base CX0 2 f fd ["thing"] (spIsNat K) := by
  refine F.ok scIsNat (fun vs H Q E h => ?_) (fun cdv A outer s H vs Q E hr h => ?_)
  · obtain ⟨v, T, rfl, _⟩ := h
    rfl
  · refine ⟨_, PSs.nox (pss_one (ps_ret (pe_and (pe_has FI hr (by decide) rfl (pa_cons (pv 0) pa_nil)) (pe_one (pe_cmpR op_ge (pv 0) pe_int (nomark _)))))), ?_⟩
    obtain ⟨v, T, rfl, k, hQ⟩ := h
    refine ⟨v, rfl, v, T, rfl, k, _, rfl, ?_⟩
    unfold natV at hQ
    by_cases hT : T = "int"
    · subst hT
      obtain ⟨i, rfl⟩ := k.int
      exact ⟨_, rfl, i, 0, rfl, rfl, hQ⟩
    · rw [intV_no k hT] at hQ ⊢
      exact hQ
theorem ok_is_pos (F : FnP K "is_positive" sIsPos f fd) (FI : Has P w K mg base "is_integer" 1 ["thing"] (spIsInt K)) : FnOk P w K mg base CX0 2 f fd ["thing"] (spIsPos K) := by
  refine F.ok scIsPos (fun vs H Q E h => ?_) (fun cdv A outer s H vs Q E hr h => ?_)
  · obtain ⟨v, T, rfl, _⟩ := h
    rfl
  · refine ⟨_, PSs.nox (pss_one (ps_ret (pe_and (pe_has FI hr (by decide) rfl (pa_cons (pv 0) pa_nil)) (pe_one (pe_cmpR op_ge (pv 0) pe_int (nomark _)))))), ?_⟩
    obtain ⟨v, T, rfl, k, hQ⟩ := h
    refine ⟨v, rfl, v, T, rfl, k, _, rfl, ?_⟩
    unfold posV at hQ
    by_cases hT : T = "int"
    · subst hT
      obtain ⟨i, rfl⟩ := k.int
      exact ⟨_, rfl, i, 1, rfl, rfl, hQ⟩
    · rw [intV_no k hT] at hQ ⊢
      exact hQ
theorem ok_is_pair (F : FnP K "is_pair" sIsPair f fd) (FL : Has P w K mg base "is_list" 1 ["thing"] (spIsList K)) (gn : mg "len" = none) : FnOk P w K mg base CX0 2 f fd ["thing"] (spIsPair K) := by
  refine F.ok scIsPair (fun vs H Q E h => ?_) (fun cdv A outer s H vs Q E hr h => ?_)
  · rcases h with ⟨v, T, rfl, _⟩ | ⟨a, xs, rfl, _⟩
    · rfl
    · rfl
  · refine ⟨_, PSs.nox (pss_one (ps_ret (pe_and (pe_has FL hr (by decide) rfl (pa_cons (pv 0) pa_nil)) (pe_one (pe_cmp (pc_eqI (pe_callB call_len rfl gn boot_len (pa_cons (pv 0) pa_nil)) pe_int)))))), ?_⟩
    rcases h with ⟨v, T, rfl, k, nl, hQ⟩ | ⟨a, xs, rfl, sq, hQ⟩
    · refine ⟨v, rfl, v, T, rfl, k, fun H1 x1 => ⟨_, rfl, ?_⟩⟩
      rw [nl]
      exact hQ H1 x1
    · obtain ⟨T, kT, lT⟩ : ∃ T, Kd K H (.ref a) T ∧ isLt T = true := by
        rcases sq with sq | sq
        · exact ⟨_, sqL_kd sq, rfl⟩
        · exact ⟨_, sqT_kd sq, rfl⟩
      refine ⟨.ref a, rfl, .ref a, T, rfl, kT, fun H1 x1 => ⟨_, rfl, ?_⟩⟩
      rw [lT]
      have ln : LenV K (.ref a) H1 xs.length := by
        rcases sq with sq | sq
        · exact .inl ⟨xs, x1.sqL sq, rfl⟩
        · exact .inr ⟨xs, x1.sqT sq, rfl⟩
      refine ⟨.ref a, rfl, .ref a, xs.length, rfl, ln, _, _, rfl, rfl, ?_⟩
      have q := hQ H1 x1
      have e : decide ((xs.length : Int) = (2 : Int)) = decide (xs.length = 2) := by
        by_cases z : xs.length = 2
        · rw [decide_eq_true z, decide_eq_true (by omega)]
        · rw [decide_eq_false z, decide_eq_false (by omega)]
      show Q (.bl (decide ((xs.length : Int) = (2 : Int)))) H1
      rw [e]
      exact q
theorem op_in_seqK {X : Cx} {K : PySem.W.Frag} (h : X.K = K) : OpR X (compareOp .In) (rIn K false) := h ▸ op_in_seq
end
end TH

/-! J2: nested data; is_job_body -/
namespace TH
open PySem PySem.Spec PyProof.Rows L2 LamV LamX XK0
open C8 (pss_cut tCut)
abbrev sJobBody : Stmt := top 16
def seqD : PyData → Option (List PyData)
  | .list ds => some ds
  | .tuple ds => some ds
  | _ => none
def nameD : PyData → String
  | .none => "NoneType"
  | .bool _ => "bool"
  | .int _ => "int"
  | .str _ => "str"
  | .list _ => "list"
  | .tuple _ => "tuple"
  | .dict _ => "dict"
def posD : PyData → Bool
  | .int i => decide (1 ≤ i)
  | _ => false
mutual
def shD : PyData → Bool
  | .str x => decide (x.length ≤ 1000)
  | .list ds => shA ds
  | .tuple ds => shA ds
  | _ => true
def shA : List PyData → Bool
  | [] => true
  | d :: r => shD d && shA r
end
theorem dp_kd {K : PySem.W.Frag} {H : Hp} {v : V} {d : PyData} (h : Dp K H v d) (s : shD d = true) : Kd K H v (nameD d) := by
  cases h with
  | non => exact ⟨by decide, .base .non, fun x z => nomatch z⟩
  | bl b => exact ⟨show "bool" ∈ tys by decide, .base (.bl b), fun x z => nomatch z⟩
  | int i => exact int_kd
  | str x => exact str_kd (of_decide_eq_true s)
  | lst h _ => exact sqL_kd h
  | tup h _ => exact sqT_kd h
theorem isLt_name (d : PyData) : isLt (nameD d) = (seqD d).isSome := by cases d <;> rfl
theorem dp_pos {K : PySem.W.Frag} {H : Hp} {v : V} {d : PyData} (h : Dp K H v d) : posV v = posD d := by cases h <;> rfl
theorem dp_seq {K : PySem.W.Frag} {H : Hp} {v : V} {d : PyData} {ds : List PyData} (h : Dp K H v d) (e : seqD d = some ds) : ∃ a xs, v = .ref a ∧ Sq K H a xs ∧ DpAll K H xs ds := by
  cases h with
  | lst h r => cases e; exact ⟨_, _, rfl, .inl h, r⟩
  | tup h r => cases e; exact ⟨_, _, rfl, .inr h, r⟩
  | _ => cases e
mutual
theorem Dp.ex {K : PySem.W.Frag} {H H' : Hp} (x : Ex H H') : ∀ (d : PyData) (v : V), Dp K H v d → Dp K H' v d
  | .none, _, h => by cases h; exact .non
  | .bool b, _, h => by cases h; exact .bl b
  | .int i, _, h => by cases h; exact .int i
  | .str s, _, h => by cases h; exact .str s
  | .list ds, _, h => by
    cases h with
    | lst h r => exact .lst (x.sqL h) (Dp.exAll x ds _ r)
  | .tuple ds, _, h => by
    cases h with
    | tup h r => exact .tup (x.sqT h) (Dp.exAll x ds _ r)
  | .dict _, _, h => by cases h
theorem Dp.exAll {K : PySem.W.Frag} {H H' : Hp} (x : Ex H H') : ∀ (ds : List PyData) (vs : List V), DpAll K H vs ds → DpAll K H' vs ds
  | [], _, h => by cases h; exact .nil
  | d :: r, _, h => by
    cases h with
    | cons a b => exact .cons (Dp.ex x d _ a) (Dp.exAll x r _ b)
end
theorem dpA_get {K : PySem.W.Frag} {H : Hp} : ∀ {vs : List V} {ds : List PyData} {i : Nat} {v : V}, DpAll K H vs ds → vs[i]? = some v → ∃ d, ds[i]? = some d ∧ Dp K H v d
  | _, _, _, _, .nil, e => by simp at e
  | _, _, 0, _, .cons a _, e => by cases e; exact ⟨_, rfl, a⟩
  | _, _, i + 1, _, .cons _ b, e => dpA_get (i := i) b e
theorem dpA_len {K : PySem.W.Frag} {H : Hp} {vs : List V} {ds : List PyData} (h : DpAll K H vs ds) : vs.length = ds.length := by
  induction vs generalizing ds with
  | nil => cases h; rfl
  | cons v r ih => cases h with
    | cons a b => rw [List.length_cons, List.length_cons, ih b]
theorem shA_get : ∀ {ds : List PyData} {i : Nat} {d : PyData}, shA ds = true → ds[i]? = some d → shD d = true
  | [], _, _, _, e => by simp at e
  | d :: r, 0, _, h, e => by
    cases e
    exact (Bool.and_eq_true_iff.mp (show (shD d && shA r) = true from h)).1
  | d :: r, i + 1, _, h, e => shA_get (i := i) (Bool.and_eq_true_iff.mp (show (shD d && shA r) = true from h)).2 e
theorem sh_seq {d : PyData} {ds : List PyData} (h : shD d = true) (e : seqD d = some ds) : shA ds = true := by
  cases d <;> cases e <;> exact h
def allO {α : Type} (g : α → Option Bool) : List α → Option Bool
  | [] => some true
  | x :: r => match g x with
    | some true => allO g r
    | o => o
def partB (f : PyData → List Str → Option Bool) (p : PyData) (ws : List Str) : Option Bool :=
  if posD p = true then some true else match seqD p with
    | some [.str w, b] => if okS w && !decide (w ∈ ws) then f b (ws ++ [w]) else some false
    | _ => some false
/-- is_job_body -/
def jb : Nat → PyData → List Str → Option Bool
  | 0, _, _ => none
  | n + 1, d, ws => match seqD d with
    | some [] => some false
    | some ds => allO (fun p => partB (jb n) p ws) ds
    | none => some false
def spJobBody (K : PySem.W.Frag) (n : Nat) : Sp := fun vs H Q _ => ∃ (v : V) (d : PyData) (wt : Addr) (ws : List Str) (r : Bool), vs = [v, .ref wt] ∧ Dp K H v d ∧ shD d = true ∧ SqT K H wt (ws.map V.str) ∧ ws.length + n ≤ 100 ∧ jb n d ws = some r ∧ ∀ H', Ex H H' → Q (.bl r) H'
/-- either of two readings -/
def iOr (a b : TI) : TI := fun σ H R => a σ H R ∨ b σ H R
theorem pi_or {X : Cx} {tg l : Expr} {a b : TI} (ha : PI X tg l a) (hb : PI X tg l b) : PI X tg l (iOr a b) := by
  refine ⟨fun pins s σ H R I h => ?_⟩
  rcases h with h | h
  · exact ha.run pins s σ H R I h
  · exact hb.run pins s σ H R I h
abbrev iSq (K : PySem.W.Frag) (t : TE) : TI := iOr (iList K t) (iTup K t)
theorem for_sq {K : PySem.W.Frag} {j : Nat} {a : Addr} {xs : List V} {g : TG} {tb : TS} {D : Ends} {σ : L2.St} {H : Hp} (hj : σ[j]? = some (some (.ref a))) (sq : Sq K H a xs) (Pv : Nat → L2.St → Hp → Prop) (h0 : Pv 0 σ H) (hE : ∀ i σ' H', Pv i σ' H' → Ex H H')
    (hs : ∀ i x σ' H', xs[i]? = some x → Pv i σ' H' → g x σ' H' fun σ2 H2 => tb { D with nx := Pv (i + 1), ct := Pv (i + 1), bk := D.nx } σ2 H2) (hd : ∀ σ' H', Pv xs.length σ' H' → D.nx σ' H') : tFor (iSq K (tVar j)) g tb D σ H := by
  rcases sq with sq | sq
  · exact .inl ⟨.ref a, hj, a, rfl, ⟨_, sq⟩, for_it walk_list Pv h0 (fun i σ' H' _ p => (hE i σ' H' p).sqL sq) (fun i x σ' H1 H2 _ p y => by obtain ⟨rfl, e⟩ := y; exact hs i x σ' _ e p) hd⟩
  · exact .inr ⟨.ref a, hj, a, rfl, ⟨_, sq⟩, for_it walk_tup Pv h0 (fun i σ' H' _ p => (hE i σ' H' p).sqT sq) (fun i x σ' H1 H2 _ p y => by obtain ⟨rfl, e⟩ := y; exact hs i x σ' _ e p) hd⟩
def rIxQ (K : PySem.W.Frag) : R2 := fun x y H Q => ∃ p xs i v, x = .ref p ∧ y = .int i ∧ Sq K H p xs ∧ atI xs i = some v ∧ Q v H
theorem ix_sq {X : Cx} : IxR X (rIxQ X.K) := by
  intro value slice pins s σ H x y v u Q I rx ry h hs
  obtain ⟨p, xs, i, w, ex, ey, sq | sq, e, q⟩ := h
  · exact ix_list value slice pins s σ H x y v u Q I rx ry ⟨p, xs, i, w, ex, ey, sq, e, q⟩ hs
  · exact ix_tup value slice pins s σ H x y v u Q I rx ry ⟨p, xs, i, w, ex, ey, sq, e, q⟩ hs
theorem len_sq {K : PySem.W.Frag} {H : Hp} {a : Addr} {xs : List V} (h : Sq K H a xs) : LenV K (.ref a) H xs.length := by
  rcases h with h | h
  · exact .inl ⟨xs, h, rfl⟩
  · exact .inr ⟨xs, h, rfl⟩
theorem sq_ex {K : PySem.W.Frag} {H H' : Hp} {a : Addr} {xs : List V} (x : Ex H H') (h : Sq K H a xs) : Sq K H' a xs := h.imp (fun z => x.sqL z) fun z => x.sqT z
theorem drop_cons {α : Type} {ds : List α} {i : Nat} {p : α} (e : ds[i]? = some p) : ds.drop i = p :: ds.drop (i + 1) := by
  obtain ⟨h, rfl⟩ := List.getElem?_eq_some_iff.mp e
  exact List.drop_eq_getElem_cons h
def wdD : PyData → Bool
  | .str w => okS w
  | _ => false
theorem dp_wd {K : PySem.W.Frag} {H : Hp} {v : V} {d : PyData} (h : Dp K H v d) : isWd v = wdD d := by cases h <;> rfl
theorem strs_flat (ws : List Str) : (ws.map V.str).all flatV = true := by
  rw [List.all_map]
  exact List.all_eq_true.mpr fun _ _ => rfl
theorem two_of {α : Type} {l : List α} (h : l.length = 2) : ∃ a b, l = [a, b] := by
  cases l with
  | nil => cases h
  | cons a r => cases r with
    | nil => cases h
    | cons b r => cases r with
      | nil => exact ⟨a, b, rfl⟩
      | cons c r => cases h
theorem dpA_two {K : PySem.W.Frag} {H : Hp} {ys : List V} {q0 q1 : PyData} (h : DpAll K H ys [q0, q1]) : ∃ y0 y1, ys = [y0, y1] ∧ Dp K H y0 q0 ∧ Dp K H y1 q1 := by
  cases h with
  | cons a b => cases b with
    | cons c e => cases e; exact ⟨_, _, rfl, a, c⟩
theorem wd_str {q : PyData} (h : wdD q = true) : ∃ w, q = .str w ∧ okS w = true := by
  cases q with
  | str w => exact ⟨w, rfl, h⟩
  | _ => cases h
theorem partB_pos {f : PyData → List Str → Option Bool} {p : PyData} {ws : List Str} (h : posD p = true) : partB f p ws = some true := if_pos h
theorem partB_none {f : PyData → List Str → Option Bool} {p : PyData} {ws : List Str} (h : posD p = false) (e : seqD p = none) : partB f p ws = some false := by
  unfold partB
  rw [if_neg (by rw [h]; exact Bool.false_ne_true), e]
theorem partB_len {f : PyData → List Str → Option Bool} {p : PyData} {ws : List Str} {qs : List PyData} (h : posD p = false) (e : seqD p = some qs) (l : qs.length ≠ 2) : partB f p ws = some false := by
  unfold partB
  rw [if_neg (by rw [h]; exact Bool.false_ne_true), e]
  cases qs with
  | nil => rfl
  | cons a r => cases r with
    | nil => cases a <;> rfl
    | cons b r => cases r with
      | nil => exact absurd rfl l
      | cons c r => cases a <;> rfl
theorem partB_odd {f : PyData → List Str → Option Bool} {p : PyData} {ws : List Str} {q0 q1 : PyData} (h : posD p = false) (e : seqD p = some [q0, q1]) (o : wdD q0 = false) : partB f p ws = some false := by
  unfold partB
  rw [if_neg (by rw [h]; exact Bool.false_ne_true), e]
  cases q0 with
  | str w =>
    have z : okS w = false := o
    show (if (okS w && _) = true then _ else _) = _
    rw [z]
    rfl
  | _ => rfl
theorem partB_two {f : PyData → List Str → Option Bool} {p : PyData} {ws : List Str} {w : Str} {q1 : PyData} (h : posD p = false) (e : seqD p = some [.str w, q1]) (o : okS w = true) : partB f p ws = if w ∈ ws then some false else f q1 (ws ++ [w]) := by
  unfold partB
  rw [if_neg (by rw [h]; exact Bool.false_ne_true), e]
  show (if (okS w && !decide (w ∈ ws)) = true then f q1 (ws ++ [w]) else some false) = _
  rw [o, Bool.true_and]
  by_cases m : w ∈ ws
  · rw [decide_eq_true m, if_pos m]; rfl
  · rw [decide_eq_false m, if_neg m]; rfl
theorem not_one {t : TT} {σ : L2.St} {H : Hp} {Q : Bool → Hp → Prop} (h : t σ H fun c H1 => Q (!c) H1) : tNot t σ H Q := h
section
variable {P : Program} {w : World} {K : PySem.W.Frag} {mg : Str → Option Value} {base : Heap} {f C CN : Addr} {fd : FuncData}
theorem scJobBody : FnScope ["thing", "within", "part"] ["thing", "within"] (defScope sJobBody) := ⟨rfl, rfl, rfl, by decide +kernel, rfl, by decide +kernel, by decide +kernel⟩
theorem ok_job_body (F : FnP K "is_job_body" sJobBody f fd) (gJ : mg "is_job_body" = some (.ref f)) (bJ : Binds K fd ["thing", "within"] []) (FL : Has P w K mg base "is_list" 1 ["thing"] (spIsList K)) (FW : Has P w K mg base "is_word" 1 ["thing"] (spIsWord K)) (FP : Has P w K mg base "is_positive" 2 ["thing"] (spIsPos K)) (FQ : Has P w K mg base "is_pair" 2 ["thing"] (spIsPair K)) (gn : mg "len" = none) :
    ∀ n, FnOk P w K mg base CX0 (n + 3) f fd ["thing", "within"] (spJobBody K n)
  | 0 => by
    refine F.ok scJobBody (fun vs H Q E h => ?_) (fun cdv A outer s H vs Q E hr h => ?_)
    · obtain ⟨v, d, wt, ws, r, rfl, _⟩ := h
      rfl
    · obtain ⟨v, d, wt, ws, r, _, _, _, _, _, h, _⟩ := h
      cases h
  | n + 1 => by
    have FJ : Has P w K mg base "is_job_body" (n + 3) ["thing", "within"] (spJobBody K n) := ⟨f, fd, gJ, F.kp, bJ, ok_job_body F gJ bJ FL FW FP FQ gn n⟩
    refine F.ok scJobBody (fun vs H Q E h => ?_) (fun cdv A outer s H vs Q E hr h => ?_)
    · obtain ⟨v, d, wt, ws, r, rfl, _⟩ := h
      rfl
    · have hu := hu_of hr
      refine ⟨_, PSs.nox (pss_cons (ps_if (PW.pt (pw_or (pt_not (pt_val (pe_has FL hr (by omega) rfl (pa_cons (pv 0) pa_nil)))) (pw_or1 (pt_cmp (pc_eqI (pe_callB call_len rfl gn boot_len (pa_cons (pv 0) pa_nil)) pe_int))))) (pss_one (ps_ret pe_bl)) pss_nil)
        (pss_cons (ps_for PassesOwn.never rfl (pi_or (pi_list (pv 0)) (pi_tup (pv 0))) (pg_name (i := 2) scJobBody.nd rfl (.inl rfl))
          (pss_one (ps_if (pt_not (pt_val (pe_has FP hr (by omega) rfl (pa_cons (pv 2) pa_nil))))
            (pss_cons (ps_if (PW.pt (pw_or (pt_not (pt_val (pe_has FQ hr (by omega) rfl (pa_cons (pv 2) pa_nil)))) (pw_or (pt_not (pt_val (pe_has FW hr (by omega) rfl (pa_cons (pe_ix ix_sq (pv 2) pe_int (fun _ _ => rfl)) pa_nil)))) (pw_or1 (pt_cmpR op_in_seq (pe_ix ix_sq (pv 2) pe_int (fun _ _ => rfl)) (pv 1) (by with_unfolding_all rfl)))))) (pss_one (ps_ret pe_bl)) pss_nil)
            (pss_one (ps_if (pt_not (pt_val (pe_has FJ hr (by omega) rfl (pa_cons (pe_ix ix_sq (pv 2) pe_int (fun _ _ => rfl)) (pa_cons (pe_op op_catA (pv 1) (pe_tup (pa_cons (pe_ix ix_sq (pv 2) pe_int (fun _ _ => rfl)) pa_nil))) pa_nil))))) (pss_one (ps_ret pe_bl)) pss_nil))) pss_nil)))
        (pss_one (ps_ret pe_bl)))), ?_⟩
      obtain ⟨v, d, wt, ws, r, rfl, hd, sh, hw, wl, hj, hQ⟩ := h
      refine ⟨v, rfl, v, nameD d, rfl, dp_kd hd sh, fun H1 x1 => ⟨_, rfl, ?_⟩⟩
      rw [isLt_name]
      unfold jb at hj
      cases e : seqD d with
      | none =>
        rw [e] at hj
        cases hj
        exact hQ H1 x1
      | some ds =>
        rw [e] at hj
        obtain ⟨a, xs, rfl, sq, da⟩ := dp_seq hd e
        have sq1 := sq_ex x1 sq
        have da1 := Dp.exAll x1 ds _ da
        have hw1 := x1.sqT hw
        have sa := sh_seq sh e
        have xl : xs.length = ds.length := dpA_len da
        refine ⟨.ref a, rfl, .ref a, xs.length, rfl, len_sq sq1, _, _, rfl, rfl, ?_⟩
        cases ds with
        | nil =>
          cases hj
          exact ⟨true, congrArg V.bl (decide_eq_true (by rw [xl]; rfl)), hQ H1 x1⟩
        | cons d0 dr =>
          have hj : allO (fun p => partB (jb n) p ws) (d0 :: dr) = some r := hj
          generalize eds : d0 :: dr = ds at *
          refine ⟨false, congrArg V.bl (decide_eq_false (by rw [xl, ← eds, List.length_cons]; omega)), ?_⟩
          refine for_sq rfl sq1 (fun i σ' H' => ∃ o2, σ' = [some (.ref a), some (.ref wt), o2] ∧ Ex H1 H' ∧ allO (fun p => partB (jb n) p ws) (ds.drop i) = some r) ⟨none, rfl, Ex.refl, hj⟩ (fun i σ' H' ⟨_, _, x, _⟩ => x) (fun i x σ' H' ex ⟨o2, es, x2, hr'⟩ => ?_) fun σ' H' ⟨o2, es, x2, hr'⟩ => ?_
          · subst es
            obtain ⟨p, ep, dp⟩ := dpA_get da1 ex
            have dp2 := Dp.ex x2 _ _ dp
            have shp := shA_get sa ep
            rw [drop_cons ep] at hr'
            refine ⟨x, rfl, x, nameD p, rfl, dp_kd dp2 shp, posV x, rfl, ?_⟩
            rw [dp_pos dp2]
            have hr2 : (match partB (jb n) p ws with | some true => allO (fun p => partB (jb n) p ws) (ds.drop (i + 1)) | o => o) = some r := hr'
            clear hr'
            cases pp : posD p with
            | true =>
              rw [partB_pos pp] at hr2
              exact ⟨_, rfl, x2, hr2⟩
            | false =>
              have bad : partB (jb n) p ws = some false → r = false := fun e2 => by
                rw [e2] at hr2
                cases hr2
                rfl
              have fin : ∀ H3, Ex H' H3 → r = false → Q (.bl false) H3 := fun H3 x3 er => by rw [← er]; exact hQ H3 (x1.trans (x2.trans x3))
              cases eq : seqD p with
              | none =>
                refine ⟨x, rfl, .inl ⟨x, nameD p, rfl, dp_kd dp2 shp, by rw [isLt_name, eq]; rfl, fun H3 x3 => ⟨false, rfl, ?_⟩⟩⟩
                exact fin H3 x3 (bad (partB_none pp eq))
              | some qs =>
                obtain ⟨b, ys, rfl, sqb, db⟩ := dp_seq dp2 eq
                have yl := dpA_len db
                have sq' := sh_seq shp eq
                refine ⟨.ref b, rfl, .inr ⟨b, ys, rfl, sqb, fun H3 x3 => ?_⟩⟩
                by_cases l2 : qs.length = 2
                · obtain ⟨q0, q1, rfl⟩ := two_of l2
                  obtain ⟨y0, y1, rfl, d0, d1⟩ := dpA_two db
                  have s0 : shD q0 = true := shA_get (i := 0) sq' rfl
                  have s1 : shD q1 = true := shA_get (i := 1) sq' rfl
                  refine ⟨true, rfl, .ref b, rfl, b, _, 0, y0, rfl, rfl, sq_ex x3 sqb, at_nat (k := 0) rfl, y0, nameD q0, rfl, dp_kd (Dp.ex x3 _ _ d0) s0, fun H4 x4 => ⟨_, rfl, ?_⟩⟩
                  have x34 := x3.trans x4
                  rw [dp_wd d0]
                  cases ok : wdD q0 with
                  | false => exact fin H4 x34 (bad (partB_odd pp eq ok))
                  | true =>
                    obtain ⟨w0, rfl, ok'⟩ := wd_str ok
                    cases d0
                    refine ⟨.ref b, rfl, b, _, 0, .str w0, rfl, rfl, sq_ex x34 sqb, at_nat (k := 0) rfl, .ref wt, rfl, wt, ws.map V.str, rfl, (x34.trans Ex.refl |> fun z => .inr (z.sqT (x2.sqT hw1))), rfl, strs_flat ws, inV (.str w0) (ws.map V.str), rfl, ?_⟩
                    rw [inV_strs]
                    have e2 := partB_two (f := jb n) (ws := ws) pp eq ok'
                    by_cases iw : w0 ∈ ws
                    · rw [if_pos iw] at e2
                      rw [decide_eq_true iw]
                      exact fin H4 x34 (bad e2)
                    · rw [if_neg iw] at e2
                      rw [decide_eq_false iw]
                      rw [e2] at hr2
                      obtain ⟨r1, e4⟩ : ∃ r1, jb n q1 (ws ++ [w0]) = some r1 := by
                        cases z : jb n q1 (ws ++ [w0]) with
                        | some b => exact ⟨b, rfl⟩
                        | none => rw [z] at hr2; cases hr2
                      rw [e4] at hr2
                      refine ⟨.ref b, rfl, b, _, 1, y1, rfl, rfl, sq_ex x34 sqb, at_nat (k := 1) rfl, .ref wt, rfl, .ref b, rfl, b, _, 0, .str w0, rfl, rfl, sq_ex x34 sqb, at_nat (k := 0) rfl, by show 1 ≤ sizeLine; decide, fun t nt => ?_⟩
                      have x5 := Ex.new (o := .tup [.str w0]) nt
                      have ht : upd H4 t (.tup [.str w0]) t = some (.tup [.str w0]) := upd_same
                      generalize upd H4 t (.tup [.str w0]) = H5 at x5 ht ⊢
                      have x35 := x34.trans x5
                      refine ⟨wt, t, ws.map V.str, [.str w0], rfl, rfl, x35.sqT (x2.sqT hw1), .inl (.inl ht), by rw [List.length_map, sizeLine_eq]; show ws.length + 1 ≤ _; omega, fun wn => ?_, fun _ z => (nomatch z), fun wn _ c nc => ?_⟩
                      · have wn2 : ws = [] := List.map_eq_nil_iff.mp wn
                        refine ⟨y1, q1, t, ws ++ [w0], r1, rfl, Dp.ex x35 _ _ d1, s1, by rw [wn2]; exact .inl (.inl ht), by rw [List.length_append]; show ws.length + 1 + n ≤ 100; omega, e4, fun H7 x7 => ⟨r1, rfl, ?_⟩⟩
                        cases r1 with
                        | true => exact ⟨_, rfl, x2.trans (x35.trans x7), hr2⟩
                        | false => exact fin H7 (x35.trans x7) (by cases hr2; rfl)
                      · have x6 := Ex.new (o := .tup (ws.map V.str ++ [.str w0])) nc
                        refine ⟨y1, q1, c, ws ++ [w0], r1, rfl, Dp.ex (x35.trans x6) _ _ d1, s1, by rw [List.map_append]; exact .inl (.inl upd_same), by rw [List.length_append]; show ws.length + 1 + n ≤ 100; omega, e4, fun H7 x7 => ⟨r1, rfl, ?_⟩⟩
                        cases r1 with
                        | true => exact ⟨_, rfl, x2.trans (x35.trans (x6.trans x7)), hr2⟩
                        | false => exact fin H7 (x35.trans (x6.trans x7)) (by cases hr2; rfl)
                · refine ⟨false, congrArg V.bl (decide_eq_false (by rw [yl]; exact l2)), ?_⟩
                  exact fin H3 x3 (bad (partB_len pp eq l2))
          · subst es
            rw [xl, List.drop_length] at hr'
            cases hr'
            exact hQ H' (x1.trans x2)
end
end TH

/-! J3: is_job; bodies; body_kept -/
namespace TH
open PySem PySem.Spec PyProof.Rows L2 LamV LamX XK0
open C8 (pss_cut tCut)
abbrev sIsJob : Stmt := top 17
abbrev sKept : Stmt := top 18
def intD : PyData → Option Int
  | .int i => some i
  | _ => none
/-- is_job -/
def jobB (n : Nat) (ps : List Int) (d : PyData) : Option Bool := match seqD d with
  | some [a, b, c] => if posD a && posD b then (match intD a with
    | some i => if i ∈ ps then some false else jb n c []
    | none => some false) else some false
  | _ => some false
def spIsJob (K : PySem.W.Frag) (n : Nat) : Sp := fun vs H Q _ => ∃ (v : V) (pm : Addr) (ps : List Int) (r : Bool), vs = [v, .ref pm] ∧ H pm = some (.lst (ps.map V.int)) ∧ n ≤ 60 ∧
  ((∃ T, Kd K H v T ∧ isLt T = false ∧ r = false) ∨ ∃ d, Dp K H v d ∧ shD d = true ∧ jobB n ps d = some r) ∧ ∀ H', Ex H H' → Q (.bl r) H'
theorem three_of {α : Type} {l : List α} (h : l.length = 3) : ∃ a b c, l = [a, b, c] := by
  match l, h with
  | [a, b, c], _ => exact ⟨a, b, c, rfl⟩
theorem dpA_three {K : PySem.W.Frag} {H : Hp} {ys : List V} {q0 q1 q2 : PyData} (h : DpAll K H ys [q0, q1, q2]) : ∃ y0 y1 y2, ys = [y0, y1, y2] ∧ Dp K H y0 q0 ∧ Dp K H y1 q1 ∧ Dp K H y2 q2 := by
  cases h with
  | cons a b =>
    obtain ⟨y1, y2, rfl, h1, h2⟩ := dpA_two b
    exact ⟨_, _, _, rfl, a, h1, h2⟩
theorem jobB_len {n : Nat} {ps : List Int} {d : PyData} {qs : List PyData} (e : seqD d = some qs) (l : qs.length ≠ 3) : jobB n ps d = some false := by
  unfold jobB
  rw [e]
  match qs, l with
  | [], _ => rfl
  | [_], _ => rfl
  | [_, _], _ => rfl
  | _ :: _ :: _ :: _ :: _, _ => rfl
theorem jobB_pos {n : Nat} {ps : List Int} {d a b c : PyData} (e : seqD d = some [a, b, c]) (h : (posD a && posD b) = false) : jobB n ps d = some false := by
  unfold jobB
  rw [e]
  show (if (posD a && posD b) = true then _ else _) = _
  rw [h]
  rfl
theorem pos_int {d : PyData} (h : posD d = true) : ∃ i, d = .int i := by
  cases d with
  | int i => exact ⟨i, rfl⟩
  | _ => cases h
theorem jobB_in {n : Nat} {ps : List Int} {d b c : PyData} {i : Int} (e : seqD d = some [.int i, b, c]) (h1 : posD (.int i) = true) (h2 : posD b = true) : jobB n ps d = if i ∈ ps then some false else jb n c [] := by
  unfold jobB
  rw [e]
  show (if (posD (.int i) && posD b) = true then _ else _) = _
  rw [h1, h2]
  rfl
theorem inV_ints (i : Int) (ps : List Int) : inV (.int i) (ps.map V.int) = decide (i ∈ ps) := by
  induction ps with
  | nil => rfl
  | cons p r ih =>
    unfold inV at ih ⊢
    rw [List.map_cons, List.any_cons, ih]
    show (eqV (.int p) (.int i) || decide (i ∈ r)) = _
    by_cases e : p = i
    · have z : eqV (.int p) (.int i) = true := by subst e; exact beq_iff_eq.mpr rfl
      rw [z, Bool.true_or]
      exact (decide_eq_true (List.mem_cons.mpr (.inl e.symm))).symm
    · have z : eqV (.int p) (.int i) = false := by exact beq_eq_false_iff_ne.mpr e
      rw [z, Bool.false_or]
      by_cases m : i ∈ r
      · rw [decide_eq_true m, decide_eq_true (List.mem_cons_of_mem _ m)]
      · rw [decide_eq_false m, decide_eq_false fun q => (List.mem_cons.mp q).elim (fun z => e z.symm) m]
theorem ints_flat (ws : List Int) : (ws.map V.int).all flatV = true := by
  rw [List.all_map]
  exact List.all_eq_true.mpr fun _ _ => rfl
section
variable {P : Program} {w : World} {K : PySem.W.Frag} {mg : Str → Option Value} {base : Heap} {f C CN : Addr} {fd : FuncData}
theorem scIsJob : FnScope ["thing", "priorities"] ["thing", "priorities"] (defScope sIsJob) := ⟨rfl, rfl, rfl, by decide +kernel, rfl, by decide +kernel, by decide +kernel⟩
theorem ok_is_job (F : FnP K "is_job" sIsJob f fd) {n : Nat} (FL : Has P w K mg base "is_list" 1 ["thing"] (spIsList K)) (FP : Has P w K mg base "is_positive" 2 ["thing"] (spIsPos K)) (FJ : Has P w K mg base "is_job_body" (n + 3) ["thing", "within"] (spJobBody K n)) (gn : mg "len" = none) :
    FnOk P w K mg base CX0 (n + 4) f fd ["thing", "priorities"] (spIsJob K n) := by
  refine F.ok scIsJob (fun vs H Q E h => ?_) (fun cdv A outer s H vs Q E hr h => ?_)
  · obtain ⟨v, pm, ps, r, rfl, _⟩ := h
    rfl
  · have hu := hu_of hr
    refine ⟨_, PSs.nox (pss_cons (ps_if (PW.pt (pw_or (pt_not (pt_val (pe_has FL hr (by omega) rfl (pa_cons (pv 0) pa_nil)))) (pw_or (pt_cmp (pc_neI (pe_callB call_len rfl gn boot_len (pa_cons (pv 0) pa_nil)) pe_int)) (pw_or (pt_not (pt_val (pe_has FP hr (by omega) rfl (pa_cons (pe_ix ix_sq (pv 0) pe_int (fun _ _ => rfl)) pa_nil)))) (pw_or1 (pt_not (pt_val (pe_has FP hr (by omega) rfl (pa_cons (pe_ix ix_sq (pv 0) pe_int (fun _ _ => rfl)) pa_nil))))))))) (pss_one (ps_ret pe_bl)) pss_nil)
      (pss_one (ps_ret (pe_and (pe_cmpR op_notIn_seq (pe_ix ix_sq (pv 0) pe_int (fun _ _ => rfl)) (pv 1) (by with_unfolding_all rfl)) (pe_one (pe_has FJ hr (by omega) rfl (pa_cons (pe_ix ix_sq (pv 0) pe_int (fun _ _ => rfl)) (pa_cons (pe_tup pa_nil) pa_nil)))))))), ?_⟩
    obtain ⟨v, pm, ps, r, rfl, hp, nl, hd, hQ⟩ := h
    rcases hd with ⟨T, kd, lt, rfl⟩ | ⟨d, hd, sh, hj⟩
    · refine ⟨v, rfl, v, T, rfl, kd, fun H1 x1 => ⟨_, rfl, ?_⟩⟩
      rw [lt]
      exact hQ H1 x1
    · refine ⟨v, rfl, v, nameD d, rfl, dp_kd hd sh, fun H1 x1 => ⟨_, rfl, ?_⟩⟩
      rw [isLt_name]
      cases e : seqD d with
      | none =>
        have e2 : jobB n ps d = some false := by unfold jobB; rw [e]
        rw [e2] at hj
        cases hj
        exact hQ H1 x1
      | some ds =>
        obtain ⟨a, xs, rfl, sq, da⟩ := dp_seq hd e
        have sq1 := sq_ex x1 sq
        have xl : xs.length = ds.length := dpA_len da
        have sa := sh_seq sh e
        refine ⟨.ref a, rfl, .ref a, xs.length, rfl, len_sq sq1, _, _, rfl, rfl, ?_⟩
        by_cases l3 : ds.length = 3
        · obtain ⟨q0, q1, q2, rfl⟩ := three_of l3
          obtain ⟨y0, y1, y2, rfl, d0, d1, d2⟩ := dpA_three da
          have s0 : shD q0 = true := shA_get (i := 0) sa rfl
          have s1 : shD q1 = true := shA_get (i := 1) sa rfl
          have s2 : shD q2 = true := shA_get (i := 2) sa rfl
          refine ⟨false, rfl, .ref a, rfl, a, _, 0, y0, rfl, rfl, sq1, at_nat (k := 0) rfl, y0, nameD q0, rfl, dp_kd (Dp.ex x1 _ _ d0) s0, posV y0, rfl, ?_⟩
          rw [dp_pos d0]
          cases p0 : posD q0 with
          | false =>
            rw [jobB_pos e (by rw [p0]; rfl)] at hj
            cases hj
            exact hQ H1 x1
          | true =>
            refine ⟨.ref a, rfl, a, _, 1, y1, rfl, rfl, sq1, at_nat (k := 1) rfl, y1, nameD q1, rfl, dp_kd (Dp.ex x1 _ _ d1) s1, posV y1, rfl, ?_⟩
            rw [dp_pos d1]
            cases p1 : posD q1 with
            | false =>
              rw [jobB_pos e (by rw [p0, p1]; rfl)] at hj
              cases hj
              exact hQ H1 x1
            | true =>
              obtain ⟨i, rfl⟩ := pos_int p0
              cases d0
              rw [jobB_in e p0 p1] at hj
              refine ⟨.ref a, rfl, a, _, 0, .int i, rfl, rfl, sq1, at_nat (k := 0) rfl, .ref pm, rfl, pm, ps.map V.int, rfl, .inl (.inl (.inl (x1 _ _ hp))), rfl, ints_flat ps, !inV (.int i) (ps.map V.int), rfl, ?_⟩
              rw [inV_ints]
              by_cases m : i ∈ ps
              · rw [if_pos m] at hj
                cases hj
                rw [decide_eq_true m]
                exact hQ H1 x1
              · rw [if_neg m] at hj
                rw [decide_eq_false m]
                refine ⟨.ref a, rfl, a, _, 2, y2, rfl, rfl, sq1, at_nat (k := 2) rfl, by show 0 ≤ sizeLine; decide, fun t nt => ?_⟩
                have x2 := Ex.new (o := .tup []) nt
                exact ⟨y2, q2, t, [], r, rfl, Dp.ex (x1.trans x2) _ _ d2, s2, .inl (.inl upd_same), by show 0 + n ≤ 100; omega, hj, fun H3 x3 => hQ H3 (x1.trans (x2.trans x3))⟩
        · rw [jobB_len e l3] at hj
          cases hj
          exact ⟨true, congrArg V.bl (by rw [xl]; simp; omega), hQ H1 x1⟩
end
end TH

/-! J4: bodies, body_kept -/
namespace TH
open PySem PySem.Spec PyProof.Rows L2 LamV LamX XK0
open C8 (pss_cut tCut)
inductive Bd where
  | nil
  | unit (n : Nat) (r : Bd)
  | lock (w : Str) (b r : Bd)
namespace Bd
def dep : Bd → Nat
  | nil => 0
  | unit _ r => dep r
  | lock _ b r => max (dep b + 1) (dep r)
def len : Bd → Nat
  | nil => 0
  | unit _ r => len r + 1
  | lock _ _ r => len r + 1
/-- the greatest length within -/
def wid : Bd → Nat
  | nil => 0
  | unit _ r => max (len r + 1) (wid r)
  | lock _ b r => max (len r + 1) (max (wid b) (wid r))
def parts : Bd → List (Nat ⊕ (Str × Bd))
  | nil => []
  | unit n r => .inl n :: parts r
  | lock w b r => .inr (w, b) :: parts r
def cost : Bd → Nat
  | nil => 0
  | unit n r => n + cost r
  | lock _ b r => cost b + cost r
def things : Bd → List Str
  | nil => []
  | unit _ r => things r
  | lock w b r => w :: (things b ++ things r)
/-- right parts, within locks ws -/
def ok : Bd → List Str → Prop
  | nil, _ => True
  | unit n r, ws => 1 ≤ n ∧ ok r ws
  | lock w b r, ws => okS w = true ∧ w ∉ ws ∧ b ≠ nil ∧ ok b (ws ++ [w]) ∧ ok r ws
def pos : Bd → Prop
  | nil => True
  | unit n r => 1 ≤ n ∧ pos r
  | lock _ b r => pos b ∧ pos r
theorem ok_pos : ∀ {b : Bd} {ws : List Str}, ok b ws → pos b
  | nil, _, _ => trivial
  | unit _ _, _, h => ⟨h.1, ok_pos h.2⟩
  | lock _ _ _, _, h => ⟨ok_pos h.2.2.2.1, ok_pos h.2.2.2.2⟩
theorem part_unit : ∀ {b : Bd} {n : Nat}, pos b → .inl n ∈ b.parts → 1 ≤ n
  | unit m r, n, h, k => by
    rcases List.mem_cons.mp k with e | k
    · cases e; exact h.1
    · exact part_unit h.2 k
  | lock w b r, n, h, k => by
    rcases List.mem_cons.mp k with e | k
    · cases e
    · exact part_unit h.2 k
theorem part_lock : ∀ {b : Bd} {w : Str} {c : Bd}, pos b → .inr (w, c) ∈ b.parts → c.dep + 1 ≤ b.dep ∧ c.wid ≤ b.wid ∧ pos c
  | unit m r, w, c, h, k => by
    rcases List.mem_cons.mp k with e | k
    · cases e
    · obtain ⟨a, b, d⟩ := part_lock h.2 k
      exact ⟨a, Nat.le_trans b (Nat.le_max_right _ _), d⟩
  | lock v b r, w, c, h, k => by
    rcases List.mem_cons.mp k with e | k
    · cases e
      exact ⟨Nat.le_max_left _ _, Nat.le_trans (Nat.le_max_left _ _) (Nat.le_max_right _ _), h.1⟩
    · obtain ⟨a, b, d⟩ := part_lock h.2 k
      exact ⟨Nat.le_trans a (Nat.le_max_right _ _), Nat.le_trans b (Nat.le_trans (Nat.le_max_right _ _) (Nat.le_max_right _ _)), d⟩
theorem len_wid : ∀ b : Bd, b.len ≤ b.wid
  | nil => Nat.le_refl _
  | unit _ _ => Nat.le_max_left _ _
  | lock _ _ _ => Nat.le_max_left _ _
theorem parts_len : ∀ b : Bd, b.parts.length = b.len
  | nil => rfl
  | unit _ r => congrArg (· + 1) (parts_len r)
  | lock _ _ r => congrArg (· + 1) (parts_len r)
end Bd
/-- data like the body: lists or tuples -/
def Like : Bd → List PyData → Prop
  | .nil, ds => ds = []
  | .unit n r, ds => ∃ t, ds = .int n :: t ∧ Like r t
  | .lock w b r, ds => ∃ p x qs t, ds = p :: t ∧ seqD p = some [.str w, x] ∧ seqD x = some qs ∧ Like b qs ∧ Like r t
def LikeP : Nat ⊕ (Str × Bd) → PyData → Prop
  | .inl n, d => d = .int n
  | .inr (w, b), d => ∃ x qs, seqD d = some [.str w, x] ∧ seqD x = some qs ∧ Like b qs
theorem like_parts : ∀ {b : Bd} {ds : List PyData}, Like b ds → Paired LikeP b.parts ds
  | .nil, _, h => by cases h; exact .nil
  | .unit n r, _, ⟨t, e, h⟩ => by subst e; exact .cons rfl (like_parts h)
  | .lock w b r, _, ⟨p, x, qs, t, e, h1, h2, h3, h4⟩ => by subst e; exact .cons ⟨x, qs, h1, h2, h3⟩ (like_parts h4)
/-- the body as it is kept: tuples -/
def CanB (H : Hp) : Bd → List V → Prop
  | .nil, xs => xs = []
  | .unit n r, xs => ∃ t, xs = .int n :: t ∧ CanB H r t
  | .lock w b r, xs => ∃ p q ys t, xs = .ref p :: t ∧ H p = some (.tup [.str w, .ref q]) ∧ H q = some (.tup ys) ∧ CanB H b ys ∧ CanB H r t
def CanP (H : Hp) : Nat ⊕ (Str × Bd) → V → Prop
  | .inl n, v => v = .int n
  | .inr (w, b), v => ∃ p q ys, v = .ref p ∧ H p = some (.tup [.str w, .ref q]) ∧ H q = some (.tup ys) ∧ CanB H b ys
theorem can_parts {H : Hp} : ∀ {b : Bd} {xs : List V}, CanB H b xs → Paired (CanP H) b.parts xs
  | .nil, _, h => by cases h; exact .nil
  | .unit n r, _, ⟨t, e, h⟩ => by subst e; exact .cons rfl (can_parts h)
  | .lock w b r, _, ⟨p, q, ys, t, e, h1, h2, h3, h4⟩ => by subst e; exact .cons ⟨p, q, ys, rfl, h1, h2, h3⟩ (can_parts h4)
theorem can_of {H : Hp} : ∀ {b : Bd} {xs : List V}, Paired (CanP H) b.parts xs → CanB H b xs
  | .nil, [], _ => rfl
  | .unit n r, _ :: t, .cons h k => ⟨t, by rw [show _ = V.int n from h], can_of k⟩
  | .lock w b r, _ :: t, .cons h k => by
    obtain ⟨p, q, ys, e, h1, h2, h3⟩ := h
    subst e
    exact ⟨p, q, ys, t, rfl, h1, h2, h3, can_of k⟩
/-- tuples stay -/
def KeepT (H H' : Hp) : Prop := ∀ a xs, H a = some (.tup xs) → H' a = some (.tup xs)
theorem Ex.kt {H H' : Hp} (x : Ex H H') : KeepT H H' := fun a xs e => x _ _ e
theorem CanB.kt {H H' : Hp} (x : KeepT H H') : ∀ {b : Bd} {xs : List V}, CanB H b xs → CanB H' b xs
  | .nil, _, h => h
  | .unit n r, _, ⟨t, e, h⟩ => ⟨t, e, CanB.kt x h⟩
  | .lock w b r, _, ⟨p, q, ys, t, e, h1, h2, h3, h4⟩ => ⟨p, q, ys, t, e, x _ _ h1, x _ _ h2, CanB.kt x h3, CanB.kt x h4⟩
theorem CanP.kt {H H' : Hp} (x : KeepT H H') : ∀ {p : Nat ⊕ (Str × Bd)} {v : V}, CanP H p v → CanP H' p v
  | .inl n, _, h => h
  | .inr (w, b), _, ⟨p, q, ys, e, h1, h2, h3⟩ => ⟨p, q, ys, e, x _ _ h1, x _ _ h2, h3.kt x⟩
def bdL : Bd → List PyData
  | .nil => []
  | .unit n r => .int n :: bdL r
  | .lock w b r => .tuple [.str w, .tuple (bdL b)] :: bdL r
theorem can_dp {K : PySem.W.Frag} {H : Hp} : ∀ {b : Bd} {xs : List V}, CanB H b xs → DpAll K H xs (bdL b)
  | .nil, _, h => by cases h; exact .nil
  | .unit n r, _, ⟨t, e, h⟩ => by subst e; exact .cons (.int _) (can_dp h)
  | .lock w b r, _, ⟨p, q, ys, t, e, h1, h2, h3, h4⟩ => by
    subst e
    exact .cons (.tup (.inl (.inl h1)) (.cons (.str w) (.cons (.tup (.inl (.inl h2)) (can_dp h3)) .nil))) (can_dp h4)
/-- body_kept -/
def spKept (K : PySem.W.Frag) (n : Nat) : Sp := fun vs H Q _ => ∃ (v : V) (d : PyData) (qs : List PyData) (b : Bd), vs = [v] ∧ Dp K H v d ∧ shD d = true ∧ seqD d = some qs ∧ Like b qs ∧ b.dep < n ∧ b.wid ≤ 100 ∧ b.pos ∧ ∀ (p : Addr) (xs : List V) (H' : Hp), Ex H H' → H' p = some (.tup xs) → CanB H' b xs → Q (.ref p) H'
theorem ret_one {te : TE} {D : Ends} {σ : L2.St} {H : Hp} (h : te σ H D.rt) : tRet te D σ H := h
theorem cb_one {r : List V → Hp → VK → Prop} {ta : TA} {σ : L2.St} {H : Hp} {Q : VK} (h : ta σ H fun vs H1 => r vs H1 Q) : tCB r ta σ H Q := h
theorem lst_one {ta : TA} {σ : L2.St} {H : Hp} {Q : VK} (h : ta σ H fun xs H1 => xs.length ≤ sizeLine ∧ ∀ p, H1 p = none → Q (.ref p) (upd H1 p (.lst xs))) : tLst ta σ H Q := h
theorem cons_one {te : TE} {tr : TA} {σ : L2.St} {H : Hp} {Q : List V → Hp → Prop} (h : te σ H fun x H1 => tr σ H1 fun xs H2 => Q (x :: xs) H2) : tCons te tr σ H Q := h
theorem op_one {r : R2} {ta tb : TE} {σ : L2.St} {H : Hp} {Q : VK} (h : ta σ H fun x H1 => tb σ H1 fun y H2 => r x y H2 Q) : tOp r ta tb σ H Q := h
theorem paired_left {α β : Type} {R : α → β → Prop} {l : List α} {r : List β} (p : Paired R l r) : ∀ {i : Nat} {y : β}, r[i]? = some y → ∃ x, l[i]? = some x ∧ R x y := fun e => paired_get p e
theorem lc_sq {K : PySem.W.Frag} {j : Nat} {a : Addr} {xs : List V} {g : TG} {tt : TT} {te : TE} {vs : List Nat} {σ : L2.St} {H : Hp} {Q : VK} (hj : σ[j]? = some (some (.ref a))) (sq : Sq K H a xs) (Pv : Addr → Nat → Hp → Prop) (h0 : ∀ D, H D = none → Pv D 0 (upd H D (.lst []))) (hE : ∀ D i H', Pv D i H' → Ex H H')
    (hs : ∀ D i x H', H D = none → xs[i]? = some x → Pv D i H' → g x (wipe σ vs) H' fun σ2 H2 => wipe σ2 vs = wipe σ vs ∧ tt σ2 H2 fun b H3 => if b = true then te σ2 H3 fun y H4 => ∃ acc, H4 D = some (.lst acc) ∧ acc.length < sizeLine ∧ Pv D (i + 1) (upd H4 D (.lst (acc ++ [y]))) else Pv D (i + 1) H3)
    (hd : ∀ D H', H D = none → Pv D xs.length H' → Q (.ref D) H') : tLc (iSq K (tVar j)) g tt te vs σ H Q := by
  rcases sq with sq | sq
  · exact .inl ⟨.ref a, hj, a, rfl, ⟨_, sq⟩, fun D nD => lc_it walk_list (Pv D) (h0 D nD) (fun i H' _ p => (hE D i H' p).sqL sq) (fun i x H1 H2 _ p y => by obtain ⟨rfl, e⟩ := y; exact hs D i x _ nD e p) fun H' p => hd D H' nD p⟩
  · exact .inr ⟨.ref a, hj, a, rfl, ⟨_, sq⟩, fun D nD => lc_it walk_tup (Pv D) (h0 D nD) (fun i H' _ p => (hE D i H' p).sqT sq) (fun i x H1 H2 _ p y => by obtain ⟨rfl, e⟩ := y; exact hs D i x _ nD e p) fun H' p => hd D H' nD p⟩
section
variable {P : Program} {w : World} {K : PySem.W.Frag} {mg : Str → Option Value} {base : Heap} {f C CN : Addr} {fd : FuncData}
theorem scKept : FnScope ["body", "part"] ["body"] (defScope sKept) := ⟨rfl, rfl, rfl, by decide +kernel, rfl, by decide +kernel, by decide +kernel⟩
theorem ok_kept (F : FnP K "body_kept" sKept f fd) (gJ : mg "body_kept" = some (.ref f)) (bJ : Binds K fd ["body"] []) (FP : Has P w K mg base "is_positive" 2 ["thing"] (spIsPos K)) (gt : mg "tuple" = none) :
    ∀ n, FnOk P w K mg base CX0 (n + 3) f fd ["body"] (spKept K n)
  | 0 => by
    refine F.ok scKept (fun vs H Q E h => ?_) (fun cdv A outer s H vs Q E hr h => ?_)
    · obtain ⟨v, d, qs, b, rfl, _⟩ := h
      rfl
    · obtain ⟨v, d, qs, b, _, _, _, _, _, h, _⟩ := h
      exact absurd h (Nat.not_lt_zero _)
  | n + 1 => by
    have FJ : Has P w K mg base "body_kept" (n + 3) ["body"] (spKept K n) := ⟨f, fd, gJ, F.kp, bJ, ok_kept F gJ bJ FP gt n⟩
    refine F.ok scKept (fun vs H Q E h => ?_) (fun cdv A outer s H vs Q E hr h => ?_)
    · obtain ⟨v, d, qs, b, rfl, _⟩ := h
      rfl
    · have hu := hu_of hr
      refine ⟨_, PSs.nox (pss_one (ps_ret (pe_callTy call_tuple_of rfl gt boot_tuple (pa_cons (pe_lc (te := tIf (tB (tCall (spIsPos K) [] E0 (tCons (tVar 1) tNil))) (tVar 1) (tTup (tCons (tOp (rIxQ K) (tVar 1) (tC (.int 0))) (tCons (tCall (spKept K n) [] E0 (tCons (tOp (rIxQ K) (tVar 1) (tC (.int 1))) tNil)) tNil)))) (own := [("part", 1)]) rfl scKept.nd (pi_or (pi_list (pv 0)) (pi_tup (pv 0))) (blkOk_by (by kernel_rfl)) (fun s H C cl fp => pg_name (i := 1) scKept.nd rfl (.inl rfl) (.inr rfl)) (fun s H C cl fp => pts_nil)
        (fun s H C cl fp => pe_ifExp (pt_val (pe_has FP hr (by omega) rfl (pa_cons (pv 1) pa_nil))) (pv 1) (pe_tup (pa_cons (pe_ix ix_sq (pv 1) pe_int (fun _ _ => rfl)) (pa_cons (pe_has FJ hr (by omega) rfl (pa_cons (pe_ix ix_sq (pv 1) pe_int (fun _ _ => rfl)) pa_nil)) pa_nil))))) pa_nil)))), ?_⟩
      obtain ⟨v, d, qs, b, rfl, hd, sh, e, lk, dp, wd, po, hQ⟩ := h
      obtain ⟨a, xs, rfl, sq, da⟩ := dp_seq hd e
      have sa := sh_seq sh e
      have xl : xs.length = qs.length := dpA_len da
      have pr := like_parts lk
      have pl : b.parts.length = qs.length := Paired.length pr
      have bl : b.parts.length ≤ 100 := by rw [Bd.parts_len]; exact Nat.le_trans (Bd.len_wid b) wd
      refine ret_one (cb_one (cons_one ?_))
      refine lc_sq (K := K) (xs := xs) rfl sq (fun D i H2 => Ex H H2 ∧ ∃ acc, H2 D = some (.lst acc) ∧ Paired (CanP H2) (b.parts.take i) acc) (fun D nD => ⟨Ex.new nD, [], upd_same, .nil⟩) (fun D i H' h => h.1) (fun D i x H' nD ex h => ?_) fun D H' nD h => ?_
      · obtain ⟨x2, acc, hD, pc⟩ := h
        obtain ⟨dd, ed, dp2⟩ := dpA_get da ex
        obtain ⟨pt, ep, lp⟩ := paired_get pr ed
        have dp3 := Dp.ex x2 _ _ dp2
        have al : acc.length ≤ 100 := by
          have := Paired.length pc
          rw [List.length_take] at this
          omega
        have shp := shA_get sa ed
        have mp := List.mem_of_getElem? ep
        refine ⟨rfl, x, rfl, x, nameD dd, rfl, dp_kd dp3 shp, posV x, rfl, ?_⟩
        rw [dp_pos dp3]
        have fin : ∀ (y : V) (H4 : Hp), Ex H' H4 → CanP H4 pt y → ∃ acc2, H4 D = some (.lst acc2) ∧ acc2.length < sizeLine ∧ (Ex H (upd H4 D (.lst (acc2 ++ [y]))) ∧ ∃ acc, upd H4 D (.lst (acc2 ++ [y])) D = some (.lst acc) ∧ Paired (CanP (upd H4 D (.lst (acc2 ++ [y])))) (b.parts.take (i + 1)) acc) := fun y H4 x4 cy => by
          have hD4 := x4 _ _ hD
          have kt : KeepT H4 (upd H4 D (.lst (acc ++ [y]))) := fun c zs e => (upd_ne fun z => by rw [z, hD4] at e; cases e).trans e
          refine ⟨acc, hD4, by rw [sizeLine_eq]; omega, fun c o e => (upd_ne fun z => by rw [z, nD] at e; cases e).trans (x4 _ _ (x2 _ _ e)), acc ++ [y], upd_same, ?_⟩
          rw [List.take_add_one, ep]
          exact paired_app (Paired.mapP pc fun _ _ z => (z.kt x4.kt).kt kt) (cy.kt kt)
        cases pt with
        | inl m =>
          have ed2 : dd = .int m := lp
          subst ed2
          cases dp3
          have m1 := Bd.part_unit po mp
          have e1 : posD (.int m) = true := decide_eq_true (by omega)
          rw [e1]
          exact ⟨.int m, rfl, fin _ H' Ex.refl rfl⟩
        | inr wc =>
          obtain ⟨w1, c⟩ := wc
          obtain ⟨q1, qs1, e1, e2, lk1⟩ := lp
          have np : posD dd = false := by cases dd <;> first | rfl | cases e1
          rw [np]
          obtain ⟨bb, ys, rfl, sqb, db⟩ := dp_seq dp3 e1
          obtain ⟨y0, y1, rfl, d0, d1⟩ := dpA_two db
          cases d0
          obtain ⟨k1, k2, k3⟩ := Bd.part_lock po mp
          have s1 : shD q1 = true := shA_get (i := 1) (sh_seq shp e1) rfl
          refine ⟨.ref bb, rfl, bb, _, 0, .str w1, rfl, rfl, sqb, at_nat (k := 0) rfl, .ref bb, rfl, bb, _, 1, y1, rfl, rfl, sqb, at_nat (k := 1) rfl, y1, q1, qs1, c, rfl, d1, s1, e2, lk1, by omega, by omega, k3, fun p zs H3 x3 hp cb => ⟨by show 2 ≤ sizeLine; decide, fun t nt => ?_⟩⟩
          have x4 := Ex.new (o := .tup [.str w1, .ref p]) nt
          exact fin (.ref t) _ (x3.trans x4) ⟨t, p, zs, rfl, upd_same, x4 _ _ hp, cb.kt x4.kt⟩
      · obtain ⟨x2, acc, hD, pc⟩ := h
        rw [xl, ← pl, List.take_length] at pc
        refine ⟨D, acc, rfl, .inl ⟨.inl (.inl hD), fun l nl => ?_⟩⟩
        have x3 := Ex.new (o := .tup acc) nl
        exact hQ l acc _ (x2.trans x3) upd_same ((can_of pc).kt x3.kt)
end
end TH

/-! J5: spans_of -/
namespace TH
open PySem PySem.Spec PyProof.Rows L2 LamV LamX XK0
open C8 (pss_cut tCut)
abbrev sSpans : Stmt := top 19
def pcost : Nat ⊕ (Str × Bd) → Nat
  | .inl n => n
  | .inr (_, c) => c.cost
def pthings : Nat ⊕ (Str × Bd) → List Str
  | .inl _ => []
  | .inr (w, c) => w :: c.things
def costs : List (Nat ⊕ (Str × Bd)) → Nat
  | [] => 0
  | p :: r => pcost p + costs r
def thingsL : List (Nat ⊕ (Str × Bd)) → List Str
  | [] => []
  | p :: r => pthings p ++ thingsL r
theorem costs_app : ∀ a b, costs (a ++ b) = costs a + costs b
  | [], b => (Nat.zero_add _).symm
  | p :: r, b => by
    show pcost p + costs (r ++ b) = pcost p + costs r + costs b
    rw [costs_app r b]
    omega
theorem thingsL_app : ∀ a b, thingsL (a ++ b) = thingsL a ++ thingsL b
  | [], b => rfl
  | p :: r, b => by
    show pthings p ++ thingsL (r ++ b) = (pthings p ++ thingsL r) ++ thingsL b
    rw [thingsL_app r b, List.append_assoc]
theorem cost_parts : ∀ b : Bd, costs b.parts = b.cost
  | .nil => rfl
  | .unit n r => by show n + costs r.parts = n + r.cost; rw [cost_parts r]
  | .lock w b r => by show b.cost + costs r.parts = b.cost + r.cost; rw [cost_parts r]
theorem things_parts : ∀ b : Bd, thingsL b.parts = b.things
  | .nil => rfl
  | .unit n r => by show [] ++ thingsL r.parts = r.things; rw [things_parts r]; rfl
  | .lock w b r => by show (w :: b.things) ++ thingsL r.parts = w :: (b.things ++ r.things); rw [things_parts r]; rfl
theorem thingsL_take (l : List (Nat ⊕ (Str × Bd))) (i : Nat) : (thingsL (l.take i)).length ≤ (thingsL l).length := by
  have e := thingsL_app (l.take i) (l.drop i)
  rw [List.take_append_drop] at e
  rw [e, List.length_append]
  omega
theorem part_things {b : Bd} {w : Str} {c : Bd} (h : .inr (w, c) ∈ b.parts) : c.things.length ≤ b.things.length := by
  rw [← things_parts b]
  obtain ⟨i, hi⟩ := List.mem_iff_getElem?.mp h
  have e := thingsL_app (b.parts.take i) (b.parts.drop i)
  rw [List.take_append_drop, drop_cons hi] at e
  rw [e, List.length_append]
  show _ ≤ _ + ((w :: c.things) ++ _).length
  rw [List.length_append, List.length_cons]
  omega
def SpanA (H : Hp) (a : Addr) (w : Str) : Prop := ∃ x y z, H a = some (.tup [x, .str w, y, z])
def spSpans (K : PySem.W.Frag) (n : Nat) : Sp := fun vs H Q _ => ∃ (a pt : Addr) (xs pp : List V) (b : Bd) (at0 : Int), vs = [.ref a, .ref pt, .int at0] ∧ H a = some (.tup xs) ∧ CanB H b xs ∧ SqT K H pt pp ∧ pp.length + n ≤ 100 ∧ b.dep < n ∧ b.wid ≤ 100 ∧ b.pos ∧ b.things.length ≤ 1000 ∧
  ∀ (t fo : Addr) (ps : List Addr) (H' : Hp), Ex H H' → H' t = some (.tup [.ref fo, .int (at0 + b.cost)]) → H' fo = some (.lst (ps.map V.ref)) → Paired (SpanA H') ps b.things → Q (.ref t) H'
section
variable {P : Program} {w : World} {K : PySem.W.Frag} {mg : Str → Option Value} {base : Heap} {f C CN : Addr} {fd : FuncData}
theorem scSpans : FnScope ["body", "path", "begin", "found", "at", "number", "part", "here", "inner", "end"] ["body", "path", "begin"] (defScope sSpans) := ⟨rfl, rfl, rfl, by decide +kernel, rfl, by decide +kernel, by decide +kernel⟩
theorem ok_spans (F : FnP K "spans_of" sSpans f fd) (gJ : mg "spans_of" = some (.ref f)) (bJ : Binds K fd ["body", "path", "begin"] []) (FP : Has P w K mg base "is_positive" 2 ["thing"] (spIsPos K)) (ge : mg "enumerate" = none) :
    ∀ n, FnOk P w K mg base CX0 (n + 3) f fd ["body", "path", "begin"] (spSpans K n)
  | 0 => by
    refine F.ok scSpans (fun vs H Q E h => ?_) (fun cdv A outer s H vs Q E hr h => ?_)
    · obtain ⟨a, pt, xs, pp, b, at0, rfl, _⟩ := h
      rfl
    · obtain ⟨a, pt, xs, pp, b, at0, _, _, _, _, _, h, _⟩ := h
      exact absurd h (Nat.not_lt_zero _)
  | n + 1 => by
    have FJ : Has P w K mg base "spans_of" (n + 3) ["body", "path", "begin"] (spSpans K n) := ⟨f, fd, gJ, F.kp, bJ, ok_spans F gJ bJ FP ge n⟩
    refine F.ok scSpans (fun vs H Q E h => ?_) (fun cdv A outer s H vs Q E hr h => ?_)
    · obtain ⟨a, pt, xs, pp, b, at0, rfl, _⟩ := h
      rfl
    · have hu := hu_of hr
      refine ⟨_, PSs.nox (pss_cons (ps_par (i := 3) (j := 4) rfl scSpans.nd rfl rfl (by decide) rfl rfl (pa_cons (pe_lst pa_nil) (pa_cons (pv 2) pa_nil)) rfl)
        (pss_cons (ps_for PassesOwn.never rfl (pi_enumT rfl ge (pa_cons (pv 0) pa_nil)) (pg_tup rfl (pgs_cons (pg_name (i := 5) scSpans.nd rfl (.inl rfl)) (pgs_cons (pg_name (i := 6) scSpans.nd rfl (.inl rfl)) pgs_nil)))
          (pss_cut (ps_set (i := 7) scSpans.nd rfl (.inl rfl) (pe_op op_catA (pv 1) (pe_tup (pa_cons (pv 5) pa_nil))))
          (pss_one (ps_if (pt_val (pe_has FP hr (by omega) rfl (pa_cons (pv 6) pa_nil)))
            (pss_one (ps_set (i := 4) scSpans.nd rfl (.inl rfl) (pe_op op_add (pv 4) (pv 6))))
            (pss_cut (ps_asg (pe_has FJ hr (by omega) rfl (pa_cons (pe_ix ix_tup (pv 6) pe_int (fun _ _ => rfl)) (pa_cons (pv 7) (pa_cons (pv 4) pa_nil)))) (pg_tup rfl (pgs_cons (pg_name (i := 8) scSpans.nd rfl (.inl rfl)) (pgs_cons (pg_name (i := 9) scSpans.nd rfl (.inl rfl)) pgs_nil))))
            (pss_cut (ps_set (i := 3) scSpans.nd rfl (.inl rfl) (pe_op op_cat (pe_op op_cat (pv 3) (pe_lst (pa_cons (pe_tup (pa_cons (pv 7) (pa_cons (pe_ix ix_tup (pv 6) pe_int (fun _ _ => rfl)) (pa_cons (pv 4) (pa_cons (pv 9) pa_nil))))) pa_nil))) (pv 8)))
            (pss_one (ps_set (i := 4) scSpans.nd rfl (.inl rfl) (pv 9)))))))))
        (pss_one (ps_ret (pe_tup (pa_cons (pv 3) (pa_cons (pv 4) pa_nil))))))), ?_⟩
      obtain ⟨a, pt, xs, pp, b, at0, rfl, ha, cb, hp, pl, dp, wd, po, tl, hQ⟩ := h
      have pr := can_parts cb
      have xl : b.parts.length = xs.length := Paired.length pr
      have s2 : 2 ≤ sizeLine := by decide
      have bl : b.parts.length ≤ 100 := by rw [Bd.parts_len]; exact Nat.le_trans (Bd.len_wid b) wd
      have tll : (thingsL b.parts).length ≤ 1000 := by rw [things_parts]; exact tl
      refine ⟨Nat.zero_le _, fun f0 nf0 => ⟨.int at0, rfl, _, _, rfl, ?_⟩⟩
      have x1 := Ex.new (o := .lst []) nf0
      have hf0 : upd H f0 (.lst []) f0 = some (.lst []) := upd_same
      generalize upd H f0 (.lst []) = H1 at x1 hf0 ⊢
      refine ⟨.ref a, rfl, a, xs, H1, rfl, Ex.refl, .inr (.inl (.inl (x1 _ _ ha))), fun J ⟨G, W, gs⟩ => for_it W (fun i σ H2 => ∃ (fo : Addr) (ps : List Addr) (o5 o6 o7 o8 o9 : Option V), σ = [some (.ref a), some (.ref pt), some (.int at0), some (.ref fo), some (.int (at0 + costs (b.parts.take i))), o5, o6, o7, o8, o9] ∧ Ex H1 H2 ∧ H2 fo = some (.lst (ps.map V.ref)) ∧ Paired (SpanA H2) ps (thingsL (b.parts.take i)))
        ⟨f0, [], none, none, none, none, none, by rw [List.take_zero, show at0 + ((costs [] : Nat) : Int) = at0 from Int.add_zero _]; rfl, Ex.refl, hf0, .nil⟩ (fun i σ H2 _ ⟨_, _, _, _, _, _, _, _, x, _⟩ => gs H2 x) (fun i v σ H2 H3 hi h y => ?_) fun σ H2 h => ?_⟩
      · obtain ⟨fo, ps, o5, o6, o7, o8, o9, rfl, x2, hf, pc⟩ := h
        obtain ⟨t, u, x, rfl, nt, rfl, eu, ex⟩ := y
        cases eu
        obtain ⟨pt1, ep, cp⟩ := paired_get pr ex
        have psl := Paired.length pc
        have pl2 := thingsL_take b.parts i
        have xt : Ex H2 (upd H2 t (.tup [.int (i : Nat), x])) := Ex.new nt
        have ht : upd H2 t (.tup [.int (i : Nat), x]) t = some (.tup [.int (i : Nat), x]) := upd_same
        have mp := List.mem_of_getElem? ep
        refine ⟨t, _, rfl, .inl (.inl upd_same), rfl, .int i, [x], rfl, x, [], rfl, rfl, ?_⟩
        have x3 := x2.trans xt
        have hf3 := xt _ _ hf
        have pc3 : Paired (SpanA (upd H2 t (.tup [.int (i : Nat), x]))) ps (thingsL (b.parts.take i)) := Paired.mapP pc fun _ _ ⟨p, q, r, e⟩ => ⟨p, q, r, xt _ _ e⟩
        generalize upd H2 t (.tup [.int (i : Nat), x]) = H3 at x3 hf3 pc3 ⊢
        have hp3 := (x1.trans x3).sqT hp
        have cp3 := cp.kt (x1.trans x3).kt
        -- here
        refine ⟨fun σ' H' => ∃ hp : Addr, σ' = [some (.ref a), some (.ref pt), some (.int at0), some (.ref fo), some (.int (at0 + costs (b.parts.take i))), some (.int i), some x, some (.ref hp), o8, o9] ∧ Ex H3 H' ∧ SqT K H' hp (pp ++ [.int i]), ?_, ?_⟩
        · refine op_one ⟨.ref pt, rfl, .int i, rfl, by show 1 ≤ sizeLine; decide, fun q nq => ?_⟩
          have x4 := Ex.new (o := .tup [.int i]) nq
          have hq : upd H3 q (.tup [.int i]) q = some (.tup [.int i]) := upd_same
          refine ⟨pt, q, pp, [.int i], rfl, rfl, x4.sqT hp3, .inl (.inl hq), by rw [sizeLine_eq]; show pp.length + 1 ≤ _; omega, fun e => ⟨q, rfl, x4, by rw [e]; exact .inl (.inl hq)⟩, fun _ z => (nomatch z), fun _ _ c nc => ?_⟩
          have x5 := Ex.new (o := .tup (pp ++ [.int i])) nc
          exact ⟨c, rfl, x4.trans x5, .inl (.inl upd_same)⟩
        rintro σ4 H4 ⟨hr1, rfl, x4, hh⟩
        have cp4 := cp3.kt x4.kt
        cases pt1 with
        | inl m =>
          have ex2 : x = .int m := cp
          subst ex2
          have m1 := Bd.part_unit po mp
          refine ⟨.int m, rfl, .int m, "int", rfl, int_kd, true, congrArg V.bl (show posV (.int m) = true from decide_eq_true (by omega)), ?_⟩
          refine ⟨.int (at0 + costs (b.parts.take i)), rfl, .int m, rfl, _, _, rfl, rfl, fo, ps, some (.int i), some (.int m), some (.ref hr1), o8, o9, ?_, x3.trans x4, x4 _ _ hf3, ?_⟩
          · rw [List.take_add_one, ep, costs_app]
            show [_, _, _, _, some (V.int (at0 + costs (b.parts.take i) + m)), _, _, _, _, _] = _
            rw [show (at0 + (costs (b.parts.take i) : Int) + (m : Int)) = at0 + ((costs (b.parts.take i) + costs [Sum.inl m] : Nat) : Int) by show _ = at0 + ((costs (b.parts.take i) + (m + 0) : Nat) : Int); push_cast; omega]
            rfl
          · rw [List.take_add_one, ep, thingsL_app]
            show Paired _ ps (thingsL (b.parts.take i) ++ ([] ++ []))
            rw [List.append_nil, List.append_nil]
            exact Paired.mapP pc3 fun _ _ ⟨p, q, r, e⟩ => ⟨p, q, r, x4 _ _ e⟩
        | inr wc =>
          obtain ⟨w1, c⟩ := wc
          obtain ⟨p, q, ys, rfl, h1, h2, h3⟩ := cp4
          obtain ⟨k1, k2, k3⟩ := Bd.part_lock po mp
          have k4 := part_things mp
          refine ⟨.ref p, rfl, .ref p, "tuple", rfl, sqT_kd (.inl (.inl h1)), false, rfl, ?_⟩
          -- inner, end
          refine ⟨fun σ' H' => ∃ (io : Addr) (qs : List Addr), σ' = [some (.ref a), some (.ref pt), some (.int at0), some (.ref fo), some (.int (at0 + costs (b.parts.take i))), some (.int i), some (.ref p), some (.ref hr1), some (.ref io), some (.int (at0 + costs (b.parts.take i) + c.cost))] ∧ Ex H4 H' ∧ H' io = some (.lst (qs.map V.ref)) ∧ Paired (SpanA H') qs c.things, ?_, ?_⟩
          · refine ⟨.ref p, rfl, p, _, 1, .ref q, rfl, rfl, .inl (.inl h1), at_nat (k := 1) rfl, .ref hr1, rfl, .int _, rfl, q, hr1, ys, pp ++ [.int i], c, _, rfl, h2, h3, hh, by rw [List.length_append]; show pp.length + 1 + n ≤ 100; omega, by omega, by omega, k3, by omega, fun t2 io qs H5 x5 ht2 hio pq => ?_⟩
            exact ⟨t2, _, rfl, .inl (.inl ht2), rfl, .ref io, [.int _], rfl, .int _, [], rfl, rfl, io, qs, rfl, x5, hio, pq⟩
          rintro σ5 H5 ⟨io, qs, rfl, x5, hio, pq⟩
          have qsl := Paired.length pq
          -- found
          refine ⟨fun σ' H' => ∃ (fo2 : Addr) (ps2 : List Addr), σ' = [some (.ref a), some (.ref pt), some (.int at0), some (.ref fo2), some (.int (at0 + costs (b.parts.take i))), some (.int i), some (.ref p), some (.ref hr1), some (.ref io), some (.int (at0 + costs (b.parts.take i) + c.cost))] ∧ Ex H5 H' ∧ H' fo2 = some (.lst (ps2.map V.ref)) ∧ Paired (SpanA H') ps2 (thingsL (b.parts.take (i + 1))), ?_, ?_⟩
          · refine op_one ⟨.ref fo, rfl, .ref hr1, rfl, .ref p, rfl, p, _, 0, .str w1, rfl, rfl, .inl (.inl (x5 _ _ h1)), at_nat (k := 0) rfl, .int _, rfl, .int _, rfl, by show 4 ≤ sizeLine; decide, fun sp nsp => ⟨by show 1 ≤ sizeLine; decide, fun l1 nl1 => ?_⟩⟩
            have x6 := Ex.new (o := .tup [.ref hr1, .str w1, .int (at0 + costs (b.parts.take i)), .int (at0 + costs (b.parts.take i) + c.cost)]) nsp
            have hsp : upd H5 sp (.tup [.ref hr1, .str w1, .int (at0 + costs (b.parts.take i)), .int (at0 + costs (b.parts.take i) + c.cost)]) sp = some (.tup [.ref hr1, .str w1, .int (at0 + costs (b.parts.take i)), .int (at0 + costs (b.parts.take i) + c.cost)]) := upd_same
            generalize upd H5 sp (.tup [.ref hr1, .str w1, .int (at0 + costs (b.parts.take i)), .int (at0 + costs (b.parts.take i) + c.cost)]) = H6 at x6 hsp nl1 ⊢
            have x7 := Ex.new (o := .lst [.ref sp]) nl1
            refine ⟨fo, l1, _, _, rfl, rfl, x7 _ _ (x6 _ _ (x5 _ _ (x4 _ _ hf3))), upd_same, by rw [List.length_map, sizeLine_eq]; show ps.length + 1 ≤ _; omega, fun l2 nl2 => ?_⟩
            have x8 := Ex.new (o := .lst (ps.map V.ref ++ [.ref sp])) nl2
            have hl2 : upd (upd H6 l1 (.lst [.ref sp])) l2 (.lst (ps.map V.ref ++ [.ref sp])) l2 = some (.lst (ps.map V.ref ++ [.ref sp])) := upd_same
            have x78 := x7.trans x8
            generalize upd (upd H6 l1 (.lst [.ref sp])) l2 (.lst (ps.map V.ref ++ [.ref sp])) = H8 at x78 hl2 ⊢
            refine ⟨.ref io, rfl, l2, io, _, _, rfl, rfl, hl2, x78 _ _ (x6 _ _ hio), by rw [List.length_append, List.length_map, List.length_map, sizeLine_eq]; show ps.length + 1 + qs.length ≤ _; omega, fun l3 nl3 => ?_⟩
            have x9 := Ex.new (o := .lst (ps.map V.ref ++ [.ref sp] ++ qs.map V.ref)) nl3
            have x69 := x6.trans (x78.trans x9)
            have x49 := x4.trans (x5.trans x69)
            refine ⟨l3, ps ++ [sp] ++ qs, rfl, x69, by rw [upd_same, List.map_append, List.map_append]; rfl, ?_⟩
            rw [List.take_add_one, ep, thingsL_app]
            show Paired _ _ (thingsL (b.parts.take i) ++ ((w1 :: c.things) ++ []))
            rw [List.append_nil]
            have app : ∀ {l1 l2 : List Addr} {m1 m2 : List Str} {R : Addr → Str → Prop}, Paired R l1 m1 → Paired R l2 m2 → Paired R (l1 ++ l2) (m1 ++ m2) := fun a b => by
              induction a with
              | nil => exact b
              | cons x _ ih => exact .cons x ih
            have z1 := Paired.mapP pc3 fun _ _ ⟨p, q, r, e⟩ => (⟨p, q, r, x49 _ _ e⟩ : SpanA _ _ _)
            have z2 : SpanA (upd H8 l3 (.lst (ps.map V.ref ++ [.ref sp] ++ qs.map V.ref))) sp w1 := ⟨_, _, _, (x78.trans x9) _ _ hsp⟩
            have z3 := Paired.mapP pq fun _ _ ⟨p, q, r, e⟩ => (⟨p, q, r, x69 _ _ e⟩ : SpanA _ _ _)
            rw [show ps ++ [sp] ++ qs = ps ++ (sp :: qs) by rw [List.append_assoc]; rfl]
            exact app z1 (.cons z2 z3)
          rintro σ6 H6 ⟨fo2, ps2, rfl, x6, hf6, p6⟩
          refine ⟨.int _, rfl, fo2, ps2, some (.int i), some (.ref p), some (.ref hr1), some (.ref io), some (.int (at0 + costs (b.parts.take i) + c.cost)), ?_, x3.trans (x4.trans (x5.trans x6)), hf6, p6⟩
          rw [List.take_add_one, ep, costs_app]
          show [_, _, _, _, some (V.int (at0 + costs (b.parts.take i) + c.cost)), _, _, _, _, _] = _
          rw [show (at0 + (costs (b.parts.take i) : Int) + (c.cost : Int)) = at0 + ((costs (b.parts.take i) + costs [Sum.inr (w1, c)] : Nat) : Int) by show _ = at0 + ((costs (b.parts.take i) + (c.cost + 0) : Nat) : Int); push_cast; omega]
          rfl
      · obtain ⟨fo, ps, o5, o6, o7, o8, o9, rfl, x2, hf, pc⟩ := h
        rw [← xl, List.take_length] at pc ⊢
        rw [things_parts] at pc
        rw [cost_parts]
        refine ⟨.ref fo, rfl, .int _, rfl, s2, fun t nt => ?_⟩
        have x3 := Ex.new (o := .tup [.ref fo, .int (at0 + b.cost)]) nt
        exact hQ t fo ps _ (x1.trans (x2.trans x3)) upd_same (x3 _ _ hf) (Paired.mapP pc fun _ _ ⟨p, q, r, e⟩ => ⟨p, q, r, x3 _ _ e⟩)
end
end TH

/-! J6: _law_pool, _law_take, _law_one, _law_mixed -/
namespace TH
open PySem PySem.Spec PyProof.Rows L2 LamV LamX XK0
open C8 (pss_cut tCut)
abbrev sPool : Stmt := top 33
abbrev sTakeP : Stmt := top 34
abbrev sOneP : Stmt := top 35
abbrev sMixed : Stmt := top 36
/-- the pool at p: what is left of the great cell, the mixed number, how many were mixed (at most n) -/
def Pool (H : Hp) (p : Addr) (n : Nat) : Prop := ∃ (a m : Int) (j : Nat), H p = some (.lst [.int a, .int m, .int j]) ∧ 0 ≤ a ∧ 0 ≤ m ∧ m < 2147483647 ∧ j ≤ n
theorem Pool.ex {H H' : Hp} {p : Addr} {n : Nat} (x : Ex H H') (h : Pool H p n) : Pool H' p n := by
  obtain ⟨a, m, j, e, r⟩ := h
  exact ⟨a, m, j, x _ _ e, r⟩
theorem Pool.new {H : Hp} {p q : Addr} {n : Nat} {o : HO} (h : Pool H p n) (f : H q = none) : Pool (upd H q o) p n := h.ex (Ex.new f)
theorem Pool.mono {H : Hp} {p : Addr} {n m : Nat} (h : Pool H p n) (l : n ≤ m) : Pool H p m := by
  obtain ⟨a, b, j, e, h1, h2, h3, h4⟩ := h
  exact ⟨a, b, j, e, h1, h2, h3, by omega⟩
theorem Pool.off {H : Hp} {p q : Addr} {n : Nat} (h : Pool H p n) (f : H q = none) : q ≠ p := by
  obtain ⟨a, m, j, e, _⟩ := h
  exact fun z => by rw [z, e] at f; cases f
theorem Pool.put {H : Hp} {p q : Addr} {n : Nat} {o : HO} (h : Pool H p n) (f : q ≠ p) : Pool (upd H q o) p n := by
  obtain ⟨a, m, j, e, r⟩ := h
  exact ⟨a, m, j, (upd_ne f.symm).trans e, r⟩
/-- what is no list stands while only the pool is changed -/
theorem ExA.nl {p b : Addr} {H H' : Hp} {n : Nat} {o : HO} (x : ExA p H H') (s : Pool H p n) (h : H b = some o) (no : ∀ xs, o ≠ .lst xs) : H' b = some o := by
  obtain ⟨a, m, j, e, _⟩ := s
  exact x b o (fun z => by rw [z, e] at h; exact no _ (Option.some.inj h).symm) h
theorem ExA.none {p q : Addr} {H H' : Hp} {k : Nat} (x : ExA p H H') (s : Pool H' p k) (h : H' q = none) : H q = none := by
  cases z : H q with
  | none => rfl
  | some o =>
    rw [x q o (s.off h) z] at h
    cases h
theorem DD.exP {p : Addr} {H H' : Hp} {n : Nat} {a : Addr} {ls : Lds} (x : ExA p H H') (s : Pool H p n) (h : DD H a ls) : DD H' a ls := by
  obtain ⟨kvs, e, pr⟩ := h
  exact ⟨kvs, x.nl s e (fun _ z => nomatch z), Paired.mapP pr fun _ _ ⟨e1, b, e2, e3⟩ => ⟨e1, b, e2, x.nl s e3 (fun _ z => nomatch z)⟩⟩
def spPool (K : PySem.W.Frag) : Sp := fun vs H Q _ => ∃ (a : Addr) (ns : List Int) (t : Nat), vs = [.ref a, .int t] ∧ SqL K H a (ns.map V.int) ∧ ns.length ≤ sizeLine ∧ t < 1000 ∧ ∀ (p : Addr) (H' : Hp), Ex H H' → H p = none → Pool H' p 0 → Q (.ref p) H'
def spTakeP : Sp := fun vs H Q _ => ∃ (p : Addr) (k : Int) (n : Nat), vs = [.ref p, .int k] ∧ Pool H p n ∧ n < 1000000 ∧ 1 ≤ k ∧ k ≤ 1000 ∧ ∀ (d : Nat) (H' : Hp), (d : Int) < k → ExA p H H' → Pool H' p (n + 1) → Q (.int d) H'
def spOneP : Sp := fun vs H Q _ => ∃ (p t : Addr) (n : Nat) (xs : List V), vs = [.ref p, .ref t] ∧ Pool H p n ∧ n < 1000000 ∧ t ≠ p ∧ H t = some (.lst xs) ∧ xs ≠ [] ∧ xs.length ≤ 1000 ∧ ∀ (y : V) (H' : Hp), y ∈ xs → ExA p H H' → Pool H' p (n + 1) → Q y H'
section
variable {P : Program} {w : World} {K : PySem.W.Frag} {mg : Str → Option Value} {base : Heap} {f : Addr} {fd : FuncData}
theorem scTakeP : FnScope ["_law_pool_here", "_law_many", "_law_draw", "_law_mixed_here"] ["_law_pool_here", "_law_many"] (defScope sTakeP) := ⟨rfl, rfl, rfl, by decide +kernel, rfl, by decide +kernel, by decide +kernel⟩
theorem ok_takeP (F : FnP K "_law_take" sTakeP f fd) (gi : mg "int" = none) : FnOk P w K mg base CX0 1 f fd ["_law_pool_here", "_law_many"] spTakeP := by
  refine F.ok scTakeP (fun vs H Q E h => ?_) (fun cdv A outer s H vs Q E hr h => ?_)
  · obtain ⟨p, k, n, rfl, _⟩ := h
    rfl
  · refine ⟨_, PSs.nox (pss_cons (ps_if (pt_cmpR op_gt (pe_ix ix_list (pv 0) pe_int (fun _ _ => rfl)) pe_int (nomark _))
        (pss_cons (ps_set (i := 2) scTakeP.nd rfl (.inl rfl) (pe_op op_mod (pe_callTy call_int1 rfl gi boot_int (pa_cons (pe_ix ix_list (pv 0) pe_int (fun _ _ => rfl)) pa_nil)) (pv 1)))
        (pss_cons (ps_asg (pe_op op_fdiv (pe_ix ix_list (pv 0) pe_int (fun _ _ => rfl)) (pv 1)) (pg_sub (pv 0) pe_int set_list))
        (pss_one (ps_ret (pv 2))))) pss_nil)
      (pss_cut (ps_asg (pe_op op_add (pe_ix ix_list (pv 0) pe_int (fun _ _ => rfl)) pe_int) (pg_sub (pv 0) pe_int set_list))
      (pss_cons (ps_set (i := 3) scTakeP.nd rfl (.inl rfl) (pe_op op_mod (pe_callTy call_int1 rfl gi boot_int (pa_cons (pe_op op_pow (pe_op op_add (pe_op op_add (pe_ix ix_list (pv 0) pe_int (fun _ _ => rfl)) (pe_op op_mul pe_int (pe_ix ix_list (pv 0) pe_int (fun _ _ => rfl)))) pe_int) pe_int) pa_nil)) pe_int))
      (pss_one (ps_ret (pe_op op_mod (pe_op op_mod (pe_callTy call_int1 rfl gi boot_int (pa_cons (pe_op op_mul (pe_op op_add (pv 3) (pe_ix ix_list (pv 0) pe_int (fun _ _ => rfl))) pe_int) pa_nil)) pe_int) (pv 1))))))), ?_⟩
    obtain ⟨p, k, n, rfl, ⟨a, m, j, hp, a0, m0, m1, jn⟩, hn, k1, k2, hQ⟩ := h
    have kpos : (0 : Int) < k := by omega
    have sq : SqL K H p _ := .inl (.inl hp)
    refine ⟨.ref p, rfl, p, _, 0, .int a, rfl, rfl, sq, rfl, a, 0, rfl, rfl, _, rfl, ?_⟩
    by_cases hi : 0 < a
    · show (if decide (0 < a) = true then _ else _)
      rw [if_pos (decide_eq_true hi)]
      refine ⟨.ref p, rfl, p, _, 0, .int a, rfl, rfl, sq, rfl, .inl ⟨a, rfl, .int k, rfl, a, k, rfl, rfl, kpos, ?_⟩⟩
      refine ⟨.ref p, rfl, p, _, 0, .int a, rfl, rfl, sq, rfl, .int k, rfl, a, k, rfl, rfl, ⟨kpos, by omega⟩, ?_⟩
      refine ⟨.ref p, rfl, p, _, 0, 0, rfl, rfl, hp, rfl, .int (a % k), rfl, ?_⟩
      have b1 : 0 ≤ a % k := Int.emod_nonneg _ (by omega)
      rw [show a % k = ((a % k).toNat : Int) from (Int.toNat_of_nonneg b1).symm]
      exact hQ _ _ (by rw [Int.toNat_of_nonneg b1]; exact Int.emod_lt_of_pos _ kpos) ExA.upd ⟨a / k, m, j, upd_same, Int.ediv_nonneg a0 (by omega), m0, m1, by omega⟩
    · show (if decide (0 < a) = true then _ else _)
      rw [if_neg (show ¬ (decide (0 < a) = true) from by simpa using hi)]
      refine ⟨fun σ' H' => σ' = [some (.ref p), some (.int k), none, none] ∧ ExA p H H' ∧ H' p = some (.lst [.int a, .int m, .int ((j + 1 : Nat) : Int)]), ⟨.ref p, rfl, p, _, 2, .int j, rfl, rfl, sq, rfl, j, 1, rfl, rfl, .ref p, rfl, p, _, 2, 2, rfl, rfl, hp, rfl, rfl, ExA.upd, upd_same⟩, ?_⟩
      rintro σ2 H2 ⟨rfl, x2, hp2⟩
      have sq2 : SqL K H2 p _ := .inl (.inl hp2)
      refine ⟨.ref p, rfl, p, _, 1, .int m, rfl, rfl, sq2, rfl, .ref p, rfl, p, _, 2, .int ((j + 1 : Nat) : Int), rfl, rfl, sq2, rfl, 7919, _, rfl, rfl, .inl (by decide), m, _, rfl, rfl, _, _, rfl, rfl, _, 5, rfl, rfl, ⟨by decide, by decide, by omega⟩, .inl ⟨_, rfl, _, _, rfl, rfl, (by decide : (0 : Int) < 2147483647), ?_⟩⟩
      refine ⟨_, rfl, .ref p, rfl, p, _, 2, .int ((j + 1 : Nat) : Int), rfl, rfl, sq2, rfl, _, _, rfl, rfl, _, 40692, rfl, rfl, .inr (by decide), .inl ⟨_, rfl, _, _, rfl, rfl, (by decide : (0 : Int) < 2147483629), .int k, rfl, _, k, rfl, rfl, kpos, ?_⟩⟩
      have fin : ∀ z : Int, Q (.int (z % k)) H2 := fun z => by
        have b3 : 0 ≤ z % k := Int.emod_nonneg _ (by omega)
        rw [show z % k = ((z % k).toNat : Int) from (Int.toNat_of_nonneg b3).symm]
        exact hQ _ _ (by rw [Int.toNat_of_nonneg b3]; exact Int.emod_lt_of_pos _ kpos) x2 ⟨a, m, j + 1, hp2, a0, m0, m1, by omega⟩
      exact fin _
theorem scOneP : FnScope ["_law_pool_here", "_law_things"] ["_law_pool_here", "_law_things"] (defScope sOneP) := ⟨rfl, rfl, rfl, by decide +kernel, rfl, by decide +kernel, by decide +kernel⟩
theorem ok_oneP (F : FnP K "_law_one" sOneP f fd) (FT : Has P w K mg base "_law_take" 1 ["_law_pool_here", "_law_many"] spTakeP) (gn : mg "len" = none) : FnOk P w K mg base CX0 2 f fd ["_law_pool_here", "_law_things"] spOneP := by
  refine F.ok scOneP (fun vs H Q E h => ?_) (fun cdv A outer s H vs Q E hr h => ?_)
  · obtain ⟨p, t, n, xs, rfl, _⟩ := h
    rfl
  · refine ⟨_, PSs.nox (pss_one (ps_ret (pe_ix ix_list (pv 1) (pe_has FT hr (by decide) rfl (pa_cons (pv 0) (pa_cons (pe_callB call_len rfl gn boot_len (pa_cons (pv 1) pa_nil)) pa_nil))) (fun _ _ => rfl)))), ?_⟩
    obtain ⟨p, t, n, xs, rfl, S, hn, t1, ht, ne, len, hQ⟩ := h
    have pos : 0 < xs.length := List.length_pos_iff.mpr ne
    refine ⟨.ref t, rfl, .ref p, rfl, .ref t, rfl, .ref t, xs.length, rfl, .inl ⟨xs, .inl (.inl ht), rfl⟩, p, xs.length, n, rfl, S, hn, by omega, by omega, fun d H' hd x S' => ?_⟩
    have lt : d < xs.length := by omega
    exact ⟨t, xs, d, xs[d], rfl, rfl, .inl (.inl (x _ _ t1 ht)), at_nat (List.getElem?_eq_getElem lt), hQ _ _ (List.getElem_mem lt) x S'⟩
theorem scPool : FnScope ["_law_script", "_law_turn", "_law_cell", "_law_blend", "_law_one_here", "_law_great"] ["_law_script", "_law_turn"] (defScope sPool) := ⟨rfl, rfl, rfl, by decide +kernel, rfl, by decide +kernel, by decide +kernel⟩
theorem ok_pool (F : FnP K "_law_pool" sPool f fd) (gi : mg "int" = none) (ga : mg "abs" = none) (gn : mg "len" = none) (gs : mg "sum" = none) : FnOk P w K mg base CX0 1 f fd ["_law_script", "_law_turn"] (spPool K) := by
  refine F.ok scPool (fun vs H Q E h => ?_) (fun cdv A outer s H vs Q E hr h => ?_)
  · obtain ⟨a, ns, t, rfl, _⟩ := h
    rfl
  · refine ⟨_, PSs.nox (pss_cut (ps_set (i := 2) scPool.nd rfl (.inl rfl) (pe_ifExp (pt_cmpR op_lt (pv 1) (pe_callB call_len rfl gn boot_len (pa_cons (pv 0) pa_nil)) (nomark _)) (pe_ix ix_list (pv 0) (pv 1) (fun _ _ => rfl))
          (pe_op op_add (pe_op op_mod (pe_callB (cr_sum rfl) rfl gs boot_sum (pa_cons (pe_slice sl_list (pv 0) po_none (po_some pe_int)) pa_nil)) pe_int) (pv 1))))
      (pss_cons (ps_set (i := 3) scPool.nd rfl (.inl rfl) (pe_op op_add pe_int (pv 1)))
      (pss_cons (ps_for PassesOwn.never rfl (pi_list (pe_slice sl_list (pv 0) po_none (po_some pe_int))) (pg_name (i := 4) scPool.nd rfl (.inl rfl))
        (pss_one (ps_set (i := 3) scPool.nd rfl (.inl rfl) (pe_op op_mod (pe_callTy call_int1 rfl gi boot_int (pa_cons (pe_op op_add (pe_op op_mul (pv 3) pe_int) (pv 4)) pa_nil)) pe_int))))
      (pss_cons (ps_set (i := 5) scPool.nd rfl (.inl rfl) (pe_callB call_abs rfl ga boot_abs (pa_cons (pv 2) pa_nil)))
      (pss_one (ps_ret (pe_lst (pa_cons (pe_ifExp (pt_cmpR op_ge (pv 5) (pe_op op_pow pe_int pe_int) (nomark _)) (pv 5) pe_int) (pa_cons (pe_op op_mod (pe_callTy call_int1 rfl gi boot_int (pa_cons (pe_op op_add (pv 5) (pv 3)) pa_nil)) pe_int) (pa_cons pe_int pa_nil)))))))))), ?_⟩
    obtain ⟨a, ns, t, rfl, sq, len, tl, hQ⟩ := h
    refine ⟨fun σ' H' => ∃ c : Int, σ' = [some (.ref a), some (.int t), some (.int c), none, none, none] ∧ Ex H H', ?_, ?_⟩
    · by_cases lt : t < ns.length
      · exact ⟨.int t, rfl, .ref a, rfl, .ref a, ns.length, rfl, .inl ⟨_, sq, by rw [List.length_map]⟩, t, ns.length, rfl, rfl, true, congrArg V.bl (decide_eq_true (by omega)), .ref a, rfl, .int t, rfl, a, _, t, .int ns[t], rfl, rfl, sq, at_nat (by rw [List.getElem?_map, List.getElem?_eq_getElem lt]; rfl), _, rfl, Ex.refl⟩
      · refine ⟨.int t, rfl, .ref a, rfl, .ref a, ns.length, rfl, .inl ⟨_, sq, by rw [List.length_map]⟩, t, ns.length, rfl, rfl, false, congrArg V.bl (decide_eq_false (by omega)), .ref a, rfl, 1, rfl, a, ns.map V.int, rfl, sq, fun q nq => ⟨q, ns.take 1, rfl, .inl (.inl ?_), (ns.take 1).sum, _, rfl, rfl, (by decide : (0 : Int) < 1000003), .int t, rfl, _, t, rfl, rfl, _, rfl, Ex.new nq⟩⟩
        rw [upd_same, List.map_take]
        exact congrArg (fun z => some (HO.lst z)) (cut_take _ 1)
    · rintro σ1 H1 ⟨c, rfl, x1⟩
      refine ⟨.int t, rfl, 7, t, rfl, rfl, .ref a, rfl, 64, rfl, a, ns.map V.int, rfl, x1.sqL sq, fun q nq => ?_⟩
      rw [show cutV (ns.map V.int) none (some 64) = (ns.take 64).map V.int by rw [List.map_take]; exact cut_take _ 64]
      have x2 := x1.trans (Ex.new (o := .lst ((ns.take 64).map V.int)) nq)
      have hq : upd H1 q (.lst ((ns.take 64).map V.int)) q = _ := upd_same
      generalize upd H1 q (.lst ((ns.take 64).map V.int)) = H2 at x2 hq ⊢
      refine ⟨q, rfl, ⟨_, .inl (.inl hq)⟩, for_list (K := K) (xs := (ns.take 64).map V.int) (fun i σ' H' => H' = H2 ∧ ∃ (sd : Int) (o4 : Option V), σ' = [some (.ref a), some (.int t), some (.int c), some (.int sd), o4, none]) ⟨rfl, _, _, rfl⟩ (fun i σ' H' _ h => h.1 ▸ .inl (.inl hq)) (fun i v σ' H' hv h => ?_) fun σ' H' h => ?_⟩
      · obtain ⟨rfl, sd, o4, rfl⟩ := h
        rw [List.getElem?_map] at hv
        obtain ⟨z, ez, rfl⟩ := Option.map_eq_some_iff.mp hv
        exact ⟨.int sd, rfl, sd, 8191, rfl, rfl, .inr (by decide), .int z, rfl, _, _, rfl, rfl, .inl ⟨_, rfl, _, _, rfl, rfl, (by decide : (0 : Int) < 2147483647), rfl, _, _, rfl⟩⟩
      · obtain ⟨rfl, sd, o4, rfl⟩ := h
        have c0 : (0 : Int) ≤ (if c < 0 then -c else c) := by split <;> omega
        refine ⟨.int c, rfl, c, rfl, ?_⟩
        generalize (if c < 0 then -c else c) = g at c0 ⊢
        have fin : ∀ z : Int, 0 ≤ z → ∀ p, H' p = none → Q (.ref p) (upd H' p (.lst [.int z, .int ((g + sd) % 1000000007), .int 0])) := fun z z0 p np => hQ p _ (x2.trans (Ex.new np)) (x2.none np) ⟨z, _, 0, upd_same, z0, Int.emod_nonneg _ (by decide), Int.lt_trans (Int.emod_lt_of_pos _ (by decide)) (by decide), Nat.le_refl _⟩
        by_cases big : (10 : Int) ^ (18 : Int).toNat ≤ g
        · exact ⟨.int g, rfl, 10, 18, rfl, rfl, ⟨by decide, by decide, by decide⟩, _, _, rfl, rfl, true, congrArg V.bl (decide_eq_true big), .int g, rfl, .int g, rfl, .int sd, rfl, _, _, rfl, rfl, .inl ⟨_, rfl, _, _, rfl, rfl, (by decide : (0 : Int) < 1000000007), by show 3 ≤ sizeLine; decide, fin _ c0⟩⟩
        · exact ⟨.int g, rfl, 10, 18, rfl, rfl, ⟨by decide, by decide, by decide⟩, _, _, rfl, rfl, false, congrArg V.bl (decide_eq_false big), .int g, rfl, .int sd, rfl, _, _, rfl, rfl, .inl ⟨_, rfl, _, _, rfl, rfl, (by decide : (0 : Int) < 1000000007), by show 3 ≤ sizeLine; decide, fin _ (Int.le_refl 0)⟩⟩
end
/-! ### _law_mixed -/
def FlV (v : V) : Prop := (∃ i, v = .int i) ∨ ∃ s, v = .str s ∧ PyData.canLay0 (.str s) = true
theorem fl_data : ∀ {xs : List V}, (∀ x ∈ xs, FlV x) → ∃ ds : List PyData, (∀ K H, DpAll K H xs ds) ∧ PyData.canLayAll0 ds = true ∧ PyData.depthAll ds = 0 ∧ ds.length = xs.length
  | [], _ => ⟨[], fun _ _ => .nil, rfl, rfl, rfl⟩
  | x :: r, h => by
    obtain ⟨ds, h1, h2, h3, h4⟩ := fl_data (xs := r) fun y m => h y (List.mem_cons_of_mem _ m)
    rcases h x List.mem_cons_self with ⟨i, rfl⟩ | ⟨s, rfl, ls⟩
    · refine ⟨.int i :: ds, fun K H => .cons (.int i) (h1 K H), ?_, ?_, by rw [List.length_cons, h4, List.length_cons]⟩
      · show (PyData.canLay0 (.int i) && PyData.canLayAll0 ds) = true
        rw [h2]
        rfl
      · show max (PyData.depth (.int i)) (PyData.depthAll ds) = 0
        rw [h3]
        rfl
    · refine ⟨.str s :: ds, fun K H => .cons (.str s) (h1 K H), ?_, ?_, by rw [List.length_cons, h4, List.length_cons]⟩
      · show (PyData.canLay0 (.str s) && PyData.canLayAll0 ds) = true
        rw [h2, ls]
        rfl
      · show max (PyData.depth (.str s)) (PyData.depthAll ds) = 0
        rw [h3]
        rfl
theorem shaped_of {ds : List PyData} (a : PyData.canLayAll0 ds = true) (b : PyData.depthAll ds = 0) : SeqAt.shaped (.list ds) = true := by
  have e1 : PyData.canLay0 (.list ds) = PyData.canLayAll0 ds := by unfold PyData.canLay0; rfl
  have e2 : PyData.depth (.list ds) = PyData.depthAll ds + 1 := by unfold PyData.depth; rfl
  unfold SeqAt.shaped
  rw [e1, a, e2, b]
  decide
theorem eqv_nilD (ds : List PyData) : PyData.eqv (.list ds) (.list []) = decide (ds = []) := by
  cases ds with
  | nil => rfl
  | cons w r => rfl
def spMixed : Sp := fun vs H Q _ => ∃ (p t : Addr) (n : Nat) (xs : List V), vs = [.ref p, .ref t] ∧ Pool H p n ∧ n + xs.length < 1000000 ∧ H t = some (.lst xs) ∧ xs.length ≤ 1000 ∧ (∀ x ∈ xs, FlV x) ∧
  ∀ (q : Addr) (ys : List V) (H' : Hp), ExA p H H' → Pool H' p (n + xs.length) → H q = none → H' q = some (.lst ys) → ys.Perm xs → Q (.ref q) H'
section
variable {P : Program} {w : World} {K : PySem.W.Frag} {mg : Str → Option Value} {base : Heap} {f : Addr} {fd : FuncData}
theorem scMixed : FnScope ["_law_pool_here", "_law_things", "_law_left", "_law_found"] ["_law_pool_here", "_law_things"] (defScope sMixed) := ⟨rfl, rfl, rfl, by decide +kernel, rfl, by decide +kernel, by decide +kernel⟩
theorem ok_mixed (F : FnP K "_law_mixed" sMixed f fd) (FT : Has P w K mg base "_law_take" 1 ["_law_pool_here", "_law_many"] spTakeP) (gn : mg "len" = none) (gl : mg "list" = none) : FnOk P w K mg base CX0 2 f fd ["_law_pool_here", "_law_things"] spMixed := by
  refine F.ok scMixed (fun vs H Q E h => ?_) (fun cdv A outer s H vs Q E hr h => ?_)
  · obtain ⟨p, t, n, xs, rfl, _⟩ := h
    rfl
  · refine ⟨_, PSs.nox (pss_cons (ps_par (i := 2) (j := 3) rfl scMixed.nd rfl rfl (by decide) rfl rfl (pa_cons (pe_callTy call_list_of rfl gl boot_list (pa_cons (pv 1) pa_nil)) (pa_cons (pe_lst pa_nil) pa_nil)) rfl)
      (pss_cons (ps_while PassesOwn.never (pt_cmpR (op_neD hr.units) (pv 2) (pe_lst pa_nil) (nomark _))
        (pss_one (ps_expr (pe_bm PySem.F.plainAttrs_list PySem.F.slot_list_append PySem.F.type_list_append mt_append (pv 3) (pa_cons (pe_bm PySem.F.plainAttrs_list PySem.F.slot_list_pop PySem.F.type_list_pop mt_popAt (pv 2) (pa_cons (pe_has FT hr (by decide) rfl (pa_cons (pv 0) (pa_cons (pe_callB call_len rfl gn boot_len (pa_cons (pv 2) pa_nil)) pa_nil))) pa_nil)) pa_nil)))))
      (pss_one (ps_ret (pv 3))))), ?_⟩
    obtain ⟨p, t, n, xs, rfl, S, hn, ht, len, fl, hQ⟩ := h
    refine ⟨.ref t, rfl, t, xs, rfl, .inl (.inl (.inl ht)), fun lf nlf => ⟨Nat.zero_le _, fun D nD => ⟨_, _, rfl, ?_⟩⟩⟩
    have x1 := Ex.new (o := .lst xs) nlf
    have hl : upd H lf (.lst xs) lf = some (.lst xs) := upd_same
    have nDH : H D = none := x1.none nD
    have Dl : lf ≠ D := fun z => by rw [← z, hl] at nD; cases nD
    have l1 := S.off nlf
    have d1 := S.off nDH
    have x2 := Ex.new (o := .lst []) nD
    have hD : upd (upd H lf (.lst xs)) D (.lst []) D = some (.lst []) := upd_same
    have hl2 := x2 _ _ hl
    have x12 := x1.trans x2
    generalize upd (upd H lf (.lst xs)) D (.lst []) = H2 at x12 hl2 hD ⊢
    refine ⟨fun m σ' H' => ∃ left acc, σ' = [some (.ref p), some (.ref t), some (.ref lf), some (.ref D)] ∧ ExA p H H' ∧ Pool H' p (n + acc.length) ∧ H' lf = some (.lst left) ∧ H' D = some (.lst acc) ∧ (acc ++ left).Perm xs ∧ left.length = m, ⟨xs.length, xs, [], rfl, x12.exA, S.ex x12, hl2, hD, .refl _, rfl⟩, fun m σ' H' h => ?_⟩
    obtain ⟨left, acc, rfl, x3, S3, h3, h4, pm, lm⟩ := h
    have ln : acc.length + left.length = xs.length := by rw [← pm.length_eq, List.length_append]
    obtain ⟨ds, g1, g2, g3, g4⟩ := fl_data (xs := left) fun x mx => fl x (pm.mem_iff.mp (List.mem_append_right _ mx))
    refine ⟨.ref lf, rfl, Nat.zero_le _, fun e ne => ?_⟩
    have xe := Ex.new (o := .lst []) ne
    have he : upd H' e (.lst []) e = some (.lst []) := upd_same
    generalize upd H' e (.lst []) = H4 at xe he ⊢
    refine ⟨.list ds, .list [], .lst (.inl (.inl (xe _ _ h3))) (g1 K H4), .lst (.inl (.inl he)) .nil, shaped_of g2 g3, rfl, _, rfl, ?_⟩
    rw [eqv_nilD]
    cases left with
    | nil =>
      have dn : ds = [] := List.length_eq_zero_iff.mp g4
      rw [dn]
      refine ⟨.ref D, rfl, ?_⟩
      rw [List.append_nil] at pm
      have ln2 : acc.length = xs.length := pm.length_eq
      exact hQ D acc H4 (x3.trans xe.exA) (by rw [← ln2]; exact S3.ex xe) nDH (xe _ _ h4) pm
    | cons y0 yr =>
      generalize ely : y0 :: yr = left at *
      have lpos : 1 ≤ left.length := by rw [← ely, List.length_cons]; omega
      have dn : decide (ds = []) = false := decide_eq_false fun z => by rw [z] at g4; rw [← g4] at lpos; exact absurd lpos (by decide)
      rw [dn]
      refine ⟨fun σ' H' => ∃ m', m' < m ∧ ∃ left acc, σ' = [some (.ref p), some (.ref t), some (.ref lf), some (.ref D)] ∧ ExA p H H' ∧ Pool H' p (n + acc.length) ∧ H' lf = some (.lst left) ∧ H' D = some (.lst acc) ∧ (acc ++ left).Perm xs ∧ left.length = m', fun σ' H' h => h, ?_⟩
      refine ⟨.ref D, rfl, .inl ⟨rfl, _, .inl (.inl (xe _ _ h4))⟩, .ref lf, rfl, .inl ⟨rfl, _, .inl (.inl (xe _ _ h3))⟩, .ref p, rfl, .ref lf, rfl, .ref lf, left.length, rfl, .inl ⟨left, .inl (.inl (xe _ _ h3)), rfl⟩, p, left.length, n + acc.length, rfl, S3.ex xe, by omega, by omega, by omega, fun d H5 hd x5 S5 => ?_⟩
      have lt : d < left.length := by omega
      have k3 := x5 _ _ l1 (xe _ _ h3)
      have k4 := x5 _ _ d1 (xe _ _ h4)
      refine ⟨lf, left, d, d, left[d], rfl, rfl, k3, by omega, by omega, seqIndex_of (by omega) (by omega), List.getElem?_eq_getElem lt, D, acc, left[d], rfl, rfl, (upd_ne Dl.symm).trans k4, by rw [sizeLine_eq]; omega, left.length - 1, by omega, left.eraseIdx d, acc ++ [left[d]], rfl, ?_, ?_, (upd_ne Dl).trans upd_same, upd_same, ?_, List.length_eraseIdx_of_lt lt⟩
      · intro b o b1 e
        have bl : b ≠ lf := fun z => by rw [z, nlf] at e; cases e
        have bd : b ≠ D := fun z => by rw [z, nDH] at e; cases e
        exact (upd_ne bd).trans ((upd_ne bl).trans (x5 _ _ b1 (xe _ _ (x3 _ _ b1 e))))
      · rw [List.length_append]
        exact ((S5.put l1).put d1).mono (Nat.le_refl _)
      · rw [List.append_assoc]
        exact ((erase_perm (List.getElem?_eq_getElem lt)).append_left acc).trans pm
end
end TH

/-! J7: _law_same -/
namespace TH
open PySem PySem.Spec PyProof.Rows L2 LamV LamX XK0
open C8 (pss_cut tCut)
open RZ (ItzT pi_zipA)
abbrev sSame : Stmt := top 37
theorem kit_list {K : PySem.W.Frag} {T : String} (h : T ∈ tys) : PySem.W.kitOne K (.type T) (.type "list") = some (decide (T = "list")) := by
  simp only [tys, List.mem_cons, List.mem_nil_iff, or_false] at h
  rcases h with rfl | rfl | rfl | rfl | rfl | rfl | rfl <;> exact kit_ty (by decide +kernel)
theorem kit_tuple {K : PySem.W.Frag} {T : String} (h : T ∈ tys) : PySem.W.kitOne K (.type T) (.type "tuple") = some (decide (T = "tuple")) := by
  simp only [tys, List.mem_cons, List.mem_nil_iff, or_false] at h
  rcases h with rfl | rfl | rfl | rfl | rfl | rfl | rfl <;> exact kit_ty (by decide +kernel)
theorem kit_ilt {K : PySem.W.Frag} {T : String} (h : T ∈ tys) (n : T ≠ "int" ∧ T ≠ "bool" ∧ T ≠ "list" ∧ T ≠ "tuple") : PySem.W.kitAny K (.type T) [.type "int", .type "list", .type "tuple"] = some false := by
  unfold PySem.W.kitAny
  rw [kit_int h, decide_eq_false n.1, decide_eq_false n.2.1]
  show PySem.W.kitAny K (.type T) [.type "list", .type "tuple"] = _
  rw [kit_lt h]
  unfold isLt
  rw [decide_eq_false n.2.2.1, decide_eq_false n.2.2.2]
  rfl
theorem walk_zipT {K : PySem.W.Frag} {a b : Addr} {xs ys : List V} {n : Nat} (hn : n = min xs.length ys.length) : Walk (ItzT K a b) n (fun H => SqT K H a xs ∧ SqT K H b ys) (YPair (fun i => xs[i]?) (fun i => ys[i]?)) := by
  subst hn
  refine ⟨fun i _ hi q => ?_, fun _ q => ⟨xs, ys, q.1, q.2, by omega⟩, fun i H v H' _ q y => ?_⟩
  · have h1 : i < xs.length := by omega
    have h2 : i < ys.length := by omega
    exact ⟨xs, ys, xs[i], ys[i], q.1, q.2, by simp [h1], by simp [h2]⟩
  · obtain ⟨T, x, z, h1, h2, h3, h4, h5⟩ := y
    exact ⟨T, x, z, h1, h2, h3, h4 xs q.1, h5 ys q.2⟩
theorem paired_get2 {α β : Type} {R : α → β → Prop} {l : List α} {r : List β} (p : Paired R l r) : ∀ {i : Nat} {x : α}, l[i]? = some x → ∃ y, r[i]? = some y ∧ R x y := by
  induction p with
  | nil => intro i x e; simp at e
  | cons h _ ih =>
    intro i x e
    cases i with
    | zero => cases e; exact ⟨_, rfl, h⟩
    | succ i => exact ih (i := i) e
/-- values that are no lists, the same -/
def Leaf (H : Hp) (x y : V) : Prop := (x = y ∧ ((∃ i, x = .int i) ∨ (∃ b, x = .bl b) ∨ x = .non ∨ ∃ s, x = .str s ∧ s.length ≤ 1000)) ∨ ∃ a b, x = .ref a ∧ y = .ref b ∧ H a = some (.dK []) ∧ H b = some (.dK [])
def SameV (K : PySem.W.Frag) (H : Hp) : Nat → V → V → Prop
  | 0, _, _ => False
  | n + 1, x, y => Leaf H x y ∨ ∃ a b xs ys, x = .ref a ∧ y = .ref b ∧ ((SqL K H a xs ∧ SqL K H b ys) ∨ (SqT K H a xs ∧ SqT K H b ys)) ∧ xs.length ≤ 1000 ∧ Paired (SameV K H n) xs ys
theorem Leaf.ex {H H' : Hp} {x y : V} (k : Ex H H') (h : Leaf H x y) : Leaf H' x y := by
  rcases h with h | ⟨a, b, e1, e2, h1, h2⟩
  · exact .inl h
  · exact .inr ⟨a, b, e1, e2, k _ _ h1, k _ _ h2⟩
theorem SameV.ex {K : PySem.W.Frag} {H H' : Hp} (k : Ex H H') : ∀ {n : Nat} {x y : V}, SameV K H n x y → SameV K H' n x y
  | 0, _, _, h => h.elim
  | n + 1, _, _, .inl h => .inl (Leaf.ex k h)
  | n + 1, _, _, .inr ⟨a, b, xs, ys, e1, e2, s, l, p⟩ => .inr ⟨a, b, xs, ys, e1, e2, s.imp (fun z => ⟨k.sqL z.1, k.sqL z.2⟩) fun z => ⟨k.sqT z.1, k.sqT z.2⟩, l, Paired.mapP p fun _ _ z => SameV.ex k z⟩
theorem SameV.leaf {K : PySem.W.Frag} {H : Hp} {n : Nat} {x y : V} (h : Leaf H x y) : SameV K H (n + 1) x y := .inl h
def spSame (K : PySem.W.Frag) (n : Nat) : Sp := fun vs H Q _ => ∃ x y, vs = [x, y] ∧ SameV K H n x y ∧ ∀ H', Ex H H' → Q (.bl true) H'
section
variable {P : Program} {w : World} {K : PySem.W.Frag} {mg : Str → Option Value} {base : Heap} {f : Addr} {fd : FuncData}
theorem scSame : FnScope ["_law_found", "_law_due", "_law_one_here", "_law_other"] ["_law_found", "_law_due"] (defScope sSame) := ⟨rfl, rfl, rfl, by decide +kernel, rfl, by decide +kernel, by decide +kernel⟩
theorem ok_same (F : FnP K "_law_same" sSame f fd) (gJ : mg "_law_same" = some (.ref f)) (bJ : Binds K fd ["_law_found", "_law_due"] []) (gi : mg "isinstance" = none) (gl : mg "list" = none) (gt : mg "tuple" = none) (gn : mg "len" = none) (ga : mg "all" = none) (gz : mg "zip" = none) (gI : mg "int" = none) (gb : mg "bool" = none) :
    ∀ n, FnOk P w K mg base CX0 (n + 1) f fd ["_law_found", "_law_due"] (spSame K n)
  | 0 => by
    refine F.ok scSame (fun vs H Q E h => ?_) (fun cdv A outer s H vs Q E hr h => ?_)
    · obtain ⟨x, y, rfl, _⟩ := h
      rfl
    · obtain ⟨x, y, _, h, _⟩ := h
      exact h.elim
  | n + 1 => by
    have FJ : Has P w K mg base "_law_same" (n + 1) ["_law_found", "_law_due"] (spSame K n) := ⟨f, fd, gJ, F.kp, bJ, ok_same F gJ bJ gi gl gt gn ga gz gI gb n⟩
    refine F.ok scSame (fun vs H Q E h => ?_) (fun cdv A outer s H vs Q E hr h => ?_)
    · obtain ⟨x, y, rfl, _⟩ := h
      rfl
    · have hu := hu_of hr
      refine ⟨_, PSs.nox (pss_cons (ps_if (pt_val (pe_callB call_isiT rfl gi boot_isinstance (pa_cons (pv 1) (pa_cons (pe_tup (pa_cons (pe_bltn (v := .ty "list") rfl gl boot_list rfl) (pa_cons (pe_bltn (v := .ty "tuple") rfl gt boot_tuple rfl) pa_nil))) pa_nil))))
        (pss_cons (ps_if (PW.pt (pw_or (pt_cmpR op_ne (pe_callB call_isi rfl gi boot_isinstance (pa_cons (pv 0) (pa_cons (pe_bltn (v := .ty "list") rfl gl boot_list rfl) pa_nil))) (pe_callB call_isi rfl gi boot_isinstance (pa_cons (pv 1) (pa_cons (pe_bltn (v := .ty "list") rfl gl boot_list rfl) pa_nil))) (nomark _)) (pw_or1 (pt_cmpR op_ne (pe_callB call_isi rfl gi boot_isinstance (pa_cons (pv 0) (pa_cons (pe_bltn (v := .ty "tuple") rfl gt boot_tuple rfl) pa_nil))) (pe_callB call_isi rfl gi boot_isinstance (pa_cons (pv 1) (pa_cons (pe_bltn (v := .ty "tuple") rfl gt boot_tuple rfl) pa_nil))) (nomark _))))) (pss_one (ps_ret pe_bl)) pss_nil)
        (pss_cons (ps_if (pt_cmp (pc_neI (pe_callB call_len rfl gn boot_len (pa_cons (pv 0) pa_nil)) (pe_callB call_len rfl gn boot_len (pa_cons (pv 1) pa_nil)))) (pss_one (ps_ret pe_bl)) pss_nil)
        (pss_one (ps_ret (pe_callB (cr_all rfl) rfl ga boot_all (pa_cons (pe_lc (te := tCall (spSame K n) [] E0 (tCons (tVar 2) (tCons (tVar 3) tNil))) (tt := tYes) (g := gTup K 2 (gCons (gName 2) (gCons (gName 3) gNil))) (own := [("_law_one_here", 2), ("_law_other", 3)]) rfl scSame.nd (pi_zipA rfl gz (pa_cons (pv 0) (pa_cons (pv 1) pa_nil))) (blkOk_by (by kernel_rfl)) (fun s H C cl fp => pg_tup rfl (pgs_cons (pg_name (i := 2) scSame.nd rfl (.inl rfl) (.inr rfl)) (pgs_cons (pg_name (i := 3) scSame.nd rfl (.inl rfl) (.inr rfl)) pgs_nil))) (fun s H C cl fp => pts_nil) (fun s H C cl fp => pe_has FJ hr (by omega) rfl (pa_cons (pv 2) (pa_cons (pv 3) pa_nil)))) pa_nil)))))) pss_nil)
      (pss_cons (ps_if (pt_val (pe_callB call_isi rfl gi boot_isinstance (pa_cons (pv 1) (pa_cons (pe_bltn (v := .ty "int") rfl gI boot_int rfl) pa_nil)))) (pss_one (ps_ret (pe_and (pe_callB call_isi rfl gi boot_isinstance (pa_cons (pv 0) (pa_cons (pe_bltn (v := .ty "int") rfl gI boot_int rfl) pa_nil))) (pe_and (pe_cmpR op_eq (pe_callB call_isi rfl gi boot_isinstance (pa_cons (pv 0) (pa_cons (pe_bltn (v := .ty "bool") rfl gb boot_bool rfl) pa_nil))) (pe_callB call_isi rfl gi boot_isinstance (pa_cons (pv 1) (pa_cons (pe_bltn (v := .ty "bool") rfl gb boot_bool rfl) pa_nil))) (nomark _)) (pe_one (pe_cmpR op_eq (pv 0) (pv 1) (nomark _))))))) pss_nil)
      (pss_one (ps_ret (pe_and (pe_not (pe_callB call_isiT rfl gi boot_isinstance (pa_cons (pv 0) (pa_cons (pe_tup (pa_cons (pe_bltn (v := .ty "int") rfl gI boot_int rfl) (pa_cons (pe_bltn (v := .ty "list") rfl gl boot_list rfl) (pa_cons (pe_bltn (v := .ty "tuple") rfl gt boot_tuple rfl) pa_nil)))) pa_nil)))) (pe_one (pe_cmpR (op_eq.or (op_eqV hr.units)) (pv 0) (pv 1) (nomark _)))))))), ?_⟩
      obtain ⟨x, y, rfl, hs, hQ⟩ := h
      have s2 : 2 ≤ sizeLine := by decide
      have s3 : 3 ≤ sizeLine := by decide
      rcases hs with (⟨rfl, hl⟩ | ⟨a, b, rfl, rfl, ha, hb⟩) | ⟨a, b, xs, ys, rfl, rfl, sq, ln, pr⟩
      · -- flat
        obtain ⟨T, kT, nl⟩ : ∃ T, Kd K H x T ∧ isLt T = false := by
          rcases hl with ⟨i, rfl⟩ | ⟨b, rfl⟩ | rfl | ⟨z, rfl, lz⟩
          · exact ⟨_, int_kd, rfl⟩
          · exact ⟨"bool", ⟨by show "bool" ∈ tys; decide, .base (.bl b), fun x z => nomatch z⟩, rfl⟩
          · exact ⟨"NoneType", ⟨by decide, .base .non, fun x z => nomatch z⟩, rfl⟩
          · exact ⟨_, str_kd lz, rfl⟩
        refine ⟨x, rfl, s2, fun tp ntp => ⟨x, tp, _, _, [.type "list", .type "tuple"], _, rfl, upd_same, .cons (.ty "list") (.cons (.ty "tuple") .nil), tyx_ex (Ex.new ntp) kT.2.1, kit_lt kT.1, _, rfl, ?_⟩⟩
        rw [nl]
        have x1 := Ex.new (o := .tup [.ty "list", .ty "tuple"]) ntp
        generalize upd H tp (.tup [.ty "list", .ty "tuple"]) = H1 at x1 ⊢
        have k1 := kT.ex x1
        refine ⟨x, rfl, x, .ty "int", _, _, _, rfl, .ty "int", k1.2.1, kit_int k1.1, _, rfl, ?_⟩
        by_cases ib : (∃ i, x = .int i) ∨ ∃ b, x = .bl b
        · have ti : (decide (T = "int") || decide (T = "bool")) = true := by
            rcases ib with ⟨i, rfl⟩ | ⟨b, rfl⟩
            · have := k1.2.1
              cases this with
              | base t => cases t; rfl
            · have := k1.2.1
              cases this with
              | base t => cases t; rfl
          rw [ti]
          have sc : scal x x = true := by rcases ib with ⟨i, rfl⟩ | ⟨b, rfl⟩ <;> rfl
          refine ⟨x, rfl, x, .ty "int", _, _, _, rfl, .ty "int", k1.2.1, kit_int k1.1, true, congrArg V.bl ti, ?_⟩
          refine ⟨x, rfl, x, .ty "bool", _, _, decide (T = "bool"), rfl, .ty "bool", k1.2.1, kit_bool k1.1, x, rfl, x, .ty "bool", _, _, decide (T = "bool"), rfl, .ty "bool", k1.2.1, kit_bool k1.1, rfl, true, congrArg V.bl (decide_eq_true rfl), ?_⟩
          refine ⟨x, rfl, x, rfl, sc, ?_⟩
          rw [decide_eq_true rfl]
          exact hQ H1 x1
        · have ti : T ≠ "int" ∧ T ≠ "bool" ∧ T ≠ "list" ∧ T ≠ "tuple" := by
            have ns : x = .non ∨ ∃ z, x = .str z := by
              rcases hl with h | h | h | ⟨z, h, _⟩
              · exact absurd (.inl h) ib
              · exact absurd (.inr h) ib
              · exact .inl h
              · exact .inr ⟨z, h⟩
            have := k1.2.1
            rcases ns with rfl | ⟨z, rfl⟩
            · cases this with
              | base t => cases t; exact ⟨by decide, by decide, by decide, by decide⟩
            · cases this with
              | base t => cases t; exact ⟨by decide, by decide, by decide, by decide⟩
          rw [show (decide (T = "int") || decide (T = "bool")) = false by rw [decide_eq_false ti.1, decide_eq_false ti.2.1]; rfl]
          have sc : scal x x = true := by
            rcases hl with h | h | rfl | ⟨z, rfl, _⟩
            · exact absurd (.inl h) ib
            · exact absurd (.inr h) ib
            · rfl
            · rfl
          refine ⟨x, rfl, s3, fun tq ntq => ⟨x, tq, _, _, [.type "int", .type "list", .type "tuple"], _, rfl, upd_same, .cons (.ty "int") (.cons (.ty "list") (.cons (.ty "tuple") .nil)), tyx_ex (Ex.new ntq) k1.2.1, kit_ilt k1.1 ti, false, rfl, true, rfl, x, rfl, x, rfl, .inl ⟨sc, ?_⟩⟩⟩
          rw [decide_eq_true rfl]
          exact hQ _ (x1.trans (Ex.new ntq))
      · -- empty dicts
        have kd : ∀ {G : Hp} {c : Addr}, G c = some (.dK []) → Kd K G (.ref c) "dict" := fun h => ⟨by decide, .base (.dK h), fun x z => nomatch z⟩
        refine ⟨.ref b, rfl, s2, fun tp ntp => ⟨.ref b, tp, _, _, [.type "list", .type "tuple"], _, rfl, upd_same, .cons (.ty "list") (.cons (.ty "tuple") .nil), tyx_ex (Ex.new ntp) (kd hb).2.1, kit_lt (kd hb).1, false, rfl, ?_⟩⟩
        have x1 := Ex.new (o := .tup [.ty "list", .ty "tuple"]) ntp
        generalize upd H tp (.tup [.ty "list", .ty "tuple"]) = H1 at x1 ⊢
        have kb := kd (x1 _ _ hb)
        refine ⟨.ref b, rfl, .ref b, .ty "int", _, _, _, rfl, .ty "int", kb.2.1, kit_int kb.1, false, rfl, ?_⟩
        have ka := kd (x1 _ _ ha)
        refine ⟨.ref a, rfl, s3, fun tq ntq => ⟨.ref a, tq, _, _, [.type "int", .type "list", .type "tuple"], _, rfl, upd_same, .cons (.ty "int") (.cons (.ty "list") (.cons (.ty "tuple") .nil)), tyx_ex (Ex.new ntq) ka.2.1, kit_ilt ka.1 ⟨by decide, by decide, by decide, by decide⟩, false, rfl, true, rfl, .ref a, rfl, .ref b, rfl, .inr ⟨2, by decide, .inr ⟨a, b, [], [], rfl, rfl, ?_, ?_, rfl, fun _ m => nomatch m⟩, hQ _ (x1.trans (Ex.new ntq))⟩⟩⟩
        · exact (Ex.new ntq) _ _ (x1 _ _ ha)
        · exact (Ex.new ntq) _ _ (x1 _ _ hb)
      · -- lists, tuples
        have ll : xs.length = ys.length := Paired.length pr
        obtain ⟨T, ka, kb, lt⟩ : ∃ T, Kd K H (.ref a) T ∧ Kd K H (.ref b) T ∧ isLt T = true := by
          rcases sq with ⟨h1, h2⟩ | ⟨h1, h2⟩
          · exact ⟨_, sqL_kd h1, sqL_kd h2, rfl⟩
          · exact ⟨_, sqT_kd h1, sqT_kd h2, rfl⟩
        refine ⟨.ref b, rfl, s2, fun tp ntp => ⟨.ref b, tp, _, _, [.type "list", .type "tuple"], _, rfl, upd_same, .cons (.ty "list") (.cons (.ty "tuple") .nil), tyx_ex (Ex.new ntp) kb.2.1, kit_lt kb.1, true, congrArg V.bl lt, ?_⟩⟩
        have x1 := Ex.new (o := .tup [.ty "list", .ty "tuple"]) ntp
        generalize upd H tp (.tup [.ty "list", .ty "tuple"]) = H1 at x1 ⊢
        have ka1 := ka.ex x1
        have kb1 := kb.ex x1
        refine ⟨.ref a, rfl, .ref a, .ty "list", _, _, decide (T = "list"), rfl, .ty "list", ka1.2.1, kit_list ka1.1, .ref b, rfl, .ref b, .ty "list", _, _, decide (T = "list"), rfl, .ty "list", kb1.2.1, kit_list kb1.1, rfl, false, congrArg V.bl (by rw [decide_eq_true rfl]; rfl), ?_⟩
        refine ⟨.ref a, rfl, .ref a, .ty "tuple", _, _, decide (T = "tuple"), rfl, .ty "tuple", ka1.2.1, kit_tuple ka1.1, .ref b, rfl, .ref b, .ty "tuple", _, _, decide (T = "tuple"), rfl, .ty "tuple", kb1.2.1, kit_tuple kb1.1, rfl, false, congrArg V.bl (by rw [decide_eq_true rfl]; rfl), ?_⟩
        have sa : Sq K H1 a xs := sq.imp (fun z => x1.sqL z.1) fun z => x1.sqT z.1
        have sb : Sq K H1 b ys := sq.imp (fun z => x1.sqL z.2) fun z => x1.sqT z.2
        refine ⟨.ref a, rfl, .ref a, xs.length, rfl, len_sq sa, .ref b, rfl, .ref b, ys.length, rfl, len_sq sb, _, _, rfl, rfl, false, congrArg V.bl (by rw [ll]; simp), ?_⟩
        have pr1 : Paired (SameV K H1 n) xs ys := Paired.mapP pr fun _ _ z => z.ex x1
        have fin : ∀ (D : Addr) (H' : Hp), Ex H1 H' → H' D = some (.lst ((List.replicate xs.length true).map V.bl)) → ∃ (a : Addr) (bs : List Bool), ([.ref D] : List V) = [V.ref a] ∧ SqL K H' a (bs.map V.bl) ∧ Q (.bl (bs.all id)) H' := fun D H' x2 hD => by
          refine ⟨D, List.replicate xs.length true, rfl, .inl (.inl hD), ?_⟩
          rw [show (List.replicate xs.length true).all id = true from List.all_eq_true.mpr fun z m => (List.mem_replicate.mp m).2]
          exact hQ H' (x1.trans x2)
        have stp : ∀ (D : Addr) (i : Nat) (v : V) (H2 H3 : Hp) (σ : L2.St), H1 D = none → i < min xs.length ys.length → (Ex H1 H2 ∧ H2 D = some (.lst ((List.replicate i true).map V.bl))) → YPair (fun i => xs[i]?) (fun i => ys[i]?) i H2 v H3 → gTup K 2 (gCons (gName 2) (gCons (gName 3) gNil)) v (wipe [some (.ref a), some (.ref b), none, none] [2, 3]) H3 fun σ2 H2 => wipe σ2 [2, 3] = wipe [some (.ref a), some (.ref b), none, none] [2, 3] ∧ tYes σ2 H2 fun c H3 => if c = true then tCall (spSame K n) [] E0 (tCons (tVar 2) (tCons (tVar 3) tNil)) σ2 H3 fun y H4 => ∃ acc, H4 D = some (.lst acc) ∧ acc.length < sizeLine ∧ (Ex H1 (upd H4 D (.lst (acc ++ [y]))) ∧ upd H4 D (.lst (acc ++ [y])) D = some (.lst ((List.replicate (i + 1) true).map V.bl))) else (Ex H1 H3 ∧ H3 D = some (.lst ((List.replicate (i + 1) true).map V.bl))) := fun D i v H2 H3 σ nD hi h yp => by
          obtain ⟨x2, hD⟩ := h
          obtain ⟨t, u, z, rfl, nt, rfl, eu, ez⟩ := yp
          have xt := Ex.new (o := .tup [u, z]) nt
          have hDt := xt _ _ hD
          obtain ⟨z', ez', sv⟩ := paired_get2 pr1 eu
          dsimp only at ez
          rw [ez] at ez'
          cases ez'
          refine ⟨t, _, rfl, .inl (.inl upd_same), rfl, u, [z], rfl, z, [], rfl, rfl, rfl, u, rfl, z, rfl, u, z, rfl, sv.ex (x2.trans xt), fun H4 x4 => ⟨_, x4 _ _ hDt, by rw [List.length_map, List.length_replicate, sizeLine_eq]; omega, fun c o e => (upd_ne fun q => by rw [q, nD] at e; cases e).trans (x4 _ _ (xt _ _ (x2 _ _ e))), ?_⟩⟩
          rw [upd_same, List.replicate_succ', List.map_append]
          rfl
        rcases sq with ⟨h1, h2⟩ | ⟨h1, h2⟩
        · refine ⟨.ref a, rfl, .ref b, rfl, a, b, xs, ys, rfl, .inl ⟨x1.sqL h1, x1.sqL h2, fun D nD => lc_it (walk_zip rfl) (fun i H' => Ex H1 H' ∧ H' D = some (.lst ((List.replicate i true).map V.bl))) ⟨Ex.new nD, upd_same⟩ (fun i H' _ h => ⟨h.1.sqL (x1.sqL h1), h.1.sqL (x1.sqL h2)⟩) (fun i v H2 H3 hi h yp => stp D i v H2 H3 [] nD hi h yp) fun H' h => ?_⟩⟩
          rw [← ll, Nat.min_self] at h
          exact fin D H' h.1 h.2
        · refine ⟨.ref a, rfl, .ref b, rfl, a, b, xs, ys, rfl, .inr ⟨x1.sqT h1, x1.sqT h2, fun D nD => lc_it (walk_zipT rfl) (fun i H' => Ex H1 H' ∧ H' D = some (.lst ((List.replicate i true).map V.bl))) ⟨Ex.new nD, upd_same⟩ (fun i H' _ h => ⟨h.1.sqT (x1.sqT h1), h.1.sqT (x1.sqT h2)⟩) (fun i v H2 H3 hi h yp => stp D i v H2 H3 [] nD hi h yp) fun H' h => ?_⟩⟩
          rw [← ll, Nat.min_self] at h
          exact fin D H' h.1 h.2
end
end TH

/-! J8: _law_body -/
namespace TH
open PySem PySem.Spec PyProof.Rows L2 LamV LamX XK0
open C8 (pss_cut tCut)
abbrev sBody : Stmt := top 38
def ofParts : List (Nat ⊕ (Str × Bd)) → Bd
  | [] => .nil
  | .inl n :: r => .unit n (ofParts r)
  | .inr (w, c) :: r => .lock w c (ofParts r)
theorem parts_of : ∀ ps, (ofParts ps).parts = ps
  | [] => rfl
  | .inl n :: r => congrArg (Sum.inl n :: ·) (parts_of r)
  | .inr (w, c) :: r => congrArg (Sum.inr (w, c) :: ·) (parts_of r)
def tb3 : Nat → Nat
  | 0 => 0
  | m + 1 => 3 * (1 + tb3 m)
def cb3 : Nat → Nat
  | 0 => 9
  | m + 1 => 3 * cb3 m
def tb1 : Nat → Nat
  | 0 => 0
  | m + 1 => 1 + tb3 m
def cb1 : Nat → Nat
  | 0 => 3
  | m + 1 => cb3 m
/-- what is drawn -/
structure GoodB (m : Nat) (ts : List Str) (b : Bd) : Prop where
  ne : b ≠ .nil
  dep : b.dep ≤ m
  len : b.len ≤ 3
  wid : b.wid ≤ 3
  ok : ∀ ws : List Str, (∀ x ∈ ws, x ∉ ts) → b.ok ws
  tl : b.things.length ≤ tb3 m
  tm : ∀ x ∈ b.things, x ∈ ts
  cost : b.cost ≤ cb3 m
def GoodP (m : Nat) (ts : List Str) : Nat ⊕ (Str × Bd) → Prop
  | .inl n => 1 ≤ n ∧ n ≤ 3
  | .inr (w, c) => w ∈ ts ∧ okS w = true ∧ ∃ m' ts', m = m' + 1 ∧ w ∉ ts' ∧ (∀ x ∈ ts', x ∈ ts) ∧ GoodB m' ts' c
theorem cb3_ge : ∀ m, 9 ≤ cb3 m
  | 0 => Nat.le_refl _
  | m + 1 => by have := cb3_ge m; show 9 ≤ 3 * cb3 m; omega
/-- of the parts, with how many they are -/
structure GoodL (m : Nat) (ts : List Str) (k : Nat) (b : Bd) : Prop where
  dep : b.dep ≤ m
  len : b.len = k
  wid : k ≤ 3 → b.wid ≤ 3
  ok : ∀ ws : List Str, (∀ x ∈ ws, x ∉ ts) → b.ok ws
  tl : b.things.length ≤ k * tb1 m
  tm : ∀ x ∈ b.things, x ∈ ts
  cost : b.cost ≤ k * cb1 m
theorem goodL_of {m : Nat} {ts : List Str} : ∀ {ps : List (Nat ⊕ (Str × Bd))}, (∀ p ∈ ps, GoodP m ts p) → GoodL m ts ps.length (ofParts ps)
  | [], _ => ⟨Nat.zero_le _, rfl, fun _ => Nat.zero_le _, fun _ _ => trivial, Nat.zero_le _, (fun _ z => by cases z), Nat.zero_le _⟩
  | .inl n :: r, h => by
    have g := goodL_of (ps := r) fun p mp => h p (List.mem_cons_of_mem _ mp)
    obtain ⟨n1, n3⟩ : 1 ≤ n ∧ n ≤ 3 := h _ List.mem_cons_self
    refine ⟨g.dep, congrArg (· + 1) g.len, fun k => ?_, fun ws hw => ⟨n1, g.ok ws hw⟩, ?_, g.tm, ?_⟩
    · have k : r.length + 1 ≤ 3 := k
      have e : (ofParts r).len + 1 ≤ 3 := by rw [g.len]; exact k
      exact Nat.max_le.mpr ⟨e, g.wid (by omega)⟩
    · show (ofParts r).things.length ≤ (r.length + 1) * _
      rw [Nat.succ_mul]
      exact Nat.le_trans g.tl (Nat.le_add_right _ _)
    · show n + (ofParts r).cost ≤ (r.length + 1) * _
      rw [Nat.succ_mul]
      have := g.cost
      cases m with
      | zero =>
        have z : (ofParts r).cost ≤ r.length * 3 := this
        show n + (ofParts r).cost ≤ r.length * 3 + 3
        omega
      | succ m =>
        have c9 := cb3_ge m
        have := g.cost
        show n + (ofParts r).cost ≤ r.length * cb3 m + cb3 m
        have z : (ofParts r).cost ≤ r.length * cb3 m := this
        omega
  | .inr (w, c) :: r, h => by
    have g := goodL_of (ps := r) fun p mp => h p (List.mem_cons_of_mem _ mp)
    obtain ⟨w1, w2, m', ts', rfl, w3, w4, gc⟩ : w ∈ ts ∧ okS w = true ∧ ∃ m' ts', m = m' + 1 ∧ w ∉ ts' ∧ (∀ x ∈ ts', x ∈ ts) ∧ GoodB m' ts' c := h _ List.mem_cons_self
    refine ⟨Nat.max_le.mpr ⟨Nat.succ_le_succ gc.dep, g.dep⟩, congrArg (· + 1) g.len, fun k => ?_, fun ws hw => ⟨w2, fun z => hw w z w1, gc.ne, gc.ok _ fun x mx => ?_, g.ok ws hw⟩, ?_, fun x mx => ?_, ?_⟩
    · have k : r.length + 1 ≤ 3 := k
      have e : (ofParts r).len + 1 ≤ 3 := by rw [g.len]; exact k
      exact Nat.max_le.mpr ⟨e, Nat.max_le.mpr ⟨gc.wid, g.wid (by omega)⟩⟩
    · rcases List.mem_append.mp mx with mx | mx
      · exact fun z => hw x mx (w4 x z)
      · rw [List.mem_singleton.mp mx]; exact w3
    · show (w :: (c.things ++ (ofParts r).things)).length ≤ (r.length + 1) * (1 + tb3 m')
      rw [List.length_cons, List.length_append, Nat.succ_mul]
      have h1 := gc.tl
      have h2 : (ofParts r).things.length ≤ r.length * (1 + tb3 m') := g.tl
      omega
    · rcases List.mem_cons.mp mx with rfl | mx
      · exact w1
      · rcases List.mem_append.mp mx with mx | mx
        · exact w4 x (gc.tm x mx)
        · exact g.tm x mx
    · show c.cost + (ofParts r).cost ≤ (r.length + 1) * cb3 m'
      rw [Nat.succ_mul]
      have h1 := gc.cost
      have h2 : (ofParts r).cost ≤ r.length * cb3 m' := g.cost
      omega
theorem goodB_of {m : Nat} {ts : List Str} {ps : List (Nat ⊕ (Str × Bd))} (h : ∀ p ∈ ps, GoodP m ts p) (l : ps.length ≤ 3) (n : 1 ≤ ps.length) : GoodB m ts (ofParts ps) := by
  have g := goodL_of h
  refine ⟨fun z => ?_, g.dep, by rw [g.len]; exact l, g.wid l, g.ok, ?_, g.tm, ?_⟩
  · have e := g.len
    rw [z] at e
    have e : 0 = ps.length := e
    omega
  · have := g.tl
    cases m with
    | zero => exact Nat.le_trans this (by show ps.length * 0 ≤ 0; omega)
    | succ m =>
      have z : (ofParts ps).things.length ≤ ps.length * (1 + tb3 m) := this
      exact Nat.le_trans z (Nat.mul_le_mul_right _ l)
  · have := g.cost
    cases m with
    | zero =>
      have z : (ofParts ps).cost ≤ ps.length * 3 := this
      show _ ≤ 9
      omega
    | succ m =>
      have z : (ofParts ps).cost ≤ ps.length * cb3 m := this
      exact Nat.le_trans z (Nat.mul_le_mul_right _ l)
theorem if_t {A B : Prop} (h : A) : if true = true then A else B := h
theorem if_f {A B : Prop} (h : B) : if false = true then A else B := h
/-- [x for x in things if ..] -/
theorem oth_goG {K : PySem.W.Frag} {tt : TT} {σ : L2.St} {H : Hp} {Q : VK} {i j : Nat} {va : Addr} {vals : List Str} (P : Str → Bool) (len : j < σ.length) (s1 : σ[i]? = some (some (.ref va))) (hva : H va = some (.lst (vals.map V.str))) (ln : vals.length ≤ 60)
    (htt : ∀ (x : Str) (H2 : Hp) (Q2 : Bool → Hp → Prop), Q2 (P x) H2 → tt ((wipe σ [j]).set j (some (.str x))) H2 Q2)
    (hQ : ∀ q H', Ex H H' → H q = none → H' q = some (.lst ((vals.filter P).map V.str)) → Q (.ref q) H') : tLc (iList K (tVar i)) (gName j) tt (tVar j) [j] σ H Q := by
  refine ⟨.ref va, s1, va, rfl, ⟨_, .inl (.inl hva)⟩, fun D nD => ?_⟩
  refine lc_list (K := K) (xs := vals.map V.str) (fun i H2 => Ex H H2 ∧ H2 D = some (.lst (((vals.take i).filter P).map V.str))) ⟨Ex.new nD, upd_same⟩ (fun i H2 _ h => .inl (.inl (h.1 _ _ hva))) (fun i v H2 hv2 h => ?_) fun H2 h => ?_
  · obtain ⟨x2, hD⟩ := h
    rw [List.getElem?_map] at hv2
    obtain ⟨w, ew, rfl⟩ := Option.map_eq_some_iff.mp hv2
    have a3 : (((wipe σ [j]).set j (some (V.str w))))[j]? = some (some (V.str w)) := List.getElem?_set_self (by rw [wipe_length]; exact len)
    refine ⟨?_, htt w H2 _ ?_⟩
    · show ((σ.set j none).set j (some (V.str w))).set j none = σ.set j none
      rw [List.set_set, List.set_set]
    have tk : (vals.take (i + 1)).filter P = (vals.take i).filter P ++ (if P w = true then [w] else []) := by
      rw [List.take_add_one, ew, Option.toList_some, List.filter_append]
      cases h : P w <;> simp [h]
    rw [tk]
    cases hP : P w with
    | false => exact ⟨x2, by rw [if_neg Bool.false_ne_true, List.append_nil]; exact hD⟩
    | true =>
      have pl : ((vals.take i).filter P).length ≤ 60 := by
        have := List.length_filter_le P (vals.take i)
        rw [List.length_take] at this
        omega
      refine ⟨.str w, a3, _, hD, by rw [sizeLine_eq, List.length_map]; omega, fun c o e => (upd_ne fun z => by rw [z, nD] at e; cases e).trans (x2 _ _ e), ?_⟩
      rw [upd_same, if_pos rfl, List.map_append]
      rfl
  · obtain ⟨x2, hD⟩ := h
    rw [List.length_map, List.take_length] at hD
    exact hQ D H2 x2 nD hD
theorem dec_str (x y : Str) : decide (V.str x = V.str y) = decide (x = y) := by
  by_cases z : x = y
  · rw [z, decide_eq_true rfl, decide_eq_true rfl]
  · rw [decide_eq_false z, decide_eq_false fun q => z (V.str.inj q)]
def spBody (m : Nat) : Sp := fun vs H Q _ => ∃ (p t : Addr) (n : Nat) (ts : List Str) (k : Nat), vs = [.ref p, .ref t, .int k] ∧ k + m = 3 ∧ 1 ≤ m ∧ Pool H p n ∧ n + 8 ^ (m + 1) < 1000000 ∧ H t = some (.lst (ts.map V.str)) ∧ t ≠ p ∧ (∀ x ∈ ts, okS x = true ∧ PyData.canLay0 (.str x) = true) ∧ ts.length ≤ 10 ∧ (m = 1 → ts = []) ∧
  ∀ (q : Addr) (xs : List V) (b : Bd) (H' : Hp), ExA p H H' → Pool H' p (n + 8 ^ (m + 1)) → H' q = some (.tup xs) → CanB H' b xs → GoodB (m - 1) ts b → Q (.ref q) H'
section
variable {P : Program} {w : World} {K : PySem.W.Frag} {mg : Str → Option Value} {base : Heap} {f : Addr} {fd : FuncData}
theorem scBody : FnScope ["_law_pool_here", "_law_things", "_law_deep", "_law_found", "_law_k", "_law_thing", "_law_left", "_law_one_here"] ["_law_pool_here", "_law_things", "_law_deep"] (defScope sBody) := ⟨rfl, rfl, rfl, by decide +kernel, rfl, by decide +kernel, by decide +kernel⟩
theorem ok_body (F : FnP K "_law_body" sBody f fd) (gJ : mg "_law_body" = some (.ref f)) (bJ : Binds K fd ["_law_pool_here", "_law_things", "_law_deep"] []) (FT : Has P w K mg base "_law_take" 1 ["_law_pool_here", "_law_many"] spTakeP) (FO : Has P w K mg base "_law_one" 2 ["_law_pool_here", "_law_things"] spOneP) (gr : mg "range" = none) (gt : mg "tuple" = none) :
    ∀ m, FnOk P w K mg base CX0 (m + 3) f fd ["_law_pool_here", "_law_things", "_law_deep"] (spBody m)
  | 0 => by
    refine F.ok scBody (fun vs H Q E h => ?_) (fun cdv A outer s H vs Q E hr h => ?_)
    · obtain ⟨p, t, n, ts, k, rfl, _⟩ := h
      rfl
    · obtain ⟨p, t, n, ts, k, _, _, h, _⟩ := h
      exact absurd h (by decide)
  | m + 1 => by
    have FJ : Has P w K mg base "_law_body" (m + 3) ["_law_pool_here", "_law_things", "_law_deep"] (spBody m) := ⟨f, fd, gJ, F.kp, bJ, ok_body F gJ bJ FT FO gr gt m⟩
    refine F.ok scBody (fun vs H Q E h => ?_) (fun cdv A outer s H vs Q E hr h => ?_)
    · obtain ⟨p, t, n, ts, k, rfl, _⟩ := h
      rfl
    · have hu := hu_of hr
      refine ⟨_, PSs.nox (pss_cons (ps_set (i := 3) scBody.nd rfl (.inl rfl) (pe_lst pa_nil))
        (pss_cons (ps_for PassesOwn.never rfl (pi_range1 rfl gr (pa_cons (pe_op op_add pe_int (pe_has FT hr (by omega) rfl (pa_cons (pv 0) (pa_cons (pe_op op_sub pe_int (pv 2)) pa_nil)))) pa_nil)) (pg_name (i := 4) scBody.nd rfl (.inl rfl))
          (pss_one (ps_if (PW.pt (pw_and (pt_cmpR (op_neD hr.units) (pv 1) (pe_lst pa_nil) (nomark _)) (pw_and1 (pt_cmp (pc_eqI (pe_has FT hr (by omega) rfl (pa_cons (pv 0) (pa_cons pe_int pa_nil))) pe_int)))))
            (pss_cut (ps_set (i := 5) scBody.nd rfl (.inr rfl) (pe_has FO hr (by omega) rfl (pa_cons (pv 0) (pa_cons (pv 1) pa_nil))))
            (pss_cut (ps_set (i := 6) scBody.nd rfl (.inl rfl) (pe_ifExp (pt_cmpR op_lt (pv 2) pe_int (nomark _)) (pe_lc (te := tVar 7) (tt := tTest (tOp rNe (tVar 7) (tVar 5))) (own := [("_law_one_here", 7)]) rfl scBody.nd (pi_list (pv 1)) (blkOk_by (by kernel_rfl)) (fun s H C cl fp => pg_name (i := 7) scBody.nd rfl (.inl rfl) (.inr rfl)) (fun s H C cl fp => pts_one (pt_cmpR op_ne (pv 7) (pv 5) (nomark _))) (fun s H C cl fp => pv 7)) (pe_lst pa_nil)))
            (pss_one (ps_expr (pe_bm PySem.F.plainAttrs_list PySem.F.slot_list_append PySem.F.type_list_append mt_append (pv 3) (pa_cons (pe_tup (pa_cons (pv 5) (pa_cons (pe_has FJ hr (by omega) rfl (pa_cons (pv 0) (pa_cons (pv 6) (pa_cons (pe_op op_add (pv 2) pe_int) pa_nil)))) pa_nil))) pa_nil))))))
            (pss_one (ps_expr (pe_bm PySem.F.plainAttrs_list PySem.F.slot_list_append PySem.F.type_list_append mt_append (pv 3) (pa_cons (pe_op op_add pe_int (pe_has FT hr (by omega) rfl (pa_cons (pv 0) (pa_cons pe_int pa_nil)))) pa_nil)))))))
        (pss_one (ps_ret (pe_callTy call_tuple_of rfl gt boot_tuple (pa_cons (pv 3) pa_nil)))))), ?_⟩
      obtain ⟨p, t, n, ts, k, rfl, km, _, S, hn, ht, tp, tok, tl, tz, hQ⟩ := h
      have p1 : 8 ^ (m + 1 + 1) = 8 * 8 ^ (m + 1) := by rw [Nat.pow_succ]; omega
      have p2 : 8 ≤ 8 ^ (m + 1) := by rw [Nat.pow_succ]; have : 0 < 8 ^ m := Nat.pow_pos (by decide); omega
      generalize eC : 8 ^ (m + 1) = C at *
      have s2 : 2 ≤ sizeLine := by decide
      refine ⟨Nat.zero_le _, fun fo nfo => ?_⟩
      have x1 := Ex.new (o := .lst []) nfo
      have hfo : upd H fo (.lst []) fo = some (.lst []) := upd_same
      have fp := S.off nfo
      have ft : fo ≠ t := fun z => by rw [z, ht] at nfo; cases nfo
      generalize upd H fo (.lst []) = H1 at x1 hfo ⊢
      refine ⟨.ref p, rfl, .int k, rfl, 3, k, rfl, rfl, p, 3 - (k : Int), n, rfl, S.ex x1, by omega, by omega, by omega, fun dd H2 hd x2 S2 => ⟨1, dd, rfl, rfl, 1 + (dd : Int), rfl, by omega, by omega, ?_⟩⟩
      have eN : (1 + (dd : Int)).toNat = 1 + dd := by omega
      rw [eN]
      have y2 : ExA p H H2 := x1.exA.trans x2
      have h2fo := x2 _ _ fp hfo
      have Pe : ∃ Pv : Nat → L2.St → Hp → Prop, Pv = fun i σ' H' => ∃ (o4 o5 o6 : Option V) (acc : List V) (ps : List (Nat ⊕ (Str × Bd))), σ' = [some (.ref p), some (.ref t), some (.int k), some (.ref fo), o4, o5, o6, none] ∧ ExA p H H' ∧ Pool H' p (n + 1 + i * (2 + C)) ∧ H' fo = some (.lst acc) ∧ Paired (CanP H') ps acc ∧ (∀ q ∈ ps, GoodP m ts q) ∧ ps.length = i := ⟨_, rfl⟩
      obtain ⟨Pv, ePv⟩ := Pe
      refine for_range (n := 1 + dd) Pv (by rw [ePv]; exact ⟨none, none, none, [], [], rfl, y2, S2.mono (by omega), h2fo, .nil, (fun _ z => by cases z), rfl⟩) (fun i σ' H' hi h => ?_) fun σ' H' h => ?_
      · rw [ePv] at h
        obtain ⟨o4, o5, o6, acc, ps, rfl, x3, S3, h3, pc, gp, pl⟩ := h
        have hi : i < 1 + dd := hi
        have al : acc.length = i := by rw [← Paired.length pc]; exact pl
        have ib : i ≤ 2 := by omega
        have ht3 := x3 _ _ tp ht
        have mulb : i * (2 + C) ≤ 2 * (2 + C) := Nat.mul_le_mul_right _ ib
        -- a new part at the end
        have put : ∀ (H5 : Hp) (o4 o5 o6 : Option V) (pt : Nat ⊕ (Str × Bd)) (y : V), ExA p H' H5 → Pool H5 p (n + 1 + (i + 1) * (2 + C)) → CanP H5 pt y → GoodP m ts pt → Pv (i + 1) [some (.ref p), some (.ref t), some (.int k), some (.ref fo), o4, o5, o6, none] (upd H5 fo (.lst (acc ++ [y]))) := fun H5 o4 o5 o6 pt y x5 S5 cy gy => by
          rw [ePv]
          have k3 := x5 _ _ fp h3
          have kt : KeepT H' H5 := fun c zs e => x5.nl S3 e fun _ z => nomatch z
          have kt2 : KeepT H5 (upd H5 fo (.lst (acc ++ [y]))) := fun c zs e => (upd_ne fun z => by rw [z, k3] at e; cases e).trans e
          refine ⟨o4, o5, o6, acc ++ [y], ps ++ [pt], rfl, fun c o nc e => (upd_ne fun z => by rw [z, nfo] at e; cases e).trans (x5 _ _ nc (x3 _ _ nc e)), S5.put fp, upd_same, paired_app (Paired.mapP pc fun _ _ z => (z.kt kt).kt kt2) (cy.kt kt2), fun q mq => ?_, by rw [List.length_append, pl]; rfl⟩
          rcases List.mem_append.mp mq with mq | mq
          · exact gp q mq
          · rw [List.mem_singleton.mp mq]; exact gy
        have unit : ∀ (D' : Ends) (H5 : Hp) (n5 : Nat) (o4 : Option V), (∀ σ' H', Pv (i + 1) σ' H' → D'.nx σ' H') → ExA p H' H5 → Pool H5 p n5 → n5 ≤ n + 1 + i * (2 + C) + 1 → tDrop (tBM K "list" rAppend (tVar 3) (tCons (tOp (rI0 fun i j => .int (i + j)) (tC (.int 1)) (tCall spTakeP [] E0 (tCons (tVar 0) (tCons (tC (.int 3)) tNil)))) tNil)) D' [some (.ref p), some (.ref t), some (.int k), some (.ref fo), o4, o5, o6, none] H5 := fun D' H5 n5 o4 nx x5 S5 l5 => by
          refine ⟨.ref fo, rfl, .inl ⟨rfl, _, .inl (.inl (x5 _ _ fp h3))⟩, .ref p, rfl, p, 3, n5, rfl, S5, by omega, by decide, by decide, fun d H6 hd x6 S6 => ⟨1, d, rfl, rfl, fo, acc, .int (1 + (d : Int)), rfl, rfl, x6 _ _ fp (x5 _ _ fp h3), by rw [al, sizeLine_eq]; omega, ?_⟩⟩
          refine nx _ _ (put H6 o4 o5 o6 (.inl (1 + d)) _ (x5.trans x6) (S6.mono (by rw [Nat.succ_mul]; omega)) ?_ ⟨by omega, by omega⟩)
          show V.int (1 + (d : Int)) = V.int ((1 + d : Nat) : Int)
          rw [show (1 : Int) + (d : Int) = ((1 + d : Nat) : Int) by omega]
        refine ⟨.ref t, rfl, Nat.zero_le _, fun e ne => ?_⟩
        have xe := Ex.new (o := .lst []) ne
        have he : upd H' e (.lst []) e = some (.lst []) := upd_same
        generalize upd H' e (.lst []) = H4 at xe he ⊢
        refine ⟨.list (ts.map PyData.str), .list [], .lst (.inl (.inl (xe _ _ ht3))) (dp_strs ts), .lst (.inl (.inl he)) .nil, shaped_strs (fun x mx => (tok x mx).2), rfl, _, rfl, ?_⟩
        rw [eqv_nil]
        by_cases tn : ts = []
        · rw [decide_eq_true tn]
          exact unit _ H4 (n + 1 + i * (2 + C)) _ (fun σ' H' h => h) xe.exA (S3.ex xe) (by omega)
        · rw [decide_eq_false tn]
          have m0 : m ≠ 0 := fun z => tn (tz (by omega))
          refine ⟨.ref p, rfl, p, 2, _, rfl, S3.ex xe, by omega, by decide, by decide, fun d H5 hd x5 S5 => ⟨d, 0, rfl, rfl, ?_⟩⟩
          have x45 := xe.exA.trans x5
          by_cases d0 : d = 0
          · refine ⟨true, congrArg V.bl (decide_eq_true (by rw [d0]; rfl)), ?_⟩
            have ddeep : m = 1 ∨ m = 2 := by omega
            -- thing
            refine ⟨fun σ' H' => ∃ x : Str, σ' = [some (.ref p), some (.ref t), some (.int k), some (.ref fo), some (.int ((0 : Int) + (i : Nat))), some (.str x), o6, none] ∧ ExA p H5 H' ∧ Pool H' p (n + 1 + i * (2 + C) + 2) ∧ x ∈ ts, ?_, ?_⟩
            · refine ⟨.ref p, rfl, .ref t, rfl, p, t, _, _, rfl, S5, by omega, tp, x45 _ _ tp ht3, (fun z => tn (List.map_eq_nil_iff.mp z)), by rw [List.length_map]; omega, fun y H6 my x6 S6 => ?_⟩
              obtain ⟨x, mx, rfl⟩ := List.mem_map.mp my
              exact ⟨x, rfl, x6, S6, mx⟩
            rintro σ6 H6 ⟨x, rfl, x6, S6, mx⟩
            have x46 := x45.trans x6
            -- left
            refine ⟨fun σ' H' => ∃ (lf : Addr) (ts' : List Str), σ' = [some (.ref p), some (.ref t), some (.int k), some (.ref fo), some (.int ((0 : Int) + (i : Nat))), some (.str x), some (.ref lf), none] ∧ Ex H6 H' ∧ H6 lf = none ∧ H' lf = some (.lst (ts'.map V.str)) ∧ x ∉ ts' ∧ (∀ z ∈ ts', z ∈ ts) ∧ ts'.length ≤ 10 ∧ (m = 1 → ts' = []), ?_, ?_⟩
            · rcases ddeep with dm | dm
              · refine ⟨.int k, rfl, k, 1, rfl, rfl, false, congrArg V.bl (decide_eq_false (by omega)), Nat.zero_le _, fun lf nlf => ⟨lf, [], rfl, Ex.new nlf, nlf, upd_same, List.not_mem_nil, (fun _ z => by cases z), Nat.zero_le _, fun _ => rfl⟩⟩
              · refine ⟨.int k, rfl, k, 1, rfl, rfl, true, congrArg V.bl (decide_eq_true (by omega)), ?_⟩
                refine if_t ?_
                show tLc (iList K (tVar 1)) (gName 7) (tTest (tOp rNe (tVar 7) (tVar 5))) (tVar 7) [7] _ _ _
                refine oth_goG (fun v => !decide (v = x)) (by show 7 < 8; decide) rfl (x46 _ _ tp ht3) (by omega) (fun z H2 Q2 q => ⟨.str z, rfl, .str x, rfl, rfl, _, rfl, ?_⟩) fun lf H7 x7 nlf hlf => ⟨lf, ts.filter fun v => !decide (v = x), rfl, x7, nlf, hlf, ?_, fun z mz => (List.mem_filter.mp mz).1, Nat.le_trans (List.length_filter_le _ _) tl, fun z => ?_⟩
                · rw [dec_str]
                  exact q
                · intro z
                  have := (List.mem_filter.mp z).2
                  rw [decide_eq_true rfl] at this
                  cases this
                · omega
            rintro σ7 H7 ⟨lf, ts', rfl, x7, nlf, hlf, nx, sub, tl', tz'⟩
            have x47 := x46.trans x7.exA
            have S7 := S6.ex x7
            refine ⟨.ref fo, rfl, .inl ⟨rfl, _, .inl (.inl (x47 _ _ fp h3))⟩, .str x, rfl, .ref p, rfl, .ref lf, rfl, .int k, rfl, k, 1, rfl, rfl, p, lf, _, ts', k + 1, rfl, by omega, by omega, S7, by rw [eC]; omega, hlf, S6.off nlf, (fun z mz => tok z (sub z mz)), tl', tz', fun q zs c H8 x8 S8 hq cq gc => ⟨s2, fun tq ntq => ?_⟩⟩
            have x9 := Ex.new (o := .tup [.str x, .ref q]) ntq
            have x49 := (x47.trans x8).trans x9.exA
            refine ⟨fo, acc, .ref tq, rfl, rfl, x49 _ _ fp h3, by rw [al, sizeLine_eq]; omega, ?_⟩
            refine put _ _ _ _ (.inr (x, c)) _ x49 ((S8.ex x9).mono (by rw [Nat.succ_mul, eC]; omega)) ⟨tq, q, zs, rfl, upd_same, x9 _ _ hq, cq.kt x9.kt⟩ ⟨mx, (tok x mx).1, m - 1, ts', by omega, nx, sub, gc⟩
          · refine ⟨false, congrArg V.bl (decide_eq_false (by omega)), ?_⟩
            exact unit _ H5 _ _ (fun σ' H' h => h) x45 S5 (by omega)
      · rw [ePv] at h
        obtain ⟨o4, o5, o6, acc, ps, rfl, x3, S3, h3, pc, gp, pl⟩ := h
        have mulb : (1 + dd) * (2 + C) ≤ 3 * (2 + C) := Nat.mul_le_mul_right _ (by omega)
        refine ⟨.ref fo, rfl, fo, acc, rfl, .inl ⟨.inl (.inl h3), fun q nq => ?_⟩⟩
        have xq := Ex.new (o := .tup acc) nq
        refine hQ q acc (ofParts ps) _ (x3.trans xq.exA) ((S3.ex xq).mono (by omega)) upd_same (can_of ?_) (goodB_of gp (by omega) (by omega))
        rw [parts_of]
        exact Paired.mapP pc fun _ _ z => z.kt xq.kt
end
end TH

/-! J9: _law_units -/
namespace TH
open PySem PySem.Spec PyProof.Rows L2 LamV LamX XK0
open C8 (pss_cut tCut)
abbrev sUnits : Stmt := top 40
def Bd.arounds : Bd → List Str → List (List Str)
  | .nil, _ => []
  | .unit n r, ws => List.replicate n ws ++ arounds r ws
  | .lock w c r, ws => arounds c (ws ++ [w]) ++ arounds r ws
theorem Bd.ar_len : ∀ (b : Bd) (ws : List Str), (b.arounds ws).length = b.cost
  | .nil, _ => rfl
  | .unit n r, ws => by
    show (List.replicate n ws ++ r.arounds ws).length = n + r.cost
    rw [List.length_append, List.length_replicate, ar_len r ws]
  | .lock w c r, ws => by
    show (c.arounds (ws ++ [w]) ++ r.arounds ws).length = c.cost + r.cost
    rw [List.length_append, ar_len c, ar_len r]
def parL : Nat ⊕ (Str × Bd) → List Str → List (List Str)
  | .inl n, ws => List.replicate n ws
  | .inr (w, c), ws => c.arounds (ws ++ [w])
def arL : List (Nat ⊕ (Str × Bd)) → List Str → List (List Str)
  | [], _ => []
  | p :: r, ws => parL p ws ++ arL r ws
theorem arL_app (ws : List Str) : ∀ a b, arL (a ++ b) ws = arL a ws ++ arL b ws
  | [], b => rfl
  | p :: r, b => by
    show parL p ws ++ arL (r ++ b) ws = (parL p ws ++ arL r ws) ++ arL b ws
    rw [arL_app ws r b, List.append_assoc]
theorem arL_parts (ws : List Str) : ∀ b : Bd, arL b.parts ws = b.arounds ws
  | .nil => rfl
  | .unit n r => congrArg (List.replicate n ws ++ ·) (arL_parts ws r)
  | .lock w c r => congrArg (c.arounds (ws ++ [w]) ++ ·) (arL_parts ws r)
theorem arL_len (ws : List Str) (l : List (Nat ⊕ (Str × Bd))) : (arL l ws).length = costs l := by
  induction l with
  | nil => rfl
  | cons p r ih =>
    show (parL p ws ++ arL r ws).length = pcost p + costs r
    rw [List.length_append, ih]
    cases p with
    | inl n => show (List.replicate n ws).length + _ = _; rw [List.length_replicate]; rfl
    | inr wc =>
      obtain ⟨w, c⟩ := wc
      show (c.arounds (ws ++ [w])).length + _ = _
      rw [Bd.ar_len]
      rfl
theorem costs_take (l : List (Nat ⊕ (Str × Bd))) (i : Nat) : costs (l.take i) ≤ costs l := by
  have e := costs_app (l.take i) (l.drop i)
  rw [List.take_append_drop] at e
  omega
theorem part_cost {b : Bd} {p : Nat ⊕ (Str × Bd)} (h : p ∈ b.parts) : pcost p ≤ b.cost := by
  rw [← cost_parts b]
  obtain ⟨i, hi⟩ := List.mem_iff_getElem?.mp h
  have e := costs_app (b.parts.take i) (b.parts.drop i)
  rw [List.take_append_drop, drop_cons hi] at e
  rw [e]
  show _ ≤ _ + (pcost p + _)
  omega
def MarkA (H : Hp) (m : Addr) (w : Str) : Prop := ∃ z, H m = some (.tup [.str w, z])
def ArA (H : Hp) (a : Addr) (ws : List Str) : Prop := ∃ ms : List Addr, H a = some (.tup (ms.map V.ref)) ∧ Paired (MarkA H) ms ws
theorem ArA.kt {H H' : Hp} {a : Addr} {ws : List Str} (k : KeepT H H') (h : ArA H a ws) : ArA H' a ws := by
  obtain ⟨ms, e, p⟩ := h
  exact ⟨ms, k _ _ e, Paired.mapP p fun _ _ ⟨z, q⟩ => ⟨z, k _ _ q⟩⟩
theorem paired_apps {α β : Type} {R : α → β → Prop} {l1 l2 : List α} {m1 m2 : List β} (a : Paired R l1 m1) (b : Paired R l2 m2) : Paired R (l1 ++ l2) (m1 ++ m2) := by
  induction a with
  | nil => exact b
  | cons x _ ih => exact .cons x ih
theorem paired_rep {α β : Type} {R : α → β → Prop} {x : α} {y : β} (h : R x y) : ∀ n, Paired R (List.replicate n x) (List.replicate n y)
  | 0 => .nil
  | n + 1 => .cons h (paired_rep h n)
def spUnits (n : Nat) : Sp := fun vs H Q _ => ∃ (a ar : Addr) (xs : List V) (b : Bd) (ws : List Str), vs = [.ref a, .ref ar] ∧ H a = some (.tup xs) ∧ CanB H b xs ∧ ArA H ar ws ∧ ws.length + n ≤ 60 ∧ b.dep < n ∧ b.wid ≤ 100 ∧ b.pos ∧ b.cost ≤ 1000 ∧
  ∀ (q : Addr) (ps : List Addr) (H' : Hp), Ex H H' → H q = none → H' q = some (.lst (ps.map V.ref)) → Paired (ArA H') ps (b.arounds ws) → Q (.ref q) H'
section
variable {P : Program} {w : World} {K : PySem.W.Frag} {mg : Str → Option Value} {base : Heap} {f : Addr} {fd : FuncData}
theorem scUnits : FnScope ["_law_body_here", "_law_around", "_law_found", "_law_number", "_law_part"] ["_law_body_here", "_law_around"] (defScope sUnits) := ⟨rfl, rfl, rfl, by decide +kernel, rfl, by decide +kernel, by decide +kernel⟩
theorem ok_units (F : FnP K "_law_units" sUnits f fd) (gJ : mg "_law_units" = some (.ref f)) (bJ : Binds K fd ["_law_body_here", "_law_around"] []) (ge : mg "enumerate" = none) (gi : mg "isinstance" = none) (gI : mg "int" = none) (gn : mg "len" = none) :
    ∀ n, FnOk P w K mg base CX0 (n + 1) f fd ["_law_body_here", "_law_around"] (spUnits n)
  | 0 => by
    refine F.ok scUnits (fun vs H Q E h => ?_) (fun cdv A outer s H vs Q E hr h => ?_)
    · obtain ⟨a, ar, xs, b, ws, rfl, _⟩ := h
      rfl
    · obtain ⟨a, ar, xs, b, ws, _, _, _, _, _, h, _⟩ := h
      exact absurd h (Nat.not_lt_zero _)
  | n + 1 => by
    have FJ : Has P w K mg base "_law_units" (n + 1) ["_law_body_here", "_law_around"] (spUnits n) := ⟨f, fd, gJ, F.kp, bJ, ok_units F gJ bJ ge gi gI gn n⟩
    refine F.ok scUnits (fun vs H Q E h => ?_) (fun cdv A outer s H vs Q E hr h => ?_)
    · obtain ⟨a, ar, xs, b, ws, rfl, _⟩ := h
      rfl
    · have hu := hu_of hr
      refine ⟨_, PSs.nox (pss_cons (ps_set (i := 2) scUnits.nd rfl (.inl rfl) (pe_lst pa_nil))
        (pss_cons (ps_for PassesOwn.never rfl (pi_enumT rfl ge (pa_cons (pv 0) pa_nil)) (pg_tup rfl (pgs_cons (pg_name (i := 3) scUnits.nd rfl (.inl rfl)) (pgs_cons (pg_name (i := 4) scUnits.nd rfl (.inl rfl)) pgs_nil)))
          (pss_one (ps_if (pt_val (pe_callB call_isi rfl gi boot_isinstance (pa_cons (pv 4) (pa_cons (pe_bltn (v := .ty "int") rfl gI boot_int rfl) pa_nil))))
            (pss_one (ps_expr (pe_bm PySem.F.plainAttrs_list PySem.F.slot_list_extend PySem.F.type_list_extend mt_extend (pv 2) (pa_cons (pe_op op_rep (pe_lst (pa_cons (pv 1) pa_nil)) (pv 4)) pa_nil))))
            (pss_one (ps_expr (pe_bm PySem.F.plainAttrs_list PySem.F.slot_list_extend PySem.F.type_list_extend mt_extend (pv 2) (pa_cons (pe_has FJ hr (by omega) rfl (pa_cons (pe_ix ix_tup (pv 4) pe_int (fun _ _ => rfl)) (pa_cons (pe_op op_catA (pv 1) (pe_tup (pa_cons (pe_tup (pa_cons (pe_ix ix_tup (pv 4) pe_int (fun _ _ => rfl)) (pa_cons (pe_op op_add (pe_op op_mul (pe_callB call_len rfl gn boot_len (pa_cons (pv 1) pa_nil)) pe_int) (pv 3)) pa_nil))) pa_nil))) pa_nil))) pa_nil)))))))
        (pss_one (ps_ret (pv 2))))), ?_⟩
      obtain ⟨a, ar, xs, b, ws, rfl, ha, cb, har, wl, dp, wd, po, ct, hQ⟩ := h
      have pr := can_parts cb
      have xl : b.parts.length = xs.length := Paired.length pr
      have bl : b.parts.length ≤ 100 := by rw [Bd.parts_len]; exact Nat.le_trans (Bd.len_wid b) wd
      have ctp : costs b.parts ≤ 1000 := by rw [cost_parts]; exact ct
      refine ⟨Nat.zero_le _, fun fo nfo => ?_⟩
      have x1 := Ex.new (o := .lst []) nfo
      have hf0 : upd H fo (.lst []) fo = some (.lst []) := upd_same
      generalize upd H fo (.lst []) = H1 at x1 hf0 ⊢
      refine ⟨.ref a, rfl, a, xs, H, rfl, x1, .inr (.inl (.inl ha)), fun J ⟨G, W, gs⟩ => for_it W (fun i σ H2 => ∃ (ps : List Addr) (o3 o4 : Option V), σ = [some (.ref a), some (.ref ar), some (.ref fo), o3, o4] ∧ Ex H H2 ∧ H2 fo = some (.lst (ps.map V.ref)) ∧ Paired (ArA H2) ps (arL (b.parts.take i) ws))
        ⟨[], none, none, rfl, x1, hf0, .nil⟩ (fun i σ H2 _ ⟨_, _, _, _, x, _⟩ => gs H2 x) (fun i v σ H2 H3 hi h y => ?_) fun σ H2 h => ?_⟩
      · obtain ⟨ps, o3, o4, rfl, x2, hf, pc⟩ := h
        obtain ⟨t, u, x, rfl, nt, rfl, eu, ex⟩ := y
        cases eu
        obtain ⟨pt1, ep, cp⟩ := paired_get pr ex
        have psl : ps.length = costs (b.parts.take i) := by rw [Paired.length pc, arL_len]
        have ctk := costs_take b.parts i
        have xt : Ex H2 (upd H2 t (.tup [.int (i : Nat), x])) := Ex.new nt
        have mp := List.mem_of_getElem? ep
        have pct := part_cost mp
        refine ⟨t, _, rfl, .inl (.inl upd_same), rfl, .int i, [x], rfl, x, [], rfl, rfl, ?_⟩
        have x3 := x2.trans xt
        have hf3 := xt _ _ hf
        have pc3 : Paired (ArA (upd H2 t (.tup [.int (i : Nat), x]))) ps (arL (b.parts.take i) ws) := Paired.mapP pc fun _ _ z => z.kt xt.kt
        clear xt
        generalize upd H2 t (.tup [.int (i : Nat), x]) = H3 at x3 hf3 pc3 ⊢
        have har3 := har.kt x3.kt
        have cp3 := cp.kt x3.kt
        have put : ∀ (H5 : Hp) (qs : List Addr), Ex H3 H5 → Paired (ArA H5) qs (parL pt1 ws) → ∃ (ps2 : List Addr) (o3' o4' : Option V), [some (V.ref a), some (.ref ar), some (.ref fo), some (.int i), some x] = [some (V.ref a), some (.ref ar), some (.ref fo), o3', o4'] ∧ Ex H (upd H5 fo (.lst (ps.map V.ref ++ qs.map V.ref))) ∧ upd H5 fo (.lst (ps.map V.ref ++ qs.map V.ref)) fo = some (.lst (ps2.map V.ref)) ∧ Paired (ArA (upd H5 fo (.lst (ps.map V.ref ++ qs.map V.ref)))) ps2 (arL (b.parts.take (i + 1)) ws) := fun H5 qs x5 pq => by
          have hf5 := x5 _ _ hf3
          have kt : KeepT H5 (upd H5 fo (.lst (ps.map V.ref ++ qs.map V.ref))) := fun c zs e => (upd_ne fun z => by rw [z, hf5] at e; cases e).trans e
          refine ⟨ps ++ qs, _, _, rfl, fun c o e => (upd_ne fun z => by rw [z, nfo] at e; cases e).trans (x5 _ _ (x3 _ _ e)), by rw [upd_same, List.map_append], ?_⟩
          rw [List.take_add_one, ep, arL_app]
          show Paired _ _ (_ ++ (parL pt1 ws ++ []))
          rw [List.append_nil]
          exact paired_apps (Paired.mapP pc3 fun _ _ z => (z.kt x5.kt).kt kt) (Paired.mapP pq fun _ _ z => z.kt kt)
        cases pt1 with
        | inl m =>
          have ex2 : x = .int m := cp
          subst ex2
          have mc : m ≤ 1000 := Nat.le_trans pct ct
          have mc2 : costs (b.parts.take i) + m ≤ 1000 := by
            have e := costs_app (b.parts.take i) (b.parts.drop i)
            rw [List.take_append_drop, drop_cons ep] at e
            have e2 : costs (Sum.inl m :: b.parts.drop (i + 1)) = m + costs (b.parts.drop (i + 1)) := rfl
            omega
          refine ⟨.int m, rfl, .int m, .ty "int", _, _, _, rfl, .ty "int", .base (.int m), kit_int (T := "int") (by decide), true, rfl, ?_⟩
          refine ⟨.ref fo, rfl, .inl ⟨rfl, _, .inl (.inl hf3)⟩, .ref ar, rfl, by show 1 ≤ sizeLine; decide, fun l1 nl1 => ⟨.int m, rfl, l1, m, [.ref ar], rfl, rfl, upd_same, by omega, by omega, by rw [sizeLine_eq]; show 1 * (m : Int).toNat ≤ _; omega, fun l2 nl2 => ?_⟩⟩
          have x4 := (Ex.new (o := .lst [.ref ar]) nl1).trans (Ex.new (o := .lst (List.replicate (m : Int).toNat [V.ref ar]).flatten) nl2)
          have er : (List.replicate (m : Int).toNat [V.ref ar]).flatten = (List.replicate m ar).map V.ref := by
            rw [Int.toNat_natCast, List.map_replicate]
            clear mc mc2 ex ep pct cp cp3 put mp x4 nl2
            induction m with
            | zero => rfl
            | succ m ih => rw [List.replicate_succ, List.flatten_cons, ih]; rfl
          have h2 : upd (upd H3 l1 (.lst [.ref ar])) l2 (.lst (List.replicate (m : Int).toNat [V.ref ar]).flatten) l2 = some (.lst ((List.replicate m ar).map V.ref)) := by rw [upd_same, er]
          generalize upd (upd H3 l1 (.lst [.ref ar])) l2 (.lst (List.replicate (m : Int).toNat [V.ref ar]).flatten) = H5 at x4 h2 ⊢
          exact ⟨fo, l2, _, _, rfl, rfl, x4 _ _ hf3, h2, by rw [List.length_map, List.length_map, List.length_replicate, sizeLine_eq]; omega, put H5 _ x4 (paired_rep (har3.kt x4.kt) m)⟩
        | inr wc =>
          obtain ⟨w1, c⟩ := wc
          obtain ⟨q, q2, ys, rfl, h1, h2, h3⟩ := cp3
          obtain ⟨k1, k2, k3⟩ := Bd.part_lock po mp
          have k4 : c.cost ≤ b.cost := pct
          have mc2 : costs (b.parts.take i) + c.cost ≤ 1000 := by
            have e := costs_app (b.parts.take i) (b.parts.drop i)
            rw [List.take_append_drop, drop_cons ep] at e
            have e2 : costs (Sum.inr (w1, c) :: b.parts.drop (i + 1)) = c.cost + costs (b.parts.drop (i + 1)) := rfl
            omega
          obtain ⟨ms, hms, pm⟩ := har3
          have msl : ms.length = ws.length := Paired.length pm
          refine ⟨.ref q, rfl, .ref q, .ty "int", _, _, _, rfl, .ty "int", (sqT_kd (.inl (.inl h1))).2.1, kit_int (T := "tuple") (by decide), false, rfl, ?_⟩
          refine ⟨.ref fo, rfl, .inl ⟨rfl, _, .inl (.inl hf3)⟩, .ref q, rfl, q, _, 1, .ref q2, rfl, rfl, .inl (.inl h1), at_nat (k := 1) rfl, .ref ar, rfl, .ref q, rfl, q, _, 0, .str w1, rfl, rfl, .inl (.inl h1), at_nat (k := 0) rfl, .ref ar, rfl, .ref ar, ms.length, rfl, .inr ⟨_, .inl (.inl hms), by rw [List.length_map]⟩, ms.length, 100, rfl, rfl, .inr (by decide), .int i, rfl, _, i, rfl, rfl, by show 2 ≤ sizeLine; decide, fun mk nmk => ⟨by show 1 ≤ sizeLine; decide, fun t1 nt1 => ?_⟩⟩
          have x4 := Ex.new (o := .tup [.str w1, .int ((ms.length : Int) * 100 + (i : Nat))]) nmk
          have hmk : upd H3 mk (.tup [.str w1, .int ((ms.length : Int) * 100 + (i : Nat))]) mk = some (.tup [.str w1, .int ((ms.length : Int) * 100 + (i : Nat))]) := upd_same
          have nt1 : upd H3 mk (.tup [.str w1, .int ((ms.length : Int) * 100 + (i : Nat))]) t1 = none := nt1
          have x5 := Ex.new (o := .tup [.ref mk]) nt1
          have ht1 : upd (upd H3 mk (.tup [.str w1, .int ((ms.length : Int) * 100 + (i : Nat))])) t1 (.tup [.ref mk]) t1 = some (.tup [.ref mk]) := upd_same
          have x45 := x4.trans x5
          have hmk5 := x5 _ _ hmk
          show rCatA K (.ref ar) (.ref t1) (upd (upd H3 mk (.tup [.str w1, .int ((ms.length : Int) * 100 + (i : Nat))])) t1 (.tup [.ref mk])) _
          generalize upd (upd H3 mk (.tup [.str w1, .int ((ms.length : Int) * 100 + (i : Nat))])) t1 (.tup [.ref mk]) = H5 at x45 ht1 hmk5 ⊢
          have fin : ∀ (q : Addr) (qs : List Addr) (H7 : Hp), Ex H3 H7 → H7 q = some (.lst (qs.map V.ref)) → Paired (ArA H7) qs (c.arounds (ws ++ [w1])) → (ps.map V.ref).length + (qs.map V.ref).length ≤ sizeLine := fun q qs H7 _ _ pq => by
            have := Paired.length pq
            rw [Bd.ar_len] at this
            rw [List.length_map, List.length_map, sizeLine_eq]
            omega
          refine ⟨ar, t1, ms.map V.ref, [.ref mk], rfl, rfl, .inl (.inl (x45 _ _ hms)), .inl (.inl ht1), by rw [List.length_map, sizeLine_eq]; show ms.length + 1 ≤ _; omega, fun me => ?_, fun _ z => (nomatch z), fun _ _ c1 nc1 => ?_⟩
          · have m0 : ms = [] := List.map_eq_nil_iff.mp me
            have w0 : ws = [] := by rw [m0] at msl; exact List.length_eq_zero_iff.mp msl.symm
            refine ⟨q2, t1, ys, c, ws ++ [w1], rfl, x45 _ _ h2, h3.kt x45.kt, ⟨[mk], ht1, by rw [w0]; exact .cons ⟨_, hmk5⟩ .nil⟩, by rw [List.length_append]; show ws.length + 1 + n ≤ 60; omega, by omega, by omega, k3, by omega, fun q qs H7 y7 nq hq pq => ?_⟩
            have x7 := x45.trans y7
            exact ⟨fo, q, _, _, rfl, rfl, x7 _ _ hf3, hq, fin q qs H7 x7 hq pq, put H7 qs x7 pq⟩
          · have x6 := Ex.new (o := .tup (ms.map V.ref ++ [.ref mk])) nc1
            have x46 := x45.trans x6
            refine ⟨q2, c1, ys, c, ws ++ [w1], rfl, x46 _ _ h2, h3.kt x46.kt, ⟨ms ++ [mk], by rw [upd_same, List.map_append]; rfl, paired_app (Paired.mapP pm fun _ _ ⟨z, e⟩ => ⟨z, x6 _ _ (x45 _ _ e)⟩) ⟨_, x6 _ _ hmk5⟩⟩, by rw [List.length_append]; show ws.length + 1 + n ≤ 60; omega, by omega, by omega, k3, by omega, fun q qs H7 y7 nq hq pq => ?_⟩
            have x7 := x46.trans y7
            exact ⟨fo, q, _, _, rfl, rfl, x7 _ _ hf3, hq, fin q qs H7 x7 hq pq, put H7 qs x7 pq⟩
      · obtain ⟨ps, o3, o4, rfl, x2, hf, pc⟩ := h
        rw [← xl, List.take_length, arL_parts] at pc
        exact ⟨.ref fo, rfl, hQ fo ps H2 x2 nfo hf pc⟩
end
end TH

/-! J10: _law_handed -/
namespace TH
open PySem PySem.Spec PyProof.Rows L2 LamV LamX XK0
open C8 (pss_cut tCut)
abbrev sHanded : Stmt := top 41
/-- nested tuples, ints, texts -/
def CanN (H : Hp) : Nat → PyData → V → Prop
  | n + 1, .tuple ds, v => ∃ a xs, v = .ref a ∧ H a = some (.tup xs) ∧ ds.length ≤ 100 ∧ Paired (CanN H n) ds xs
  | _ + 1, .int i, v => v = .int i
  | _ + 1, .str s, v => v = .str s ∧ s.length ≤ 1000
  | _, _, _ => False
def cntN : Nat → PyData → Nat
  | n + 1, .tuple ds => 1 + (ds.map (cntN n)).sum
  | _, _ => 0
/-- the same as lists or tuples; the lists are not among N -/
def AnyN (N : Addr → Prop) (H : Hp) : Nat → PyData → V → Prop
  | n + 1, .tuple ds, v => ∃ a xs, v = .ref a ∧ ((H a = some (.lst xs) ∧ ¬ N a) ∨ H a = some (.tup xs)) ∧ ds.length ≤ 100 ∧ Paired (AnyN N H n) ds xs
  | _ + 1, .int i, v => v = .int i
  | _ + 1, .str s, v => v = .str s ∧ s.length ≤ 1000
  | _, _, _ => False
theorem CanN.kt {H H' : Hp} (k : KeepT H H') : ∀ {n : Nat} {d : PyData} {v : V}, CanN H n d v → CanN H' n d v
  | n + 1, .tuple ds, v, ⟨a, xs, e, h, l, p⟩ => ⟨a, xs, e, k _ _ h, l, Paired.mapP p fun _ _ z => CanN.kt k z⟩
  | n + 1, .int i, v, h => h
  | n + 1, .str s, v, h => h
theorem AnyN.keep {N N' : Addr → Prop} {H H' : Hp} (m : ∀ a, N' a → N a) (l : ∀ a xs, ¬ N a → H a = some (.lst xs) → H' a = some (.lst xs)) (k : KeepT H H') : ∀ {n : Nat} {d : PyData} {v : V}, AnyN N H n d v → AnyN N' H' n d v
  | n + 1, .tuple ds, v, ⟨a, xs, e, h, ll, p⟩ => ⟨a, xs, e, h.imp (fun z => ⟨l a xs z.2 z.1, fun q => z.2 (m a q)⟩) (k _ _), ll, Paired.mapP p fun _ _ z => AnyN.keep m l k z⟩
  | n + 1, .int i, v, h => h
  | n + 1, .str s, v, h => h
def spHanded (K : PySem.W.Frag) (n : Nat) : Sp := fun vs H Q _ => ∃ (p : Addr) (v : V) (d : PyData) (m : Nat), vs = [.ref p, v] ∧ Pool H p m ∧ m + cntN n d < 1000000 ∧ CanN H n d v ∧ ∀ (v' : V) (H' : Hp), ExA p H H' → Pool H' p (m + cntN n d) → AnyN (fun a => H a ≠ none) H' n d v' → Q v' H'
theorem exA_some {p a : Addr} {H H' : Hp} {n : Nat} (x : ExA p H H') (S : Pool H' p n) (h : H a ≠ none) : H' a ≠ none := fun z => h (ExA.none x S z)
section
variable {P : Program} {w : World} {K : PySem.W.Frag} {mg : Str → Option Value} {base : Heap} {f : Addr} {fd : FuncData}
theorem scHanded : FnScope ["_law_pool_here", "_law_thing", "_law_some", "_law_one_here"] ["_law_pool_here", "_law_thing"] (defScope sHanded) := ⟨rfl, rfl, rfl, by decide +kernel, rfl, by decide +kernel, by decide +kernel⟩
theorem ok_handed (F : FnP K "_law_handed" sHanded f fd) (gJ : mg "_law_handed" = some (.ref f)) (bJ : Binds K fd ["_law_pool_here", "_law_thing"] []) (FT : Has P w K mg base "_law_take" 1 ["_law_pool_here", "_law_many"] spTakeP) (gi : mg "isinstance" = none) (gl : mg "list" = none) (gt : mg "tuple" = none) :
    ∀ n, FnOk P w K mg base CX0 (n + 2) f fd ["_law_pool_here", "_law_thing"] (spHanded K n)
  | 0 => by
    refine F.ok scHanded (fun vs H Q E h => ?_) (fun cdv A outer s H vs Q E hr h => ?_)
    · obtain ⟨p, v, d, m, rfl, _⟩ := h
      rfl
    · obtain ⟨p, v, d, m, _, _, _, h, _⟩ := h
      exact absurd h (by cases d <;> exact fun z => z)
  | n + 1 => by
    have FJ : Has P w K mg base "_law_handed" (n + 2) ["_law_pool_here", "_law_thing"] (spHanded K n) := ⟨f, fd, gJ, F.kp, bJ, ok_handed F gJ bJ FT gi gl gt n⟩
    refine F.ok scHanded (fun vs H Q E h => ?_) (fun cdv A outer s H vs Q E hr h => ?_)
    · obtain ⟨p, v, d, m, rfl, _⟩ := h
      rfl
    · have hu := hu_of hr
      refine ⟨_, PSs.nox (pss_cons (ps_if (pt_val (pe_callB call_isiT rfl gi boot_isinstance (pa_cons (pv 1) (pa_cons (pe_tup (pa_cons (pe_bltn (v := .ty "list") rfl gl boot_list rfl) (pa_cons (pe_bltn (v := .ty "tuple") rfl gt boot_tuple rfl) pa_nil))) pa_nil))))
          (pss_cut (ps_setLc (i := 2) (te := tCall (spHanded K n) [] E0 (tCons (tVar 0) (tCons (tVar 3) tNil))) (tt := tYes) (own := [("_law_one_here", 3)]) rfl scHanded.nd rfl rfl (sw_true rfl rfl rfl rfl) (pi_tup (pv 1)) (blkOk_by (by kernel_rfl)) (fun s H C cl fp => pg_name (i := 3) scHanded.nd rfl (.inl rfl) (.inr rfl)) (fun s H C cl fp => pts_nil) (fun s H C cl fp => pe_has FJ hr (by omega) rfl (pa_cons (pv 0) (pa_cons (pv 3) pa_nil))))
          (pss_one (ps_ret (pe_ifExp (pt_cmp (pc_eqI (pe_has FT hr (by omega) rfl (pa_cons (pv 0) (pa_cons pe_int pa_nil))) pe_int)) (pv 2) (pe_callTy call_tuple_of rfl gt boot_tuple (pa_cons (pv 2) pa_nil)))))) pss_nil)
        (pss_one (ps_ret (pv 1)))), ?_⟩
      obtain ⟨p, v, d, m, rfl, S, hm, hd, hQ⟩ := h
      have s2 : 2 ≤ sizeLine := by decide
      have flat : ∀ T, Kd K H v T → isLt T = false → AnyN (fun a => H a ≠ none) H (n + 1) d v → cntN (n + 1) d = 0 → (∀ H', Ex H H' → Q v H') := fun T kT lT an c0 H' x => hQ v H' x.exA (by rw [c0]; exact S.ex x) (an.keep (fun _ z => z) (fun a xs _ e => x _ _ e) x.kt)
      match d, hd with
      | .int i, hd =>
        have e : v = .int i := hd
        subst e
        have q := flat "int" int_kd rfl rfl rfl
        refine ⟨.int i, rfl, s2, fun tp ntp => ⟨.int i, tp, _, _, [.type "list", .type "tuple"], _, rfl, upd_same, .cons (.ty "list") (.cons (.ty "tuple") .nil), .base (.int i), kit_lt (T := "int") (by decide), false, rfl, ?_⟩⟩
        exact ⟨.int i, rfl, q _ (Ex.new ntp)⟩
      | .str z, hd =>
        obtain ⟨e, lz⟩ : v = .str z ∧ z.length ≤ 1000 := hd
        subst e
        have q := flat "str" (str_kd lz) rfl ⟨rfl, lz⟩ rfl
        refine ⟨.str z, rfl, s2, fun tp ntp => ⟨.str z, tp, _, _, [.type "list", .type "tuple"], _, rfl, upd_same, .cons (.ty "list") (.cons (.ty "tuple") .nil), .base (.str z), kit_lt (T := "str") (by decide), false, rfl, ?_⟩⟩
        exact ⟨.str z, rfl, q _ (Ex.new ntp)⟩
      | .tuple ds, hd =>
        obtain ⟨a, xs, e, ha, dl, pr⟩ : ∃ a xs, v = .ref a ∧ H a = some (.tup xs) ∧ ds.length ≤ 100 ∧ Paired (CanN H n) ds xs := hd
        subst e
        have hcn : cntN (n + 1) (.tuple ds) = 1 + (ds.map (cntN n)).sum := rfl
        clear flat
        have kT : Kd K H (.ref a) "tuple" := sqT_kd (.inl (.inl ha))
        refine ⟨.ref a, rfl, s2, fun tp ntp => ⟨.ref a, tp, _, _, [.type "list", .type "tuple"], _, rfl, upd_same, .cons (.ty "list") (.cons (.ty "tuple") .nil), tyx_ex (Ex.new ntp) kT.2.1, kit_lt kT.1, true, rfl, ?_⟩⟩
        have x1 := Ex.new (o := .tup [.ty "list", .ty "tuple"]) ntp
        generalize upd H tp (.tup [.ty "list", .ty "tuple"]) = H1 at x1 ⊢
        have S1 := S.ex x1
        have xl : ds.length = xs.length := Paired.length pr
        have some1 : ∀ {c : Addr}, H c ≠ none → H1 c ≠ none := fun {c} h => by
          cases q : H c with
          | none => exact absurd q h
          | some o => rw [x1 _ _ q]; exact fun z => nomatch z
        refine ⟨fun σ' H' => ∃ (sf : Addr) (vs' : List V), σ' = [some (.ref p), some (.ref a), some (.ref sf), none] ∧ ExA p H1 H' ∧ Pool H' p (m + (ds.map (cntN n)).sum) ∧ H1 sf = none ∧ H' sf = some (.lst vs') ∧ Paired (AnyN (fun c => H1 c ≠ none ∨ c = sf) H' n) ds vs', ?_, ?_⟩
        · refine ⟨.ref a, rfl, a, rfl, ⟨_, .inl (.inl (x1 _ _ ha))⟩, fun D nD => ?_⟩
          have Dp := S1.off nD
          refine lc_it (walk_tup (xs := xs)) (fun i H2 => ExA p H1 H2 ∧ Pool H2 p (m + ((ds.take i).map (cntN n)).sum) ∧ ∃ acc, H2 D = some (.lst acc) ∧ Paired (AnyN (fun c => H1 c ≠ none ∨ c = D) H2 n) (ds.take i) acc) ⟨(Ex.new nD).exA, S1.new nD, [], upd_same, .nil⟩ (fun i H2 _ h => .inl (.inl (h.1.nl S1 (x1 _ _ ha) fun _ z => nomatch z))) (fun i v H2 H3 hi h y => ?_) fun H2 h => ?_
          · obtain ⟨x2, S2, acc, hD, pa⟩ := h
            obtain ⟨rfl, ev⟩ := y
            obtain ⟨d1, ed, cd⟩ := paired_get pr ev
            have kt : KeepT H1 H3 := fun c zs e => x2.nl S1 e fun _ z => nomatch z
            have al : acc.length ≤ 100 := by
              have := Paired.length pa
              rw [List.length_take] at this
              omega
            have sm : ((ds.take (i + 1)).map (cntN n)).sum = ((ds.take i).map (cntN n)).sum + cntN n d1 := by
              rw [List.take_add_one, ed, Option.toList_some, List.map_append, List.sum_append]
              rfl
            have sle : ((ds.take (i + 1)).map (cntN n)).sum ≤ (ds.map (cntN n)).sum := by
              have e : (ds.map (cntN n)).sum = ((ds.take (i + 1)).map (cntN n)).sum + ((ds.drop (i + 1)).map (cntN n)).sum := by
                rw [← List.sum_append, ← List.map_append, List.take_append_drop]
              omega
            refine ⟨rfl, .ref p, rfl, v, rfl, p, v, d1, _, rfl, S2, by omega, (cd.kt x1.kt).kt kt, fun v' H4 x4 S4 an => ?_⟩
            have hD4 := x4 _ _ Dp hD
            refine ⟨acc, hD4, by rw [sizeLine_eq]; omega, fun c o nc e => (upd_ne fun z => by rw [z, nD] at e; cases e).trans (x4 _ _ nc (x2 _ _ nc e)), ?_, acc ++ [v'], upd_same, ?_⟩
            · rw [sm, ← Nat.add_assoc]
              exact S4.put Dp
            · have kt2 : KeepT H4 (upd H4 D (.lst (acc ++ [v']))) := fun c zs e => (upd_ne fun z => by rw [z, hD4] at e; cases e).trans e
              have kt1 : KeepT H3 H4 := fun c zs e => x4.nl S2 e fun _ z => nomatch z
              rw [List.take_add_one, ed]
              refine paired_app (Paired.mapP pa fun _ _ z => z.keep (fun _ q => q) (fun c zs nc e => ?_) fun c zs e => kt2 _ _ (kt1 _ _ e)) (an.keep (fun c q => ?_) (fun c zs nc e => ?_) kt2)
              · have cp : c ≠ p := fun z => nc (.inl (by rw [z]; obtain ⟨_, _, _, e0, _⟩ := S1; rw [e0]; exact fun q => nomatch q))
                exact (upd_ne fun z => nc (.inr z)).trans (x4 _ _ cp e)
              · rcases q with q | q
                · exact exA_some x2 S2 q
                · rw [q, hD]; exact fun z => nomatch z
              · exact (upd_ne fun z => nc (by rw [z, hD]; exact fun q => nomatch q)).trans e
          · obtain ⟨x2, S2, acc, hD, pa⟩ := h
            rw [← xl, List.take_length] at S2 pa
            exact ⟨D, acc, rfl, x2, S2, nD, hD, pa⟩
        rintro σ2 H2 ⟨sf, vs', rfl, x2, S2, nsf, hsf, pa⟩
        have sp := S1.off nsf
        refine ⟨.ref p, rfl, p, 2, _, rfl, S2, by omega, by decide, by decide, fun dd H3 hd3 x3 S3 => ⟨dd, 0, rfl, rfl, ?_⟩⟩
        have h3sf := x3 _ _ sp hsf
        have y3 : ExA p H H3 := (x1.exA.trans x2).trans x3
        have pa3 : Paired (AnyN (fun c => H c ≠ none) H3 n) ds vs' := Paired.mapP pa fun _ _ z => z.keep (fun c q => .inl (some1 q)) (fun c zs nc e => x3 _ _ (fun z => nc (.inl (by rw [z]; obtain ⟨_, _, _, e0, _⟩ := S1; rw [e0]; exact fun q => nomatch q))) e) fun c zs e => x3.nl S2 e fun _ z => nomatch z
        by_cases d0 : dd = 0
        · refine ⟨true, congrArg V.bl (decide_eq_true (by rw [d0]; rfl)), .ref sf, rfl, hQ _ H3 y3 (by rw [hcn]; exact S3.mono (by omega)) ⟨sf, vs', rfl, .inl ⟨h3sf, fun z => z (x1.none nsf)⟩, dl, pa3⟩⟩
        · refine ⟨false, congrArg V.bl (decide_eq_false (by omega)), .ref sf, rfl, sf, vs', rfl, .inl ⟨.inl (.inl h3sf), fun q nq => ?_⟩⟩
          have xq := Ex.new (o := .tup vs') nq
          exact hQ _ _ (y3.trans xq.exA) (by rw [hcn]; exact (S3.ex xq).mono (by omega)) ⟨q, vs', rfl, .inr upd_same, dl, Paired.mapP pa3 fun _ _ z => z.keep (fun _ q => q) (fun c zs _ e => xq _ _ e) xq.kt⟩
end
end TH

/-! J11: _law_jobs -/
namespace TH
open PySem PySem.Spec PyProof.Rows L2 LamV LamX XK0
open C8 (pss_cut tCut)
open RZ (ItzT pi_zipA)
abbrev sJobs : Stmt := top 39
structure Jb where
  name : Str
  pr : Nat
  di : Nat
  bd : Bd
def JobA (H : Hp) (j : Jb) (kv : Key × V) : Prop := kv.1 = Sum.inr j.name ∧ ∃ t q xs, kv.2 = .ref t ∧ H t = some (.tup [.int j.pr, .int j.di, .ref q]) ∧ H q = some (.tup xs) ∧ CanB H j.bd xs
theorem JobA.kt {H H' : Hp} {j : Jb} {kv : Key × V} (k : KeepT H H') (h : JobA H j kv) : JobA H' j kv := by
  obtain ⟨e, t, q, xs, e2, h1, h2, h3⟩ := h
  exact ⟨e, t, q, xs, e2, k _ _ h1, k _ _ h2, h3.kt k⟩
def DJ (H : Hp) (a : Addr) (js : List Jb) : Prop := ∃ kvs : List (Key × V), H a = some (.dK kvs) ∧ Paired (JobA H) js kvs
def wjN : List Str := ["a", "b", "c", "job", "zz", "high", "low"]
def prN : List Nat := [1, 2, 3, 4, 5, 7, 9, 20]
def tsN : List Str := ["t", "u", "lock"]
structure GoodJ (js : List Jb) : Prop where
  nd : (js.map Jb.name).Nodup
  wd : ∀ j ∈ js, j.name ∈ wjN
  pnd : (js.map Jb.pr).Nodup
  pm : ∀ j ∈ js, j.pr ∈ prN
  di : ∀ j ∈ js, 1 ≤ j.di
  gb : ∀ j ∈ js, GoodB 2 tsN j.bd
theorem perm_nats {ys : List V} {ks : List Nat} (h : ys.Perm (ks.map fun n : Nat => V.int n)) : ∃ zs : List Nat, ys = zs.map (fun n : Nat => V.int n) ∧ zs.Perm ks := by
  refine ⟨ys.map fun v => match v with | .int i => i.toNat | _ => 0, ?_, ?_⟩
  · rw [List.map_map]
    refine (List.map_id ys).symm.trans (List.map_congr_left fun y my => ?_)
    obtain ⟨n, _, rfl⟩ := List.mem_map.mp (h.mem_iff.mp my)
    show V.int n = V.int ((n : Int).toNat : Nat)
    rw [Int.toNat_natCast]
  · have z := h.map fun v => match v with | V.int i => i.toNat | _ => 0
    rw [List.map_map] at z
    have e : ks.map ((fun v => match v with | V.int i => i.toNat | _ => 0) ∘ fun n : Nat => V.int n) = ks := by
      refine (List.map_congr_left fun n _ => ?_).trans (List.map_id ks)
      show ((n : Int).toNat) = n
      rw [Int.toNat_natCast]
    rw [e] at z
    exact z
def spJobs : Sp := fun vs H Q _ => ∃ (p : Addr) (many n : Nat), vs = [.ref p, .int many] ∧ 1 ≤ many ∧ many ≤ 4 ∧ Pool H p n ∧ n + 100000 < 1000000 ∧
  ∀ (jd : Addr) (js : List Jb) (H' : Hp), ExA p H H' → Pool H' p (n + 20000) → H jd = none → DJ H' jd js → GoodJ js → js.length = many → Q (.ref jd) H'
section
variable {P : Program} {w : World} {K : PySem.W.Frag} {mg : Str → Option Value} {base : Heap} {f : Addr} {fd : FuncData}
theorem scJobs : FnScope ["_law_pool_here", "_law_many", "_law_words", "_law_order", "_law_found", "_law_word", "_law_priority", "_law_body_here", "_law_cost"] ["_law_pool_here", "_law_many"] (defScope sJobs) := ⟨rfl, rfl, rfl, by decide +kernel, rfl, by decide +kernel, by decide +kernel⟩
theorem ok_jobs (F : FnP K "_law_jobs" sJobs f fd) (FT : Has P w K mg base "_law_take" 1 ["_law_pool_here", "_law_many"] spTakeP) (FM : Has P w K mg base "_law_mixed" 2 ["_law_pool_here", "_law_things"] spMixed) (FB : Has P w K mg base "_law_body" 6 ["_law_pool_here", "_law_things", "_law_deep"] (spBody 3)) (FU : Has P w K mg base "_law_units" 4 ["_law_body_here", "_law_around"] (spUnits 3)) (gn : mg "len" = none) (gz : mg "zip" = none) :
    FnOk P w K mg base CX0 7 f fd ["_law_pool_here", "_law_many"] spJobs := by
  refine F.ok scJobs (fun vs H Q E h => ?_) (fun cdv A outer s H vs Q E hr h => ?_)
  · obtain ⟨p, many, n, rfl, _⟩ := h
    rfl
  · have hu := hu_of hr
    refine ⟨_, PSs.nox (pss_cut (ps_set (i := 2) scJobs.nd rfl (.inl rfl) (pe_slice sl_list (pe_has FM hr (by decide) rfl (pa_cons (pv 0) (pa_cons (pe_lst (pa_cons pe_str (pa_cons pe_str (pa_cons pe_str (pa_cons pe_str (pa_cons pe_str (pa_cons pe_str (pa_cons pe_str pa_nil)))))))) pa_nil))) po_none (po_some (pv 1))))
      (pss_cut (ps_par (i := 3) (j := 4) rfl scJobs.nd rfl rfl (by decide) rfl rfl (pa_cons (pe_slice sl_list (pe_has FM hr (by decide) rfl (pa_cons (pv 0) (pa_cons (pe_lst (pa_cons pe_int (pa_cons pe_int (pa_cons pe_int (pa_cons pe_int (pa_cons pe_int (pa_cons pe_int (pa_cons pe_int (pa_cons pe_int pa_nil))))))))) pa_nil))) po_none (po_some (pv 1))) (pa_cons pe_dnewK pa_nil)) rfl)
      (pss_cons (ps_for PassesOwn.never rfl (pi_zipA rfl gz (pa_cons (pv 2) (pa_cons (pv 3) pa_nil))) (pg_tup rfl (pgs_cons (pg_name (i := 5) scJobs.nd rfl (.inl rfl)) (pgs_cons (pg_name (i := 6) scJobs.nd rfl (.inl rfl)) pgs_nil)))
        (pss_cut (ps_set (i := 7) scJobs.nd rfl (.inl rfl) (pe_has FB hr (by decide) rfl (pa_cons (pv 0) (pa_cons (pe_lst (pa_cons pe_str (pa_cons pe_str (pa_cons pe_str pa_nil)))) (pa_cons pe_int pa_nil)))))
        (pss_cut (ps_set (i := 8) scJobs.nd rfl (.inl rfl) (pe_callB call_len rfl gn boot_len (pa_cons (pe_has FU hr (by decide) rfl (pa_cons (pv 7) (pa_cons (pe_tup pa_nil) pa_nil))) pa_nil)))
        (pss_one (ps_dput hu (pv 4) (pv 5) (pe_tup (pa_cons (pv 6) (pa_cons (pe_op op_add (pe_op op_add pe_int (pe_has FT hr (by decide) rfl (pa_cons (pv 0) (pa_cons pe_int pa_nil)))) (pe_op op_mul (pv 8) (pe_op op_add pe_int (pe_has FT hr (by decide) rfl (pa_cons (pv 0) (pa_cons (pv 1) pa_nil)))))) (pa_cons (pv 7) pa_nil)))) rfl)))))
      (pss_one (ps_ret (pv 4)))))), ?_⟩
    obtain ⟨p, many, n, rfl, m1, m4, S, hn, hQ⟩ := h
    have s2 : 2 ≤ sizeLine := by decide
    have s3 : 3 ≤ sizeLine := by decide
    have s7 : 7 ≤ sizeLine := by decide
    have s8 : 8 ≤ sizeLine := by decide
    -- words
    refine ⟨fun σ' H' => ∃ (wa : Addr) (ws : List Str), σ' = [some (.ref p), some (.int many), some (.ref wa), none, none, none, none, none, none] ∧ ExA p H H' ∧ Pool H' p (n + 7) ∧ wa ≠ p ∧ H' wa = some (.lst (ws.map V.str)) ∧ ws.length = many ∧ ws.Nodup ∧ ∀ x ∈ ws, x ∈ wjN, ?_, ?_⟩
    · refine ⟨.ref p, rfl, s7, fun l nl => ⟨p, l, n, wjN.map V.str, rfl, S.new nl, by show n + 7 < 1000000; omega, upd_same, by decide, fun x mx => ?_, fun q ys H2 x2 S2 nq hq pm => ?_⟩⟩
      · obtain ⟨z, mz, rfl⟩ := List.mem_map.mp mx
        exact .inr ⟨z, rfl, (show ∀ z ∈ wjN, PyData.canLay0 (.str z) = true by decide +kernel) z mz⟩
      obtain ⟨zs, rfl, pz⟩ := perm_strs pm
      have zl : zs.length = 7 := pz.length_eq
      have zn : zs.Nodup := pz.nodup_iff.mpr (by decide +kernel)
      refine ⟨.int many, rfl, many, rfl, q, _, rfl, .inl (.inl hq), fun nl2 nnl => ?_⟩
      rw [cut_take, ← List.map_take]
      have x4 := Ex.new (o := .lst ((zs.take many).map V.str)) nnl
      exact ⟨nl2, zs.take many, rfl, ((Ex.new nl).exA.trans x2).trans x4.exA, S2.ex x4, S2.off nnl, upd_same, by rw [List.length_take]; omega, (List.take_sublist _ _).nodup zn, fun x m => pz.mem_iff.mp (List.mem_of_mem_take m)⟩
    rintro σ1 H1 ⟨wa, ws, rfl, x1, S1, wap, hwa, wl, wnd, wsub⟩
    -- order, found
    refine ⟨fun σ' H' => ∃ (oa fo : Addr) (ps : List Nat), σ' = [some (.ref p), some (.int many), some (.ref wa), some (.ref oa), some (.ref fo), none, none, none, none] ∧ ExA p H1 H' ∧ Pool H' p (n + 15) ∧ oa ≠ p ∧ H' oa = some (.lst (ps.map fun n : Nat => V.int n)) ∧ ps.length = many ∧ ps.Nodup ∧ (∀ x ∈ ps, x ∈ prN) ∧ H1 fo = none ∧ H' fo = some (.dK []), ?_, ?_⟩
    · refine ⟨.ref p, rfl, s8, fun l nl => ⟨p, l, n + 7, prN.map (fun n : Nat => V.int n), rfl, S1.new nl, by show n + 7 + 8 < 1000000; omega, upd_same, by decide, fun x mx => ?_, fun q ys H2 x2 S2 nq hq pm => ?_⟩⟩
      · obtain ⟨z, mz, rfl⟩ := List.mem_map.mp mx
        exact .inl ⟨_, rfl⟩
      obtain ⟨zs, rfl, pz⟩ := perm_nats pm
      have zl : zs.length = 8 := pz.length_eq
      have zn : zs.Nodup := pz.nodup_iff.mpr (by decide +kernel)
      refine ⟨.int many, rfl, many, rfl, q, _, rfl, .inl (.inl hq), fun nl2 nnl => fun fo nfo => ?_⟩
      rw [cut_take, ← List.map_take] at nfo ⊢
      have x4 := Ex.new (o := .lst ((zs.take many).map fun n : Nat => V.int n)) nnl
      have x5 := Ex.new (o := .dK []) nfo
      have xx := (((Ex.new nl).exA.trans x2).trans x4.exA).trans x5.exA
      exact ⟨_, _, rfl, nl2, fo, zs.take many, rfl, xx, (S2.ex x4).ex x5, S2.off nnl, x5 _ _ upd_same, by rw [List.length_take]; omega, (List.take_sublist _ _).nodup zn, fun x m => pz.mem_iff.mp (List.mem_of_mem_take m), (((Ex.new nl).exA.trans x2).trans x4.exA).none (S2.ex x4) nfo, upd_same⟩
    rintro σ2 H2 ⟨oa, fo, ps, rfl, x2, S2, oap, hoa, pl, pnd, psub, nfo, hfo⟩
    have hwa2 := x2 _ _ wap hwa
    have fp : fo ≠ p := S1.off nfo
    have fH : H fo = none := ExA.none x1 S1 nfo
    have y2 := x1.trans x2
    have fwa : wa ≠ fo := fun z => by rw [z, hfo] at hwa2; cases hwa2
    have foa : oa ≠ fo := fun z => by rw [z, hfo] at hoa; cases hoa
    obtain ⟨Pv, ePv⟩ : ∃ Pv : Nat → L2.St → Hp → Prop, Pv = fun i σ' H' => ∃ (o5 o6 o7 o8 : Option V) (js : List Jb) (kvs : List (Key × V)), σ' = [some (.ref p), some (.int many), some (.ref wa), some (.ref oa), some (.ref fo), o5, o6, o7, o8] ∧ (∀ b o, b ≠ p → b ≠ fo → H2 b = some o → H' b = some o) ∧ Pool H' p (n + 15 + i * 4200) ∧ H' fo = some (.dK kvs) ∧ Paired (JobA H') js kvs ∧ js.map Jb.name = ws.take i ∧ js.map Jb.pr = ps.take i ∧ (∀ j ∈ js, 1 ≤ j.di) ∧ ∀ j ∈ js, GoodB 2 tsN j.bd := ⟨_, rfl⟩
    refine ⟨.ref wa, rfl, .ref oa, rfl, wa, oa, _, _, rfl, .inl ⟨.inl (.inl hwa2), .inl (.inl hoa), for_it (walk_zip (xs := ws.map V.str) (ys := ps.map fun n : Nat => V.int n) rfl) Pv (by rw [ePv]; exact ⟨none, none, none, none, [], [], rfl, fun b o _ _ e => e, S2.mono (by omega), hfo, .nil, by rw [List.take_zero]; rfl, by rw [List.take_zero]; rfl, (fun _ z => by cases z), fun _ z => by cases z⟩) (fun i σ' H' _ h => ?_) (fun i v σ' H' H3 hi h y => ?_) fun σ' H' h => ?_⟩⟩
    · rw [ePv] at h
      obtain ⟨o5, o6, o7, o8, js, kvs, rfl, x3, _⟩ := h
      exact ⟨.inl (.inl (x3 _ _ wap fwa hwa2)), .inl (.inl (x3 _ _ oap foa hoa))⟩
    · rw [ePv] at h
      obtain ⟨o5, o6, o7, o8, js, kvs, rfl, x3, S3, hk, pr, ew, ep, jd, jg⟩ := h
      obtain ⟨T, u, z, rfl, nT, rfl, eu, ez⟩ := y
      dsimp only at eu ez
      rw [List.getElem?_map] at eu ez
      obtain ⟨w0, ew0, rfl⟩ := Option.map_eq_some_iff.mp eu
      obtain ⟨p0, ep0, rfl⟩ := Option.map_eq_some_iff.mp ez
      rw [List.length_map, List.length_map, wl, pl, Nat.min_self] at hi
      have ib : i ≤ 3 := by omega
      have mulb : i * 4200 ≤ 3 * 4200 := Nat.mul_le_mul_right _ ib
      have kl : kvs.length ≤ 4 := by
        have e1 := congrArg List.length ew
        rw [List.length_map, List.length_take] at e1
        have e2 := Paired.length pr
        omega
      refine ⟨T, _, rfl, .inl (.inl upd_same), rfl, .str w0, [.int p0], rfl, .int p0, [], rfl, rfl, ?_⟩
      have xT := Ex.new (o := .tup [.str w0, .int p0]) nT
      have S4 := S3.ex xT
      generalize upd H' T (.tup [.str w0, .int p0]) = H4 at xT S4 ⊢
      have pr4 := Paired.mapP pr fun _ _ z => z.kt xT.kt
      have hk4 := xT _ _ hk
      -- body
      refine ⟨fun σ5 H5 => ∃ (q : Addr) (xs : List V) (b : Bd), σ5 = [some (.ref p), some (.int many), some (.ref wa), some (.ref oa), some (.ref fo), some (.str w0), some (.int p0), some (.ref q), o8] ∧ ExA p H4 H5 ∧ Pool H5 p (n + 15 + i * 4200 + 4096) ∧ H5 q = some (.tup xs) ∧ CanB H5 b xs ∧ GoodB 2 tsN b, ?_, ?_⟩
      · refine ⟨.ref p, rfl, s3, fun tl ntl => ⟨p, tl, _, tsN, 0, rfl, rfl, by decide, S4.new ntl, by show _ + 4096 < _; omega, upd_same, S4.off ntl, (show ∀ x ∈ tsN, okS x = true ∧ PyData.canLay0 (.str x) = true by decide +kernel), by decide, (fun z => by cases z), fun q xs b H5 x5 S5 hq cb gb => ?_⟩⟩
        exact ⟨q, xs, b, rfl, (Ex.new ntl).exA.trans x5, S5, hq, cb, gb⟩
      rintro σ5 H5 ⟨q, xs, b, rfl, x5, S5, hq, cb, gb⟩
      have bpos : b.pos := Bd.ok_pos (gb.ok [] fun _ z => by cases z)
      have bc : b.cost ≤ 81 := gb.cost
      -- cost
      refine ⟨fun σ6 H6 => σ6 = [some (.ref p), some (.int many), some (.ref wa), some (.ref oa), some (.ref fo), some (.str w0), some (.int p0), some (.ref q), some (.int b.cost)] ∧ Ex H5 H6, ?_, ?_⟩
      · refine ⟨.ref q, rfl, Nat.zero_le _, fun at1 nat1 => ?_⟩
        have xa := Ex.new (o := .tup []) nat1
        refine ⟨q, at1, xs, b, [], rfl, xa _ _ hq, cb.kt xa.kt, ⟨[], upd_same, .nil⟩, by decide, by have := gb.dep; omega, by have := gb.wid; omega, bpos, by omega, fun uq us H6 x6 nu hus pa => ?_⟩
        have ul : us.length = b.cost := by rw [Paired.length pa, Bd.ar_len]
        exact ⟨.ref uq, us.length, rfl, .inl ⟨_, .inl (.inl hus), by rw [List.length_map]⟩, by rw [ul]; rfl, xa.trans x6⟩
      rintro σ6 H6 ⟨rfl, x6⟩
      have S6 := S5.ex x6
      refine ⟨.int p0, rfl, .ref p, rfl, p, 6, _, rfl, S6, by omega, by decide, by decide, fun d1 H7 hd1 x7 S7 => ⟨1, d1, rfl, rfl, .int b.cost, rfl, .ref p, rfl, .int many, rfl, p, many, _, rfl, S7, by omega, by omega, by omega, fun d2 H8 hd2 x8 S8 => ⟨1, d2, rfl, rfl, b.cost, 1 + (d2 : Int), rfl, rfl, ?_, 1 + (d1 : Int), (b.cost : Int) * (1 + d2), rfl, rfl, .ref q, rfl, s3, fun tq ntq => ?_⟩⟩⟩
      · exact .inl ⟨by omega, by omega⟩
      show tVar 4 _ (upd H8 tq (.tup [.int p0, .int (1 + (d1 : Int) + (b.cost : Int) * (1 + (d2 : Int))), .ref q])) _
      rw [show (1 + (d1 : Int)) + (b.cost : Int) * (1 + (d2 : Int)) = ((1 + d1 + b.cost * (1 + d2) : Nat) : Int) by push_cast; rfl]
      have x48 := ((x5.trans x6.exA).trans x7).trans x8
      have x58 := (x6.exA.trans x7).trans x8
      have k58 : KeepT H5 H8 := fun c zs e => x58.nl S5 e fun _ z => nomatch z
      have k48 : KeepT H4 H8 := fun c zs e => x48.nl S4 e fun _ z => nomatch z
      have hk8 := x48 _ _ fp hk4
      have xq := Ex.new (o := .tup [.int p0, .int ((1 + d1 + b.cost * (1 + d2) : Nat) : Int), .ref q]) ntq
      have htq : upd H8 tq (.tup [.int p0, .int ((1 + d1 + b.cost * (1 + d2) : Nat) : Int), .ref q]) tq = some (.tup [.int p0, .int ((1 + d1 + b.cost * (1 + d2) : Nat) : Int), .ref q]) := upd_same
      have S9 := S8.ex xq
      generalize upd H8 tq (.tup [.int p0, .int ((1 + d1 + b.cost * (1 + d2) : Nat) : Int), .ref q]) = H9 at xq htq S9 ⊢
      have fr : (Sum.inr w0 : Key) ∉ kvs.map (·.1) := fun z => by
        have ek : kvs.map (·.1) = (js.map Jb.name).map Sum.inr := by
          clear z hk hk4 hk8 kl jd jg ew ep pr4
          induction pr with
          | nil => rfl
          | cons r _ ih => rw [List.map_cons, List.map_cons, List.map_cons, ih, r.1]
        rw [ek, ew] at z
        obtain ⟨u, mu, eu2⟩ := List.mem_map.mp z
        cases eu2
        exact take_fresh wnd ew0 mu
      have hk9 := xq _ _ hk8
      refine ⟨.ref fo, rfl, .str w0, rfl, fo, _, rfl, DPut.k (k := .inr w0) hk9 (by rw [sizeLine_eq]; omega), ?_⟩
      rw [putK_fresh fr, ePv]
      have kt9 : KeepT H9 (upd H9 fo (.dK (kvs ++ [(.inr w0, .ref tq)]))) := fun c zs e => (upd_ne fun z => by rw [z, hk9] at e; cases e).trans e
      refine ⟨_, _, _, _, js ++ [⟨w0, p0, 1 + d1 + b.cost * (1 + d2), b⟩], _, rfl, fun c o c1 c2 e => (upd_ne c2).trans (xq _ _ (x48 _ _ c1 (xT _ _ (x3 _ _ c1 c2 e)))), (S9.put fp).mono (by rw [Nat.succ_mul]; omega), upd_same, ?_, ?_, ?_, fun j mj => ?_, fun j mj => ?_⟩
      · exact paired_app (Paired.mapP pr4 fun _ _ z => ((z.kt k48).kt xq.kt).kt kt9) ⟨rfl, tq, q, xs, rfl, kt9 _ _ htq, kt9 _ _ (xq _ _ (k58 _ _ hq)), ((cb.kt k58).kt xq.kt).kt kt9⟩
      · rw [List.map_append, ew, List.take_add_one, ew0]
        rfl
      · rw [List.map_append, ep, List.take_add_one, ep0]
        rfl
      · rcases List.mem_append.mp mj with mj | mj
        · exact jd j mj
        · rw [List.mem_singleton.mp mj]
          show 1 ≤ 1 + d1 + b.cost * (1 + d2)
          omega
      · rcases List.mem_append.mp mj with mj | mj
        · exact jg j mj
        · rw [List.mem_singleton.mp mj]; exact gb
    · rw [ePv] at h
      obtain ⟨o5, o6, o7, o8, js, kvs, rfl, x3, S3, hk, pr, ew, ep, jd, jg⟩ := h
      rw [List.length_map, List.length_map, wl, pl, Nat.min_self] at S3 ew ep
      rw [show many = ws.length from wl.symm, List.take_length] at ew
      rw [show many = ps.length from pl.symm, List.take_length] at ep
      refine ⟨.ref fo, rfl, hQ fo js H' (fun b o nb e => x3 b o nb (fun z => by rw [z, fH] at e; cases e) (y2 b o nb e)) (S3.mono (by have : many * 4200 ≤ 4 * 4200 := Nat.mul_le_mul_right _ m4; omega)) fH ⟨kvs, hk, pr⟩ ⟨by rw [ew]; exact wnd, fun j mj => wsub _ (ew ▸ List.mem_map_of_mem mj), by rw [ep]; exact pnd, fun j mj => psub _ (ep ▸ List.mem_map_of_mem mj), jd, jg⟩ ?_⟩
      have := congrArg List.length ew
      rw [List.length_map] at this
      omega
end
end TH

/-! J12: what is handed: the dict of the jobs in another order, lists or tuples -/
namespace TH
open PySem PySem.Spec PyProof.Rows L2 LamV LamX XK0
open C8 (pss_cut tCut)
theorem valV_mem : ∀ {kvs : List (Key × V)} {q : Key × V}, (kvs.map (·.1)).Nodup → q ∈ kvs → valV kvs q.1 = some q.2
  | p :: r, q, nd, m => by
    rw [List.map_cons, List.nodup_cons] at nd
    rcases List.mem_cons.mp m with rfl | m
    · exact valV_pos rfl
    · rw [valV_neg fun e => nd.1 (e ▸ List.mem_map_of_mem m)]
      exact valV_mem nd.2 m
/-- like d, lists or tuples -/
def Sim : Nat → PyData → PyData → Prop
  | n + 1, .tuple ds, d => ∃ qs, seqD d = some qs ∧ Paired (Sim n) ds qs
  | _ + 1, .int i, d => d = .int i
  | _ + 1, .str s, d => d = .str s ∧ s.length ≤ 1000
  | _, _, _ => False
theorem any_dp {K : PySem.W.Frag} {N : Addr → Prop} {H : Hp} : ∀ {n : Nat} {d : PyData} {v : V}, AnyN N H n d v → ∃ e, Dp K H v e ∧ Sim n d e
  | n + 1, .tuple ds, v, ⟨a, xs, e, h, l, p⟩ => by
    subst e
    have key : ∀ {ds : List PyData} {xs : List V}, Paired (AnyN N H n) ds xs → ∃ qs, DpAll K H xs qs ∧ Paired (Sim n) ds qs := fun {ds xs} p => by
      induction p with
      | nil => exact ⟨[], .nil, .nil⟩
      | cons a _ ih =>
        obtain ⟨qs, h1, h2⟩ := ih
        obtain ⟨e, h3, h4⟩ := any_dp a
        exact ⟨e :: qs, .cons h3 h1, .cons h4 h2⟩
    obtain ⟨qs, h1, h2⟩ := key p
    rcases h with ⟨h, _⟩ | h
    · exact ⟨.list qs, .lst (.inl (.inl h)) h1, qs, rfl, h2⟩
    · exact ⟨.tuple qs, .tup (.inl (.inl h)) h1, qs, rfl, h2⟩
  | n + 1, .int i, v, h => by
    have e : v = .int i := h
    subst e
    exact ⟨.int i, .int i, rfl⟩
  | n + 1, .str s, v, h => by
    obtain ⟨e, l⟩ : v = .str s ∧ s.length ≤ 1000 := h
    subst e
    exact ⟨.str s, .str s, rfl, l⟩
theorem sim_sh : ∀ {n : Nat} {d e : PyData}, Sim n d e → shD e = true
  | n + 1, .tuple ds, e, ⟨qs, h, p⟩ => by
    have key : ∀ {ds qs : List PyData}, Paired (Sim n) ds qs → shA qs = true := fun {ds qs} p => by
      induction p with
      | nil => rfl
      | cons a _ ih =>
        show (shD _ && shA _) = true
        rw [sim_sh a, ih]
        rfl
    have k := key p
    cases e <;> cases h <;> exact k
  | n + 1, .int i, e, h => by
    have h : e = .int i := h
    subst h
    rfl
  | n + 1, .str s, e, h => by
    obtain ⟨h, l⟩ : e = .str s ∧ s.length ≤ 1000 := h
    subst h
    exact decide_eq_true l
theorem sim_int {n : Nat} {i : Int} {e : PyData} (h : Sim n (.int i) e) : e = .int i := by
  cases n with
  | zero => exact h.elim
  | succ n => exact h
theorem sim_str {n : Nat} {s : Str} {e : PyData} (h : Sim n (.str s) e) : e = .str s := by
  cases n with
  | zero => exact h.elim
  | succ n => exact h.1
theorem sim_tup {n : Nat} {ds : List PyData} {e : PyData} (h : Sim n (.tuple ds) e) : ∃ m qs, seqD e = some qs ∧ Paired (Sim m) ds qs := by
  cases n with
  | zero => exact h.elim
  | succ n => obtain ⟨qs, a, b⟩ := h; exact ⟨n, qs, a, b⟩
theorem sim_like : ∀ {b : Bd} {n : Nat} {qs : List PyData}, Paired (Sim n) (bdL b) qs → Like b qs
  | .nil, n, _, h => by cases h; rfl
  | .unit m r, n, _, h => by
    cases h with
    | cons a t => exact ⟨_, by rw [sim_int a], sim_like t⟩
  | .lock w c r, n, _, h => by
    cases h with
    | cons a t =>
      obtain ⟨m, qs, e, p⟩ := sim_tup a
      cases p with
      | cons a1 p => cases p with
        | cons a2 p =>
          cases p
          rw [sim_str a1] at e
          obtain ⟨m2, qs2, e2, p2⟩ := sim_tup a2
          exact ⟨_, _, qs2, _, rfl, e, e2, sim_like p2, sim_like t⟩
/-- right bodies are job bodies -/
theorem jb_like : ∀ {b : Bd} {n : Nat} {ws : List Str} {qs : List PyData}, Like b qs → b.ok ws → b.dep < n → allO (fun p => partB (jb (n - 1)) p ws) qs = some true
  | .nil, n, ws, qs, h, _, _ => by
    have h : qs = [] := h
    subst h
    rfl
  | .unit m r, n, ws, qs, ⟨t, e, h⟩, k, dp => by
    subst e
    have z := jb_like h k.2 dp
    show (match partB (jb (n - 1)) (.int m) ws with | some true => allO (fun p => partB (jb (n - 1)) p ws) t | o => o) = some true
    rw [partB_pos (show posD (.int m) = true from decide_eq_true (by have := k.1; omega))]
    exact z
  | .lock w c r, n, ws, qs, ⟨p, x, q2, t, e, h1, h2, h3, h4⟩, ⟨k1, k2, k3, k4, k5⟩, dp => by
    subst e
    have d1 : c.dep + 1 < n := Nat.lt_of_le_of_lt (Nat.le_max_left _ _) dp
    have d2 : r.dep < n := Nat.lt_of_le_of_lt (Nat.le_max_right _ _) dp
    have z := jb_like h4 k5 d2
    have y := jb_like (n := n - 1) h3 k4 (by omega)
    obtain ⟨m, em⟩ : ∃ m, n - 1 = m + 1 := ⟨n - 2, by omega⟩
    show (match partB (jb (n - 1)) p ws with | some true => allO (fun p => partB (jb (n - 1)) p ws) t | o => o) = some true
    have np : posD p = false := by cases p <;> first | rfl | cases h1
    rw [partB_two np h1 k1, if_neg k2]
    have jx : jb (n - 1) x (ws ++ [w]) = some true := by
      rw [em] at y ⊢
      unfold jb
      rw [h2]
      cases q2 with
      | nil =>
        exfalso
        cases c with
        | nil => exact k3 rfl
        | unit _ _ => obtain ⟨t, e, _⟩ := h3; cases e
        | lock _ _ _ => obtain ⟨_, _, _, t, e, _⟩ := h3; cases e
      | cons a b => exact y
    rw [jx]
    exact z
def jobD (j : Jb) : PyData := .tuple [.int j.pr, .int j.di, .tuple (bdL j.bd)]
def LikeJ (j : Jb) (d : PyData) : Prop := shD d = true ∧ ∃ x qs, seqD d = some [.int j.pr, .int j.di, x] ∧ seqD x = some qs ∧ Like j.bd qs
theorem sim_job {n : Nat} {j : Jb} {d : PyData} (h : Sim n (jobD j) d) : LikeJ j d := by
  refine ⟨sim_sh h, ?_⟩
  obtain ⟨m, qs, e, p⟩ := sim_tup h
  cases p with
  | cons a1 p => cases p with
    | cons a2 p => cases p with
      | cons a3 p =>
        cases p
        rw [sim_int a1, sim_int a2] at e
        obtain ⟨m2, qs2, e2, p2⟩ := sim_tup a3
        exact ⟨_, qs2, e, e2, sim_like p2⟩
theorem like_nil {b : Bd} (ne : b ≠ .nil) (h : Like b []) : False := by
  cases b with
  | nil => exact ne rfl
  | unit _ _ => obtain ⟨t, e, _⟩ := h; cases e
  | lock _ _ _ => obtain ⟨_, _, _, t, e, _⟩ := h; cases e
/-- such a job is one -/
theorem like_isjob {j : Jb} {d : PyData} {ps : List Int} (h : LikeJ j d) (g : GoodB 2 tsN j.bd) (p1 : 1 ≤ j.pr) (d1 : 1 ≤ j.di) (np : (j.pr : Int) ∉ ps) : jobB 4 ps d = some true := by
  obtain ⟨_, x, qs, e, e2, lk⟩ := h
  rw [jobB_in e (show posD (.int (j.pr : Int)) = true from decide_eq_true (by omega)) (show posD (.int (j.di : Int)) = true from decide_eq_true (by omega)), if_neg np]
  have y := jb_like (n := 4) (ws := []) lk (g.ok [] fun _ z => by cases z) (by have := g.dep; omega)
  unfold jb
  rw [e2]
  cases qs with
  | nil => exact (like_nil g.ne lk).elim
  | cons a b => exact y
theorem cnt_bdL : ∀ (n : Nat) (b : Bd), ((bdL b).map (cntN n)).sum ≤ 2 * b.things.length
  | n, .nil => Nat.le_refl _
  | n, .unit m r => by
    have z : cntN n (.int m) = 0 := by cases n <;> rfl
    have ih := cnt_bdL n r
    show cntN n (.int m) + ((bdL r).map (cntN n)).sum ≤ 2 * r.things.length
    omega
  | n, .lock w c r => by
    have ih := cnt_bdL n r
    show cntN n (.tuple [.str w, .tuple (bdL c)]) + ((bdL r).map (cntN n)).sum ≤ 2 * (w :: (c.things ++ r.things)).length
    rw [List.length_cons, List.length_append]
    have z : cntN n (.tuple [.str w, .tuple (bdL c)]) ≤ 2 + 2 * c.things.length := by
      cases n with
      | zero => exact Nat.zero_le _
      | succ m =>
        show 1 + (cntN m (.str w) + (cntN m (.tuple (bdL c)) + 0)) ≤ _
        have z1 : cntN m (.str w) = 0 := by cases m <;> rfl
        have z2 : cntN m (.tuple (bdL c)) ≤ 1 + 2 * c.things.length := by
          cases m with
          | zero => exact Nat.zero_le _
          | succ k =>
            have := cnt_bdL k c
            show 1 + ((bdL c).map (cntN k)).sum ≤ _
            omega
        omega
    omega
theorem cnt_job {j : Jb} (g : GoodB 2 tsN j.bd) : cntN 7 (jobD j) ≤ 30 := by
  show 1 + (0 + (0 + (1 + ((bdL j.bd).map (cntN 5)).sum + 0))) ≤ 30
  have z := cnt_bdL 5 j.bd
  have t : j.bd.things.length ≤ 12 := g.tl
  omega
theorem can_n {H : Hp} : ∀ {b : Bd} {m : Nat} {xs : List V}, CanB H b xs → b.dep ≤ m → b.wid ≤ 100 → (∀ w ∈ b.things, w.length ≤ 1000) → Paired (CanN H (2 * m + 1)) (bdL b) xs
  | .nil, m, xs, h, _, _, _ => by
    have h : xs = [] := h
    subst h
    exact .nil
  | .unit n r, m, xs, ⟨t, e, h⟩, d, w, l => by
    subst e
    exact .cons rfl (can_n h d (Nat.le_trans (Nat.le_max_right _ _) w) l)
  | .lock v c r, m, xs, ⟨p, q, ys, t, e, h1, h2, h3, h4⟩, d, w, l => by
    subst e
    have d1 : c.dep + 1 ≤ m := Nat.le_trans (Nat.le_max_left _ _) d
    have w1 : max c.wid r.wid ≤ 100 := Nat.le_trans (Nat.le_max_right _ _) w
    obtain ⟨k, rfl⟩ : ∃ k, m = k + 1 := ⟨m - 1, by omega⟩
    have ih := can_n (m := k) h3 (by omega) (Nat.le_trans (Nat.le_max_left _ _) w1) fun x mx => l x (List.mem_cons_of_mem _ (List.mem_append_left _ mx))
    refine .cons ⟨p, _, rfl, h1, by show 2 ≤ 100; decide, .cons ⟨rfl, l v List.mem_cons_self⟩ (.cons ⟨q, ys, rfl, h2, ?_, ih⟩ .nil)⟩ (can_n h4 (Nat.le_trans (Nat.le_max_right _ _) d) (Nat.le_trans (Nat.le_max_right _ _) w1) fun x mx => l x (List.mem_cons_of_mem _ (List.mem_append_right _ mx)))
    have e1 := Paired.length ih
    have e2 := Paired.length (can_parts h3)
    rw [Bd.parts_len] at e2
    have := Bd.len_wid c
    have := Nat.le_trans (Nat.le_max_left c.wid r.wid) w1
    omega
theorem tsN_len : ∀ x ∈ tsN, x.length ≤ 1000 := by decide +kernel
theorem can_job {H : Hp} {j : Jb} {kv : Key × V} (h : JobA H j kv) (g : GoodB 2 tsN j.bd) : CanN H 7 (jobD j) kv.2 := by
  obtain ⟨_, t, q, xs, e, h1, h2, h3⟩ := h
  have w := g.wid
  have z := can_n (m := 2) h3 g.dep (by omega) fun x mx => tsN_len x (g.tm x mx)
  refine ⟨t, _, e, h1, by show 3 ≤ 100; decide, .cons rfl (.cons rfl (.cons ⟨q, xs, rfl, h2, ?_, z⟩ .nil))⟩
  have e1 := Paired.length z
  have e2 := Paired.length (can_parts h3)
  rw [Bd.parts_len] at e2
  have := Bd.len_wid j.bd
  omega
/-! ### the jobs by name -/
instance : Inhabited Jb := ⟨⟨("" : Str), 0, 0, .nil⟩⟩
def jbOf (js : List Jb) (x : Str) : Jb := (js.find? fun j => decide (j.name = x)).getD default
theorem jbOf_mem : ∀ {js : List Jb} {j : Jb}, (js.map Jb.name).Nodup → j ∈ js → jbOf js j.name = j
  | a :: r, j, nd, m => by
    rw [List.map_cons, List.nodup_cons] at nd
    unfold jbOf
    rcases List.mem_cons.mp m with rfl | m
    · rw [List.find?_cons_of_pos (by exact decide_eq_true rfl)]
      rfl
    · rw [List.find?_cons_of_neg (by intro z; exact nd.1 (of_decide_eq_true z ▸ List.mem_map_of_mem m))]
      exact jbOf_mem nd.2 m
theorem jbOf_of {js : List Jb} {x : Str} (nd : (js.map Jb.name).Nodup) (m : x ∈ js.map Jb.name) : jbOf js x ∈ js ∧ (jbOf js x).name = x := by
  obtain ⟨j, mj, rfl⟩ := List.mem_map.mp m
  rw [jbOf_mem nd mj]
  exact ⟨mj, rfl⟩
theorem jbs_perm {js : List Jb} {zs : List Str} (nd : (js.map Jb.name).Nodup) (p : zs.Perm (js.map Jb.name)) : (zs.map (jbOf js)).Perm js := by
  have z := p.map (jbOf js)
  rw [List.map_map] at z
  have e : js.map (jbOf js ∘ Jb.name) = js := (List.map_congr_left fun j m => jbOf_mem nd m).trans (List.map_id js)
  rwa [e] at z
theorem jbs_names {js : List Jb} {zs : List Str} (nd : (js.map Jb.name).Nodup) (s : ∀ x ∈ zs, x ∈ js.map Jb.name) : (zs.map (jbOf js)).map Jb.name = zs := by
  rw [List.map_map]
  exact (List.map_congr_left fun x m => (jbOf_of nd (s x m)).2).trans (List.map_id zs)
theorem ja_keys {H : Hp} {js : List Jb} {kvs : List (Key × V)} (p : Paired (JobA H) js kvs) : kvs.map (·.1) = (js.map Jb.name).map Sum.inr := by
  induction p with
  | nil => rfl
  | cons h _ ih => rw [List.map_cons, List.map_cons, List.map_cons, ih, h.1]
theorem ja_get {H : Hp} {js : List Jb} {kvs : List (Key × V)} {j : Jb} (p : Paired (JobA H) js kvs) (nd : (js.map Jb.name).Nodup) (m : j ∈ js) : ∃ v, valV kvs (Sum.inr j.name) = some v ∧ JobA H j (Sum.inr j.name, v) := by
  obtain ⟨i, hi⟩ := List.getElem?_of_mem m
  obtain ⟨⟨k, v⟩, ek, r⟩ := paired_get2 p hi
  have e : k = Sum.inr j.name := r.1
  subst e
  exact ⟨v, valV_mem (q := (Sum.inr j.name, v)) (by rw [ja_keys p]; exact nd_inr nd) (List.mem_of_getElem? ek), r⟩
def HandJ (K : PySem.W.Frag) (H : Hp) (j : Jb) (kv : Key × V) : Prop := kv.1 = Sum.inr j.name ∧ ∃ d, Dp K H kv.2 d ∧ LikeJ j d
theorem HandJ.ex {K : PySem.W.Frag} {H H' : Hp} {j : Jb} {kv : Key × V} (x : Ex H H') (h : HandJ K H j kv) : HandJ K H' j kv := by
  obtain ⟨e, d, a, b⟩ := h
  exact ⟨e, d, Dp.ex x _ _ a, b⟩
theorem hand_of {K : PySem.W.Frag} {N : Addr → Prop} {H H' : Hp} {js : List Jb} (xh : Ex H H') (nd : (js.map Jb.name).Nodup) : ∀ {zs : List Str} {kvs : List (Key × V)}, Paired (fun x (kv : Key × V) => kv.1 = Sum.inr x ∧ AnyN N H 7 (jobD (jbOf js x)) kv.2) zs kvs → (∀ x ∈ zs, x ∈ js.map Jb.name) → Paired (HandJ K H') (zs.map (jbOf js)) kvs
  | _, _, .nil, _ => .nil
  | _, _, .cons r t, mz => by
    refine .cons ⟨?_, ?_⟩ (hand_of xh nd t fun x m => mz x (List.mem_cons_of_mem _ m))
    · rw [(jbOf_of nd (mz _ List.mem_cons_self)).2]
      exact r.1
    · obtain ⟨d, h1, h2⟩ := any_dp (K := K) r.2
      exact ⟨d, Dp.ex xh _ _ h1, sim_job h2⟩
def rSD : List V → Hp → VK → Prop := fun xs H Q => ∃ (a : Addr) (kvs : List (Key × V)) (ks : List Str), xs = [.ref a] ∧ Rd H a (.dK kvs) ∧ kvs.map (·.1) = ks.map Sum.inr ∧ ks.length < 64 ∧ ∀ ys p, ys.Perm ks → sortedS ys = true → H p = none → Q (.ref p) (upd H p (.lst (ys.map V.str)))
theorem call_sd {X : Cx} (h : X.calm = true) : CallR X (.builtin "sorted") rSD := call_sortedD h
def tHD (K : PySem.W.Frag) (ip ij iv : Nat) : TE := tCB (rDictP K) (tCons (tLc (iList K (tCall spMixed [] E0 (tCons (tVar ip) (tCons (tCB rSD (tCons (tVar ij) tNil)) tNil)))) (gName iv) tYes (tTup (tCons (tVar iv) (tCons (tCall (spHanded K 7) [] E0 (tCons (tVar ip) (tCons (tDGet (tVar ij) (tVar iv)) tNil))) tNil))) [iv]) tNil)
theorem wjN_lay : ∀ x ∈ wjN, PyData.canLay0 (.str x) = true := by decide +kernel
theorem handed_go {K : PySem.W.Frag} {σ : L2.St} {H : Hp} {Q : VK} {ip ij iv : Nat} {p jd : Addr} {n : Nat} {js : List Jb} (len : iv < σ.length) (np : ip ≠ iv) (nj : ij ≠ iv) (sp : σ[ip]? = some (some (.ref p))) (sj : σ[ij]? = some (some (.ref jd))) (S : Pool H p n) (hn : n + 200 < 1000000) (dj : DJ H jd js) (g : GoodJ js) (l4 : js.length ≤ 4)
    (hQ : ∀ (hd : Addr) (js' : List Jb) (kvs : List (Key × V)) (H' : Hp), js'.Perm js → ExA p H H' → Pool H' p (n + 200) → H hd = none → H' hd = some (.dK kvs) → Paired (HandJ K H') js' kvs → Q (.ref hd) H') : tHD K ip ij iv σ H Q := by
  obtain ⟨kj, hj, pj⟩ := dj
  refine ⟨.ref p, sp, .ref jd, sj, jd, kj, js.map Jb.name, rfl, .inl hj, ja_keys pj, by rw [List.length_map]; omega, fun ns q pm so nq => ?_⟩
  have x1 := Ex.new (o := .lst (ns.map V.str)) nq
  have hq : upd H q (.lst (ns.map V.str)) q = some (.lst (ns.map V.str)) := upd_same
  generalize upd H q (.lst (ns.map V.str)) = H1 at x1 hq ⊢
  have S1 := S.ex x1
  have nl : ns.length ≤ 4 := by rw [pm.length_eq, List.length_map]; exact l4
  refine ⟨p, q, n, ns.map V.str, rfl, S1, by rw [List.length_map]; omega, hq, by rw [List.length_map]; omega, fun x mx => ?_, fun q2 ys H2 x2 S2 nq2 hq2 pm2 => ?_⟩
  · obtain ⟨z, mz, rfl⟩ := List.mem_map.mp mx
    obtain ⟨j, mj, rfl⟩ := List.mem_map.mp (pm.mem_iff.mp mz)
    exact .inr ⟨_, rfl, wjN_lay _ (g.wd j mj)⟩
  obtain ⟨zs, rfl, pz⟩ := perm_strs pm2
  have pzj : zs.Perm (js.map Jb.name) := pz.trans pm
  have znd : zs.Nodup := pzj.nodup_iff.mpr g.nd
  have zl : zs.length ≤ 4 := by rw [pzj.length_eq, List.length_map]; exact l4
  rw [List.length_map] at S2
  refine ⟨q2, rfl, ⟨_, .inl (.inl hq2)⟩, fun D nD => ?_⟩
  have Dq := S2.off nD
  have q2p : q2 ≠ p := S1.off nq2
  have x12 := x1.exA.trans x2
  have hj2 : H2 jd = some (.dK kj) := x12.nl S hj fun _ z => nomatch z
  have kt2 : KeepT H H2 := fun c zs e => x12.nl S e fun _ z => nomatch z
  refine lc_list (K := K) (xs := zs.map V.str) (fun i H' => ∃ (ps : List Addr) (kvs : List (Key × V)), ExA p H2 H' ∧ Pool H' p (n + 4 + i * 30) ∧ H' D = some (.lst (ps.map V.ref)) ∧ Paired (fun a (kv : Key × V) => H' a = some (.tup [kV kv.1, kv.2])) ps kvs ∧ Paired (fun x (kv : Key × V) => kv.1 = Sum.inr x ∧ AnyN (fun c => H2 c ≠ none ∨ c = D) H' 7 (jobD (jbOf js x)) kv.2) (zs.take i) kvs) ⟨[], [], (Ex.new nD).exA, (S2.new nD).mono (by omega), upd_same, .nil, .nil⟩ (fun i H' _ ⟨_, _, x, _⟩ => .inl (.inl (x _ _ q2p hq2))) (fun i v H3 hv h => ?_) fun H3 h => ?_
  · obtain ⟨ps, kvs, x3, S3, hD, pt, pk⟩ := h
    rw [List.getElem?_map] at hv
    obtain ⟨x, ex, rfl⟩ := Option.map_eq_some_iff.mp hv
    have ilt := (List.getElem?_eq_some_iff.mp ex).1
    have av : ((wipe σ [iv]).set iv (some (V.str x)))[iv]? = some (some (V.str x)) := List.getElem?_set_self (by rw [wipe_length]; exact len)
    have up : ∀ k, k ≠ iv → ((wipe σ [iv]).set iv (some (V.str x)))[k]? = σ[k]? := fun k hk => by
      rw [List.getElem?_set_ne hk.symm]
      exact List.getElem?_set_ne hk.symm
    have mx : x ∈ js.map Jb.name := pzj.mem_iff.mp (List.mem_of_getElem? ex)
    obtain ⟨mj, ej⟩ := jbOf_of g.nd mx
    obtain ⟨v, ev, ja⟩ := ja_get pj g.nd mj
    rw [ej] at ev ja
    have kt3 : KeepT H2 H3 := fun c zs e => x3.nl S2 e fun _ z => nomatch z
    have hj3 : H3 jd = some (.dK kj) := x3.nl S2 hj2 fun _ z => nomatch z
    have gb := g.gb _ mj
    have cn := can_job ((ja.kt kt2).kt kt3) gb
    have cj := cnt_job gb
    refine ⟨?_, .str x, av, .ref p, (up ip np).trans sp, .ref jd, (up ij nj).trans sj, .str x, av, jd, v, rfl, ev ▸ DGet.k (k := Sum.inr x) hj3, p, v, _, _, rfl, S3, by have : i * 30 ≤ 4 * 30 := Nat.mul_le_mul_right _ (by omega); omega, cn, fun v' H4 x4 S4 an => ⟨by show 2 ≤ sizeLine; decide, fun t nt => ?_⟩⟩
    · show ((σ.set iv none).set iv (some (V.str x))).set iv none = σ.set iv none
      rw [List.set_set, List.set_set]
    have xt := Ex.new (o := .tup [.str x, v']) nt
    have ht : upd H4 t (.tup [.str x, v']) t = some (.tup [.str x, v']) := upd_same
    have S5 := S4.ex xt
    generalize upd H4 t (.tup [.str x, v']) = H5 at xt ht S5 ⊢
    have hD5 := xt _ _ (x4 _ _ Dq hD)
    have pl : ps.length ≤ 4 := by
      have e1 := Paired.length pk
      have e2 := Paired.length pt
      rw [List.length_take] at e1
      omega
    have off : ∀ {b ys}, H5 b = some (.tup ys) → b ≠ D := fun h z => by rw [z, hD5] at h; cases h
    have kt5 : KeepT H5 (upd H5 D (.lst (ps.map V.ref ++ [.ref t]))) := fun c zs e => (upd_ne (off e)).trans e
    have kt35 : KeepT H3 H5 := fun c zs e => xt _ _ (x4.nl S3 e fun _ z => nomatch z)
    refine ⟨_, hD5, by rw [List.length_map, sizeLine_eq]; omega, ps ++ [t], kvs ++ [(Sum.inr x, v')], fun b o nb e => (upd_ne fun z => by rw [z, nD] at e; cases e).trans (xt _ _ (x4 _ _ nb (x3 _ _ nb e))), (S5.put Dq).mono (by rw [Nat.succ_mul]; omega), by rw [upd_same, List.map_append]; rfl, paired_app (Paired.mapP pt fun _ _ z => kt5 _ _ (kt35 _ _ z)) (kt5 _ _ ht), ?_⟩
    rw [List.take_add_one, ex]
    refine paired_app (Paired.mapP pk fun _ _ ⟨z1, z2⟩ => ⟨z1, z2.keep (fun _ q => q) (fun c zs nc e => ?_) fun c zs e => kt5 _ _ (kt35 _ _ e)⟩) ⟨rfl, an.keep (fun c q => ?_) (fun c zs nc e => ?_) fun c zs e => kt5 _ _ (xt _ _ e)⟩
    · have cp : c ≠ p := fun z => nc (.inl (by rw [z]; obtain ⟨_, _, _, e0, _⟩ := S2; rw [e0]; exact fun q => nomatch q))
      exact (upd_ne fun z => nc (.inr z)).trans (xt _ _ (x4 _ _ cp e))
    · rcases q with q | q
      · exact exA_some x3 S3 q
      · rw [q, hD]; exact fun z => nomatch z
    · exact (upd_ne fun z => nc (by rw [z, hD]; exact fun q => nomatch q)).trans (xt _ _ e)
  · obtain ⟨ps, kvs, x3, S3, hD, pt, pk⟩ := h
    rw [List.length_map] at S3 pk
    rw [List.take_length] at pk
    have ks : kvs.map (·.1) = zs.map Sum.inr := by
      clear hD pt S3 x3 znd zl pz pzj pm2 hq2
      induction pk with
      | nil => rfl
      | cons r _ ih => rw [List.map_cons, List.map_cons, r.1, ih]
    have knd : (kvs.map (·.1)).Nodup := by rw [ks]; exact nd_inr znd
    refine ⟨D, ps, kvs, rfl, .inl (.inl hD), Paired.mapP pt fun _ _ z => .inl (.inl z), fun hd nhd => ?_⟩
    rw [merge_nd kvs [] knd]
    have xh := Ex.new (o := .dK ([] ++ kvs)) nhd
    have xx : ExA p H (upd H3 hd (.dK ([] ++ kvs))) := (x12.trans x3).trans xh.exA
    refine hQ hd (zs.map (jbOf js)) kvs _ (jbs_perm g.nd pzj) xx ((S3.ex xh).mono (by have : zs.length * 30 ≤ 4 * 30 := Nat.mul_le_mul_right _ zl; omega)) ((x12.trans x3).none S3 nhd) upd_same ?_
    exact hand_of xh g.nd pk fun x m => pzj.mem_iff.mp m
end TH

/-! J13: Jobs.__init__ of right jobs -/
namespace TH
open PySem PySem.Spec PyProof.Rows L2 LamV LamX XK0
open C8 (pss_cut tCut)
abbrev sJInit : Stmt := inClass (top 20) 0
/-! ### ceilings plainly -/
def prOf (w : Str) (j : Jb) : Nat := if w ∈ j.bd.things then j.pr else 0
def ceilN (js : List Jb) (w : Str) : Nat := (js.map (prOf w)).foldl max 0
theorem fm_le : ∀ {l : List Nat} {a m : Nat}, l.foldl max a ≤ m ↔ a ≤ m ∧ ∀ x ∈ l, x ≤ m
  | [], a, m => ⟨fun h => ⟨h, fun _ z => by cases z⟩, fun h => h.1⟩
  | x :: r, a, m => by
    rw [List.foldl_cons, fm_le]
    constructor
    · intro ⟨h1, h2⟩
      refine ⟨by omega, fun y my => ?_⟩
      rcases List.mem_cons.mp my with rfl | my
      · omega
      · exact h2 y my
    · intro ⟨h1, h2⟩
      have := h2 x List.mem_cons_self
      exact ⟨by omega, fun y my => h2 y (List.mem_cons_of_mem _ my)⟩
theorem ceilN_perm {js ks : List Jb} (p : js.Perm ks) (w : Str) : ceilN js w = ceilN ks w := by
  have q := p.map (prOf w)
  have go : ∀ {a b : List Nat}, a.Perm b → a.foldl max 0 ≤ b.foldl max 0 := fun q => fm_le.mpr ⟨Nat.zero_le _, fun x mx => (fm_le.mp (Nat.le_refl _)).2 x (q.mem_iff.mp mx)⟩
  exact Nat.le_antisymm (go q) (go q.symm)
theorem ceilN_snoc (js : List Jb) (j : Jb) (w : Str) : ceilN (js ++ [j]) w = max (ceilN js w) (prOf w j) := by
  unfold ceilN
  rw [List.map_append, List.foldl_append]
  rfl
def optI (n : Nat) : Option V := if n = 0 then none else some (.int n)
def CeilF (cl : List (Key × V)) (f : Str → Nat) : Prop := ∀ w, valV cl (Sum.inr w) = optI (f w)
theorem optI_get (n : Nat) : (optI n).getD (.int 0) = .int n := by
  unfold optI
  split
  · rename_i h
    rw [h]
    rfl
  · rfl
theorem ceilF_put {cl : List (Key × V)} {f : Str → Nat} {t : Str} {m : Nat} (h : CeilF cl f) (p : 1 ≤ m) : CeilF (putK cl (Sum.inr t) (.int m)) (fun w => if w = t then m else f w) := fun w => by
  rw [valV_put]
  by_cases e : w = t
  · rw [if_pos (congrArg Sum.inr e)]
    show _ = optI (if w = t then m else f w)
    rw [if_pos e]
    unfold optI
    rw [if_neg (by omega)]
  · rw [if_neg (fun z => e (Sum.inr.inj z))]
    show _ = optI (if w = t then m else f w)
    rw [if_neg e]
    exact h w
theorem putK_len {κ : Type} [DecidableEq κ] {cl : List (κ × V)} {k : κ} {v : V} : (putK cl k v).length ≤ cl.length + 1 := by
  unfold putK
  split
  · rw [List.length_map]; omega
  · rw [List.length_append]; exact Nat.le_refl _
def costV (js : List Jb) : List (Key × V) := js.map fun j => (Sum.inr j.name, V.int j.bd.cost)
theorem costV_keys (js : List Jb) : (costV js).map (·.1) = (js.map Jb.name).map Sum.inr := by
  unfold costV
  rw [List.map_map, List.map_map]
  rfl
theorem costV_get {js : List Jb} {j : Jb} (nd : (js.map Jb.name).Nodup) (m : j ∈ js) : valV (costV js) (Sum.inr j.name) = some (.int j.bd.cost) :=
  valV_mem (q := (Sum.inr j.name, V.int j.bd.cost)) (by rw [costV_keys]; exact nd_inr nd) (List.mem_map_of_mem m)
def fj (a b c d : V) : List (Str × V) := [("kept_jobs", a), ("kept_spans", b), ("kept_costs", c), ("kept_ceilings", d)]
structure JobC (K : PySem.W.Frag) (C : Addr) : Prop where
  cls : Cls K C
  jobs : NoAttr K C "kept_jobs"
  spans : NoAttr K C "kept_spans"
  costs : NoAttr K C "kept_costs"
  ceils : NoAttr K C "kept_ceilings"
/-- the object p is the Jobs of js; its dicts are of F -/
def IsJb (F : Addr → Prop) (H : Hp) (C p : Addr) (js : List Jb) : Prop := ∃ dx kj ks kc kl cl, H p = some (.ins C dx (fj (.ref kj) (.ref ks) (.ref kc) (.ref kl))) ∧ (F kj ∧ F kc ∧ F kl) ∧ DJ H kj js ∧ H kc = some (.dK (costV js)) ∧ H kl = some (.dK cl) ∧ CeilF cl (ceilN js)
theorem IsJb.keep {F F' : Addr → Prop} {H H' : Hp} {C p : Addr} {js : List Jb} (h : IsJb F H C p js) (m : ∀ a, F a → F' a) (k : ∀ b o, F b ∨ ((∀ xs, o ≠ .lst xs) ∧ ∀ l, o ≠ .dK l) → H b = some o → H' b = some o) : IsJb F' H' C p js := by
  obtain ⟨dx, kj, ks, kc, kl, cl, e, ⟨f1, f2, f3⟩, ⟨kvs, h1, pr⟩, h2, h3, h4⟩ := h
  exact ⟨dx, kj, ks, kc, kl, cl, k _ _ (.inr ⟨fun _ z => (nomatch z), fun _ z => nomatch z⟩) e, ⟨m _ f1, m _ f2, m _ f3⟩, ⟨kvs, k _ _ (.inl f1) h1, Paired.mapP pr fun _ _ z => z.kt fun a xs e => k _ _ (.inr ⟨fun _ z => (nomatch z), fun _ z => nomatch z⟩) e⟩, k _ _ (.inl f2) h2, k _ _ (.inl f3) h3, h4⟩
theorem IsJb.ex {F : Addr → Prop} {H H' : Hp} {C p : Addr} {js : List Jb} (x : Ex H H') (h : IsJb F H C p js) : IsJb F H' C p js := h.keep (fun _ z => z) fun b o _ e => x b o e
structure FitJ (js : List Jb) : Prop where
  ne : js ≠ []
  l4 : js.length ≤ 4
  nd : (js.map Jb.name).Nodup
  wd : ∀ j ∈ js, okS j.name = true
  pnd : (js.map Jb.pr).Nodup
  p1 : ∀ j ∈ js, 1 ≤ j.pr
  d1 : ∀ j ∈ js, 1 ≤ j.di
  gb : ∀ j ∈ js, GoodB 2 tsN j.bd
theorem wjN_ok : ∀ x ∈ wjN, okS x = true := by decide +kernel
theorem prN_pos : ∀ x ∈ prN, 1 ≤ x := by decide
theorem GoodJ.fit {js : List Jb} (g : GoodJ js) (ne : js ≠ []) (l : js.length ≤ 4) : FitJ js := ⟨ne, l, g.nd, fun j m => wjN_ok _ (g.wd j m), g.pnd, fun j m => prN_pos _ (g.pm j m), g.di, g.gb⟩
theorem FitJ.perm {js ks : List Jb} (g : FitJ js) (p : ks.Perm js) : FitJ ks :=
  ⟨fun z => g.ne (List.length_eq_zero_iff.mp (by rw [← p.length_eq, z]; rfl)), by rw [p.length_eq]; exact g.l4, (p.map Jb.name).nodup_iff.mpr g.nd, fun j m => g.wd j (p.mem_iff.mp m), (p.map Jb.pr).nodup_iff.mpr g.pnd, fun j m => g.p1 j (p.mem_iff.mp m), fun j m => g.d1 j (p.mem_iff.mp m), fun j m => g.gb j (p.mem_iff.mp m)⟩
theorem FitJ.len {js : List Jb} (g : FitJ js) {j : Jb} (m : j ∈ js) : j.name.length ≤ 1000 := by
  have := okS_len (g.wd j m)
  omega
def spJInit (K : PySem.W.Frag) (C : Addr) : Sp := fun vs H Q _ => ∃ (p dx hd : Addr) (js : List Jb) (kvs : List (Key × V)), vs = [.ref p, .ref hd] ∧ H p = some (.ins C dx []) ∧ H hd = some (.dK kvs) ∧ Paired (HandJ K H) js kvs ∧ FitJ js ∧
  ∀ (H' : Hp) (js' : List Jb), ExA p H H' → IsJb (fun a => H a = none) H' C p js' → js'.Perm js → sortedS (js'.map Jb.name) = true → Q .non H'
theorem hj_keys {K : PySem.W.Frag} {H : Hp} {js : List Jb} {kvs : List (Key × V)} (p : Paired (HandJ K H) js kvs) : kvs.map (·.1) = (js.map Jb.name).map Sum.inr := by
  induction p with
  | nil => rfl
  | cons h _ ih => rw [List.map_cons, List.map_cons, List.map_cons, ih, h.1]
/-- all but dicts stands -/
def KeepD (H H' : Hp) : Prop := ∀ b o, H b = some o → (∀ l, o ≠ .dK l) → H' b = some o
theorem Ex.kd {H H' : Hp} (x : Ex H H') : KeepD H H' := fun b o e _ => x b o e
theorem KeepD.sqL {K : PySem.W.Frag} {H H' : Hp} {b : Addr} {xs : List V} (x : KeepD H H') (h : SqL K H b xs) : SqL K H' b xs := h.imp (Or.imp (fun e => x _ _ e fun _ z => nomatch z) fun ⟨o, e⟩ => ⟨o, x _ _ e fun _ z => nomatch z⟩) id
theorem KeepD.sqT {K : PySem.W.Frag} {H H' : Hp} {b : Addr} {xs : List V} (x : KeepD H H') (h : SqT K H b xs) : SqT K H' b xs := h.imp (Or.imp (fun e => x _ _ e fun _ z => nomatch z) fun ⟨o, e⟩ => ⟨o, x _ _ e fun _ z => nomatch z⟩) id
mutual
theorem Dp.kd {K : PySem.W.Frag} {H H' : Hp} (x : KeepD H H') : ∀ (d : PyData) (v : V), Dp K H v d → Dp K H' v d
  | .none, _, h => by cases h; exact .non
  | .bool b, _, h => by cases h; exact .bl b
  | .int i, _, h => by cases h; exact .int i
  | .str s, _, h => by cases h; exact .str s
  | .list ds, _, h => by
    cases h with
    | lst h r => exact .lst (x.sqL h) (Dp.kdAll x ds _ r)
  | .tuple ds, _, h => by
    cases h with
    | tup h r => exact .tup (x.sqT h) (Dp.kdAll x ds _ r)
  | .dict _, _, h => by cases h
theorem Dp.kdAll {K : PySem.W.Frag} {H H' : Hp} (x : KeepD H H') : ∀ (ds : List PyData) (vs : List V), DpAll K H vs ds → DpAll K H' vs ds
  | [], _, h => by cases h; exact .nil
  | d :: r, _, h => by
    cases h with
    | cons a b => exact .cons (Dp.kd x d _ a) (Dp.kdAll x r _ b)
end
theorem hj_get {K : PySem.W.Frag} {H : Hp} {js : List Jb} {kvs : List (Key × V)} {j : Jb} (p : Paired (HandJ K H) js kvs) (nd : (js.map Jb.name).Nodup) (m : j ∈ js) : ∃ v, valV kvs (Sum.inr j.name) = some v ∧ ∃ d, Dp K H v d ∧ LikeJ j d := by
  obtain ⟨i, hi⟩ := List.getElem?_of_mem m
  obtain ⟨⟨k, v⟩, ek, e, r⟩ := paired_get2 p hi
  have e : k = Sum.inr j.name := e
  subst e
  exact ⟨v, valV_mem (q := (Sum.inr j.name, v)) (by rw [hj_keys p]; exact nd_inr nd) (List.mem_of_getElem? ek), r⟩
theorem fld1 (a : V) : putF "kept_jobs" a [] = [(("kept_jobs" : Str), a)] := putF_new (fs := []) fun z => by cases z
theorem fld4 (a b c d : V) : putF "kept_ceilings" d (putF "kept_costs" c (putF "kept_spans" b [(("kept_jobs" : Str), a)])) = fj a b c d := by
  have n1 : ("kept_spans" : Str) ∉ ([("kept_jobs" : Str)] : List Str) := by decide +kernel
  have n2 : ("kept_costs" : Str) ∉ ([("kept_jobs" : Str), "kept_spans"] : List Str) := by decide +kernel
  have n3 : ("kept_ceilings" : Str) ∉ ([("kept_jobs" : Str), "kept_spans", "kept_costs"] : List Str) := by decide +kernel
  rw [putF_new (f := "kept_spans") (fs := [(("kept_jobs" : Str), a)]) n1, putF_new (f := "kept_costs") (fs := [(("kept_jobs" : Str), a)] ++ [(("kept_spans" : Str), b)]) n2]
  exact putF_new (fs := [(("kept_jobs" : Str), a)] ++ [(("kept_spans" : Str), b)] ++ [(("kept_costs" : Str), c)]) n3
theorem exA_new {p b : Addr} {H H' : Hp} {o : HO} (x : ExA p H H') (hp : H' p = some o) (n : H' b = none) : H b = none := by
  cases q : H b with
  | none => rfl
  | some u =>
    rw [x b u (fun z => by rw [z, hp] at n; cases n) q] at n
    cases n
section
variable {P : Program} {w : World} {K : PySem.W.Frag} {mg : Str → Option Value} {base : Heap} {f C : Addr} {fd : FuncData}
theorem scJInit : FnScope ["self", "jobs", "met", "job", "priority", "distance", "body", "path", "thing", "begin", "end"] ["self", "jobs"] (defScope sJInit) := ⟨rfl, rfl, rfl, by decide +kernel, rfl, by decide +kernel, by decide +kernel⟩
theorem ok_jinit (F : FunD K "__init__" "Jobs.__init__" (defArgs sJInit) (defBody sJInit) (defScope sJInit) [] [] f fd) (T : JobC K C) (FW : Has P w K mg base "is_word" 1 ["thing"] (spIsWord K)) (FI : Has P w K mg base "is_job" 8 ["thing", "priorities"] (spIsJob K 4)) (FK : Has P w K mg base "body_kept" 6 ["body"] (spKept K 3)) (FS : Has P w K mg base "spans_of" 6 ["body", "path", "begin"] (spSpans K 3)) (gi : mg "isinstance" = none) (gd : mg "dict" = none) (gn : mg "len" = none) (gs : mg "sorted" = none) (gm : mg "max" = none) :
    FnOk P w K mg base CX0 9 f fd ["self", "jobs"] (spJInit K C) := by
  refine F.ok scJInit (fun vs H Q E h => ?_) (fun cdv A outer s H vs Q E hr h => ?_)
  · obtain ⟨p, dx, hd, js, kvs, rfl, _⟩ := h
    rfl
  · have hu := hu_of hr
    refine ⟨_, PSs.nox (pss_cons (ps_if (PW.pt (pw_or (pt_not (pt_val (pe_callB call_isi rfl gi boot_isinstance (pa_cons (pv 1) (pa_cons (pe_bltn (v := .ty "dict") rfl gd boot_dict rfl) pa_nil))))) (pw_or1 (pt_cmp (pc_eqI (pe_callB call_lenD rfl gn boot_len (pa_cons (pv 1) pa_nil)) pe_int))))) (pss_one ps_dead) pss_nil)
      (pss_cons (ps_set (i := 2) scJInit.nd rfl (.inl rfl) (pe_lst pa_nil))
      (pss_cons (ps_lock (ps_for PassesOwn.never rfl (pi_keys (pv 1)) (pg_name (i := 3) scJInit.nd rfl (.inl rfl))
        (pss_cons (ps_if (PW.pt (pw_or (pt_not (pt_val (pe_has FW hr (by decide) rfl (pa_cons (pv 3) pa_nil)))) (pw_or1 (pt_not (pt_val (pe_has FI hr (by decide) rfl (pa_cons (pe_dget hu (pv 1) (pv 3) (fun _ _ => rfl)) (pa_cons (pv 2) pa_nil)))))))) (pss_one ps_dead) pss_nil)
        (pss_one (ps_expr (pe_bm PySem.F.plainAttrs_list PySem.F.slot_list_append PySem.F.type_list_append mt_append (pv 2) (pa_cons (pe_ix ix_sq (pe_dget hu (pv 1) (pv 3) (fun _ _ => rfl)) pe_int (fun _ _ => rfl)) pa_nil)))))))
      (pss_cut (ps_asg (pe_dc (own := [("job", 3)]) (tk := tVar 3) (tv := tTup (tCons (tOp (rIxQ K) (tDGet (tVar 1) (tVar 3)) (tC (.int 0))) (tCons (tOp (rIxQ K) (tDGet (tVar 1) (tVar 3)) (tC (.int 1))) (tCons (tCall (spKept K 3) [] E0 (tCons (tOp (rIxQ K) (tDGet (tVar 1) (tVar 3)) (tC (.int 2))) tNil)) tNil)))) rfl scJInit.nd (pi_list (pe_callB (call_sd rfl) rfl gs boot_sorted (pa_cons (pv 1) pa_nil))) (blkOk_by (by kernel_rfl)) (fun s H C cl fp => pg_name (i := 3) scJInit.nd rfl (.inl rfl) (.inr rfl)) (fun s H C cl fp => pts_nil) (fun s H C cl fp => pv 3)
          (fun s H C cl fp => pe_tup (pa_cons (pe_ix ix_sq (pe_dget hu (pv 1) (pv 3) (fun _ _ => rfl)) pe_int (fun _ _ => rfl)) (pa_cons (pe_ix ix_sq (pe_dget hu (pv 1) (pv 3) (fun _ _ => rfl)) pe_int (fun _ _ => rfl)) (pa_cons (pe_has FK hr (by decide) rfl (pa_cons (pe_ix ix_sq (pe_dget hu (pv 1) (pv 3) (fun _ _ => rfl)) pe_int (fun _ _ => rfl)) pa_nil)) pa_nil))))) (pg_fld (pv 0)))
      (pss_cut (ps_asg (pe_tup (pa_cons pe_dnewK (pa_cons pe_dnewK (pa_cons pe_dnewK pa_nil)))) (pg_tup rfl (pgs_cons (pg_fld (pv 0)) (pgs_cons (pg_fld (pv 0)) (pgs_cons (pg_fld (pv 0)) pgs_nil)))))
      (pss_one (ps_lock (ps_for PassesOwn.never rfl (pi_items (pe_fld (pv 0) rfl)) (pg_tup rfl (pgs_cons (pg_name (i := 3) scJInit.nd rfl (.inl rfl)) (pgs_cons (pg_tup rfl (pgs_cons (pg_name (i := 4) scJInit.nd rfl (.inl rfl)) (pgs_cons (pg_name (i := 5) scJInit.nd rfl (.inl rfl)) (pgs_cons (pg_name (i := 6) scJInit.nd rfl (.inl rfl)) pgs_nil)))) pgs_nil)))
        (pss_cut (ps_asg (pe_has FS hr (by decide) rfl (pa_cons (pv 6) (pa_cons (pe_tup pa_nil) (pa_cons pe_int pa_nil)))) (pg_tup rfl (pgs_cons (pg_sub (pe_fld (pv 0) rfl) (pv 3) (set_dict hu)) (pgs_cons (pg_sub (pe_fld (pv 0) rfl) (pv 3) (set_dict hu)) pgs_nil))))
        (pss_one (ps_for PassesOwn.never rfl (pi_list (pe_dget hu (pe_fld (pv 0) rfl) (pv 3) (fun _ _ => rfl))) (pg_tup rfl (pgs_cons (pg_name (i := 7) scJInit.nd rfl (.inl rfl)) (pgs_cons (pg_name (i := 8) scJInit.nd rfl (.inl rfl)) (pgs_cons (pg_name (i := 9) scJInit.nd rfl (.inl rfl)) (pgs_cons (pg_name (i := 10) scJInit.nd rfl (.inl rfl)) pgs_nil)))))
          (pss_one (ps_dput hu (pe_fld (pv 0) rfl) (pv 8) (pe_callB (call_max2 rfl) rfl gm boot_max (pa_cons (pv 4) (pa_cons (pe_dget2 hu (pe_fld (pv 0) rfl) (pv 8) pe_int ⟨rfl, rfl, rfl, rfl⟩) pa_nil))) rfl))))))))))))), ?_⟩
    obtain ⟨p, dx, hd, js, kvs, rfl, hp, hh, pj, fit, hQ⟩ := h
    have s3 : 3 ≤ sizeLine := by decide
    have vpos : 0 < kvs.length := by
      rw [← Paired.length pj]
      exact List.length_pos_iff.mpr fit.ne
    have kl4 : kvs.length ≤ 4 := by rw [← Paired.length pj]; exact fit.l4
    have hdp : hd ≠ p := fun z => by rw [z, hp] at hh; cases hh
    refine ⟨.ref hd, rfl, .ref hd, .ty "dict", _, _, true, rfl, .ty "dict", .base (.dK hh), kit_ty (by decide +kernel), _, rfl, .ref hd, rfl, hd, kvs, rfl, hh, kvs.length, 0, rfl, rfl, false, congrArg V.bl (decide_eq_false (by omega)), Nat.zero_le _, fun ml nml => ?_⟩
    have mlh : ml ≠ hd := fun z => by rw [z, hh] at nml; cases nml
    refine ⟨hd, _, (upd_ne mlh.symm).trans hh, trivial, fun od => ?_⟩
    obtain ⟨H2, eH2⟩ : ∃ H2, H2 = upd (upd H ml (.lst [])) hd (.frz od (.dK kvs)) := ⟨_, rfl⟩
    have h2h : H2 hd = some (.frz od (.dK kvs)) := by rw [eH2]; exact upd_same
    have h2m : H2 ml = some (.lst []) := by rw [eH2]; exact (upd_ne mlh).trans upd_same
    have h2k : ∀ b o, b ≠ hd → H b = some o → H2 b = some o := fun b o nb e => by
      rw [eH2]
      exact (upd_ne nb).trans ((upd_ne fun z => by rw [z, nml] at e; cases e).trans e)
    rw [← eH2]
    clear eH2
    refine ⟨.ref hd, rfl, hd, od, rfl, .inl ⟨kvs, h2h, for_it walk_keys (fun i σ' H' => ∃ o3, σ' = [some (.ref p), some (.ref hd), some (.ref ml), o3, none, none, none, none, none, none, none] ∧ (∀ b o, b ≠ ml → H2 b = some o → H' b = some o) ∧ H' ml = some (.lst (((js.take i).map fun j => (j.pr : Int)).map V.int))) ⟨none, rfl, fun _ _ _ e => e, h2m⟩ (fun i σ' H' _ ⟨_, _, x, _⟩ => x _ _ mlh.symm h2h) (fun i v σ' H' H3 hi h y => ?_) fun σ' H' h => ?_⟩⟩
    · obtain ⟨o3, rfl, x3, hm⟩ := h
      obtain ⟨rfl, k, v2, ek, rfl⟩ := y
      obtain ⟨j, ej, e1, d, dp, lk⟩ := paired_get pj ek
      have e1 : k = Sum.inr j.name := e1
      subst e1
      have mj := List.mem_of_getElem? ej
      have hget : ∀ {Hx : Hp}, Hx hd = some (.frz od (.dK kvs)) → DGet Hx hd (.str j.name) (some v2) := fun e => valV_mem (q := (Sum.inr j.name, v2)) (by rw [hj_keys pj]; exact nd_inr fit.nd) (List.mem_of_getElem? ek) ▸ .inl ⟨kvs, _, .inr ⟨od, e⟩, rfl, rfl⟩
      have kd3 : KeepD H H3 := fun b o e n => x3 _ _ (fun z => by rw [z, nml] at e; cases e) (h2k _ _ (fun z => by rw [z, hh] at e; cases e; exact n _ rfl) e)
      have h3h := x3 _ _ mlh.symm h2h
      refine ⟨.str j.name, rfl, .str j.name, "str", rfl, str_kd (fit.len mj), fun H4 x4 => ⟨_, rfl, ?_⟩⟩
      rw [show isWd (.str j.name) = true from fit.wd j mj]
      have dp4 := Dp.ex x4 _ _ (Dp.kd kd3 _ _ dp)
      have h4h := x4 _ _ h3h
      refine ⟨.ref hd, rfl, .str j.name, rfl, hd, v2, rfl, hget h4h, .ref ml, rfl, v2, ml, _, true, rfl, x4 _ _ hm, by decide, .inr ⟨d, dp4, lk.1, like_isjob lk (fit.gb j mj) (fit.p1 j mj) (fit.d1 j mj) fun z => ?_⟩, fun H5 x5 => ⟨true, rfl, ?_⟩⟩
      · obtain ⟨j2, m2, e2⟩ := List.mem_map.mp z
        have e3 : j2.pr = j.pr := by omega
        have ep : (js.map Jb.pr)[i]? = some j.pr := by rw [List.getElem?_map, ej]; rfl
        refine take_fresh fit.pnd ep ?_
        rw [← List.map_take, ← e3]
        exact List.mem_map_of_mem m2
      have dp5 := Dp.ex x5 _ _ dp4
      obtain ⟨_, x, qs, e2, e3, lk3⟩ := lk
      obtain ⟨a, xs, rfl, sq, da⟩ := dp_seq dp5 e2
      obtain ⟨y0, y1, y2, rfl, d0, d1, d2⟩ := dpA_three da
      cases d0
      have hm5 := x5 _ _ (x4 _ _ hm)
      have h5h := x5 _ _ h4h
      refine ⟨.ref ml, rfl, .inl ⟨rfl, _, .inl (.inl hm5)⟩, .ref hd, rfl, .str j.name, rfl, hd, .ref a, rfl, hget h5h, a, _, 0, .int j.pr, rfl, rfl, sq, at_nat (k := 0) rfl, ml, _, .int j.pr, rfl, rfl, hm5, by rw [List.length_map, List.length_map, List.length_take, sizeLine_eq]; omega, ?_⟩
      refine ⟨_, rfl, fun b o nb e => (upd_ne nb).trans (x5 _ _ (x4 _ _ (x3 _ _ nb e))), ?_⟩
      rw [upd_same, List.take_add_one, ej]
      simp
    · obtain ⟨o3, rfl, x3, hm⟩ := h
      have h3h := x3 _ _ mlh.symm h2h
      refine ⟨h3h, ?_⟩
      have xe : Ex H (upd H' hd (.dK kvs)) := fun b o e => by
        by_cases z : b = hd
        · rw [z] at e ⊢
          rw [upd_same]
          rw [hh] at e
          exact e
        · exact (upd_ne z).trans (x3 _ _ (fun q => by rw [q, nml] at e; cases e) (h2k _ _ z e))
      generalize upd H' hd (.dK kvs) = H4 at xe ⊢
      clear x3 hm h3h h2k h2m h2h
      have p4 := Paired.mapP pj fun _ _ z => z.ex xe
      have hh4 := xe _ _ hh
      -- kept_jobs
      refine ⟨fun σ' H' => ∃ (kj : Addr) (js' : List Jb), σ' = [some (.ref p), some (.ref hd), some (.ref ml), o3, none, none, none, none, none, none, none] ∧ ExA p H H' ∧ H' p = some (.ins C dx [(("kept_jobs" : Str), .ref kj)]) ∧ H kj = none ∧ DJ H' kj js' ∧ js'.Perm js ∧ sortedS (js'.map Jb.name) = true, ?_, ?_⟩
      · refine ⟨.ref hd, rfl, hd, kvs, js.map Jb.name, rfl, .inl hh4, hj_keys p4, by rw [List.length_map]; have := fit.l4; omega, fun ns q pm so nq => ?_⟩
        have x5 := Ex.new (o := .lst (ns.map V.str)) nq
        have hq : upd H4 q (.lst (ns.map V.str)) q = some (.lst (ns.map V.str)) := upd_same
        generalize upd H4 q (.lst (ns.map V.str)) = H5 at x5 hq ⊢
        have nnd : ns.Nodup := pm.nodup_iff.mpr fit.nd
        have nl : ns.length ≤ 4 := by rw [pm.length_eq, List.length_map]; exact fit.l4
        have x45 := xe.trans x5
        refine ⟨q, rfl, ⟨_, .inl (.inl hq)⟩, fun D nD => ?_⟩
        refine dc_it (walk_list (xs := ns.map V.str)) (fun i H' => Ex H5 H' ∧ ∃ ks, H' D = some (.dK ks) ∧ Paired (JobA H') ((ns.take i).map (jbOf js)) ks) ⟨Ex.new nD, [], upd_same, .nil⟩ (fun i H' _ h => .inl (.inl (h.1 _ _ hq))) (fun i v H2 H3 hi h y => ?_) fun H6 h => ?_
        · obtain ⟨x6, ks, hD, pk⟩ := h
          obtain ⟨rfl, y⟩ := y
          rw [List.getElem?_map] at y
          obtain ⟨x, ex, rfl⟩ := Option.map_eq_some_iff.mp y
          have mx : x ∈ js.map Jb.name := pm.mem_iff.mp (List.mem_of_getElem? ex)
          obtain ⟨mj, ej⟩ := jbOf_of fit.nd mx
          obtain ⟨v, ev, d, dp, lk⟩ := hj_get p4 fit.nd mj
          rw [ej] at ev
          have x46 := x5.trans x6
          have dp6 := Dp.ex x46 _ _ dp
          have hh6 := x46 _ _ hh4
          have hg : DGet H3 hd (.str x) (some v) := ev ▸ DGet.k (k := Sum.inr x) hh6
          have shd := lk.1
          obtain ⟨_, z, qs, e2, e3, lk3⟩ := lk
          obtain ⟨a, xs, rfl, sq, da⟩ := dp_seq dp6 e2
          obtain ⟨y0, y1, y2, rfl, d0, d1, d2⟩ := dpA_three da
          cases d0
          cases d1
          have gb := fit.gb _ mj
          have sh2 : shD z = true := shA_get (i := 2) (sh_seq shd e2) rfl
          have hD6 := hD
          refine ⟨rfl, .str x, rfl, .ref hd, rfl, .str x, rfl, hd, .ref a, rfl, hg, a, _, 0, .int (jbOf js x).pr, rfl, rfl, sq, at_nat (k := 0) rfl, .ref hd, rfl, .str x, rfl, hd, .ref a, rfl, hg, a, _, 1, .int (jbOf js x).di, rfl, rfl, sq, at_nat (k := 1) rfl, .ref hd, rfl, .str x, rfl, hd, .ref a, rfl, hg, a, _, 2, y2, rfl, rfl, sq, at_nat (k := 2) rfl, y2, z, qs, (jbOf js x).bd, rfl, d2, sh2, e3, lk3, by have := gb.dep; omega, by have := gb.wid; omega, Bd.ok_pos (gb.ok [] fun _ z => by cases z), fun q3 zs H7 x7 hq3 cb => ⟨s3, fun t nt => ?_⟩⟩
          have xt := Ex.new (o := .tup [.int (jbOf js x).pr, .int (jbOf js x).di, .ref q3]) nt
          have ht : upd H7 t (.tup [.int (jbOf js x).pr, .int (jbOf js x).di, .ref q3]) t = some (.tup [.int (jbOf js x).pr, .int (jbOf js x).di, .ref q3]) := upd_same
          generalize upd H7 t (.tup [.int (jbOf js x).pr, .int (jbOf js x).di, .ref q3]) = H8 at xt ht ⊢
          have hD8 := xt _ _ (x7 _ _ hD)
          have fr : (Sum.inr x : Key) ∉ ks.map (·.1) := fun z => by
            rw [ja_keys pk, jbs_names fit.nd (fun y my => pm.mem_iff.mp (List.mem_of_mem_take my))] at z
            obtain ⟨u, mu, eu⟩ := List.mem_map.mp z
            cases eu
            exact take_fresh nnd ex mu
          have kl : ks.length ≤ 4 := by
            rw [← Paired.length pk, List.length_map, List.length_take]
            omega
          have kt : KeepT H8 (upd H8 D (.dK (ks ++ [(Sum.inr x, .ref t)]))) := fun c zs e => (upd_ne fun z => by rw [z, hD8] at e; cases e).trans e
          refine ⟨ks, Sum.inr x, rfl, hD8, by rw [sizeLine_eq]; omega, ?_⟩
          rw [putK_fresh fr]
          refine ⟨fun b o e => (upd_ne fun z => by rw [z, nD] at e; cases e).trans (xt _ _ (x7 _ _ (x6 _ _ e))), _, upd_same, ?_⟩
          rw [List.take_add_one, ex, Option.toList_some, List.map_append]
          exact paired_app (Paired.mapP pk fun _ _ z => ((z.kt x7.kt).kt xt.kt).kt kt) ⟨congrArg Sum.inr ej.symm, t, q3, zs, rfl, kt _ _ ht, kt _ _ (xt _ _ hq3), (cb.kt xt.kt).kt kt⟩
        · obtain ⟨x6, ks, hD, pk⟩ := h
          rw [List.length_map, List.take_length] at pk
          have y6 := x45.trans x6
          have hp6 := y6 _ _ hp
          refine ⟨.ref p, rfl, p, C, dx, [], rfl, hp6, T.cls, T.jobs, by decide, D, ns.map (jbOf js), rfl, y6.exA.trans ExA.upd, ?_, ?_, ?_, jbs_perm fit.nd pm, ?_⟩
          · rw [upd_same, fld1]
          · exact x45.none nD
          · have Dp1 : D ≠ p := fun z => by rw [z, hp6] at hD; cases hD
            exact ⟨ks, (upd_ne Dp1).trans hD, Paired.mapP pk fun _ _ z => z.kt fun c zs e => (upd_ne fun z => by rw [z, hp6] at e; cases e).trans e⟩
          · rw [jbs_names fit.nd fun y my => pm.mem_iff.mp my]
            exact so
      rintro σ5 H5 ⟨kj, js', rfl, x5, hp5, nkj, dj5, pm5, so5⟩
      have fit5 := fit.perm pm5
      -- the three dicts
      refine ⟨fun σ' H' => ∃ (ks kc kl : Addr), σ' = [some (.ref p), some (.ref hd), some (.ref ml), o3, none, none, none, none, none, none, none] ∧ ExA p H5 H' ∧ H' p = some (.ins C dx (fj (.ref kj) (.ref ks) (.ref kc) (.ref kl))) ∧ H5 ks = none ∧ H5 kc = none ∧ H5 kl = none ∧ ks ≠ kc ∧ ks ≠ kl ∧ kc ≠ kl ∧ H' ks = some (.dK []) ∧ H' kc = some (.dK []) ∧ H' kl = some (.dK []), ?_, ?_⟩
      · refine fun ks nks => fun kc nkc => fun kl nkl => ⟨s3, fun tp ntp => ?_⟩
        have y1 := Ex.new (o := .dK []) nks
        have y2 := Ex.new (o := .dK []) nkc
        have y3 := Ex.new (o := .dK []) nkl
        have y4 := Ex.new (o := .tup [.ref ks, .ref kc, .ref kl]) ntp
        have hks := y4 _ _ (y3 _ _ (y2 _ _ (upd_same (H := H5) (a := ks) (o := .dK []))))
        have hkc := y4 _ _ (y3 _ _ (upd_same (H := upd H5 ks (.dK [])) (a := kc) (o := .dK [])))
        have hkl := y4 _ _ (upd_same (H := upd (upd H5 ks (.dK [])) kc (.dK [])) (a := kl) (o := .dK []))
        have htp := upd_same (H := upd (upd (upd H5 ks (.dK [])) kc (.dK [])) kl (.dK [])) (a := tp) (o := .tup [.ref ks, .ref kc, .ref kl])
        have d1 : ks ≠ kc := fun z => by rw [← z, upd_same] at nkc; cases nkc
        have d3 : kc ≠ kl := fun z => by rw [← z, upd_same] at nkl; cases nkl
        have d2 : ks ≠ kl := fun z => by rw [← z, (Ex.new (o := .dK []) nkc) _ _ upd_same] at nkl; cases nkl
        have n1 := nks
        have n2 := y1.none nkc
        have n3 := (y1.trans y2).none nkl
        have y5 := (y1.trans y2).trans (y3.trans y4)
        have hp6 := y5 _ _ hp5
        generalize upd (upd (upd (upd H5 ks (.dK [])) kc (.dK [])) kl (.dK [])) tp (.tup [.ref ks, .ref kc, .ref kl]) = H6 at y5 hks hkc hkl htp hp6 ⊢
        refine ⟨tp, _, rfl, .inl (.inl htp), rfl, .ref ks, _, rfl, .ref p, rfl, p, C, dx, _, rfl, hp6, T.cls, T.spans, by show 1 < 1000; decide, .ref kc, _, rfl, .ref p, rfl, p, C, dx, _, rfl, upd_same, T.cls, T.costs, by show 2 < 1000; decide, .ref kl, [], rfl, .ref p, rfl, p, C, dx, _, rfl, upd_same, T.cls, T.ceils, by show 3 < 1000; decide, rfl, ?_⟩
        obtain ⟨H7, eH7⟩ : ∃ H7, H7 = upd (upd (upd H6 p (.ins C dx (putF "kept_spans" (.ref ks) [(("kept_jobs" : Str), .ref kj)]))) p (.ins C dx (putF "kept_costs" (.ref kc) (putF "kept_spans" (.ref ks) [(("kept_jobs" : Str), .ref kj)])))) p (.ins C dx (putF "kept_ceilings" (.ref kl) (putF "kept_costs" (.ref kc) (putF "kept_spans" (.ref ks) [(("kept_jobs" : Str), .ref kj)])))) := ⟨_, rfl⟩
        have xF : ExA p H6 H7 := by rw [eH7]; exact (ExA.upd.trans ExA.upd).trans ExA.upd
        have hp7 : H7 p = some (.ins C dx (fj (.ref kj) (.ref ks) (.ref kc) (.ref kl))) := by rw [eH7, upd_same, fld4]
        rw [← eH7]
        exact ⟨ks, kc, kl, rfl, y5.exA.trans xF, hp7, n1, n2, n3, d1, d2, d3, xF.non hp6 hks (fun z => nomatch z), xF.non hp6 hkc (fun z => nomatch z), xF.non hp6 hkl (fun z => nomatch z)⟩
      rintro σ6 H6 ⟨ks, kc, kl, rfl, x6, hp6, nks, nkc, nkl, d1, d2, d3, hks, hkc, hkl⟩
      obtain ⟨kvj, hkj5, pj5⟩ := dj5
      have hkj6 := x6.non hp5 hkj5 fun z => nomatch z
      have js4 : js'.length ≤ 4 := fit5.l4
      have e1 : kj ≠ ks := fun z => by rw [z, nks] at hkj5; cases hkj5
      have e2 : kj ≠ kc := fun z => by rw [z, nkc] at hkj5; cases hkj5
      have e3 : kj ≠ kl := fun z => by rw [z, nkl] at hkj5; cases hkj5
      have pkj : p ≠ kj := fun z => by rw [← z, hp5] at hkj5; cases hkj5
      have pks : p ≠ ks := fun z => by rw [← z, hp5] at nks; cases nks
      have pkc : p ≠ kc := fun z => by rw [← z, hp5] at nkc; cases nkc
      have pkl : p ≠ kl := fun z => by rw [← z, hp5] at nkl; cases nkl
      refine ⟨kj, _, hkj6, trivial, fun od2 => ?_⟩
      obtain ⟨H7, eH7⟩ : ∃ H7, H7 = upd H6 kj (.frz od2 (.dK kvj)) := ⟨_, rfl⟩
      have h7j : H7 kj = some (.frz od2 (.dK kvj)) := by rw [eH7]; exact upd_same
      have h7k : ∀ b o, b ≠ kj → H6 b = some o → H7 b = some o := fun b o nb e => by rw [eH7]; exact (upd_ne nb).trans e
      rw [← eH7]
      clear eH7
      have hp7 := h7k _ _ pkj hp6
      have kt57 : KeepT H5 H7 := fun b zs e => h7k _ _ (fun z => by rw [z, hkj5] at e; cases e) (x6.non hp5 e fun z => nomatch z)
      refine ⟨.ref p, rfl, p, C, dx, _, .ref kj, rfl, hp7, T.cls, T.jobs, rfl, kj, od2, kvj, rfl, h7j, for_it walk_items (fun i σ' H' => ∃ (o3 o4 o5 o6 o7 o8 o9 o10 : Option V), σ' = [some (.ref p), some (.ref hd), some (.ref ml), o3, o4, o5, o6, o7, o8, o9, o10] ∧ (∀ b o, b ≠ ks → b ≠ kc → b ≠ kl → H7 b = some o → H' b = some o) ∧ (∃ u, H' ks = some (.dK u) ∧ u.length ≤ i) ∧ H' kc = some (.dK (costV (js'.take i))) ∧ ∃ cl, H' kl = some (.dK cl) ∧ cl.length ≤ i * 12 ∧ CeilF cl (ceilN (js'.take i))) ⟨_, _, _, _, _, _, _, _, rfl, fun _ _ _ _ _ e => e, ⟨_, h7k _ _ e1.symm hks, Nat.le_refl _⟩, h7k _ _ e2.symm hkc, [], h7k _ _ e3.symm hkl, Nat.zero_le _, fun _ => rfl⟩ (fun i σ' H' _ ⟨_, _, _, _, _, _, _, _, _, x, _⟩ => x _ _ e1 e2 e3 h7j) (fun i v σ' H' H8 hi h y => ?_) fun σ' H' h => ?_⟩
      · obtain ⟨o3, o4, o5, o6, o7, o8, o9, o10, rfl, x8, ⟨u, hu8, ul⟩, hc8, cl, hl8, cll, cf⟩ := h
        obtain ⟨T0, u1, z1, rfl, nT, rfl, eu, ez⟩ := y
        dsimp only at eu ez
        obtain ⟨⟨k, v⟩, ek, rfl⟩ := Option.map_eq_some_iff.mp eu
        rw [ek] at ez
        cases ez
        obtain ⟨j, ej, ek1, t, q, xs, ev, ht, hq, cb⟩ := paired_get pj5 ek
        have ek1 : k = Sum.inr j.name := ek1
        have ev : v = .ref t := ev
        subst ek1 ev
        have mj := List.mem_of_getElem? ej
        have gb := fit5.gb j mj
        have jl := (List.getElem?_eq_some_iff.mp ej).1
        have n8s : T0 ≠ ks := fun z => by rw [z, hu8] at nT; cases nT
        have n8c : T0 ≠ kc := fun z => by rw [z, hc8] at nT; cases nT
        have n8l : T0 ≠ kl := fun z => by rw [z, hl8] at nT; cases nT
        have xT := Ex.new (o := .tup [.str j.name, .ref t]) nT
        have hT : upd H' T0 (.tup [.str j.name, .ref t]) T0 = some (.tup [.str j.name, .ref t]) := upd_same
        have kt8 : KeepT H7 H' := fun b zs e => x8 _ _ (fun z => by rw [z, h7k _ _ e1.symm hks] at e; cases e) (fun z => by rw [z, h7k _ _ e2.symm hkc] at e; cases e) (fun z => by rw [z, h7k _ _ e3.symm hkl] at e; cases e) e
        have ht8 := xT _ _ (kt8 _ _ (kt57 _ _ ht))
        have hq8 := xT _ _ (kt8 _ _ (kt57 _ _ hq))
        have cb8 := ((cb.kt kt57).kt kt8).kt xT.kt
        have hp8 := xT _ _ (x8 _ _ pks pkc pkl hp7)
        have hu9 := xT _ _ hu8
        have hc9 := xT _ _ hc8
        have hl9 := xT _ _ hl8
        have x9 : ∀ b o, b ≠ ks → b ≠ kc → b ≠ kl → H7 b = some o → upd H' T0 (.tup [.str j.name, .ref t]) b = some o := fun b o b1 b2 b3 e => xT _ _ (x8 _ _ b1 b2 b3 e)
        show gTup _ _ _ _ _ (upd H' T0 (.tup [.str j.name, .ref t])) _
        generalize upd H' T0 (.tup [.str j.name, .ref t]) = H9 at hT ht8 hq8 cb8 hp8 hu9 hc9 hl9 x9 ⊢
        refine ⟨T0, _, rfl, .inl (.inl hT), rfl, .str j.name, [.ref t], rfl, .ref t, [], rfl, t, _, rfl, .inl (.inl ht8), rfl, .int j.pr, [.int j.di, .ref q], rfl, .int j.di, [.ref q], rfl, .ref q, [], rfl, rfl, rfl, ?_⟩
        -- spans and costs
        refine ⟨fun σ' Ha => ∃ (fo : Addr) (ps : List Addr), σ' = [some (.ref p), some (.ref hd), some (.ref ml), some (.str j.name), some (.int j.pr), some (.int j.di), some (.ref q), o7, o8, o9, o10] ∧ (∀ b o, b ≠ ks → b ≠ kc → H9 b = some o → Ha b = some o) ∧ (∃ u2, Ha ks = some (.dK u2) ∧ u2.length ≤ i + 1 ∧ valV u2 (Sum.inr j.name) = some (.ref fo)) ∧ Ha kc = some (.dK (costV (js'.take (i + 1)))) ∧ Ha fo = some (.lst (ps.map V.ref)) ∧ Paired (SpanA Ha) ps j.bd.things, ?_, ?_⟩
        · refine ⟨.ref q, rfl, Nat.zero_le _, fun et net => ?_⟩
          have xE := Ex.new (o := .tup []) net
          refine ⟨q, et, xs, [], j.bd, 0, rfl, xE _ _ hq8, cb8.kt xE.kt, .inl (.inl upd_same), by decide, by have := gb.dep; omega, by have := gb.wid; omega, Bd.ok_pos (gb.ok [] fun _ z => by cases z), by have : j.bd.things.length ≤ 12 := gb.tl; omega, fun tt fo ps Ha xa htt hfo pa => ?_⟩
          rw [Int.zero_add] at htt
          have xEa := xE.trans xa
          have hua := xEa _ _ hu9
          have hca := xEa _ _ hc9
          have hpa := xEa _ _ hp8
          have fks : fo ≠ ks := fun z => by rw [z, hua] at hfo; cases hfo
          have fkc : fo ≠ kc := fun z => by rw [z, hca] at hfo; cases hfo
          have hcb : upd Ha ks (.dK (putK u (Sum.inr j.name) (.ref fo))) kc = some (.dK (costV (js'.take i))) := (upd_ne d1.symm).trans hca
          refine ⟨tt, _, rfl, .inl (.inl htt), rfl, .ref fo, [.int j.bd.cost], rfl, .ref p, rfl, p, C, dx, _, .ref ks, rfl, hpa, T.cls, T.spans, rfl, .str j.name, rfl, ks, _, rfl, DPut.k (k := .inr j.name) hua (by rw [sizeLine_eq]; omega), .int j.bd.cost, [], rfl, .ref p, rfl, p, C, dx, _, .ref kc, rfl, (upd_ne pks).trans hpa, T.cls, T.costs, rfl, .str j.name, rfl, kc, _, rfl, DPut.k (k := .inr j.name) hcb (by unfold costV; rw [List.length_map, List.length_take, sizeLine_eq]; omega), rfl, fo, ps, rfl, fun b o b1 b2 e => (upd_ne b2).trans ((upd_ne b1).trans (xEa _ _ e)), ⟨_, (upd_ne d1).trans upd_same, Nat.le_trans putK_len (by omega), ?_⟩, ?_, (upd_ne fkc).trans ((upd_ne fks).trans hfo), Paired.mapP pa fun _ _ ⟨a1, a2, a3, e⟩ => ⟨a1, a2, a3, (upd_ne fun z => by rw [z, hca] at e; cases e).trans ((upd_ne fun z => by rw [z, hua] at e; cases e).trans e)⟩⟩
          · rw [valV_put, if_pos rfl]
          · rw [upd_same, putK_fresh, List.take_add_one, ej]
            · unfold costV
              rw [List.map_append]
              rfl
            · rw [costV_keys]
              intro z
              obtain ⟨w0, m0, e0⟩ := List.mem_map.mp z
              cases e0
              rw [List.map_take] at m0
              exact take_fresh fit5.nd (by rw [List.getElem?_map, ej]; rfl) m0
        rintro σa Ha ⟨fo, ps, rfl, xa, ⟨u2, hua, u2l, uv⟩, hca, hfo, pa⟩
        have hla := xa _ _ d2.symm d3.symm hl9
        have hpa := xa _ _ pks pkc hp8
        have fkl : fo ≠ kl := fun z => by rw [z, hla] at hfo; cases hfo
        refine ⟨.ref p, rfl, p, C, dx, _, .ref ks, rfl, hpa, T.cls, T.spans, rfl, .str j.name, rfl, ks, .ref fo, rfl, uv ▸ DGet.k (k := Sum.inr j.name) hua, fo, rfl, ⟨_, .inl (.inl hfo)⟩, for_list (K := K) (xs := ps.map V.ref) (fun k σ' Hb => ∃ (o7 o8 o9 o10 : Option V), σ' = [some (.ref p), some (.ref hd), some (.ref ml), some (.str j.name), some (.int j.pr), some (.int j.di), some (.ref q), o7, o8, o9, o10] ∧ (∀ b o, b ≠ kl → Ha b = some o → Hb b = some o) ∧ ∃ cl', Hb kl = some (.dK cl') ∧ cl'.length ≤ i * 12 + k ∧ CeilF cl' (fun w => if w ∈ j.bd.things.take k then max (ceilN (js'.take i) w) j.pr else ceilN (js'.take i) w)) ⟨_, _, _, _, rfl, fun _ _ _ e => e, cl, hla, cll, cf⟩ (fun k σ' Hb _ ⟨_, _, _, _, _, x, _⟩ => .inl (.inl (x _ _ fkl hfo))) (fun k v σ' Hb hv h => ?_) fun σ' Hb h => ?_⟩
        · obtain ⟨o7, o8, o9, o10, rfl, xb, cl', hlb, cl'l, cf'⟩ := h
          rw [List.getElem?_map] at hv
          obtain ⟨sa, esa, rfl⟩ := Option.map_eq_some_iff.mp hv
          obtain ⟨wd, ewd, s1, s2, s3, hsa⟩ := paired_get2 pa esa
          have hsb := xb _ _ (fun z => by rw [z, hla] at hsa; cases hsa) hsa
          have hpb := xb _ _ pkl hpa
          have kb : k < 12 := by
            have := (List.getElem?_eq_some_iff.mp ewd).1
            have : j.bd.things.length ≤ 12 := gb.tl
            omega
          have i4 : i * 12 ≤ 4 * 12 := Nat.mul_le_mul_right _ (by omega)
          obtain ⟨fw, efw⟩ : ∃ fw, fw = if wd ∈ j.bd.things.take k then max (ceilN (js'.take i) wd) j.pr else ceilN (js'.take i) wd := ⟨_, rfl⟩
          have dg : DGet Hb kl (.str wd) (optI fw) := by
            rw [efw]
            exact cf' wd ▸ DGet.k (k := Sum.inr wd) hlb
          refine ⟨sa, _, rfl, .inl (.inl hsb), rfl, s1, _, rfl, .str wd, _, rfl, s2, _, rfl, s3, [], rfl, rfl, ?_⟩
          refine ⟨.int j.pr, rfl, .ref p, rfl, p, C, dx, _, .ref kl, rfl, hpb, T.cls, T.ceils, rfl, kl, rfl, .inl ⟨_, .inl hlb⟩, .str wd, rfl, optI fw, dg, j.pr, fw, congrArg (fun v => [V.int j.pr, v]) (optI_get _), .ref p, rfl, p, C, dx, _, .ref kl, rfl, hpb, T.cls, T.ceils, rfl, .str wd, rfl, kl, _, rfl, DPut.k (k := .inr wd) hlb (by rw [sizeLine_eq]; omega), ?_⟩
          rw [show (if (fw : Int) > (j.pr : Int) then (fw : Int) else (j.pr : Int)) = ((max j.pr fw : Nat) : Int) by split <;> omega]
          refine ⟨_, _, _, _, rfl, fun b o b1 e => (upd_ne b1).trans (xb _ _ b1 e), _, upd_same, Nat.le_trans putK_len (by omega), fun w1 => ?_⟩
          have p1 := fit5.p1 j mj
          rw [ceilF_put cf' (t := wd) (m := max j.pr fw) (by omega) w1]
          congr 1
          show (if w1 = wd then max j.pr fw else if w1 ∈ j.bd.things.take k then _ else _) = (if w1 ∈ j.bd.things.take (k + 1) then _ else _)
          rw [List.take_add_one, ewd, Option.toList_some]
          by_cases ew : w1 = wd
          · subst ew
            rw [if_pos rfl, if_pos (List.mem_append_right _ List.mem_cons_self), efw]
            split <;> omega
          · rw [if_neg ew]
            by_cases mw : w1 ∈ j.bd.things.take k
            · rw [if_pos mw, if_pos (List.mem_append_left _ mw)]
            · rw [if_neg mw, if_neg fun z => (List.mem_append.mp z).elim mw fun z => ew (List.mem_singleton.mp z)]
        · obtain ⟨o7, o8, o9, o10, rfl, xb, cl', hlb, cl'l, cf'⟩ := h
          have psl := Paired.length pa
          rw [List.length_map, psl] at cl'l cf'
          rw [List.take_length] at cf'
          have tl : j.bd.things.length ≤ 12 := gb.tl
          refine ⟨_, _, _, _, _, _, _, _, rfl, fun b o b1 b2 b3 e => xb _ _ b3 (xa _ _ b1 b2 (x9 _ _ b1 b2 b3 e)), ⟨u2, xb _ _ d2 hua, u2l⟩, xb _ _ d3 hca, cl', hlb, by rw [Nat.succ_mul]; omega, fun w1 => ?_⟩
          rw [cf' w1, List.take_add_one, ej, Option.toList_some, ceilN_snoc]
          congr 1
          show (if w1 ∈ j.bd.things then _ else _) = _
          unfold prOf
          split <;> omega
      · obtain ⟨o3, o4, o5, o6, o7, o8, o9, o10, rfl, x8, ⟨u, hu8, ul⟩, hc8, cl, hl8, cll, cf⟩ := h
        have kln := Paired.length pj5
        rw [← kln, List.take_length] at hc8 cf
        have h8j := x8 _ _ e1 e2 e3 h7j
        have hp8 := x8 _ _ pks pkc pkl hp7
        refine ⟨h8j, ?_⟩
        have nks0 := exA_new x5 hp5 nks
        have nkc0 := exA_new x5 hp5 nkc
        have nkl0 := exA_new x5 hp5 nkl
        have kt8 : KeepT H5 (upd H' kj (.dK kvj)) := fun b zs e => (upd_ne fun z => by rw [z, hkj5] at e; cases e).trans (x8 _ _ (fun z => by rw [z, nks] at e; cases e) (fun z => by rw [z, nkc] at e; cases e) (fun z => by rw [z, nkl] at e; cases e) (kt57 _ _ e))
        refine hQ _ js' (fun b o bp e => ?_) ⟨dx, kj, ks, kc, kl, cl, (upd_ne pkj).trans hp8, ⟨nkj, nkc0, nkl0⟩, ⟨kvj, upd_same, Paired.mapP pj5 fun _ _ z => z.kt kt8⟩, (upd_ne e2.symm).trans hc8, (upd_ne e3.symm).trans hl8, cf⟩ pm5 so5
        have bj : b ≠ kj := fun z => by rw [z, nkj] at e; cases e
        exact (upd_ne bj).trans (x8 _ _ (fun z => by rw [z, nks0] at e; cases e) (fun z => by rw [z, nkc0] at e; cases e) (fun z => by rw [z, nkl0] at e; cases e) (h7k _ _ bj (x6 _ _ bp (x5 _ _ bp e))))
end
end TH

/-! J14: Jobs.__init__, where it raises; dicts of mixed keys, locked for good -/
namespace TH
open PySem PySem.Spec PyProof.Rows L2 LamV LamX XK0
open C8 (pss_cut tCut)
open OD
def tLk (t : TE) : TE := fun σ H Q => t σ H fun x H1 => ∃ d u, x = .ref d ∧ H1 d = some u ∧ Mut (some u) ∧ ∀ od, Q x (upd H1 d (.frz od u))
theorem pe_lk {X : Cx} {e : Expr} {t : TE} (h : PE X e t) : PE X e (tLk t) := by
  refine ⟨fun pins s σ H Q I hw => ?_⟩
  refine thn (h.run pins s σ H _ I hw) fun v s1 ⟨x, H1, I1, r, d, u, ex, hd, mu, q⟩ => ?_
  obtain ⟨od, I2⟩ := I1.lock hd mu
  exact ⟨x, _, I2, r, q od⟩
/-- len of such a dict -/
def rLenO (w : World) : List V → Hp → VK → Prop := fun xs H Q => ∃ (a : Addr) (rows : List MRow), xs = [.ref a] ∧ Rd H a (DO w a rows) ∧ rows.length ≤ sizeLine ∧ Q (.int rows.length) H
theorem call_lenO {X : Cx} : CallR X (.builtin "len") (rLenO X.w) := by
  intro pins s σ H xs us Q I r ⟨a, rows, ex, ha, hz, q⟩
  subst ex
  obtain ⟨u1, rfl, r1⟩ := vals1 r
  cases (show u1 = Value.ref a from r1)
  obtain ⟨ns, es, ep, raw, p⟩ := do_at I ha
  have sz := (paired_arr p).1
  have z := sizeLine_eq
  refine Calls.call_function_entry kind_len plain_len entry_len (args_len1 _) ?_
  unfold Builtin.«len»
  refine wpAny_bind (m := oneArg "len" _) (wpAny_pure ?_)
  refine wpAny_bind (m := callSpecial? (.ref a) (Str.ofString "__len__")) (wpAny_callSpecial?_slot (name := Str.ofString "__len__") raw.typeIs F.slot_dict_len (call_len_raw ns raw ?_))
  show wpAny _ _ _ _ _ { s with toks := s.toks + 1 }
  refine wpAny_bind (wpAny_holding (wpAny_pure ?_))
  refine wpAny_bind (wpAny_letGo ?_)
  show wpAny _ _ (if ((es.size : Nat) : Int) < 0 then _ else _) _ _ _
  rw [if_neg (by omega)]
  show wpAny _ _ (if ((es.size : Nat) : Int) ≥ 2 ^ 63 then _ else _) _ _ _
  rw [if_neg (by omega)]
  exact wpAny_bind (wpAny_mkInt (wpAny_pure ⟨_, rfl, .int rows.length, H, I.tok _, ⟨_, by rw [sz]⟩, q⟩))
theorem callR_or {X : Cx} {f : Value} {r r' : List V → Hp → VK → Prop} (h : CallR X f r) (h' : CallR X f r') : CallR X f (fun xs H Q => r xs H Q ∨ r' xs H Q) := by
  intro pins s σ H xs us Q I rv q
  rcases q with q | q
  · exact h pins s σ H xs us Q I rv q
  · exact h' pins s σ H xs us Q I rv q
theorem kit_dict {K : PySem.W.Frag} {T : String} (h : T ∈ tys) : PySem.W.kitOne K (.type T) (.type "dict") = some (decide (T = "dict")) := by
  simp only [tys, List.mem_cons, List.not_mem_nil, or_false] at h
  rcases h with rfl | rfl | rfl | rfl | rfl | rfl | rfl <;> exact kit_ty (by decide +kernel)
/-- C with the fields fs is raised, all but p stands -/
def RzA (E : XK) (p : Addr) (H : Hp) (C : Addr) (fs : List (Str × V)) : Prop := ∀ H1 dd, ExA p H H1 → H1 dd = none → E (.ref C) (some dd) (upd H1 dd (.xd fs))
/-- the rows of a dict of jobs up to the first that is none -/
structure BadR (K : PySem.W.Frag) (H : Hp) (rows : List MRow) (js : List Jb) (key v : V) : Prop where
  nk : ∀ r ∈ rows, NKey H r.1 r.2.1
  nd : (rows.map (·.1)).Nodup
  l100 : rows.length ≤ 100
  pre : Paired (fun (j : Jb) (r : MRow) => r.2.1 = .str j.name ∧ ∃ d, Dp K H r.2.2 d ∧ LikeJ j d) js (rows.take js.length)
  at_ : ∃ kk, rows[js.length]? = some (kk, key, v)
  kd : ∃ T, Kd K H key T
def spJInitX (K : PySem.W.Frag) (w : World) (C CJ : Addr) : Sp := fun vs H Q E => ∃ (p dx : Addr) (v : V), vs = [.ref p, v] ∧ H p = some (.ins C dx []) ∧
  ((RzA E p H CJ [("job", .non)] ∧ ((∃ T, Kd K H v T ∧ T ≠ "dict") ∨ ∃ a, v = .ref a ∧ H a = some (.dK []))) ∨
   ∃ (a : Addr) (od : Obj) (rows : List MRow) (js : List Jb) (key v0 : V), v = .ref a ∧ H a = some (.frz od (DO w a rows)) ∧ BadR K H rows js key v0 ∧ FitJ js ∧ RzA E p H CJ [("job", key)] ∧
     (isWd key = false ∨ isWd key = true ∧ ((∃ T, Kd K H v0 T ∧ isLt T = false) ∨ ∃ d, Dp K H v0 d ∧ shD d = true ∧ jobB 4 (js.map fun j => (j.pr : Int)) d = some false)))
section
variable {P : Program} {w : World} {K : PySem.W.Frag} {mg : Str → Option Value} {base : Heap} {f C CJ : Addr} {fd : FuncData}
theorem ok_jinitX (F : FunD K "__init__" "Jobs.__init__" (defArgs sJInit) (defBody sJInit) (defScope sJInit) [] [] f fd) (EC : Ec1 K mg "BadJobs" "job" CJ) (FW : Has P w K mg base "is_word" 1 ["thing"] (spIsWord K)) (FI : Has P w K mg base "is_job" 8 ["thing", "priorities"] (spIsJob K 4)) (gi : mg "isinstance" = none) (gd : mg "dict" = none) (gn : mg "len" = none) :
    FnOk P w K mg base (L2.CX P w) 9 f fd ["self", "jobs"] (spJInitX K w C CJ) := by
  refine FunD.okX F scJInit (fun vs H Q E h => ?_) (fun cdv A outer s H vs Q E hr h => ?_)
  · obtain ⟨p, dx, v, rfl, _⟩ := h
    rfl
  · have hu := hu_of hr
    have h64 := hr.units
    have hr2 := hr.mono (show 2 ≤ 8 by decide)
    have hu16 : (A.deeper (envOfC "Jobs.__init__" (defScope sJInit) s.heap.objs.size f cdv)).units + 16 < cLine := Nat.lt_of_le_of_lt (Nat.add_le_add_left (by decide) _) h64
    refine ⟨_, pss_cut (ps_if (PW.pt (pw_or (pt_not (pt_val (pe_callB (callR_or call_isi call_isO) rfl gi boot_isinstance (pa_cons (pv 1) (pa_cons (pe_bltn (v := .ty "dict") rfl gd boot_dict rfl) pa_nil))))) (pw_or1 (pt_cmp (pc_eqI (pe_callB (callR_or call_lenD call_lenO) rfl gn boot_len (pa_cons (pv 1) pa_nil)) pe_int))))) (pss_one (ps_raise1 EC rfl hr2 (takes_of rfl rfl rfl rfl) rfl pe_non)) pss_nil)
      (pss_cons (ps_set (i := 2) scJInit.nd rfl (.inl rfl) (pe_lst pa_nil))
      (pss_cons (ps_for (L2.passes_of rfl) rfl (pi_odd (pv 1)) (pg_name (i := 3) scJInit.nd rfl (.inl rfl))
        (pss_cons (ps_if (PW.pt (pw_or (pt_not (pt_val (pe_has FW hr (by decide) rfl (pa_cons (pv 3) pa_nil)))) (pw_or1 (pt_not (pt_val (pe_has FI hr (by decide) rfl (pa_cons (pe_ix (ix_odd hu16) (pv 1) (pv 3) (fun _ _ => rfl)) (pa_cons (pv 2) pa_nil)))))))) (pss_one (ps_raise1 EC rfl hr2 (takes_of rfl rfl rfl rfl) rfl (pv 3))) pss_nil)
        (pss_one (ps_expr (pe_bm PySem.F.plainAttrs_list PySem.F.slot_list_append PySem.F.type_list_append mt_append (pv 2) (pa_cons (pe_ix ix_sq (pe_ix (ix_odd hu16) (pv 1) (pv 3) (fun _ _ => rfl)) pe_int (fun _ _ => rfl)) pa_nil))))))
      pss_dead)), ?_⟩
    obtain ⟨p, dx, v, rfl, hp, h⟩ := h
    rcases h with ⟨rz, h⟩ | ⟨a, od, rows, js, key, v0, rfl, ha, br, fit, rz, bad⟩
    · refine ⟨fun _ _ => False, ?_, fun _ _ z => z.elim⟩
      rcases h with ⟨T, kd, ne⟩ | ⟨a, rfl, ha⟩
      · refine ⟨v, rfl, .inl ⟨v, .ty "dict", _, _, false, rfl, .ty "dict", kd.2.1, by rw [kit_dict kd.1, decide_eq_false ne], _, rfl, mk1_ok EC fun d n => rz _ _ Ex.refl.exA n⟩⟩
      · refine ⟨.ref a, rfl, .inl ⟨.ref a, .ty "dict", _, _, true, rfl, .ty "dict", .base (.dK ha), kit_ty (by decide +kernel), _, rfl, .ref a, rfl, .inl ⟨a, [], rfl, ha, 0, 0, rfl, rfl, true, rfl, mk1_ok EC fun d n => rz _ _ Ex.refl.exA n⟩⟩⟩
    · have lt : js.length < rows.length := by
        obtain ⟨kk, e⟩ := br.at_
        exact (List.getElem?_eq_some_iff.mp e).1
      have rl := br.l100
      refine ⟨fun σ' H' => σ' = [some (.ref p), some (.ref a), none, none, none, none, none, none, none, none, none] ∧ H' = H, ?_, ?_⟩
      · exact ⟨.ref a, rfl, .inr ⟨a, rows, rfl, .inr ⟨od, ha⟩, _, rfl, .ref a, rfl, .inr ⟨a, rows, rfl, .inr ⟨od, ha⟩, by rw [sizeLine_eq]; omega, rows.length, 0, rfl, rfl, false, congrArg V.bl (decide_eq_false (by omega)), rfl, rfl⟩⟩⟩
      rintro σ1 H1 ⟨rfl, rfl⟩
      refine ⟨Nat.zero_le _, fun ml nml => ?_⟩
      have mla : ml ≠ a := fun z => by rw [z, ha] at nml; cases nml
      have x0 := Ex.new (o := .lst []) nml
      have hml : upd H1 ml (.lst []) ml = some (.lst []) := upd_same
      have keep : ∀ {H' : Hp}, (∀ b o, b ≠ ml → upd H1 ml (.lst []) b = some o → H' b = some o) → Ex H1 H' := fun x b o e => x b o (fun z => by rw [z, nml] at e; cases e) (x0 _ _ e)
      generalize upd H1 ml (.lst []) = H2 at x0 hml keep ⊢
      refine ⟨.ref a, rfl, a, od, rows, rfl, x0 _ _ ha, for_it walk_odd (fun i σ' H' => i ≤ js.length ∧ ∃ o3, σ' = [some (.ref p), some (.ref a), some (.ref ml), o3, none, none, none, none, none, none, none] ∧ (∀ b o, b ≠ ml → H2 b = some o → H' b = some o) ∧ H' ml = some (.lst (((js.take i).map fun j => (j.pr : Int)).map V.int))) ⟨Nat.zero_le _, none, rfl, fun _ _ _ e => e, hml⟩ (fun i σ' H' _ ⟨_, _, _, x, _⟩ => x _ _ mla.symm (x0 _ _ ha)) (fun i v σ' H' H3 hi h y => ?_) fun σ' H' h => ?_⟩
      · obtain ⟨il, o3, rfl, x3, hm⟩ := h
        obtain ⟨rfl, ⟨kk, nm, v2⟩, ek, ev⟩ := y
        have ev : v = nm := ev
        subst ev
        have y3 := keep x3
        have h3a := y3 _ _ ha
        by_cases ij : i < js.length
        · -- a right job
          obtain ⟨j, ej, en, d, dp, lk⟩ := paired_get br.pre (show (rows.take js.length)[i]? = some (kk, v, v2) by rw [List.getElem?_take_of_lt ij]; exact ek)
          have en : v = .str j.name := en
          subst en
          have mj := List.mem_of_getElem? ej
          refine ⟨.str j.name, rfl, .str j.name, "str", rfl, str_kd (fit.len mj), fun H4 x4 => ⟨_, rfl, ?_⟩⟩
          rw [show isWd (.str j.name) = true from fit.wd j mj]
          have y4 := y3.trans x4
          have dp4 := Dp.ex y4 _ _ dp
          refine ⟨.ref a, rfl, .str j.name, rfl, a, rows, i, (kk, .str j.name, v2), rfl, .inr ⟨od, y4 _ _ ha⟩, fun r m => (br.nk r m).ex y4, br.nd, ek, rfl, .ref ml, rfl, v2, ml, _, true, rfl, x4 _ _ hm, by decide, .inr ⟨d, dp4, lk.1, like_isjob lk (fit.gb j mj) (fit.p1 j mj) (fit.d1 j mj) fun z => ?_⟩, fun H5 x5 => ⟨true, rfl, ?_⟩⟩
          · obtain ⟨j2, m2, e2⟩ := List.mem_map.mp z
            have e3 : j2.pr = j.pr := by omega
            have ep : (js.map Jb.pr)[i]? = some j.pr := by rw [List.getElem?_map, ej]; rfl
            refine take_fresh fit.pnd ep ?_
            rw [← List.map_take, ← e3]
            exact List.mem_map_of_mem m2
          have y5 := y4.trans x5
          have dp5 := Dp.ex x5 _ _ dp4
          obtain ⟨_, x, qs, e2, e3, lk3⟩ := lk
          obtain ⟨b, xs, rfl, sq, da⟩ := dp_seq dp5 e2
          obtain ⟨y0, y1, y2, rfl, d0, d1, d2⟩ := dpA_three da
          cases d0
          have hm5 := x5 _ _ (x4 _ _ hm)
          refine ⟨.ref ml, rfl, .inl ⟨rfl, _, .inl (.inl hm5)⟩, .ref a, rfl, .str j.name, rfl, a, rows, i, (kk, .str j.name, .ref b), rfl, .inr ⟨od, y5 _ _ ha⟩, fun r m => (br.nk r m).ex y5, br.nd, ek, rfl, b, _, 0, .int j.pr, rfl, rfl, sq, at_nat (k := 0) rfl, ml, _, .int j.pr, rfl, rfl, hm5, by rw [List.length_map, List.length_map, List.length_take, sizeLine_eq]; omega, ?_⟩
          refine ⟨ij, _, rfl, fun b o nb e => (upd_ne nb).trans (x5 _ _ (x4 _ _ (x3 _ _ nb e))), ?_⟩
          rw [upd_same, List.take_add_one, ej]
          simp
        · -- the bad one
          have ei : i = js.length := by omega
          subst ei
          obtain ⟨kk2, e2⟩ := br.at_
          rw [ek] at e2
          cases e2
          obtain ⟨T, kT⟩ := br.kd
          refine ⟨key, rfl, key, T, rfl, kT.ex y3, fun H4 x4 => ⟨_, rfl, ?_⟩⟩
          have y4 := y3.trans x4
          rcases bad with bw | ⟨bw, bad⟩
          · rw [bw]
            exact ⟨key, rfl, mk1_ok EC fun d n => rz _ _ y4.exA n⟩
          · rw [bw]
            have hm4 := x4 _ _ hm
            rw [List.take_length] at hm4
            refine ⟨.ref a, rfl, key, rfl, a, rows, js.length, (_, key, v0), rfl, .inr ⟨od, y4 _ _ ha⟩, fun r m => (br.nk r m).ex y4, br.nd, ek, rfl, .ref ml, rfl, v0, ml, _, false, rfl, hm4, by decide, ?_, fun H5 x5 => ⟨false, rfl, key, rfl, mk1_ok EC fun d n => rz _ _ (y4.trans x5).exA n⟩⟩
            rcases bad with ⟨T2, k2, lt2⟩ | ⟨d, dp, sh, jf⟩
            · exact .inl ⟨T2, k2.ex y4, lt2, rfl⟩
            · exact .inr ⟨d, Dp.ex y4 _ _ dp, sh, jf⟩
      · exact absurd h.1 (by omega)
end
end TH

/-! J15: the methods of Jobs, check_job -/
namespace TH
open PySem PySem.Spec PyProof.Rows L2 LamV LamX XK0
open C8 (pss_cut tCut)
open OD
abbrev sJobsM : Stmt := inClass (top 20) 1
abbrev sCost : Stmt := inClass (top 20) 2
abbrev sCeil : Stmt := inClass (top 20) 3
abbrev sJEq : Stmt := inClass (top 20) 4
abbrev sCheckJob : Stmt := top 21
/-! ### dict == dict, of tuples -/
def EqT3 (K : PySem.W.Frag) (H : Hp) (x y : V) (b : Bool) : Prop := ∃ s t d e, x = .ref s ∧ y = .ref t ∧ Dp K H x d ∧ Dp K H y e ∧ d.canLay0 = true ∧ e.canLay0 = true ∧ d.depth ≤ 60 ∧ PyData.eqv d e = b ∧ (s = t → b = true)
theorem eqT3_run {X : Cx} {pins : List (Addr × Obj)} {σ : L2.St} {H : Hp} {s : Shared} {A : Around} (I : Inv X pins σ H s) (hu : A.units + 60 < cLine) {x y : V} {v u : Value} {b : Bool} (h : EqT3 X.K H x y b) (rx : RelV x v) (ry : RelV y u) : SeqAt.EqP X.prog X.w A s v u b := by
  obtain ⟨p, q, d, e, rfl, rfl, hd, he, ld, le, dp, ev, same⟩ := h
  cases (show v = Value.ref p from rx)
  cases (show u = Value.ref q from ry)
  by_cases pq : p = q
  · subst pq
    rw [same rfl]
    exact (SeqAt.EqAt.same _).eqP
  · refine SeqAt.eqP_refs pq fun E Q hq => ?_
    obtain ⟨as, r1⟩ := Dp.reads I d _ _ hd rfl
    obtain ⟨bs, r2⟩ := Dp.reads I e _ _ he rfl
    rw [← ev] at hq
    exact SeqAt.compareEq_reads (Q := Q) r1 r2 ld le (by have : min d.depth e.depth ≤ d.depth := Nat.min_le_left _ _; omega) hq
def rEqJ (K : PySem.W.Frag) : R2 := fun x y H Q => ∃ a b ks ls bs, x = .ref a ∧ y = .ref b ∧ H a = some (.dK ks) ∧ H b = some (.dK ls) ∧ ks.length = ls.length ∧ Paired (fun (p : Key × V) (b : Bool) => ∃ u, valV ls p.1 = some u ∧ EqT3 K H p.2 u b) ks bs ∧ Q (.bl (bs.all id)) H
theorem hitsJ {X : Cx} {pins : List (Addr × Obj)} {σ : L2.St} {H : Hp} {s : Shared} {A : Around} (I : Inv X pins σ H s) (hu : A.units + 60 < cLine) {ls : List (Key × V)} {vb : List (Key × Value)} (rb : KV ls vb) : ∀ {ks : List (Key × V)} {va : List (Key × Value)} {bs : List Bool}, KV ks va → Paired (fun (p : Key × V) (b : Bool) => ∃ u, valV ls p.1 = some u ∧ EqT3 X.K H p.2 u b) ks bs → PySem.W.KeqHitsP X.prog X.w A s vb va (bs.all id)
  | [], _, [], ra, .nil => by
    cases ra
    exact .nil
  | p :: ps, va, b :: bs, ra, .cons h t => by
    unfold KV at ra
    cases ra with
    | @cons _ q _ qs r rt =>
      obtain ⟨h1, h2⟩ := r
      obtain ⟨u, e, f⟩ := h
      have rr : RelO (some u) (valueAt vb p.1) := by rw [← e]; exact rb.val p.1
      obtain ⟨y, hy, ry⟩ := rr.some_of
      obtain ⟨key, v⟩ := q
      have h1' : p.1 = key := h1
      rw [h1'] at hy
      rw [List.all_cons]
      exact .hit hy (eqT3_run I hu f h2 ry) (hitsJ I hu rb rt t)
theorem op_eqJ {X : Cx} (hu : X.A.units + 64 < cLine) : OpR X (compareOp .Eq) (rEqJ X.K) := by
  intro pins s σ H x y v u Q I rx ry ⟨a, b, ks, ls, bs, ex, ey, ha, hb, ln, pr, q⟩
  subst ex ey
  cases (show v = Value.ref a from rx)
  cases (show u = Value.ref b from ry)
  obtain ⟨_, ya, va, ra, da⟩ := (show ObjOk X.prog X.w H s.heap a (.dK ks) from I.hok a _ ha)
  obtain ⟨_, yb, vb, rb, db⟩ := (show ObjOk X.prog X.w H s.heap b (.dK ls) from I.hok b _ hb)
  have la : ks.length = va.length := Paired.length ra
  have lb : ls.length = vb.length := Paired.length rb
  refine PySem.W.rcP_dicts (knd := mixKind X.prog X.w) (r := bs.all id) ya yb da db (by omega) (fun _ => hitsJ I (by show X.A.units + 1 + 60 < cLine; omega) rb ra pr) _ _ ?_
  rw [show (va.length == vb.length && bs.all id) = bs.all id by rw [show va.length = vb.length by omega, beq_self_eq_true, Bool.true_and]]
  exact ⟨.bl _, H, I, rfl, q⟩
theorem eqvA (a b : List PyData) : PyData.eqv (.tuple a) (.tuple b) = PyData.eqvAll a b := by unfold PyData.eqv; rfl
theorem eqv_str (w : Str) : PyData.eqv (.str w) (.str w) = true := by
  show (w == w) = true
  simp
theorem eqv_bdL : ∀ b : Bd, PyData.eqvAll (bdL b) (bdL b) = true
  | .nil => rfl
  | .unit n r => by
    show (PyData.eqv (.int n) (.int n) && PyData.eqvAll (bdL r) (bdL r)) = true
    rw [eqv_bdL r, Bool.and_true]
    show ((n : Int) == n) = true
    simp
  | .lock w c r => by
    show (PyData.eqv (.tuple [.str w, .tuple (bdL c)]) (.tuple [.str w, .tuple (bdL c)]) && PyData.eqvAll (bdL r) (bdL r)) = true
    rw [eqv_bdL r, Bool.and_true, eqvA]
    show (PyData.eqv (.str w) (.str w) && (PyData.eqv (.tuple (bdL c)) (.tuple (bdL c)) && true)) = true
    rw [eqv_str, eqvA, eqv_bdL c]
    rfl
theorem lay_bdL : ∀ b : Bd, (∀ w ∈ b.things, PyData.canLay0 (.str w) = true) → PyData.canLayAll0 (bdL b) = true
  | .nil, _ => rfl
  | .unit n r, h => by
    show (PyData.canLay0 (.int n) && PyData.canLayAll0 (bdL r)) = true
    rw [lay_bdL r h]
    rfl
  | .lock w c r, h => by
    have e : ∀ ds, PyData.canLay0 (.tuple ds) = PyData.canLayAll0 ds := fun _ => by unfold PyData.canLay0; rfl
    show (PyData.canLay0 (.tuple [.str w, .tuple (bdL c)]) && PyData.canLayAll0 (bdL r)) = true
    rw [lay_bdL r fun x m => h x (List.mem_cons_of_mem _ (List.mem_append_right _ m)), e]
    show ((PyData.canLay0 (.str w) && (PyData.canLay0 (.tuple (bdL c)) && true)) && true) = true
    rw [h w List.mem_cons_self, e, lay_bdL c fun x m => h x (List.mem_cons_of_mem _ (List.mem_append_left _ m))]
    rfl
theorem dep_bdL : ∀ b : Bd, PyData.depthAll (bdL b) ≤ 2 * b.dep
  | .nil => Nat.zero_le _
  | .unit n r => by
    show max (PyData.depth (.int n)) (PyData.depthAll (bdL r)) ≤ 2 * r.dep
    have := dep_bdL r
    have z : PyData.depth (.int n) = 0 := rfl
    omega
  | .lock w c r => by
    have e : ∀ ds, PyData.depth (.tuple ds) = PyData.depthAll ds + 1 := fun _ => by unfold PyData.depth; rfl
    show max (PyData.depth (.tuple [.str w, .tuple (bdL c)])) (PyData.depthAll (bdL r)) ≤ 2 * max (c.dep + 1) r.dep
    have h1 := dep_bdL r
    have h2 := dep_bdL c
    have z : PyData.depth (.tuple [.str w, .tuple (bdL c)]) ≤ 2 * c.dep + 2 := by
      rw [e]
      show max (PyData.depth (.str w)) (max (PyData.depth (.tuple (bdL c))) 0) + 1 ≤ _
      rw [e]
      have z : PyData.depth (.str w) = 0 := rfl
      omega
    omega
theorem tsN_lay : ∀ x ∈ tsN, PyData.canLay0 (.str x) = true := by decide +kernel
theorem lay_job {j : Jb} (g : GoodB 2 tsN j.bd) : PyData.canLay0 (jobD j) = true ∧ PyData.depth (jobD j) ≤ 60 := by
  have e : ∀ ds, PyData.canLay0 (.tuple ds) = PyData.canLayAll0 ds := fun _ => by unfold PyData.canLay0; rfl
  have e2 : ∀ ds, PyData.depth (.tuple ds) = PyData.depthAll ds + 1 := fun _ => by unfold PyData.depth; rfl
  constructor
  · unfold jobD
    rw [e]
    show (PyData.canLay0 (.int j.pr) && (PyData.canLay0 (.int j.di) && (PyData.canLay0 (.tuple (bdL j.bd)) && true))) = true
    rw [e, lay_bdL j.bd fun x m => tsN_lay x (g.tm x m)]
    rfl
  · unfold jobD
    rw [e2]
    show max (PyData.depth (.int j.pr)) (max (PyData.depth (.int j.di)) (max (PyData.depth (.tuple (bdL j.bd))) 0)) + 1 ≤ 60
    rw [e2]
    have h := dep_bdL j.bd
    have := g.dep
    have z1 : PyData.depth (.int j.pr) = 0 := rfl
    have z2 : PyData.depth (.int j.di) = 0 := rfl
    omega
theorem ja_dp {K : PySem.W.Frag} {H : Hp} {j : Jb} {kv : Key × V} (h : JobA H j kv) : Dp K H kv.2 (jobD j) := by
  obtain ⟨_, t, q, xs, e, h1, h2, h3⟩ := h
  rw [e]
  exact .tup (.inl (.inl h1)) (.cons (.int _) (.cons (.int _) (.cons (.tup (.inl (.inl h2)) (can_dp h3)) .nil)))
/-- the same job, but for its distance -/
def NearJ (j k : Jb) : Prop := j.name = k.name ∧ j.pr = k.pr ∧ j.bd = k.bd
theorem ja_eq {K : PySem.W.Frag} {H : Hp} {j k : Jb} {x y : Key × V} (h : JobA H j x) (h2 : JobA H k y) (g : GoodB 2 tsN j.bd) (n : NearJ j k) : EqT3 K H x.2 y.2 (decide (j.di = k.di)) := by
  obtain ⟨n1, n2, n3⟩ := n
  have d1 := ja_dp (K := K) h
  have d2 := ja_dp (K := K) h2
  obtain ⟨l1, p1⟩ := lay_job g
  obtain ⟨l2, p2⟩ := lay_job (j := k) (n3 ▸ g)
  obtain ⟨_, t, q, xs, e, a1, _⟩ := h
  obtain ⟨_, t2, q2, xs2, e2, a2, _⟩ := h2
  refine ⟨t, t2, _, _, e, e2, d1, d2, l1, l2, p1, ?_, fun z => ?_⟩
  · unfold jobD
    rw [eqvA, n2, n3]
    show (PyData.eqv (.int k.pr) (.int k.pr) && (PyData.eqv (.int j.di) (.int k.di) && (PyData.eqv (.tuple (bdL k.bd)) (.tuple (bdL k.bd)) && true))) = _
    rw [eqvA, eqv_bdL]
    show (((k.pr : Int) == k.pr) && (((j.di : Int) == k.di) && (true && true))) = _
    rw [beq_self_eq_true, Bool.true_and, Bool.and_true, Bool.and_true]
    by_cases z : j.di = k.di
    · rw [z, beq_self_eq_true, decide_eq_true rfl]
    · rw [decide_eq_false z]
      exact beq_eq_false_iff_ne.mpr fun w => z (by omega)
  · subst z
    rw [a1] at a2
    have e4 := HO.tup.inj (Option.some.inj a2)
    have e5 : (V.int j.di) = V.int k.di := by injection e4 with _ e6; injection e6
    exact decide_eq_true (by have := V.int.inj e5; omega)
/-- how two rows of jobs are equal -/
theorem js_eq {K : PySem.W.Frag} {H : Hp} {js ks : List Jb} {kvs lvs : List (Key × V)} (p1 : Paired (JobA H) js kvs) (p2 : Paired (JobA H) ks lvs) (nd : (ks.map Jb.name).Nodup) (gb : ∀ j ∈ js, GoodB 2 tsN j.bd) (near : Paired NearJ js ks) :
    ∃ bs, Paired (fun (p : Key × V) (b : Bool) => ∃ u, valV lvs p.1 = some u ∧ EqT3 K H p.2 u b) kvs bs ∧ Paired (fun (jk : Jb × Jb) b => b = decide (jk.1.di = jk.2.di)) (js.zip ks) bs := by
  have key : ∀ {js ks2 : List Jb} {kvs : List (Key × V)}, Paired (JobA H) js kvs → (∀ j ∈ js, GoodB 2 tsN j.bd) → (∀ k ∈ ks2, k ∈ ks) → Paired NearJ js ks2 → ∃ bs, Paired (fun (p : Key × V) (b : Bool) => ∃ u, valV lvs p.1 = some u ∧ EqT3 K H p.2 u b) kvs bs ∧ Paired (fun (jk : Jb × Jb) b => b = decide (jk.1.di = jk.2.di)) (js.zip ks2) bs := fun {js ks2 kvs} p => by
    induction p generalizing ks2 with
    | nil =>
      intro _ _ n
      cases n
      exact ⟨[], .nil, .nil⟩
    | @cons j kv _ _ h t ih =>
      intro g s n
      cases n with
      | @cons _ k _ _ n nt =>
        obtain ⟨bs, b1, b2⟩ := ih (fun j m => g j (List.mem_cons_of_mem _ m)) (fun k m => s k (List.mem_cons_of_mem _ m)) nt
        obtain ⟨v, ev, ja⟩ := ja_get p2 nd (s k List.mem_cons_self)
        refine ⟨decide (j.di = k.di) :: bs, .cons ⟨v, ?_, ja_eq h ja (g j List.mem_cons_self) n⟩ b1, .cons rfl b2⟩
        rw [h.1, n.1]
        exact ev
  exact key p1 gb (fun _ m => m) near
/-- two rows of jobs are equal, or not -/
def EqJs (js ks : List Jb) (r : Bool) : Prop := Paired NearJ js ks ∧ ((r = true ∧ ∀ jk ∈ js.zip ks, jk.1.di = jk.2.di) ∨ (r = false ∧ ∃ jk ∈ js.zip ks, jk.1.di ≠ jk.2.di))
structure IsC (K : PySem.W.Frag) (C : Addr) : Prop where
  ha : PySem.W.findIn K (.ref C) "__class__" = some (some (.builtin "object.__class__"))
  hn : PySem.W.specialIn K (.builtin "object.__class__") "__get__" = some (some (.builtin "getset_descriptor.__get__"))
  htk : PySem.W.takesIn K (.builtin "object.__class__") = some true
  hm : PySem.W.mroIn K C (.type "object") = some true
  yes : PySem.W.kitOne K (.ref C) (.ref C) = some true
  no : PySem.W.kitOne K (.type "dict") (.ref C) = some false
def spJEq (C : Addr) : Sp := fun vs H Q _ => ∃ (F : Addr → Prop) (p : Addr) (js : List Jb) (y : V), vs = [.ref p, y] ∧ IsJb F H C p js ∧ FitJ js ∧
  ((∃ b xs, y = .ref b ∧ H b = some (.dK xs) ∧ ∀ H', Ex H H' → Q (.bl false) H') ∨ ∃ (F2 : Addr → Prop) (u : Addr) (ks : List Jb) (r : Bool), y = .ref u ∧ IsJb F2 H C u ks ∧ FitJ ks ∧ EqJs js ks r ∧ ∀ H', Ex H H' → Q (.bl r) H')
def spJobsM (C : Addr) : Sp := fun vs H Q _ => ∃ (F : Addr → Prop) (p : Addr) (js : List Jb), vs = [.ref p] ∧ IsJb F H C p js ∧ ∀ (q : Addr) (H' : Hp), Ex H H' → H q = none → DJ H' q js → Q (.ref q) H'
def spCheckJob (C : Addr) : Sp := fun vs H Q _ => ∃ (F : Addr → Prop) (p : Addr) (js : List Jb) (j : Jb), vs = [.ref p, .str j.name] ∧ IsJb F H C p js ∧ FitJ js ∧ j ∈ js ∧ ∀ H', Ex H H' → Q .non H'
def NoJ (K : PySem.W.Frag) (H : Hp) (js : List Jb) (v : V) : Prop := ∃ T, Kd K H v T ∧ (isWd v = false ∨ ∃ x, v = .str x ∧ x ∉ js.map Jb.name)
def spCheckJobX (K : PySem.W.Frag) (C CN : Addr) : Sp := fun vs H Q E => ∃ (F : Addr → Prop) (p : Addr) (js : List Jb) (v : V), vs = [.ref p, v] ∧ IsJb F H C p js ∧ NoJ K H js v ∧ Rz E H CN [("job", v)]
def spCost (C : Addr) : Sp := fun vs H Q _ => ∃ (F : Addr → Prop) (p : Addr) (js : List Jb) (j : Jb), vs = [.ref p, .str j.name] ∧ IsJb F H C p js ∧ FitJ js ∧ j ∈ js ∧ ∀ H', Ex H H' → Q (.int j.bd.cost) H'
def spCeil (C : Addr) : Sp := fun vs H Q _ => ∃ (F : Addr → Prop) (p : Addr) (js : List Jb) (x : Str), vs = [.ref p, .str x] ∧ IsJb F H C p js ∧ okS x = true ∧ 1 ≤ ceilN js x ∧ ∀ H', Ex H H' → Q (.int (ceilN js x)) H'
def NoT (K : PySem.W.Frag) (H : Hp) (js : List Jb) (v : V) : Prop := ∃ T, Kd K H v T ∧ (isWd v = false ∨ ∃ x, v = .str x ∧ ceilN js x = 0)
def spCeilX (K : PySem.W.Frag) (C CT : Addr) : Sp := fun vs H Q E => ∃ (F : Addr → Prop) (p : Addr) (js : List Jb) (v : V), vs = [.ref p, v] ∧ IsJb F H C p js ∧ NoT K H js v ∧ Rz E H CT [("thing", v)]
theorem valV_none {kvs : List (Key × V)} {k : Key} (h : k ∉ kvs.map (·.1)) : valV kvs k = none := by
  cases e : valV kvs k with
  | none => rfl
  | some v => exact absurd (valV_in e) h
section
variable {P : Program} {w : World} {K : PySem.W.Frag} {mg : Str → Option Value} {base : Heap} {f C CN CT : Addr} {fd : FuncData}
def rDictC : List V → Hp → VK → Prop := fun xs H Q => ∃ (a : Addr) (kvs : List (Key × V)), xs = [.ref a] ∧ Rd H a (.dK kvs) ∧ ∀ p, H p = none → Q (.ref p) (upd H p (.dK kvs))
theorem call_dictC {X : Cx} : CallR X (.type "dict") rDictC := call_dictD
theorem scJobsM : FnScope ["self"] ["self"] (defScope sJobsM) := ⟨rfl, rfl, rfl, by decide +kernel, rfl, by decide +kernel, by decide +kernel⟩
theorem ok_jobsM (F : FunD K "jobs" "Jobs.jobs" (defArgs sJobsM) (defBody sJobsM) (defScope sJobsM) [] [] f fd) (T : JobC K C) (gd : mg "dict" = none) : FnOk P w K mg base CX0 1 f fd ["self"] (spJobsM C) := by
  refine F.ok scJobsM (fun vs H Q E h => ?_) (fun cdv A outer s H vs Q E hr h => ?_)
  · obtain ⟨_, p, js, rfl, _⟩ := h
    rfl
  · refine ⟨_, PSs.nox (pss_one (ps_ret (pe_callTy call_dictC rfl gd boot_dict (pa_cons (pe_fld (pv 0) rfl) pa_nil)))), ?_⟩
    obtain ⟨_, p, js, rfl, ⟨dx, kj, ks, kc, kl, cl, e, _, ⟨kvs, hk, pr⟩, _⟩, hQ⟩ := h
    refine ⟨.ref p, rfl, p, C, dx, _, .ref kj, rfl, e, T.cls, T.jobs, rfl, kj, kvs, rfl, .inl hk, fun q nq => ?_⟩
    have x := Ex.new (o := .dK kvs) nq
    exact hQ q _ x nq ⟨kvs, upd_same, Paired.mapP pr fun _ _ z => z.kt x.kt⟩
theorem scCheckJob : FnScope ["jobs", "job"] ["jobs", "job"] (defScope sCheckJob) := ⟨rfl, rfl, rfl, by decide +kernel, rfl, by decide +kernel, by decide +kernel⟩
theorem ok_check_job (F : FnP K "check_job" sCheckJob f fd) (T : JobC K C) (FW : Has P w K mg base "is_word" 1 ["thing"] (spIsWord K)) : FnOk P w K mg base CX0 2 f fd ["jobs", "job"] (spCheckJob C) := by
  refine F.ok scCheckJob (fun vs H Q E h => ?_) (fun cdv A outer s H vs Q E hr h => ?_)
  · obtain ⟨_, p, js, j, rfl, _⟩ := h
    rfl
  · have hu := hu_of hr
    refine ⟨_, PSs.nox (pss_one (ps_if (PW.pt (pw_or (pt_not (pt_val (pe_has FW hr (by decide) rfl (pa_cons (pv 1) pa_nil)))) (pw_or1 (pt_cmp (pc_dnotin hu (pv 1) (pe_fld (pv 0) rfl)))))) (pss_one ps_dead) pss_nil)), ?_⟩
    obtain ⟨_, p, js, j, rfl, ⟨dx, kj, ks, kc, kl, cl, e, _, ⟨kvs, hk, pr⟩, _⟩, fit, mj, hQ⟩ := h
    refine ⟨.str j.name, rfl, .str j.name, "str", rfl, str_kd (fit.len mj), fun H1 x1 => ⟨_, rfl, ?_⟩⟩
    rw [show isWd (.str j.name) = true from fit.wd j mj]
    obtain ⟨v, ev, _⟩ := ja_get pr fit.nd mj
    exact ⟨.str j.name, rfl, .ref p, rfl, p, C, dx, _, .ref kj, rfl, x1 _ _ e, T.cls, T.jobs, rfl, kj, _, rfl, DGet.k (k := Sum.inr j.name) (x1 _ _ hk), false, by rw [ev]; rfl, hQ H1 x1⟩
theorem ok_check_jobX (F : FnP K "check_job" sCheckJob f fd) (T : JobC K C) (EC : Ec1 K mg "NoJob" "job" CN) (FW : Has P w K mg base "is_word" 1 ["thing"] (spIsWord K)) : FnOk P w K mg base (L2.CX P w) 4 f fd ["jobs", "job"] (spCheckJobX K C CN) := by
  refine FunD.okX F scCheckJob (fun vs H Q E h => ?_) (fun cdv A outer s H vs Q E hr h => ?_)
  · obtain ⟨_, p, js, v, rfl, _⟩ := h
    rfl
  · have hu := hu_of hr
    have hr2 := hr.mono (show 2 ≤ 3 by decide)
    refine ⟨_, pss_cut (ps_if (PW.pt (pw_or (pt_not (pt_val (pe_has FW hr (by decide) rfl (pa_cons (pv 1) pa_nil)))) (pw_or1 (pt_cmp (pc_dnotin hu (pv 1) (pe_fld (pv 0) rfl)))))) (pss_one (ps_raise1 EC rfl hr2 (takes_of rfl rfl rfl rfl) rfl (pv 1))) pss_nil) pss_dead, ?_⟩
    obtain ⟨_, p, js, v, rfl, ⟨dx, kj, ks, kc, kl, cl, e, _, ⟨kvs, hk, pr⟩, _⟩, ⟨T1, kT, h⟩, rz⟩ := h
    refine ⟨fun _ _ => False, ?_, fun _ _ z => z.elim⟩
    refine ⟨v, rfl, v, T1, rfl, kT, fun H1 x1 => ⟨_, rfl, ?_⟩⟩
    cases wd : isWd v with
    | false => exact ⟨v, rfl, mk1_ok EC fun d n => rz _ _ x1 n⟩
    | true =>
      rcases h with h | ⟨x, rfl, nx⟩
      · rw [wd] at h; cases h
      · refine ⟨.str x, rfl, .ref p, rfl, p, C, dx, _, .ref kj, rfl, x1 _ _ e, T.cls, T.jobs, rfl, kj, _, rfl, DGet.k (k := Sum.inr x) (x1 _ _ hk), true, ?_, .str x, rfl, mk1_ok EC fun d n => rz _ _ x1 n⟩
        rw [valV_none]
        · rfl
        · rw [ja_keys pr]
          intro z
          obtain ⟨y, my, ey⟩ := List.mem_map.mp z
          cases ey
          exact nx my
theorem scCost : FnScope ["self", "job"] ["self", "job"] (defScope sCost) := ⟨rfl, rfl, rfl, by decide +kernel, rfl, by decide +kernel, by decide +kernel⟩
theorem ok_cost (F : FunD K "cost" "Jobs.cost" (defArgs sCost) (defBody sCost) (defScope sCost) [] [] f fd) (T : JobC K C) (FC : Has P w K mg base "check_job" 2 ["jobs", "job"] (spCheckJob C)) : FnOk P w K mg base CX0 3 f fd ["self", "job"] (spCost C) := by
  refine F.ok scCost (fun vs H Q E h => ?_) (fun cdv A outer s H vs Q E hr h => ?_)
  · obtain ⟨_, p, js, j, rfl, _⟩ := h
    rfl
  · have hu := hu_of hr
    refine ⟨_, PSs.nox (pss_cons (ps_expr (pe_has FC hr (by decide) rfl (pa_cons (pv 0) (pa_cons (pv 1) pa_nil)))) (pss_one (ps_ret (pe_dget hu (pe_fld (pv 0) rfl) (pv 1) (fun _ _ => rfl))))), ?_⟩
    obtain ⟨F0, p, js, j, rfl, ij, fit, mj, hQ⟩ := h
    refine ⟨.ref p, rfl, .str j.name, rfl, F0, p, js, j, rfl, ij, fit, mj, fun H1 x1 => ?_⟩
    obtain ⟨dx, kj, ks, kc, kl, cl, e, _, _, hc, _⟩ := ij
    exact ⟨.ref p, rfl, p, C, dx, _, .ref kc, rfl, x1 _ _ e, T.cls, T.costs, rfl, .str j.name, rfl, kc, _, rfl, costV_get fit.nd mj ▸ DGet.k (k := Sum.inr j.name) (x1 _ _ hc), hQ H1 x1⟩
theorem ok_costX (F : FunD K "cost" "Jobs.cost" (defArgs sCost) (defBody sCost) (defScope sCost) [] [] f fd) (FC : HasX P w K mg base "check_job" 4 ["jobs", "job"] (spCheckJobX K C CN)) : FnOk P w K mg base (L2.CX P w) 5 f fd ["self", "job"] (spCheckJobX K C CN) := by
  refine FunD.okX F scCost (fun vs H Q E h => ?_) (fun cdv A outer s H vs Q E hr h => ?_)
  · obtain ⟨_, p, js, v, rfl, _⟩ := h
    rfl
  · refine ⟨_, pss_cons (ps_expr (pe_hasX (E := E) FC hr (by decide) rfl (takes_of rfl rfl rfl rfl) (fun _ _ _ _ z => z) (pa_cons (pv 0) (pa_cons (pv 1) pa_nil)))) pss_dead, ?_⟩
    obtain ⟨F0, p, js, v, rfl, ij, nj, rz⟩ := h
    exact ⟨.ref p, rfl, v, rfl, F0, p, js, v, rfl, ij, nj, rz⟩
theorem scCeil : FnScope ["self", "thing"] ["self", "thing"] (defScope sCeil) := ⟨rfl, rfl, rfl, by decide +kernel, rfl, by decide +kernel, by decide +kernel⟩
theorem ceil_val {cl : List (Key × V)} {js : List Jb} (h : CeilF cl (ceilN js)) (x : Str) : (valV cl (Sum.inr x)).isSome = decide (1 ≤ ceilN js x) := by
  rw [h x]
  unfold optI
  by_cases z : ceilN js x = 0
  · rw [if_pos z, decide_eq_false (by omega)]; rfl
  · rw [if_neg z, decide_eq_true (by omega)]; rfl
theorem ok_ceil (F : FunD K "ceiling" "Jobs.ceiling" (defArgs sCeil) (defBody sCeil) (defScope sCeil) [] [] f fd) (T : JobC K C) (FW : Has P w K mg base "is_word" 1 ["thing"] (spIsWord K)) : FnOk P w K mg base CX0 2 f fd ["self", "thing"] (spCeil C) := by
  refine F.ok scCeil (fun vs H Q E h => ?_) (fun cdv A outer s H vs Q E hr h => ?_)
  · obtain ⟨_, p, js, x, rfl, _⟩ := h
    rfl
  · have hu := hu_of hr
    refine ⟨_, PSs.nox (pss_cons (ps_if (PW.pt (pw_or (pt_not (pt_val (pe_has FW hr (by decide) rfl (pa_cons (pv 1) pa_nil)))) (pw_or1 (pt_cmp (pc_dnotin hu (pv 1) (pe_fld (pv 0) rfl)))))) (pss_one ps_dead) pss_nil) (pss_one (ps_ret (pe_dget hu (pe_fld (pv 0) rfl) (pv 1) (fun _ _ => rfl))))), ?_⟩
    obtain ⟨_, p, js, x, rfl, ⟨dx, kj, ks, kc, kl, cl, e, _, _, _, hl, cf⟩, ok, c1, hQ⟩ := h
    refine ⟨.str x, rfl, .str x, "str", rfl, str_kd (by have := okS_len ok; omega), fun H1 x1 => ⟨_, rfl, ?_⟩⟩
    rw [show isWd (.str x) = true from ok]
    have ev : valV cl (Sum.inr x) = some (.int (ceilN js x)) := by
      rw [cf x]
      exact if_neg (by omega)
    refine ⟨.str x, rfl, .ref p, rfl, p, C, dx, _, .ref kl, rfl, x1 _ _ e, T.cls, T.ceils, rfl, kl, _, rfl, DGet.k (k := Sum.inr x) (x1 _ _ hl), false, by rw [ev]; rfl, ?_⟩
    exact ⟨.ref p, rfl, p, C, dx, _, .ref kl, rfl, x1 _ _ e, T.cls, T.ceils, rfl, .str x, rfl, kl, _, rfl, ev ▸ DGet.k (k := Sum.inr x) (x1 _ _ hl), hQ H1 x1⟩
theorem ok_ceilX (F : FunD K "ceiling" "Jobs.ceiling" (defArgs sCeil) (defBody sCeil) (defScope sCeil) [] [] f fd) (T : JobC K C) (EC : Ec1 K mg "NoThing" "thing" CT) (FW : Has P w K mg base "is_word" 1 ["thing"] (spIsWord K)) : FnOk P w K mg base (L2.CX P w) 4 f fd ["self", "thing"] (spCeilX K C CT) := by
  refine FunD.okX F scCeil (fun vs H Q E h => ?_) (fun cdv A outer s H vs Q E hr h => ?_)
  · obtain ⟨_, p, js, v, rfl, _⟩ := h
    rfl
  · have hu := hu_of hr
    have hr2 := hr.mono (show 2 ≤ 3 by decide)
    refine ⟨_, pss_cut (ps_if (PW.pt (pw_or (pt_not (pt_val (pe_has FW hr (by decide) rfl (pa_cons (pv 1) pa_nil)))) (pw_or1 (pt_cmp (pc_dnotin hu (pv 1) (pe_fld (pv 0) rfl)))))) (pss_one (ps_raise1 EC rfl hr2 (takes_of rfl rfl rfl rfl) rfl (pv 1))) pss_nil) pss_dead, ?_⟩
    obtain ⟨_, p, js, v, rfl, ⟨dx, kj, ks, kc, kl, cl, e, _, _, _, hl, cf⟩, ⟨T1, kT, h⟩, rz⟩ := h
    refine ⟨fun _ _ => False, ?_, fun _ _ z => z.elim⟩
    refine ⟨v, rfl, v, T1, rfl, kT, fun H1 x1 => ⟨_, rfl, ?_⟩⟩
    cases wd : isWd v with
    | false => exact ⟨v, rfl, mk1_ok EC fun d n => rz _ _ x1 n⟩
    | true =>
      rcases h with h | ⟨x, rfl, nx⟩
      · rw [wd] at h; cases h
      · refine ⟨.str x, rfl, .ref p, rfl, p, C, dx, _, .ref kl, rfl, x1 _ _ e, T.cls, T.ceils, rfl, kl, _, rfl, DGet.k (k := Sum.inr x) (x1 _ _ hl), true, ?_, .str x, rfl, mk1_ok EC fun d n => rz _ _ x1 n⟩
        rw [ceil_val cf, decide_eq_false (by omega)]
        rfl
theorem scJEq : FnScope ["self", "other"] ["self", "other"] (defScope sJEq) := ⟨rfl, rfl, rfl, by decide +kernel, rfl, by decide +kernel, by decide +kernel⟩
theorem near_all {js ks : List Jb} {bs : List Bool} {r : Bool} (h : EqJs js ks r) (p : Paired (fun (jk : Jb × Jb) b => b = decide (jk.1.di = jk.2.di)) (js.zip ks) bs) : bs.all id = r := by
  obtain ⟨_, ⟨rfl, h⟩ | ⟨rfl, jk, m, h⟩⟩ := h
  · refine List.all_eq_true.mpr fun b mb => ?_
    obtain ⟨i, hi⟩ := List.getElem?_of_mem mb
    obtain ⟨jk, ej, e⟩ := paired_get p hi
    rw [e]
    exact decide_eq_true (h jk (List.mem_of_getElem? ej))
  · refine List.all_eq_false.mpr ?_
    obtain ⟨i, hi⟩ := List.getElem?_of_mem m
    obtain ⟨b, eb, e⟩ := paired_get2 p hi
    refine ⟨b, List.mem_of_getElem? eb, ?_⟩
    rw [e, decide_eq_false h]
    exact Bool.false_ne_true
theorem ok_jeq (F : FunD K "__eq__" "Jobs.__eq__" (defArgs sJEq) (defBody sJEq) (defScope sJEq) [] [] f fd) (T : JobC K C) (IC : IsC K C) (gT : mg "Jobs" = some (.ref C)) (gi : mg "isinstance" = none) : FnOk P w K mg base CX0 1 f fd ["self", "other"] (spJEq C) := by
  refine F.ok scJEq (fun vs H Q E h => ?_) (fun cdv A outer s H vs Q E hr h => ?_)
  · obtain ⟨_, p, js, y, rfl, _⟩ := h
    rfl
  · refine ⟨_, PSs.nox (pss_one (ps_ret (pe_and (pe_callB call_isi rfl gi boot_isinstance (pa_cons (pv 1) (pa_cons (pe_glob (v := .ref C) rfl gT rfl) pa_nil))) (pe_one (pe_cmpR (op_eqJ hr.units) (pe_fld (pv 0) rfl) (pe_fld (pv 1) rfl) (nomark _)))))), ?_⟩
    obtain ⟨_, p, js, y, rfl, ⟨dx, kj, ks, kc, kl, cl, e1, _, ⟨kvs, h1, p1⟩, _⟩, fit, h⟩ := h
    rcases h with ⟨b, xs, rfl, hb, hQ⟩ | ⟨_, u, ls, r, rfl, ⟨dx2, kj2, ks2, kc2, kl2, cl2, e2, _, ⟨kvs2, h2, p2⟩, _⟩, fit2, eq, hQ⟩
    · exact ⟨.ref b, rfl, .ref b, .ref C, _, _, false, rfl, .own C, .base (.dK hb), IC.no, false, rfl, hQ H Ex.refl⟩
    obtain ⟨bs, b1, b2⟩ := js_eq (K := K) p1 p2 fit2.nd fit.gb eq.1
    have ea := near_all eq b2
    have ln : kvs.length = kvs2.length := by
      have l1 := Paired.length p1
      have l2 := Paired.length p2
      have l3 := Paired.length eq.1
      omega
    refine ⟨.ref u, rfl, .ref u, .ref C, _, _, true, rfl, .own C, .base (.ins e2 T.cls IC.ha IC.hn IC.htk IC.hm), IC.yes, true, rfl, ?_⟩
    refine ⟨.ref p, rfl, p, C, dx, _, .ref kj, rfl, e1, T.cls, T.jobs, rfl, .ref u, rfl, u, C, dx2, _, .ref kj2, rfl, e2, T.cls, T.jobs, rfl, kj, kj2, kvs, kvs2, bs, rfl, rfl, h1, h2, ln, b1, ?_⟩
    rw [ea]
    exact hQ H Ex.refl
end
end TH

/-! J16: is_coming, checked_comings -/
namespace TH
open PySem PySem.Spec PyProof.Rows L2 LamV LamX XK0
open C8 (pss_cut tCut)
open OD
open RZ (ItzT pi_zipA)
abbrev sIsComing : Stmt := top 22
abbrev sChecked : Stmt := top 23
theorem FnOk.any {P : Program} {w : World} {K : PySem.W.Frag} {mg : Str → Option Value} {base : Heap} {CX : CXT} {k : Nat} {f : Addr} {fd : FuncData} {ps : List Str} {sp : Sp} (F : FnOk P w K mg base CX0 k f fd ps sp) : FnOk P w K mg base CX k f fd ps sp :=
  ⟨F.len, fun A outer s H args us vs Q E hr he hb hv hs => codeAny_mono (F.run A outer s H args us vs Q E hr he hb hv hs) fun r s' h => by
    cases r with
    | error e => exact (show False from h).elim
    | ok q => cases q <;> exact h⟩
theorem fn_or {P : Program} {w : World} {K : PySem.W.Frag} {mg : Str → Option Value} {base : Heap} {CX : CXT} {k : Nat} {f : Addr} {fd : FuncData} {ps : List Str} {s1 s2 : Sp} (F : FnOk P w K mg base CX k f fd ps s1) (G : FnOk P w K mg base CX k f fd ps s2) : FnOk P w K mg base CX k f fd ps (fun vs H Q E => s1 vs H Q E ∨ s2 vs H Q E) where
  len := fun vs H Q E h => h.elim (F.len vs H Q E) (G.len vs H Q E)
  run := fun A outer s H a us vs Q E hr e0 b r h => h.elim (F.run A outer s H a us vs Q E hr e0 b r) (G.run A outer s H a us vs Q E hr e0 b r)
def gapsB (d : Int) (ns : List Int) : Bool := (ns.zip (ns.drop 1)).all fun p => decide (d ≤ p.2 - p.1)
/-- v is a coming of the distance d: r -/
def ComV (K : PySem.W.Frag) (H : Hp) (v : V) (d : Int) (r : Bool) : Prop := (∃ T, Kd K H v T ∧ isLt T = false ∧ r = false) ∨
  ∃ (a : Addr) (xs : List V), v = .ref a ∧ SqL K H a xs ∧ xs.length ≤ 60 ∧ (∀ x ∈ xs, ∃ T, Kd K H x T) ∧ ((xs.all natV = false ∧ r = false) ∨ ∃ ns : List Int, xs = ns.map V.int ∧ (∀ n ∈ ns, 0 ≤ n) ∧ r = gapsB d ns)
theorem ComV.ex {K : PySem.W.Frag} {H H' : Hp} {v : V} {d : Int} {r : Bool} (x : Ex H H') (h : ComV K H v d r) : ComV K H' v d r := by
  rcases h with ⟨T, k, z⟩ | ⟨a, xs, e, sq, l, kd, z⟩
  · exact .inl ⟨T, k.ex x, z⟩
  · exact .inr ⟨a, xs, e, x.sqL sq, l, fun y m => (kd y m).imp fun _ q => q.ex x, z⟩
theorem ComV.kd {K : PySem.W.Frag} {H : Hp} {v : V} {d : Int} {r : Bool} (h : ComV K H v d r) : ∃ T, Kd K H v T := by
  rcases h with ⟨T, k, z⟩ | ⟨a, xs, rfl, sq, l, kd, z⟩
  · exact ⟨T, k⟩
  · exact ⟨_, sqL_kd sq⟩
def spIsComing (K : PySem.W.Frag) : Sp := fun vs H Q _ => ∃ (v : V) (d : Int) (r : Bool), vs = [v, .int d] ∧ ComV K H v d r ∧ ∀ H', Ex H H' → Q (.bl r) H'
theorem cut_one (xs : List V) : cutV xs (some 1) none = xs.drop 1 := by
  unfold cutV
  rw [HT.sIx_none, show HT.sIx xs.length 0 (some 1) = min 1 xs.length from HT.sIx_nat xs.length 0 1]
  by_cases h : 1 ≤ xs.length
  · rw [Nat.min_eq_left h]
    exact List.take_of_length_le (by rw [List.length_drop]; omega)
  · have e : xs = [] := List.length_eq_zero_iff.mp (by omega)
    rw [e]
    rfl
def rLO (K : PySem.W.Frag) : List V → Hp → VK → Prop := fun xs H Q => ∃ p ys, xs = [.ref p] ∧ (SqL K H p ys ∨ SqT K H p ys) ∧ ∀ l, H l = none → Q (.ref l) (upd H l (.lst ys))
theorem call_lo {X : Cx} : CallR X (.type "list") (rLO X.K) := call_list_of
structure BadCo (K : PySem.W.Frag) (H : Hp) (rows : List MRow) (js : List Jb) (n : Nat) (key v : V) : Prop where
  nk : ∀ r ∈ rows, NKey H r.1 r.2.1
  nd : (rows.map (·.1)).Nodup
  pre : ∀ i, i < n → ∃ kk j v, rows[i]? = some (kk, V.str j.name, v) ∧ j ∈ js ∧ ComV K H v j.di true
  at_ : ∃ kk, rows[n]? = some (kk, key, v)
  kd : ∃ T, Kd K H key T
  bad : isWd key = false ∨ (∃ x, key = .str x ∧ x ∉ js.map Jb.name) ∨ ∃ j ∈ js, key = .str j.name ∧ ComV K H v j.di false
def spCheckedX (K : PySem.W.Frag) (w : World) (C CB : Addr) : Sp := fun vs H Q E => ∃ (F : Addr → Prop) (p : Addr) (js : List Jb) (v : V), vs = [.ref p, v] ∧ IsJb F H C p js ∧ FitJ js ∧
  ((Rz E H CB [("job", .non)] ∧ ∃ T, Kd K H v T ∧ T ≠ "dict") ∨ ∃ (a : Addr) (od : Obj) (rows : List MRow) (n : Nat) (key v0 : V), v = .ref a ∧ H a = some (.frz od (DO w a rows)) ∧ BadCo K H rows js n key v0 ∧ Rz E H CB [("job", key)])
/-- a dict of right comings: [3] each -/
def Co3 (H : Hp) (j : Jb) (kv : Key × V) : Prop := kv.1 = Sum.inr j.name ∧ ∃ l, kv.2 = .ref l ∧ H l = some (.lst [.int 3])
def TellA (H : Hp) (a : Addr) (cs : List Jb) : Prop := ∃ kvs : List (Key × V), H a = some (.dK kvs) ∧ Paired (Co3 H) cs kvs
def spCheckedS (C : Addr) : Sp := fun vs H Q _ => ∃ (F : Addr → Prop) (p a : Addr) (js cs : List Jb), vs = [.ref p, .ref a] ∧ IsJb F H C p js ∧ FitJ js ∧ TellA H a cs ∧ (cs.map Jb.name).Nodup ∧ cs.length ≤ 4 ∧ (∀ j ∈ cs, j ∈ js) ∧
  ∀ (q : Addr) (cs' : List Jb) (H' : Hp), Ex H H' → H q = none → TellA H' q cs' → cs'.Perm cs → Q (.ref q) H'
theorem co_keys {H : Hp} {js : List Jb} {kvs : List (Key × V)} (p : Paired (Co3 H) js kvs) : kvs.map (·.1) = (js.map Jb.name).map Sum.inr := by
  induction p with
  | nil => rfl
  | cons h _ ih => rw [List.map_cons, List.map_cons, List.map_cons, ih, h.1]
theorem co_get {H : Hp} {js : List Jb} {kvs : List (Key × V)} {j : Jb} (p : Paired (Co3 H) js kvs) (nd : (js.map Jb.name).Nodup) (m : j ∈ js) : ∃ l, valV kvs (Sum.inr j.name) = some (.ref l) ∧ H l = some (.lst [.int 3]) := by
  obtain ⟨i, hi⟩ := List.getElem?_of_mem m
  obtain ⟨⟨k, v⟩, ek, e, l, ev, hl⟩ := paired_get2 p hi
  have e : k = Sum.inr j.name := e
  have ev : v = .ref l := ev
  subst e ev
  exact ⟨l, valV_mem (q := (Sum.inr j.name, .ref l)) (by rw [co_keys p]; exact nd_inr nd) (List.mem_of_getElem? ek), hl⟩
theorem com3 {K : PySem.W.Frag} {H : Hp} {l : Addr} {d : Int} {n : Int} (n0 : 0 ≤ n) (h : H l = some (.lst [.int n])) : ComV K H (.ref l) d true :=
  .inr ⟨l, [.int n], rfl, .inl (.inl h), by show 1 ≤ 60; decide, fun x m => ⟨"int", by rw [List.mem_singleton.mp m]; exact int_kd⟩, .inr ⟨[n], rfl, fun m e => by rw [List.mem_singleton.mp e]; exact n0, rfl⟩⟩
section
variable {P : Program} {w : World} {K : PySem.W.Frag} {mg : Str → Option Value} {base : Heap} {f C CB : Addr} {fd : FuncData}
theorem scIsComing : FnScope ["thing", "distance", "moment", "later"] ["thing", "distance"] (defScope sIsComing) := ⟨rfl, rfl, rfl, by decide +kernel, rfl, by decide +kernel, by decide +kernel⟩
theorem ok_is_coming (F : FnP K "is_coming" sIsComing f fd) (FL : Has P w K mg base "is_list" 1 ["thing"] (spIsList K)) (FN : Has P w K mg base "is_natural" 2 ["thing"] (spIsNat K)) (ga : mg "all" = none) (gz : mg "zip" = none) : FnOk P w K mg base CX0 3 f fd ["thing", "distance"] (spIsComing K) := by
  refine F.ok scIsComing (fun vs H Q E h => ?_) (fun cdv A outer s H vs Q E hr h => ?_)
  · obtain ⟨v, d, r, rfl, _⟩ := h
    rfl
  · have hu := hu_of hr
    refine ⟨_, PSs.nox (pss_cons (ps_if (PW.pt (pw_or (pt_not (pt_val (pe_has FL hr (by decide) rfl (pa_cons (pv 0) pa_nil)))) (pw_or1 (pt_not (pt_val (pe_callB (cr_all rfl) rfl ga boot_all (pa_cons (pe_lc (te := tCall (spIsNat K) [] E0 (tCons (tVar 2) tNil)) (own := [("moment", 2)]) rfl scIsComing.nd (pi_list (pv 0)) (blkOk_by (by kernel_rfl)) (fun s H C cl fp => pg_name (i := 2) scIsComing.nd rfl (.inl rfl) (.inr rfl)) (fun s H C cl fp => pts_nil) (fun s H C cl fp => pe_has FN hr (by decide) rfl (pa_cons (pv 2) pa_nil))) pa_nil))))))) (pss_one (ps_ret pe_bl)) pss_nil)
      (pss_one (ps_ret (pe_callB (cr_all rfl) rfl ga boot_all (pa_cons (pe_lc (g := gTup K 2 (gCons (gName 2) (gCons (gName 3) gNil))) (own := [("moment", 2), ("later", 3)]) rfl scIsComing.nd (pi_zipA rfl gz (pa_cons (pv 0) (pa_cons (pe_slice sl_list (pv 0) (po_some pe_int) po_none) pa_nil))) (blkOk_by (by kernel_rfl)) (fun s H C cl fp => pg_tup rfl (pgs_cons (pg_name (i := 2) scIsComing.nd rfl (.inl rfl) (.inr rfl)) (pgs_cons (pg_name (i := 3) scIsComing.nd rfl (.inl rfl) (.inr rfl)) pgs_nil))) (fun s H C cl fp => pts_nil) (fun s H C cl fp => pe_cmpR op_ge (pe_op op_sub (pv 3) (pv 2)) (pv 1) (nomark _))) pa_nil))))), ?_⟩
    obtain ⟨v, d, r, rfl, h, hQ⟩ := h
    rcases h with ⟨T, kd, lt, rfl⟩ | ⟨a, xs, rfl, sq, ln, kds, h⟩
    · refine ⟨v, rfl, v, T, rfl, kd, fun H1 x1 => ⟨_, rfl, ?_⟩⟩
      rw [lt]
      exact hQ H1 x1
    · refine ⟨.ref a, rfl, .ref a, "list", rfl, sqL_kd sq, fun H1 x1 => ⟨true, rfl, ?_⟩⟩
      have sq1 := x1.sqL sq
      refine ⟨.ref a, rfl, a, rfl, ⟨_, sq1⟩, fun D nD => ?_⟩
      refine lc_list (K := K) (xs := xs) (fun i H2 => Ex H1 H2 ∧ H2 D = some (.lst (((xs.take i).map natV).map V.bl))) ⟨Ex.new nD, upd_same⟩ (fun i H2 _ h => h.1.sqL sq1) (fun i v H2 hv h2 => ?_) fun H2 h2 => ?_
      · obtain ⟨x2, hD⟩ := h2
        obtain ⟨T, kT⟩ := kds v (List.mem_of_getElem? hv)
        refine ⟨rfl, v, rfl, v, T, rfl, kT.ex (x1.trans x2), _, hD, by rw [List.length_map, List.length_map, List.length_take, sizeLine_eq]; omega, fun b o e => (upd_ne fun z => by rw [z, nD] at e; cases e).trans (x2 _ _ e), ?_⟩
        rw [upd_same, List.take_add_one, hv]
        simp
      · obtain ⟨x2, hD⟩ := h2
        rw [List.take_length] at hD
        have al : (xs.map natV).all id = xs.all natV := by rw [List.all_map]; rfl
        refine ⟨D, xs.map natV, rfl, .inl (.inl hD), xs.all natV, congrArg V.bl al, ?_⟩
        rcases h with ⟨nf, rfl⟩ | ⟨ns, rfl, pos, rfl⟩
        · rw [nf]
          exact hQ H2 (x1.trans x2)
        have nt : (ns.map V.int).all natV = true := List.all_eq_true.mpr fun y my => by
          obtain ⟨n, mn, rfl⟩ := List.mem_map.mp my
          exact decide_eq_true (pos n mn)
        rw [nt]
        have sq2 := x2.sqL sq1
        refine ⟨.ref a, rfl, .ref a, rfl, 1, rfl, a, _, rfl, sq2, fun q nq => ?_⟩
        rw [cut_one, ← List.map_drop]
        have xq := Ex.new (o := .lst ((ns.drop 1).map V.int)) nq
        have hq : upd H2 q (.lst ((ns.drop 1).map V.int)) q = some (.lst ((ns.drop 1).map V.int)) := upd_same
        generalize upd H2 q (.lst ((ns.drop 1).map V.int)) = H3 at xq hq ⊢
        have sq3 := xq.sqL sq2
        have sqq : SqL K H3 q ((ns.drop 1).map V.int) := .inl (.inl hq)
        refine ⟨a, q, _, _, rfl, .inl ⟨sq3, sqq, fun D2 nD2 => ?_⟩⟩
        refine lc_it (walk_zip rfl) (fun i H' => Ex H3 H' ∧ H' D2 = some (.lst ((((ns.zip (ns.drop 1)).take i).map fun p => decide (d ≤ p.2 - p.1)).map V.bl))) ⟨Ex.new nD2, upd_same⟩ (fun i H' _ h => ⟨h.1.sqL sq3, h.1.sqL sqq⟩) (fun i v H4 H5 hi h4 y => ?_) fun H4 h4 => ?_
        · obtain ⟨x4, hD2⟩ := h4
          obtain ⟨t, u, z, rfl, ntt, rfl, eu, ez⟩ := y
          dsimp only at eu ez
          rw [List.getElem?_map] at eu ez
          obtain ⟨n1, e1, rfl⟩ := Option.map_eq_some_iff.mp eu
          obtain ⟨n2, e2, rfl⟩ := Option.map_eq_some_iff.mp ez
          have xt := Ex.new (o := .tup [.int n1, .int n2]) ntt
          have ezip : (ns.zip (ns.drop 1))[i]? = some (n1, n2) := List.getElem?_zip_eq_some.mpr ⟨e1, e2⟩
          refine ⟨t, _, rfl, .inl (.inl upd_same), rfl, .int n1, [.int n2], rfl, .int n2, [], rfl, rfl, rfl, .int n2, rfl, .int n1, rfl, n2, n1, rfl, rfl, .int d, rfl, n2 - n1, d, rfl, rfl, _, xt _ _ hD2, ?_, fun b o e => (upd_ne fun z => by rw [z, nD2] at e; cases e).trans (xt _ _ (x4 _ _ e)), ?_⟩
          · rw [List.length_map] at ln
            rw [List.length_map, List.length_map, List.length_take, List.length_zip, sizeLine_eq]
            omega
          · rw [upd_same, List.take_add_one, ezip]
            simp
        · obtain ⟨x4, hD2⟩ := h4
          have lz : min (ns.map V.int).length ((ns.drop 1).map V.int).length = (ns.zip (ns.drop 1)).length := by rw [List.length_map, List.length_map, List.length_zip]
          rw [lz, List.take_length] at hD2
          refine ⟨D2, _, rfl, .inl (.inl hD2), ?_⟩
          rw [List.all_map]
          exact hQ H4 (x1.trans (x2.trans (xq.trans x4)))
theorem scChecked : FnScope ["jobs", "comings", "job"] ["jobs", "comings"] (defScope sChecked) := ⟨rfl, rfl, rfl, by decide +kernel, rfl, by decide +kernel, by decide +kernel⟩
theorem ok_checkedX (F : FnP K "checked_comings" sChecked f fd) (T : JobC K C) (EC : Ec1 K mg "BadComings" "job" CB) (FW : Has P w K mg base "is_word" 1 ["thing"] (spIsWord K)) (FI : Has P w K mg base "is_coming" 3 ["thing", "distance"] (spIsComing K)) (gi : mg "isinstance" = none) (gd : mg "dict" = none) : FnOk P w K mg base (L2.CX P w) 4 f fd ["jobs", "comings"] (spCheckedX K w C CB) := by
  refine FunD.okX F scChecked (fun vs H Q E h => ?_) (fun cdv A outer s H vs Q E hr h => ?_)
  · obtain ⟨_, p, js, v, rfl, _⟩ := h
    rfl
  · have hu := hu_of hr
    have h64 := hr.units
    have hr2 := hr.mono (show 2 ≤ 3 by decide)
    have hu16 : (A.deeper (envOfC "checked_comings" (defScope sChecked) s.heap.objs.size f cdv)).units + 16 < cLine := Nat.lt_of_le_of_lt (Nat.add_le_add_left (by decide) _) h64
    refine ⟨_, pss_cut (ps_if (pt_not (pt_val (pe_callB (callR_or call_isi call_isO) rfl gi boot_isinstance (pa_cons (pv 1) (pa_cons (pe_bltn (v := .ty "dict") rfl gd boot_dict rfl) pa_nil))))) (pss_one (ps_raise1 EC rfl hr2 (takes_of rfl rfl rfl rfl) rfl pe_non)) pss_nil)
      (pss_cons (ps_for (L2.passes_of rfl) rfl (pi_odd (pv 1)) (pg_name (i := 2) scChecked.nd rfl (.inl rfl))
        (pss_one (ps_if (PW.pt (pw_or (pt_not (pt_val (pe_has FW hr (by decide) rfl (pa_cons (pv 2) pa_nil)))) (pw_or (pt_cmp (pc_dnotin hu (pv 2) (pe_fld (pv 0) rfl))) (pw_or1 (pt_not (pt_val (pe_has FI hr (by decide) rfl (pa_cons (pe_ix (ix_odd hu16) (pv 1) (pv 2) (fun _ _ => rfl)) (pa_cons (pe_ix ix_sq (pe_dget hu (pe_fld (pv 0) rfl) (pv 2) (fun _ _ => rfl)) pe_int (fun _ _ => rfl)) pa_nil)))))))))
          (pss_one (ps_raise1 EC rfl hr2 (takes_of rfl rfl rfl rfl) rfl (pv 2))) pss_nil)))
      pss_dead), ?_⟩
    obtain ⟨_, p, js, v, rfl, ⟨dx, kj, ks, kc, kl, cl, e, _, ⟨kvs, hk, pr⟩, _⟩, fit, h⟩ := h
    rcases h with ⟨rz, T1, kd, ne⟩ | ⟨a, od, rows, n, key, v0, rfl, ha, br, rz⟩
    · refine ⟨fun _ _ => False, ?_, fun _ _ z => z.elim⟩
      exact ⟨v, rfl, .inl ⟨v, .ty "dict", _, _, false, rfl, .ty "dict", kd.2.1, by rw [kit_dict kd.1, decide_eq_false ne], _, rfl, mk1_ok EC fun d n => rz _ _ Ex.refl n⟩⟩
    · have lt : n < rows.length := by
        obtain ⟨kk, e⟩ := br.at_
        exact (List.getElem?_eq_some_iff.mp e).1
      refine ⟨fun σ' H' => σ' = [some (.ref p), some (.ref a), none] ∧ H' = H, ⟨.ref a, rfl, .inr ⟨a, rows, rfl, .inr ⟨od, ha⟩, true, rfl, rfl, rfl⟩⟩, ?_⟩
      rintro σ1 H1 ⟨rfl, rfl⟩
      refine ⟨.ref a, rfl, a, od, rows, rfl, ha, for_it walk_odd (fun i σ' H' => i ≤ n ∧ ∃ o2, σ' = [some (.ref p), some (.ref a), o2] ∧ Ex H1 H') ⟨Nat.zero_le _, none, rfl, Ex.refl⟩ (fun i σ' H' _ ⟨_, _, _, x⟩ => x _ _ ha) (fun i v σ' H' H3 hi h y => ?_) fun σ' H' h => ?_⟩
      · obtain ⟨il, o2, rfl, x3⟩ := h
        obtain ⟨rfl, ⟨kk, nm, v2⟩, ek, ev⟩ := y
        have ev : v = nm := ev
        subst ev
        have jobat : ∀ {Hx : Hp} {j : Jb}, Ex H1 Hx → j ∈ js → ∃ t, valV kvs (Sum.inr j.name) = some (.ref t) ∧ ∃ q, Hx t = some (.tup [.int j.pr, .int j.di, .ref q]) := fun x m => by
          obtain ⟨v, ev, _, t, q, xs, e2, ht, _⟩ := ja_get pr fit.nd m
          have e2 : v = .ref t := e2
          subst e2
          exact ⟨t, ev, q, x _ _ ht⟩
        by_cases ij : i < n
        · obtain ⟨kk2, j, v3, er, mj, cm⟩ := br.pre i ij
          rw [ek] at er
          cases er
          refine ⟨.str j.name, rfl, .str j.name, "str", rfl, str_kd (fit.len mj), fun H4 x4 => ⟨_, rfl, ?_⟩⟩
          rw [show isWd (.str j.name) = true from fit.wd j mj]
          have y4 := x3.trans x4
          obtain ⟨t, et, q, ht⟩ := jobat y4 mj
          refine ⟨.str j.name, rfl, .ref p, rfl, p, C, dx, _, .ref kj, rfl, y4 _ _ e, T.cls, T.jobs, rfl, kj, _, rfl, DGet.k (k := Sum.inr j.name) (y4 _ _ hk), false, by rw [et]; rfl, ?_⟩
          refine ⟨.ref a, rfl, .str j.name, rfl, a, rows, i, (kk, .str j.name, v2), rfl, .inr ⟨od, y4 _ _ ha⟩, fun r m => (br.nk r m).ex y4, br.nd, ek, rfl, .ref p, rfl, p, C, dx, _, .ref kj, rfl, y4 _ _ e, T.cls, T.jobs, rfl, .str j.name, rfl, kj, .ref t, rfl, et ▸ DGet.k (k := Sum.inr j.name) (y4 _ _ hk), t, _, 1, .int j.di, rfl, rfl, .inr (.inl (.inl ht)), at_nat (k := 1) rfl, v2, j.di, true, rfl, cm.ex y4, fun H5 x5 => ⟨true, rfl, ij, _, rfl, y4.trans x5⟩⟩
        · have ei : i = n := by omega
          subst ei
          obtain ⟨kk2, e2⟩ := br.at_
          rw [ek] at e2
          cases e2
          obtain ⟨T1, kT⟩ := br.kd
          refine ⟨key, rfl, key, T1, rfl, kT.ex x3, fun H4 x4 => ⟨_, rfl, ?_⟩⟩
          have y4 := x3.trans x4
          cases wd : isWd key with
          | false => exact ⟨key, rfl, mk1_ok EC fun d n => rz _ _ y4 n⟩
          | true =>
            rcases br.bad with b | ⟨x, rfl, nx⟩ | ⟨j, mj, rfl, cm⟩
            · rw [wd] at b; cases b
            · refine ⟨.str x, rfl, .ref p, rfl, p, C, dx, _, .ref kj, rfl, y4 _ _ e, T.cls, T.jobs, rfl, kj, _, rfl, DGet.k (k := Sum.inr x) (y4 _ _ hk), true, ?_, .str x, rfl, mk1_ok EC fun d n => rz _ _ y4 n⟩
              rw [valV_none]
              · rfl
              · rw [ja_keys pr]
                intro z
                obtain ⟨y, my, ey⟩ := List.mem_map.mp z
                cases ey
                exact nx my
            · obtain ⟨t, et, q, ht⟩ := jobat y4 mj
              refine ⟨.str j.name, rfl, .ref p, rfl, p, C, dx, _, .ref kj, rfl, y4 _ _ e, T.cls, T.jobs, rfl, kj, _, rfl, DGet.k (k := Sum.inr j.name) (y4 _ _ hk), false, by rw [et]; rfl, ?_⟩
              refine ⟨.ref a, rfl, .str j.name, rfl, a, rows, _, (_, .str j.name, v0), rfl, .inr ⟨od, y4 _ _ ha⟩, fun r m => (br.nk r m).ex y4, br.nd, ek, rfl, .ref p, rfl, p, C, dx, _, .ref kj, rfl, y4 _ _ e, T.cls, T.jobs, rfl, .str j.name, rfl, kj, .ref t, rfl, et ▸ DGet.k (k := Sum.inr j.name) (y4 _ _ hk), t, _, 1, .int j.di, rfl, rfl, .inr (.inl (.inl ht)), at_nat (k := 1) rfl, v0, j.di, false, rfl, cm.ex y4, fun H5 x5 => ⟨false, rfl, .str j.name, rfl, mk1_ok EC fun d n => rz _ _ (y4.trans x5) n⟩⟩
      · exact absurd h.1 (by omega)
theorem ok_checkedS (F : FnP K "checked_comings" sChecked f fd) (T : JobC K C) (FW : Has P w K mg base "is_word" 1 ["thing"] (spIsWord K)) (FI : Has P w K mg base "is_coming" 3 ["thing", "distance"] (spIsComing K)) (gi : mg "isinstance" = none) (gd : mg "dict" = none) (gs : mg "sorted" = none) (gl : mg "list" = none) : FnOk P w K mg base CX0 4 f fd ["jobs", "comings"] (spCheckedS C) := by
  refine F.ok scChecked (fun vs H Q E h => ?_) (fun cdv A outer s H vs Q E hr h => ?_)
  · obtain ⟨_, p, a, js, cs, rfl, _⟩ := h
    rfl
  · have hu := hu_of hr
    refine ⟨_, PSs.nox (pss_cons (ps_if (pt_not (pt_val (pe_callB call_isi rfl gi boot_isinstance (pa_cons (pv 1) (pa_cons (pe_bltn (v := .ty "dict") rfl gd boot_dict rfl) pa_nil))))) (pss_one ps_dead) pss_nil)
      (pss_cons (ps_lock (ps_for PassesOwn.never rfl (pi_keys (pv 1)) (pg_name (i := 2) scChecked.nd rfl (.inl rfl))
        (pss_one (ps_if (PW.pt (pw_or (pt_not (pt_val (pe_has FW hr (by decide) rfl (pa_cons (pv 2) pa_nil)))) (pw_or (pt_cmp (pc_dnotin hu (pv 2) (pe_fld (pv 0) rfl))) (pw_or1 (pt_not (pt_val (pe_has FI hr (by decide) rfl (pa_cons (pe_dget hu (pv 1) (pv 2) (fun _ _ => rfl)) (pa_cons (pe_ix ix_sq (pe_dget hu (pe_fld (pv 0) rfl) (pv 2) (fun _ _ => rfl)) pe_int (fun _ _ => rfl)) pa_nil)))))))))
          (pss_one ps_dead) pss_nil))))
      (pss_one (ps_ret (pe_dc (own := [("job", 2)]) (tk := tVar 2) (tv := tCB (rLO K) (tCons (tDGet (tVar 1) (tVar 2)) tNil)) rfl scChecked.nd (pi_list (pe_callB (call_sd rfl) rfl gs boot_sorted (pa_cons (pv 1) pa_nil))) (blkOk_by (by kernel_rfl)) (fun s H C cl fp => pg_name (i := 2) scChecked.nd rfl (.inl rfl) (.inr rfl)) (fun s H C cl fp => pts_nil) (fun s H C cl fp => pv 2)
        (fun s H C cl fp => pe_callTy call_lo rfl gl boot_list (pa_cons (pe_dget hu (pv 1) (pv 2) (fun _ _ => rfl)) pa_nil))))))), ?_⟩
    obtain ⟨_, p, a, js, cs, rfl, ⟨dx, kj, ks, kc, kl, cl, e, _, ⟨kvs, hk, pr⟩, _⟩, fit, ⟨lvs, ha, pc⟩, nd, l4, sub, hQ⟩ := h
    refine ⟨.ref a, rfl, .ref a, .ty "dict", _, _, true, rfl, .ty "dict", .base (.dK ha), kit_ty (by decide +kernel), true, rfl, ?_⟩
    refine ⟨a, _, ha, trivial, fun od => ?_⟩
    obtain ⟨H2, eH2⟩ : ∃ H2, H2 = upd H a (.frz od (.dK lvs)) := ⟨_, rfl⟩
    have h2a : H2 a = some (.frz od (.dK lvs)) := by rw [eH2]; exact upd_same
    have h2k : ∀ b o, b ≠ a → H b = some o → H2 b = some o := fun b o nb e => by rw [eH2]; exact (upd_ne nb).trans e
    have unl : ∀ {H' : Hp}, Ex H2 H' → Ex H (upd H' a (.dK lvs)) := fun x => Ex.unlock ha (by rw [← eH2]; exact x)
    rw [← eH2]
    clear eH2
    have pa : p ≠ a := fun z => by rw [z, ha] at e; cases e
    -- the kept jobs: they may be the same dict
    have dgk : ∀ {Hx : Hp} {j : Jb}, Ex H2 Hx → j ∈ js → ∃ t, (∃ o, DGet Hx kj (.str j.name) o ∧ o = some (.ref t)) ∧ ∃ q, Hx t = some (.tup [.int j.pr, .int j.di, .ref q]) := fun {Hx j} x m => by
      obtain ⟨v, ev, _, t, q, xs, e2, ht, _⟩ := ja_get pr fit.nd m
      have e2 : v = .ref t := e2
      subst e2
      refine ⟨t, ⟨_, ?_, ev⟩, q, x _ _ (h2k _ _ (fun z => by rw [z, ha] at ht; cases ht) ht)⟩
      by_cases z : kj = a
      · rw [z, ha] at hk
        cases hk
        rw [z]
        exact .inl ⟨_, Sum.inr j.name, .inr ⟨od, x _ _ h2a⟩, rfl, rfl⟩
      · exact DGet.k (k := Sum.inr j.name) (x _ _ (h2k _ _ z hk))
    refine ⟨.ref a, rfl, a, od, rfl, .inl ⟨lvs, h2a, for_it walk_keys (fun i σ' H' => ∃ o2, σ' = [some (.ref p), some (.ref a), o2] ∧ Ex H2 H') ⟨none, rfl, Ex.refl⟩ (fun i σ' H' _ ⟨_, _, x⟩ => x _ _ h2a) (fun i v σ' H' H3 hi h y => ?_) fun σ' H' h => ?_⟩⟩
    · obtain ⟨o2, rfl, x3⟩ := h
      obtain ⟨rfl, k, v2, ek, rfl⟩ := y
      obtain ⟨j, ej, e1, l, e2, hl⟩ := paired_get pc ek
      have e1 : k = Sum.inr j.name := e1
      have e2 : v2 = .ref l := e2
      subst e1 e2
      have mj := sub j (List.mem_of_getElem? ej)
      refine ⟨.str j.name, rfl, .str j.name, "str", rfl, str_kd (fit.len mj), fun H4 x4 => ⟨_, rfl, ?_⟩⟩
      rw [show isWd (.str j.name) = true from fit.wd j mj]
      have y4 := x3.trans x4
      obtain ⟨t, ⟨o, dg, eo⟩, q, ht⟩ := dgk y4 mj
      subst eo
      have la : l ≠ a := fun z => by rw [z, ha] at hl; cases hl
      have hl4 := y4 _ _ (h2k _ _ la hl)
      refine ⟨.str j.name, rfl, .ref p, rfl, p, C, dx, _, .ref kj, rfl, y4 _ _ (h2k _ _ pa e), T.cls, T.jobs, rfl, kj, _, rfl, dg, false, rfl, ?_⟩
      have dga : DGet H4 a (.str j.name) (some (.ref l)) := valV_mem (q := (Sum.inr j.name, .ref l)) (by rw [co_keys pc]; exact nd_inr nd) (List.mem_of_getElem? ek) ▸ .inl ⟨lvs, _, .inr ⟨od, y4 _ _ h2a⟩, rfl, rfl⟩
      refine ⟨.ref a, rfl, .str j.name, rfl, a, .ref l, rfl, dga, .ref p, rfl, p, C, dx, _, .ref kj, rfl, y4 _ _ (h2k _ _ pa e), T.cls, T.jobs, rfl, .str j.name, rfl, kj, .ref t, rfl, dg, t, _, 1, .int j.di, rfl, rfl, .inr (.inl (.inl ht)), at_nat (k := 1) rfl, .ref l, j.di, true, rfl, com3 (by decide) hl4, fun H5 x5 => ⟨true, rfl, _, rfl, y4.trans x5⟩⟩
    · obtain ⟨o2, rfl, x3⟩ := h
      refine ⟨x3 _ _ h2a, ?_⟩
      have xe := unl x3
      generalize upd H' a (.dK lvs) = H4 at xe ⊢
      have ha4 := xe _ _ ha
      refine ⟨.ref a, rfl, a, lvs, cs.map Jb.name, rfl, .inl ha4, co_keys pc, by rw [List.length_map]; omega, fun ns q pm so nq => ?_⟩
      have x5 := Ex.new (o := .lst (ns.map V.str)) nq
      have hq : upd H4 q (.lst (ns.map V.str)) q = some (.lst (ns.map V.str)) := upd_same
      generalize upd H4 q (.lst (ns.map V.str)) = H5 at x5 hq ⊢
      have nnd : ns.Nodup := pm.nodup_iff.mpr nd
      have nl : ns.length ≤ 4 := by rw [pm.length_eq, List.length_map]; exact l4
      have x45 := xe.trans x5
      refine ⟨q, rfl, ⟨_, .inl (.inl hq)⟩, fun D nD => ?_⟩
      refine dc_it (walk_list (xs := ns.map V.str)) (fun i H' => Ex H5 H' ∧ ∃ us, H' D = some (.dK us) ∧ Paired (fun (j : Jb) (kv : Key × V) => kv.1 = Sum.inr j.name ∧ ∃ l, kv.2 = .ref l ∧ H' l = some (.lst [.int 3])) ((ns.take i).map (jbOf cs)) us) ⟨Ex.new nD, [], upd_same, .nil⟩ (fun i H' _ h => .inl (.inl (h.1 _ _ hq))) (fun i v H2 H3 hi h y => ?_) fun H6 h => ?_
      · obtain ⟨x6, us, hD, pk⟩ := h
        obtain ⟨rfl, y⟩ := y
        rw [List.getElem?_map] at y
        obtain ⟨x, ex, rfl⟩ := Option.map_eq_some_iff.mp y
        have mx : x ∈ cs.map Jb.name := pm.mem_iff.mp (List.mem_of_getElem? ex)
        obtain ⟨mj, ej⟩ := jbOf_of nd mx
        obtain ⟨l, ev, hl⟩ := co_get pc nd mj
        rw [ej] at ev
        have x46 := x45.trans x6
        have hg : DGet H3 a (.str x) (some (.ref l)) := ev ▸ DGet.k (k := Sum.inr x) (x46 _ _ ha)
        refine ⟨rfl, .str x, rfl, .ref a, rfl, .str x, rfl, a, .ref l, rfl, hg, l, _, rfl, .inl (.inl (.inl (x46 _ _ hl))), fun t nt => ?_⟩
        have xt := Ex.new (o := .lst [.int 3]) nt
        have hD8 := xt _ _ hD
        have tD : t ≠ D := fun z => by rw [z, hD] at nt; cases nt
        have fr : (Sum.inr x : Key) ∉ us.map (·.1) := fun z => by
          rw [co_keys (H := H3) pk, jbs_names nd (fun y my => pm.mem_iff.mp (List.mem_of_mem_take my))] at z
          obtain ⟨u, mu, eu⟩ := List.mem_map.mp z
          cases eu
          exact take_fresh nnd ex mu
        have kl : us.length ≤ 4 := by
          rw [← Paired.length pk, List.length_map, List.length_take]
          omega
        refine ⟨us, Sum.inr x, rfl, hD8, by rw [sizeLine_eq]; omega, ?_⟩
        rw [putK_fresh fr]
        refine ⟨fun b o e => (upd_ne fun z => by rw [z, nD] at e; cases e).trans (xt _ _ (x6 _ _ e)), _, upd_same, ?_⟩
        rw [List.take_add_one, ex, Option.toList_some, List.map_append]
        exact paired_app (Paired.mapP pk fun _ _ ⟨z1, l2, z2, z3⟩ => ⟨z1, l2, z2, (upd_ne fun z => by rw [z, hD] at z3; cases z3).trans (xt _ _ z3)⟩) ⟨congrArg Sum.inr ej.symm, t, rfl, (upd_ne tD).trans upd_same⟩
      · obtain ⟨x6, us, hD, pk⟩ := h
        rw [List.length_map, List.take_length] at pk
        exact hQ D (ns.map (jbOf cs)) H6 (x45.trans x6) (x45.none nD) ⟨us, hD, pk⟩ (jbs_perm nd pm)
end
end TH

/-! J17: done, answers, breakdown, where they raise -/
namespace TH
open PySem PySem.Spec PyProof.Rows L2 LamV LamX XK0
open C8 (pss_cut tCut)
open OD
abbrev sDone : Stmt := top 28
abbrev sAnswers : Stmt := top 30
abbrev sBreak : Stmt := top 31
def spNever : Sp := fun _ _ _ _ => False
theorem ok_never {P : Program} {w : World} {K : PySem.W.Frag} {mg : Str → Option Value} {base : Heap} {k : Nat} {f : Addr} {fd : FuncData} {ps : List Str} : FnOk P w K mg base CX0 k f fd ps spNever := ⟨fun _ _ _ _ h => h.elim, fun _ _ _ _ _ _ _ _ _ _ _ _ _ h => h.elim⟩
def BadCom (K : PySem.W.Frag) (w : World) (CB : Addr) (E : XK) (H : Hp) (js : List Jb) (v : V) : Prop := (Rz E H CB [("job", .non)] ∧ ∃ T, Kd K H v T ∧ T ≠ "dict") ∨ ∃ (a : Addr) (od : Obj) (rows : List MRow) (n : Nat) (key v0 : V), v = .ref a ∧ H a = some (.frz od (DO w a rows)) ∧ BadCo K H rows js n key v0 ∧ Rz E H CB [("job", key)]
theorem BadCo.ex {K : PySem.W.Frag} {H H' : Hp} {rows : List MRow} {js : List Jb} {n : Nat} {key v : V} (x : Ex H H') (h : BadCo K H rows js n key v) : BadCo K H' rows js n key v :=
  ⟨fun r m => (h.nk r m).ex x, h.nd, fun i hi => by
    obtain ⟨kk, j, v, e, m, c⟩ := h.pre i hi
    exact ⟨kk, j, v, e, m, c.ex x⟩, h.at_, h.kd.imp fun _ z => z.ex x, h.bad.imp id (Or.imp id fun ⟨j, m, e, c⟩ => ⟨j, m, e, c.ex x⟩)⟩
theorem BadCom.ex {K : PySem.W.Frag} {w : World} {CB : Addr} {E : XK} {H H' : Hp} {js : List Jb} {v : V} (x : Ex H H') (h : BadCom K w CB E H js v) : BadCom K w CB E H' js v := by
  rcases h with ⟨rz, T, k, n⟩ | ⟨a, od, rows, n, key, v0, e, ha, b, rz⟩
  · exact .inl ⟨rz.ex x, T, k.ex x, n⟩
  · exact .inr ⟨a, od, rows, n, key, v0, e, x _ _ ha, b.ex x, rz.ex x⟩
def spCJ (K : PySem.W.Frag) (C CN : Addr) : Sp := fun vs H Q E => spCheckJobX K C CN vs H Q E ∨ spCheckJob C vs H Q E
def spCC (K : PySem.W.Frag) (w : World) (C CB : Addr) : Sp := fun vs H Q E => spCheckedX K w C CB vs H Q E ∨ spCheckedS C vs H Q E
theorem TellA.ex {H H' : Hp} {a : Addr} {cs : List Jb} (x : Ex H H') (h : TellA H a cs) : TellA H' a cs := by
  obtain ⟨kvs, e, p⟩ := h
  exact ⟨kvs, x _ _ e, Paired.mapP p fun _ _ ⟨z1, l, z2, z3⟩ => ⟨z1, l, z2, x _ _ z3⟩⟩
def BadN (H : Hp) (cs : List Jb) (j : Jb) (nv : V) : Prop := natV nv = false ∨ ∃ i : Int, nv = .int i ∧ ((j ∈ cs ∧ 1 ≤ i) ∨ (j.name ∉ cs.map Jb.name ∧ 0 ≤ i))
def spBreakX (K : PySem.W.Frag) (w : World) (C CN CB CM : Addr) : Sp := fun vs H Q E => ∃ (F : Addr → Prop) (p : Addr) (js : List Jb) (cv jv nv : V), vs = [.ref p, cv, jv, nv] ∧ IsJb F H C p js ∧ FitJ js ∧
  ((NoJ K H js jv ∧ Rz E H CN [("job", jv)]) ∨ ∃ j ∈ js, jv = .str j.name ∧ (BadCom K w CB E H js cv ∨ ∃ (a : Addr) (cs : List Jb), cv = .ref a ∧ TellA H a cs ∧ (cs.map Jb.name).Nodup ∧ cs.length ≤ 4 ∧ (∀ j ∈ cs, j ∈ js) ∧ (∃ T, Kd K H nv T) ∧ BadN H cs j nv ∧ Rz E H CM [("number", nv)]))
section
variable {P : Program} {w : World} {K : PySem.W.Frag} {mg : Str → Option Value} {base : Heap} {f C CN CB CM : Addr} {fd : FuncData}
theorem ok_doneX (F : FnP K "done" sDone f fd) (FM : Has P w K mg base "moments_done" 1 ["jobs", "comings"] spNever) (FC : HasX P w K mg base "checked_comings" 4 ["jobs", "comings"] (spCC K w C CB)) : FnOk P w K mg base (L2.CX P w) 5 f fd ["jobs", "comings"] (spCheckedX K w C CB) := by
  refine FunD.okX (N := ["jobs", "comings"]) F ⟨rfl, rfl, rfl, by decide +kernel, rfl, by decide +kernel, by decide +kernel⟩ (fun vs H Q E h => ?_) (fun cdv A outer s H vs Q E hr h => ?_)
  · obtain ⟨_, p, js, v, rfl, _⟩ := h
    rfl
  · refine ⟨_, pss_one (ps_ret (pe_has FM hr (by decide) rfl (pa_cons (pv 0) (pa_cons (pe_hasX (E := E) FC hr (by decide) rfl (takes_of rfl rfl rfl rfl) (fun _ _ _ _ z => z) (pa_cons (pv 0) (pa_cons (pv 1) pa_nil))) pa_nil)))), ?_⟩
    obtain ⟨F0, p, js, v, rfl, h⟩ := h
    exact ⟨.ref p, rfl, .ref p, rfl, v, rfl, .inl ⟨F0, p, js, v, rfl, h⟩⟩
theorem ok_answersX (F : FnP K "answers" sAnswers f fd) (FM : Has P w K mg base "answers_in" 1 ["jobs", "comings"] spNever) (FC : HasX P w K mg base "checked_comings" 4 ["jobs", "comings"] (spCC K w C CB)) : FnOk P w K mg base (L2.CX P w) 5 f fd ["jobs", "comings"] (spCheckedX K w C CB) := by
  refine FunD.okX (N := ["jobs", "comings"]) F ⟨rfl, rfl, rfl, by decide +kernel, rfl, by decide +kernel, by decide +kernel⟩ (fun vs H Q E h => ?_) (fun cdv A outer s H vs Q E hr h => ?_)
  · obtain ⟨_, p, js, v, rfl, _⟩ := h
    rfl
  · refine ⟨_, pss_one (ps_ret (pe_has FM hr (by decide) rfl (pa_cons (pv 0) (pa_cons (pe_hasX (E := E) FC hr (by decide) rfl (takes_of rfl rfl rfl rfl) (fun _ _ _ _ z => z) (pa_cons (pv 0) (pa_cons (pv 1) pa_nil))) pa_nil)))), ?_⟩
    obtain ⟨F0, p, js, v, rfl, h⟩ := h
    exact ⟨.ref p, rfl, .ref p, rfl, v, rfl, .inl ⟨F0, p, js, v, rfl, h⟩⟩
theorem scBreak : FnScope ["jobs", "comings", "job", "number", "told", "found", "moments", "begin", "end", "pair", "name"] ["jobs", "comings", "job", "number"] (defScope sBreak) := ⟨rfl, rfl, rfl, by decide +kernel, rfl, by decide +kernel, by decide +kernel⟩
theorem ok_breakX (F : FnP K "breakdown" sBreak f fd) (EC : Ec1 K mg "BadNumber" "number" CM) (FJ : HasX P w K mg base "check_job" 4 ["jobs", "job"] (spCJ K C CN)) (FC : HasX P w K mg base "checked_comings" 4 ["jobs", "comings"] (spCC K w C CB)) (FN : Has P w K mg base "is_natural" 2 ["thing"] (spIsNat K)) (gn : mg "len" = none) : FnOk P w K mg base (L2.CX P w) 5 f fd ["jobs", "comings", "job", "number"] (spBreakX K w C CN CB CM) := by
  refine FunD.okX F scBreak (fun vs H Q E h => ?_) (fun cdv A outer s H vs Q E hr h => ?_)
  · obtain ⟨_, p, js, cv, jv, nv, rfl, _⟩ := h
    rfl
  · have hu := hu_of hr
    have hr2 := hr.mono (show 2 ≤ 4 by decide)
    refine ⟨_, pss_cut (ps_expr (pe_hasX (E := E) FJ hr (by decide) rfl (takes_of rfl rfl rfl rfl) (fun _ _ _ _ z => z) (pa_cons (pv 0) (pa_cons (pv 2) pa_nil))))
      (pss_cut (ps_asg (pe_tup (pa_cons (pe_hasX (E := E) FC hr (by decide) rfl (takes_of rfl rfl rfl rfl) (fun _ _ _ _ z => z) (pa_cons (pv 0) (pa_cons (pv 1) pa_nil))) (pa_cons pe_dnewK pa_nil))) (pg_tup rfl (pgs_cons (pg_name (i := 4) scBreak.nd rfl (.inl rfl)) (pgs_cons (pg_name (i := 5) scBreak.nd rfl (.inr rfl)) pgs_nil))))
      (pss_cut (ps_if (PW.pt (pw_or (pt_not (pt_val (pe_has FN hr (by decide) rfl (pa_cons (pv 3) pa_nil)))) (pw_or1 (pt_cmpR op_ge (pv 3) (pe_callB call_len rfl gn boot_len (pa_cons (pe_dget2 hu (pv 4) (pv 2) (pe_lst pa_nil) ⟨rfl, rfl, rfl, rfl⟩) pa_nil)) (nomark _))))) (pss_one (ps_raise1 EC rfl hr2 (takes_of rfl rfl rfl rfl) rfl (pv 3))) pss_nil)
      pss_dead)), ?_⟩
    obtain ⟨F0, p, js, cv, jv, nv, rfl, ij, fit, h⟩ := h
    rcases h with ⟨nj, rz⟩ | ⟨j, mj, rfl, h⟩
    · exact ⟨fun _ _ => False, ⟨.ref p, rfl, jv, rfl, .inl ⟨F0, p, js, jv, rfl, ij, nj, rz⟩⟩, fun _ _ z => z.elim⟩
    refine ⟨fun σ' H' => σ' = [some (.ref p), some cv, some (.str j.name), some nv, none, none, none, none, none, none, none] ∧ Ex H H', ⟨.ref p, rfl, .str j.name, rfl, .inr ⟨F0, p, js, j, rfl, ij, fit, mj, fun H1 x1 => ⟨rfl, x1⟩⟩⟩, ?_⟩
    rintro σ1 H1 ⟨rfl, x1⟩
    rcases h with bc | ⟨a, cs, rfl, ta, nd, l4, sub, ⟨T, kd⟩, bn, rz⟩
    · exact ⟨fun _ _ => False, ⟨.ref p, rfl, cv, rfl, .inl ⟨F0, p, js, cv, rfl, ij.ex x1, fit, bc.ex x1⟩⟩, fun _ _ z => z.elim⟩
    refine ⟨fun σ' H' => ∃ (q fo : Addr) (cs' : List Jb), σ' = [some (.ref p), some (.ref a), some (.str j.name), some nv, some (.ref q), some (.ref fo), none, none, none, none, none] ∧ Ex H H' ∧ TellA H' q cs' ∧ cs'.Perm cs, ?_, ?_⟩
    · refine ⟨.ref p, rfl, .ref a, rfl, .inr ⟨F0, p, a, js, cs, rfl, ij.ex x1, fit, ta.ex x1, nd, l4, sub, fun q cs' H2 x2 nq tq pm => fun fo nfo => ⟨by show 2 ≤ sizeLine; decide, fun tp ntp => ?_⟩⟩⟩
      have x3 := Ex.new (o := .dK []) nfo
      have x4 := Ex.new (o := .tup [.ref q, .ref fo]) ntp
      exact ⟨tp, _, rfl, .inl (.inl upd_same), rfl, .ref q, [.ref fo], rfl, .ref fo, [], rfl, rfl, q, fo, cs', rfl, x1.trans (x2.trans (x3.trans x4)), (tq.ex x3).ex x4, pm⟩
    rintro σ2 H2 ⟨q, fo, cs', rfl, x2, ⟨us, hq, pu⟩, pm⟩
    refine ⟨fun _ _ => False, ?_, fun _ _ z => z.elim⟩
    refine ⟨nv, rfl, nv, T, rfl, kd.ex x2, natV nv, rfl, ?_⟩
    cases nn : natV nv with
    | false => exact ⟨nv, rfl, mk1_ok EC fun d n => rz _ _ x2 n⟩
    | true =>
      rcases bn with b | ⟨i, rfl, b⟩
      · rw [nn] at b; cases b
      have nd' : (cs'.map Jb.name).Nodup := (pm.map Jb.name).nodup_iff.mpr nd
      refine ⟨.int i, rfl, .ref q, rfl, q, rfl, .inl ⟨_, .inl hq⟩, .str j.name, rfl, Nat.zero_le _, fun e0 ne0 => ?_⟩
      have x3 := Ex.new (o := .lst []) ne0
      have he : upd H2 e0 (.lst []) e0 = some (.lst []) := upd_same
      have x23 := x2.trans x3
      have hq3 := x3 _ _ hq
      generalize hG : upd H2 e0 (.lst []) = H3 at x3 he x23 hq3 ⊢
      refine ⟨valV us (Sum.inr j.name), DGet.k (k := Sum.inr j.name) hq3, ?_⟩
      rcases b with ⟨mc, i1⟩ | ⟨nc, i0⟩
      · obtain ⟨l, ev, hl⟩ := co_get pu nd' (pm.mem_iff.mpr mc)
        rw [ev]
        exact ⟨.ref l, 1, rfl, .inl ⟨[.int 3], .inl (.inl (x3 _ _ hl)), rfl⟩, i, 1, rfl, rfl, true, congrArg V.bl (decide_eq_true i1), .int i, rfl, mk1_ok EC fun d n => rz _ _ x23 n⟩
      · have ev : valV us (Sum.inr j.name) = none := valV_none fun z => by
          rw [co_keys pu] at z
          obtain ⟨y, my, ey⟩ := List.mem_map.mp z
          cases ey
          exact nc ((pm.map Jb.name).mem_iff.mp my)
        rw [ev]
        exact ⟨.ref e0, 0, rfl, .inl ⟨[], .inl (.inl he), rfl⟩, i, 0, rfl, rfl, true, congrArg V.bl (decide_eq_true i0), .int i, rfl, mk1_ok EC fun d n => rz _ _ x23 n⟩
end
end TH

/-! J18: dict.update; _law_ceilings, _law_made -/
namespace TH
open PySem PySem.Spec PyProof.Rows L2 LamV LamX XK0
open C8 (pss_cut tCut)
open OD
abbrev sMadeJ : Stmt := top 42
abbrev sCeilings : Stmt := top 43
/-! ### d.update(e) -/
def rDUpd : V → List V → Hp → VK → Prop := fun x vs H Q => ∃ (a b : Addr) (kvs more : List (Key × V)), x = .ref a ∧ vs = [.ref b] ∧ a ≠ b ∧ H a = some (.dK kvs) ∧ H b = some (.dK more) ∧ kvs.length + more.length ≤ sizeLine ∧ Q .non (upd H a (.dK (mergeK kvs more)))
theorem mtd_update {X : Cx} : MtR X "dict.update" rDUpd := by
  intro pins s σ H x vs v us Q I rx rv h
  obtain ⟨a, b, kvs, more, ex, ev, ne, ha, hb, hz, q⟩ := h
  subst ex
  subst ev
  obtain rfl : v = Value.ref a := rx
  obtain ⟨u1, rfl, r1⟩ := vals1 rv
  cases (show u1 = Value.ref b from r1)
  obtain ⟨z, hd, ws, rel, dd⟩ := dk_of I.hok ha
  obtain ⟨z2, hd2, ws2, rel2, dd2⟩ := dk_of I.hok hb
  have l1 : kvs.length = ws.length := Paired.length rel
  have l2 : more.length = ws2.length := Paired.length rel2
  refine call_meetsIn PySem.F.slot_dict_update dd.typeIs PySem.F.entry_dict_update (PySem.F.args_dict_update_2 _ _) (meets_dict_update (mixKind X.prog X.w) a b ne hd2) ⟨ws, ws2, dd, dd2, by omega, fun h' dd' _ hs => ?_⟩
  have he : ∃ q, h'.get? a = some q := let ⟨q, _, _, hq, _⟩ := dd'; ⟨q, hq⟩
  refine ⟨.non, _, d_write (t' := s.toks) I (by rw [ha]; exact True.intro) hs he (dk_new (Nat.le_trans (length_mergeK more kvs) hz) hd (KV.merge rel2 rel) dd'), rfl, q⟩
theorem pe_dupd {X : Cx} {o e : Expr} {to : TE} {t : TA} {apos cpos : Pos} (ho : PE X o to) (ha : PA X [e] t) (hbase : attributeBase o "update" X.env (eval o X.env) = eval o X.env := by rfl) (hline : (apos.endLine == cpos.line) = true := by rfl)
    (hfew : ((backTo cpos (starEach [e] X.env)).all (fun x => !x.1) && (backToKw cpos (keywordEach [] X.env)).all (fun x => x.1.isSome)
      && decide ([e].length + ([] : List Keyword).length + (if ([] : List Keyword).isEmpty then 0 else 1) < 30)) = true := by rfl)
    (hs : starEach [e] X.env = (false, eval e X.env) :: starEach [] X.env := by rfl) (hplain : (backTo cpos (starEach [] X.env)).any (·.1) = false := by rfl) :
    PE X (.Call (.Attribute o "update" apos) [e] [] cpos) (tBM X.K "dict" rDUpd to t) :=
  pe_bm PySem.F.plainAttrs_dict PySem.F.slot_dict_update PySem.F.type_dict_update mtd_update ho ha hbase hfew hline hs hplain
/-! ### plainly -/
theorem merge_no : ∀ {more kvs : List (Key × V)} {j : Key}, j ∉ more.map (·.1) → valV (mergeK kvs more) j = valV kvs j
  | [], kvs, j, _ => rfl
  | q :: r, kvs, j, h => by
    rw [List.map_cons, List.mem_cons, not_or] at h
    show valV (mergeK (putK kvs q.1 q.2) r) j = _
    rw [merge_no (more := r) h.2, valV_put, if_neg h.1]
theorem merge_yes {g : Key → V} : ∀ {more kvs : List (Key × V)} {j : Key}, (∀ q ∈ more, q.2 = g q.1) → j ∈ more.map (·.1) → valV (mergeK kvs more) j = some (g j)
  | q :: r, kvs, j, h, m => by
    show valV (mergeK (putK kvs q.1 q.2) r) j = _
    by_cases mr : j ∈ r.map (·.1)
    · exact merge_yes (more := r) (fun p m => h p (List.mem_cons_of_mem _ m)) mr
    · rw [List.map_cons] at m
      have e : j = q.1 := (List.mem_cons.mp m).elim id fun z => absurd z mr
      rw [merge_no mr, valV_put, if_pos e, h q List.mem_cons_self, e]
theorem putK_mem {kvs : List (Key × V)} {k : Key} {v : V} {q : Key × V} (h : q ∈ putK kvs k v) : q = (k, v) ∨ q ∈ kvs := by
  unfold putK at h
  split at h
  · obtain ⟨p, mp, e⟩ := List.mem_map.mp h
    split at e
    · rename_i ek
      rw [← e, ek]
      exact .inl rfl
    · rw [← e]
      exact .inr mp
  · rcases List.mem_append.mp h with h | h
    · exact .inr h
    · exact .inl (List.mem_singleton.mp h)
theorem putK_nd {kvs : List (Key × V)} {k : Key} {v : V} (h : (kvs.map (·.1)).Nodup) : ((putK kvs k v).map (·.1)).Nodup := by
  by_cases m : k ∈ kvs.map (·.1)
  · have e : (putK kvs k v).map (·.1) = kvs.map (·.1) := by
      unfold putK
      rw [if_pos (List.any_eq_true.mpr (by
        obtain ⟨p, mp, e⟩ := List.mem_map.mp m
        exact ⟨p, mp, decide_eq_true e⟩)), List.map_map]
      refine List.map_congr_left fun p _ => ?_
      show (if p.1 = k then (p.1, v) else p).1 = p.1
      split <;> rfl
    rw [e]
    exact h
  · rw [putK_fresh m, List.map_append]
    refine List.nodup_append.mpr ⟨h, List.nodup_cons.mpr ⟨(fun z => by cases z), .nil⟩, fun a ma b mb e => ?_⟩
    rw [List.mem_singleton.mp mb] at e
    have e : a = k := e
    rw [e] at ma
    exact m ma
theorem merge_mem : ∀ {more kvs : List (Key × V)} {q : Key × V}, q ∈ mergeK kvs more → q ∈ more ∨ q ∈ kvs
  | [], _, _, h => .inr h
  | p :: r, kvs, q, h => by
    rcases merge_mem (more := r) h with h | h
    · exact .inl (List.mem_cons_of_mem _ h)
    · rcases putK_mem h with h | h
      · exact .inl (List.mem_cons.mpr (.inl h))
      · exact .inr h
theorem merge_ndk : ∀ {more kvs : List (Key × V)}, (kvs.map (·.1)).Nodup → ((mergeK kvs more).map (·.1)).Nodup
  | [], _, h => h
  | p :: r, kvs, h => merge_ndk (more := r) (putK_nd h)
theorem merge_keys {more kvs : List (Key × V)} {j : Key} : j ∈ (mergeK kvs more).map (·.1) ↔ j ∈ more.map (·.1) ∨ j ∈ kvs.map (·.1) := by
  induction more generalizing kvs with
  | nil => exact ⟨.inr, fun h => h.elim (fun z => by cases z) id⟩
  | cons p r ih =>
    show j ∈ (mergeK (putK kvs p.1 p.2) r).map (·.1) ↔ _
    rw [ih, List.map_cons, List.mem_cons]
    have e : j ∈ (putK kvs p.1 p.2).map (·.1) ↔ j = p.1 ∨ j ∈ kvs.map (·.1) := by
      by_cases m : p.1 ∈ kvs.map (·.1)
      · have e : (putK kvs p.1 p.2).map (·.1) = kvs.map (·.1) := by
          unfold putK
          rw [if_pos (List.any_eq_true.mpr (by
            obtain ⟨q, mq, e⟩ := List.mem_map.mp m
            exact ⟨q, mq, decide_eq_true e⟩)), List.map_map]
          refine List.map_congr_left fun q _ => ?_
          show (if q.1 = p.1 then (q.1, p.2) else q).1 = q.1
          split <;> rfl
        rw [e]
        exact ⟨.inr, fun h => h.elim (fun z => z ▸ m) id⟩
      · rw [putK_fresh m, List.map_append, List.mem_append]
        constructor
        · rintro (h | h)
          · exact .inr h
          · exact .inl (List.mem_singleton.mp h)
        · rintro (h | h)
          · exact .inr (List.mem_singleton.mpr h)
          · exact .inl h
    rw [e]
    constructor
    · rintro (h | h | h)
      · exact .inl (.inr h)
      · exact .inl (.inl h)
      · exact .inr h
    · rintro ((h | h) | h)
      · exact .inr (.inl h)
      · exact .inl h
      · exact .inr (.inr h)
theorem nd_len {α : Type} [DecidableEq α] : ∀ {l m : List α}, l.Nodup → (∀ x ∈ l, x ∈ m) → l.length ≤ m.length
  | [], _, _, _ => Nat.zero_le _
  | a :: r, m, nd, h => by
    rw [List.nodup_cons] at nd
    have ha := h a List.mem_cons_self
    have z := nd_len (l := r) (m := m.erase a) nd.2 fun x mx => (List.mem_erase_of_ne (fun e => nd.1 (by rw [← e]; exact mx))).mpr (h x (List.mem_cons_of_mem _ mx))
    rw [List.length_erase_of_mem ha] at z
    have := List.length_pos_of_mem ha
    rw [List.length_cons]
    omega
theorem ar_sub : ∀ {b : Bd} {ws ar : List Str}, ar ∈ b.arounds ws → ∀ x ∈ ws, x ∈ ar
  | .unit n r, ws, ar, h, x, m => by
    rcases List.mem_append.mp h with h | h
    · rw [(List.mem_replicate.mp h).2]; exact m
    · exact ar_sub h x m
  | .lock w c r, ws, ar, h, x, m => by
    rcases List.mem_append.mp h with h | h
    · exact ar_sub h x (List.mem_append_left _ m)
    · exact ar_sub h x m
theorem ar_things : ∀ {b : Bd} {ws ar : List Str}, ar ∈ b.arounds ws → ∀ x ∈ ar, x ∈ ws ∨ x ∈ b.things
  | .unit n r, ws, ar, h, x, m => by
    rcases List.mem_append.mp h with h | h
    · rw [(List.mem_replicate.mp h).2] at m; exact .inl m
    · exact ar_things h x m
  | .lock w c r, ws, ar, h, x, m => by
    rcases List.mem_append.mp h with h | h
    · rcases ar_things h x m with z | z
      · rcases List.mem_append.mp z with z | z
        · exact .inl z
        · rw [List.mem_singleton.mp z]; exact .inr List.mem_cons_self
      · exact .inr (List.mem_cons_of_mem _ (List.mem_append_left _ z))
    · exact (ar_things h x m).imp id fun z => List.mem_cons_of_mem _ (List.mem_append_right _ z)
theorem ok_cost1 : ∀ {b : Bd} {ws : List Str}, b.ok ws → b ≠ .nil → 1 ≤ b.cost
  | .nil, _, _, h => absurd rfl h
  | .unit n r, _, h, _ => by
    show 1 ≤ n + r.cost
    have := h.1
    omega
  | .lock w c r, _, h, _ => by
    show 1 ≤ c.cost + r.cost
    have := ok_cost1 h.2.2.2.1 h.2.2.1
    omega
theorem things_ar : ∀ {b : Bd} {ws w0 : List Str}, b.ok w0 → ∀ x ∈ b.things, ∃ ar ∈ b.arounds ws, x ∈ ar
  | .unit n r, ws, w0, h, x, m => by
    obtain ⟨ar, ma, mx⟩ := things_ar (ws := ws) h.2 x m
    exact ⟨ar, List.mem_append_right _ ma, mx⟩
  | .lock w c r, ws, w0, h, x, m => by
    rcases List.mem_cons.mp m with rfl | m
    · have z := ok_cost1 h.2.2.2.1 h.2.2.1
      rw [← Bd.ar_len c (ws ++ [x])] at z
      obtain ⟨ar, e⟩ : ∃ ar, (c.arounds (ws ++ [x]))[0]? = some ar := ⟨_, List.getElem?_eq_getElem z⟩
      have ma := List.mem_of_getElem? e
      exact ⟨ar, List.mem_append_left _ ma, ar_sub ma x (List.mem_append_right _ List.mem_cons_self)⟩
    · rcases List.mem_append.mp m with m | m
      · obtain ⟨ar, ma, mx⟩ := things_ar (ws := ws ++ [w]) h.2.2.2.1 x m
        exact ⟨ar, List.mem_append_left _ ma, mx⟩
      · obtain ⟨ar, ma, mx⟩ := things_ar (ws := ws) h.2.2.2.2 x m
        exact ⟨ar, List.mem_append_right _ ma, mx⟩
theorem ar_iff {b : Bd} (h : b.ok []) (x : Str) : x ∈ (b.arounds []).flatten ↔ x ∈ b.things := by
  constructor
  · intro m
    obtain ⟨ar, ma, mx⟩ := List.mem_flatten.mp m
    exact (ar_things ma x mx).elim (fun z => by cases z) id
  · intro m
    obtain ⟨ar, ma, mx⟩ := things_ar (ws := []) h x m
    exact List.mem_flatten.mpr ⟨ar, ma, mx⟩
theorem ar_len2 : ∀ {b : Bd} {ws ar : List Str}, ar ∈ b.arounds ws → ar.length ≤ ws.length + b.dep
  | .unit n r, ws, ar, h => by
    rcases List.mem_append.mp h with h | h
    · rw [(List.mem_replicate.mp h).2]; omega
    · have z := ar_len2 (b := r) h
      exact z
  | .lock w c r, ws, ar, h => by
    have e : Bd.dep (.lock w c r) = max (c.dep + 1) r.dep := rfl
    rcases List.mem_append.mp h with h | h
    · have z := ar_len2 h
      rw [List.length_append] at z
      have : [w].length = 1 := rfl
      omega
    · have z := ar_len2 h
      omega
theorem merge_ceil {cl kvs : List (Key × V)} {f : Str → Nat} {ws : List Str} {n : Nat} (cf : CeilF cl f) (n1 : 1 ≤ n) (ek : kvs = ws.map fun w => (Sum.inr w, V.int ((max n (f w) : Nat) : Int))) : CeilF (mergeK cl (mergeK [] kvs)) (fun w => if w ∈ ws then max n (f w) else f w) := fun w => by
  obtain ⟨g, eg⟩ : ∃ g : Key → V, g = fun k => match k with | .inl _ => .non | .inr w => .int ((max n (f w) : Nat) : Int) := ⟨_, rfl⟩
  have hg : ∀ q ∈ kvs, q.2 = g q.1 := fun q mq => by
    rw [ek] at mq
    obtain ⟨x, _, rfl⟩ := List.mem_map.mp mq
    rw [eg]
  have hk : ∀ x, (Sum.inr x : Key) ∈ kvs.map (·.1) ↔ x ∈ ws := fun x => by
    rw [ek, List.map_map]
    constructor
    · intro z
      obtain ⟨y, my, e⟩ := List.mem_map.mp z
      cases e
      exact my
    · intro z
      exact List.mem_map.mpr ⟨x, z, rfl⟩
  have hm : ∀ q ∈ mergeK [] kvs, q.2 = g q.1 := fun q mq => (merge_mem mq).elim (hg q) fun z => by cases z
  have hmk : ∀ x, (Sum.inr x : Key) ∈ (mergeK [] kvs).map (·.1) ↔ x ∈ ws := fun x => by
    rw [merge_keys, hk]
    exact ⟨fun h => h.elim id (fun z => by cases z), .inl⟩
  show _ = optI (if w ∈ ws then max n (f w) else f w)
  by_cases m : w ∈ ws
  · rw [if_pos m, merge_yes hm ((hmk w).mpr m), eg]
    unfold optI
    rw [if_neg (by omega)]
  · rw [if_neg m, merge_no fun z => m ((hmk w).mp z)]
    exact cf w
/-- keys: things -/
structure CeilT (cl : List (Key × V)) : Prop where
  nd : (cl.map (·.1)).Nodup
  ks : ∀ k ∈ cl.map (·.1), k ∈ tsN.map (Sum.inr : Str → Key)
theorem CeilT.len {cl : List (Key × V)} (h : CeilT cl) : cl.length ≤ 3 := by
  have z := nd_len h.nd h.ks
  rw [List.length_map] at z
  exact z
def rMx : List V → Hp → VK → Prop := fun xs H Q => ∃ i j, xs = [.int i, .int j] ∧ Q (.int (if j > i then j else i)) H
theorem call_mx {X : Cx} (h : X.calm = true) : CallR X (.builtin "max") rMx := call_max2 h
def spCeilings : Sp := fun vs H Q _ => ∃ (jd : Addr) (js : List Jb), vs = [.ref jd] ∧ DJ H jd js ∧ (∀ j ∈ js, 1 ≤ j.pr) ∧ (∀ j ∈ js, GoodB 2 tsN j.bd) ∧ js.length ≤ 4 ∧
  ∀ (cd : Addr) (cl : List (Key × V)) (H' : Hp), Ex H H' → H cd = none → H' cd = some (.dK cl) → CeilT cl → CeilF cl (ceilN js) → Q (.ref cd) H'
section
variable {P : Program} {w : World} {K : PySem.W.Frag} {mg : Str → Option Value} {base : Heap} {f C : Addr} {fd : FuncData}
theorem scCeilings : FnScope ["_law_jobs_here", "_law_found", "_law_priority", "_law_distance", "_law_body_here", "_law_around", "_law_mark"] ["_law_jobs_here"] (defScope sCeilings) := ⟨rfl, rfl, rfl, by decide +kernel, rfl, by decide +kernel, by decide +kernel⟩
theorem ok_ceilings (F : FnP K "_law_ceilings" sCeilings f fd) (FU : Has P w K mg base "_law_units" 4 ["_law_body_here", "_law_around"] (spUnits 3)) (gm : mg "max" = none) (gd : mg "dict" = none) : FnOk P w K mg base CX0 5 f fd ["_law_jobs_here"] spCeilings := by
  refine F.ok scCeilings (fun vs H Q E h => ?_) (fun cdv A outer s H vs Q E hr h => ?_)
  · obtain ⟨jd, js, rfl, _⟩ := h
    rfl
  · have hu := hu_of hr
    refine ⟨_, PSs.nox (pss_cons (ps_set (i := 1) scCeilings.nd rfl (.inr rfl) pe_dnewK)
      (pss_cons (ps_lock (ps_for PassesOwn.never rfl (pi_values (pv 0)) (pg_tup rfl (pgs_cons (pg_name (i := 2) scCeilings.nd rfl (.inr rfl)) (pgs_cons (pg_name (i := 3) scCeilings.nd rfl (.inl rfl)) (pgs_cons (pg_name (i := 4) scCeilings.nd rfl (.inl rfl)) pgs_nil))))
        (pss_one (ps_for PassesOwn.never rfl (pi_list (pe_has FU hr (by decide) rfl (pa_cons (pv 4) (pa_cons (pe_tup pa_nil) pa_nil)))) (pg_name (i := 5) scCeilings.nd rfl (.inl rfl))
          (pss_one (ps_expr (pe_dupd (pv 1) (pa_cons (pe_callTy (call_dictPK rfl) rfl gd boot_dict (pa_cons (pe_lc (te := tTup (tCons (tOp (rIxQ K) (tVar 6) (tC (.int 0))) (tCons (tCB rMx (tCons (tVar 2) (tCons (tDGet2 (tVar 1) (tOp (rIxQ K) (tVar 6) (tC (.int 0))) (tC (.int 0))) tNil))) tNil))) (own := [("_law_mark", 6)]) rfl scCeilings.nd (pi_tup (pv 5)) (blkOk_by (by kernel_rfl)) (fun s H C cl fp => pg_name (i := 6) scCeilings.nd rfl (.inl rfl) (.inr rfl)) (fun s H C cl fp => pts_nil)
            (fun s H C cl fp => pe_tup (pa_cons (pe_ix ix_sq (pv 6) pe_int (fun _ _ => rfl)) (pa_cons (pe_callB (call_mx rfl) rfl gm boot_max (pa_cons (pv 2) (pa_cons (pe_dget2 hu (pv 1) (pe_ix ix_sq (pv 6) pe_int (fun _ _ => rfl)) pe_int ⟨rfl, rfl, rfl, rfl⟩) pa_nil))) pa_nil)))) pa_nil)) pa_nil))))))))
      (pss_one (ps_ret (pv 1))))), ?_⟩
    obtain ⟨jd, js, rfl, ⟨kvs, hj, pj⟩, p1, gbs, l4, hQ⟩ := h
    refine fun cd ncd => ?_
    have cdj : cd ≠ jd := fun z => by rw [z, hj] at ncd; cases ncd
    have x1 := Ex.new (o := .dK []) ncd
    have hcd1 : upd H cd (.dK []) cd = some (.dK []) := upd_same
    have hj1 := x1 _ _ hj
    show tLock _ _ _ (upd H cd (.dK []))
    generalize upd H cd (.dK []) = H1 at x1 hcd1 hj1 ⊢
    refine ⟨jd, _, hj1, trivial, fun od => ?_⟩
    obtain ⟨H2, eH2⟩ : ∃ H2, H2 = upd H1 jd (.frz od (.dK kvs)) := ⟨_, rfl⟩
    have h2j : H2 jd = some (.frz od (.dK kvs)) := by rw [eH2]; exact upd_same
    have h2k : ∀ b o, b ≠ jd → H1 b = some o → H2 b = some o := fun b o nb e => by rw [eH2]; exact (upd_ne nb).trans e
    have unl : ∀ {H' : Hp}, (∀ b o, b ≠ cd → H2 b = some o → H' b = some o) → Ex H (upd H' jd (.dK kvs)) := fun x b o e => by
      by_cases z : b = jd
      · rw [z] at e ⊢
        rw [upd_same]
        rw [hj] at e
        exact e
      · exact (upd_ne z).trans (x _ _ (fun q => by rw [q, ncd] at e; cases e) (h2k _ _ z (x1 _ _ e)))
    rw [← eH2]
    clear eH2
    have kt2 : KeepT H H2 := fun b zs e => h2k _ _ (fun z => by rw [z, hj] at e; cases e) (x1 _ _ e)
    have hcd2 := h2k _ _ cdj hcd1
    have kl : kvs.length = js.length := (Paired.length pj).symm
    refine ⟨.ref jd, rfl, jd, od, kvs, rfl, h2j, for_it walk_values (fun i σ' H' => ∃ (o2 o3 o4 o5 o6 : Option V), σ' = [some (.ref jd), some (.ref cd), o2, o3, o4, o5, o6] ∧ (∀ b o, b ≠ cd → H2 b = some o → H' b = some o) ∧ ∃ cl, H' cd = some (.dK cl) ∧ CeilT cl ∧ CeilF cl (ceilN (js.take i))) ⟨_, _, _, _, _, rfl, fun _ _ _ e => e, [], hcd2, ⟨.nil, fun k m => by cases m⟩, fun _ => rfl⟩ (fun i σ' H' _ ⟨_, _, _, _, _, _, x, _⟩ => x _ _ cdj.symm h2j) (fun i v σ' H' H3 hi h y => ?_) fun σ' H' h => ?_⟩
    · obtain ⟨o2, o3, o4, o5, o6, rfl, x3, cl, hcl, ct, cf⟩ := h
      obtain ⟨rfl, k, ek⟩ := y
      obtain ⟨j, ej, _, t, q, xs, ev, ht, hq, cb⟩ := paired_get pj ek
      have ev : v = .ref t := ev
      subst ev
      have mj := List.mem_of_getElem? ej
      have gb := gbs j mj
      have pr1 := p1 j mj
      have kt3 : KeepT H H3 := fun b zs e => x3 _ _ (fun z => by rw [z, ncd] at e; cases e) (kt2 _ _ e)
      have ht3 := kt3 _ _ ht
      have hq3 := kt3 _ _ hq
      have cb3 := cb.kt kt3
      have bok : j.bd.ok [] := gb.ok [] fun _ z => by cases z
      refine ⟨t, _, rfl, .inl (.inl ht3), rfl, .int j.pr, _, rfl, .int j.di, _, rfl, .ref q, [], rfl, rfl, ?_⟩
      refine ⟨.ref q, rfl, Nat.zero_le _, fun at1 nat1 => ?_⟩
      have xa := Ex.new (o := .tup []) nat1
      refine ⟨q, at1, xs, j.bd, [], rfl, xa _ _ hq3, cb3.kt xa.kt, ⟨[], upd_same, .nil⟩, by decide, by have := gb.dep; omega, by have := gb.wid; omega, Bd.ok_pos bok, by have : j.bd.cost ≤ 81 := gb.cost; omega, fun uq us H6 x6 nu hus pa => ?_⟩
      have x36 := xa.trans x6
      have hcl6 := x36 _ _ hcl
      have uqc : uq ≠ cd := fun z => by rw [z, hcl6] at hus; cases hus
      refine ⟨uq, rfl, ⟨_, .inl (.inl hus)⟩, for_list (K := K) (xs := us.map V.ref) (fun k σ' H' => ∃ (o5 o6 : Option V), σ' = [some (.ref jd), some (.ref cd), some (.int j.pr), some (.int j.di), some (.ref q), o5, o6] ∧ (∀ b o, b ≠ cd → H6 b = some o → H' b = some o) ∧ ∃ cl, H' cd = some (.dK cl) ∧ CeilT cl ∧ CeilF cl (fun w => if w ∈ ((j.bd.arounds []).take k).flatten then max (ceilN (js.take i) w) j.pr else ceilN (js.take i) w)) ⟨_, _, rfl, fun _ _ _ e => e, cl, hcl6, ct, cf⟩ (fun k σ' H' _ ⟨_, _, _, x, _⟩ => .inl (.inl (x _ _ uqc hus))) (fun k v σ' H' hv h => ?_) fun σ' H' h => ?_⟩
      · obtain ⟨o5, o6, rfl, x7, cl7, hcl7, ct7, cf7⟩ := h
        rw [List.getElem?_map] at hv
        obtain ⟨ar, ear, rfl⟩ := Option.map_eq_some_iff.mp hv
        obtain ⟨ws, ews, ms, har, pm⟩ := paired_get2 pa ear
        have mws := List.mem_of_getElem? ews
        have kt7 : KeepT H6 H' := fun b zs e => x7 _ _ (fun z => by rw [z, hcl6] at e; cases e) e
        have har7 := kt7 _ _ har
        have pm7 : Paired (MarkA H') ms ws := Paired.mapP pm fun _ _ ⟨z, e⟩ => ⟨z, kt7 _ _ e⟩
        have msl : ms.length = ws.length := Paired.length pm
        have wt : ∀ x ∈ ws, x ∈ tsN := fun x m => (ar_things mws x m).elim (fun z => by cases z) (gb.tm x)
        have wsl : ws.length ≤ 10 := by
          have z := ar_len2 mws
          have : ([] : List Str).length = 0 := rfl
          have := gb.dep
          omega
        obtain ⟨fn, efn⟩ : ∃ fn : Str → Nat, fn = fun w => if w ∈ ((j.bd.arounds []).take k).flatten then max (ceilN (js.take i) w) j.pr else ceilN (js.take i) w := ⟨_, rfl⟩
        rw [← efn] at cf7
        refine ⟨.ref cd, rfl, .inr (.inr (.inl ⟨rfl, .inl ⟨_, hcl7⟩⟩)), .ref ar, rfl, ar, rfl, ⟨_, .inl (.inl har7)⟩, fun D nD => ?_⟩
        refine lc_it (walk_tup (xs := ms.map V.ref)) (fun n Hn => ∃ ps : List Addr, Ex H' Hn ∧ Hn D = some (.lst (ps.map V.ref)) ∧ Paired (fun (a : Addr) (w : Str) => Hn a = some (.tup [.str w, .int ((max j.pr (fn w) : Nat) : Int)])) ps (ws.take n)) ⟨[], Ex.new nD, upd_same, .nil⟩ (fun n Hn _ ⟨_, x, _⟩ => .inl (.inl (x _ _ har7))) (fun n v Hn Hm hn h y => ?_) fun Hn h => ?_
        · obtain ⟨ps, xn, hD, pp⟩ := h
          obtain ⟨rfl, ev⟩ := y
          rw [List.getElem?_map] at ev
          obtain ⟨m, em, rfl⟩ := Option.map_eq_some_iff.mp ev
          obtain ⟨x, ex, z, hm⟩ := paired_get2 pm7 em
          have hmn := xn _ _ hm
          have hcn := xn _ _ hcl7
          have dg : DGet Hm cd (.str x) (optI (fn x)) := cf7 x ▸ DGet.k (k := Sum.inr x) hcn
          refine ⟨rfl, .ref m, rfl, m, _, 0, .str x, rfl, rfl, .inr (.inl (.inl hmn)), at_nat (k := 0) rfl, .int j.pr, rfl, .ref cd, rfl, cd, rfl, .inl ⟨_, .inl hcn⟩, .ref m, rfl, m, _, 0, .str x, rfl, rfl, .inr (.inl (.inl hmn)), at_nat (k := 0) rfl, optI (fn x), dg, j.pr, fn x, congrArg (fun v => [V.int j.pr, v]) (optI_get _), by show 2 ≤ sizeLine; decide, fun t nt => ?_⟩
          rw [show (if (fn x : Int) > (j.pr : Int) then (fn x : Int) else (j.pr : Int)) = ((max j.pr (fn x) : Nat) : Int) by split <;> omega]
          have xt := Ex.new (o := .tup [.str x, .int ((max j.pr (fn x) : Nat) : Int)]) nt
          have ht : upd Hm t (.tup [.str x, .int ((max j.pr (fn x) : Nat) : Int)]) t = some (.tup [.str x, .int ((max j.pr (fn x) : Nat) : Int)]) := upd_same
          generalize upd Hm t (.tup [.str x, .int ((max j.pr (fn x) : Nat) : Int)]) = Hk at xt ht ⊢
          have hDk := xt _ _ hD
          have psl : ps.length ≤ 10 := by
            have z := Paired.length pp
            rw [List.length_take] at z
            omega
          have off : ∀ {b ys}, Hk b = some (.tup ys) → b ≠ D := fun h z => by rw [z, hDk] at h; cases h
          refine ⟨_, hDk, by rw [List.length_map, sizeLine_eq]; omega, ps ++ [t], fun b o e => (upd_ne fun z => by rw [z, nD] at e; cases e).trans (xt _ _ (xn _ _ e)), by rw [upd_same, List.map_append]; rfl, ?_⟩
          rw [List.take_add_one, ex]
          exact paired_app (Paired.mapP pp fun _ _ z => (upd_ne (off (xt _ _ z))).trans (xt _ _ z)) ((upd_ne (off ht)).trans ht)
        · obtain ⟨ps, xn, hD, pp⟩ := h
          rw [List.length_map, msl, List.take_length] at pp
          have hcn := xn _ _ hcl7
          obtain ⟨kv, ekv⟩ : ∃ kv : List (Key × V), kv = ws.map fun w => (Sum.inr w, V.int ((max j.pr (fn w) : Nat) : Int)) := ⟨_, rfl⟩
          have pk : Paired (fun (a : Addr) (q : Key × V) => SqT K Hn a [kV q.1, q.2]) ps kv := by
            rw [ekv]
            have go : ∀ {ps : List Addr} {ws : List Str}, Paired (fun (a : Addr) (w : Str) => Hn a = some (.tup [.str w, .int ((max j.pr (fn w) : Nat) : Int)])) ps ws → Paired (fun (a : Addr) (q : Key × V) => SqT K Hn a [kV q.1, q.2]) ps (ws.map fun w => (Sum.inr w, V.int ((max j.pr (fn w) : Nat) : Int))) := fun {ps ws} p => by
              induction p with
              | nil => exact .nil
              | cons a _ ih => exact .cons (.inl (.inl a)) ih
            exact go pp
          refine ⟨D, ps, kv, rfl, .inl (.inl hD), pk, fun nd nnd => ?_⟩
          have xd := Ex.new (o := .dK (mergeK [] kv)) nnd
          have kvl : kv.length ≤ 10 := by rw [ekv, List.length_map]; exact wsl
          have ml := length_mergeK kv []
          have cll := ct7.len
          have hcd' := xd _ _ hcn
          have cn : cd ≠ nd := fun z => by rw [z, nnd] at hcn; cases hcn
          refine ⟨cd, nd, cl7, mergeK [] kv, rfl, rfl, cn, hcd', upd_same, by rw [sizeLine_eq]; have : ([] : List (Key × V)).length = 0 := rfl; omega, _, _, rfl, fun b o nb e => (upd_ne nb).trans (xd _ _ (xn _ _ (x7 _ _ nb e))), _, upd_same, ⟨merge_ndk ct7.nd, fun kk mk => ?_⟩, fun w1 => ?_⟩
          · rcases merge_keys.mp mk with mk | mk
            · rcases merge_keys.mp mk with mk | mk
              · rw [ekv, List.map_map] at mk
                obtain ⟨x, mx, e⟩ := List.mem_map.mp mk
                rw [← e]
                exact List.mem_map_of_mem (wt x mx)
              · cases mk
            · exact ct7.ks kk mk
          · rw [merge_ceil cf7 pr1 ekv w1]
            congr 1
            show (if w1 ∈ ws then max j.pr (fn w1) else fn w1) = (if w1 ∈ ((j.bd.arounds []).take (k + 1)).flatten then _ else _)
            rw [List.take_add_one, ews, Option.toList_some, List.flatten_append]
            have e1 : ([ws] : List (List Str)).flatten = ws := by simp
            rw [e1, efn]
            show (if w1 ∈ ws then max j.pr (if w1 ∈ ((j.bd.arounds []).take k).flatten then _ else _) else (if w1 ∈ ((j.bd.arounds []).take k).flatten then _ else _)) = _
            by_cases m1 : w1 ∈ ((j.bd.arounds []).take k).flatten
            · rw [if_pos m1, if_pos (List.mem_append_left _ m1)]
              split <;> omega
            · rw [if_neg m1]
              by_cases m2 : w1 ∈ ws
              · rw [if_pos m2, if_pos (List.mem_append_right _ m2)]
                omega
              · rw [if_neg m2, if_neg fun z => (List.mem_append.mp z).elim m1 m2]
      · obtain ⟨o5, o6, rfl, x7, cl7, hcl7, ct7, cf7⟩ := h
        have ul := Paired.length pa
        rw [List.length_map, ul, List.take_length] at cf7
        refine ⟨_, _, _, _, _, rfl, fun b o nb e => x7 _ _ nb (x36 _ _ (x3 _ _ nb e)), cl7, hcl7, ct7, fun w1 => ?_⟩
        rw [cf7 w1, List.take_add_one, ej, Option.toList_some, ceilN_snoc]
        congr 1
        show (if w1 ∈ (j.bd.arounds []).flatten then _ else _) = _
        unfold prOf
        by_cases m : w1 ∈ j.bd.things
        · rw [if_pos ((ar_iff bok w1).mpr m), if_pos m]
        · rw [if_neg fun z => m ((ar_iff bok w1).mp z), if_neg m]
          omega
    · obtain ⟨o2, o3, o4, o5, o6, rfl, x3, cl, hcl, ct, cf⟩ := h
      rw [kl, List.take_length] at cf
      refine ⟨x3 _ _ cdj.symm h2j, .ref cd, rfl, hQ cd cl _ (unl x3) ncd ((upd_ne cdj).trans hcl) ct cf⟩
end
end TH

/-! J19: _law_made; _law_met(lambda: ..) -/
namespace TH
open PySem PySem.Spec PyProof.Rows L2 LamV LamX XK0
open C8 (pss_cut tCut)
open OD
abbrev sMet5 : Stmt := top 44
theorem takes_lenP {X : Cx} {W : WX} (tk : Takes X W) : Takes X (fun cls d σ H => σ.length = X.N.length → W cls d σ H) := by
  rintro u s' ⟨a, B, sI, pins', τ, G, cls, d, e, J, nb, up, sky, na, os, ag, w⟩
  exact tk u s' ⟨a, B, sI, pins', τ, G, cls, d, e, J, nb, up, sky, na, os, ag, w J.len⟩
/-- what the five classes are to one another -/
structure Met5 (K : PySem.W.Frag) (mg : Str → Option Value) (CJ CN CT CB CM : Addr) : Prop where
  gJ : mg "BadJobs" = some (.ref CJ)
  gN : mg "NoJob" = some (.ref CN)
  gT : mg "NoThing" = some (.ref CT)
  gB : mg "BadComings" = some (.ref CB)
  gM : mg "BadNumber" = some (.ref CM)
  xJ : XfC K CJ
  xN : XfC K CN
  xT : XfC K CT
  xB : XfC K CB
  xM : XfC K CM
  nJ : PySem.W.findIn K (.ref CJ) "job" = some none
  nN : PySem.W.findIn K (.ref CN) "job" = some none
  nT : PySem.W.findIn K (.ref CT) "thing" = some none
  nB : PySem.W.findIn K (.ref CB) "job" = some none
  nM : PySem.W.findIn K (.ref CM) "number" = some none
  mJJ : PySem.W.exmOne K (.ref CJ) (.ref CJ) = some true
  mNJ : PySem.W.exmOne K (.ref CN) (.ref CJ) = some false
  mNN : PySem.W.exmOne K (.ref CN) (.ref CN) = some true
  mTJ : PySem.W.exmOne K (.ref CT) (.ref CJ) = some false
  mTN : PySem.W.exmOne K (.ref CT) (.ref CN) = some false
  mTT : PySem.W.exmOne K (.ref CT) (.ref CT) = some true
  mBJ : PySem.W.exmOne K (.ref CB) (.ref CJ) = some false
  mBN : PySem.W.exmOne K (.ref CB) (.ref CN) = some false
  mBT : PySem.W.exmOne K (.ref CB) (.ref CT) = some false
  mBB : PySem.W.exmOne K (.ref CB) (.ref CB) = some true
  mMJ : PySem.W.exmOne K (.ref CM) (.ref CJ) = some false
  mMN : PySem.W.exmOne K (.ref CM) (.ref CN) = some false
  mMT : PySem.W.exmOne K (.ref CM) (.ref CT) = some false
  mMB : PySem.W.exmOne K (.ref CM) (.ref CB) = some false
  mMM : PySem.W.exmOne K (.ref CM) (.ref CM) = some true
/-- C with its field f is told as tag -/
def Tag5 (CJ CN CT CB CM : Addr) (C : Addr) (f tag : Str) : Prop := (C = CJ ∧ f = "job" ∧ tag = "jobs") ∨ (C = CN ∧ f = "job" ∧ tag = "job") ∨ (C = CT ∧ f = "thing" ∧ tag = "thing") ∨ (C = CB ∧ f = "job" ∧ tag = "comings") ∨ (C = CM ∧ f = "number" ∧ tag = "number")
def TTm5 (CJ CN CT CB CM : Addr) : (XK → Hp → VK → Prop) → Hp → VK → Prop := fun tl H Q => tl (fun cls dd H' => ∃ (d C : Addr) (f tag : Str) (v : V), dd = some d ∧ cls = .ref C ∧ Tag5 CJ CN CT CB CM C f tag ∧ H' d = some (.xd [(f, v)]) ∧ ∀ p, H' p = none → Q (.ref p) (upd H' p (.tup [.str tag, v]))) H (fun _ H' => Q .non H')
theorem scMet5 : FnScope ["_law_ask", "e"] ["_law_ask"] (defScope sMet5) := ⟨rfl, rfl, rfl, by decide +kernel, rfl, by decide +kernel, by decide +kernel⟩
theorem met_gives5 {X : Cx} {g CJ CN CT CB CM : Addr} {cdg : Value} {q : Str} (M : Met5 X.K X.mg CJ CN CT CB CM) : GivesTo X ["_law_ask", "e"] "_law_met" (defScope sMet5) g cdg (defBody sMet5) "_law_ask" q (TTm5 CJ CN CT CB CM) := by
  intro f c' s H Q tl act hc h
  refine ⟨_, pss_cons (ps_tryAs (X := (cxOf C8.CX0 X.prog X.w X.K X.mg X.base ["_law_ask", "e"] "_law_met" (defScope sMet5) g cdg X.A X.stack s H C8.E0).nox) (i := 1) (Wo := fun _ _ _ _ => False)
      (tb := fun W D σ H => ∃ Ech : XK, (∀ cls d σ' H', Ech cls d H' → σ'.length = 2 → W cls d σ' H') ∧ σ[0]? = some (some (.ref f)) ∧ H c' = some (CodeO c' q) ∧ tl Ech H fun _ H' => D.nx σ H')
      rfl rfl scMet5.nd rfl rfl L2.takes0 (fun W pn xe tk _ => ⟨fun pins s' σ H' D I h' => ?_⟩)
      (.cons ⟨rfl, by decide, .inl M.gJ⟩ (fun a oe cls d pn hz hf => pss_one (ps_ret (pe_tup (pa_cons pe_str (pa_cons (pe_xf M.xJ M.nJ hz hf (pv 1)) pa_nil)))))
      (.cons ⟨rfl, by decide, .inl M.gN⟩ (fun a oe cls d pn hz hf => pss_one (ps_ret (pe_tup (pa_cons pe_str (pa_cons (pe_xf M.xN M.nN hz hf (pv 1)) pa_nil)))))
      (.cons ⟨rfl, by decide, .inl M.gT⟩ (fun a oe cls d pn hz hf => pss_one (ps_ret (pe_tup (pa_cons pe_str (pa_cons (pe_xf M.xT M.nT hz hf (pv 1)) pa_nil)))))
      (.cons ⟨rfl, by decide, .inl M.gB⟩ (fun a oe cls d pn hz hf => pss_one (ps_ret (pe_tup (pa_cons pe_str (pa_cons (pe_xf M.xB M.nB hz hf (pv 1)) pa_nil)))))
      (.cons ⟨rfl, by decide, .inl M.gM⟩ (fun a oe cls d pn hz hf => pss_one (ps_ret (pe_tup (pa_cons pe_str (pa_cons (pe_xf M.xM M.nM hz hf (pv 1)) pa_nil))))) .nil))))))
    (pss_one (ps_ret pe_non)), ?_⟩
  · obtain ⟨Ech, hW, h1, h2, h3⟩ := h'
    exact (pss_one (ps_expr (act _ pn xe Ech _ _ (takes_lenP tk) fun cls d σ' H' e l => hW cls d σ' H' e l))).run pins s' σ H' D I ⟨h1, h2, h3⟩
  · refine ⟨_, ?_, rfl, hc, h⟩
    rintro cls dd σ' H' ⟨d, C, ff, tag, v, rfl, rfl, tg, hd, hq⟩ len
    have go : ∀ {a : Addr}, σ'.length = 2 → (σ'.set 1 (some (.ref a)))[1]? = some (some (V.ref a)) := fun l => List.getElem?_set_self (by omega)
    have s2 : 2 ≤ sizeLine := by decide
    rcases tg with ⟨rfl, rfl, rfl⟩ | ⟨rfl, rfl, rfl⟩ | ⟨rfl, rfl, rfl⟩ | ⟨rfl, rfl, rfl⟩ | ⟨rfl, rfl, rfl⟩
    · exact ⟨true, M.mJJ, fun _ a na => ⟨.ref a, go len, rfl, rfl, d, _, v, rfl, hd, rfl, s2, fun p np => hq p np⟩, fun z => nomatch z⟩
    · exact ⟨false, M.mNJ, (fun z => nomatch z), fun _ => ⟨true, M.mNN, fun _ a na => ⟨.ref a, go len, rfl, rfl, d, _, v, rfl, hd, rfl, s2, fun p np => hq p np⟩, fun z => nomatch z⟩⟩
    · exact ⟨false, M.mTJ, (fun z => nomatch z), fun _ => ⟨false, M.mTN, (fun z => nomatch z), fun _ => ⟨true, M.mTT, fun _ a na => ⟨.ref a, go len, rfl, rfl, d, _, v, rfl, hd, rfl, s2, fun p np => hq p np⟩, fun z => nomatch z⟩⟩⟩
    · exact ⟨false, M.mBJ, (fun z => nomatch z), fun _ => ⟨false, M.mBN, (fun z => nomatch z), fun _ => ⟨false, M.mBT, (fun z => nomatch z), fun _ => ⟨true, M.mBB, fun _ a na => ⟨.ref a, go len, rfl, rfl, d, _, v, rfl, hd, rfl, s2, fun p np => hq p np⟩, fun z => nomatch z⟩⟩⟩⟩
    · exact ⟨false, M.mMJ, (fun z => nomatch z), fun _ => ⟨false, M.mMN, (fun z => nomatch z), fun _ => ⟨false, M.mMT, (fun z => nomatch z), fun _ => ⟨false, M.mMB, (fun z => nomatch z), fun _ => ⟨true, M.mMM, fun _ a na => ⟨.ref a, go len, rfl, rfl, d, _, v, rfl, hd, rfl, s2, fun p np => hq p np⟩, fun z => nomatch z⟩⟩⟩⟩⟩
theorem pe_met5 {X : Cx} {T : List (Addr × Str)} {g c Pt CJ CN CT CB CM : Addr} {fd : FuncData} {k : Nat} {q : Str} {params : Arguments} {body : Expr} {scope : Scope} {t : XK → TE} {p lpos pos : Pos} (M : Met5 X.K X.mg CJ CN CT CB CM) (F : FnP X.K "_law_met" sMet5 g fd) (hm : X.mg "_law_met" = some (.ref g)) (hk : PySem.W.keepIn X.K (.ref g) = true)
    (TB : TabB X.base X.mg c Pt) (hcode : X.env.code = .ref c) (hq : X.env.qual ++ "<lambda>" = q) (hmT : (Pt, q) ∈ T) (hu : ∀ p ∈ T, p.1 = Pt → p.2 = q) (hr : Room (k + 2) X.A) (hg : Gl X "_law_met") (L : LamS X.env.scope scope) (hdef : defaultsOf params X.env = ([], []))
    (hbind : ∀ (q : Str) (cl : List (Str × Addr)) (pm cv ctv : Value), bindArgs (PySem.W.kla_fn "<lambda>" q params body scope cl pm cv ctv) ⟨[], []⟩ = pure [])
    (hbody : ∀ (A : Around) (outer : List Env) (s : Shared) (H : Hp) (E : XK) (f c' : Addr), Room k (A.deeper (lamEnv X scope s.heap.objs.size f c')) → PE (lamCx X A outer s H E scope f c') body (t E)) :
    PE X (.Call (.Name "_law_met" p) [.Lambda params body scope lpos] [] pos) (tLam T (TTm5 CJ CN CT CB CM) t) := by
  have hb := L2.FunD.bindsA (ps := ["_law_ask"]) F (fun _ _ _ _ _ _ us hl => match us, hl with | [_], _ => rfl)
  obtain ⟨oc, od, dV, kV, doc, pm, an, cdv, ct, osl, rfl, lk, hcd, hD, hK⟩ := F.ex
  have bd : L2.Binds X.K (PySem.W.fnOf "_law_met" "_law_met" (defArgs sMet5) (defBody sMet5) (defScope sMet5) dV kV doc pm an cdv ct) ["_law_ask"] [] := fun s us _ hl => by
    rw [List.append_nil] at hl ⊢
    exact hb s us hl
  subst hq
  exact pe_lamcall hg hm hk lk hcd bd scMet5 rfl (.inl rfl) (met_gives5 M) TB hcode hmT hu hr L hdef hbind hbody
/-! ### all but the pool and tables stands -/
def ExP (p : Addr) (H H' : Hp) : Prop := ∀ b o, b ≠ p → H b = some o → (∀ ps, o ≠ .tbl ps) → H' b = some o
theorem ExP.refl {p : Addr} {H : Hp} : ExP p H H := fun _ _ _ e _ => e
theorem ExP.trans {p : Addr} {H H1 H2 : Hp} (x : ExP p H H1) (y : ExP p H1 H2) : ExP p H H2 := fun b o h e n => y b o h (x b o h e n) n
theorem ExA.p {p : Addr} {H H' : Hp} (x : ExA p H H') : ExP p H H' := fun b o h e _ => x b o h e
theorem ExtN.p {p : Addr} {H H' : Hp} (x : ExtN H H') : ExP p H H' := fun b o _ e n => x b o e n
theorem Ex.p {p : Addr} {H H' : Hp} (x : Ex H H') : ExP p H H' := fun b o _ e _ => x b o e
theorem Pool.exN {H H' : Hp} {p : Addr} {n : Nat} (x : ExtN H H') (h : Pool H p n) : Pool H' p n := by
  obtain ⟨a, m, j, e, r⟩ := h
  exact ⟨a, m, j, x _ _ e (fun _ z => nomatch z), r⟩
theorem ExP.non {p b : Addr} {H H' : Hp} {n : Nat} {o : HO} (x : ExP p H H') (s : Pool H p n) (h : H b = some o) (no : ∀ xs, o ≠ .lst xs) (nt : ∀ ps, o ≠ .tbl ps) : H' b = some o := by
  obtain ⟨a, m, j, e, _⟩ := s
  exact x b o (fun z => by rw [z, e] at h; exact no _ (Option.some.inj h).symm) h nt
theorem ExP.lst {p b : Addr} {H H' : Hp} {xs : List V} (x : ExP p H H') (h : H b = some (.lst xs)) (n : b ≠ p) : H' b = some (.lst xs) := x b _ n h fun _ z => nomatch z
theorem ExP.tup {p b : Addr} {H H' : Hp} {n : Nat} {xs : List V} (x : ExP p H H') (s : Pool H p n) (h : H b = some (.tup xs)) : H' b = some (.tup xs) := x.non s h (fun _ z => nomatch z) fun _ z => nomatch z
theorem ExP.dk {p b : Addr} {H H' : Hp} {n : Nat} {xs : List (Key × V)} (x : ExP p H H') (s : Pool H p n) (h : H b = some (.dK xs)) : H' b = some (.dK xs) := x.non s h (fun _ z => nomatch z) fun _ z => nomatch z
theorem Tabs.exP {p : Addr} {H H' : Hp} {n : Nat} {T : List (Addr × Str)} (x : ExA p H H') (s : Pool H p n) (t : Tabs T H) : Tabs T H' := fun q hp => by
  obtain ⟨ps, h1, h2, h3⟩ := t q hp
  refine ⟨ps, x.nl s h1 (fun _ z => nomatch z), h2, fun pos cv hc => ?_⟩
  obtain ⟨c, e1, e2⟩ := h3 pos cv hc
  exact ⟨c, e1, x.nl s e2 (fun _ z => by unfold CodeO at z; cases z)⟩
/-- _law_met of a lambda that raises -/
theorem lamM {T : List (Addr × Str)} {CJ CN CT CB CM p C : Addr} {f tag : Str} {n m : Nat} {t : XK → TE} {σ : L2.St} {H : Hp} {Q : VK} {v : V} (S : Pool H p n) (hT : Tabs T H) (tg : Tag5 CJ CN CT CB CM C f tag) (ht : ∀ E H1 Q', ExtN H H1 → Tabs T H1 → (∀ H2, ExA p H1 H2 → Pool H2 p m → Rz E H2 C [(f, v)]) → t E σ H1 Q')
    (hQ : ∀ q H', ExP p H H' → Pool H' p m → Tabs T H' → NewP H q → H' q = some (.tup [.str tag, v]) → Q (.ref q) H') : tLam T (TTm5 CJ CN CT CB CM) t σ H Q := by
  refine ⟨hT, fun H1 x1 t1 => ht _ H1 _ x1 t1 fun H2 x2 S2 H3 dd x3 nd => ⟨dd, C, f, tag, v, rfl, rfl, tg, upd_same, fun q np => ?_⟩⟩
  have S1 := S.exN x1
  have y3 : Ex H2 (upd H3 dd (.xd [(f, v)])) := x3.trans (Ex.new nd)
  have x4 : Ex H2 (upd (upd H3 dd (.xd [(f, v)])) q (.tup [.str tag, v])) := y3.trans (Ex.new np)
  refine hQ q _ (ExP.trans (ExtN.p x1) (ExA.p (x2.trans x4.exA))) (S2.ex x4) (Tabs.exP (x2.trans x4.exA) S1 t1) (fun o e nt => ?_) upd_same
  have po := (S2.ex y3).off np
  rw [(x2.trans y3.exA) _ _ po (x1 _ _ e nt)] at np
  cases np
/-- things found so far, each the tuple (x, v) -/
structure FoP (p : Addr) (T : List (Addr × Str)) (H0 H : Hp) (fl : Addr) (its : List (Str × V)) : Prop where
  ex : ExP p H0 H
  new : NewP H0 fl
  off : fl ≠ p
  tabs : Tabs T H
  all : ∃ ps : List Addr, H fl = some (.lst (ps.map V.ref)) ∧ Paired (fun q (it : Str × V) => H q = some (.tup [.str it.1, it.2])) ps its
theorem FoP.first {p : Addr} {T : List (Addr × Str)} {H0 H : Hp} {fl q : Addr} {x : Str} {v : V} {n : Nat} (S : Pool H p n) (e : ExP p H0 H) (t : Tabs T H) (hp : H q = some (.tup [.str x, v])) (nf : H fl = none) : FoP p T H0 (upd H fl (.lst [.ref q])) fl [(x, v)] :=
  ⟨e.trans (Ex.p (Ex.new nf)), (fun o e2 nt => by rw [e _ _ (S.off nf) e2 nt] at nf; cases nf), S.off nf, (Ex.new nf).tabs t, [q], upd_same, .cons ((Ex.new nf) _ _ hp) .nil⟩
theorem FoP.lst {p : Addr} {T : List (Addr × Str)} {H0 H : Hp} {fl : Addr} {its : List (Str × V)} (F : FoP p T H0 H fl its) : ∃ xs, H fl = some (.lst xs) ∧ xs.length = its.length := by
  obtain ⟨ps, e, pr⟩ := F.all
  exact ⟨_, e, by rw [List.length_map]; exact Paired.length pr⟩
theorem FoP.app {p : Addr} {T : List (Addr × Str)} {H0 H H' : Hp} {fl q : Addr} {its : List (Str × V)} {x : Str} {v : V} {xs : List V} {n : Nat} (S : Pool H p n) (F : FoP p T H0 H fl its) (e : ExP p H H') (t : Tabs T H') (hp : H' q = some (.tup [.str x, v])) (hx : H' fl = some (.lst xs)) : FoP p T H0 (upd H' fl (.lst (xs ++ [.ref q]))) fl (its ++ [(x, v)]) := by
  obtain ⟨ps, hf, pr⟩ := F.all
  have ef := e.lst hf F.off
  rw [ef] at hx
  cases hx
  have off : ∀ {b ys}, H' b = some (.tup ys) → b ≠ fl := fun h z => by rw [z, ef] at h; cases h
  refine ⟨fun b o b1 eb nt => ?_, F.new, F.off, fun q hq => ?_, ps ++ [q], by rw [upd_same, List.map_append]; rfl, ?_⟩
  · exact (upd_ne fun (z : b = fl) => F.new o (by rw [← z]; exact eb) nt).trans (e _ _ b1 (F.ex _ _ b1 eb nt) nt)
  · obtain ⟨rs, h1, h2, h3⟩ := t q hq
    refine ⟨rs, (upd_ne fun z => by rw [z, ef] at h1; cases h1).trans h1, h2, fun pos cv hc => ?_⟩
    obtain ⟨c, e1, e2⟩ := h3 pos cv hc
    exact ⟨c, e1, (upd_ne fun z => by rw [z, ef] at e2; cases e2).trans e2⟩
  · exact paired_app (Paired.mapP pr fun b it z => (upd_ne (off (e.tup S z))).trans (e.tup S z)) ((upd_ne (off hp)).trans hp)
/-- a new instance whose __init__ raises -/
theorem pe_makeX {X : Cx} {k j : Nat} {f C : Addr} {fd : FuncData} {ps : List Str} {sp : Sp} {W : WX} {E : XK} {x : Str} {p pos : Pos} {e : Expr} {es : List Expr} {t : TA} (M : Mk X.K C f) (F : FnOk X.prog X.w X.K X.mg X.base (L2.CX X.prog X.w) k f fd ps sp) (hr : Room j X.A) (le : k + 1 ≤ j) (hg : Gl X x) (hm : X.mg x = some (.ref C)) (hb : Binds X.K fd ps []) (tk : Takes X W) (hW : ∀ cls d σ H, E cls d H → W cls d σ H)
    (ha : PA X (e :: es) t) (hdb : (x == ("__debug__" : Str)) = false := by decide) (he : starEach (e :: es) X.env = (false, eval e X.env) :: starEach es X.env := by rfl) (hpl : (backTo pos (starEach es X.env)).any (·.1) = false := by rfl) :
    PE X (.Call (.Name x p) (e :: es) [] pos) (tMake C sp [] E t) := pe_make M F (hr.mono le) hg hm hb .nil (passes_call tk hW) ha hdb he hpl
/-- what Thing(..) raises, from the heap ahead of it -/
theorem rz_make {E : XK} {H H1 : Hp} {x dx C0 C : Addr} {fs : List (Str × V)} (nx : H x = none) (ndx : H dx = none) (r : Rz E H C fs) (e : H1 = upd (upd H dx (.own x)) x (.ins C0 dx [])) : RzA E x H1 C fs := fun H2 dd y n => by
  subst e
  exact r H2 dd (fun b o eb => y b o (fun z => by rw [z, nx] at eb; cases eb) ((upd_ne fun z => by rw [z, nx] at eb; cases eb).trans ((upd_ne fun z => by rw [z, ndx] at eb; cases eb).trans eb))) n
theorem ex_make {H : Hp} {x dx C0 : Addr} (nx : H x = none) (ndx : H dx = none) : Ex H (upd (upd H dx (.own x)) x (.ins C0 dx [])) := fun b o eb => (upd_ne fun z => by rw [z, nx] at eb; cases eb).trans ((upd_ne fun z => by rw [z, ndx] at eb; cases eb).trans eb)
theorem ok_code {P : Program} {w : World} {K : PySem.W.Frag} {mg : Str → Option Value} {base : Heap} {x qual : Str} {params : Arguments} {body : List Stmt} {scope : Scope} {dvs : List V} {kws : List (Str × V)} {f c : Addr} {fd : FuncData} {CX : CXT} {N ps : List Str} {k : Nat} {sp : Sp}
    (F : FunD K x qual params body scope dvs kws f fd) (hcode : codeOf K f = some (.ref c)) (S : FnScope N ps scope) (len : ∀ vs H Q E, sp vs H Q E → vs.length = ps.length)
    (hbody : ∀ (A : Around) (outer : List Env) (s : Shared) (H : Hp) (vs : List V) (Q : VK) (E : XK), Room k (A.deeper (envOfC qual scope s.heap.objs.size f (.ref c))) → sp vs H Q E →
      ∃ t, PSs (cxOf CX P w K mg base N qual scope f (.ref c) A outer s H E) body t ∧ t { nx := fun _ H' => Q .non H', rt := Q } (L2.start N vs) H) : FnOk P w K mg base CX (k + 1) f fd ps sp := by
  obtain ⟨oc, od, dV, kV, doc, pm, an, cdv, ct, osl, rfl, lk, hcd, _, _⟩ := F.ex
  have ec : cdv = .ref c := by
    unfold codeOf at hcode
    rw [lk] at hcode
    exact Option.some.inj hcode
  subst ec
  exact fn_of lk hcd S len fun A outer s H vs Q E hr hsp => hbody A outer s H vs Q E hr hsp
end TH

/-! J20: _law_made -/
namespace TH
open PySem PySem.Spec PyProof.Rows L2 LamV LamX XK0
open C8 (pss_cut tCut)
open OD
def spMadeJ (C : Addr) : Sp := fun vs H Q _ => ∃ (p jd : Addr) (n : Nat) (js : List Jb), vs = [.ref p, .ref jd] ∧ Pool H p n ∧ n + 300 < 1000000 ∧ DJ H jd js ∧ GoodJ js ∧ js ≠ [] ∧ js.length ≤ 4 ∧
  ∀ (t : Addr) (H' : Hp) (js' : List Jb), ExA p H H' → Pool H' p (n + 300) → H t = none → IsJb (fun a => H a = none) H' C t js' → js'.Perm js → sortedS (js'.map Jb.name) = true → Q (.ref t) H'
/-- Jobs(..) of what is handed -/
theorem make_go {K : PySem.W.Frag} {C : Addr} {Q : VK} {H : Hp} {hd : Addr} {kvs : List (Key × V)} {js : List Jb} (hh : H hd = some (.dK kvs)) (pj : Paired (HandJ K H) js kvs) (fit : FitJ js)
    (hQ : ∀ (t : Addr) (H' : Hp) (js' : List Jb), Ex H H' → H t = none → IsJb (fun a => H a = none) H' C t js' → js'.Perm js → sortedS (js'.map Jb.name) = true → Q (.ref t) H') :
    ∀ x dx, H x = none → H dx = none → dx ≠ x → spJInit K C (.ref x :: ([.ref hd] ++ [])) (upd (upd H dx (.own x)) x (.ins C dx [])) (fun v H2 => v = .non ∧ Q (.ref x) H2) E0 := fun x dx nx ndx ne => by
  have x1 : Ex H (upd (upd H dx (.own x)) x (.ins C dx [])) := ex_make nx ndx
  refine ⟨x, dx, hd, js, kvs, rfl, upd_same, x1 _ _ hh, Paired.mapP pj fun _ _ z => z.ex x1, fit, fun H' js' xa ij pm so => ⟨rfl, ?_⟩⟩
  refine hQ x H' js' (fun b o e => xa _ _ (fun z => by rw [z, nx] at e; cases e) (x1 _ _ e)) nx (ij.keep (fun a n => x1.none n) fun b o _ e => e) pm so
section
variable {P : Program} {w : World} {K : PySem.W.Frag} {mg : Str → Option Value} {base : Heap} {f C fI : Addr} {fd fdI : FuncData}
theorem scMadeJ : FnScope ["_law_pool_here", "_law_jobs_here", "_law_job"] ["_law_pool_here", "_law_jobs_here"] (defScope sMadeJ) := ⟨rfl, rfl, rfl, by decide +kernel, rfl, by decide +kernel, by decide +kernel⟩
theorem ok_madeJ (F : FnP K "_law_made" sMadeJ f fd) (M : Mk K C fI) (gT : mg "Jobs" = some (.ref C)) (bI : Binds K fdI ["self", "jobs"] []) (FI : FnOk P w K mg base CX0 9 fI fdI ["self", "jobs"] (spJInit K C)) (FM : Has P w K mg base "_law_mixed" 2 ["_law_pool_here", "_law_things"] spMixed) (FH : Has P w K mg base "_law_handed" 9 ["_law_pool_here", "_law_thing"] (spHanded K 7)) (gs : mg "sorted" = none) (gd : mg "dict" = none) : FnOk P w K mg base CX0 11 f fd ["_law_pool_here", "_law_jobs_here"] (spMadeJ C) := by
  refine F.ok scMadeJ (fun vs H Q E h => ?_) (fun cdv A outer s H vs Q E hr h => ?_)
  · obtain ⟨p, jd, n, js, rfl, _⟩ := h
    rfl
  · have hu := hu_of hr
    refine ⟨_, PSs.nox (pss_one (ps_ret (pe_make M FI hr rfl gT bI .nil pass0 (pa_cons (pe_callTy (call_dictPK rfl) rfl gd boot_dict (pa_cons (pe_lc (te := tTup (tCons (tVar 2) (tCons (tCall (spHanded K 7) [] E0 (tCons (tVar 0) (tCons (tDGet (tVar 1) (tVar 2)) tNil))) tNil))) (own := [("_law_job", 2)]) rfl scMadeJ.nd (pi_list (pe_has FM hr (by decide) rfl (pa_cons (pv 0) (pa_cons (pe_callB (call_sd rfl) rfl gs boot_sorted (pa_cons (pv 1) pa_nil)) pa_nil)))) (blkOk_by (by kernel_rfl)) (fun s H C cl fp => pg_name (i := 2) scMadeJ.nd rfl (.inl rfl) (.inr rfl)) (fun s H C cl fp => pts_nil)
      (fun s H C cl fp => pe_tup (pa_cons (pv 2) (pa_cons (pe_has FH hr (by decide) rfl (pa_cons (pv 0) (pa_cons (pe_dget hu (pv 1) (pv 2) (fun _ _ => rfl)) pa_nil))) pa_nil)))) pa_nil)) pa_nil)))), ?_⟩
    obtain ⟨p, jd, n, js, rfl, S, hn, dj, g, ne, l4, hQ⟩ := h
    refine handed_go (K := K) (ip := 0) (ij := 1) (iv := 2) (σ := [some (.ref p), some (.ref jd), none]) (by show 2 < 3; decide) (by decide) (by decide) rfl rfl S (by omega) dj g l4 fun hd js' kvs H1 pm x1 S1 nhd hh pj => ?_
    refine make_go hh pj ((g.fit ne l4).perm pm) fun t H2 js2 x2 nt ij pm2 so => ?_
    exact hQ t H2 js2 (x1.trans x2.exA) ((S1.ex x2).mono (by omega)) (x1.none S1 nt) (ij.keep (fun a n => x1.none S1 n) fun b o _ e => e) (pm2.trans pm) so
end
end TH

/-! J21: written data that the pool does not touch; what is no job -/
namespace TH
open PySem PySem.Spec PyProof.Rows L2 LamV LamX XK0
open C8 (pss_cut tCut)
open OD
/-- no list of the pool's -/
def Off (p : Addr) (v : V) : Prop := ∀ a, v = .ref a → a ≠ p
theorem kd_p {K : PySem.W.Frag} {p : Addr} {H H' : Hp} {n : Nat} {v : V} {T : String} (x : ExP p H H') (o : Off p v) (h : Kd K H v T) : Kd K H' v T := by
  obtain ⟨h1, h2, h3⟩ := h
  refine ⟨h1, ?_, h3⟩
  have st : ∀ {a : Addr} {u : HO}, v = .ref a → H a = some u → (∀ ps, u ≠ .tbl ps) → H' a = some u := fun e1 e2 nt => x _ _ (o _ e1) e2 nt
  cases h2 with
  | base h =>
    cases h with
    | non => exact .base .non
    | bl b => exact .base (.bl b)
    | int i => exact .base (.int i)
    | str z => exact .base (.str z)
    | flt z => exact .base (.flt z)
    | lst e => exact .base (.lst (st rfl e fun _ z => nomatch z))
    | frz e => exact .base (.frz (st rfl e fun _ z => nomatch z))
    | tup e => exact .base (.tup (st rfl e fun _ z => nomatch z))
    | dK e => exact .base (.dK (st rfl e fun _ z => nomatch z))
    | dT e => exact .base (.dT (st rfl e fun _ z => nomatch z))
  | byt b => exact .byt b
  | set e => exact .set (st rfl e fun _ z => nomatch z)
  | kList e c => exact .kList e c
  | kTuple e c => exact .kTuple e c
  | kDict e c => exact .kDict e c
  | fTuple e => exact .fTuple (st rfl e fun _ z => nomatch z)
  | fDict e => exact .fDict (st rfl e fun _ z => nomatch z)
/-- a value of a kind, that can be compared with itself -/
structure Od (K : PySem.W.Frag) (p : Addr) (H : Hp) (v : V) (T : String) : Prop where
  kd : Kd K H v T
  off : Off p v
  sf : flatB v = true ∨ ∃ a, v = .ref a
theorem Od.p {K : PySem.W.Frag} {p : Addr} {H H' : Hp} {v : V} {T : String} (x : ExP p H H') (h : Od K p H v T) : Od K p H' v T := ⟨kd_p (n := 0) x h.off h.kd, h.off, h.sf⟩
theorem Od.non {K : PySem.W.Frag} {p : Addr} {H : Hp} : Od K p H .non "NoneType" := ⟨⟨by decide, .base .non, fun x z => nomatch z⟩, (fun a z => nomatch z), .inl rfl⟩
theorem Od.int {K : PySem.W.Frag} {p : Addr} {H : Hp} (i : Int) : Od K p H (.int i) "int" := ⟨⟨by decide, .base (.int i), fun x z => nomatch z⟩, (fun a z => nomatch z), .inl rfl⟩
theorem Od.bl {K : PySem.W.Frag} {p : Addr} {H : Hp} (b : Bool) : Od K p H (.bl b) "bool" := ⟨⟨by decide, .base (.bl b), fun x z => nomatch z⟩, (fun a z => nomatch z), .inl rfl⟩
theorem Od.str {K : PySem.W.Frag} {p : Addr} {H : Hp} {x : Str} (h : x.length ≤ 1000) : Od K p H (.str x) "str" := ⟨str_kd h, (fun a z => nomatch z), .inl rfl⟩
theorem Od.lst {K : PySem.W.Frag} {p a : Addr} {H : Hp} {xs : List V} (h : H a = some (.lst xs)) (n : a ≠ p) : Od K p H (.ref a) "list" := ⟨sqL_kd (.inl (.inl h)), (fun b z => by cases z; exact n), .inr ⟨a, rfl⟩⟩
theorem Od.dct {K : PySem.W.Frag} {p a : Addr} {H : Hp} {n : Nat} {xs : List (Key × V)} (S : Pool H p n) (h : H a = some (.dK xs)) : Od K p H (.ref a) "dict" := ⟨⟨by decide, .base (.dK h), fun x z => nomatch z⟩, (fun b z => by cases z; obtain ⟨_, _, _, e, _⟩ := S; exact fun q => by rw [q, e] at h; cases h), .inr ⟨a, rfl⟩⟩
/-! ### data, its lists not the pool -/
mutual
inductive DpP (p : Addr) (H : Hp) : V → PyData → Prop
  | non : DpP p H .non .none
  | bl (b : Bool) : DpP p H (.bl b) (.bool b)
  | int (i : Int) : DpP p H (.int i) (.int i)
  | str (x : Str) : DpP p H (.str x) (.str x)
  | lst {a : Addr} {xs : List V} {ds : List PyData} : a ≠ p → H a = some (.lst xs) → DpPs p H xs ds → DpP p H (.ref a) (.list ds)
  | tup {a : Addr} {xs : List V} {ds : List PyData} : H a = some (.tup xs) → DpPs p H xs ds → DpP p H (.ref a) (.tuple ds)
inductive DpPs (p : Addr) (H : Hp) : List V → List PyData → Prop
  | nil : DpPs p H [] []
  | cons {v : V} {vs : List V} {d : PyData} {ds : List PyData} : DpP p H v d → DpPs p H vs ds → DpPs p H (v :: vs) (d :: ds)
end
mutual
theorem DpP.keep {p : Addr} {H H' : Hp} (l : ∀ a xs, a ≠ p → H a = some (.lst xs) → H' a = some (.lst xs)) (k : KeepT H H') : ∀ (d : PyData) (v : V), DpP p H v d → DpP p H' v d
  | .none, _, h => by cases h; exact .non
  | .bool b, _, h => by cases h; exact .bl b
  | .int i, _, h => by cases h; exact .int i
  | .str s, _, h => by cases h; exact .str s
  | .list ds, _, h => by
    cases h with
    | lst n h r => exact .lst n (l _ _ n h) (DpPs.keep l k ds _ r)
  | .tuple ds, _, h => by
    cases h with
    | tup h r => exact .tup (k _ _ h) (DpPs.keep l k ds _ r)
  | .dict _, _, h => by cases h
theorem DpPs.keep {p : Addr} {H H' : Hp} (l : ∀ a xs, a ≠ p → H a = some (.lst xs) → H' a = some (.lst xs)) (k : KeepT H H') : ∀ (ds : List PyData) (vs : List V), DpPs p H vs ds → DpPs p H' vs ds
  | [], _, h => by cases h; exact .nil
  | d :: r, _, h => by
    cases h with
    | cons a b => exact .cons (DpP.keep l k d _ a) (DpPs.keep l k r _ b)
end
mutual
theorem DpP.dp {K : PySem.W.Frag} {p : Addr} {H : Hp} : ∀ (d : PyData) (v : V), DpP p H v d → Dp K H v d
  | .none, _, h => by cases h; exact .non
  | .bool b, _, h => by cases h; exact .bl b
  | .int i, _, h => by cases h; exact .int i
  | .str s, _, h => by cases h; exact .str s
  | .list ds, _, h => by
    cases h with
    | lst n h r => exact .lst (.inl (.inl h)) (DpPs.dp ds _ r)
  | .tuple ds, _, h => by
    cases h with
    | tup h r => exact .tup (.inl (.inl h)) (DpPs.dp ds _ r)
  | .dict _, _, h => by cases h
theorem DpPs.dp {K : PySem.W.Frag} {p : Addr} {H : Hp} : ∀ (ds : List PyData) (vs : List V), DpPs p H vs ds → DpAll K H vs ds
  | [], _, h => by cases h; exact .nil
  | d :: r, _, h => by
    cases h with
    | cons a b => exact .cons (DpP.dp d _ a) (DpPs.dp r _ b)
end
theorem DpP.ex {p : Addr} {H H' : Hp} {v : V} {d : PyData} (x : Ex H H') (h : DpP p H v d) : DpP p H' v d := DpP.keep (fun _ _ _ e => x _ _ e) x.kt d v h
theorem ExP.kt {p : Addr} {H H' : Hp} {n : Nat} (x : ExP p H H') (S : Pool H p n) : KeepT H H' := fun _ _ e => x.tup S e
theorem ExA.kt {p : Addr} {H H' : Hp} {n : Nat} (x : ExA p H H') (S : Pool H p n) : KeepT H H' := fun _ _ e => x.nl S e fun _ z => nomatch z
theorem DpP.p {p : Addr} {H H' : Hp} {n : Nat} {v : V} {d : PyData} (x : ExP p H H') (S : Pool H p n) (h : DpP p H v d) : DpP p H' v d := DpP.keep (fun _ _ na e => x.lst e na) (x.kt S) d v h
theorem DpPs.len {p : Addr} {H : Hp} : ∀ {vs : List V} {ds : List PyData}, DpPs p H vs ds → vs.length = ds.length
  | _, _, .nil => rfl
  | _, _, .cons _ t => by rw [List.length_cons, List.length_cons, DpPs.len t]
theorem can_dpP {p : Addr} {H : Hp} : ∀ {b : Bd} {xs : List V}, CanB H b xs → DpPs p H xs (bdL b)
  | .nil, _, h => by cases h; exact .nil
  | .unit n r, _, ⟨t, e, h⟩ => by subst e; exact .cons (.int _) (can_dpP h)
  | .lock w b r, _, ⟨q, q2, ys, t, e, h1, h2, h3, h4⟩ => by
    subst e
    exact .cons (.tup h1 (.cons (.str w) (.cons (.tup h2 (can_dpP h3)) .nil))) (can_dpP h4)
/-! ### written values -/
/-- from H0 on, te gives what P tells -/
def ValE (σ : L2.St) (H0 : Hp) (te : TE) (P : Hp → V → Prop) : Prop := ∀ H Q, Ex H0 H → (∀ v H', Ex H H' → P H' v → Q v H') → te σ H Q
abbrev LitE (p : Addr) (σ : L2.St) (H0 : Hp) (te : TE) (d : PyData) : Prop := ValE σ H0 te fun H v => DpP p H v d
def LitA (p : Addr) (σ : L2.St) (H0 : Hp) (ta : TA) (ds : List PyData) : Prop := ∀ H Q, Ex H0 H → (∀ vs H', Ex H H' → DpPs p H' vs ds → Q vs H') → ta σ H Q
def ValA (σ : L2.St) (H0 : Hp) (ta : TA) (P : Hp → V → Prop) (n : Nat) : Prop := ∀ H Q, Ex H0 H → (∀ vs H', Ex H H' → (∀ v ∈ vs, P H' v) → vs.length = n → Q vs H') → ta σ H Q
section
variable {p : Addr} {σ : L2.St} {H0 : Hp} {te : TE} {ta : TA} {d : PyData} {ds : List PyData} {P : Hp → V → Prop} {n : Nat}
theorem lit_int (i : Int) : LitE p σ H0 (tC (.int i)) (.int i) := fun H Q x h => h _ H Ex.refl (.int i)
theorem lit_str (z : Str) : LitE p σ H0 (tC (.str z)) (.str z) := fun H Q x h => h _ H Ex.refl (.str z)
theorem lit_non : LitE p σ H0 (tC .non) .none := fun H Q x h => h _ H Ex.refl .non
theorem lit_bl (b : Bool) : LitE p σ H0 (tC (.bl b)) (.bool b) := fun H Q x h => h _ H Ex.refl (.bl b)
theorem lit_var {i : Nat} {v : V} (e : σ[i]? = some (some v)) (h : DpP p H0 v d) : LitE p σ H0 (tVar i) d := fun H Q x k => ⟨v, e, k v H Ex.refl (h.ex x)⟩
theorem litA_nil : LitA p σ H0 tNil [] := fun H Q x h => h [] H Ex.refl .nil
theorem litA_cons (a : LitE p σ H0 te d) (b : LitA p σ H0 ta ds) : LitA p σ H0 (tCons te ta) (d :: ds) := fun H Q x h => a H _ x fun v H1 x1 hv => b H1 _ (x.trans x1) fun vs H2 x2 hvs => h (v :: vs) H2 (x1.trans x2) (.cons (hv.ex x2) hvs)
theorem lit_tup (l : ds.length ≤ 1000) (a : LitA p σ H0 ta ds) : LitE p σ H0 (tTup ta) (.tuple ds) := fun H Q x h => a H _ x fun vs H1 x1 hvs => ⟨by rw [hvs.len, sizeLine_eq]; omega, fun q nq => by
  have xq := Ex.new (o := .tup vs) nq
  exact h (.ref q) _ (x1.trans xq) (.tup upd_same (DpPs.keep (fun _ _ _ e => xq _ _ e) xq.kt _ _ hvs))⟩
theorem lit_lst (S : H0 p ≠ none) (l : ds.length ≤ 1000) (a : LitA p σ H0 ta ds) : LitE p σ H0 (tLst ta) (.list ds) := fun H Q x h => a H _ x fun vs H1 x1 hvs => ⟨by rw [hvs.len, sizeLine_eq]; omega, fun q nq => by
  have xq := Ex.new (o := .lst vs) nq
  have qp : q ≠ p := fun z => S ((x.trans x1).none (z ▸ nq))
  exact h (.ref q) _ (x1.trans xq) (.lst qp upd_same (DpPs.keep (fun _ _ _ e => xq _ _ e) xq.kt _ _ hvs))⟩
theorem valE_of {P' : Hp → V → Prop} (a : ValE σ H0 te P) (h : ∀ H v, P H v → P' H v) : ValE σ H0 te P' := fun H Q x k => a H Q x fun v H' x' hv => k v H' x' (h _ _ hv)
theorem valA_nil : ValA σ H0 tNil P 0 := fun H Q x h => h [] H Ex.refl (fun _ z => by cases z) rfl
theorem valA_cons (st : ∀ H H' v, Ex H H' → P H v → P H' v) (a : ValE σ H0 te P) (b : ValA σ H0 ta P n) : ValA σ H0 (tCons te ta) P (n + 1) := fun H Q x h => a H _ x fun v H1 x1 hv => b H1 _ (x.trans x1) fun vs H2 x2 hvs l => h (v :: vs) H2 (x1.trans x2) (fun y my => by
  rcases List.mem_cons.mp my with rfl | my
  · exact st _ _ _ x2 hv
  · exact hvs y my) (by rw [List.length_cons, l])
/-- a list of such -/
theorem lst_val (st : ∀ H H' v, Ex H H' → P H v → P H' v) (l : n ≤ 1000) (a : ValA σ H0 ta P n) {H : Hp} {Q : VK} (x : Ex H0 H) (h : ∀ q vs H', Ex H H' → H q = none → H' q = some (.lst vs) → (∀ v ∈ vs, P H' v) → vs.length = n → Q (.ref q) H') : tLst ta σ H Q := a H _ x fun vs H1 x1 hvs len => ⟨by rw [len, sizeLine_eq]; omega, fun q nq => by
  have xq := Ex.new (o := .lst vs) nq
  exact h q vs _ (x1.trans xq) (x1.none nq) upd_same (fun v mv => st _ _ _ xq (hvs v mv)) len⟩
end
/-! ### what is no job -/
def OddV (K : PySem.W.Frag) (p : Addr) (ps : List Int) (H : Hp) (v : V) : Prop := (∃ T, Od K p H v T ∧ isLt T = false) ∨ ∃ d, DpP p H v d ∧ shD d = true ∧ jobB 4 ps d = some false
theorem OddV.ex {K : PySem.W.Frag} {p : Addr} {ps : List Int} (H H' : Hp) (v : V) (x : Ex H H') (h : OddV K p ps H v) : OddV K p ps H' v := by
  rcases h with ⟨T, o, l⟩ | ⟨d, h, r⟩
  · exact .inl ⟨T, ⟨o.kd.ex x, o.off, o.sf⟩, l⟩
  · exact .inr ⟨d, h.ex x, r⟩
theorem OddV.p {K : PySem.W.Frag} {p : Addr} {ps : List Int} {H H' : Hp} {v : V} {n : Nat} (x : ExP p H H') (S : Pool H p n) (h : OddV K p ps H v) : OddV K p ps H' v := by
  rcases h with ⟨T, o, l⟩ | ⟨d, h, r⟩
  · exact .inl ⟨T, o.p x, l⟩
  · exact .inr ⟨d, h.p x S, r⟩
theorem odd_of {K : PySem.W.Frag} {p : Addr} {ps : List Int} {σ : L2.St} {H0 : Hp} {te : TE} {d : PyData} (a : LitE p σ H0 te d) (s : shD d = true) (j : jobB 4 ps d = some false) : ValE σ H0 te (OddV K p ps) := valE_of a fun H v h => .inr ⟨d, h, s, j⟩
theorem job9 {ps : List Int} {X : PyData} (h : jb 4 X [] = some false) : jobB 4 ps (.tuple [.int 900, .int 5, X]) = some false := by
  rw [jobB_in (i := 900) (b := .int 5) (c := X) rfl (by decide) (by decide)]
  split
  · rfl
  · exact h
theorem odd_flat {K : PySem.W.Frag} {p : Addr} {ps : List Int} {σ : L2.St} {H0 : Hp} {te : TE} {v : V} {T : String} (a : ∀ H Q, Q v H → te σ H Q) (o : ∀ H, Od K p H v T) (l : isLt T = false) : ValE σ H0 te (OddV K p ps) := fun H Q x h => a H Q (h v H Ex.refl (.inl ⟨T, o H, l⟩))
theorem odd_dict {K : PySem.W.Frag} {p : Addr} {ps : List Int} {σ : L2.St} {H0 : Hp} (S : H0 p ≠ none) : ValE σ H0 tDNewK (OddV K p ps) := fun H Q x h => fun a na => h (.ref a) _ (Ex.new na) (.inl ⟨"dict", ⟨⟨by decide, .base (.dK upd_same), fun x z => nomatch z⟩, (fun b e => by cases e; exact fun z => S (x.none (z ▸ na))), .inr ⟨a, rfl⟩⟩, rfl⟩)
end TH

/-! J22: _law_bad_jobs (printed by gen_j22.py) -/
namespace TH
open PySem PySem.Spec PyProof.Rows L2 LamV LamX XK0
open C8 (pss_cut tCut)
open OD
abbrev sBadJobs : Stmt := top 45
theorem sh_bdL : ∀ b : Bd, (∀ w ∈ b.things, w.length ≤ 1000) → shA (bdL b) = true
  | .nil, _ => rfl
  | .unit n r, h => by
    show (shD (.int n) && shA (bdL r)) = true
    rw [sh_bdL r h]
    rfl
  | .lock w c r, h => by
    show ((decide (w.length ≤ 1000) && (shA (bdL c) && true)) && shA (bdL r)) = true
    rw [sh_bdL r fun x m => h x (List.mem_cons_of_mem _ (List.mem_append_right _ m)), sh_bdL c fun x m => h x (List.mem_cons_of_mem _ (List.mem_append_left _ m)), decide_eq_true (h w List.mem_cons_self)]
    rfl
/-- a right key -/
def KeyO (k : NestedKey) (v : V) : Prop := (k = .none ∧ v = .non) ∨ (∃ i, k = .num i ∧ v = .int i) ∨ ∃ x, k = .text x ∧ v = .str x ∧ x.length ≤ 1000
theorem KeyO.nk {H : Hp} {k : NestedKey} {v : V} (h : KeyO k v) : NKey H k v := by
  rcases h with ⟨rfl, rfl⟩ | ⟨i, rfl, rfl⟩ | ⟨x, rfl, rfl, _⟩
  · exact .non
  · exact .int i
  · exact .str x
theorem KeyO.kd {K : PySem.W.Frag} {H : Hp} {k : NestedKey} {v : V} (h : KeyO k v) : ∃ T, Kd K H v T := by
  rcases h with ⟨rfl, rfl⟩ | ⟨i, rfl, rfl⟩ | ⟨x, rfl, rfl, l⟩
  · exact ⟨"NoneType", by decide, .base .non, fun x z => nomatch z⟩
  · exact ⟨_, int_kd⟩
  · exact ⟨_, str_kd l⟩
/-- the rows up to the first that is no job; the pool's list is not among them -/
structure BadP (K : PySem.W.Frag) (p : Addr) (H : Hp) (rows : List MRow) (js : List Jb) (key v : V) : Prop where
  nk : ∀ r ∈ rows, KeyO r.1 r.2.1
  nd : (rows.map (·.1)).Nodup
  l100 : rows.length ≤ 100
  pre : Paired (fun (j : Jb) (r : MRow) => r.2.1 = .str j.name ∧ DpP p H r.2.2 (jobD j)) js (rows.take js.length)
  at_ : ∃ kk, rows[js.length]? = some (kk, key, v)
  bad : isWd key = false ∨ isWd key = true ∧ OddV K p (js.map fun j => (j.pr : Int)) H v
theorem BadP.p {K : PySem.W.Frag} {p : Addr} {H H' : Hp} {rows : List MRow} {js : List Jb} {key v : V} {n : Nat} (x : ExP p H H') (S : Pool H p n) (h : BadP K p H rows js key v) : BadP K p H' rows js key v :=
  ⟨h.nk, h.nd, h.l100, Paired.mapP h.pre fun _ _ z => ⟨z.1, z.2.p x S⟩, h.at_, h.bad.imp id fun z => ⟨z.1, z.2.p x S⟩⟩
theorem like_jobD {j : Jb} (g : GoodB 2 tsN j.bd) : LikeJ j (jobD j) := by
  have like : ∀ b : Bd, Like b (bdL b) := fun b => by
    induction b with
    | nil => rfl
    | unit n r ih => exact ⟨_, rfl, ih⟩
    | lock w c r ih1 ih2 => exact ⟨_, _, _, _, rfl, rfl, rfl, ih1, ih2⟩
  refine ⟨?_, _, _, rfl, rfl, like j.bd⟩
  show (true && (true && (shA (bdL j.bd) && true))) = true
  rw [sh_bdL j.bd fun x m => tsN_len x (g.tm x m)]
  rfl
theorem BadP.badR {K : PySem.W.Frag} {p : Addr} {H : Hp} {rows : List MRow} {js : List Jb} {key v : V} (h : BadP K p H rows js key v) (fit : FitJ js) : BadR K H rows js key v := by
  refine ⟨fun r m => (h.nk r m).nk, h.nd, h.l100, ?_, h.at_, ?_⟩
  · have go : ∀ {js : List Jb} {rs : List MRow}, (∀ j ∈ js, GoodB 2 tsN j.bd) → Paired (fun (j : Jb) (r : MRow) => r.2.1 = .str j.name ∧ DpP p H r.2.2 (jobD j)) js rs → Paired (fun (j : Jb) (r : MRow) => r.2.1 = .str j.name ∧ ∃ d, Dp K H r.2.2 d ∧ LikeJ j d) js rs := fun {js rs} g q => by
      induction q with
      | nil => exact .nil
      | cons a _ ih => exact .cons ⟨a.1, _, DpP.dp _ _ a.2, like_jobD (g _ List.mem_cons_self)⟩ (ih fun j m => g j (List.mem_cons_of_mem _ m))
    exact go fit.gb h.pre
  · obtain ⟨kk, e⟩ := h.at_
    exact (h.nk _ (List.mem_of_getElem? e)).kd
theorem odd_bad {K : PySem.W.Frag} {p : Addr} {H : Hp} {ps : List Int} {v : V} (h : OddV K p ps H v) : (∃ T, Kd K H v T ∧ isLt T = false) ∨ ∃ d, Dp K H v d ∧ shD d = true ∧ jobB 4 ps d = some false := by
  rcases h with ⟨T, o, l⟩ | ⟨d, h, r⟩
  · exact .inl ⟨T, o.kd, l⟩
  · exact .inr ⟨d, DpP.dp _ _ h, r⟩
def spBadJobs (K : PySem.W.Frag) (w : World) : Sp := fun vs H Q _ => ∃ (p jd : Addr) (n : Nat) (js : List Jb), vs = [.ref p, .ref jd] ∧ Pool H p n ∧ n + 100 < 1000000 ∧ DJ H jd js ∧ GoodJ js ∧ js ≠ [] ∧ js.length ≤ 4 ∧
  ∀ (t a : Addr) (od : Obj) (rows : List MRow) (js' : List Jb) (key v : V) (H' : Hp), ExA p H H' → Pool H' p (n + 100) → H' t = some (.tup [.ref a, key]) → H' a = some (.frz od (DO w a rows)) → js'.Perm js → BadP K p H' rows js' key v → Q (.ref t) H'
theorem jobB_perm {n : Nat} {ps qs : List Int} {d : PyData} (p : ps.Perm qs) : jobB n ps d = jobB n qs d := by
  have e : ∀ i : Int, (i ∈ ps) = (i ∈ qs) := fun i => propext p.mem_iff
  unfold jobB
  simp only [e]
/-- a key and its value that are none -/
def FiveP (K : PySem.W.Frag) (p : Addr) (ps : List Int) (gv ov : V) (k v : V) : Prop := (k = .str "wrong" ∧ v = ov) ∨ (k = .int 5 ∧ v = gv) ∨ (k = .str "Wrong" ∧ v = gv) ∨ (k = .non ∧ v = .non)
def PairV (F : V → V → Prop) (H : Hp) (v : V) : Prop := ∃ t k w, v = .ref t ∧ H t = some (.tup [k, w]) ∧ F k w
theorem PairV.ex {F : V → V → Prop} (H H' : Hp) (v : V) (x : Ex H H') (h : PairV F H v) : PairV F H' v := by
  obtain ⟨t, k, w, e, ht, f⟩ := h
  exact ⟨t, k, w, e, x _ _ ht, f⟩
theorem pair_e {F : V → V → Prop} {σ : L2.St} {H0 : Hp} {te : TE} {a w : V} (h : ∀ H Q, Q w H → te σ H Q) (f : F a w) : ValE σ H0 (tTup (tCons (tC a) (tCons te tNil))) (PairV F) := fun H Q x k => h H _ ⟨by show 2 ≤ sizeLine; decide, fun t nt => k (.ref t) _ (Ex.new nt) ⟨t, a, w, rfl, upd_same, f⟩⟩
theorem wjN_wrong : ("wrong" : Str) ∉ wjN ∧ ("worse" : Str) ∉ wjN ∧ ("Wrong" : Str) ∉ wjN := by decide +kernel
theorem wd_wrong : isWd (.str "wrong") = true ∧ isWd (.str "Wrong") = false := by decide +kernel
theorem nd_rows {zs : List Str} {rws : List MRow} {kk : NestedKey} {key v : V} (nd : zs.Nodup) (hk : rws.map (·.1) = zs.map NestedKey.text) (n1 : ∀ x ∈ zs, kk ≠ .text x) (n2 : ("worse" : Str) ∉ zs) (n3 : kk ≠ .text "worse") : ((rws ++ [(kk, key, v), (NestedKey.text "worse", V.str "worse", V.non)]).map (·.1)).Nodup := by
  rw [List.map_append, hk]
  refine List.nodup_append.mpr ⟨List.pairwise_map.mpr (List.Pairwise.imp (fun z q => z (NestedKey.text.inj q)) nd), ?_, fun a ma b mb e => ?_⟩
  · show [kk, NestedKey.text "worse"].Nodup
    refine List.nodup_cons.mpr ⟨fun z => n3 (List.mem_singleton.mp z), List.nodup_cons.mpr ⟨(fun z => by cases z), .nil⟩⟩
  · obtain ⟨x, mx, rfl⟩ := List.mem_map.mp ma
    have mb : b ∈ [kk, NestedKey.text "worse"] := mb
    rcases List.mem_cons.mp mb with rfl | mb
    · exact n1 x mx e.symm
    · have e2 : NestedKey.text x = NestedKey.text "worse" := e.trans (List.mem_singleton.mp mb)
      exact n2 (NestedKey.text.inj e2 ▸ mx)
theorem pre_of {p : Addr} {H H' : Hp} {js : List Jb} (x : Ex H H') (nd : (js.map Jb.name).Nodup) : ∀ {zs : List Str} {rws : List MRow}, (∀ x ∈ zs, x ∈ js.map Jb.name) → Paired (fun x (r : MRow) => r.1 = .text x ∧ r.2.1 = .str x ∧ DpP p H r.2.2 (jobD (jbOf js x))) zs rws → Paired (fun (j : Jb) (r : MRow) => r.2.1 = .str j.name ∧ DpP p H' r.2.2 (jobD j)) (zs.map (jbOf js)) rws
  | _, _, _, .nil => .nil
  | _, _, s, .cons a t => .cons ⟨by rw [(jbOf_of nd (s _ List.mem_cons_self)).2]; exact a.2.1, a.2.2.ex x⟩ (pre_of x nd (fun y m => s y (List.mem_cons_of_mem _ m)) t)
/-- rows of jobs with their keys -/
theorem rows_names {R : Str → MRow → Prop} {zs : List Str} {rws : List MRow} (p : Paired R zs rws) (h : ∀ x r, R x r → r.1 = NestedKey.text x) : rws.map (·.1) = zs.map NestedKey.text := by
  induction p with
  | nil => rfl
  | cons a _ ih => rw [List.map_cons, List.map_cons, ih, h _ _ a]
section
variable {P : Program} {w : World} {K : PySem.W.Frag} {mg : Str → Option Value} {base : Heap} {f : Addr} {fd : FuncData}
theorem scBadJobs : FnScope ["_law_pool_here", "_law_jobs_here", "_law_word", "_law_priority", "_law_distance", "_law_body_here", "_law_odds", "_law_good", "_law_odd", "_law_key", "_law_rows", "_law_job"] ["_law_pool_here", "_law_jobs_here"] (defScope sBadJobs) := ⟨rfl, rfl, rfl, by decide +kernel, rfl, by decide +kernel, by decide +kernel⟩
theorem ok_bad_jobs (F : FnP K "_law_bad_jobs" sBadJobs f fd) (FO : Has P w K mg base "_law_one" 2 ["_law_pool_here", "_law_things"] spOneP) (FM : Has P w K mg base "_law_mixed" 2 ["_law_pool_here", "_law_things"] spMixed) (gs : mg "sorted" = none) (gd : mg "dict" = none) : FnOk P w K mg base CX0 3 f fd ["_law_pool_here", "_law_jobs_here"] (spBadJobs K w) := by
  refine F.ok scBadJobs (fun vs H Q E h => ?_) (fun cdv A outer s H vs Q E hr h => ?_)
  · obtain ⟨p, jd, n, js, rfl, _⟩ := h
    rfl
  · have hu := hu_of hr
    have h64 := hr.units
    have hu16 : (A.deeper (envOfC "_law_bad_jobs" (defScope sBadJobs) s.heap.objs.size f cdv)).units + 16 < cLine := Nat.lt_of_le_of_lt (Nat.add_le_add_left (by decide) _) h64
    refine ⟨_, PSs.nox (pss_cut (ps_set (i := 2) scBadJobs.nd rfl (.inl rfl) (pe_has FO hr (by decide) rfl (pa_cons (pv 0) (pa_cons (pe_callB (call_sd rfl) rfl gs boot_sorted (pa_cons (pv 1) pa_nil)) pa_nil))))
      (pss_cut (ps_asg (pe_dget hu (pv 1) (pv 2) (fun _ _ => rfl)) (pg_tup rfl (pgs_cons (pg_name (i := 3) scBadJobs.nd rfl (.inl rfl)) (pgs_cons (pg_name (i := 4) scBadJobs.nd rfl (.inl rfl)) (pgs_cons (pg_name (i := 5) scBadJobs.nd rfl (.inl rfl)) pgs_nil)))))
      (pss_cut (ps_set (i := 6) scBadJobs.nd rfl (.inl rfl) (pe_lst (pa_cons pe_non (pa_cons pe_int (pa_cons pe_str (pa_cons pe_dnewK (pa_cons (pe_tup (pa_cons (pv 3) pa_nil)) (pa_cons (pe_tup (pa_cons pe_int (pa_cons (pv 4) (pa_cons (pv 5) (pa_cons pe_int pa_nil))))) (pa_cons (pe_tup (pa_cons pe_int (pa_cons (pv 4) (pa_cons (pv 5) pa_nil)))) (pa_cons (pe_tup (pa_cons pe_bl (pa_cons (pv 4) (pa_cons (pv 5) pa_nil)))) pa_nil))))))))))
      (pss_cut (ps_set (i := 6) scBadJobs.nd rfl (.inl rfl) (pe_op op_cat (pv 6) (pe_lst (pa_cons (pe_tup (pa_cons pe_int (pa_cons pe_int (pa_cons (pv 5) pa_nil)))) (pa_cons (pe_tup (pa_cons pe_int (pa_cons pe_non (pa_cons (pv 5) pa_nil)))) (pa_cons (pe_tup (pa_cons pe_int (pa_cons pe_int (pa_cons (pe_lst pa_nil) pa_nil)))) (pa_cons (pe_tup (pa_cons pe_int (pa_cons pe_int (pa_cons pe_int pa_nil)))) (pa_cons (pe_tup (pa_cons pe_int (pa_cons pe_int (pa_cons (pe_lst (pa_cons pe_int pa_nil)) pa_nil)))) (pa_cons (pe_tup (pa_cons pe_int (pa_cons pe_int (pa_cons (pe_lst (pa_cons pe_bl pa_nil)) pa_nil)))) pa_nil)))))))))
      (pss_cut (ps_set (i := 6) scBadJobs.nd rfl (.inl rfl) (pe_op op_cat (pv 6) (pe_lst (pa_cons (pe_tup (pa_cons pe_int (pa_cons pe_int (pa_cons (pe_lst (pa_cons (pe_tup (pa_cons pe_str pa_nil)) pa_nil)) pa_nil)))) (pa_cons (pe_tup (pa_cons pe_int (pa_cons pe_int (pa_cons (pe_lst (pa_cons (pe_tup (pa_cons pe_str (pa_cons (pe_lst (pa_cons pe_int pa_nil)) pa_nil))) pa_nil)) pa_nil)))) (pa_cons (pe_tup (pa_cons pe_int (pa_cons pe_int (pa_cons (pe_lst (pa_cons (pe_tup (pa_cons pe_str (pa_cons (pe_lst pa_nil) pa_nil))) pa_nil)) pa_nil)))) (pa_cons (pe_tup (pa_cons pe_int (pa_cons pe_int (pa_cons (pe_lst (pa_cons (pe_tup (pa_cons pe_str (pa_cons pe_int pa_nil))) pa_nil)) pa_nil)))) pa_nil)))))))
      (pss_cut (ps_set (i := 6) scBadJobs.nd rfl (.inl rfl) (pe_op op_cat (pv 6) (pe_lst (pa_cons (pe_tup (pa_cons pe_int (pa_cons pe_int (pa_cons (pe_lst (pa_cons pe_int (pa_cons (pe_tup (pa_cons pe_str (pa_cons (pe_lst (pa_cons pe_int (pa_cons (pe_tup (pa_cons pe_str (pa_cons (pe_lst (pa_cons pe_int pa_nil)) pa_nil))) pa_nil))) pa_nil))) pa_nil))) pa_nil)))) (pa_cons (pe_tup (pa_cons pe_int (pa_cons pe_int (pa_cons (pe_lst (pa_cons (pe_tup (pa_cons pe_str (pa_cons (pe_lst (pa_cons (pe_tup (pa_cons pe_str (pa_cons (pe_lst (pa_cons pe_int (pa_cons (pe_tup (pa_cons pe_str (pa_cons (pe_lst (pa_cons pe_int pa_nil)) pa_nil))) pa_nil))) pa_nil))) pa_nil)) pa_nil))) pa_nil)) pa_nil)))) pa_nil)))))
      (pss_cut (ps_par (i := 7) (j := 8) rfl scBadJobs.nd rfl rfl (by decide) rfl rfl (pa_cons (pe_tup (pa_cons pe_int (pa_cons pe_int (pa_cons (pe_lst (pa_cons pe_int pa_nil)) pa_nil)))) (pa_cons (pe_has FO hr (by decide) rfl (pa_cons (pv 0) (pa_cons (pe_op op_cat (pv 6) (pe_lst (pa_cons (pe_tup (pa_cons (pv 3) (pa_cons pe_int (pa_cons (pe_lst (pa_cons pe_int pa_nil)) pa_nil)))) pa_nil))) pa_nil))) pa_nil)) rfl)
      (pss_cut (ps_asg (pe_has FO hr (by decide) rfl (pa_cons (pv 0) (pa_cons (pe_lst (pa_cons (pe_tup (pa_cons pe_str (pa_cons (pv 8) pa_nil))) (pa_cons (pe_tup (pa_cons pe_str (pa_cons (pv 8) pa_nil))) (pa_cons (pe_tup (pa_cons pe_int (pa_cons (pv 7) pa_nil))) (pa_cons (pe_tup (pa_cons pe_str (pa_cons (pv 7) pa_nil))) (pa_cons (pe_tup (pa_cons pe_non (pa_cons pe_non pa_nil))) pa_nil)))))) pa_nil))) (pg_tup rfl (pgs_cons (pg_name (i := 9) scBadJobs.nd rfl (.inl rfl)) (pgs_cons (pg_name (i := 8) scBadJobs.nd rfl (.inl rfl)) pgs_nil))))
      (pss_cut (ps_set (i := 10) scBadJobs.nd rfl (.inl rfl) (pe_op op_cat (pe_lc (te := tTup (tCons (tVar 11) (tCons (tDGet (tVar 1) (tVar 11)) tNil))) (own := [("_law_job", 11)]) rfl scBadJobs.nd (pi_list (pe_has FM hr (by decide) rfl (pa_cons (pv 0) (pa_cons (pe_callB (call_sd rfl) rfl gs boot_sorted (pa_cons (pv 1) pa_nil)) pa_nil)))) (blkOk_by (by kernel_rfl)) (fun s H C cl fp => pg_name (i := 11) scBadJobs.nd rfl (.inl rfl) (.inr rfl)) (fun s H C cl fp => pts_nil)
        (fun s H C cl fp => pe_tup (pa_cons (pv 11) (pa_cons (pe_dget hu (pv 1) (pv 11) (fun _ _ => rfl)) pa_nil)))) (pe_lst (pa_cons (pe_tup (pa_cons (pv 9) (pa_cons (pv 8) pa_nil))) (pa_cons (pe_tup (pa_cons pe_str (pa_cons pe_non pa_nil))) pa_nil)))))
      (pss_one (ps_ret (pe_tup (pa_cons (pe_lk (pe_callTy (call_dictO rfl hu16) rfl gd boot_dict (pa_cons (pv 10) pa_nil))) (pa_cons (pv 9) pa_nil)))))))))))))), ?_⟩
    obtain ⟨p, jd, n, js, rfl, S, hn, dj, g, ne, l4, hQ⟩ := h
    obtain ⟨kj, hj, pj⟩ := dj
    have s2 : 2 ≤ sizeLine := by decide
    have jl : js.length ≤ 4 := l4
    have jpos : 0 < js.length := List.length_pos_iff.mpr ne
    -- the word
    refine ⟨fun σ' H' => ∃ j ∈ js, σ' = [some (.ref p), some (.ref jd), some (.str j.name), none, none, none, none, none, none, none, none, none] ∧ ExA p H H' ∧ Pool H' p (n + 1), ?_, ?_⟩
    · refine ⟨.ref p, rfl, .ref jd, rfl, jd, kj, js.map Jb.name, rfl, .inl hj, ja_keys pj, by rw [List.length_map]; omega, fun ns q pm so nq => ?_⟩
      have x1 := Ex.new (o := .lst (ns.map V.str)) nq
      have S1 := S.ex x1
      have nl : ns.length = js.length := by rw [pm.length_eq, List.length_map]
      refine ⟨p, q, n, ns.map V.str, rfl, S1, by omega, S.off nq, upd_same, fun z => ?_, by rw [List.length_map]; omega, fun y H2 my x2 S2 => ?_⟩
      · have := congrArg List.length z
        rw [List.length_map, nl] at this
        have e0 : ([] : List V).length = 0 := rfl
        omega
      obtain ⟨x, mx, rfl⟩ := List.mem_map.mp my
      obtain ⟨j, mj, rfl⟩ := List.mem_map.mp (pm.mem_iff.mp mx)
      exact ⟨j, mj, rfl, x1.exA.trans x2, S2⟩
    rintro σ1 H1 ⟨j, mj, rfl, x1, S1⟩
    obtain ⟨v, ev, _, t, q, xs, e2, ht, hq, cb⟩ := ja_get pj g.nd mj
    have e2 : v = .ref t := e2
    subst e2
    have kt1 := x1.kt S
    have hj1 : H1 jd = some (.dK kj) := x1.nl S hj fun _ z => nomatch z
    have gb := g.gb j mj
    -- its parts
    refine ⟨fun σ' H' => σ' = [some (.ref p), some (.ref jd), some (.str j.name), some (.int j.pr), some (.int j.di), some (.ref q), none, none, none, none, none, none] ∧ H' = H1, ?_, ?_⟩
    · exact ⟨.ref jd, rfl, .str j.name, rfl, jd, .ref t, rfl, ev ▸ DGet.k (k := Sum.inr j.name) hj1, t, _, rfl, .inl (.inl (kt1 _ _ ht)), rfl, .int j.pr, [.int j.di, .ref q], rfl, .int j.di, [.ref q], rfl, .ref q, [], rfl, rfl, rfl, rfl⟩
    rintro σ2 H2 ⟨rfl, rfl⟩
    have sp : H2 p ≠ none := by
      obtain ⟨_, _, _, e0, _⟩ := S1
      rw [e0]
      exact fun z => nomatch z
    have d3 : DpP p H2 (.int j.pr) (.int j.pr) := .int _
    have d4 : DpP p H2 (.int j.di) (.int j.di) := .int _
    have d5 : DpP p H2 (.ref q) (.tuple (bdL j.bd)) := .tup (kt1 _ _ hq) (can_dpP (cb.kt kt1))
    have shb : shA (bdL j.bd) = true := sh_bdL j.bd fun x m => tsN_len x (gb.tm x m)
    obtain ⟨ps, eps⟩ : ∃ ps : List Int, ps = js.map fun j => (j.pr : Int) := ⟨_, rfl⟩
    have jin : jobB 4 ps (.tuple [.int j.pr, .int 5, .list [.int 1]]) = some false := by
      have p1 : 1 ≤ j.pr := prN_pos _ (g.pm j mj)
      rw [jobB_in rfl (show posD (.int (j.pr : Int)) = true from decide_eq_true (by omega)) (by decide), if_pos (by rw [eps]; exact List.mem_map_of_mem (f := fun j : Jb => (j.pr : Int)) mj)]
    -- odds
    obtain ⟨OS, eOS⟩ : ∃ OS : Nat → L2.St → Hp → Prop, OS = fun k σ' H' => ∃ (oa : Addr) (xs : List V), σ' = [some (.ref p), some (.ref jd), some (.str j.name), some (.int j.pr), some (.int j.di), some (.ref q), some (.ref oa), none, none, none, none, none] ∧ Ex H2 H' ∧ oa ≠ p ∧ H' oa = some (.lst xs) ∧ (∀ v ∈ xs, OddV K p ps H' v) ∧ xs.length = k := ⟨_, rfl⟩
    have cat : ∀ {σ : L2.St} {Hx : Hp} {ta : TA} {k m : Nat} {oa : Addr} {xs : List V} {Q' : VK}, σ[6]? = some (some (.ref oa)) → Ex H2 Hx → Hx oa = some (.lst xs) → (∀ v ∈ xs, OddV K p ps Hx v) → xs.length = k → k ≤ 100 → m ≤ 100 → ValA σ H2 ta (OddV K p ps) m →
        (∀ r ys H', Ex Hx H' → r ≠ p → H' r = some (.lst ys) → (∀ v ∈ ys, OddV K p ps H' v) → ys.length = k + m → Q' (.ref r) H') → tOp rCat (tVar 6) (tLst ta) σ Hx Q' := fun {σ Hx ta k m oa xs Q'} e6 x hoa ho le k1 m1 va hQ' => by
      refine op_one ⟨.ref oa, e6, lst_val OddV.ex (by omega) va x fun q2 vs H' x' nq2 hq2 hv len => ⟨oa, q2, xs, vs, rfl, rfl, x' _ _ hoa, hq2, by rw [le, len, sizeLine_eq]; omega, fun r nr => ?_⟩⟩
      have xr := Ex.new (o := .lst (xs ++ vs)) nr
      refine hQ' r (xs ++ vs) _ (x'.trans xr) (fun z => sp ((x.trans x').none (z ▸ nr))) upd_same (fun v mv => ?_) (by rw [List.length_append, le, len])
      rcases List.mem_append.mp mv with mv | mv
      · exact (ho v mv).ex _ _ _ (x'.trans xr)
      · exact (hv v mv).ex _ _ _ xr
    refine ⟨OS 8, ?_, ?_⟩
    · refine lst_val (P := OddV K p ps) (n := 8) OddV.ex (by decide) (valA_cons OddV.ex (odd_flat (fun H Q q => q) (fun H => Od.non) rfl) (valA_cons OddV.ex (odd_flat (fun H Q q => q) (fun H => Od.int 5) rfl) (valA_cons OddV.ex (odd_flat (v := .str "ab") (fun H Q q => q) (fun H => Od.str (by decide +kernel)) rfl) (valA_cons OddV.ex (odd_dict sp) (valA_cons OddV.ex (odd_of (d := .tuple [.int j.pr]) (lit_tup (by show 1 ≤ 1000; decide) (litA_cons (lit_var rfl d3) litA_nil)) rfl (jobB_len rfl (by simp))) (valA_cons OddV.ex (odd_of (d := .tuple [.int 900, .int j.di, .tuple (bdL j.bd), .int 1]) (lit_tup (by show 4 ≤ 1000; decide) (litA_cons (lit_int 900) (litA_cons (lit_var rfl d4) (litA_cons (lit_var rfl d5) (litA_cons (lit_int 1) litA_nil))))) (by show (_ && _) = true; simp only [shD, shA, shb, Bool.and_true, Bool.and_self]) (jobB_len rfl (by simp))) (valA_cons OddV.ex (odd_of (d := .tuple [.int 0, .int j.di, .tuple (bdL j.bd)]) (lit_tup (by show 3 ≤ 1000; decide) (litA_cons (lit_int 0) (litA_cons (lit_var rfl d4) (litA_cons (lit_var rfl d5) litA_nil)))) (by show (_ && _) = true; simp only [shD, shA, shb, Bool.and_true, Bool.and_self]) (jobB_pos rfl rfl)) (valA_cons OddV.ex (odd_of (d := .tuple [.bool true, .int j.di, .tuple (bdL j.bd)]) (lit_tup (by show 3 ≤ 1000; decide) (litA_cons (lit_bl true) (litA_cons (lit_var rfl d4) (litA_cons (lit_var rfl d5) litA_nil)))) (by show (_ && _) = true; simp only [shD, shA, shb, Bool.and_true, Bool.and_self]) (jobB_pos rfl rfl)) valA_nil)))))))) Ex.refl fun oa xs H3 x3 noa hoa ho len => ?_
      show OS 8 _ H3
      rw [eOS]
      exact ⟨oa, xs, rfl, x3, fun z => sp (z ▸ noa), hoa, ho, len⟩
    rintro σ3 H3 h3
    rw [eOS] at h3
    obtain ⟨oa, xs, rfl, x3, oap, hoa, ho, len⟩ := h3
    refine ⟨OS (8 + 6), ?_, ?_⟩
    · refine cat rfl x3 hoa ho len (by decide) (by decide) (valA_cons OddV.ex (odd_of (d := .tuple [.int 900, .int 0, .tuple (bdL j.bd)]) (lit_tup (by show 3 ≤ 1000; decide) (litA_cons (lit_int 900) (litA_cons (lit_int 0) (litA_cons (lit_var rfl d5) litA_nil)))) (by show (_ && _) = true; simp only [shD, shA, shb, Bool.and_true, Bool.and_self]) (jobB_pos rfl rfl)) (valA_cons OddV.ex (odd_of (d := .tuple [.int 900, .none, .tuple (bdL j.bd)]) (lit_tup (by show 3 ≤ 1000; decide) (litA_cons (lit_int 900) (litA_cons lit_non (litA_cons (lit_var rfl d5) litA_nil)))) (by show (_ && _) = true; simp only [shD, shA, shb, Bool.and_true, Bool.and_self]) (jobB_pos rfl rfl)) (valA_cons OddV.ex (odd_of (d := .tuple [.int 900, .int 5, .list []]) (lit_tup (by show 3 ≤ 1000; decide) (litA_cons (lit_int 900) (litA_cons (lit_int 5) (litA_cons (lit_lst sp (by show 0 ≤ 1000; decide) litA_nil) litA_nil)))) (by decide +kernel) (job9 (by decide +kernel))) (valA_cons OddV.ex (odd_of (d := .tuple [.int 900, .int 5, .int 3]) (lit_tup (by show 3 ≤ 1000; decide) (litA_cons (lit_int 900) (litA_cons (lit_int 5) (litA_cons (lit_int 3) litA_nil)))) (by decide +kernel) (job9 (by decide +kernel))) (valA_cons OddV.ex (odd_of (d := .tuple [.int 900, .int 5, .list [.int 0]]) (lit_tup (by show 3 ≤ 1000; decide) (litA_cons (lit_int 900) (litA_cons (lit_int 5) (litA_cons (lit_lst sp (by show 1 ≤ 1000; decide) (litA_cons (lit_int 0) litA_nil)) litA_nil)))) (by decide +kernel) (job9 (by decide +kernel))) (valA_cons OddV.ex (odd_of (d := .tuple [.int 900, .int 5, .list [.bool true]]) (lit_tup (by show 3 ≤ 1000; decide) (litA_cons (lit_int 900) (litA_cons (lit_int 5) (litA_cons (lit_lst sp (by show 1 ≤ 1000; decide) (litA_cons (lit_bl true) litA_nil)) litA_nil)))) (by decide +kernel) (job9 (by decide +kernel))) valA_nil)))))) fun r ys H' x' rp hr hv len' => ?_
      show OS (8 + 6) _ H'
      rw [eOS]
      exact ⟨r, ys, rfl, x3.trans x', rp, hr, hv, len'⟩
    rintro σ4 H4 h4
    rw [eOS] at h4
    obtain ⟨oa, xs, rfl, x4, oap, hoa, ho, len⟩ := h4
    refine ⟨OS (8 + 6 + 4), ?_, ?_⟩
    · refine cat rfl x4 hoa ho len (by decide) (by decide) (valA_cons OddV.ex (odd_of (d := .tuple [.int 900, .int 5, .list [.tuple [.str "t"]]]) (lit_tup (by show 3 ≤ 1000; decide) (litA_cons (lit_int 900) (litA_cons (lit_int 5) (litA_cons (lit_lst sp (by show 1 ≤ 1000; decide) (litA_cons (lit_tup (by show 1 ≤ 1000; decide) (litA_cons (lit_str "t") litA_nil)) litA_nil)) litA_nil)))) (by decide +kernel) (job9 (by decide +kernel))) (valA_cons OddV.ex (odd_of (d := .tuple [.int 900, .int 5, .list [.tuple [.str "T", .list [.int 1]]]]) (lit_tup (by show 3 ≤ 1000; decide) (litA_cons (lit_int 900) (litA_cons (lit_int 5) (litA_cons (lit_lst sp (by show 1 ≤ 1000; decide) (litA_cons (lit_tup (by show 2 ≤ 1000; decide) (litA_cons (lit_str "T") (litA_cons (lit_lst sp (by show 1 ≤ 1000; decide) (litA_cons (lit_int 1) litA_nil)) litA_nil))) litA_nil)) litA_nil)))) (by decide +kernel) (job9 (by decide +kernel))) (valA_cons OddV.ex (odd_of (d := .tuple [.int 900, .int 5, .list [.tuple [.str "t", .list []]]]) (lit_tup (by show 3 ≤ 1000; decide) (litA_cons (lit_int 900) (litA_cons (lit_int 5) (litA_cons (lit_lst sp (by show 1 ≤ 1000; decide) (litA_cons (lit_tup (by show 2 ≤ 1000; decide) (litA_cons (lit_str "t") (litA_cons (lit_lst sp (by show 0 ≤ 1000; decide) litA_nil) litA_nil))) litA_nil)) litA_nil)))) (by decide +kernel) (job9 (by decide +kernel))) (valA_cons OddV.ex (odd_of (d := .tuple [.int 900, .int 5, .list [.tuple [.str "t", .int 2]]]) (lit_tup (by show 3 ≤ 1000; decide) (litA_cons (lit_int 900) (litA_cons (lit_int 5) (litA_cons (lit_lst sp (by show 1 ≤ 1000; decide) (litA_cons (lit_tup (by show 2 ≤ 1000; decide) (litA_cons (lit_str "t") (litA_cons (lit_int 2) litA_nil))) litA_nil)) litA_nil)))) (by decide +kernel) (job9 (by decide +kernel))) valA_nil)))) fun r ys H' x' rp hr hv len' => ?_
      show OS (8 + 6 + 4) _ H'
      rw [eOS]
      exact ⟨r, ys, rfl, x4.trans x', rp, hr, hv, len'⟩
    rintro σ5 H5 h5
    rw [eOS] at h5
    obtain ⟨oa, xs, rfl, x5, oap, hoa, ho, len⟩ := h5
    refine ⟨OS (8 + 6 + 4 + 2), ?_, ?_⟩
    · refine cat rfl x5 hoa ho len (by decide) (by decide) (valA_cons OddV.ex (odd_of (d := .tuple [.int 900, .int 5, .list [.int 1, .tuple [.str "t", .list [.int 1, .tuple [.str "t", .list [.int 1]]]]]]) (lit_tup (by show 3 ≤ 1000; decide) (litA_cons (lit_int 900) (litA_cons (lit_int 5) (litA_cons (lit_lst sp (by show 2 ≤ 1000; decide) (litA_cons (lit_int 1) (litA_cons (lit_tup (by show 2 ≤ 1000; decide) (litA_cons (lit_str "t") (litA_cons (lit_lst sp (by show 2 ≤ 1000; decide) (litA_cons (lit_int 1) (litA_cons (lit_tup (by show 2 ≤ 1000; decide) (litA_cons (lit_str "t") (litA_cons (lit_lst sp (by show 1 ≤ 1000; decide) (litA_cons (lit_int 1) litA_nil)) litA_nil))) litA_nil))) litA_nil))) litA_nil))) litA_nil)))) (by decide +kernel) (job9 (by decide +kernel))) (valA_cons OddV.ex (odd_of (d := .tuple [.int 900, .int 5, .list [.tuple [.str "t", .list [.tuple [.str "u", .list [.int 1, .tuple [.str "t", .list [.int 2]]]]]]]]) (lit_tup (by show 3 ≤ 1000; decide) (litA_cons (lit_int 900) (litA_cons (lit_int 5) (litA_cons (lit_lst sp (by show 1 ≤ 1000; decide) (litA_cons (lit_tup (by show 2 ≤ 1000; decide) (litA_cons (lit_str "t") (litA_cons (lit_lst sp (by show 1 ≤ 1000; decide) (litA_cons (lit_tup (by show 2 ≤ 1000; decide) (litA_cons (lit_str "u") (litA_cons (lit_lst sp (by show 2 ≤ 1000; decide) (litA_cons (lit_int 1) (litA_cons (lit_tup (by show 2 ≤ 1000; decide) (litA_cons (lit_str "t") (litA_cons (lit_lst sp (by show 1 ≤ 1000; decide) (litA_cons (lit_int 2) litA_nil)) litA_nil))) litA_nil))) litA_nil))) litA_nil)) litA_nil))) litA_nil)) litA_nil)))) (by decide +kernel) (job9 (by decide +kernel))) valA_nil)) fun r ys H' x' rp hr hv len' => ?_
      show OS (8 + 6 + 4 + 2) _ H'
      rw [eOS]
      exact ⟨r, ys, rfl, x5.trans x', rp, hr, hv, len'⟩
    rintro σ6 H6 h6
    rw [eOS] at h6
    obtain ⟨oa, xs, rfl, x6, oap, hoa, ho, len⟩ := h6
    -- good, odd
    refine ⟨fun σ' H' => ∃ gv ov, σ' = [some (.ref p), some (.ref jd), some (.str j.name), some (.int j.pr), some (.int j.di), some (.ref q), some (.ref oa), some gv, some ov, none, none, none] ∧ ExA p H2 H' ∧ Pool H' p (n + 2) ∧ DpP p H' gv (.tuple [.int 900, .int 5, .list [.int 1]]) ∧ OddV K p ps H' ov, ?_, ?_⟩
    · have lg : LitE p [some (.ref p), some (.ref jd), some (.str j.name), some (.int j.pr), some (.int j.di), some (.ref q), some (.ref oa), none, none, none, none, none] H2 _ (.tuple [.int 900, .int 5, .list [.int 1]]) := (lit_tup (by show 3 ≤ 1000; decide) (litA_cons (lit_int 900) (litA_cons (lit_int 5) (litA_cons (lit_lst sp (by show 1 ≤ 1000; decide) (litA_cons (lit_int 1) litA_nil)) litA_nil))))
      refine cons_one (lg H6 _ x6 fun gv H7 x7 hgv => ?_)
      refine ⟨.ref p, rfl, ?_⟩
      have ho7 : ∀ v ∈ xs, OddV K p ps H7 v := fun v m => (ho v m).ex _ _ _ x7
      refine cat (m := 1) rfl (x6.trans x7) (x7 _ _ hoa) ho7 len (by decide) (by decide) (valA_cons OddV.ex (odd_of (d := .tuple [.int j.pr, .int 5, .list [.int 1]]) (lit_tup (by show 3 ≤ 1000; decide) (litA_cons (lit_var rfl d3) (litA_cons (lit_int 5) (litA_cons (lit_lst sp (by show 1 ≤ 1000; decide) (litA_cons (lit_int 1) litA_nil)) litA_nil)))) rfl jin) valA_nil) fun r ys H8 x8 rp hr hv len' => ?_
      have x28 := x6.trans (x7.trans x8)
      have S8 := S1.ex x28
      refine ⟨p, r, n + 1, ys, rfl, S8, by omega, rp, hr, fun z => ?_, by rw [len']; decide, fun y H9 my x9 S9 => ⟨_, _, rfl, ?_⟩⟩
      · rw [z] at len'; cases len'
      exact ⟨gv, y, rfl, x28.exA.trans x9, S9, (hgv.ex x8).p x9.p S8, (hv y my).p x9.p S8⟩
    rintro σ7 H7 ⟨gv, ov, rfl, x7, S7, hgv, hov⟩
    -- key, odd
    refine ⟨fun σ' H' => ∃ (key ov2 : V) (kk : NestedKey), σ' = [some (.ref p), some (.ref jd), some (.str j.name), some (.int j.pr), some (.int j.di), some (.ref q), some (.ref oa), some gv, some ov2, some key, none, none] ∧ ExA p H2 H' ∧ Pool H' p (n + 3) ∧ KeyO kk key ∧ (∀ x ∈ wjN, kk ≠ .text x) ∧ kk ≠ .text "worse" ∧ (isWd key = false ∨ isWd key = true ∧ OddV K p ps H' ov2), ?_, ?_⟩
    · refine ⟨.ref p, rfl, ?_⟩
      refine lst_val (H0 := H7) (P := PairV (FiveP K p ps gv ov)) (n := 5) PairV.ex (by decide) (valA_cons PairV.ex (pair_e (w := ov) (fun H Q k => ⟨ov, rfl, k⟩) (.inl ⟨rfl, rfl⟩)) (valA_cons PairV.ex (pair_e (w := ov) (fun H Q k => ⟨ov, rfl, k⟩) (.inl ⟨rfl, rfl⟩)) (valA_cons PairV.ex (pair_e (w := gv) (fun H Q k => ⟨gv, rfl, k⟩) (.inr (.inl ⟨rfl, rfl⟩))) (valA_cons PairV.ex (pair_e (w := gv) (fun H Q k => ⟨gv, rfl, k⟩) (.inr (.inr (.inl ⟨rfl, rfl⟩)))) (valA_cons PairV.ex (pair_e (w := .non) (fun H Q k => k) (.inr (.inr (.inr ⟨rfl, rfl⟩)))) valA_nil))))) Ex.refl fun l vs H8 x8 nl hl hv len8 => ?_
      have S8 := S7.ex x8
      have lp : l ≠ p := fun z => by
        obtain ⟨_, _, _, e0, _⟩ := S7
        rw [z, e0] at nl
        cases nl
      refine ⟨p, l, n + 2, vs, rfl, S8, by omega, lp, hl, fun z => ?_, by rw [len8]; decide, fun y H9 my x9 S9 => ?_⟩
      · rw [z] at len8; cases len8
      obtain ⟨t9, k9, w9, rfl, ht9, f9⟩ := hv y my
      have ht9' := x9.kt S8 _ _ ht9
      have x29 := (x7.trans x8.exA).trans x9
      obtain ⟨nw1, nw2, nw3⟩ := wjN_wrong
      refine ⟨t9, _, rfl, .inl (.inl ht9'), rfl, k9, [w9], rfl, w9, [], rfl, rfl, k9, w9, ?_⟩
      rcases f9 with ⟨rfl, rfl⟩ | ⟨rfl, rfl⟩ | ⟨rfl, rfl⟩ | ⟨rfl, rfl⟩
      · exact ⟨.text "wrong", rfl, x29, S9, .inr (.inr ⟨_, rfl, rfl, by decide +kernel⟩), fun x mx z => nw1 (NestedKey.text.inj z ▸ mx), fun z => absurd (NestedKey.text.inj z) (by decide +kernel), .inr ⟨wd_wrong.1, (hov.ex _ _ _ x8).p x9.p S8⟩⟩
      · exact ⟨.num 5, rfl, x29, S9, .inr (.inl ⟨5, rfl, rfl⟩), (fun x mx z => nomatch z), (fun z => nomatch z), .inl rfl⟩
      · exact ⟨.text "Wrong", rfl, x29, S9, .inr (.inr ⟨_, rfl, rfl, by decide +kernel⟩), fun x mx z => nw3 (NestedKey.text.inj z ▸ mx), fun z => absurd (NestedKey.text.inj z) (by decide +kernel), .inl wd_wrong.2⟩
      · exact ⟨.none, rfl, x29, S9, .inl ⟨rfl, rfl⟩, (fun x mx z => nomatch z), (fun z => nomatch z), .inl rfl⟩
    rintro σ8 H8 ⟨key, ov2, kk, rfl, x8, S8, ko, kn1, kn2, bad⟩
    have x18 := x1.trans x8
    have hj8 : H8 jd = some (.dK kj) := x8.nl S1 hj1 fun _ z => nomatch z
    have kt8 : KeepT H H8 := x18.kt S
    -- rows
    refine ⟨fun σ' H' => ∃ (ra : Addr) (ps' : List Addr) (rws : List MRow) (zs : List Str), σ' = [some (.ref p), some (.ref jd), some (.str j.name), some (.int j.pr), some (.int j.di), some (.ref q), some (.ref oa), some gv, some ov2, some key, some (.ref ra), none] ∧ ExA p H8 H' ∧ Pool H' p (n + 7) ∧ H' ra = some (.lst (ps'.map V.ref)) ∧ Paired (fun a (r : MRow) => H' a = some (.tup [r.2.1, r.2.2])) ps' (rws ++ [(kk, key, ov2), (NestedKey.text "worse", V.str "worse", V.non)]) ∧ zs.Perm (js.map Jb.name) ∧ Paired (fun x (r : MRow) => r.1 = .text x ∧ r.2.1 = .str x ∧ DpP p H' r.2.2 (jobD (jbOf js x))) zs rws, ?_, ?_⟩
    · refine op_one ⟨.ref p, rfl, .ref jd, rfl, jd, kj, js.map Jb.name, rfl, .inl hj8, ja_keys pj, by rw [List.length_map]; omega, fun ns q1 pm so nq => ?_⟩
      have xa := Ex.new (o := .lst (ns.map V.str)) nq
      have hq1 : upd H8 q1 (.lst (ns.map V.str)) q1 = some (.lst (ns.map V.str)) := upd_same
      generalize upd H8 q1 (.lst (ns.map V.str)) = Ha at xa hq1 ⊢
      have Sa := S8.ex xa
      have nsl : ns.length ≤ 4 := by rw [pm.length_eq, List.length_map]; exact l4
      refine ⟨p, q1, n + 3, ns.map V.str, rfl, Sa, by rw [List.length_map]; omega, hq1, by rw [List.length_map]; omega, fun x mx => ?_, fun q2 ys Hb xb Sb nq2 hq2 pm2 => ?_⟩
      · obtain ⟨z, mz, rfl⟩ := List.mem_map.mp mx
        obtain ⟨j2, mj2, rfl⟩ := List.mem_map.mp (pm.mem_iff.mp mz)
        exact .inr ⟨_, rfl, wjN_lay _ (g.wd j2 mj2)⟩
      obtain ⟨zs, rfl, pz⟩ := perm_strs pm2
      have pzj : zs.Perm (js.map Jb.name) := pz.trans pm
      have zl : zs.length ≤ 4 := by rw [pzj.length_eq, List.length_map]; exact l4
      rw [List.length_map] at Sb
      have x8b := xa.exA.trans xb
      have hjb : Hb jd = some (.dK kj) := x8b.nl S8 hj8 fun _ z => nomatch z
      have ktb : KeepT H Hb := fun c zs e => x8b.kt S8 _ _ (kt8 _ _ e)
      refine ⟨q2, rfl, ⟨_, .inl (.inl hq2)⟩, fun D nD => ?_⟩
      refine lc_list (K := K) (xs := zs.map V.str) (fun i H' => ∃ (ps' : List Addr) (rws : List MRow), Ex Hb H' ∧ H' D = some (.lst (ps'.map V.ref)) ∧ Paired (fun a (r : MRow) => H' a = some (.tup [r.2.1, r.2.2])) ps' rws ∧ Paired (fun x (r : MRow) => r.1 = .text x ∧ r.2.1 = .str x ∧ DpP p Hb r.2.2 (jobD (jbOf js x))) (zs.take i) rws) ⟨[], [], Ex.new nD, upd_same, .nil, .nil⟩ (fun i H' _ ⟨_, _, x, _⟩ => .inl (.inl (x _ _ hq2))) (fun i v H9 hv h => ?_) fun H9 h => ?_
      · obtain ⟨ps', rws, x9, hD, pt, pk⟩ := h
        rw [List.getElem?_map] at hv
        obtain ⟨x, ex, rfl⟩ := Option.map_eq_some_iff.mp hv
        have mx : x ∈ js.map Jb.name := pzj.mem_iff.mp (List.mem_of_getElem? ex)
        obtain ⟨mj2, ej2⟩ := jbOf_of g.nd mx
        obtain ⟨v, ev2, _, t2, q3, xs3, e3, ht3, hq3, cb3⟩ := ja_get pj g.nd mj2
        have e3 : v = .ref t2 := e3
        subst e3
        rw [ej2] at ev2
        refine ⟨rfl, .str x, rfl, .ref jd, rfl, .str x, rfl, jd, .ref t2, rfl, ev2 ▸ DGet.k (k := Sum.inr x) (x9 _ _ hjb), s2, fun t nt => ?_⟩
        have xt := Ex.new (o := .tup [.str x, .ref t2]) nt
        have ht : upd H9 t (.tup [.str x, .ref t2]) t = some (.tup [.str x, .ref t2]) := upd_same
        generalize upd H9 t (.tup [.str x, .ref t2]) = H10 at xt ht ⊢
        have hD10 := xt _ _ hD
        have pl : ps'.length ≤ 4 := by
          have e1 := Paired.length pk
          have e2 := Paired.length pt
          rw [List.length_take] at e1
          omega
        have off : ∀ {b ys}, H10 b = some (.tup ys) → b ≠ D := fun h z => by rw [z, hD10] at h; cases h
        refine ⟨_, hD10, by rw [List.length_map, sizeLine_eq]; omega, ps' ++ [t], rws ++ [(.text x, .str x, .ref t2)], fun b o e => (upd_ne fun z => by rw [z, nD] at e; cases e).trans (xt _ _ (x9 _ _ e)), by rw [upd_same, List.map_append]; rfl, paired_app (Paired.mapP pt fun _ _ z => (upd_ne (off (xt _ _ z))).trans (xt _ _ z)) ((upd_ne (off ht)).trans ht), ?_⟩
        rw [List.take_add_one, ex]
        exact paired_app pk ⟨rfl, rfl, .tup (ktb _ _ ht3) (.cons (.int _) (.cons (.int _) (.cons (.tup (ktb _ _ hq3) (can_dpP (cb3.kt ktb))) .nil)))⟩
      · obtain ⟨ps', rws, x9, hD, pt, pk⟩ := h
        rw [List.length_map, List.take_length] at pk
        refine ⟨key, rfl, ov2, rfl, s2, fun t1 nt1 => ⟨s2, fun t2 nt2 => ⟨s2, fun l1 nl1 => ?_⟩⟩⟩
        have y1 := Ex.new (o := .tup [key, ov2]) nt1
        have y2 := Ex.new (o := .tup [.str "worse", .non]) nt2
        have y3 := Ex.new (o := .lst [.ref t1, .ref t2]) nl1
        have ht1 := y3 _ _ (y2 _ _ (upd_same (H := H9) (a := t1) (o := .tup [key, ov2])))
        have ht2 := y3 _ _ (upd_same (H := upd H9 t1 (.tup [key, ov2])) (a := t2) (o := .tup [.str "worse", .non]))
        have hl1 := upd_same (H := upd (upd H9 t1 (.tup [key, ov2])) t2 (.tup [.str "worse", .non])) (a := l1) (o := .lst [.ref t1, .ref t2])
        have y13 := y1.trans (y2.trans y3)
        have hD13 := y13 _ _ hD
        generalize upd (upd (upd H9 t1 (.tup [key, ov2])) t2 (.tup [.str "worse", .non])) l1 (.lst [.ref t1, .ref t2]) = H10 at y13 ht1 ht2 hl1 hD13 ⊢
        have pl : ps'.length ≤ 4 := by
          have e1 := Paired.length pk
          have e2 := Paired.length pt
          omega
        refine ⟨D, l1, _, _, rfl, rfl, hD13, hl1, by rw [List.length_map, sizeLine_eq]; show ps'.length + 2 ≤ _; omega, fun ra nra => ?_⟩
        have y4 := Ex.new (o := .lst (ps'.map V.ref ++ [.ref t1, .ref t2])) nra
        have xall := x9.trans (y13.trans y4)
        refine ⟨ra, ps' ++ [t1, t2], rws, zs, rfl, x8b.trans xall.exA, (Sb.ex xall).mono (by omega), by rw [upd_same, List.map_append]; rfl, ?_, pzj, Paired.mapP pk fun _ _ ⟨z1, z2, z3⟩ => ⟨z1, z2, z3.ex xall⟩⟩
        exact paired_apps (Paired.mapP pt fun _ _ z => y4 _ _ (y13 _ _ z)) (.cons (y4 _ _ ht1) (.cons (y4 _ _ ht2) .nil))
    rintro σ9 H9 ⟨ra, ps', rws, zs, rfl, x9, S9, hra, pt, pzj, pk⟩
    have znd : zs.Nodup := pzj.nodup_iff.mpr g.nd
    have zl : zs.length ≤ 4 := by rw [pzj.length_eq, List.length_map]; exact l4
    have zw : ∀ x ∈ zs, x ∈ wjN := fun x m => by
      obtain ⟨j2, mj2, rfl⟩ := List.mem_map.mp (pzj.mem_iff.mp m)
      exact g.wd j2 mj2
    have rl := Paired.length pk
    have rn := rows_names pk fun _ _ z => z.1
    have nkr : ∀ r ∈ rws ++ [(kk, key, ov2), (NestedKey.text "worse", V.str "worse", V.non)], KeyO r.1 r.2.1 := fun r mr => by
      rcases List.mem_append.mp mr with mr | mr
      · obtain ⟨i, hi⟩ := List.getElem?_of_mem mr
        obtain ⟨x, ex, z1, z2, _⟩ := paired_get pk hi
        rw [z1, z2]
        have := okS_len (wjN_ok _ (zw x (List.mem_of_getElem? ex)))
        exact .inr (.inr ⟨x, rfl, rfl, by omega⟩)
      · rcases List.mem_cons.mp mr with rfl | mr
        · exact ko
        · rw [List.mem_singleton.mp mr]
          exact .inr (.inr ⟨_, rfl, rfl, by decide +kernel⟩)
    have ndr := nd_rows (v := ov2) (key := key) znd rn (fun x m => kn1 x (zw x m)) (fun z => wjN_wrong.2.1 (zw _ z)) kn2
    refine ⟨.ref ra, rfl, ra, ps', _, rfl, .inl (.inl hra), Paired.mapP pt fun _ _ z => .inl (.inl z), fun r mr => (nkr r mr).nk, ndr, fun a na => ⟨a, _, rfl, upd_same, trivial, fun od => ⟨key, rfl, s2, fun t nt => ?_⟩⟩⟩
    have xz : Ex H9 (upd (upd H9 a (DO w a (rws ++ [(kk, key, ov2), (NestedKey.text "worse", V.str "worse", V.non)]))) a (.frz od (DO w a (rws ++ [(kk, key, ov2), (NestedKey.text "worse", V.str "worse", V.non)])))) := fun b o e => (upd_ne fun z => by rw [z, na] at e; cases e).trans ((upd_ne fun z => by rw [z, na] at e; cases e).trans e)
    have hz := upd_same (H := upd H9 a (DO w a (rws ++ [(kk, key, ov2), (NestedKey.text "worse", V.str "worse", V.non)]))) (a := a) (o := .frz od (DO w a (rws ++ [(kk, key, ov2), (NestedKey.text "worse", V.str "worse", V.non)])))
    have xt : Ex (upd (upd H9 a (DO w a (rws ++ [(kk, key, ov2), (NestedKey.text "worse", V.str "worse", V.non)]))) a (.frz od (DO w a (rws ++ [(kk, key, ov2), (NestedKey.text "worse", V.str "worse", V.non)])))) (upd (upd (upd H9 a (DO w a (rws ++ [(kk, key, ov2), (NestedKey.text "worse", V.str "worse", V.non)]))) a (.frz od (DO w a (rws ++ [(kk, key, ov2), (NestedKey.text "worse", V.str "worse", V.non)])))) t (.tup [.ref a, key])) := Ex.new nt
    have xzt := xz.trans xt
    have zjl : (zs.map (jbOf js)).length = rws.length := by rw [List.length_map, rl]
    refine hQ t a od _ (zs.map (jbOf js)) key ov2 _ ((x18.trans x9).trans xzt.exA) ((S9.ex xzt).mono (by omega)) upd_same (xt _ _ hz) (jbs_perm g.nd pzj) ⟨nkr, ndr, by rw [List.length_append, ← rl]; show zs.length + 2 ≤ 100; omega, ?_, ?_, ?_⟩
    · rw [zjl, List.take_left']
      · exact pre_of xzt g.nd (fun x m => pzj.mem_iff.mp m) pk
      · rfl
    · exact ⟨kk, by rw [zjl, List.getElem?_append_right (Nat.le_refl _), Nat.sub_self]; rfl⟩
    · refine bad.imp id fun ⟨z1, z2⟩ => ⟨z1, ?_⟩
      have z3 := (z2.p x9.p S8).ex _ _ _ xzt
      rcases z3 with z3 | ⟨d, h1, h2, h3⟩
      · exact .inl z3
      · refine .inr ⟨d, h1, h2, ?_⟩
        rw [← h3]
        exact jobB_perm (by rw [eps]; exact (jbs_perm g.nd pzj).map _)
end
end TH

/-! J23: _law_bad_comings (printed by gen_j23.py) -/
namespace TH
open PySem PySem.Spec PyProof.Rows L2 LamV LamX XK0
open C8 (pss_cut tCut)
open OD
abbrev sBadCom : Stmt := top 46
def natsD : List PyData → Option (List Int)
  | [] => some []
  | .int i :: r => if 0 ≤ i then (natsD r).map (i :: ·) else none
  | _ :: _ => none
def comD (d : Int) (ds : List PyData) : Bool := match natsD ds with
  | some ns => gapsB d ns
  | none => false
theorem nats_some {p : Addr} {H : Hp} : ∀ {ds : List PyData} {xs : List V} {ns : List Int}, DpPs p H xs ds → natsD ds = some ns → xs = ns.map V.int ∧ ∀ n ∈ ns, 0 ≤ n
  | [], _, _, h, e => by
    cases h
    cases e
    exact ⟨rfl, fun _ z => by cases z⟩
  | .int i :: r, _, _, .cons a t, e => by
    unfold natsD at e
    split at e
    · obtain ⟨ms, e1, e2⟩ := Option.map_eq_some_iff.mp e
      obtain ⟨h1, h2⟩ := nats_some t e1
      cases a
      rw [← e2, h1]
      refine ⟨rfl, fun n m => ?_⟩
      rcases List.mem_cons.mp m with rfl | m
      · assumption
      · exact h2 n m
    · cases e
  | .none :: r, _, _, _, e => by cases e
  | .bool _ :: r, _, _, _, e => by cases e
  | .str _ :: r, _, _, _, e => by cases e
  | .list _ :: r, _, _, _, e => by cases e
  | .tuple _ :: r, _, _, _, e => by cases e
  | .dict _ :: r, _, _, _, e => by cases e
theorem nats_none {p : Addr} {H : Hp} : ∀ {ds : List PyData} {xs : List V}, DpPs p H xs ds → natsD ds = none → xs.all natV = false
  | .int i :: r, _, .cons (vs := vs) a t, e => by
    cases a
    unfold natsD at e
    show (natV (.int i) && vs.all natV) = false
    split at e
    · have e2 : natsD r = none := Option.map_eq_none_iff.mp e
      rw [nats_none t e2, Bool.and_false]
    · rename_i h
      rw [show natV (.int i) = false from decide_eq_false h, Bool.false_and]
  | .none :: r, _, .cons a t, _ => by cases a; rfl
  | .bool _ :: r, _, .cons a t, _ => by cases a; rfl
  | .str _ :: r, _, .cons a t, _ => by cases a; rfl
  | .list _ :: r, _, .cons a t, _ => by cases a; rfl
  | .tuple _ :: r, _, .cons a t, _ => by cases a; rfl
  | .dict _ :: r, _, .cons a t, _ => by cases a
/-- what is no coming of the distance d -/
def OddC (K : PySem.W.Frag) (p : Addr) (d : Int) (H : Hp) (v : V) : Prop := (∃ T, Od K p H v T ∧ isLt T = false) ∨ ∃ ds, DpP p H v (.list ds) ∧ shA ds = true ∧ ds.length ≤ 60 ∧ comD d ds = false
theorem OddC.ex {K : PySem.W.Frag} {p : Addr} {d : Int} (H H' : Hp) (v : V) (x : Ex H H') (h : OddC K p d H v) : OddC K p d H' v := by
  rcases h with ⟨T, o, l⟩ | ⟨ds, h, r⟩
  · exact .inl ⟨T, ⟨o.kd.ex x, o.off, o.sf⟩, l⟩
  · exact .inr ⟨ds, h.ex x, r⟩
theorem OddC.p {K : PySem.W.Frag} {p : Addr} {d : Int} {H H' : Hp} {v : V} {n : Nat} (x : ExP p H H') (S : Pool H p n) (h : OddC K p d H v) : OddC K p d H' v := by
  rcases h with ⟨T, o, l⟩ | ⟨ds, h, r⟩
  · exact .inl ⟨T, o.p x, l⟩
  · exact .inr ⟨ds, h.p x S, r⟩
theorem dpA_kds {K : PySem.W.Frag} {H : Hp} {vs : List V} {ds : List PyData} (h : DpAll K H vs ds) (s : shA ds = true) : ∀ v ∈ vs, ∃ T, Kd K H v T := fun v m => by
  obtain ⟨i, hi⟩ := List.getElem?_of_mem m
  obtain ⟨d, ed, hd⟩ := dpA_get h hi
  exact ⟨_, dp_kd hd (shA_get s ed)⟩
theorem OddC.com {K : PySem.W.Frag} {p : Addr} {d : Int} {H : Hp} {v : V} (h : OddC K p d H v) : ComV K H v d false := by
  rcases h with ⟨T, o, l⟩ | ⟨ds, h, sh, l, c⟩
  · exact .inl ⟨T, o.kd, l, rfl⟩
  · cases h with
    | @lst a xs _ na ha hd =>
      refine .inr ⟨a, xs, rfl, .inl (.inl ha), by rw [hd.len]; exact l, dpA_kds (K := K) (DpPs.dp _ _ hd) sh, ?_⟩
      unfold comD at c
      cases e : natsD ds with
      | none => exact .inl ⟨nats_none hd e, rfl⟩
      | some ns =>
        rw [e] at c
        obtain ⟨h1, h2⟩ := nats_some hd e
        exact .inr ⟨ns, h1, h2, c.symm⟩
theorem com0 {d : Nat} (h : 1 ≤ d) : comD (d : Int) [.int 0, .int ((d : Int) - 1)] = false := by
  have e : natsD [.int 0, .int ((d : Int) - 1)] = some [0, (d : Int) - 1] := by
    simp only [natsD]
    rw [if_pos (by omega), if_pos (by omega)]
    rfl
  unfold comD
  rw [e]
  show (decide ((d : Int) ≤ (d : Int) - 1 - 0) && true) = false
  rw [decide_eq_false (by omega)]
  rfl
theorem com3b {d : Nat} (h : 1 ≤ d) : comD (d : Int) [.int 3, .int (3 + (d : Int)), .int (2 + (d : Int))] = false := by
  have e : natsD [.int 3, .int (3 + (d : Int)), .int (2 + (d : Int))] = some [3, 3 + (d : Int), 2 + (d : Int)] := by
    simp only [natsD]
    rw [if_pos (by omega), if_pos (by omega), if_pos (by omega)]
    rfl
  unfold comD
  rw [e]
  show (decide ((d : Int) ≤ 3 + (d : Int) - 3) && (decide ((d : Int) ≤ 2 + (d : Int) - (3 + (d : Int))) && true)) = false
  rw [decide_eq_false (show ¬ (d : Int) ≤ 2 + (d : Int) - (3 + (d : Int)) by omega), Bool.false_and, Bool.and_false]
theorem com90 {d : Nat} (h : 1 ≤ d) : comD (d : Int) [.int 9, .int 0] = false := by
  show (decide ((d : Int) ≤ 0 - 9) && true) = false
  rw [decide_eq_false (by omega)]
  rfl
section
variable {K : PySem.W.Frag} {p : Addr} {σ : L2.St} {H0 : Hp} {te te1 te2 : TE} {d : Int}
theorem oddc_of {ds : List PyData} (a : LitE p σ H0 te (.list ds)) (s : shA ds = true) (l : ds.length ≤ 60) (c : comD d ds = false) : ValE σ H0 te (OddC K p d) := valE_of a fun H v h => .inr ⟨ds, h, s, l, c⟩
theorem oddc_flat {v : V} {T : String} (a : ∀ H Q, Q v H → te σ H Q) (o : ∀ H, Od K p H v T) (l : isLt T = false) : ValE σ H0 te (OddC K p d) := fun H Q x h => a H Q (h v H Ex.refl (.inl ⟨T, o H, l⟩))
theorem oddc_dict (S : H0 p ≠ none) : ValE σ H0 tDNewK (OddC K p d) := fun H Q x h => fun a na => h (.ref a) _ (Ex.new na) (.inl ⟨"dict", ⟨⟨by decide, .base (.dK upd_same), fun x z => nomatch z⟩, (fun b e => by cases e; exact fun z => S (x.none (z ▸ na))), .inr ⟨a, rfl⟩⟩, rfl⟩)
theorem lit_add {i j : Int} (a : LitE p σ H0 te1 (.int i)) (b : LitE p σ H0 te2 (.int j)) : LitE p σ H0 (tOp (rI0 fun i j => V.int (i + j)) te1 te2) (.int (i + j)) := fun H Q x h => a H _ x fun v H1 x1 hv => b H1 _ (x.trans x1) fun u H2 x2 hu => by
  cases hv
  cases hu
  exact ⟨i, j, rfl, rfl, h _ H2 (x1.trans x2) (.int _)⟩
theorem lit_sub {i j : Int} (a : LitE p σ H0 te1 (.int i)) (b : LitE p σ H0 te2 (.int j)) : LitE p σ H0 (tOp (rI0 fun i j => V.int (i - j)) te1 te2) (.int (i - j)) := fun H Q x h => a H _ x fun v H1 x1 hv => b H1 _ (x.trans x1) fun u H2 x2 hu => by
  cases hv
  cases hu
  exact ⟨i, j, rfl, rfl, h _ H2 (x1.trans x2) (.int _)⟩
theorem pair_g {F : V → V → Prop} {k w : V} (h1 : ∀ H Q, Q k H → te1 σ H Q) (h2 : ∀ H Q, Q w H → te2 σ H Q) (f : F k w) : ValE σ H0 (tTup (tCons te1 (tCons te2 tNil))) (PairV F) := fun H Q x c => h1 H _ (h2 H _ ⟨by show 2 ≤ sizeLine; decide, fun t nt => c (.ref t) _ (Ex.new nt) ⟨t, k, w, rfl, upd_same, f⟩⟩)
theorem pair_a {F : V → V → Prop} {k : V} {e : PyData} (h1 : ∀ H Q, Q k H → te1 σ H Q) (h2 : LitE p σ H0 te2 e) (f : ∀ w, F k w) : ValE σ H0 (tTup (tCons te1 (tCons te2 tNil))) (PairV F) := fun H Q x c => h1 H _ (h2 H _ x fun w H1 x1 _ => ⟨by show 2 ≤ sizeLine; decide, fun t nt => c (.ref t) _ (x1.trans (Ex.new nt)) ⟨t, k, w, rfl, upd_same, f w⟩⟩)
end
theorem paired_take {α β : Type} {R : α → β → Prop} : ∀ {l : List α} {r : List β}, Paired R l r → ∀ n, Paired R (l.take n) (r.take n)
  | _, _, .nil, n => by rw [List.take_nil, List.take_nil]; exact .nil
  | _, _, .cons _ _, 0 => .nil
  | _, _, .cons a t, n + 1 => .cons a (paired_take t n)
def FiveC (nm : Str) (ov : V) (k v : V) : Prop := (k = .str nm ∧ v = ov) ∨ k = .str "wrong" ∨ k = .int 5 ∨ k = .non
/-- the rows of comings up to the first that is none -/
structure BadCP (K : PySem.W.Frag) (p : Addr) (H : Hp) (rows : List MRow) (js : List Jb) (n : Nat) (key v : V) : Prop where
  nk : ∀ r ∈ rows, KeyO r.1 r.2.1
  nd : (rows.map (·.1)).Nodup
  pre : ∀ i, i < n → ∃ x l, rows[i]? = some (.text x, V.str x, V.ref l) ∧ x ∈ js.map Jb.name ∧ l ≠ p ∧ H l = some (.lst [.int 0])
  at_ : ∃ kk, rows[n]? = some (kk, key, v)
  bad : isWd key = false ∨ key = .str "wrong" ∨ ∃ j ∈ js, key = .str j.name ∧ OddC K p j.di H v
theorem BadCP.p {K : PySem.W.Frag} {p : Addr} {H H' : Hp} {rows : List MRow} {js : List Jb} {n : Nat} {key v : V} {m : Nat} (x : ExP p H H') (S : Pool H p m) (h : BadCP K p H rows js n key v) : BadCP K p H' rows js n key v :=
  ⟨h.nk, h.nd, fun i hi => by
    obtain ⟨y, l, e, my, lp, hl⟩ := h.pre i hi
    exact ⟨y, l, e, my, lp, x.lst hl lp⟩, h.at_, h.bad.imp id (Or.imp id fun ⟨j, m, e, c⟩ => ⟨j, m, e, c.p x S⟩)⟩
theorem BadCP.com {K : PySem.W.Frag} {p : Addr} {H : Hp} {rows : List MRow} {js ks : List Jb} {n : Nat} {key v : V} (h : BadCP K p H rows js n key v) (pm : ks.Perm js) (wd : ∀ j ∈ js, j.name ∈ wjN) : BadCo K H rows ks n key v := by
  refine ⟨fun r m => (h.nk r m).nk, h.nd, fun i hi => ?_, h.at_, ?_, ?_⟩
  · obtain ⟨x, l, e, mx, lp, hl⟩ := h.pre i hi
    obtain ⟨j, mj, rfl⟩ := List.mem_map.mp mx
    exact ⟨_, j, _, e, pm.mem_iff.mpr mj, com3 (by decide) hl⟩
  · obtain ⟨kk, e⟩ := h.at_
    exact (h.nk _ (List.mem_of_getElem? e)).kd
  · rcases h.bad with b | b | ⟨j, mj, e, c⟩
    · exact .inl b
    · refine .inr (.inl ⟨_, b, fun z => ?_⟩)
      obtain ⟨j, mj, e⟩ := List.mem_map.mp z
      exact wjN_wrong.1 (e ▸ wd j (pm.mem_iff.mp mj))
    · exact .inr (.inr ⟨j, pm.mem_iff.mpr mj, e, c.com⟩)
def spBadCom (K : PySem.W.Frag) (w : World) : Sp := fun vs H Q _ => ∃ (p jd : Addr) (n : Nat) (js : List Jb), vs = [.ref p, .ref jd] ∧ Pool H p n ∧ n + 100 < 1000000 ∧ DJ H jd js ∧ GoodJ js ∧ js ≠ [] ∧ js.length ≤ 4 ∧
  ∀ (t a : Addr) (od : Obj) (rows : List MRow) (m : Nat) (key v : V) (H' : Hp), ExA p H H' → Pool H' p (n + 100) → H' t = some (.tup [.ref a, key]) → H' a = some (.frz od (DO w a rows)) → BadCP K p H' rows js m key v → Q (.ref t) H'
section
variable {P : Program} {w : World} {K : PySem.W.Frag} {mg : Str → Option Value} {base : Heap} {f : Addr} {fd : FuncData}
theorem scBadCom : FnScope ["_law_pool_here", "_law_jobs_here", "_law_job", "_law_distance", "_law_odds", "_law_rows", "_law_odd", "_law_key", "_law_one_here"] ["_law_pool_here", "_law_jobs_here"] (defScope sBadCom) := ⟨rfl, rfl, rfl, by decide +kernel, rfl, by decide +kernel, by decide +kernel⟩
theorem ok_bad_com (F : FnP K "_law_bad_comings" sBadCom f fd) (FO : Has P w K mg base "_law_one" 2 ["_law_pool_here", "_law_things"] spOneP) (FT : Has P w K mg base "_law_take" 1 ["_law_pool_here", "_law_many"] spTakeP) (gs : mg "sorted" = none) (gd : mg "dict" = none) : FnOk P w K mg base CX0 3 f fd ["_law_pool_here", "_law_jobs_here"] (spBadCom K w) := by
  refine F.ok scBadCom (fun vs H Q E h => ?_) (fun cdv A outer s H vs Q E hr h => ?_)
  · obtain ⟨p, jd, n, js, rfl, _⟩ := h
    rfl
  · have hu := hu_of hr
    have h64 := hr.units
    have hu16 : (A.deeper (envOfC "_law_bad_comings" (defScope sBadCom) s.heap.objs.size f cdv)).units + 16 < cLine := Nat.lt_of_le_of_lt (Nat.add_le_add_left (by decide) _) h64
    refine ⟨_, PSs.nox (pss_cut (ps_set (i := 2) scBadCom.nd rfl (.inr rfl) (pe_has FO hr (by decide) rfl (pa_cons (pv 0) (pa_cons (pe_callB (call_sd rfl) rfl gs boot_sorted (pa_cons (pv 1) pa_nil)) pa_nil))))
      (pss_cut (ps_set (i := 3) scBadCom.nd rfl (.inl rfl) (pe_ix ix_sq (pe_dget hu (pv 1) (pv 2) (fun _ _ => rfl)) pe_int (fun _ _ => rfl)))
      (pss_cut (ps_set (i := 4) scBadCom.nd rfl (.inl rfl) (pe_lst (pa_cons pe_non (pa_cons pe_int (pa_cons pe_str (pa_cons pe_dnewK (pa_cons (pe_lst (pa_cons (pe_op op_sub pe_int pe_int) pa_nil)) (pa_cons (pe_lst (pa_cons pe_bl pa_nil)) (pa_cons (pe_lst (pa_cons pe_non pa_nil)) (pa_cons (pe_lst (pa_cons (pe_tup (pa_cons pe_int pa_nil)) pa_nil)) (pa_cons (pe_lst (pa_cons pe_int (pa_cons pe_int pa_nil))) pa_nil)))))))))))
      (pss_cut (ps_set (i := 4) scBadCom.nd rfl (.inl rfl) (pe_op op_cat (pv 4) (pe_lst (pa_cons (pe_lst (pa_cons pe_int (pa_cons (pe_op op_sub (pv 3) pe_int) pa_nil))) (pa_cons (pe_lst (pa_cons pe_int (pa_cons (pe_op op_add pe_int (pv 3)) (pa_cons (pe_op op_add pe_int (pv 3)) pa_nil)))) pa_nil)))))
      (pss_cut (ps_set (i := 5) scBadCom.nd rfl (.inl rfl) (pe_slice sl_list (pe_lc (te := tTup (tCons (tVar 8) (tCons (tLst (tCons (tC (.int 0)) tNil)) tNil))) (tt := tTest (tOp rNe (tVar 8) (tVar 2))) (own := [("_law_one_here", 8)]) rfl scBadCom.nd (pi_list (pe_callB (call_sd rfl) rfl gs boot_sorted (pa_cons (pv 1) pa_nil))) (blkOk_by (by kernel_rfl)) (fun s H C cl fp => pg_name (i := 8) scBadCom.nd rfl (.inl rfl) (.inr rfl)) (fun s H C cl fp => pts_one (pt_cmpR op_ne (pv 8) (pv 2) (nomark _)))
        (fun s H C cl fp => pe_tup (pa_cons (pv 8) (pa_cons (pe_lst (pa_cons pe_int pa_nil)) pa_nil)))) po_none (po_some (pe_has FT hr (by decide) rfl (pa_cons (pv 0) (pa_cons pe_int pa_nil))))))
      (pss_cut (ps_set (i := 6) scBadCom.nd rfl (.inl rfl) (pe_has FO hr (by decide) rfl (pa_cons (pv 0) (pa_cons (pv 4) pa_nil))))
      (pss_cut (ps_asg (pe_has FO hr (by decide) rfl (pa_cons (pv 0) (pa_cons (pe_lst (pa_cons (pe_tup (pa_cons (pv 2) (pa_cons (pv 6) pa_nil))) (pa_cons (pe_tup (pa_cons (pv 2) (pa_cons (pv 6) pa_nil))) (pa_cons (pe_tup (pa_cons pe_str (pa_cons (pe_lst (pa_cons pe_int pa_nil)) pa_nil))) (pa_cons (pe_tup (pa_cons pe_int (pa_cons (pe_lst pa_nil) pa_nil))) (pa_cons (pe_tup (pa_cons pe_non (pa_cons (pe_lst pa_nil) pa_nil))) pa_nil)))))) pa_nil))) (pg_tup rfl (pgs_cons (pg_name (i := 7) scBadCom.nd rfl (.inl rfl)) (pgs_cons (pg_name (i := 6) scBadCom.nd rfl (.inl rfl)) pgs_nil))))
      (pss_one (ps_ret (pe_tup (pa_cons (pe_lk (pe_callTy (call_dictO rfl hu16) rfl gd boot_dict (pa_cons (pe_op op_cat (pv 5) (pe_lst (pa_cons (pe_tup (pa_cons (pv 7) (pa_cons (pv 6) pa_nil))) (pa_cons (pe_tup (pa_cons pe_str (pa_cons pe_non pa_nil))) pa_nil)))) pa_nil))) (pa_cons (pv 7) pa_nil)))))))))))), ?_⟩
    obtain ⟨p, jd, n, js, rfl, S, hn, dj, g, ne, l4, hQ⟩ := h
    obtain ⟨kj, hj, pj⟩ := dj
    have s2 : 2 ≤ sizeLine := by decide
    have jl : js.length ≤ 4 := l4
    have jpos : 0 < js.length := List.length_pos_iff.mpr ne
    refine ⟨fun σ' H' => ∃ j ∈ js, σ' = [some (.ref p), some (.ref jd), some (.str j.name), none, none, none, none, none, none] ∧ ExA p H H' ∧ Pool H' p (n + 1), ?_, ?_⟩
    · refine ⟨.ref p, rfl, .ref jd, rfl, jd, kj, js.map Jb.name, rfl, .inl hj, ja_keys pj, by rw [List.length_map]; omega, fun ns q pm so nq => ?_⟩
      have x1 := Ex.new (o := .lst (ns.map V.str)) nq
      have S1 := S.ex x1
      have nl : ns.length = js.length := by rw [pm.length_eq, List.length_map]
      refine ⟨p, q, n, ns.map V.str, rfl, S1, by omega, S.off nq, upd_same, fun z => ?_, by rw [List.length_map]; omega, fun y H2 my x2 S2 => ?_⟩
      · have := congrArg List.length z
        rw [List.length_map, nl] at this
        have e0 : ([] : List V).length = 0 := rfl
        omega
      obtain ⟨x, mx, rfl⟩ := List.mem_map.mp my
      obtain ⟨j, mj, rfl⟩ := List.mem_map.mp (pm.mem_iff.mp mx)
      exact ⟨j, mj, rfl, x1.exA.trans x2, S2⟩
    rintro σ1 H1 ⟨j, mj, rfl, x1, S1⟩
    obtain ⟨v, ev, _, t, q, xs, e2, ht, hq, cb⟩ := ja_get pj g.nd mj
    have e2 : v = .ref t := e2
    subst e2
    have hj1 : H1 jd = some (.dK kj) := x1.nl S hj fun _ z => nomatch z
    have d1 : 1 ≤ j.di := g.di j mj
    refine ⟨fun σ' H' => σ' = [some (.ref p), some (.ref jd), some (.str j.name), some (.int j.di), none, none, none, none, none] ∧ H' = H1, ?_, ?_⟩
    · exact ⟨.ref jd, rfl, .str j.name, rfl, jd, .ref t, rfl, ev ▸ DGet.k (k := Sum.inr j.name) hj1, t, _, 1, .int j.di, rfl, rfl, .inr (.inl (.inl (x1.kt S _ _ ht))), at_nat (k := 1) rfl, rfl, rfl⟩
    rintro σ2 H2 ⟨rfl, rfl⟩
    have sp : H2 p ≠ none := by
      obtain ⟨_, _, _, e0, _⟩ := S1
      rw [e0]
      exact fun z => nomatch z
    have d3 : DpP p H2 (.int j.di) (.int j.di) := .int _
    -- odds
    refine ⟨fun σ' H' => ∃ (oa : Addr) (xs : List V), σ' = [some (.ref p), some (.ref jd), some (.str j.name), some (.int j.di), some (.ref oa), none, none, none, none] ∧ Ex H2 H' ∧ oa ≠ p ∧ H' oa = some (.lst xs) ∧ (∀ v ∈ xs, OddC K p j.di H' v) ∧ xs.length = 9, ?_, ?_⟩
    · refine lst_val (P := OddC K p j.di) (n := 9) OddC.ex (by decide) (valA_cons OddC.ex (oddc_flat (fun H Q q => q) (fun H => Od.non) rfl) (valA_cons OddC.ex (oddc_flat (fun H Q q => q) (fun H => Od.int 5) rfl) (valA_cons OddC.ex (oddc_flat (v := .str "ab") (fun H Q q => q) (fun H => Od.str (by decide +kernel)) rfl) (valA_cons OddC.ex (oddc_dict sp) (valA_cons OddC.ex (oddc_of (ds := [.int (0 - 1)]) (lit_lst sp (by show 1 ≤ 1000; decide) (litA_cons (lit_sub (lit_int 0) (lit_int 1)) litA_nil)) (by rfl) (by show 1 ≤ 60; decide) (by show comD (j.di : Int) _ = false; first | rfl | exact com90 d1)) (valA_cons OddC.ex (oddc_of (ds := [.bool true]) (lit_lst sp (by show 1 ≤ 1000; decide) (litA_cons (lit_bl true) litA_nil)) (by rfl) (by show 1 ≤ 60; decide) (by show comD (j.di : Int) _ = false; first | rfl | exact com90 d1)) (valA_cons OddC.ex (oddc_of (ds := [.none]) (lit_lst sp (by show 1 ≤ 1000; decide) (litA_cons lit_non litA_nil)) (by rfl) (by show 1 ≤ 60; decide) (by show comD (j.di : Int) _ = false; first | rfl | exact com90 d1)) (valA_cons OddC.ex (oddc_of (ds := [.tuple [.int 0]]) (lit_lst sp (by show 1 ≤ 1000; decide) (litA_cons (lit_tup (by show 1 ≤ 1000; decide) (litA_cons (lit_int 0) litA_nil)) litA_nil)) (by rfl) (by show 1 ≤ 60; decide) (by show comD (j.di : Int) _ = false; first | rfl | exact com90 d1)) (valA_cons OddC.ex (oddc_of (ds := [.int 9, .int 0]) (lit_lst sp (by show 2 ≤ 1000; decide) (litA_cons (lit_int 9) (litA_cons (lit_int 0) litA_nil))) (by rfl) (by show 2 ≤ 60; decide) (by show comD (j.di : Int) _ = false; first | rfl | exact com90 d1)) valA_nil))))))))) Ex.refl fun oa xs H3 x3 noa hoa ho len => ?_
      exact ⟨oa, xs, rfl, x3, fun z => sp (z ▸ noa), hoa, ho, len⟩
    rintro σ3 H3 ⟨oa, xs, rfl, x3, oap, hoa, ho, len⟩
    refine ⟨fun σ' H' => ∃ (oa : Addr) (xs : List V), σ' = [some (.ref p), some (.ref jd), some (.str j.name), some (.int j.di), some (.ref oa), none, none, none, none] ∧ Ex H2 H' ∧ oa ≠ p ∧ H' oa = some (.lst xs) ∧ (∀ v ∈ xs, OddC K p j.di H' v) ∧ xs.length = 9 + 2, ?_, ?_⟩
    · refine op_one ⟨.ref oa, rfl, lst_val (P := OddC K p j.di) (n := 2) OddC.ex (by decide) (valA_cons OddC.ex (oddc_of (ds := [.int 0, .int ((j.di : Int) - 1)]) (lit_lst sp (by show 2 ≤ 1000; decide) (litA_cons (lit_int 0) (litA_cons (lit_sub (lit_var rfl d3) (lit_int 1)) litA_nil))) (by rfl) (by show 2 ≤ 60; decide) (com0 d1)) (valA_cons OddC.ex (oddc_of (ds := [.int 3, .int (3 + (j.di : Int)), .int (2 + (j.di : Int))]) (lit_lst sp (by show 3 ≤ 1000; decide) (litA_cons (lit_int 3) (litA_cons (lit_add (lit_int 3) (lit_var rfl d3)) (litA_cons (lit_add (lit_int 2) (lit_var rfl d3)) litA_nil)))) (by rfl) (by show 3 ≤ 60; decide) (com3b d1)) valA_nil)) x3 fun q2 vs H' x' nq2 hq2 hv len2 => ⟨oa, q2, xs, vs, rfl, rfl, x' _ _ hoa, hq2, by rw [len, len2, sizeLine_eq]; omega, fun r nr => ?_⟩⟩
      have xr := Ex.new (o := .lst (xs ++ vs)) nr
      refine ⟨r, xs ++ vs, rfl, x3.trans (x'.trans xr), fun z => sp ((x3.trans x').none (z ▸ nr)), upd_same, fun v mv => ?_, by rw [List.length_append, len, len2]⟩
      rcases List.mem_append.mp mv with mv | mv
      · exact (ho v mv).ex _ _ _ (x'.trans xr)
      · exact (hv v mv).ex _ _ _ xr
    rintro σ4 H4 ⟨oa, xs, rfl, x4, oap, hoa, ho, len⟩
    have S4 := S1.ex x4
    have hj4 := x4 _ _ hj1
    -- rows
    refine ⟨fun σ' H' => ∃ (ra : Addr) (ps' : List Addr) (rws : List MRow) (zs : List Str), σ' = [some (.ref p), some (.ref jd), some (.str j.name), some (.int j.di), some (.ref oa), some (.ref ra), none, none, none] ∧ ExA p H4 H' ∧ Pool H' p (n + 2) ∧ ra ≠ p ∧ H' ra = some (.lst (ps'.map V.ref)) ∧ Paired (fun a (r : MRow) => H' a = some (.tup [r.2.1, r.2.2])) ps' rws ∧ zs.Nodup ∧ zs.length ≤ 4 ∧ (∀ x ∈ zs, x ∈ js.map Jb.name ∧ x ≠ j.name) ∧ Paired (fun x (r : MRow) => r.1 = .text x ∧ r.2.1 = .str x ∧ ∃ l, r.2.2 = .ref l ∧ l ≠ p ∧ H' l = some (.lst [.int 0])) zs rws, ?_, ?_⟩
    · refine ⟨.ref jd, rfl, jd, kj, js.map Jb.name, rfl, .inl hj4, ja_keys pj, by rw [List.length_map]; omega, fun ns q1 pm so nq => ?_⟩
      have xa := Ex.new (o := .lst (ns.map V.str)) nq
      have hq1 : upd H4 q1 (.lst (ns.map V.str)) q1 = some (.lst (ns.map V.str)) := upd_same
      generalize upd H4 q1 (.lst (ns.map V.str)) = Ha at xa hq1 ⊢
      have Sa := S4.ex xa
      have spa : Ha p ≠ none := fun z => sp (x4.none (xa.none z))
      have nsl : ns.length ≤ 4 := by rw [pm.length_eq, List.length_map]; exact l4
      have nnd : ns.Nodup := pm.nodup_iff.mpr g.nd
      obtain ⟨F, eF⟩ : ∃ F : Str → Bool, F = fun x => !decide (x = j.name) := ⟨_, rfl⟩
      refine ⟨q1, rfl, ⟨_, .inl (.inl hq1)⟩, fun D nD => ?_⟩
      have Dp1 : D ≠ p := fun z => spa (z ▸ nD)
      refine lc_list (K := K) (xs := ns.map V.str) (fun i H' => ∃ (ps' : List Addr) (rws : List MRow), Ex Ha H' ∧ H' D = some (.lst (ps'.map V.ref)) ∧ Paired (fun a (r : MRow) => H' a = some (.tup [r.2.1, r.2.2])) ps' rws ∧ Paired (fun x (r : MRow) => r.1 = .text x ∧ r.2.1 = .str x ∧ ∃ l, r.2.2 = .ref l ∧ l ≠ p ∧ l ≠ D ∧ H' l = some (.lst [.int 0])) ((ns.take i).filter F) rws) ⟨[], [], Ex.new nD, upd_same, .nil, .nil⟩ (fun i H' _ ⟨_, _, x, _⟩ => .inl (.inl (x _ _ hq1))) (fun i v H9 hv h => ?_) fun H9 h => ?_
      · obtain ⟨ps', rws, x9, hD, pt, pk⟩ := h
        rw [List.getElem?_map] at hv
        obtain ⟨x, ex, rfl⟩ := Option.map_eq_some_iff.mp hv
        have tk : (ns.take (i + 1)).filter F = (ns.take i).filter F ++ (if F x = true then [x] else []) := by
          rw [List.take_add_one, ex, Option.toList_some, List.filter_append]
          cases h : F x <;> simp [h]
        refine ⟨rfl, .str x, rfl, .str j.name, rfl, rfl, F x, ?_, ?_⟩
        · rw [eF]
          show V.bl (!decide (V.str x = V.str j.name)) = V.bl (!decide (x = j.name))
          rw [dec_str]
        rw [tk]
        cases hF : F x with
        | false => exact ⟨ps', rws, x9, hD, pt, by rw [if_neg Bool.false_ne_true, List.append_nil]; exact pk⟩
        | true =>
          refine ⟨.str x, rfl, by show 1 ≤ sizeLine; decide, fun l nl => ⟨s2, fun t nt => ?_⟩⟩
          have xl := Ex.new (o := .lst [.int 0]) nl
          have xt := Ex.new (o := .tup [.str x, .ref l]) nt
          have hl := xt _ _ (upd_same (H := H9) (a := l) (o := .lst [.int 0]))
          have ht := upd_same (H := upd H9 l (.lst [.int 0])) (a := t) (o := .tup [.str x, .ref l])
          have xlt := xl.trans xt
          have lD : l ≠ D := fun z => by rw [z, hD] at nl; cases nl
          have lp : l ≠ p := fun z => spa (x9.none (z ▸ nl))
          generalize upd (upd H9 l (.lst [.int 0])) t (.tup [.str x, .ref l]) = H10 at xlt hl ht ⊢
          have hD10 := xlt _ _ hD
          have pl : ps'.length ≤ 4 := by
            have e1 := Paired.length pk
            have e2 := Paired.length pt
            have e3 := List.length_filter_le F (ns.take i)
            rw [List.length_take] at e3
            omega
          have off : ∀ {b ys}, H10 b = some (.tup ys) → b ≠ D := fun h z => by rw [z, hD10] at h; cases h
          refine ⟨_, hD10, by rw [List.length_map, sizeLine_eq]; omega, ps' ++ [t], rws ++ [(.text x, .str x, .ref l)], fun b o e => (upd_ne fun z => by rw [z, nD] at e; cases e).trans (xlt _ _ (x9 _ _ e)), by rw [upd_same, List.map_append]; rfl, paired_app (Paired.mapP pt fun _ _ z => (upd_ne (off (xlt _ _ z))).trans (xlt _ _ z)) ((upd_ne (off ht)).trans ht), ?_⟩
          rw [if_pos rfl]
          exact paired_app (Paired.mapP pk fun _ _ ⟨z1, z2, l2, z3, z4, z6, z5⟩ => ⟨z1, z2, l2, z3, z4, z6, (upd_ne z6).trans (xlt _ _ z5)⟩) ⟨rfl, rfl, l, rfl, lp, lD, (upd_ne lD).trans hl⟩
      · obtain ⟨ps', rws, x9, hD, pt, pk⟩ := h
        rw [List.length_map, List.take_length] at pk
        have S9 := Sa.ex x9
        refine ⟨.ref p, rfl, p, 3, _, rfl, S9, by omega, by decide, by decide, fun d H10 hd x10 S10 => ⟨d, rfl, D, _, rfl, .inl (.inl (x10 _ _ Dp1 hD)), fun ra nra => ?_⟩⟩
        rw [cut_take, ← List.map_take]
        have xr := Ex.new (o := .lst ((ps'.take d).map V.ref)) nra
        have kt := x10.kt S9
        have e1 := Paired.length pk
        have e3 := List.length_filter_le F ns
        refine ⟨ra, ps'.take d, rws.take d, (ns.filter F).take d, rfl, ((xa.trans x9).exA.trans x10).trans xr.exA, S10.ex xr, S10.off nra, upd_same, paired_take (Paired.mapP pt fun _ _ z => xr _ _ (kt _ _ z)) d, (List.take_sublist _ _).nodup (List.filter_sublist.nodup nnd), ?_, fun x mx => ?_, paired_take (Paired.mapP pk fun _ _ ⟨z1, z2, l2, z3, z4, z6, z5⟩ => ⟨z1, z2, l2, z3, z4, xr _ _ (x10 _ _ z4 z5)⟩) d⟩
        · rw [List.length_take]
          omega
        · obtain ⟨m1, m2⟩ := List.mem_filter.mp (List.mem_of_mem_take mx)
          refine ⟨pm.mem_iff.mp m1, fun z => ?_⟩
          rw [eF, z] at m2
          simp at m2
    rintro σ5 H5 ⟨ra, ps', rws, zs, rfl, x5, S5, rap, hra, pt, znd, zl, zw, pk⟩
    have ho5 : ∀ v ∈ xs, OddC K p j.di H5 v := fun v m => (ho v m).p x5.p S4
    have hoa5 := x5 _ _ oap hoa
    -- odd
    refine ⟨fun σ' H' => ∃ ov, σ' = [some (.ref p), some (.ref jd), some (.str j.name), some (.int j.di), some (.ref oa), some (.ref ra), some ov, none, none] ∧ ExA p H5 H' ∧ Pool H' p (n + 3) ∧ OddC K p j.di H' ov, ?_, ?_⟩
    · refine ⟨.ref p, rfl, .ref oa, rfl, p, oa, n + 2, xs, rfl, S5, by omega, oap, hoa5, fun z => ?_, by rw [len]; decide, fun y H9 my x9 S9 => ⟨y, rfl, x9, S9, (ho5 y my).p x9.p S5⟩⟩
      rw [z] at len; cases len
    rintro σ6 H6 ⟨ov, rfl, x6, S6, hov⟩
    have sp6 : H6 p ≠ none := by
      obtain ⟨_, _, _, e0, _⟩ := S6
      rw [e0]
      exact fun z => nomatch z
    -- key, odd
    refine ⟨fun σ' H' => ∃ (key ov2 : V) (kk : NestedKey), σ' = [some (.ref p), some (.ref jd), some (.str j.name), some (.int j.di), some (.ref oa), some (.ref ra), some ov2, some key, none] ∧ ExA p H6 H' ∧ Pool H' p (n + 4) ∧ KeyO kk key ∧ (∀ x ∈ wjN, x ≠ j.name → kk ≠ .text x) ∧ kk ≠ .text "worse" ∧ (isWd key = false ∨ key = .str "wrong" ∨ (key = .str j.name ∧ OddC K p j.di H' ov2)), ?_, ?_⟩
    · refine ⟨.ref p, rfl, ?_⟩
      refine lst_val (H0 := H6) (P := PairV (FiveC j.name ov)) (n := 5) PairV.ex (by decide) (valA_cons PairV.ex (pair_g (k := .str j.name) (w := ov) (fun H Q k => ⟨_, rfl, k⟩) (fun H Q k => ⟨ov, rfl, k⟩) (.inl ⟨rfl, rfl⟩)) (valA_cons PairV.ex (pair_g (k := .str j.name) (w := ov) (fun H Q k => ⟨_, rfl, k⟩) (fun H Q k => ⟨ov, rfl, k⟩) (.inl ⟨rfl, rfl⟩)) (valA_cons PairV.ex (pair_a (p := p) (k := .str "wrong") (fun H Q k => k) (lit_lst sp6 (by show 1 ≤ 1000; decide) (litA_cons (lit_int 0) litA_nil)) (fun _ => .inr (.inl rfl))) (valA_cons PairV.ex (pair_a (p := p) (k := .int 5) (fun H Q k => k) (lit_lst sp6 (by show 0 ≤ 1000; decide) litA_nil) (fun _ => .inr (.inr (.inl rfl)))) (valA_cons PairV.ex (pair_a (p := p) (k := .non) (fun H Q k => k) (lit_lst sp6 (by show 0 ≤ 1000; decide) litA_nil) (fun _ => .inr (.inr (.inr rfl)))) valA_nil))))) Ex.refl fun l vs H8 x8 nl hl hv len8 => ?_
      have S8 := S6.ex x8
      have lp : l ≠ p := fun z => sp6 (z ▸ nl)
      refine ⟨p, l, n + 3, vs, rfl, S8, by omega, lp, hl, fun z => ?_, by rw [len8]; decide, fun y H9 my x9 S9 => ?_⟩
      · rw [z] at len8; cases len8
      obtain ⟨t9, k9, w9, rfl, ht9, f9⟩ := hv y my
      have ht9' := x9.kt S8 _ _ ht9
      have x69 := x8.exA.trans x9
      obtain ⟨nw1, nw2, nw3⟩ := wjN_wrong
      refine ⟨t9, _, rfl, .inl (.inl ht9'), rfl, k9, [w9], rfl, w9, [], rfl, rfl, k9, w9, ?_⟩
      have jw := g.wd j mj
      have jln := okS_len (wjN_ok _ jw)
      rcases f9 with ⟨rfl, rfl⟩ | rfl | rfl | rfl
      · exact ⟨.text j.name, rfl, x69, S9, .inr (.inr ⟨_, rfl, rfl, by omega⟩), fun x mx nx z => nx (NestedKey.text.inj z).symm, fun z => nw2 (NestedKey.text.inj z ▸ jw), .inr (.inr ⟨rfl, (hov.ex _ _ _ x8).p x9.p S8⟩)⟩
      · exact ⟨.text "wrong", rfl, x69, S9, .inr (.inr ⟨_, rfl, rfl, by decide +kernel⟩), fun x mx nx z => nw1 (NestedKey.text.inj z ▸ mx), fun z => absurd (NestedKey.text.inj z) (by decide +kernel), .inr (.inl rfl)⟩
      · exact ⟨.num 5, rfl, x69, S9, .inr (.inl ⟨5, rfl, rfl⟩), (fun x mx nx z => nomatch z), (fun z => nomatch z), .inl rfl⟩
      · exact ⟨.none, rfl, x69, S9, .inl ⟨rfl, rfl⟩, (fun x mx nx z => nomatch z), (fun z => nomatch z), .inl rfl⟩
    rintro σ9 H9 ⟨key, ov2, kk, rfl, x9, S9, ko, kn1, kn2, bad⟩
    have x59 := x6.trans x9
    have hra9 := x59 _ _ rap hra
    have kt9 := x59.kt S5
    have pt9 : Paired (fun a (r : MRow) => H9 a = some (.tup [r.2.1, r.2.2])) ps' rws := Paired.mapP pt fun _ _ z => kt9 _ _ z
    have pk9 : Paired (fun x (r : MRow) => r.1 = .text x ∧ r.2.1 = .str x ∧ ∃ l, r.2.2 = .ref l ∧ l ≠ p ∧ H9 l = some (.lst [.int 0])) zs rws := Paired.mapP pk fun _ _ ⟨z1, z2, l2, z3, z4, z5⟩ => ⟨z1, z2, l2, z3, z4, x59 _ _ z4 z5⟩
    have rl := Paired.length pk
    have pl := Paired.length pt
    have rn := rows_names pk fun _ _ z => z.1
    have zw2 : ∀ x ∈ zs, x ∈ wjN := fun x m => by
      obtain ⟨j2, mj2, rfl⟩ := List.mem_map.mp (zw x m).1
      exact g.wd j2 mj2
    have nkr : ∀ r ∈ rws ++ [(kk, key, ov2), (NestedKey.text "worse", V.str "worse", V.non)], KeyO r.1 r.2.1 := fun r mr => by
      rcases List.mem_append.mp mr with mr | mr
      · obtain ⟨i, hi⟩ := List.getElem?_of_mem mr
        obtain ⟨x, ex, z1, z2, _⟩ := paired_get pk hi
        rw [z1, z2]
        have := okS_len (wjN_ok _ (zw2 x (List.mem_of_getElem? ex)))
        exact .inr (.inr ⟨x, rfl, rfl, by omega⟩)
      · rcases List.mem_cons.mp mr with rfl | mr
        · exact ko
        · rw [List.mem_singleton.mp mr]
          exact .inr (.inr ⟨_, rfl, rfl, by decide +kernel⟩)
    have ndr := nd_rows (v := ov2) (key := key) znd rn (fun x m => kn1 x (zw2 x m) (zw x m).2) (fun z => wjN_wrong.2.1 (zw2 _ z)) kn2
    refine ⟨.ref ra, rfl, key, rfl, ov2, rfl, s2, fun t1 nt1 => ⟨s2, fun t2 nt2 => ⟨s2, fun l1 nl1 => ?_⟩⟩⟩
    have y1 := Ex.new (o := .tup [key, ov2]) nt1
    have y2 := Ex.new (o := .tup [.str "worse", .non]) nt2
    have y3 := Ex.new (o := .lst [.ref t1, .ref t2]) nl1
    have ht1 := y3 _ _ (y2 _ _ (upd_same (H := H9) (a := t1) (o := .tup [key, ov2])))
    have ht2 := y3 _ _ (upd_same (H := upd H9 t1 (.tup [key, ov2])) (a := t2) (o := .tup [.str "worse", .non]))
    have hl1 := upd_same (H := upd (upd H9 t1 (.tup [key, ov2])) t2 (.tup [.str "worse", .non])) (a := l1) (o := .lst [.ref t1, .ref t2])
    have y13 := y1.trans (y2.trans y3)
    have hra13 := y13 _ _ hra9
    generalize upd (upd (upd H9 t1 (.tup [key, ov2])) t2 (.tup [.str "worse", .non])) l1 (.lst [.ref t1, .ref t2]) = Hb at y13 ht1 ht2 hl1 hra13 ⊢
    refine ⟨ra, l1, _, _, rfl, rfl, hra13, hl1, by rw [List.length_map, sizeLine_eq]; show ps'.length + 2 ≤ _; omega, fun rb nrb => ?_⟩
    have y4 := Ex.new (o := .lst (ps'.map V.ref ++ [.ref t1, .ref t2])) nrb
    have hrb : upd Hb rb (.lst (ps'.map V.ref ++ [.ref t1, .ref t2])) rb = some (.lst ((ps' ++ [t1, t2]).map V.ref)) := by rw [upd_same, List.map_append]; rfl
    have y14 := y13.trans y4
    have ptb : Paired (fun a (r : MRow) => upd Hb rb (.lst (ps'.map V.ref ++ [.ref t1, .ref t2])) a = some (.tup [r.2.1, r.2.2])) (ps' ++ [t1, t2]) (rws ++ [(kk, key, ov2), (NestedKey.text "worse", V.str "worse", V.non)]) := paired_apps (Paired.mapP pt9 fun _ _ z => y14 _ _ z) (.cons (y4 _ _ ht1) (.cons (y4 _ _ ht2) .nil))
    generalize upd Hb rb (.lst (ps'.map V.ref ++ [.ref t1, .ref t2])) = Hc at y14 hrb ptb ⊢
    refine ⟨rb, ps' ++ [t1, t2], _, rfl, .inl (.inl hrb), Paired.mapP ptb fun _ _ z => .inl (.inl z), fun r mr => (nkr r mr).nk, ndr, fun a na => ⟨a, _, rfl, upd_same, trivial, fun od => ⟨key, rfl, s2, fun t nt => ?_⟩⟩⟩
    have xz : Ex Hc (upd (upd Hc a (DO w a (rws ++ [(kk, key, ov2), (NestedKey.text "worse", V.str "worse", V.non)]))) a (.frz od (DO w a (rws ++ [(kk, key, ov2), (NestedKey.text "worse", V.str "worse", V.non)])))) := fun b o e => (upd_ne fun z => by rw [z, na] at e; cases e).trans ((upd_ne fun z => by rw [z, na] at e; cases e).trans e)
    have hz : (upd (upd Hc a (DO w a (rws ++ [(kk, key, ov2), (NestedKey.text "worse", V.str "worse", V.non)]))) a (.frz od (DO w a (rws ++ [(kk, key, ov2), (NestedKey.text "worse", V.str "worse", V.non)])))) a = some (.frz od (DO w a (rws ++ [(kk, key, ov2), (NestedKey.text "worse", V.str "worse", V.non)]))) := upd_same
    have xt : Ex (upd (upd Hc a (DO w a (rws ++ [(kk, key, ov2), (NestedKey.text "worse", V.str "worse", V.non)]))) a (.frz od (DO w a (rws ++ [(kk, key, ov2), (NestedKey.text "worse", V.str "worse", V.non)])))) (upd (upd (upd Hc a (DO w a (rws ++ [(kk, key, ov2), (NestedKey.text "worse", V.str "worse", V.non)]))) a (.frz od (DO w a (rws ++ [(kk, key, ov2), (NestedKey.text "worse", V.str "worse", V.non)])))) t (.tup [.ref a, key])) := Ex.new nt
    have xzt := y14.trans (xz.trans xt)
    refine hQ t a od _ rws.length key ov2 _ ((((x1.trans x4.exA).trans x5).trans x59).trans xzt.exA) ((S9.ex xzt).mono (by omega)) upd_same (xt _ _ hz) ⟨nkr, ndr, fun i hi => ?_, ⟨kk, by rw [List.getElem?_append_right (Nat.le_refl _), Nat.sub_self]; rfl⟩, ?_⟩
    · obtain ⟨r, er⟩ : ∃ r, rws[i]? = some r := ⟨_, List.getElem?_eq_getElem hi⟩
      obtain ⟨x, ex, z1, z2, l2, z3, z4, z5⟩ := paired_get pk9 er
      refine ⟨x, l2, ?_, (zw x (List.mem_of_getElem? ex)).1, z4, xzt _ _ z5⟩
      rw [List.getElem?_append_left hi, er, ← z1, ← z2, ← z3]
    · rcases bad with b | b | ⟨b, c⟩
      · exact .inl b
      · exact .inr (.inl b)
      · exact .inr (.inr ⟨j, mj, b, c.ex _ _ _ xzt⟩)
end
end TH

/-! J24: values that are compared with themselves; what stands while the pool and tables change; methods that raise -/
namespace TH
open PySem PySem.Spec PyProof.Rows L2 LamV LamX XK0
open C8 (pss_cut tCut)
open OD
abbrev lamR : Str := ("_law_refused" : Str) ++ ".<locals>." ++ "<lambda>"
abbrev lamL : Str := ("law" : Str) ++ ".<locals>." ++ "<lambda>"
def SelfV (p : Addr) (H : Hp) (v : V) : Prop := (v = .non ∨ (∃ i, v = .int i) ∨ (∃ b, v = .bl b) ∨ ∃ x, v = .str x ∧ x.length ≤ 1000) ∨ (∃ a, v = .ref a ∧ a ≠ p ∧ H a = some (.lst [])) ∨ (∃ a, v = .ref a ∧ H a = some (.dK [])) ∨ ∃ a i, v = .ref a ∧ H a = some (.tup [.int i])
theorem SelfV.ex {p : Addr} {H H' : Hp} {v : V} (x : Ex H H') (h : SelfV p H v) : SelfV p H' v :=
  h.imp id (Or.imp (fun ⟨a, e, n, q⟩ => ⟨a, e, n, x _ _ q⟩) (Or.imp (fun ⟨a, e, q⟩ => ⟨a, e, x _ _ q⟩) fun ⟨a, i, e, q⟩ => ⟨a, i, e, x _ _ q⟩))
theorem SelfV.p {p : Addr} {H H' : Hp} {v : V} {n : Nat} (x : ExP p H H') (S : Pool H p n) (h : SelfV p H v) : SelfV p H' v :=
  h.imp id (Or.imp (fun ⟨a, e, n, q⟩ => ⟨a, e, n, x.lst q n⟩) (Or.imp (fun ⟨a, e, q⟩ => ⟨a, e, x.dk S q⟩) fun ⟨a, i, e, q⟩ => ⟨a, i, e, x.tup S q⟩))
theorem SelfV.kd {K : PySem.W.Frag} {p : Addr} {H : Hp} {v : V} (h : SelfV p H v) : ∃ T, Kd K H v T := by
  rcases h with (rfl | ⟨i, rfl⟩ | ⟨b, rfl⟩ | ⟨x, rfl, l⟩) | ⟨a, rfl, _, e⟩ | ⟨a, rfl, e⟩ | ⟨a, i, rfl, e⟩
  · exact ⟨"NoneType", by decide, .base .non, fun x z => nomatch z⟩
  · exact ⟨_, int_kd⟩
  · exact ⟨"bool", by show "bool" ∈ tys; decide, .base (.bl b), fun x z => nomatch z⟩
  · exact ⟨_, str_kd l⟩
  · exact ⟨_, sqL_kd (.inl (.inl e))⟩
  · exact ⟨"dict", by decide, .base (.dK e), fun x z => nomatch z⟩
  · exact ⟨_, sqT_kd (.inl (.inl e))⟩
theorem SelfV.same {K : PySem.W.Frag} {p : Addr} {H : Hp} {v : V} {n : Nat} (h : SelfV p H v) : SameV K H (n + 2) v v := by
  rcases h with h | ⟨a, rfl, _, e⟩ | ⟨a, rfl, e⟩ | ⟨a, i, rfl, e⟩
  · refine .inl (.inl ⟨rfl, ?_⟩)
    rcases h with h | h | h | h
    · exact .inr (.inr (.inl h))
    · exact .inl h
    · exact .inr (.inl h)
    · exact .inr (.inr (.inr h))
  · exact .inr ⟨a, a, [], [], rfl, rfl, .inl ⟨.inl (.inl e), .inl (.inl e)⟩, by decide, .nil⟩
  · exact .inl (.inr ⟨a, a, rfl, rfl, e, e⟩)
  · exact .inr ⟨a, a, [.int i], [.int i], rfl, rfl, .inr ⟨.inl (.inl e), .inl (.inl e)⟩, by show 1 ≤ 1000; decide, .cons (.inl (.inl ⟨rfl, .inl ⟨i, rfl⟩⟩)) .nil⟩
theorem KeyO.self {p : Addr} {H : Hp} {k : NestedKey} {v : V} (h : KeyO k v) : SelfV p H v := by
  rcases h with ⟨rfl, rfl⟩ | ⟨i, rfl, rfl⟩ | ⟨x, rfl, rfl, l⟩
  · exact .inl (.inl rfl)
  · exact .inl (.inr (.inl ⟨i, rfl⟩))
  · exact .inl (.inr (.inr (.inr ⟨x, rfl, l⟩)))
/-- what is found is what is due -/
theorem same_go {K : PySem.W.Frag} {p : Addr} {H : Hp} {n : Nat} {ps qs : List Addr} {its : List (Str × V)} (h : Paired (fun q (it : Str × V) => H q = some (.tup [.str it.1, it.2])) ps its) (g : Paired (fun q (it : Str × V) => H q = some (.tup [.str it.1, it.2])) qs its) (sf : ∀ it ∈ its, it.1.length ≤ 1000 ∧ SelfV p H it.2) : Paired (SameV K H (n + 3)) (ps.map V.ref) (qs.map V.ref) := by
  induction h generalizing qs with
  | nil => cases g; exact .nil
  | cons a _ ih =>
    cases g with
    | cons b g =>
      obtain ⟨s1, s2⟩ := sf _ List.mem_cons_self
      refine .cons (.inr ⟨_, _, _, _, rfl, rfl, .inr ⟨.inl (.inl a), .inl (.inl b)⟩, by show 2 ≤ 1000; decide, .cons (.inl (.inl ⟨rfl, .inr (.inr (.inr ⟨_, rfl, s1⟩))⟩)) (.cons s2.same .nil)⟩) (ih g fun it m => sf it (List.mem_cons_of_mem _ m))
theorem IsJb.p {F : Addr → Prop} {p : Addr} {H H' : Hp} {C t : Addr} {js : List Jb} {n : Nat} (x : ExP p H H') (S : Pool H p n) (h : IsJb F H C t js) : IsJb F H' C t js := by
  obtain ⟨dx, kj, ks, kc, kl, cl, e, f, ⟨kvs, h1, pr⟩, h2, h3, h4⟩ := h
  exact ⟨dx, kj, ks, kc, kl, cl, x.non S e (fun _ z => nomatch z) (fun _ z => nomatch z), f, ⟨kvs, x.dk S h1, Paired.mapP pr fun _ _ z => z.kt (x.kt S)⟩, x.dk S h2, x.dk S h3, h4⟩
theorem DJ.p {p : Addr} {H H' : Hp} {a : Addr} {js : List Jb} {n : Nat} (x : ExP p H H') (S : Pool H p n) (h : DJ H a js) : DJ H' a js := by
  obtain ⟨kvs, h1, pr⟩ := h
  exact ⟨kvs, x.dk S h1, Paired.mapP pr fun _ _ z => z.kt (x.kt S)⟩
theorem TellA.p {p : Addr} {H H' : Hp} {a : Addr} {js : List Jb} {n : Nat} (x : ExP p H H') (S : Pool H p n) (ne : ∀ kvs, H a = some (.dK kvs) → ∀ q ∈ kvs, q.2 ≠ .ref p) (h : TellA H a js) : TellA H' a js := by
  obtain ⟨kvs, h1, pr⟩ := h
  have go : ∀ {js : List Jb} {kvs : List (Key × V)}, (∀ q ∈ kvs, q.2 ≠ .ref p) → Paired (Co3 H) js kvs → Paired (Co3 H') js kvs := fun {js kvs} n q => by
    induction q with
    | nil => exact .nil
    | cons a _ ih =>
      obtain ⟨z1, l, z2, z3⟩ := a
      exact .cons ⟨z1, l, z2, x.lst z3 fun e => n _ List.mem_cons_self (by rw [z2, e])⟩ (ih fun q m => n q (List.mem_cons_of_mem _ m))
  exact ⟨kvs, x.dk S h1, go (ne kvs h1) pr⟩
/-! ### methods that raise -/
def MetX (P : Program) (w : World) (K : PySem.W.Frag) (mg : Str → Option Value) (base : Heap) (k : Nat) (C : Addr) (m : Str) (sp : Sp) : Prop := ∃ (f : Addr) (fd : FuncData) (ps : List Str), Cls K C ∧ Meth K C m f ∧ FnOk P w K mg base (L2.CX P w) k f fd ps sp ∧ Binds K fd ps []
theorem pe_mtX {X : Cx} {k j : Nat} {C : Addr} {m : Str} {sp : Sp} {W : WX} {E : XK} {pos apos : Pos} {e o : Expr} {es : List Expr} {ta : TE} {t : TA} {pl : Sem Bool} (c : MetX X.prog X.w X.K X.mg X.base k C m sp) (hr : Room j X.A) (hk : k ≤ j) (tk : Takes X W) (hW : ∀ cls d σ H, E cls d H → W cls d σ H) (he : PE X o ta) (ha : PA X (e :: es) t) (hst : starEach (e :: es) X.env = (false, eval e X.env) :: starEach es X.env := by rfl)
    (hpl : (backTo pos (starEach es X.env)).any (·.1) = false := by rfl) (ht : eval (.Call (.Attribute o m apos) (e :: es) [] pos) X.env = (do let ov ← eval o X.env; standAt apos.atName; let (f, first) ← holding [ov] (getMethod ov m pl); callWith pos f first (backTo pos (starEach (e :: es) X.env)) (backToKw pos (keywordEach [] X.env))) := by rfl) : PE X (.Call (.Attribute o m apos) (e :: es) [] pos) (tMeth C m sp [] E ta t) := by
  obtain ⟨f, fd, ps, hc, hm, F, b⟩ := c
  exact pe_meth (pl := pl) he hc hm F (hr.mono hk) b .nil (passes_call tk hW) ha hst hpl ht
end TH

/-! J25: _law_refused (its term printed by gen_j25.py) -/
namespace TH
open PySem PySem.Spec PyProof.Rows L2 LamV LamX XK0
open C8 (pss_cut tCut)
open OD
abbrev sRefused : Stmt := top 47
/-! ### written values that can be compared with themselves -/
def SelfN (p : Addr) (N : V → Prop) (H : Hp) (v : V) : Prop := SelfV p H v ∧ N v
theorem SelfN.ex {p : Addr} {N : V → Prop} (H H' : Hp) (v : V) (x : Ex H H') (h : SelfN p N H v) : SelfN p N H' v := ⟨h.1.ex x, h.2⟩
def OdN (K : PySem.W.Frag) (p : Addr) (H : Hp) (v : V) : Prop := ∃ T, Od K p H v T ∧ T ≠ "dict"
theorem OdN.ex {K : PySem.W.Frag} {p : Addr} (H H' : Hp) (v : V) (x : Ex H H') (h : OdN K p H v) : OdN K p H' v := h.imp fun _ z => ⟨⟨z.1.kd.ex x, z.1.off, z.1.sf⟩, z.2⟩
theorem OdN.p {K : PySem.W.Frag} {p : Addr} {H H' : Hp} {v : V} (x : ExP p H H') (h : OdN K p H v) : OdN K p H' v := h.imp fun _ z => ⟨z.1.p x, z.2⟩
section
variable {p : Addr} {N : V → Prop} {K : PySem.W.Frag} {σ : L2.St} {H0 : Hp}
theorem sv_non (n : N .non) : ValE σ H0 (tC .non) (SelfN p N) := fun H Q x k => k _ H Ex.refl ⟨.inl (.inl rfl), n⟩
theorem sv_int (i : Int) (n : N (.int i)) : ValE σ H0 (tC (.int i)) (SelfN p N) := fun H Q x k => k _ H Ex.refl ⟨.inl (.inr (.inl ⟨i, rfl⟩)), n⟩
theorem sv_neg (i j : Int) (n : N (.int (i - j))) : ValE σ H0 (tOp (rI0 fun i j => V.int (i - j)) (tC (.int i)) (tC (.int j))) (SelfN p N) := fun H Q x k => ⟨i, j, rfl, rfl, k _ H Ex.refl ⟨.inl (.inr (.inl ⟨_, rfl⟩)), n⟩⟩
theorem sv_bl (b : Bool) (n : N (.bl b)) : ValE σ H0 (tC (.bl b)) (SelfN p N) := fun H Q x k => k _ H Ex.refl ⟨.inl (.inr (.inr (.inl ⟨b, rfl⟩))), n⟩
theorem sv_str (z : Str) (l : z.length ≤ 1000) (n : N (.str z)) : ValE σ H0 (tC (.str z)) (SelfN p N) := fun H Q x k => k _ H Ex.refl ⟨.inl (.inr (.inr (.inr ⟨z, rfl, l⟩))), n⟩
theorem sv_lst (S : H0 p ≠ none) (n : ∀ a, N (.ref a)) : ValE σ H0 (tLst tNil) (SelfN p N) := fun H Q x k => ⟨Nat.zero_le _, fun a na => k _ _ (Ex.new na) ⟨.inr (.inl ⟨a, rfl, fun z => S (x.none (z ▸ na)), upd_same⟩), n a⟩⟩
theorem sv_dct (n : ∀ a, N (.ref a)) : ValE σ H0 tDNewK (SelfN p N) := fun H Q x k => fun a na => k _ _ (Ex.new na) ⟨.inr (.inr (.inl ⟨a, rfl, upd_same⟩)), n a⟩
theorem sv_tup (i : Int) (n : ∀ a, N (.ref a)) : ValE σ H0 (tTup (tCons (tC (.int i)) tNil)) (SelfN p N) := fun H Q x k => ⟨by show 1 ≤ sizeLine; decide, fun a na => k _ _ (Ex.new na) ⟨.inr (.inr (.inr ⟨a, i, rfl, upd_same⟩)), n a⟩⟩
theorem od_c {v : V} {T : String} (o : ∀ H, Od K p H v T) (ne : T ≠ "dict") : ValE σ H0 (tC v) (OdN K p) := fun H Q x k => k _ H Ex.refl ⟨T, o H, ne⟩
theorem od_lst (S : H0 p ≠ none) : ValE σ H0 (tLst tNil) (OdN K p) := fun H Q x k => ⟨Nat.zero_le _, fun a na => k _ _ (Ex.new na) ⟨"list", Od.lst upd_same fun z => S (x.none (z ▸ na)), by decide⟩⟩
end
theorem Pool.some {H : Hp} {p : Addr} {n : Nat} (S : Pool H p n) : H p ≠ none := by
  obtain ⟨_, _, _, e, _⟩ := S
  rw [e]
  exact fun z => nomatch z
/-- the draw from a written list -/
theorem one_of {P : Hp → V → Prop} {σ : L2.St} {H0 H : Hp} {Q : VK} {ta : TA} {ip : Nat} {p : Addr} {m n : Nat} (st : ∀ H H' v, Ex H H' → P H v → P H' v) (l : n ≤ 1000) (n0 : 0 < n) (a : ValA σ H0 ta P n) (sp : σ[ip]? = some (some (.ref p))) (S : Pool H p m) (hm : m < 1000000) (x : Ex H0 H) (stp : ∀ H H' v, ExA p H H' → Pool H p m → P H v → P H' v) (h : ∀ v H', ExA p H H' → Pool H' p (m + 1) → P H' v → Q v H') : tCall spOneP [] E0 (tCons (tVar ip) (tCons (tLst ta) tNil)) σ H Q := by
  refine ⟨.ref p, sp, ?_⟩
  refine lst_val (P := P) (n := n) st l a x fun q vs H1 x1 nq hq hv len => ?_
  have S1 := S.ex x1
  exact ⟨p, q, m, vs, rfl, S1, hm, fun z => S.some (z ▸ nq), hq, (fun z => by rw [z] at len; exact absurd len.symm (by show n ≠ 0; omega)), by rw [len]; exact l, fun y H2 my x2 S2 => h y H2 (x1.exA.trans x2) S2 (stp _ _ _ x2 S1 (hv y my))⟩
def spRefused (C : Addr) (T : List (Addr × Str)) : Sp := fun vs H Q _ => ∃ (F : Addr → Prop) (p t jd : Addr) (n : Nat) (js js' : List Jb), vs = [.ref p, .ref t, .ref jd] ∧ Pool H p n ∧ n + 200 < 1000000 ∧ IsJb F H C t js' ∧ DJ H jd js ∧ GoodJ js ∧ js ≠ [] ∧ js.length ≤ 4 ∧ js'.Perm js ∧ Tabs T H ∧
  ∀ (H' : Hp) (m : Nat), m ≤ n + 200 → ExP p H H' → Pool H' p m → Tabs T H' → Q (.bl true) H'
def NOdd (v : V) : Prop := isWd v = false ∨ v = .str "nobody"
def NNum (v : V) : Prop := natV v = false ∨ v = .int 1
/-- what stands all along -/
structure AmR (K : PySem.W.Frag) (w : World) (T : List (Addr × Str)) (F : Addr → Prop) (p t C a gd l : Addr) (od : Obj) (rows : List MRow) (m : Nat) (js js' : List Jb) (key v odd num : V) (j : Jb) (H : Hp) (k : Nat) : Prop where
  S : Pool H p k
  tb : Tabs T H
  ij : IsJb F H C t js'
  ha : H a = some (.frz od (DO w a rows))
  bc : BadCP K p H rows js m key v
  hg : H gd = some (.dK [(.inr j.name, .ref l)])
  hl : H l = some (.lst [.int 3])
  lp : l ≠ p
  so : SelfN p NOdd H odd
  sn : SelfN p NNum H num
theorem SelfN.p {p : Addr} {N : V → Prop} {H H' : Hp} {v : V} {n : Nat} (x : ExP p H H') (S : Pool H p n) (h : SelfN p N H v) : SelfN p N H' v := ⟨h.1.p x S, h.2⟩
theorem AmR.p {K : PySem.W.Frag} {w : World} {T : List (Addr × Str)} {F : Addr → Prop} {p t C a gd l : Addr} {od : Obj} {rows : List MRow} {m : Nat} {js js' : List Jb} {key v odd num : V} {j : Jb} {H H' : Hp} {k k' : Nat} (h : AmR K w T F p t C a gd l od rows m js js' key v odd num j H k) (x : ExP p H H') (S : Pool H' p k') (tb : Tabs T H') : AmR K w T F p t C a gd l od rows m js js' key v odd num j H' k' :=
  ⟨S, tb, h.ij.p x h.S, x.non h.S h.ha (fun _ z => nomatch z) (fun _ z => nomatch z), h.bc.p x h.S, x.dk h.S h.hg, x.lst h.hl h.lp, h.lp, h.so.p x h.S, h.sn.p x h.S⟩
section
variable {P : Program} {w : World} {K : PySem.W.Frag} {mg : Str → Option Value} {base : Heap} {f C CJ CN CT CB CM c Pt gm : Addr} {fd fdm : FuncData} {T : List (Addr × Str)}
theorem scRefused : FnScope ["_law_pool_here", "_law_made_here", "_law_jobs_here", "_law_key", "_law_found", "_law_due", "_law_bad", "_law_good", "_law_job", "_law_number", "_law_odd", "_law_thing"] ["_law_pool_here", "_law_made_here", "_law_jobs_here"] (defScope sRefused) := ⟨rfl, rfl, rfl, by decide +kernel, rfl, by decide +kernel, by decide +kernel⟩
theorem nobody_no {js : List Jb} (wd : ∀ j ∈ js, j.name ∈ wjN) : ("nobody" : Str) ∉ js.map Jb.name := fun z => by
  obtain ⟨j, m, e⟩ := List.mem_map.mp z
  exact absurd (wd j m) (by rw [e]; decide +kernel)
theorem ok_refused (F : FnP K "_law_refused" sRefused f fd) (hcode : codeOf K f = some (.ref c)) (TB : TabB base mg c Pt) (hm : (Pt, lamR) ∈ T) (hT : ∀ p ∈ T, p.1 = Pt → p.2 = lamR) (M : Met5 K mg CJ CN CT CB CM) (FMt : FnP K "_law_met" sMet5 gm fdm) (gMt : mg "_law_met" = some (.ref gm)) (kMt : PySem.W.keepIn K (.ref gm) = true)
    (FD : HasX P w K mg base "done" 5 ["jobs", "comings"] (spCheckedX K w C CB)) (FA : HasX P w K mg base "answers" 5 ["jobs", "comings"] (spCheckedX K w C CB)) (FK : HasX P w K mg base "breakdown" 5 ["jobs", "comings", "job", "number"] (spBreakX K w C CN CB CM))
    (FO : Has P w K mg base "_law_one" 2 ["_law_pool_here", "_law_things"] spOneP) (FB : Has P w K mg base "_law_bad_comings" 3 ["_law_pool_here", "_law_jobs_here"] (spBadCom K w)) (FS : Has P w K mg base "_law_same" 6 ["_law_found", "_law_due"] (spSame K 5)) (gs : mg "sorted" = none) :
    FnOk P w K mg base CX0 8 f fd ["_law_pool_here", "_law_made_here", "_law_jobs_here"] (spRefused C T) := by
  refine ok_code F hcode scRefused (fun vs H Q E h => ?_) (fun A outer s H vs Q E hr h => ?_)
  · obtain ⟨_, p, t, jd, n, js, js', rfl, _⟩ := h
    rfl
  · have hu := hu_of hr
    refine ⟨_, PSs.nox (pss_cut (ps_asg (pe_has FB hr (by decide) rfl (pa_cons (pv 0) (pa_cons (pv 2) pa_nil))) (pg_tup rfl (pgs_cons (pg_name (i := 6) scRefused.nd rfl (.inr rfl)) (pgs_cons (pg_name (i := 3) scRefused.nd rfl (.inl rfl)) pgs_nil))))
      (pss_cut (ps_asg (pe_tup (pa_cons (pe_has FO hr (by decide) rfl (pa_cons (pv 0) (pa_cons (pe_callB (call_sd rfl) rfl gs boot_sorted (pa_cons (pv 2) pa_nil)) pa_nil))) (pa_cons (pe_has FO hr (by decide) rfl (pa_cons (pv 0) (pa_cons (pe_lst (pa_cons pe_non (pa_cons pe_int (pa_cons pe_str (pa_cons pe_str (pa_cons (pe_lst pa_nil) (pa_cons pe_dnewK (pa_cons pe_bl pa_nil)))))))) pa_nil))) pa_nil))) (pg_tup rfl (pgs_cons (pg_name (i := 8) scRefused.nd rfl (.inr rfl)) (pgs_cons (pg_name (i := 10) scRefused.nd rfl (.inr rfl)) pgs_nil))))
      (pss_cut (ps_asg (pe_tup (pa_cons (pe_disp (pps_cons (pv 8) (pe_lst (pa_cons pe_int pa_nil)) pps_nil) rfl rfl (by simp) (by decide)) (pa_cons (pe_has FO hr (by decide) rfl (pa_cons (pv 0) (pa_cons (pe_lst (pa_cons pe_non (pa_cons (pe_op op_sub pe_int pe_int) (pa_cons pe_int (pa_cons pe_bl (pa_cons pe_str (pa_cons (pe_tup (pa_cons pe_int pa_nil)) (pa_cons (pe_lst pa_nil) pa_nil)))))))) pa_nil))) pa_nil))) (pg_tup rfl (pgs_cons (pg_name (i := 7) scRefused.nd rfl (.inr rfl)) (pgs_cons (pg_name (i := 9) scRefused.nd rfl (.inr rfl)) pgs_nil))))
      (pss_cut (ps_set (i := 4) scRefused.nd rfl (.inl rfl) (pe_lst (pa_cons (pe_met5 M FMt gMt kMt TB rfl rfl hm hT hr rfl (lamS_by (by kernel_rfl)) rfl (fun _ _ _ _ _ => rfl) (fun A outer s H E f c' hr2 => pe_hasX (E := E) FD hr2 (by decide) rfl (takes_of rfl rfl rfl rfl) (fun _ _ _ _ z => z) (pa_cons (pv 1) (pa_cons (pv 6) pa_nil)))) pa_nil)))
      (pss_cut (ps_expr (pe_bm PySem.F.plainAttrs_list PySem.F.slot_list_append PySem.F.type_list_append mt_append (pv 4) (pa_cons (pe_met5 M FMt gMt kMt TB rfl rfl hm hT hr rfl (lamS_by (by kernel_rfl)) rfl (fun _ _ _ _ _ => rfl) (fun A outer s H E f c' hr2 => pe_hasX (E := E) FA hr2 (by decide) rfl (takes_of rfl rfl rfl rfl) (fun _ _ _ _ z => z) (pa_cons (pv 1) (pa_cons (pv 6) pa_nil)))) pa_nil)))
      (pss_cut (ps_expr (pe_bm PySem.F.plainAttrs_list PySem.F.slot_list_append PySem.F.type_list_append mt_append (pv 4) (pa_cons (pe_met5 M FMt gMt kMt TB rfl rfl hm hT hr rfl (lamS_by (by kernel_rfl)) rfl (fun _ _ _ _ _ => rfl) (fun A outer s H E f c' hr2 => pe_hasX (E := E) FK hr2 (by decide) rfl (takes_of rfl rfl rfl rfl) (fun _ _ _ _ z => z) (pa_cons (pv 1) (pa_cons (pv 6) (pa_cons (pv 8) (pa_cons pe_non pa_nil)))))) pa_nil)))
      (pss_cut (ps_expr (pe_bm PySem.F.plainAttrs_list PySem.F.slot_list_append PySem.F.type_list_append mt_append (pv 4) (pa_cons (pe_met5 M FMt gMt kMt TB rfl rfl hm hT hr rfl (lamS_by (by kernel_rfl)) rfl (fun _ _ _ _ _ => rfl) (fun A outer s H E f c' hr2 => pe_hasX (E := E) FK hr2 (by decide) rfl (takes_of rfl rfl rfl rfl) (fun _ _ _ _ z => z) (pa_cons (pv 1) (pa_cons (pv 6) (pa_cons (pv 10) (pa_cons pe_non pa_nil)))))) pa_nil)))
      (pss_cut (ps_expr (pe_bm PySem.F.plainAttrs_list PySem.F.slot_list_append PySem.F.type_list_append mt_append (pv 4) (pa_cons (pe_met5 M FMt gMt kMt TB rfl rfl hm hT hr rfl (lamS_by (by kernel_rfl)) rfl (fun _ _ _ _ _ => rfl) (fun A outer s H E f c' hr2 => pe_hasX (E := E) FK hr2 (by decide) rfl (takes_of rfl rfl rfl rfl) (fun _ _ _ _ z => z) (pa_cons (pv 1) (pa_cons (pv 7) (pa_cons (pv 8) (pa_cons (pv 9) pa_nil)))))) pa_nil)))
      (pss_cut (ps_expr (pe_bm PySem.F.plainAttrs_list PySem.F.slot_list_append PySem.F.type_list_append mt_append (pv 4) (pa_cons (pe_met5 M FMt gMt kMt TB rfl rfl hm hT hr rfl (lamS_by (by kernel_rfl)) rfl (fun _ _ _ _ _ => rfl) (fun A outer s H E f c' hr2 => pe_hasX (E := E) FK hr2 (by decide) rfl (takes_of rfl rfl rfl rfl) (fun _ _ _ _ z => z) (pa_cons (pv 1) (pa_cons pe_dnewK (pa_cons (pv 8) (pa_cons pe_int pa_nil)))))) pa_nil)))
      (pss_cut (ps_set (i := 11) scRefused.nd rfl (.inr rfl) (pe_has FO hr (by decide) rfl (pa_cons (pv 0) (pa_cons (pe_lst (pa_cons pe_non (pa_cons pe_int (pa_cons (pe_lst pa_nil) (pa_cons pe_str (pa_cons pe_bl pa_nil)))))) pa_nil))))
      (pss_cut (ps_expr (pe_bm PySem.F.plainAttrs_list PySem.F.slot_list_append PySem.F.type_list_append mt_append (pv 4) (pa_cons (pe_met5 M FMt gMt kMt TB rfl rfl hm hT hr rfl (lamS_by (by kernel_rfl)) rfl (fun _ _ _ _ _ => rfl) (fun A outer s H E f c' hr2 => pe_hasX (E := E) FD hr2 (by decide) rfl (takes_of rfl rfl rfl rfl) (fun _ _ _ _ z => z) (pa_cons (pv 1) (pa_cons (pv 11) pa_nil)))) pa_nil)))
      (pss_cut (ps_set (i := 5) scRefused.nd rfl (.inl rfl) (pe_op op_cat (pe_op op_rep (pe_lst (pa_cons (pe_tup (pa_cons pe_str (pa_cons (pv 3) pa_nil))) pa_nil)) pe_int) (pe_lst (pa_cons (pe_tup (pa_cons pe_str (pa_cons (pv 10) pa_nil))) (pa_cons (pe_tup (pa_cons pe_str (pa_cons (pv 9) pa_nil))) (pa_cons (pe_tup (pa_cons pe_str (pa_cons pe_int pa_nil))) (pa_cons (pe_tup (pa_cons pe_str (pa_cons pe_non pa_nil))) pa_nil)))))))
      (pss_one (ps_ret (pe_has FS hr (by decide) rfl (pa_cons (pv 4) (pa_cons (pv 5) pa_nil))))))))))))))))), ?_⟩
    obtain ⟨F0, p, t, jd, n, js, js', rfl, S, hn, ij, dj, g, ne, l4, pm, tabs, hQ⟩ := h
    obtain ⟨kj, hj, pj⟩ := dj
    have s2 : 2 ≤ sizeLine := by decide
    have s1 : 1 ≤ sizeLine := by decide
    have fit' : FitJ js' := (g.fit ne l4).perm pm
    have sp0 := S.some
    -- bad comings
    refine ⟨fun σ' H' => ∃ (a : Addr) (od : Obj) (rows : List MRow) (m : Nat) (key v : V), σ' = [some (.ref p), some (.ref t), some (.ref jd), some key, none, none, some (.ref a), none, none, none, none, none] ∧ ExA p H H' ∧ Pool H' p (n + 100) ∧ H' a = some (.frz od (DO w a rows)) ∧ BadCP K p H' rows js m key v, ?_, ?_⟩
    · exact ⟨.ref p, rfl, .ref jd, rfl, p, jd, n, js, rfl, S, by omega, ⟨kj, hj, pj⟩, g, ne, l4, fun tp a od rows m key v H1 x1 S1 ht ha bc => ⟨tp, _, rfl, .inl (.inl ht), rfl, .ref a, [key], rfl, key, [], rfl, rfl, a, od, rows, m, key, v, rfl, x1, S1, ha, bc⟩⟩
    rintro σ1 H1 ⟨a, od, rows, m, key, v, rfl, x1, S1, ha, bc⟩
    -- job, odd
    refine ⟨fun σ' H' => ∃ j ∈ js, ∃ odd : V, σ' = [some (.ref p), some (.ref t), some (.ref jd), some key, none, none, some (.ref a), none, some (.str j.name), none, some odd, none] ∧ ExA p H1 H' ∧ Pool H' p (n + 102) ∧ SelfN p NOdd H' odd, ?_, ?_⟩
    · refine ⟨.ref p, rfl, .ref jd, rfl, jd, kj, js.map Jb.name, rfl, .inl (x1.p.dk S hj), ja_keys pj, by rw [List.length_map]; omega, fun ns q pm2 so nq => ?_⟩
      have x2 := Ex.new (o := .lst (ns.map V.str)) nq
      have S2 := S1.ex x2
      have nl : ns.length = js.length := by rw [pm2.length_eq, List.length_map]
      refine ⟨p, q, n + 100, ns.map V.str, rfl, S2, by omega, S1.off nq, upd_same, fun z => ne (List.length_eq_zero_iff.mp (by rw [← nl]; exact List.length_eq_zero_iff.mpr (List.map_eq_nil_iff.mp z))), by rw [List.length_map]; omega, fun y H2 my x3 S3 => ?_⟩
      obtain ⟨x, mx, rfl⟩ := List.mem_map.mp my
      obtain ⟨j, mj, rfl⟩ := List.mem_map.mp (pm2.mem_iff.mp mx)
      have no : ∀ a, NOdd (.ref a) := fun _ => .inl rfl
      refine one_of (P := SelfN p NOdd) (n := 7) (m := n + 101) SelfN.ex (by decide) (by decide) (valA_cons SelfN.ex (sv_non (.inl rfl)) (valA_cons SelfN.ex (sv_int 5 (.inl rfl)) (valA_cons SelfN.ex (sv_str "" (by decide) (.inl (by decide +kernel))) (valA_cons SelfN.ex (sv_str "nobody" (by decide +kernel) (.inr rfl)) (valA_cons SelfN.ex (sv_lst S3.some no) (valA_cons SelfN.ex (sv_dct no) (valA_cons SelfN.ex (sv_bl true (.inl rfl)) valA_nil))))))) rfl S3 (by omega) Ex.refl (fun _ _ _ x S h => h.p x.p S) fun odd H4 x4 S4 so4 => ⟨s2, fun tp ntp => ?_⟩
      have x5 := Ex.new (o := .tup [.str j.name, odd]) ntp
      exact ⟨tp, _, rfl, .inl (.inl upd_same), rfl, .str j.name, [odd], rfl, odd, [], rfl, rfl, j, mj, odd, rfl, ((x2.exA.trans x3).trans x4).trans x5.exA, S4.ex x5, so4.ex _ _ _ x5⟩
    rintro σ2 H2 ⟨j, mj, odd, rfl, x2, S2, so⟩
    -- good, number
    refine ⟨fun σ' H' => ∃ (gd l : Addr) (num : V), σ' = [some (.ref p), some (.ref t), some (.ref jd), some key, none, none, some (.ref a), some (.ref gd), some (.str j.name), some num, some odd, none] ∧ ExA p H2 H' ∧ Pool H' p (n + 103) ∧ H' gd = some (.dK [(.inr j.name, .ref l)]) ∧ H' l = some (.lst [.int 3]) ∧ l ≠ p ∧ SelfN p NNum H' num, ?_, ?_⟩
    · refine fun gd ngd => ⟨.str j.name, rfl, s1, fun l nl => ?_⟩
      have lg : l ≠ gd := fun z => by rw [z, upd_same] at nl; cases nl
      refine ⟨(upd_ne lg.symm).trans upd_same, [(.inr j.name, .ref l)], rfl, by show 1 ≤ 15; decide, ?_⟩
      have x3 : Ex H2 (upd (upd (upd H2 gd (.dK [])) l (.lst [.int 3])) gd (.dK (mergeK [] [(.inr j.name, .ref l)]))) := fun b o e => (upd_ne fun z => by rw [z, ngd] at e; cases e).trans ((Ex.new nl) _ _ ((Ex.new ngd) _ _ e))
      have hg : (upd (upd (upd H2 gd (.dK [])) l (.lst [.int 3])) gd (.dK (mergeK [] [(.inr j.name, .ref l)]))) gd = some (.dK [(.inr j.name, .ref l)]) := upd_same
      have hl : (upd (upd (upd H2 gd (.dK [])) l (.lst [.int 3])) gd (.dK (mergeK [] [(.inr j.name, .ref l)]))) l = some (.lst [.int 3]) := (upd_ne lg).trans upd_same
      have lp : l ≠ p := fun z => S2.some ((Ex.new ngd).none (z ▸ nl))
      generalize upd (upd (upd H2 gd (.dK [])) l (.lst [.int 3])) gd (.dK (mergeK [] [(.inr j.name, .ref l)])) = Gx at x3 hg hl ⊢
      have S3 := S2.ex x3
      have no : ∀ a, NNum (.ref a) := fun _ => .inl rfl
      refine one_of (P := SelfN p NNum) (n := 7) (m := n + 102) SelfN.ex (by decide) (by decide) (valA_cons SelfN.ex (sv_non (.inl rfl)) (valA_cons SelfN.ex (sv_neg 0 1 (.inl rfl)) (valA_cons SelfN.ex (sv_int 1 (.inr rfl)) (valA_cons SelfN.ex (sv_bl true (.inl rfl)) (valA_cons SelfN.ex (sv_str "0" (by decide +kernel) (.inl rfl)) (valA_cons SelfN.ex (sv_tup 0 no) (valA_cons SelfN.ex (sv_lst S3.some no) valA_nil))))))) rfl S3 (by omega) Ex.refl (fun _ _ _ x S h => h.p x.p S) fun num H4 x4 S4 sn4 => ⟨s2, fun tp ntp => ?_⟩
      have x5 := Ex.new (o := .tup [.ref gd, num]) ntp
      exact ⟨tp, _, rfl, .inl (.inl upd_same), rfl, .ref gd, [num], rfl, num, [], rfl, rfl, gd, l, num, rfl, (x3.exA.trans x4).trans x5.exA, S4.ex x5, x5 _ _ (x4.p.dk S3 hg), x5 _ _ (x4.p.lst hl lp), lp, sn4.ex _ _ _ x5⟩
    rintro σ3 H3 ⟨gd, l, num, rfl, x3, S3, hg, hl, lp, sn⟩
    have xb := x1.trans (x2.trans x3)
    have A : AmR K w T F0 p t C a gd l od rows m js js' key v odd num j H3 (n + 103) := ⟨S3, Tabs.exP xb S tabs, ij.p xb.p S, (x2.trans x3).p.non S1 ha (fun _ z => nomatch z) (fun _ z => nomatch z), bc.p (x2.trans x3).p S1, hg, hl, lp, so.p x3.p S2, sn⟩
    have tgC : Tag5 CJ CN CT CB CM CB "job" "comings" := .inr (.inr (.inr (.inl ⟨rfl, rfl, rfl⟩)))
    have tgJ : Tag5 CJ CN CT CB CM CN "job" "job" := .inr (.inl ⟨rfl, rfl, rfl⟩)
    have tgN : Tag5 CJ CN CT CB CM CM "number" "number" := .inr (.inr (.inr (.inr ⟨rfl, rfl, rfl⟩)))
    have mj' : j ∈ js' := pm.mem_iff.mpr mj
    clear x1 S1 ha bc x2 S2 so hg hl sn x3 S3
    -- 4
    refine ⟨fun σ' H' => ∃ fl, σ' = [some (.ref p), some (.ref t), some (.ref jd), some key, some (.ref fl), none, some (.ref a), some (.ref gd), some (.str j.name), some num, some odd, none] ∧ FoP p T H3 H' fl [("comings", key)] ∧ Pool H' p (n + 103), ?_, ?_⟩
    · refine lst_one (cons_one (lamM (m := n + 103) (v := key) A.S A.tb tgC (fun E Hy Q' y1 t1 rz => ?_) fun q Hy y1 Sy t1 nq hq => ?_))
      · have A1 := A.p (ExtN.p y1) (A.S.exN y1) t1
        exact ⟨.ref t, rfl, .ref a, rfl, F0, t, js', .ref a, rfl, A1.ij, fit', .inr ⟨a, od, rows, m, key, v, rfl, A1.ha, A1.bc.com pm g.wd, rz _ (Ex.exA Ex.refl) A1.S⟩⟩
      · exact ⟨s1, fun fl nfl => ⟨fl, rfl, FoP.first (x := "comings") Sy y1 t1 hq nfl, Sy.new nfl⟩⟩
    rintro σ4 H4 ⟨fl, rfl, F4, S4⟩
    -- 5
    refine ⟨fun σ' H' => σ' = [some (.ref p), some (.ref t), some (.ref jd), some key, some (.ref fl), none, some (.ref a), some (.ref gd), some (.str j.name), some num, some odd, none] ∧ FoP p T H3 H' fl [("comings", key), ("comings", key)] ∧ Pool H' p (n + 103), ?_, ?_⟩
    · obtain ⟨xs, hx, hxl⟩ := F4.lst
      have A0 := A.p F4.ex S4 F4.tabs
      refine ⟨.ref fl, rfl, .inl ⟨rfl, xs, .inl (.inl hx)⟩, cons_one ?_⟩
      refine lamM (m := n + 103) (v := key) A0.S A0.tb tgC (fun E Hy Q' y1 t1 rz => ?_) fun q Hy y1 Sy t1 nq hq => ?_
      · have A1 := A0.p (ExtN.p y1) (A0.S.exN y1) t1
        exact ⟨.ref t, rfl, .ref a, rfl, F0, t, js', .ref a, rfl, A1.ij, fit', .inr ⟨a, od, rows, m, key, v, rfl, A1.ha, A1.bc.com pm g.wd, rz _ (Ex.exA Ex.refl) A1.S⟩⟩
      · have hx1 := y1.lst hx F4.off
        exact ⟨fl, xs, .ref q, rfl, rfl, hx1, by rw [sizeLine_eq, hxl]; show 1 < _; decide, rfl, F4.app (x := "comings") A0.S y1 t1 hq hx1, Sy.put F4.off⟩
    rintro σ5 H5 ⟨rfl, F5, S5⟩
    clear F4 S4 H4
    -- 6
    refine ⟨fun σ' H' => σ' = [some (.ref p), some (.ref t), some (.ref jd), some key, some (.ref fl), none, some (.ref a), some (.ref gd), some (.str j.name), some num, some odd, none] ∧ FoP p T H3 H' fl [("comings", key), ("comings", key), ("comings", key)] ∧ Pool H' p (n + 103), ?_, ?_⟩
    · obtain ⟨xs, hx, hxl⟩ := F5.lst
      have A0 := A.p F5.ex S5 F5.tabs
      refine ⟨.ref fl, rfl, .inl ⟨rfl, xs, .inl (.inl hx)⟩, cons_one ?_⟩
      refine lamM (m := n + 103) (v := key) A0.S A0.tb tgC (fun E Hy Q' y1 t1 rz => ?_) fun q Hy y1 Sy t1 nq hq => ?_
      · have A1 := A0.p (ExtN.p y1) (A0.S.exN y1) t1
        exact ⟨.ref t, rfl, .ref a, rfl, .str j.name, rfl, F0, t, js', .ref a, .str j.name, .non, rfl, A1.ij, fit', .inr ⟨j, mj', rfl, .inl (.inr ⟨a, od, rows, m, key, v, rfl, A1.ha, A1.bc.com pm g.wd, rz _ (Ex.exA Ex.refl) A1.S⟩)⟩⟩
      · have hx1 := y1.lst hx F5.off
        exact ⟨fl, xs, .ref q, rfl, rfl, hx1, by rw [sizeLine_eq, hxl]; show 2 < _; decide, rfl, F5.app (x := "comings") A0.S y1 t1 hq hx1, Sy.put F5.off⟩
    rintro σ6 H6 ⟨rfl, F6, S6⟩
    clear F5 S5 H5
    -- 7
    refine ⟨fun σ' H' => σ' = [some (.ref p), some (.ref t), some (.ref jd), some key, some (.ref fl), none, some (.ref a), some (.ref gd), some (.str j.name), some num, some odd, none] ∧ FoP p T H3 H' fl [("comings", key), ("comings", key), ("comings", key), ("job", odd)] ∧ Pool H' p (n + 103), ?_, ?_⟩
    · obtain ⟨xs, hx, hxl⟩ := F6.lst
      have A0 := A.p F6.ex S6 F6.tabs
      refine ⟨.ref fl, rfl, .inl ⟨rfl, xs, .inl (.inl hx)⟩, cons_one ?_⟩
      refine lamM (m := n + 103) (v := odd) A0.S A0.tb tgJ (fun E Hy Q' y1 t1 rz => ?_) fun q Hy y1 Sy t1 nq hq => ?_
      · have A1 := A0.p (ExtN.p y1) (A0.S.exN y1) t1
        obtain ⟨To, ko⟩ := A1.so.1.kd (K := K)
        exact ⟨.ref t, rfl, .ref a, rfl, odd, rfl, F0, t, js', .ref a, odd, .non, rfl, A1.ij, fit', .inl ⟨⟨To, ko, A1.so.2.imp id fun z => ⟨_, z, nobody_no fun j m => g.wd j (pm.mem_iff.mp m)⟩⟩, rz _ (Ex.exA Ex.refl) A1.S⟩⟩
      · have hx1 := y1.lst hx F6.off
        exact ⟨fl, xs, .ref q, rfl, rfl, hx1, by rw [sizeLine_eq, hxl]; show 3 < _; decide, rfl, F6.app (x := "job") A0.S y1 t1 hq hx1, Sy.put F6.off⟩
    rintro σ7 H7 ⟨rfl, F7, S7⟩
    clear F6 S6 H6
    -- 8
    refine ⟨fun σ' H' => σ' = [some (.ref p), some (.ref t), some (.ref jd), some key, some (.ref fl), none, some (.ref a), some (.ref gd), some (.str j.name), some num, some odd, none] ∧ FoP p T H3 H' fl [("comings", key), ("comings", key), ("comings", key), ("job", odd), ("number", num)] ∧ Pool H' p (n + 103), ?_, ?_⟩
    · obtain ⟨xs, hx, hxl⟩ := F7.lst
      have A0 := A.p F7.ex S7 F7.tabs
      refine ⟨.ref fl, rfl, .inl ⟨rfl, xs, .inl (.inl hx)⟩, cons_one ?_⟩
      refine lamM (m := n + 103) (v := num) A0.S A0.tb tgN (fun E Hy Q' y1 t1 rz => ?_) fun q Hy y1 Sy t1 nq hq => ?_
      · have A1 := A0.p (ExtN.p y1) (A0.S.exN y1) t1
        have kn := A1.sn.1.kd (K := K)
        refine ⟨.ref t, rfl, .ref gd, rfl, .str j.name, rfl, num, rfl, F0, t, js', .ref gd, .str j.name, num, rfl, A1.ij, fit', .inr ⟨j, mj', rfl, .inr ⟨gd, [j], rfl, ⟨_, A1.hg, .cons ⟨rfl, l, rfl, A1.hl⟩ .nil⟩, by simp, by show 1 ≤ 4; decide, fun i mi => by rw [List.mem_singleton.mp mi]; exact mj', kn, A1.sn.2.imp id fun z => ⟨1, z, .inl ⟨List.mem_singleton.mpr rfl, by decide⟩⟩, rz _ (Ex.exA Ex.refl) A1.S⟩⟩⟩
      · have hx1 := y1.lst hx F7.off
        exact ⟨fl, xs, .ref q, rfl, rfl, hx1, by rw [sizeLine_eq, hxl]; show 4 < _; decide, rfl, F7.app (x := "number") A0.S y1 t1 hq hx1, Sy.put F7.off⟩
    rintro σ8 H8 ⟨rfl, F8, S8⟩
    clear F7 S7 H7
    -- 9
    refine ⟨fun σ' H' => σ' = [some (.ref p), some (.ref t), some (.ref jd), some key, some (.ref fl), none, some (.ref a), some (.ref gd), some (.str j.name), some num, some odd, none] ∧ FoP p T H3 H' fl [("comings", key), ("comings", key), ("comings", key), ("job", odd), ("number", num), ("number", .int 0)] ∧ Pool H' p (n + 103), ?_, ?_⟩
    · obtain ⟨xs, hx, hxl⟩ := F8.lst
      have A0 := A.p F8.ex S8 F8.tabs
      refine ⟨.ref fl, rfl, .inl ⟨rfl, xs, .inl (.inl hx)⟩, cons_one ?_⟩
      refine lamM (m := n + 103) (v := .int 0) A0.S A0.tb tgN (fun E Hy Q' y1 t1 rz => ?_) fun q Hy y1 Sy t1 nq hq => ?_
      · have A1 := A0.p (ExtN.p y1) (A0.S.exN y1) t1
        refine ⟨.ref t, rfl, fun d nd => ⟨.str j.name, rfl, F0, t, js', .ref d, .str j.name, .int 0, rfl, A1.ij.ex (Ex.new nd), fit', .inr ⟨j, mj', rfl, .inr ⟨d, [], rfl, ⟨_, upd_same, .nil⟩, List.nodup_nil, Nat.zero_le _, (fun _ z => nomatch z), ⟨_, int_kd⟩, .inr ⟨0, rfl, .inr ⟨(fun z => nomatch z), Int.le_refl 0⟩⟩, rz _ (Ex.new nd).exA (A1.S.ex (Ex.new nd))⟩⟩⟩⟩
      · have hx1 := y1.lst hx F8.off
        exact ⟨fl, xs, .ref q, rfl, rfl, hx1, by rw [sizeLine_eq, hxl]; show 5 < _; decide, rfl, F8.app (x := "number") A0.S y1 t1 hq hx1, Sy.put F8.off⟩
    rintro σ9 H9 ⟨rfl, F9, S9⟩
    clear F8 S8 H8
    -- 10
    have A9 := A.p F9.ex S9 F9.tabs
    refine ⟨fun σ' H' => ∃ th, σ' = [some (.ref p), some (.ref t), some (.ref jd), some key, some (.ref fl), none, some (.ref a), some (.ref gd), some (.str j.name), some num, some odd, some th] ∧ ExA p H9 H' ∧ Pool H' p (n + 104) ∧ OdN K p H' th, ?_, ?_⟩
    · refine one_of (P := OdN K p) (n := 5) (m := n + 103) OdN.ex (by decide) (by decide) (valA_cons OdN.ex (od_c (fun H => Od.non) (by decide)) (valA_cons OdN.ex (od_c (fun H => Od.int 5) (by decide)) (valA_cons OdN.ex (od_lst S9.some) (valA_cons OdN.ex (od_c (v := .str "ab") (fun H => Od.str (by decide +kernel)) (by decide)) (valA_cons OdN.ex (od_c (fun H => Od.bl true) (by decide)) valA_nil))))) rfl S9 (by omega) Ex.refl (fun _ _ _ x S h => h.p x.p) fun th H4 x4 S4 st4 => ⟨th, rfl, x4, S4, st4⟩
    rintro σ10 H10 ⟨th, rfl, x10, S10, ht⟩
    have F10 : FoP p T H3 H10 fl [("comings", key), ("comings", key), ("comings", key), ("job", odd), ("number", num), ("number", .int 0)] := by
      obtain ⟨qs, hf, prs⟩ := F9.all
      exact ⟨F9.ex.trans x10.p, F9.new, F9.off, Tabs.exP x10 S9 F9.tabs, qs, x10 _ _ F9.off hf, Paired.mapP prs fun _ _ e => x10.nl S9 e fun _ z => nomatch z⟩
    clear F9 S9 A9 x10 H9
    -- 11
    refine ⟨fun σ' H' => σ' = [some (.ref p), some (.ref t), some (.ref jd), some key, some (.ref fl), none, some (.ref a), some (.ref gd), some (.str j.name), some num, some odd, some th] ∧ FoP p T H3 H' fl [("comings", key), ("comings", key), ("comings", key), ("job", odd), ("number", num), ("number", .int 0), ("comings", .non)] ∧ Pool H' p (n + 104), ?_, ?_⟩
    · obtain ⟨xs, hx, hxl⟩ := F10.lst
      have A0 := A.p F10.ex S10 F10.tabs
      refine ⟨.ref fl, rfl, .inl ⟨rfl, xs, .inl (.inl hx)⟩, cons_one ?_⟩
      refine lamM (m := n + 104) (v := .non) A0.S A0.tb tgC (fun E Hy Q' y1 t1 rz => ?_) fun q Hy y1 Sy t1 nq hq => ?_
      · have A1 := A0.p (ExtN.p y1) (A0.S.exN y1) t1
        obtain ⟨Tt, ot, nt⟩ := ht.p (ExtN.p y1)
        exact ⟨.ref t, rfl, th, rfl, F0, t, js', th, rfl, A1.ij, fit', .inl ⟨rz _ (Ex.exA Ex.refl) A1.S, Tt, ot.kd, nt⟩⟩
      · have hx1 := y1.lst hx F10.off
        exact ⟨fl, xs, .ref q, rfl, rfl, hx1, by rw [sizeLine_eq, hxl]; show 6 < _; decide, rfl, F10.app (x := "comings") A0.S y1 t1 hq hx1, Sy.put F10.off⟩
    rintro σ11 H11 ⟨rfl, F11, S11⟩
    clear F10 S10
    obtain ⟨ps, hf, prs⟩ := F11.all
    have A11 := A.p F11.ex S11 F11.tabs
    -- 12
    refine ⟨fun σ' H' => ∃ (r : Addr) (qs : List Addr), σ' = [some (.ref p), some (.ref t), some (.ref jd), some key, some (.ref fl), some (.ref r), some (.ref a), some (.ref gd), some (.str j.name), some num, some odd, some th] ∧ Ex H11 H' ∧ H' r = some (.lst (qs.map V.ref)) ∧ Paired (fun q (it : Str × V) => H' q = some (.tup [.str it.1, it.2])) qs [("comings", key), ("comings", key), ("comings", key), ("job", odd), ("number", num), ("number", .int 0), ("comings", .non)], ?_, ?_⟩
    · refine op_one (op_one ⟨key, rfl, s2, fun i1 ni1 => ⟨s1, fun r1 nr1 => ⟨r1, 3, [.ref i1], rfl, rfl, upd_same, by decide, by decide, by show 1 * 3 ≤ sizeLine; decide, fun r2 nr2 => ⟨odd, rfl, s2, fun i2 ni2 => ⟨num, rfl, s2, fun i3 ni3 => ⟨s2, fun i4 ni4 => ⟨s2, fun i5 ni5 => ⟨by show 4 ≤ sizeLine; decide, fun r3 nr3 => ⟨r2, r3, [.ref i1, .ref i1, .ref i1], _, rfl, rfl, ?_, upd_same, by show 3 + 4 ≤ sizeLine; decide, fun r4 nr4 => ⟨r4, [i1, i1, i1, i2, i3, i4, i5], rfl, ?_, upd_same, ?_⟩⟩⟩⟩⟩⟩⟩⟩⟩⟩)
      · exact (Ex.new nr3) _ _ ((Ex.new ni5) _ _ ((Ex.new ni4) _ _ ((Ex.new ni3) _ _ ((Ex.new ni2) _ _ upd_same))))
      · exact (Ex.new ni1).trans ((Ex.new nr1).trans ((Ex.new nr2).trans ((Ex.new ni2).trans ((Ex.new ni3).trans ((Ex.new ni4).trans ((Ex.new ni5).trans ((Ex.new nr3).trans (Ex.new nr4))))))))
      · have z6 := (Ex.new (o := .lst [.ref i2, .ref i3, .ref i4, .ref i5]) nr3).trans (Ex.new (o := .lst (([i1, i1, i1, i2, i3, i4, i5] : List Addr).map V.ref)) nr4)
        have z5 := (Ex.new (o := .tup [.str "comings", .non]) ni5).trans z6
        have z4 := (Ex.new (o := .tup [.str "number", .int 0]) ni4).trans z5
        have z3 := (Ex.new (o := .tup [.str "number", num]) ni3).trans z4
        have z2 := (Ex.new (o := .tup [.str "job", odd]) ni2).trans z3
        have z1 := (Ex.new nr1).trans ((Ex.new nr2).trans z2)
        have e1 := z1 _ _ (upd_same (H := H11) (a := i1) (o := .tup [.str "comings", key]))
        exact .cons e1 (.cons e1 (.cons e1 (.cons (z3 _ _ upd_same) (.cons (z4 _ _ upd_same) (.cons (z5 _ _ upd_same) (.cons (z6 _ _ upd_same) .nil))))))
    rintro σ12 H12 ⟨r, qs, rfl, x12, hr12, prd⟩
    have A12 := A11.p (Ex.p x12) (S11.ex x12) (x12.tabs F11.tabs)
    have hf12 := x12 _ _ hf
    have ks : SelfV p H12 key ∧ True := by
      obtain ⟨kk, ek⟩ := A12.bc.at_
      exact ⟨(A12.bc.nk _ (List.mem_of_getElem? ek)).self, trivial⟩
    have prs12 : Paired (fun q (it : Str × V) => H12 q = some (.tup [.str it.1, it.2])) ps [("comings", key), ("comings", key), ("comings", key), ("job", odd), ("number", num), ("number", .int 0), ("comings", .non)] := Paired.mapP prs fun _ _ e => x12 _ _ e
    refine ⟨.ref fl, rfl, .ref r, rfl, .ref fl, .ref r, rfl, .inr ⟨fl, r, ps.map V.ref, qs.map V.ref, rfl, rfl, .inl ⟨.inl (.inl hf12), .inl (.inl hr12)⟩, ?_, same_go (K := K) (p := p) (n := 1) prs12 prd fun it mi => ?_⟩, fun H13 x13 => hQ H13 (n + 104) (by omega) (xb.p.trans (F11.ex.trans ((Ex.p x12).trans (Ex.p x13)))) ((S11.ex x12).ex x13) (x13.tabs (x12.tabs F11.tabs))⟩
    · rw [List.length_map, Paired.length prs]
      show 7 ≤ 1000
      decide
    · simp only [List.mem_cons, List.mem_nil_iff, or_false] at mi
      rcases mi with rfl | rfl | rfl | rfl | rfl | rfl | rfl
      · exact ⟨(show ("comings" : Str).length ≤ 1000 by decide +kernel), ks.1⟩
      · exact ⟨(show ("comings" : Str).length ≤ 1000 by decide +kernel), ks.1⟩
      · exact ⟨(show ("comings" : Str).length ≤ 1000 by decide +kernel), ks.1⟩
      · exact ⟨(show ("job" : Str).length ≤ 1000 by decide +kernel), A12.so.1⟩
      · exact ⟨(show ("number" : Str).length ≤ 1000 by decide +kernel), A12.sn.1⟩
      · exact ⟨by decide +kernel, .inl (.inr (.inl ⟨0, rfl⟩))⟩
      · exact ⟨by decide +kernel, .inl (.inl rfl)⟩
end
end TH

/-! J26: min(d) of a dict whose keys are texts; int(..) of a Bool; copies of jobs are the same -/
namespace TH
open PySem PySem.Spec PyProof.Rows L2 LamV LamX XK0
open C8 (pss_cut tCut)
open OD
theorem cmp_strs {prog : Program} {w : World} {A : Around} {P : Nat → Value → Prop} (g : Nat → Str) (hg : ∀ i v, P i v → ∃ t, v = .str (g i) t) : CmpOf prog w A .Lt P (fun i j => decide ((g i).cps.toList < (g j).cps.toList)) := fun i j x y s Q E hi hj h => by
  obtain ⟨t, rfl⟩ := hg i x hi
  obtain ⟨u, rfl⟩ := hg j y hj
  exact (PyProof.Rows.lt_str h : wpAny (model prog w) A (compareOp .Lt (.str (g i) t) (.str (g j) u)) Q E s)
theorem best_le (bt : Nat → Nat → Bool) : ∀ k, argBest bt k ≤ k
  | 0 => Nat.le_refl 0
  | k + 1 => by
    unfold argBest
    split
    · exact Nat.le_refl _
    · exact Nat.le_succ_of_le (best_le bt k)
/-- the least of some texts -/
def minS (ks : List Str) : Str := ks.getD (argBest (fun i j => decide ((ks.getD i "").cps.toList < (ks.getD j "").cps.toList)) (ks.length - 1)) ""
theorem minS_mem {ks : List Str} (ne : ks ≠ []) : minS ks ∈ ks := by
  have l := List.length_pos_iff.mpr ne
  have b := best_le (fun i j => decide ((ks.getD i "").cps.toList < (ks.getD j "").cps.toList)) (ks.length - 1)
  unfold minS
  rw [List.getD_eq_getElem?_getD, List.getElem?_eq_getElem (by omega)]
  exact List.getElem_mem _
def rMinS : List V → Hp → VK → Prop := fun xs H Q => ∃ (a : Addr) (kvs : List (Key × V)) (ks : List Str), xs = [.ref a] ∧ Rd H a (.dK kvs) ∧ kvs.map (·.1) = ks.map Sum.inr ∧ ks ≠ [] ∧ Q (.str (minS ks)) H
theorem call_minS {X : Cx} (hc : X.calm = true) : CallR X (.builtin "min") rMinS := by
  intro pins s σ H xs us Q I r q
  obtain ⟨a, kvs, ks, rfl, hd, hk, ne, q⟩ := q
  rw [Vals.ref1 r]
  obtain ⟨_, lo, vs, rel, dd⟩ := dk_rd I.hok hd
  obtain ⟨ep, dat⟩ := dd.dictAt
  obtain ⟨ob, es, ho, _⟩ := id dat
  have lt : a < s.heap.objs.size := Heap.lt_size ho
  have ek : vs.map (·.1) = ks.map Sum.inr := rel.keys.symm.trans hk
  have el : vs.length = ks.length := by
    have e := congrArg List.length ek
    rwa [List.length_map, List.length_map] at e
  have pos : 0 < vs.length := by rw [el]; exact List.length_pos_iff.mpr ne
  have vals : ∀ (i : Nat) (v : Value), (∃ k x, vs[i]? = some (k, x) ∧ (mixKind X.prog X.w).is k v = true) → ∃ t, v = Value.str (ks.getD i "") t := by
    rintro i v ⟨k, x, e1, e2⟩
    have e3 : (vs.map (·.1))[i]? = some k := by rw [List.getElem?_map, e1]; all_goals rfl
    rw [ek, List.getElem?_map] at e3
    obtain ⟨y, e4, e5⟩ := Option.map_eq_some_iff.mp e3
    subst e5
    obtain ⟨t, ev⟩ := Value.isStrOf_shape (x := y) (v := v) e2
    refine ⟨t, ?_⟩
    rw [List.getD_eq_getElem?_getD, e4]
    exact ev
  refine call_min_walk (wpAny_pyIter_dict (knd := mixKind X.prog X.w) lo dat ?_)
  refine ⟨_, _, _, _, _, _, _, rfl, Walks.dictKeys (knd := mixKind X.prog X.w) (A := X.A.in1) (I.ok.hd hc) s.heap.objs.size a (Nat.ne_of_lt lt) vs ep, ⟨⟨_, Heap.get?_push_size _ rfl, rfl, rfl⟩, dat.keep fun b u e => Heap.get?_push_of_some _ e⟩, ?_, pos, cmp_strs (fun i => ks.getD i "") vals, ?_⟩
  · intro b mb
    show b < (s.heap.push _).objs.size
    rw [Heap.size_push]
    rcases List.mem_cons.mp mb with e | mb
    · exact e ▸ Nat.lt_succ_self _
    · exact (List.mem_singleton.mp mb) ▸ Nat.lt_succ_of_lt lt
  · intro v h' tk hP hkeep
    obtain ⟨t, rfl⟩ := vals _ v hP
    refine ⟨.str _, H, I.kept (t' := tk) (fun b u e => hkeep b u (fun mb => ?_) (Heap.get?_push_of_some _ e)), ⟨t, rfl⟩, ?_⟩
    · have e1 : b = s.heap.objs.size := List.mem_singleton.mp mb
      exact Nat.lt_irrefl _ (e1 ▸ Heap.lt_size e)
    · rw [el]
      exact q
end TH

/-! J27: plainly: copies of jobs are the same; sorted jobs are one; a job with a greater distance -/
namespace TH
open PySem PySem.Spec PyProof.Rows L2 LamV LamX XK0
open C8 (pss_cut tCut)
open OD
/-! ### sorted texts -/
def leT (a b : Str) : Prop := ¬ b.cps.toList < a.cps.toList
theorem leT_trans {a b c : Str} (h1 : leT a b) (h2 : leT b c) : leT a c := by
  have q1 : a.cps.toList ≤ b.cps.toList := List.not_lt.mp h1
  have q2 : b.cps.toList ≤ c.cps.toList := List.not_lt.mp h2
  exact List.not_lt.mpr (List.le_trans q1 q2)
theorem leT_anti {a b : Str} (h1 : leT a b) (h2 : leT b a) : a = b := by
  have q1 : a.cps.toList ≤ b.cps.toList := List.not_lt.mp h1
  have q2 : b.cps.toList ≤ a.cps.toList := List.not_lt.mp h2
  have e : a.cps.toList = b.cps.toList := List.le_antisymm q1 q2
  cases a
  cases b
  exact congrArg _ (Array.toList_inj.mp e)
theorem risingT_pw : ∀ {l : List Str} {p : Str}, risingS p l = true → (p :: l).Pairwise leT
  | [], p, _ => by simp
  | x :: r, p, h => by
    have h : (!ltCps x.cps.toList p.cps.toList && risingS x r) = true := h
    rw [Bool.and_eq_true, Bool.not_eq_true', ltCps_eq, decide_eq_false_iff_not] at h
    have ih := risingT_pw h.2
    refine List.pairwise_cons.mpr ⟨fun y m => ?_, ih⟩
    rcases List.mem_cons.mp m with rfl | m
    · exact h.1
    · exact leT_trans h.1 ((List.pairwise_cons.mp ih).1 y m)
theorem sortedT_pw {l : List Str} (h : sortedS l = true) : l.Pairwise leT := by
  cases l with
  | nil => exact .nil
  | cons x r => exact risingT_pw h
theorem sort_one {l m : List Str} (h1 : sortedS l = true) (h2 : sortedS m = true) (p : l.Perm m) : l = m := p.eq_of_pairwise (le := leT) (fun _ _ _ _ => leT_anti) (sortedT_pw h1) (sortedT_pw h2)
theorem jbs_back {js ks : List Jb} (nd : (js.map Jb.name).Nodup) (p : ks.Perm js) : ks = (ks.map Jb.name).map (jbOf js) := by
  rw [List.map_map]
  have e : ks = ks.map id := by rw [List.map_id]
  conv => lhs; rw [e]
  exact List.map_congr_left fun j m => (jbOf_mem nd (p.mem_iff.mp m)).symm
theorem jbs_one {js ks ls : List Jb} (nd : (js.map Jb.name).Nodup) (p : ks.Perm js) (q : ls.Perm js) (s1 : sortedS (ks.map Jb.name) = true) (s2 : sortedS (ls.map Jb.name) = true) : ks = ls := by
  rw [jbs_back nd p, jbs_back nd q, sort_one s1 s2 ((p.trans q.symm).map Jb.name)]
theorem near_self (js : List Jb) : EqJs js js true := by
  have h1 : Paired NearJ js js := by
    induction js with
    | nil => exact .nil
    | cons j r ih => exact .cons ⟨rfl, rfl, rfl⟩ ih
  refine ⟨h1, .inl ⟨rfl, fun jk m => ?_⟩⟩
  obtain ⟨i, hi⟩ := List.getElem?_of_mem m
  obtain ⟨e1, e2⟩ := List.getElem?_zip_eq_some.mp hi
  rw [e1] at e2
  rw [Option.some.inj e2]
/-- the job of the name m with its distance greater -/
def bump (m : Str) (j : Jb) : Jb := { j with di := j.di + (if j.name = m then 1 else 0) }
theorem bump_names (m : Str) (js : List Jb) : (js.map (bump m)).map Jb.name = js.map Jb.name := by
  rw [List.map_map]
  exact List.map_congr_left fun _ _ => rfl
theorem fit_bump {js : List Jb} (m : Str) (g : FitJ js) : FitJ (js.map (bump m)) := by
  have e : ∀ {j}, j ∈ js.map (bump m) → ∃ i ∈ js, j = bump m i := fun h => by
    obtain ⟨i, mi, e⟩ := List.mem_map.mp h
    exact ⟨i, mi, e.symm⟩
  refine ⟨fun z => g.ne (List.map_eq_nil_iff.mp z), by rw [List.length_map]; exact g.l4, by rw [bump_names]; exact g.nd, fun j h => ?_, ?_, fun j h => ?_, fun j h => ?_, fun j h => ?_⟩
  · obtain ⟨i, mi, rfl⟩ := e h
    exact g.wd i mi
  · rw [List.map_map, show Jb.pr ∘ bump m = Jb.pr from rfl]
    exact g.pnd
  · obtain ⟨i, mi, rfl⟩ := e h
    exact g.p1 i mi
  · obtain ⟨i, mi, rfl⟩ := e h
    exact Nat.le_trans (g.d1 i mi) (Nat.le_add_right _ _)
  · obtain ⟨i, mi, rfl⟩ := e h
    exact g.gb i mi
theorem near_bump {js ks : List Jb} {x : Str} (nd : (js.map Jb.name).Nodup) (p : ks.Perm (js.map (bump x))) (s1 : sortedS (js.map Jb.name) = true) (s2 : sortedS (ks.map Jb.name) = true) (m : x ∈ js.map Jb.name) : EqJs js ks false := by
  have e : ks = js.map (bump x) := jbs_one (by rw [bump_names]; exact nd) p (List.Perm.refl _) s2 (by rw [bump_names]; exact s1)
  subst e
  have h1 : ∀ l : List Jb, Paired NearJ l (l.map (bump x)) := fun l => by
    induction l with
    | nil => exact .nil
    | cons j r ih => exact .cons ⟨rfl, rfl, rfl⟩ ih
  refine ⟨h1 js, .inr ⟨rfl, ?_⟩⟩
  obtain ⟨j, mj, e⟩ := List.mem_map.mp m
  obtain ⟨i, hi⟩ := List.getElem?_of_mem mj
  refine ⟨(j, bump x j), List.mem_of_getElem? (i := i) (List.getElem?_zip_eq_some.mpr ⟨hi, by rw [List.getElem?_map, hi]; rfl⟩), ?_⟩
  show j.di ≠ j.di + (if j.name = x then 1 else 0)
  rw [if_pos e]
  omega
/-! ### copies -/
theorem can_len2 {H : Hp} : ∀ {b : Bd} {xs : List V}, CanB H b xs → xs.length = b.len
  | .nil, xs, h => by
    have h : xs = [] := h
    rw [h]; rfl
  | .unit n r, xs, ⟨t, e, h⟩ => by rw [e, List.length_cons, can_len2 h]; rfl
  | .lock w b r, xs, ⟨p, q, ys, t, e, _, _, _, h⟩ => by rw [e, List.length_cons, can_len2 h]; rfl
theorem same_bd {K : PySem.W.Frag} {H : Hp} : ∀ (b : Bd) {n : Nat} {xs ys : List V}, CanB H b xs → CanB H b ys → (∀ w ∈ b.things, w.length ≤ 1000) → b.wid ≤ 900 → 2 * b.dep < n → Paired (SameV K H n) xs ys
  | .nil, n, xs, ys, h1, h2, _, _, _ => by
    have h1 : xs = [] := h1
    have h2 : ys = [] := h2
    rw [h1, h2]
    exact .nil
  | .unit k r, n, xs, ys, ⟨t, e1, h1⟩, ⟨u, e2, h2⟩, w, wd, dp => by
    obtain ⟨m, rfl⟩ : ∃ m, n = m + 1 := ⟨n - 1, by omega⟩
    have wd2 : r.wid ≤ 900 := Nat.le_trans (Nat.le_max_right _ _) wd
    rw [e1, e2]
    exact .cons (.inl (.inl ⟨rfl, .inl ⟨_, rfl⟩⟩)) (same_bd r h1 h2 w wd2 dp)
  | .lock x b r, n, xs, ys, ⟨p, q, zs, t, e1, a1, a2, a3, h1⟩, ⟨p', q', zs', u, e2, b1, b2, b3, h2⟩, w, wd, dp => by
    have dp1 : 2 * (max (b.dep + 1) r.dep) < n := dp
    have d1 : b.dep + 1 ≤ max (b.dep + 1) r.dep := Nat.le_max_left _ _
    have d2 : r.dep ≤ max (b.dep + 1) r.dep := Nat.le_max_right _ _
    have wd1 : max (r.len + 1) (max b.wid r.wid) ≤ 900 := wd
    have w1 : b.wid ≤ max (r.len + 1) (max b.wid r.wid) := Nat.le_trans (Nat.le_max_left _ _) (Nat.le_max_right _ _)
    have w2 : r.wid ≤ max (r.len + 1) (max b.wid r.wid) := Nat.le_trans (Nat.le_max_right _ _) (Nat.le_max_right _ _)
    have bl := Bd.len_wid b
    obtain ⟨m, rfl⟩ : ∃ m, n = m + 3 := ⟨n - 3, by omega⟩
    have wt : ∀ y ∈ b.things ++ r.things, y.length ≤ 1000 := fun y my => w y (List.mem_cons_of_mem _ my)
    rw [e1, e2]
    refine .cons (.inr ⟨p, p', _, _, rfl, rfl, .inr ⟨.inl (.inl a1), .inl (.inl b1)⟩, by show 2 ≤ 1000; decide, .cons (.inl (.inl ⟨rfl, .inr (.inr (.inr ⟨x, rfl, w x List.mem_cons_self⟩))⟩)) (.cons (.inr ⟨q, q', zs, zs', rfl, rfl, .inr ⟨.inl (.inl a2), .inl (.inl b2)⟩, by rw [can_len2 a3]; omega, same_bd b a3 b3 (fun y my => wt y (List.mem_append_left _ my)) (by omega) (by omega)⟩) .nil)⟩) (same_bd r h1 h2 (fun y my => wt y (List.mem_append_right _ my)) (by omega) (by omega))
theorem same_job {K : PySem.W.Frag} {H : Hp} {j : Jb} {x y : Key × V} {n : Nat} (h1 : JobA H j x) (h2 : JobA H j y) (g : GoodB 2 tsN j.bd) : SameV K H (n + 7) x.2 y.2 := by
  obtain ⟨_, t, q, xs, e1, a1, a2, a3⟩ := h1
  obtain ⟨_, t', q', ys, e2, b1, b2, b3⟩ := h2
  have d := g.dep
  have wd := g.wid
  have bl := Bd.len_wid j.bd
  refine .inr ⟨t, t', _, _, e1, e2, .inr ⟨.inl (.inl a1), .inl (.inl b1)⟩, by show 3 ≤ 1000; decide, .cons (.inl (.inl ⟨rfl, .inl ⟨_, rfl⟩⟩)) (.cons (.inl (.inl ⟨rfl, .inl ⟨_, rfl⟩⟩)) (.cons (.inr ⟨q, q', xs, ys, rfl, rfl, .inr ⟨.inl (.inl a2), .inl (.inl b2)⟩, by rw [can_len2 a3]; omega, same_bd j.bd a3 b3 (fun y my => tsN_len y (g.tm y my)) (by omega) (by omega)⟩) .nil))⟩
/-- rows of jobs: a tuple of the name and the job for each -/
def RowJ (H : Hp) (a : Addr) (j : Jb) : Prop := ∃ kv : Key × V, JobA H j kv ∧ H a = some (.tup [.str j.name, kv.2])
theorem same_rows {K : PySem.W.Frag} {H : Hp} {js : List Jb} {ps qs : List Addr} (h1 : Paired (RowJ H) ps js) (h2 : Paired (RowJ H) qs js) (gb : ∀ j ∈ js, GoodB 2 tsN j.bd) (wd : ∀ j ∈ js, j.name.length ≤ 1000) : Paired (SameV K H 8) (ps.map V.ref) (qs.map V.ref) := by
  induction h1 generalizing qs with
  | nil => cases h2; exact .nil
  | cons a _ ih =>
    cases h2 with
    | cons b h2 =>
      obtain ⟨kv, ja, ea⟩ := a
      obtain ⟨lv, jb, eb⟩ := b
      refine .cons (.inr ⟨_, _, _, _, rfl, rfl, .inr ⟨.inl (.inl ea), .inl (.inl eb)⟩, by show 2 ≤ 1000; decide, .cons (.inl (.inl ⟨rfl, .inr (.inr (.inr ⟨_, rfl, wd _ List.mem_cons_self⟩))⟩)) (.cons (same_job (n := 0) ja jb (gb _ List.mem_cons_self)) .nil)⟩) (ih h2 (fun j m => gb j (List.mem_cons_of_mem _ m)) fun j m => wd j (List.mem_cons_of_mem _ m))
/-- what items() tells of jobs -/
theorem items_rows {H H' : Hp} {js : List Jb} {kvs : List (Key × V)} {ts : List Addr} (pj : Paired (JobA H) js kvs) (k : KeepT H H') (h : Paired (fun (t : Addr) (q : Key × V) => H' t = some (.tup [kV q.1, q.2])) ts kvs) : Paired (RowJ H') ts js := by
  induction pj generalizing ts with
  | nil => cases h; exact .nil
  | cons a _ ih =>
    cases h with
    | cons b h =>
      refine .cons ⟨_, a.kt k, ?_⟩ (ih h)
      rw [b, a.1]
      rfl
theorem hand_ja {K : PySem.W.Frag} {H : Hp} {j : Jb} {kv : Key × V} (h : JobA H j kv) (g : GoodB 2 tsN j.bd) : HandJ K H j kv := ⟨h.1, _, ja_dp h, like_jobD g⟩
end TH

/-! J28: pieces of the law: rows of jobs, the jobs with a greater distance, == -/
namespace TH
open PySem PySem.Spec PyProof.Rows L2 LamV LamX XK0
open C8 (pss_cut tCut)
open OD
def rI1 : List V → Hp → VK → Prop := fun xs H Q => (∃ i, xs = [.int i] ∧ Q (.int i) H) ∨ ∃ k, xs = [.bl k] ∧ Q (.int (if k then 1 else 0)) H
theorem call_i1 {X : Cx} : CallR X (.type "int") rI1 := call_int1
abbrev tRowC (K : PySem.W.Frag) : TE := tLc (iList K (tCB rSD (tCons (tVar 2) tNil))) (gName 3) tYes (tTup (tCons (tVar 3) (tCons (tDGet (tVar 2) (tVar 3)) tNil))) [3]
theorem rows_comp {K : PySem.W.Frag} {σ : L2.St} {H : Hp} {Q : VK} {jd : Addr} {js : List Jb} (len : 3 < σ.length) (sj : σ[2]? = some (some (.ref jd))) (dj : DJ H jd js) (nd : (js.map Jb.name).Nodup) (l4 : js.length ≤ 4)
    (hQ : ∀ (D : Addr) (ps : List Addr) (js' : List Jb) (H' : Hp), Ex H H' → js'.Perm js → sortedS (js'.map Jb.name) = true → H' D = some (.lst (ps.map V.ref)) → Paired (RowJ H') ps js' → Q (.ref D) H') : tRowC K σ H Q := by
  obtain ⟨kj, hj, pj⟩ := dj
  refine ⟨.ref jd, sj, jd, kj, js.map Jb.name, rfl, .inl hj, ja_keys pj, by rw [List.length_map]; omega, fun ns q pm so nq => ?_⟩
  have x1 := Ex.new (o := .lst (ns.map V.str)) nq
  have hq : upd H q (.lst (ns.map V.str)) q = some (.lst (ns.map V.str)) := upd_same
  have hj1 := x1 _ _ hj
  generalize upd H q (.lst (ns.map V.str)) = H1 at x1 hq hj1 ⊢
  have nl : ns.length ≤ 4 := by rw [pm.length_eq, List.length_map]; exact l4
  refine ⟨q, rfl, ⟨_, .inl (.inl hq)⟩, fun D nD => ?_⟩
  refine lc_list (K := K) (xs := ns.map V.str) (fun i H' => ∃ ps : List Addr, Ex H1 H' ∧ H' D = some (.lst (ps.map V.ref)) ∧ Paired (RowJ H') ps ((ns.map (jbOf js)).take i)) ⟨[], Ex.new nD, upd_same, .nil⟩ (fun i H' _ ⟨_, x, _⟩ => .inl (.inl (x _ _ hq))) (fun i v H3 hv h => ?_) fun H3 h => ?_
  · obtain ⟨ps, x3, hD, pr⟩ := h
    rw [List.getElem?_map] at hv
    obtain ⟨x, ex, rfl⟩ := Option.map_eq_some_iff.mp hv
    have ilt := (List.getElem?_eq_some_iff.mp ex).1
    have av : ((wipe σ [3]).set 3 (some (V.str x)))[3]? = some (some (V.str x)) := List.getElem?_set_self (by rw [wipe_length]; exact len)
    have up : ((wipe σ [3]).set 3 (some (V.str x)))[2]? = σ[2]? := by
      rw [List.getElem?_set_ne (by decide)]
      exact List.getElem?_set_ne (by decide)
    have mx : x ∈ js.map Jb.name := pm.mem_iff.mp (List.mem_of_getElem? ex)
    obtain ⟨mj, ej⟩ := jbOf_of nd mx
    obtain ⟨v, ev, ja⟩ := ja_get pj nd mj
    rw [ej] at ev ja
    refine ⟨?_, .str x, av, .ref jd, up.trans sj, .str x, av, jd, v, rfl, ev ▸ DGet.k (k := Sum.inr x) (x3 _ _ hj1), by show 2 ≤ sizeLine; decide, fun t nt => ?_⟩
    · show ((σ.set 3 none).set 3 (some (V.str x))).set 3 none = σ.set 3 none
      rw [List.set_set, List.set_set]
    have xt := Ex.new (o := .tup [.str x, v]) nt
    have ht : upd H3 t (.tup [.str x, v]) t = some (.tup [.str x, v]) := upd_same
    generalize upd H3 t (.tup [.str x, v]) = H4 at xt ht ⊢
    have hD4 := xt _ _ hD
    have pl : ps.length ≤ 4 := by
      have e1 := Paired.length pr
      rw [List.length_take, List.length_map] at e1
      omega
    have off : ∀ {b ys}, H4 b = some (.tup ys) → b ≠ D := fun h z => by rw [z, hD4] at h; cases h
    have kt : KeepT H3 (upd H4 D (.lst (ps.map V.ref ++ [.ref t]))) := fun b zs e => (upd_ne (off (xt _ _ e))).trans (xt _ _ e)
    refine ⟨_, hD4, by rw [List.length_map, sizeLine_eq]; omega, ps ++ [t], fun b o e => (upd_ne fun z => by rw [z, nD] at e; cases e).trans (xt _ _ (x3 _ _ e)), by rw [upd_same, List.map_append]; rfl, ?_⟩
    rw [List.take_add_one, List.getElem?_map, ex]
    refine paired_app (Paired.mapP pr fun a j ⟨kv, z1, z2⟩ => ⟨kv, z1.kt kt, kt _ _ z2⟩) ⟨(Sum.inr x, v), (((ja.kt x1.kt).kt x3.kt).kt kt), ?_⟩
    rw [ej]
    exact (upd_ne (off ht)).trans ht
  · obtain ⟨ps, x3, hD, pr⟩ := h
    rw [List.length_map, show ns.length = (ns.map (jbOf js)).length from (List.length_map _).symm, List.take_length] at pr
    exact hQ D ps _ H3 (x1.trans x3) (jbs_perm nd pm) (by rw [jbs_names nd fun x m => pm.mem_iff.mp m]; exact so) hD pr
abbrev tIxD (K : PySem.W.Frag) (i : Int) : TE := tOp (rIxQ K) (tDGet (tVar 2) (tVar 3)) (tC (.int i))
abbrev othTE (K : PySem.W.Frag) : TE := tTup (tCons (tVar 3) (tCons (tTup (tCons (tIxD K 0) (tCons (tOp (rI0 fun i j => V.int (i + j)) (tIxD K 1) (tCB rI1 (tCons (tOp L2.rEq (tVar 3) (tCB rMinS (tCons (tVar 2) tNil))) tNil))) (tCons (tIxD K 2) tNil)))) tNil))
abbrev tOtC (K : PySem.W.Frag) : TE := tCB (rDictP K) (tCons (tLockE (tLc (iKeys (tVar 2)) (gName 3) tYes (othTE K) [3])) tNil)
theorem other_go {K : PySem.W.Frag} {σ : L2.St} {H : Hp} {Q : VK} {jd : Addr} {js : List Jb} (len : 3 < σ.length) (sj : σ[2]? = some (some (.ref jd))) (dj : DJ H jd js) (nd : (js.map Jb.name).Nodup) (ne : js ≠ []) (l4 : js.length ≤ 4)
    (hQ : ∀ (q : Addr) (ks : List (Key × V)) (H' : Hp), Ex H H' → H' q = some (.dK ks) → Paired (JobA H') (js.map (bump (minS (js.map Jb.name)))) ks → Q (.ref q) H') : tOtC K σ H Q := by
  obtain ⟨kj, hj, pj⟩ := dj
  have nne : js.map Jb.name ≠ [] := fun z => ne (List.map_eq_nil_iff.mp z)
  generalize eM : minS (js.map Jb.name) = m at hQ
  refine ⟨jd, _, hj, trivial, fun lo => ?_⟩
  refine ⟨.ref jd, sj, jd, lo, rfl, .inl ⟨kj, upd_same, fun D nD => ?_⟩⟩
  have kl : kj.length = js.length := (Paired.length pj).symm
  have nDj : D ≠ jd := fun z => by rw [z, upd_same] at nD; cases nD
  have kt1 : KeepT H (upd H jd (.frz lo (.dK kj))) := fun b zs e => (upd_ne fun z => by rw [z, hj] at e; cases e).trans e
  have hj1 : upd H jd (.frz lo (.dK kj)) jd = some (.frz lo (.dK kj)) := upd_same
  refine lc_it walk_keys (fun i H2 => Ex (upd H jd (.frz lo (.dK kj))) H2 ∧ ∃ (ps : List Addr) (ks : List (Key × V)), H2 D = some (.lst (ps.map V.ref)) ∧ Paired (fun a (kv : Key × V) => H2 a = some (.tup [kV kv.1, kv.2])) ps ks ∧ Paired (JobA H2) ((js.map (bump m)).take i) ks) ⟨Ex.new nD, [], [], upd_same, .nil, .nil⟩ (fun i H2 _ h => h.1 _ _ hj1) (fun i v H2 H3 hi h y => ?_) fun H2 h => ?_
  · obtain ⟨x2, ps, ks, hD, p1, p2⟩ := h
    obtain ⟨rfl, k, v2, ek, rfl⟩ := y
    obtain ⟨j, ej, e1, t, q, xs, ev, ht, hq, cb⟩ := paired_get pj ek
    have e1 : k = Sum.inr j.name := e1
    have ev : v2 = .ref t := ev
    subst e1 ev
    have kt2 : KeepT H H3 := fun b zs e => x2 _ _ (kt1 _ _ e)
    have hj3 := x2 _ _ hj1
    have av : ((wipe σ [3]).set 3 (some (V.str j.name)))[3]? = some (some (V.str j.name)) := List.getElem?_set_self (by rw [wipe_length]; exact len)
    have up : ((wipe σ [3]).set 3 (some (V.str j.name)))[2]? = some (some (.ref jd)) := by
      rw [List.getElem?_set_ne (by decide)]
      exact (List.getElem?_set_ne (by decide)).trans sj
    have vv : valV kj (Sum.inr j.name) = some (.ref t) := valV_mem (q := (Sum.inr j.name, .ref t)) (by rw [ja_keys pj]; exact nd_inr nd) (List.mem_of_getElem? ek)
    have g1 : DGet H3 jd (.str j.name) (some (.ref t)) := .inl ⟨kj, Sum.inr j.name, .inr ⟨lo, hj3⟩, rfl, vv.symm⟩
    have ix : ∀ {i : Nat} {v : V}, [V.int j.pr, .int j.di, .ref q][i]? = some v → ∀ {Q' : VK}, Q' v H3 → tIxD K (i : Int) ((wipe σ [3]).set 3 (some (V.str j.name))) H3 Q' := fun {i v} e {Q'} hq' => ⟨.ref jd, up, .str j.name, av, jd, .ref t, rfl, g1, t, _, _, v, rfl, rfl, .inr (.inl (.inl (kt2 _ _ ht))), at_nat (k := i) e, hq'⟩
    refine ⟨?_, .str j.name, av, ix (i := 0) rfl (op_one (ix (i := 1) rfl ⟨.str j.name, av, .ref jd, up, jd, kj, js.map Jb.name, rfl, .inr ⟨lo, hj3⟩, ja_keys pj, nne, rfl, .inr ⟨_, rfl, j.di, _, rfl, rfl, ix (i := 2) rfl ⟨by show 3 ≤ sizeLine; decide, fun t2 nt2 => ⟨by show 2 ≤ sizeLine; decide, fun t3 nt3 => ?_⟩⟩⟩⟩))⟩
    · show ((σ.set 3 none).set 3 (some (V.str j.name))).set 3 none = σ.set 3 none
      rw [List.set_set, List.set_set]
    have eD : ((j.di : Int) + if decide (V.str j.name = V.str (minS (js.map Jb.name))) = true then 1 else 0) = ((bump m j).di : Int) := by
      rw [eM]
      show _ = ((j.di + (if j.name = m then 1 else 0) : Nat) : Int)
      by_cases z : j.name = m
      · rw [z, decide_eq_true rfl, if_pos rfl, if_pos rfl]
        rfl
      · rw [decide_eq_false fun q => z (V.str.inj q), if_neg Bool.false_ne_true, if_neg z]
        rfl
    dsimp only at nt3 ⊢
    rw [eD] at nt3 ⊢
    have xt := (Ex.new (o := .tup [.int j.pr, .int (bump m j).di, .ref q]) nt2).trans (Ex.new (o := .tup [.str j.name, .ref t2]) nt3)
    have ht2 := (Ex.new (o := .tup [.str j.name, .ref t2]) nt3) _ _ (upd_same (H := H3) (a := t2) (o := .tup [.int j.pr, .int (bump m j).di, .ref q]))
    have ht3 := upd_same (H := upd H3 t2 (.tup [.int j.pr, .int (bump m j).di, .ref q])) (a := t3) (o := .tup [.str j.name, .ref t2])
    generalize upd (upd H3 t2 (.tup [.int j.pr, .int (bump m j).di, .ref q])) t3 (.tup [.str j.name, .ref t2]) = H4 at xt ht2 ht3 ⊢
    have hD4 := xt _ _ hD
    have pl : ps.length ≤ 4 := by
      have e1 := Paired.length p1
      have e2 := Paired.length p2
      rw [List.length_take, List.length_map] at e2
      omega
    have off : ∀ {b ys}, H4 b = some (.tup ys) → b ≠ D := fun h z => by rw [z, hD4] at h; cases h
    have kt : KeepT H4 (upd H4 D (.lst (ps.map V.ref ++ [.ref t3]))) := fun b zs e => (upd_ne (off e)).trans e
    have kt3 : KeepT H3 (upd H4 D (.lst (ps.map V.ref ++ [.ref t3]))) := fun b zs e => kt _ _ (xt _ _ e)
    refine ⟨_, hD4, by rw [List.length_map, sizeLine_eq]; omega, fun b o e => (upd_ne fun z => by rw [z, nD] at e; cases e).trans (xt _ _ (x2 _ _ e)), ps ++ [t3], ks ++ [(Sum.inr j.name, V.ref t2)], by rw [upd_same, List.map_append]; rfl, paired_app (Paired.mapP p1 fun _ _ z => kt3 _ _ z) ((upd_ne (off ht3)).trans ht3), ?_⟩
    rw [List.take_add_one, List.getElem?_map, ej]
    exact paired_app (Paired.mapP p2 fun _ _ z => z.kt kt3) ⟨rfl, t2, q, xs, rfl, kt _ _ ht2, kt3 _ _ (kt2 _ _ hq), (cb.kt kt2).kt kt3⟩
  · obtain ⟨x2, ps, ks, hD, p1, p2⟩ := h
    rw [kl, show js.length = (js.map (bump m)).length from (List.length_map _).symm, List.take_length] at p2
    have hj2 := x2 _ _ hj1
    refine ⟨hj2, ?_⟩
    have x3 := Ex.unlock hj x2
    have nk : ∀ {b : Addr} {o : HO}, H2 b = some o → (∀ od u, o ≠ .frz od u) → upd H2 jd (.dK kj) b = some o := fun {b o} e n => (upd_ne fun z => by rw [z, hj2] at e; cases e; exact n _ _ rfl).trans e
    have kt : KeepT H2 (upd H2 jd (.dK kj)) := fun b zs e => nk e fun _ _ z => nomatch z
    refine ⟨D, ps, ks, rfl, .inl (.inl (nk hD fun _ _ z => nomatch z)), Paired.mapP p1 fun a kv e => .inl (.inl (kt _ _ e)), fun q nq => ?_⟩
    have nd2 : (ks.map (·.1)).Nodup := by
      rw [ja_keys p2, bump_names]
      exact nd_inr nd
    rw [merge_nd ks [] nd2, List.nil_append]
    have x4 := Ex.new (o := .dK ks) nq
    exact hQ q ks _ (x3.trans x4) upd_same (Paired.mapP p2 fun _ _ z => (z.kt kt).kt x4.kt)
theorem jb_ins {F : Addr → Prop} {H : Hp} {C p : Addr} {js : List Jb} (h : IsJb F H C p js) : ∃ dx fs, H p = some (.ins C dx fs) ∧ fs.lookup ("jobs" : Str) = none ∧ fs.lookup ("cost" : Str) = none ∧ fs.lookup ("ceiling" : Str) = none := by
  obtain ⟨dx, kj, ks, kc, kl, cl, e, _⟩ := h
  exact ⟨dx, _, e, rfl, rfl, rfl⟩
theorem eqJ_go {F F2 : Addr → Prop} {C t u : Addr} {js ks : List Jb} {H : Hp} {Q : VK} {r : Bool} (ij : IsJb F H C t js) (ft : FitJ js) (iu : IsJb F2 H C u ks) (fu : FitJ ks) (q : EqJs js ks r) (hQ : ∀ H', Ex H H' → Q (.bl r) H') : OQ.rEq C (spJEq C) E0 (.ref t) (.ref u) H Q := by
  obtain ⟨dx, fs, et, _⟩ := jb_ins ij
  obtain ⟨dy, gs, eu, _⟩ := jb_ins iu
  exact ⟨t, dx, fs, rfl, et, .inl ⟨u, dy, gs, rfl, eu⟩, F, t, js, .ref u, rfl, ij, ft, .inr ⟨F2, u, ks, r, rfl, iu, fu, q, fun H' x => ⟨r, rfl, hQ H' x⟩⟩⟩
theorem eqD_go {F : Addr → Prop} {C t b : Addr} {js : List Jb} {xs : List (Key × V)} {H : Hp} {Q : VK} (ij : IsJb F H C t js) (ft : FitJ js) (hb : H b = some (.dK xs)) (hQ : ∀ H', Ex H H' → Q (.bl false) H') : OQ.rEq C (spJEq C) E0 (.ref t) (.ref b) H Q := by
  obtain ⟨dx, fs, et, _⟩ := jb_ins ij
  exact ⟨t, dx, fs, rfl, et, .inr ⟨b, xs, rfl, hb⟩, F, t, js, .ref b, rfl, ij, ft, .inl ⟨b, xs, rfl, hb, fun H' x => ⟨false, rfl, hQ H' x⟩⟩⟩
theorem ceil_none {js : List Jb} {x : Str} (h : ∀ j ∈ js, x ∉ j.bd.things) : ceilN js x = 0 := by
  have e : ceilN js x ≤ 0 := fm_le.mpr ⟨Nat.le_refl 0, fun y my => by
    obtain ⟨j, mj, rfl⟩ := List.mem_map.mp my
    unfold prOf
    rw [if_neg (h j mj)]
    exact Nat.le_refl 0⟩
  omega
end TH

/-! J29: law (its term printed by gen_j29.py) -/
namespace TH
open PySem PySem.Spec PyProof.Rows L2 LamV LamX XK0
open C8 (pss_cut tCut Met pe_mt0 pe_mt)
open OD
abbrev sLawJ : Stmt := top 48
theorem extN_viaP {p : Addr} {H0 H1 H2 : Hp} (x : ExtN H0 H1) (n : H0 p = none) (y : ExP p H1 H2) : ExtN H0 H2 := fun b o e t => y b o (fun z => by rw [z, n] at e; cases e) (x b o e t) t
/-- what stands from some time on -/
structure AmL (T : List (Addr × Str)) (F : Addr → Prop) (p t jd C : Addr) (js js2 : List Jb) (H0 H : Hp) (n : Nat) : Prop where
  S : Pool H p n
  tb : Tabs T H
  ij : IsJb F H C t js2
  dj : DJ H jd js
  xN : ExtN H0 H
theorem AmL.p {T : List (Addr × Str)} {F : Addr → Prop} {p t jd C : Addr} {js js2 : List Jb} {H0 H H' : Hp} {n m : Nat} (h : AmL T F p t jd C js js2 H0 H n) (np : H0 p = none) (x : ExP p H H') (S : Pool H' p m) (tb : Tabs T H') : AmL T F p t jd C js js2 H0 H' m := ⟨S, tb, h.ij.p x h.S, h.dj.p x h.S, extN_viaP h.xN np x⟩
theorem AmL.ex {T : List (Addr × Str)} {F : Addr → Prop} {p t jd C : Addr} {js js2 : List Jb} {H0 H H' : Hp} {n : Nat} (h : AmL T F p t jd C js js2 H0 H n) (np : H0 p = none) (x : Ex H H') : AmL T F p t jd C js js2 H0 H' n := h.p np (Ex.p x) (h.S.ex x) (x.tabs h.tb)
theorem AmL.a {T : List (Addr × Str)} {F : Addr → Prop} {p t jd C : Addr} {js js2 : List Jb} {H0 H H' : Hp} {n m : Nat} (h : AmL T F p t jd C js js2 H0 H n) (np : H0 p = none) (x : ExA p H H') (S : Pool H' p m) : AmL T F p t jd C js js2 H0 H' m := h.p np x.p S (Tabs.exP x h.S h.tb)
theorem make_goA {K : PySem.W.Frag} {C : Addr} {Q : Addr → Hp → Prop} {H : Hp} {hd : Addr} {kvs : List (Key × V)} {js : List Jb} (hh : H hd = some (.dK kvs)) (pj : Paired (HandJ K H) js kvs) (fit : FitJ js)
    (hQ : ∀ (t : Addr) (H' : Hp) (js' : List Jb), Ex H H' → H t = none → IsJb (fun a => H a = none) H' C t js' → js'.Perm js → sortedS (js'.map Jb.name) = true → Q t H') :
    ∀ x dx, H x = none → H dx = none → dx ≠ x → spJInit K C (.ref x :: ([.ref hd] ++ [])) (upd (upd H dx (.own x)) x (.ins C dx [])) (fun v H2 => v = .non ∧ Q x H2) E0 := fun x dx nx ndx ne => by
  have x1 : Ex H (upd (upd H dx (.own x)) x (.ins C dx [])) := ex_make nx ndx
  exact ⟨x, dx, hd, js, kvs, rfl, upd_same, x1 _ _ hh, Paired.mapP pj fun _ _ z => z.ex x1, fit, fun H' js' xa ij pm so => ⟨rfl, hQ x H' js' (fun b o e => xa _ _ (fun z => by rw [z, nx] at e; cases e) (x1 _ _ e)) nx (ij.keep (fun a n => x1.none n) fun b o _ e => e) pm so⟩⟩
theorem make_one {C : Addr} {sp : Sp} {dvs : List V} {E : XK} {t : TA} {σ : L2.St} {H : Hp} {Q : VK} (h : t σ H fun vs H1 => ∀ x dx, H1 x = none → H1 dx = none → dx ≠ x → sp (.ref x :: (vs ++ dvs)) (upd (upd H1 dx (.own x)) x (.ins C dx [])) (fun v H2 => v = .non ∧ Q (.ref x) H2) E) : tMake C sp dvs E t σ H Q := h
theorem IsJb.sep {F : Addr → Prop} {H : Hp} {C p b : Addr} {js : List Jb} (h : IsJb F H C p js) (n : H b = none) : IsJb (fun a => F a ∧ a ≠ b) H C p js := by
  obtain ⟨dx, kj, ks, kc, kl, cl, e, ⟨f1, f2, f3⟩, ⟨kvs, h1, pr⟩, h2, h3, h4⟩ := h
  exact ⟨dx, kj, ks, kc, kl, cl, e, ⟨⟨f1, fun z => by rw [z, n] at h1; cases h1⟩, ⟨f2, fun z => by rw [z, n] at h2; cases h2⟩, ⟨f3, fun z => by rw [z, n] at h3; cases h3⟩⟩, ⟨kvs, h1, pr⟩, h2, h3, h4⟩
theorem FoP.a {p : Addr} {T : List (Addr × Str)} {H0 H H' : Hp} {fl : Addr} {its : List (Str × V)} {n : Nat} (F : FoP p T H0 H fl its) (S : Pool H p n) (x : ExA p H H') : FoP p T H0 H' fl its := by
  obtain ⟨qs, hf, prs⟩ := F.all
  exact ⟨F.ex.trans x.p, F.new, F.off, Tabs.exP x S F.tabs, qs, x _ _ F.off hf, Paired.mapP prs fun _ _ e => x.nl S e fun _ z => nomatch z⟩
theorem hands {K : PySem.W.Frag} {H : Hp} {js : List Jb} {kvs : List (Key × V)} (f : FitJ js) (p : Paired (JobA H) js kvs) : Paired (HandJ K H) js kvs := by
  have gb := f.gb
  clear f
  induction p with
  | nil => exact .nil
  | cons a _ ih => exact .cons (hand_ja a (gb _ List.mem_cons_self)) (ih fun j m => gb j (List.mem_cons_of_mem _ m))
def NThing (v : V) : Prop := isWd v = false ∨ v = .str "nothing"
def OdD (K : PySem.W.Frag) (p : Addr) (H : Hp) (v : V) : Prop := OdN K p H v ∨ ∃ a, v = .ref a ∧ H a = some (.dK [])
theorem OdD.ex {K : PySem.W.Frag} {p : Addr} (H H' : Hp) (v : V) (x : Ex H H') (h : OdD K p H v) : OdD K p H' v := h.imp (OdN.ex H H' v x) fun ⟨a, e, q⟩ => ⟨a, e, x _ _ q⟩
theorem OdD.p {K : PySem.W.Frag} {p : Addr} {H H' : Hp} {v : V} {n : Nat} (x : ExP p H H') (S : Pool H p n) (h : OdD K p H v) : OdD K p H' v := h.imp (OdN.p x) fun ⟨a, e, q⟩ => ⟨a, e, x.dk S q⟩
theorem odd_n {K : PySem.W.Frag} {p : Addr} {σ : L2.St} {H0 : Hp} {te : TE} (a : ValE σ H0 te (OdN K p)) : ValE σ H0 te (OdD K p) := valE_of a fun H v h => .inl h
theorem odd_d {K : PySem.W.Frag} {p : Addr} {σ : L2.St} {H0 : Hp} : ValE σ H0 tDNewK (OdD K p) := fun H Q x k => fun a na => k _ _ (Ex.new na) (.inr ⟨a, rfl, upd_same⟩)
theorem nothing_no {js : List Jb} (g : ∀ j ∈ js, GoodB 2 tsN j.bd) : ceilN js "nothing" = 0 := ceil_none fun j m z => absurd ((g j m).tm _ z) (by decide +kernel)
def LwJ (K : PySem.W.Frag) (T : List (Addr × Str)) (a : Addr) (ns : List Int) (_ : Nat) (σ : L2.St) (H : Hp) : Prop := ∃ (o1 o2 o3 o4 o5 o6 o7 o8 o9 o10 o11 o12 o13 : Option V), σ = [some (.ref a), o1, o2, o3, o4, o5, o6, o7, o8, o9, o10, o11, o12, o13] ∧ SqL K H a (ns.map V.int) ∧ Tabs T H
def spLawP (K : PySem.W.Frag) (T : List (Addr × Str)) : Sp := fun vs H Q _ => ∃ (a : Addr) (ns : List Int), vs = [.ref a] ∧ SqL K H a (ns.map V.int) ∧ ns.length ≤ 63 ∧ Tabs T H ∧ ∀ H', Q (.bl true) H'
section
variable {P : Program} {w : World} {K : PySem.W.Frag} {mg : Str → Option Value} {base : Heap} {f C CJ CN CT CB CM c Pt gm0 fI fE : Addr} {fd fdm fdI fdE : FuncData} {T : List (Addr × Str)}
theorem scLawJ : FnScope ["_law_script", "_law_turn", "_law_jobs_here", "_law_job", "_law_handed_here", "_law_ceilings_here", "_law_other", "_law_found", "_law_key", "_law_bad", "_law_made_here", "_law_odd", "_law_pool_here", "_law_thing"] ["_law_script"] (defScope sLawJ) := ⟨rfl, rfl, rfl, by decide +kernel, rfl, by decide +kernel, by decide +kernel⟩
theorem ok_law (F : FnP K "law" sLawJ f fd) (hcode : codeOf K f = some (.ref c)) (TB : TabB base mg c Pt) (hm : (Pt, lamL) ∈ T) (hT : ∀ p ∈ T, p.1 = Pt → p.2 = lamL) (M : Met5 K mg CJ CN CT CB CM) (FMt : FnP K "_law_met" sMet5 gm0 fdm) (gMt : mg "_law_met" = some (.ref gm0)) (kMt : PySem.W.keepIn K (.ref gm0) = true)
    (FP : Has P w K mg base "_law_pool" 1 ["_law_script", "_law_turn"] (spPool K)) (FT : Has P w K mg base "_law_take" 1 ["_law_pool_here", "_law_many"] spTakeP) (FO : Has P w K mg base "_law_one" 2 ["_law_pool_here", "_law_things"] spOneP) (FM : Has P w K mg base "_law_mixed" 2 ["_law_pool_here", "_law_things"] spMixed)
    (FJ : Has P w K mg base "_law_jobs" 7 ["_law_pool_here", "_law_many"] spJobs) (FH : Has P w K mg base "_law_handed" 9 ["_law_pool_here", "_law_thing"] (spHanded K 7)) (FU : Has P w K mg base "_law_units" 4 ["_law_body_here", "_law_around"] (spUnits 3)) (FC : Has P w K mg base "_law_ceilings" 5 ["_law_jobs_here"] spCeilings)
    (FMd : Has P w K mg base "_law_made" 11 ["_law_pool_here", "_law_jobs_here"] (spMadeJ C)) (FBJ : Has P w K mg base "_law_bad_jobs" 3 ["_law_pool_here", "_law_jobs_here"] (spBadJobs K w)) (FR : Has P w K mg base "_law_refused" 8 ["_law_pool_here", "_law_made_here", "_law_jobs_here"] (spRefused C T)) (FS : Has P w K mg base "_law_same" 10 ["_law_found", "_law_due"] (spSame K 9))
    (MT : Mk K C fI) (gT : mg "Jobs" = some (.ref C)) (bI : Binds K fdI ["self", "jobs"] []) (FI : FnOk P w K mg base CX0 9 fI fdI ["self", "jobs"] (spJInit K C)) (FIX : FnOk P w K mg base (L2.CX P w) 9 fI fdI ["self", "jobs"] (spJInitX K w C CJ))
    (MJ : Met P w K mg base 1 C "jobs" (spJobsM C) []) (MC : Met P w K mg base 3 C "cost" (spCost C) []) (MCe : Met P w K mg base 2 C "ceiling" (spCeil C) []) (MCX : MetX P w K mg base 5 C "cost" (spCheckJobX K C CN)) (MCeX : MetX P w K mg base 4 C "ceiling" (spCeilX K C CT))
    (EC : OQ.EqC K C fE) (FE : FnOk P w K mg base CX0 1 fE fdE ["self", "other"] (spJEq C)) (bE : Binds K fdE ["self", "other"] [])
    (gs : mg "sorted" = none) (gd : mg "dict" = none) (gl : mg "list" = none) (gn : mg "len" = none) (gi : mg "int" = none) (gm : mg "min" = none) (gr : mg "range" = none) :
    FnOk P w K mg base CX0 13 f fd ["_law_script"] (spLawP K T) := by
  refine ok_code F hcode scLawJ (fun vs H Q E h => ?_) (fun A outer s H vs Q E hr h => ?_)
  · obtain ⟨a, ns, rfl, _⟩ := h
    rfl
  · have hu := hu_of hr
    refine ⟨_, PSs.nox (pss_cut (ps_for PassesOwn.never rfl (pi_range1 rfl gr (pa_cons pe_int pa_nil)) (pg_name (i := 1) scLawJ.nd rfl (.inl rfl))
      (pss_cut (ps_set (i := 12) scLawJ.nd rfl (.inr rfl) (pe_has FP hr (by decide) rfl (pa_cons (pv 0) (pa_cons (pv 1) pa_nil))))
      (pss_cut (ps_set (i := 2) scLawJ.nd rfl (.inr rfl) (pe_has FJ hr (by decide) rfl (pa_cons (pv 12) (pa_cons (pe_op op_add pe_int (pe_has FT hr (by decide) rfl (pa_cons (pv 12) (pa_cons pe_int pa_nil)))) pa_nil))))
      (pss_cut (ps_set (i := 4) scLawJ.nd rfl (.inl rfl) (pe_callTy (call_dictPK rfl) rfl gd boot_dict (pa_cons (pe_lc (te := (tTup (tCons (tVar 3) (tCons (tCall (spHanded K 7) [] E0 (tCons (tVar 12) (tCons (tDGet (tVar 2) (tVar 3)) tNil))) tNil)))) (tt := tYes) (own := [("_law_job", 3)]) rfl scLawJ.nd (pi_list (pe_has FM hr (by decide) rfl (pa_cons (pv 12) (pa_cons (pe_callB (call_sd rfl) rfl gs boot_sorted (pa_cons (pv 2) pa_nil)) pa_nil)))) (blkOk_by (by kernel_rfl)) (fun s H C cl fp => (pg_name (i := 3) scLawJ.nd rfl (.inl rfl) (.inr rfl))) (fun s H C cl fp => pts_nil) (fun s H C cl fp => (pe_tup (pa_cons (pv 3) (pa_cons (pe_has FH hr (by decide) rfl (pa_cons (pv 12) (pa_cons (pe_dget hu (pv 2) (pv 3) (fun _ _ => rfl)) pa_nil))) pa_nil))))) pa_nil)))
      (pss_cut (ps_asg (pe_tup (pa_cons (pe_make MT FI (hr.mono (by decide)) rfl gT bI .nil pass0 (pa_cons (pv 4) pa_nil)) (pa_cons (pe_has FC hr (by decide) rfl (pa_cons (pv 2) pa_nil)) pa_nil))) (pg_tup rfl (pgs_cons (pg_name (i := 10) scLawJ.nd rfl (.inr rfl)) (pgs_cons (pg_name (i := 5) scLawJ.nd rfl (.inl rfl)) pgs_nil))))
      (pss_cut (ps_expr (pe_dclear (pv 4)))
      (pss_cut (ps_expr (pe_dclear (pe_mt0 MJ hr (by decide) (pv 10))))
      (pss_cut (ps_if (pt_not (pt_val (pe_has FS hr (by decide) rfl (pa_cons (LiI.pe_listItems rfl (pe_mt0 MJ hr (by decide) (pv 10)) rfl gl boot_list) (pa_cons (pe_lc (te := (tTup (tCons (tVar 3) (tCons (tDGet (tVar 2) (tVar 3)) tNil)))) (tt := tYes) (own := [("_law_job", 3)]) rfl scLawJ.nd (pi_list (pe_callB (call_sd rfl) rfl gs boot_sorted (pa_cons (pv 2) pa_nil))) (blkOk_by (by kernel_rfl)) (fun s H C cl fp => (pg_name (i := 3) scLawJ.nd rfl (.inl rfl) (.inr rfl))) (fun s H C cl fp => pts_nil) (fun s H C cl fp => (pe_tup (pa_cons (pv 3) (pa_cons (pe_dget hu (pv 2) (pv 3) (fun _ _ => rfl)) pa_nil))))) pa_nil))))) (pss_one (ps_ret pe_bl)) pss_nil)
      (pss_cut (ps_lock (ps_for PassesOwn.never rfl (pi_keys (pv 2)) (pg_name (i := 3) scLawJ.nd rfl (.inl rfl)) (pss_one (ps_if (pt_not (pt_val (pe_has FS hr (by decide) rfl (pa_cons (pe_mt MC hr (by decide) (pv 10) (pa_cons (pv 3) pa_nil)) (pa_cons (pe_callB call_len rfl gn boot_len (pa_cons (pe_has FU hr (by decide) rfl (pa_cons (pe_ix ix_sq (pe_dget hu (pv 2) (pv 3) (fun _ _ => rfl)) pe_int (fun _ _ => rfl)) (pa_cons (pe_tup pa_nil) pa_nil))) pa_nil)) pa_nil))))) (pss_one (ps_ret pe_bl)) pss_nil))))
      (pss_cut (ps_lock (ps_for PassesOwn.never rfl (pi_keys (pv 5)) (pg_name (i := 13) scLawJ.nd rfl (.inr rfl)) (pss_one (ps_if (pt_not (pt_val (pe_has FS hr (by decide) rfl (pa_cons (pe_mt MCe hr (by decide) (pv 10) (pa_cons (pv 13) pa_nil)) (pa_cons (pe_dget hu (pv 5) (pv 13) (fun _ _ => rfl)) pa_nil))))) (pss_one (ps_ret pe_bl)) pss_nil))))
      (pss_cut (ps_set (i := 6) scLawJ.nd rfl (.inl rfl) (pe_callTy (call_dictPK rfl) rfl gd boot_dict (pa_cons (pe_lock (pe_lc (te := (tTup (tCons (tVar 3) (tCons (tTup (tCons (tOp (rIxQ K) (tDGet (tVar 2) (tVar 3)) (tC (.int 0))) (tCons (tOp (rI0 fun i j => V.int (i + j)) (tOp (rIxQ K) (tDGet (tVar 2) (tVar 3)) (tC (.int 1))) (tCB rI1 (tCons (tOp L2.rEq (tVar 3) (tCB rMinS (tCons (tVar 2) tNil))) tNil))) (tCons (tOp (rIxQ K) (tDGet (tVar 2) (tVar 3)) (tC (.int 2))) tNil)))) tNil)))) (tt := tYes) (own := [("_law_job", 3)]) rfl scLawJ.nd (pi_keys (pv 2)) (blkOk_by (by kernel_rfl)) (fun s H C cl fp => (pg_name (i := 3) scLawJ.nd rfl (.inl rfl) (.inr rfl))) (fun s H C cl fp => pts_nil) (fun s H C cl fp => (pe_tup (pa_cons (pv 3) (pa_cons (pe_tup (pa_cons (pe_ix ix_sq (pe_dget hu (pv 2) (pv 3) (fun _ _ => rfl)) pe_int (fun _ _ => rfl)) (pa_cons (pe_op op_add (pe_ix ix_sq (pe_dget hu (pv 2) (pv 3) (fun _ _ => rfl)) pe_int (fun _ _ => rfl)) (pe_callTy call_i1 rfl gi boot_int (pa_cons (pe_cmpR op_eq (pv 3) (pe_callB (call_minS rfl) rfl gm boot_min (pa_cons (pv 2) pa_nil)) (nomark _)) pa_nil))) (pa_cons (pe_ix ix_sq (pe_dget hu (pv 2) (pv 3) (fun _ _ => rfl)) pe_int (fun _ _ => rfl)) pa_nil)))) pa_nil)))))) pa_nil)))
      (pss_cut (ps_if (PW.pt (pw_or (pt_not (pt_cmpR (OQ.op_eqO EC FE (hr.mono (by decide)) bE pass0) (pv 10) (pe_has FMd hr (by decide) rfl (pa_cons (pv 12) (pa_cons (pv 2) pa_nil))) (by with_unfolding_all rfl))) (pw_or (pt_cmpR (OQ.op_eqO EC FE (hr.mono (by decide)) bE pass0) (pv 10) (pe_make MT FI (hr.mono (by decide)) rfl gT bI .nil pass0 (pa_cons (pv 6) pa_nil)) (by with_unfolding_all rfl)) (pw_or1 (pt_cmpR (OQ.op_eqO EC FE (hr.mono (by decide)) bE pass0) (pv 10) (pv 2) (by with_unfolding_all rfl)))))) (pss_one (ps_ret pe_bl)) pss_nil)
      (pss_cut (ps_set (i := 11) scLawJ.nd rfl (.inr rfl) (pe_has FO hr (by decide) rfl (pa_cons (pv 12) (pa_cons (pe_lst (pa_cons pe_non (pa_cons pe_int (pa_cons pe_str (pa_cons pe_str (pa_cons (pe_lst pa_nil) (pa_cons pe_dnewK (pa_cons pe_bl pa_nil)))))))) pa_nil))))
      (pss_cut (ps_set (i := 13) scLawJ.nd rfl (.inr rfl) (pe_has FO hr (by decide) rfl (pa_cons (pv 12) (pa_cons (pe_lst (pa_cons pe_non (pa_cons pe_int (pa_cons pe_str (pa_cons pe_str (pa_cons (pe_lst pa_nil) (pa_cons pe_dnewK pa_nil))))))) pa_nil))))
      (pss_cut (ps_set (i := 7) scLawJ.nd rfl (.inl rfl) (pe_lst (pa_cons (pe_met5 M FMt gMt kMt TB rfl rfl hm hT hr rfl (lamS_by (by kernel_rfl)) rfl (fun _ _ _ _ _ => rfl) (fun A outer s H E f c' hr2 => (pe_mtX (E := E) MCX hr2 (by decide) (takes_of rfl rfl rfl rfl) (fun _ _ _ _ z => z) (pv 10) (pa_cons (pv 11) pa_nil)))) pa_nil)))
      (pss_cut (ps_expr (pe_bm PySem.F.plainAttrs_list PySem.F.slot_list_append PySem.F.type_list_append mt_append (pv 7) (pa_cons (pe_met5 M FMt gMt kMt TB rfl rfl hm hT hr rfl (lamS_by (by kernel_rfl)) rfl (fun _ _ _ _ _ => rfl) (fun A outer s H E f c' hr2 => (pe_mtX (E := E) MCeX hr2 (by decide) (takes_of rfl rfl rfl rfl) (fun _ _ _ _ z => z) (pv 10) (pa_cons (pv 13) pa_nil)))) pa_nil)))
      (pss_cut (ps_asg (pe_has FBJ hr (by decide) rfl (pa_cons (pv 12) (pa_cons (pv 2) pa_nil))) (pg_tup rfl (pgs_cons (pg_name (i := 9) scLawJ.nd rfl (.inr rfl)) (pgs_cons (pg_name (i := 8) scLawJ.nd rfl (.inl rfl)) pgs_nil))))
      (pss_cut (ps_expr (pe_bm PySem.F.plainAttrs_list PySem.F.slot_list_append PySem.F.type_list_append mt_append (pv 7) (pa_cons (pe_met5 M FMt gMt kMt TB rfl rfl hm hT hr rfl (lamS_by (by kernel_rfl)) rfl (fun _ _ _ _ _ => rfl) (fun A outer s H E f c' hr2 => (pe_makeX (E := E) MT FIX hr2 (by decide) rfl gT bI (takes_of rfl rfl rfl rfl) (fun _ _ _ _ z => z) (pa_cons (pv 9) pa_nil)))) pa_nil)))
      (pss_cut (ps_expr (pe_bm PySem.F.plainAttrs_list PySem.F.slot_list_append PySem.F.type_list_append mt_append (pv 7) (pa_cons (pe_met5 M FMt gMt kMt TB rfl rfl hm hT hr rfl (lamS_by (by kernel_rfl)) rfl (fun _ _ _ _ _ => rfl) (fun A outer s H E f c' hr2 => (pe_makeX (E := E) MT FIX hr2 (by decide) rfl gT bI (takes_of rfl rfl rfl rfl) (fun _ _ _ _ z => z) (pa_cons (pe_has FO hr2 (by decide) rfl (pa_cons (pv 12) (pa_cons (pe_lst (pa_cons pe_non (pa_cons pe_int (pa_cons (pe_lst pa_nil) (pa_cons pe_dnewK (pa_cons pe_str pa_nil)))))) pa_nil))) pa_nil)))) pa_nil)))
      (pss_cut (ps_if (pt_not (pt_val (pe_has FS hr (by decide) rfl (pa_cons (pv 7) (pa_cons (pe_lst (pa_cons (pe_tup (pa_cons pe_str (pa_cons (pv 11) pa_nil))) (pa_cons (pe_tup (pa_cons pe_str (pa_cons (pv 13) pa_nil))) (pa_cons (pe_tup (pa_cons pe_str (pa_cons (pv 8) pa_nil))) (pa_cons (pe_tup (pa_cons pe_str (pa_cons pe_non pa_nil))) pa_nil))))) pa_nil))))) (pss_one (ps_ret pe_bl)) pss_nil)
      (pss_one (ps_if (pt_not (pt_val (pe_has FR hr (by decide) rfl (pa_cons (pv 12) (pa_cons (pv 10) (pa_cons (pv 2) pa_nil)))))) (pss_one (ps_ret pe_bl)) pss_nil))))))))))))))))))))))
      (pss_one (ps_ret pe_bl))), ?_⟩
    obtain ⟨a, ns, rfl, sq0, nlen, tb0, hQ⟩ := h
    have s2 : 2 ≤ sizeLine := by decide
    have s1 : 1 ≤ sizeLine := by decide
    refine ⟨fun _ _ => True, ⟨3, rfl, by decide, by decide, for_range (n := 3) (LwJ K T a ns) ⟨_, _, _, _, _, _, _, _, _, _, _, _, _, rfl, sq0, tb0⟩ (fun ti σ H hi h => ?_) fun σ H h => trivial⟩, fun σ H _ => hQ H⟩
    obtain ⟨o1, o2, o3, o4, o5, o6, o7, o8, o9, o10, o11, o12, o13, rfl, sq, tb⟩ := h
    have hi : ti < 3 := hi
    rw [show (0 : Int) + (ti : Int) = (ti : Int) from Int.zero_add _]
    show tCut _ _ _ [some (.ref a), some (.int ti), o2, o3, o4, o5, o6, o7, o8, o9, o10, o11, o12, o13] H
    -- 1
    refine ⟨fun σ' H' => ∃ p : Addr, σ' = [some (.ref a), some (.int ti), o2, o3, o4, o5, o6, o7, o8, o9, o10, o11, some (.ref p), o13] ∧ H p = none ∧ Ex H H' ∧ Pool H' p 0, ?_, ?_⟩
    · exact ⟨.ref a, rfl, .int ti, rfl, a, ns, ti, rfl, sq, by rw [sizeLine_eq]; omega, by omega, fun p H1 x1 np S1 => ⟨p, rfl, np, x1, S1⟩⟩
    rintro σ1 H1 ⟨p, rfl, np, x1, S1⟩
    have xN1 : ExtN H H1 := fun b o e _ => x1 b o e
    have tb1 := x1.tabs tb
    clear x1
    -- 2
    refine ⟨fun σ' H' => ∃ (jd : Addr) (js : List Jb), σ' = [some (.ref a), some (.int ti), some (.ref jd), o3, o4, o5, o6, o7, o8, o9, o10, o11, some (.ref p), o13] ∧ ExA p H1 H' ∧ Pool H' p 20001 ∧ DJ H' jd js ∧ GoodJ js ∧ js ≠ [] ∧ js.length ≤ 4, ?_, ?_⟩
    · refine ⟨.ref p, rfl, .ref p, rfl, p, 4, 0, rfl, S1, by decide, by decide, by decide, fun d H2 hd x2 S2 => ⟨1, d, rfl, rfl, p, 1 + d, 1, by rw [show ((1 + d : Nat) : Int) = 1 + (d : Int) by omega]; rfl, by omega, by omega, S2, by decide, fun jd js H3 x3 S3 njd dj g jl => ⟨jd, js, rfl, x2.trans x3, S3, dj, g, fun z => ?_, by omega⟩⟩⟩
      rw [z] at jl
      have e0 : ([] : List Jb).length = 0 := rfl
      omega
    rintro σ2 H2 ⟨jd, js, rfl, x2, S2, dj, g, ne, l4⟩
    have xN2 := extN_viaP xN1 np x2.p
    have tb2 := Tabs.exP x2 S1 tb1
    have fit := g.fit ne l4
    have hjn : H2 jd ≠ none := by
      obtain ⟨_, e, _⟩ := dj
      rw [e]
      exact fun z => nomatch z
    clear x2 S1 tb1 xN1 H1
    -- 3
    refine ⟨fun σ' H' => ∃ (hd : Addr) (js1 : List Jb) (kvs : List (Key × V)), σ' = [some (.ref a), some (.int ti), some (.ref jd), o3, some (.ref hd), o5, o6, o7, o8, o9, o10, o11, some (.ref p), o13] ∧ ExA p H2 H' ∧ Pool H' p 20201 ∧ H2 hd = none ∧ H' hd = some (.dK kvs) ∧ js1.Perm js ∧ Paired (HandJ K H') js1 kvs, ?_, ?_⟩
    · refine handed_go (K := K) (ip := 12) (ij := 2) (iv := 3) (σ := [some (.ref a), some (.int ti), some (.ref jd), o3, o4, o5, o6, o7, o8, o9, o10, o11, some (.ref p), o13]) (by show 3 < 14; decide) (by decide) (by decide) rfl rfl S2 (by decide) dj g l4 fun hd js1 kvs H3 pm x3 S3 nhd hh pj => ⟨hd, js1, kvs, rfl, x3, S3, nhd, hh, pm, pj⟩
    rintro σ3 H3 ⟨hd, js1, kvs, rfl, x3, S3, nhd, hh, pm1, pj⟩
    -- 4
    refine ⟨fun σ' H' => ∃ (t cd : Addr) (js2 : List Jb) (cl : List (Key × V)), σ' = [some (.ref a), some (.int ti), some (.ref jd), o3, some (.ref hd), some (.ref cd), o6, o7, o8, o9, some (.ref t), o11, some (.ref p), o13] ∧ Ex H3 H' ∧ IsJb (fun b => H3 b = none ∧ b ≠ cd) H' C t js2 ∧ js2.Perm js1 ∧ sortedS (js2.map Jb.name) = true ∧ H3 cd = none ∧ H' cd = some (.dK cl) ∧ CeilT cl ∧ CeilF cl (ceilN js), ?_, ?_⟩
    · refine ⟨.ref hd, rfl, ?_⟩
      refine make_goA (K := K) (C := C) hh pj (fit.perm pm1) fun t H4 js2 x4 nt ij pm2 so => ⟨.ref jd, rfl, jd, js, rfl, (dj.p x3.p S2).p (Ex.p x4) S3, fit.p1, g.gb, l4, fun cd cl H5 x5 ncd hcd ct cf => ⟨s2, fun tp ntp => ?_⟩⟩
      have x6 := Ex.new (o := .tup [.ref t, .ref cd]) ntp
      exact ⟨tp, _, rfl, .inl (.inl upd_same), rfl, .ref t, [.ref cd], rfl, .ref cd, [], rfl, rfl, t, cd, js2, cl, rfl, x4.trans (x5.trans x6), (ij.sep ncd).ex (x5.trans x6), pm2, so, x4.none ncd, x6 _ _ hcd, ct, cf⟩
    rintro σ4 H4 ⟨t, cd, js2, cl, rfl, x4, ij, pm2, so, ncd, hcd, ct, cf⟩
    have pm : js2.Perm js := pm2.trans pm1
    have fit2 := fit.perm pm
    have hh4 := x4 _ _ hh
    have hdp : hd ≠ p := fun z => S2.some (z ▸ nhd)
    -- 5
    refine ⟨fun σ' H' => σ' = [some (.ref a), some (.int ti), some (.ref jd), o3, some (.ref hd), some (.ref cd), o6, o7, o8, o9, some (.ref t), o11, some (.ref p), o13] ∧ H' = upd H4 hd (.dK []), ?_, ?_⟩
    · exact ⟨.ref hd, rfl, .inr (.inr (.inl ⟨rfl, .inl ⟨_, hh4⟩⟩)), hd, _, rfl, rfl, hh4, rfl, rfl⟩
    rintro σ5 H5 ⟨rfl, e5⟩
    have x25 : ExA p H2 H5 := fun b o nb e => by
      rw [e5]
      exact (upd_ne fun z => by rw [z, nhd] at e; cases e).trans (x4 _ _ (x3 _ _ nb e))
    have S5 : Pool H5 p 20201 := by rw [e5]; exact (S3.ex x4).put hdp
    have ij5 : IsJb (fun b => H2 b = none ∧ b ≠ cd) H5 C t js2 := ij.keep (fun b z => ⟨ExA.none x3 S3 z.1, z.2⟩) fun b o h e => by
      rw [e5]
      refine (upd_ne fun z => ?_).trans e
      rw [z] at h e
      rcases h with h | ⟨_, h⟩
      · have h := h.1
        rw [hh] at h; cases h
      · rw [hh4] at e
        cases e
        exact h _ rfl
    have hcd5 : H5 cd = some (.dK cl) := by
      rw [e5]
      exact (upd_ne fun z => by rw [z, hh] at ncd; cases ncd).trans hcd
    have ncd2 : H2 cd = none := ExA.none x3 S3 ncd
    have A5 : AmL T (fun b => H2 b = none ∧ b ≠ cd) p t jd C js js2 H H5 20201 := ⟨S5, Tabs.exP x25 S2 tb2, ij5, dj.p x25.p S2, extN_viaP xN2 np x25.p⟩
    clear e5 x25 S5 ij5 hcd hh4 hdp ij x4 hh pj x3 S3 nhd tb2 xN2 dj S2 pm1 pm2
    -- 6
    refine ⟨fun σ' H' => σ' = [some (.ref a), some (.int ti), some (.ref jd), o3, some (.ref hd), some (.ref cd), o6, o7, o8, o9, some (.ref t), o11, some (.ref p), o13] ∧ Ex H5 H', ?_, ?_⟩
    · obtain ⟨dx, fs, et, g1, _, _⟩ := jb_ins A5.ij
      refine ⟨.ref t, rfl, t, dx, fs, rfl, et, g1, _, t, js2, rfl, A5.ij, fun q H' x nq dq => ?_⟩
      obtain ⟨kq, hq, _⟩ := dq
      exact ⟨.inr (.inr (.inl ⟨rfl, .inl ⟨_, hq⟩⟩)), q, _, rfl, rfl, hq, rfl, fun b o e => (upd_ne fun z => by rw [z, nq] at e; cases e).trans (x b o e)⟩
    rintro σ6 H6 ⟨rfl, x6⟩
    have A6 := A5.ex np x6
    have hcd6 := x6 _ _ hcd5
    clear A5 x6 hcd5 H5
    -- 7
    refine ⟨fun σ' H' => σ' = [some (.ref a), some (.int ti), some (.ref jd), o3, some (.ref hd), some (.ref cd), o6, o7, o8, o9, some (.ref t), o11, some (.ref p), o13] ∧ Ex H6 H', ?_, ?_⟩
    · obtain ⟨dx, fs, et, g1, _, _⟩ := jb_ins A6.ij
      refine ⟨.ref t, rfl, t, dx, fs, rfl, et, g1, _, t, js2, rfl, A6.ij, fun q H7 x7 nq dq => ?_⟩
      obtain ⟨kq, hq, pq⟩ := dq
      refine ⟨q, kq, rfl, hq, fun H8 r ts x8 nr nts rts hr pts => cons_one ?_⟩
      have x8 : Ex H7 H8 := x8
      have A8 := (A6.ex np x7).ex np x8
      refine rows_comp (K := K) (js := js) (by show 3 < 14; decide) rfl A8.dj g.nd l4 fun D ps js3 H9 x9 pm3 so3 hD pr => ?_
      have e3 : js3 = js2 := jbs_one g.nd pm3 pm so3 so
      subst e3
      have pi9 : Paired (RowJ H9) ts js3 := items_rows pq (fun b zs e => x9 _ _ (x8 _ _ e)) (Paired.mapP pts fun _ _ z => x9 _ _ z)
      refine ⟨_, _, rfl, .inr ⟨r, D, ts.map V.ref, ps.map V.ref, rfl, rfl, .inl ⟨.inl (.inl (x9 _ _ hr)), .inl (.inl hD)⟩, ?_, same_rows pi9 pr (fun j m => g.gb j (pm.mem_iff.mp m)) fun j m => fit2.len m⟩, fun H10 x10 => ⟨true, rfl, rfl, x7.trans (x8.trans (x9.trans x10))⟩⟩
      rw [List.length_map, Paired.length pi9]
      have := fit2.l4
      omega
    rintro σ7 H7 ⟨rfl, x7⟩
    have A7 := A6.ex np x7
    have hcd7 := x7 _ _ hcd6
    clear A6 x7 hcd6 H6
    -- 8
    refine ⟨fun σ' H' => ∃ o3, σ' = [some (.ref a), some (.int ti), some (.ref jd), o3, some (.ref hd), some (.ref cd), o6, o7, o8, o9, some (.ref t), o11, some (.ref p), o13] ∧ Ex H7 H', ?_, ?_⟩
    · obtain ⟨kj, hj, pj⟩ := A7.dj
      refine ⟨jd, _, hj, trivial, fun od => ?_⟩
      have hL : upd H7 jd (.frz od (.dK kj)) jd = some (.frz od (.dK kj)) := upd_same
      have ijL : IsJb (fun b => H2 b = none ∧ b ≠ cd) (upd H7 jd (.frz od (.dK kj))) C t js2 := A7.ij.keep (fun _ z => z) fun b o h e => (upd_ne fun z => by
        rw [z] at h e
        rcases h with h | ⟨_, h⟩
        · exact hjn h.1
        · rw [hj] at e; cases e; exact h _ rfl).trans e
      have ktL : KeepT H7 (upd H7 jd (.frz od (.dK kj))) := fun b zs e => (upd_ne fun z => by rw [z, hj] at e; cases e).trans e
      have unl : ∀ {H'}, Ex (upd H7 jd (.frz od (.dK kj))) H' → Ex H7 (upd H' jd (.dK kj)) := fun x => Ex.unlock hj x
      generalize upd H7 jd (.frz od (.dK kj)) = HL at hL ijL ktL unl ⊢
      obtain ⟨dx, fs, et, _, g2, _⟩ := jb_ins ijL
      refine ⟨.ref jd, rfl, jd, od, rfl, .inl ⟨kj, hL, for_it walk_keys (fun i σ' H' => ∃ o3, σ' = [some (.ref a), some (.int ti), some (.ref jd), o3, some (.ref hd), some (.ref cd), o6, o7, o8, o9, some (.ref t), o11, some (.ref p), o13] ∧ Ex HL H') ⟨o3, rfl, Ex.refl⟩ (fun i σ' H' _ ⟨_, _, x⟩ => x _ _ hL) (fun i v σ' H' H9 hi h y => ?_) fun σ' H' h => ?_⟩⟩
      · obtain ⟨o3', rfl, x9⟩ := h
        obtain ⟨rfl, k, v2, ek, rfl⟩ := y
        obtain ⟨j, ej, e1, u, q, xs, ev, hu2, hq, cb⟩ := paired_get pj ek
        have e1 : k = Sum.inr j.name := e1
        have ev : v2 = .ref u := ev
        subst e1 ev
        have mj := List.mem_of_getElem? ej
        have gb := g.gb j mj
        have bpos : j.bd.pos := Bd.ok_pos (gb.ok [] fun _ z => by cases z)
        have bc : j.bd.cost ≤ 81 := gb.cost
        have kt9 : KeepT H7 H9 := fun b zs e => x9 _ _ (ktL _ _ e)
        have vv : valV kj (Sum.inr j.name) = some (.ref u) := valV_mem (q := (Sum.inr j.name, .ref u)) (by rw [ja_keys pj]; exact nd_inr g.nd) (List.mem_of_getElem? ek)
        refine ⟨.ref t, rfl, t, dx, fs, rfl, x9 _ _ et, g2, .str j.name, rfl, _, t, js2, j, rfl, ijL.ex x9, fit2, pm.mem_iff.mpr mj, fun H10 x10 => ?_⟩
        have d10 : DGet H10 jd (.str j.name) (some (.ref u)) := .inl ⟨kj, Sum.inr j.name, .inr ⟨od, (x9.trans x10) _ _ hL⟩, rfl, vv.symm⟩
        refine ⟨.ref jd, rfl, .str j.name, rfl, jd, .ref u, rfl, d10, u, _, 2, .ref q, rfl, rfl, .inr (.inl (.inl (x10.kt _ _ (kt9 _ _ hu2)))), at_nat (k := 2) rfl, Nat.zero_le _, fun e ne => ?_⟩
        have xe := Ex.new (o := .tup []) ne
        refine ⟨q, e, xs, j.bd, [], rfl, xe _ _ (x10.kt _ _ (kt9 _ _ hq)), ((cb.kt kt9).kt x10.kt).kt xe.kt, ⟨[], upd_same, .nil⟩, by decide, by have := gb.dep; omega, by have := gb.wid; omega, bpos, by omega, fun r us H11 x11 nr hr pr => ?_⟩
        have ul : us.length = j.bd.cost := by rw [Paired.length pr, Bd.ar_len]
        exact ⟨.ref r, us.length, rfl, .inl ⟨_, .inl (.inl hr), by rw [List.length_map]⟩, _, _, rfl, .inl (.inl ⟨by rw [ul], .inl ⟨_, rfl⟩⟩), fun H12 x12 => ⟨true, rfl, _, rfl, x9.trans (x10.trans (xe.trans (x11.trans x12)))⟩⟩
      · obtain ⟨o3', rfl, x9⟩ := h
        exact ⟨x9 _ _ hL, _, rfl, unl x9⟩
    rintro σ8 H8 ⟨o3, rfl, x8⟩
    have A8 := A7.ex np x8
    have hcd8 := x8 _ _ hcd7
    clear A7 x8 hcd7 H7
    -- 9
    refine ⟨fun σ' H' => ∃ o13, σ' = [some (.ref a), some (.int ti), some (.ref jd), o3, some (.ref hd), some (.ref cd), o6, o7, o8, o9, some (.ref t), o11, some (.ref p), o13] ∧ Ex H8 H', ?_, ?_⟩
    · refine ⟨cd, _, hcd8, trivial, fun od => ?_⟩
      have hL : upd H8 cd (.frz od (.dK cl)) cd = some (.frz od (.dK cl)) := upd_same
      have ijL : IsJb (fun b => H2 b = none ∧ b ≠ cd) (upd H8 cd (.frz od (.dK cl))) C t js2 := A8.ij.keep (fun _ z => z) fun b o h e => (upd_ne fun z => by
        rw [z] at h e
        rcases h with h | ⟨_, h⟩
        · exact h.2 rfl
        · rw [hcd8] at e; cases e; exact h _ rfl).trans e
      have unl : ∀ {H'}, Ex (upd H8 cd (.frz od (.dK cl))) H' → Ex H8 (upd H' cd (.dK cl)) := fun x => Ex.unlock hcd8 x
      generalize upd H8 cd (.frz od (.dK cl)) = HL at hL ijL unl ⊢
      obtain ⟨dx, fs, et, _, _, g3⟩ := jb_ins ijL
      refine ⟨.ref cd, rfl, cd, od, rfl, .inl ⟨cl, hL, for_it walk_keys (fun i σ' H' => ∃ o13, σ' = [some (.ref a), some (.int ti), some (.ref jd), o3, some (.ref hd), some (.ref cd), o6, o7, o8, o9, some (.ref t), o11, some (.ref p), o13] ∧ Ex HL H') ⟨o13, rfl, Ex.refl⟩ (fun i σ' H' _ ⟨_, _, x⟩ => x _ _ hL) (fun i v σ' H' H9 hi h y => ?_) fun σ' H' h => ?_⟩⟩
      · obtain ⟨o13', rfl, x9⟩ := h
        obtain ⟨rfl, k, v2, ek, rfl⟩ := y
        have mk := List.mem_of_getElem? ek
        obtain ⟨x, mx, e1⟩ := List.mem_map.mp (ct.ks k (List.mem_map_of_mem (f := (·.1)) mk))
        subst e1
        have vv : valV cl (Sum.inr x) = some v2 := valV_mem (q := (Sum.inr x, v2)) ct.nd mk
        have e2 := (cf x).symm.trans vv
        unfold optI at e2
        by_cases z : ceilN js x = 0
        · rw [if_pos z] at e2; cases e2
        rw [if_neg z] at e2
        have e2 := (Option.some.inj e2).symm
        subst e2
        have ce : ceilN js2 x = ceilN js x := ceilN_perm pm x
        refine ⟨.ref t, rfl, t, dx, fs, rfl, x9 _ _ et, g3, .str x, rfl, _, t, js2, x, rfl, ijL.ex x9, (show ∀ x ∈ tsN, okS x = true by decide +kernel) x mx, by omega, fun H10 x10 => ?_⟩
        have d10 : DGet H10 cd (.str x) (some (.int (ceilN js x))) := .inl ⟨cl, Sum.inr x, .inr ⟨od, (x9.trans x10) _ _ hL⟩, rfl, vv.symm⟩
        exact ⟨.ref cd, rfl, .str x, rfl, cd, _, rfl, d10, _, _, rfl, .inl (.inl ⟨by rw [ce], .inl ⟨_, rfl⟩⟩), fun H12 x12 => ⟨true, rfl, _, rfl, x9.trans (x10.trans x12)⟩⟩
      · obtain ⟨o13', rfl, x9⟩ := h
        exact ⟨x9 _ _ hL, _, rfl, unl x9⟩
    rintro σ9 H9 ⟨o13, rfl, x9⟩
    have A9 := A8.ex np x9
    clear A8 x9 hcd8 H8 ct cf
    -- 10
    refine ⟨fun σ' H' => ∃ (od : Addr) (ks : List (Key × V)), σ' = [some (.ref a), some (.int ti), some (.ref jd), o3, some (.ref hd), some (.ref cd), some (.ref od), o7, o8, o9, some (.ref t), o11, some (.ref p), o13] ∧ Ex H9 H' ∧ H' od = some (.dK ks) ∧ Paired (JobA H') (js.map (bump (minS (js.map Jb.name)))) ks, ?_, ?_⟩
    · exact other_go (K := K) (js := js) (by show 3 < 14; decide) rfl A9.dj g.nd ne l4 fun q ks H' x hq pk => ⟨q, ks, rfl, x, hq, pk⟩
    rintro σ10 H10 ⟨od, ks, rfl, x10, ho, pk⟩
    have A10 := A9.ex np x10
    clear A9 x10 H9
    -- 11
    refine ⟨fun σ' H' => σ' = [some (.ref a), some (.int ti), some (.ref jd), o3, some (.ref hd), some (.ref cd), some (.ref od), o7, o8, o9, some (.ref t), o11, some (.ref p), o13] ∧ ExA p H10 H' ∧ Pool H' p 20501, ?_, ?_⟩
    · refine ⟨.ref t, rfl, .ref p, rfl, .ref jd, rfl, p, jd, 20201, js, rfl, A10.S, by decide, A10.dj, g, ne, l4, fun u H11 js3 x11 S11 nu iju pm3 so3 => ?_⟩
      have e3 : js3 = js2 := jbs_one g.nd pm3 pm so3 so
      subst e3
      have A11 := A10.a np x11 S11
      refine eqJ_go A11.ij fit2 iju fit2 (near_self _) fun H12 x12 => ⟨true, rfl, ?_⟩
      have A12 := A11.ex np x12
      refine ⟨.ref t, rfl, make_one ?_⟩
      refine ⟨.ref od, rfl, ?_⟩
      have ho12 := x12 _ _ (x11.nl A10.S ho fun _ z => nomatch z)
      have pk12 : Paired (HandJ K H12) (js.map (bump (minS (js.map Jb.name)))) ks := hands (fit_bump _ fit) (Paired.mapP pk fun _ _ z => (z.kt (x11.kt A10.S)).kt x12.kt)
      refine make_goA (K := K) (C := C) ho12 pk12 (fit_bump _ fit) fun u2 H13 js4 x13 nu2 ij2 pm4 so4 => ?_
      have A13 := A12.ex np x13
      refine eqJ_go A13.ij fit2 ij2 ((fit_bump _ fit).perm pm4) (near_bump (x := minS (js.map Jb.name)) fit2.nd (pm4.trans (pm.symm.map _)) so so4 ?_) fun H14 x14 => ⟨false, rfl, ?_⟩
      · exact ((pm.map Jb.name).mem_iff).mpr (minS_mem fun z => ne (List.map_eq_nil_iff.mp z))
      have A14 := A13.ex np x14
      obtain ⟨kj, hj, _⟩ := A14.dj
      refine ⟨.ref t, rfl, .ref jd, rfl, ?_⟩
      exact eqD_go A14.ij fit2 hj fun H15 x15 => ⟨false, rfl, rfl, x11.trans (x12.trans (x13.trans (x14.trans x15))).exA, (A14.S.ex x15).mono (by decide)⟩
    rintro σ11 H11 ⟨rfl, x11, S11⟩
    have A11 := A10.a np x11 S11
    clear A10 x11 S11 ho pk H10
    have sp11 := A11.S.some
    -- 12
    refine ⟨fun σ' H' => ∃ odd, σ' = [some (.ref a), some (.int ti), some (.ref jd), o3, some (.ref hd), some (.ref cd), some (.ref od), o7, o8, o9, some (.ref t), some (odd), some (.ref p), o13] ∧ ExA p H11 H' ∧ Pool H' p 20502 ∧ SelfN p NOdd H' odd, ?_, ?_⟩
    · have no : ∀ a, NOdd (.ref a) := fun _ => .inl rfl
      exact one_of (P := SelfN p NOdd) (n := 7) (m := 20501) SelfN.ex (by decide) (by decide) (valA_cons SelfN.ex (sv_non (.inl rfl)) (valA_cons SelfN.ex (sv_int 5 (.inl rfl)) (valA_cons SelfN.ex (sv_str "" (by decide) (.inl (by decide +kernel))) (valA_cons SelfN.ex (sv_str "nobody" (by decide +kernel) (.inr rfl)) (valA_cons SelfN.ex (sv_lst sp11 no) (valA_cons SelfN.ex (sv_dct no) (valA_cons SelfN.ex (sv_bl true (.inl rfl)) valA_nil))))))) rfl A11.S (by decide) Ex.refl (fun _ _ _ x S h => h.p x.p S) fun odd H4 x4 S4 so4 => ⟨odd, rfl, x4, S4, so4⟩
    rintro σ12 H12 ⟨odd, rfl, x12, S12, sodd⟩
    have A12 := A11.a np x12 S12
    clear A11 x12 S12 sp11 H11
    have sp12 := A12.S.some
    -- 13
    refine ⟨fun σ' H' => ∃ th, σ' = [some (.ref a), some (.int ti), some (.ref jd), o3, some (.ref hd), some (.ref cd), some (.ref od), o7, o8, o9, some (.ref t), some (odd), some (.ref p), some (th)] ∧ ExA p H12 H' ∧ Pool H' p 20503 ∧ SelfN p NThing H' th, ?_, ?_⟩
    · have no : ∀ a, NThing (.ref a) := fun _ => .inl rfl
      exact one_of (P := SelfN p NThing) (n := 6) (m := 20502) SelfN.ex (by decide) (by decide) (valA_cons SelfN.ex (sv_non (.inl rfl)) (valA_cons SelfN.ex (sv_int 5 (.inl rfl)) (valA_cons SelfN.ex (sv_str "" (by decide) (.inl (by decide +kernel))) (valA_cons SelfN.ex (sv_str "nothing" (by decide +kernel) (.inr rfl)) (valA_cons SelfN.ex (sv_lst sp12 no) (valA_cons SelfN.ex (sv_dct no) valA_nil)))))) rfl A12.S (by decide) Ex.refl (fun _ _ _ x S h => h.p x.p S) fun th H4 x4 S4 so4 => ⟨th, rfl, x4, S4, so4⟩
    rintro σ13 H13 ⟨th, rfl, x13, S13, sth⟩
    have A13 := A12.a np x13 S13
    have sodd13 := sodd.p x13.p A12.S
    clear A12 x13 S13 sp12 sodd H12
    have tgJs : Tag5 CJ CN CT CB CM CJ "job" "jobs" := .inl ⟨rfl, rfl, rfl⟩
    have tgJ : Tag5 CJ CN CT CB CM CN "job" "job" := .inr (.inl ⟨rfl, rfl, rfl⟩)
    have tgT : Tag5 CJ CN CT CB CM CT "thing" "thing" := .inr (.inr (.inl ⟨rfl, rfl, rfl⟩))
    -- 14
    refine ⟨fun σ' H' => ∃ fl, σ' = [some (.ref a), some (.int ti), some (.ref jd), o3, some (.ref hd), some (.ref cd), some (.ref od), some (.ref fl), o8, o9, some (.ref t), some (odd), some (.ref p), some (th)] ∧ FoP p T H13 H' fl [("job", odd)] ∧ Pool H' p 20503, ?_, ?_⟩
    · refine lst_one (cons_one (lamM (m := 20503) (v := odd) A13.S A13.tb tgJ (fun E Hy Q' y1 t1 rz => ?_) fun q Hy y1 Sy t1 nq hq => ?_))
      · have A1 := A13.p np (ExtN.p y1) (A13.S.exN y1) t1
        obtain ⟨dx, fs, et, _, g2, _⟩ := jb_ins A1.ij
        have so1 := sodd13.p (ExtN.p y1) A13.S
        obtain ⟨To, ko⟩ := so1.1.kd (K := K)
        exact ⟨.ref t, rfl, t, dx, fs, rfl, et, g2, odd, rfl, _, t, js2, odd, rfl, A1.ij, ⟨To, ko, so1.2.imp id fun z => ⟨_, z, nobody_no fun j m => g.wd j (pm.mem_iff.mp m)⟩⟩, rz _ (Ex.exA Ex.refl) A1.S⟩
      · exact ⟨s1, fun fl nfl => ⟨fl, rfl, FoP.first (x := "job") Sy y1 t1 hq nfl, Sy.new nfl⟩⟩
    rintro σ14 H14 ⟨fl, rfl, F14, S14⟩
    -- 15
    refine ⟨fun σ' H' => σ' = [some (.ref a), some (.int ti), some (.ref jd), o3, some (.ref hd), some (.ref cd), some (.ref od), some (.ref fl), o8, o9, some (.ref t), some (odd), some (.ref p), some (th)] ∧ FoP p T H13 H' fl [("job", odd), ("thing", th)] ∧ Pool H' p 20503, ?_, ?_⟩
    · obtain ⟨xs, hx, hxl⟩ := F14.lst
      have A0 := A13.p np F14.ex S14 F14.tabs
      refine ⟨.ref fl, rfl, .inl ⟨rfl, xs, .inl (.inl hx)⟩, cons_one ?_⟩
      refine lamM (m := 20503) (v := th) A0.S A0.tb tgT (fun E Hy Q' y1 t1 rz => ?_) fun q Hy y1 Sy t1 nq hq => ?_
      · have A1 := A0.p np (ExtN.p y1) (A0.S.exN y1) t1
        obtain ⟨dx, fs, et, _, _, g3⟩ := jb_ins A1.ij
        have so1 := (sth.p F14.ex A13.S).p (ExtN.p y1) A0.S
        obtain ⟨To, ko⟩ := so1.1.kd (K := K)
        exact ⟨.ref t, rfl, t, dx, fs, rfl, et, g3, th, rfl, _, t, js2, th, rfl, A1.ij, ⟨To, ko, so1.2.imp id fun z => ⟨_, z, nothing_no fit2.gb⟩⟩, rz _ (Ex.exA Ex.refl) A1.S⟩
      · have hx1 := y1.lst hx F14.off
        exact ⟨fl, xs, .ref q, rfl, rfl, hx1, by rw [sizeLine_eq, hxl]; show 1 < _; decide, rfl, F14.app (x := "thing") A0.S y1 t1 hq hx1, Sy.put F14.off⟩
    rintro σ15 H15 ⟨rfl, F15, S15⟩
    clear F14 S14 H14
    -- 16
    refine ⟨fun σ' H' => ∃ (ba : Addr) (bo : Obj) (rows : List MRow) (js5 : List Jb) (key v : V), σ' = [some (.ref a), some (.int ti), some (.ref jd), o3, some (.ref hd), some (.ref cd), some (.ref od), some (.ref fl), some (key), some (.ref ba), some (.ref t), some (odd), some (.ref p), some (th)] ∧ ExA p H15 H' ∧ Pool H' p 20603 ∧ H' ba = some (.frz bo (DO w ba rows)) ∧ js5.Perm js ∧ BadP K p H' rows js5 key v, ?_, ?_⟩
    · have A0 := A13.p np F15.ex S15 F15.tabs
      exact ⟨.ref p, rfl, .ref jd, rfl, p, jd, 20503, js, rfl, A0.S, by decide, A0.dj, g, ne, l4, fun tp ba bo rows js5 key v H1 x1 S1 ht hb p5 bp => ⟨tp, _, rfl, .inl (.inl ht), rfl, .ref ba, [key], rfl, key, [], rfl, rfl, ba, bo, rows, js5, key, v, rfl, x1, S1, hb, p5, bp⟩⟩
    rintro σ16 H16 ⟨ba, bo, rows, js5, key, v, rfl, x16, S16, hb, pm5, bp⟩
    have F16 := F15.a S15 x16
    have fit5 := fit.perm pm5
    clear F15 S15 x16 H15
    -- 17
    refine ⟨fun σ' H' => σ' = [some (.ref a), some (.int ti), some (.ref jd), o3, some (.ref hd), some (.ref cd), some (.ref od), some (.ref fl), some (key), some (.ref ba), some (.ref t), some (odd), some (.ref p), some (th)] ∧ FoP p T H13 H' fl [("job", odd), ("thing", th), ("jobs", key)] ∧ Pool H' p 20603, ?_, ?_⟩
    · obtain ⟨xs, hx, hxl⟩ := F16.lst
      have A0 := A13.p np F16.ex S16 F16.tabs
      refine ⟨.ref fl, rfl, .inl ⟨rfl, xs, .inl (.inl hx)⟩, cons_one ?_⟩
      refine lamM (m := 20603) (v := key) A0.S A0.tb tgJs (fun E Hy Q' y1 t1 rz => ?_) fun q Hy y1 Sy t1 nq hq => ?_
      · have A1 := A0.p np (ExtN.p y1) (A0.S.exN y1) t1
        have hb1 := (ExtN.p (p := p) y1).non A0.S hb (fun _ z => nomatch z) (fun _ z => nomatch z)
        have bp1 := bp.p (ExtN.p y1) A0.S
        refine ⟨.ref ba, rfl, fun x dx nx ndx nex => ?_⟩
        have xm := ex_make (C0 := C) nx ndx
        have bp2 := bp1.p (Ex.p xm) A1.S
        refine ⟨x, dx, .ref ba, rfl, upd_same, .inr ⟨ba, bo, rows, js5, key, v, rfl, xm _ _ hb1, bp2.badR fit5, fit5, rz_make nx ndx (rz _ (Ex.exA Ex.refl) A1.S) rfl, bp2.bad.imp id fun z => ⟨z.1, z.2.imp (fun ⟨T, o, l⟩ => ⟨T, o.kd, l⟩) fun ⟨d, h, r⟩ => ⟨d, DpP.dp _ _ h, r⟩⟩⟩⟩
      · have hx1 := y1.lst hx F16.off
        exact ⟨fl, xs, .ref q, rfl, rfl, hx1, by rw [sizeLine_eq, hxl]; show 2 < _; decide, rfl, F16.app (x := "jobs") A0.S y1 t1 hq hx1, Sy.put F16.off⟩
    rintro σ17 H17 ⟨rfl, F17, S17⟩
    have ksf : ∀ {Hx : Hp}, SelfV p Hx key := fun {Hx} => by
      obtain ⟨kk, ek⟩ := bp.at_
      exact (bp.nk _ (List.mem_of_getElem? ek)).self
    clear F16 S16 hb bp H16
    -- 18
    refine ⟨fun σ' H' => σ' = [some (.ref a), some (.int ti), some (.ref jd), o3, some (.ref hd), some (.ref cd), some (.ref od), some (.ref fl), some (key), some (.ref ba), some (.ref t), some (odd), some (.ref p), some (th)] ∧ FoP p T H13 H' fl [("job", odd), ("thing", th), ("jobs", key), ("jobs", .non)] ∧ Pool H' p 20604, ?_, ?_⟩
    · obtain ⟨xs, hx, hxl⟩ := F17.lst
      have A0 := A13.p np F17.ex S17 F17.tabs
      refine ⟨.ref fl, rfl, .inl ⟨rfl, xs, .inl (.inl hx)⟩, cons_one ?_⟩
      refine lamM (m := 20604) (v := .non) A0.S A0.tb tgJs (fun E Hy Q' y1 t1 rz => ?_) fun q Hy y1 Sy t1 nq hq => ?_
      · have Sy := A0.S.exN y1
        refine make_one (cons_one ?_)
        refine one_of (P := OdD K p) (n := 5) (m := 20603) OdD.ex (by decide) (by decide) (valA_cons OdD.ex (odd_n (od_c (fun H => Od.non) (by decide))) (valA_cons OdD.ex (odd_n (od_c (fun H => Od.int 5) (by decide))) (valA_cons OdD.ex (odd_n (od_lst Sy.some)) (valA_cons OdD.ex odd_d (valA_cons OdD.ex (odd_n (od_c (v := .str "ab") (fun H => Od.str (by decide +kernel)) (by decide))) valA_nil))))) rfl Sy (by decide) Ex.refl (fun _ _ _ x S h => h.p x.p S) fun v4 H4 x4 S4 o4 => fun x dx nx ndx nex => ?_
        have xm := ex_make (C0 := C) nx ndx
        exact ⟨x, dx, v4, rfl, upd_same, .inl ⟨rz_make nx ndx (rz _ x4 S4) rfl, (o4.ex _ _ _ xm).imp (fun ⟨T, o, n⟩ => ⟨T, o.kd, n⟩) id⟩⟩
      · have hx1 := y1.lst hx F17.off
        exact ⟨fl, xs, .ref q, rfl, rfl, hx1, by rw [sizeLine_eq, hxl]; show 3 < _; decide, rfl, F17.app (x := "jobs") A0.S y1 t1 hq hx1, Sy.put F17.off⟩
    rintro σ18 H18 ⟨rfl, F18, S18⟩
    clear F17 S17 H17
    have A18 := A13.p np F18.ex S18 F18.tabs
    have so18 := (sodd13.p F18.ex A13.S).1
    have st18 := (sth.p F18.ex A13.S).1
    obtain ⟨ps, hf, prs⟩ := F18.all
    -- 19
    refine ⟨fun σ' H' => σ' = [some (.ref a), some (.int ti), some (.ref jd), o3, some (.ref hd), some (.ref cd), some (.ref od), some (.ref fl), some (key), some (.ref ba), some (.ref t), some (odd), some (.ref p), some (th)] ∧ Ex H18 H', ?_, ?_⟩
    · refine ⟨.ref fl, rfl, odd, rfl, s2, fun i1 n1 => ⟨th, rfl, s2, fun i2 n2 => ⟨key, rfl, s2, fun i3 n3 => ⟨s2, fun i4 n4 => ⟨by show 4 ≤ sizeLine; decide, fun r nr => ?_⟩⟩⟩⟩⟩
      have z1 := Ex.new (o := .tup [.str "job", odd]) n1
      have z2 := Ex.new (o := .tup [.str "thing", th]) n2
      have z3 := Ex.new (o := .tup [.str "jobs", key]) n3
      have z4 := Ex.new (o := .tup [.str "jobs", .non]) n4
      have z5 := Ex.new (o := .lst [.ref i1, .ref i2, .ref i3, .ref i4]) nr
      have zz := z1.trans (z2.trans (z3.trans (z4.trans z5)))
      refine ⟨_, _, rfl, .inr ⟨fl, r, ps.map V.ref, ([i1, i2, i3, i4] : List Addr).map V.ref, rfl, rfl, .inl ⟨.inl (.inl (zz _ _ hf)), .inl (.inl upd_same)⟩, ?_, same_go (K := K) (p := p) (n := 5) (Paired.mapP prs fun _ _ e => zz _ _ e) (.cons ((z2.trans (z3.trans (z4.trans z5))) _ _ upd_same) (.cons ((z3.trans (z4.trans z5)) _ _ upd_same) (.cons ((z4.trans z5) _ _ upd_same) (.cons (z5 _ _ upd_same) .nil)))) fun it mi => ?_⟩, fun H19 x19 => ⟨true, rfl, rfl, zz.trans x19⟩⟩
      · rw [List.length_map, Paired.length prs]
        show 4 ≤ 1000
        decide
      · simp only [List.mem_cons, List.mem_nil_iff, or_false] at mi
        rcases mi with rfl | rfl | rfl | rfl
        · exact ⟨(show ("job" : Str).length ≤ 1000 by decide +kernel), so18.ex zz⟩
        · exact ⟨(show ("thing" : Str).length ≤ 1000 by decide +kernel), st18.ex zz⟩
        · exact ⟨(show ("jobs" : Str).length ≤ 1000 by decide +kernel), ksf⟩
        · exact ⟨by decide +kernel, .inl (.inl rfl)⟩
    rintro σ19 H19 ⟨rfl, x19⟩
    have A19 := A18.ex np x19
    -- 20
    refine ⟨.ref p, rfl, .ref t, rfl, .ref jd, rfl, _, p, t, jd, 20604, js, js2, rfl, A19.S, by decide, A19.ij, A19.dj, g, ne, l4, pm, A19.tb, fun H' m' hm' x' S' t' => ⟨true, rfl, ?_⟩⟩
    exact ⟨_, _, _, _, _, _, _, _, _, _, _, _, _, rfl, extN_sqL (extN_viaP A19.xN np x') sq, t'⟩
end
end TH

/-! GX: what a law's head tells, over lists of facts, defs, makers of lambdas, own exceptions (of no row) -/
namespace GX
open PySem PySem.Spec PyProof.Rows L2 LamX LamV XK0
/-! ### what is asked of a class, as a test of the head's part -/
def tailV : List Value := [.type "ValueError", .type "Exception", .type "BaseException", .type "object"]
def oexB (K : PySem.W.Frag) (C : Addr) : Bool := match K.lookup C with
  | some ⟨.type t, _, .cls cd, sl⟩ => decide (t = "type") && (!cd.hasDel && (cd.hasDict && ((match cd.mro with
      | .ref C' :: bm => decide (C' = C) && PySem.HandSPX.refsVE bm
      | _ => false) && (match sl.toList with
      | [_, _, _, _, some (.builtin n), _] => decide (n = "ValueError.__new__")
      | _ => false))))
  | _ => false
theorem oexB_ok {K : PySem.W.Frag} {C : Addr} (h : oexB K C = true) : ∃ nm q N bs bm sn sub ab col dd k0 k1 k2 k3 k5, K.lookup C = some (excClassObj nm q C N bs bm true sn sub ab col dd k0 k1 k2 k3 k5 "ValueError.__new__") ∧ PySem.HandSPX.refsVE bm = true := by
  unfold oexB at h
  split at h
  · rename_i t dd cd sl ho
    obtain ⟨nm, bs, mro, ns, qn, hd, sn, sub, ab, col, del⟩ := cd
    simp only [Bool.and_eq_true, decide_eq_true_eq, Bool.not_eq_true'] at h
    obtain ⟨rfl, h1, h2, h3, h4⟩ := h
    subst h1 h2
    split at h3
    · rename_i C' bm
      simp only [Bool.and_eq_true, decide_eq_true_eq] at h3
      obtain ⟨rfl, h3⟩ := h3
      split at h4
      · rename_i k0 k1 k2 k3 n k5 hs
        have hn : n = "ValueError.__new__" := of_decide_eq_true h4
        subst hn
        have hsl : sl = #[k0, k1, k2, k3, some (.builtin "ValueError.__new__"), k5] := by
          obtain ⟨l⟩ := sl
          simp only at hs
          rw [hs]
        subst hsl
        exact ⟨nm, qn, ns, bs, bm, sn, sub, ab, col, dd, k0, k1, k2, k3, k5, ho, h3⟩
      · cases h4
    · cases h3
  · cases h
def eqV' (a b : Option (Option Value)) : Bool := decide (a = b)
/-- the class by its name: right beneath TaskError (or it itself), as it stands behind the top -/
def clsB (K : PySem.W.Frag) (up : List Value) (x : Str) (fs : List Str) : Bool :=
  let C := He.ga K x
  He.eqO (PySem.W.nsIn K mainGlobals x) (some (some (.ref C))) && (oexB K C && (He.eqO (PySem.W.findIn K (.ref C) "__setattr__") (some (some (.builtin "object.__setattr__"))) && (xfB K C && (He.eqO (PySem.W.findIn K (.ref C) "__class__") (some (some (.builtin "object.__class__"))) &&
    (PySem.W.keepIn K (.ref C) && (decide (PySem.W.typeIn K (.ref C) = some (.type "type")) && ((PySem.W.clsIn K C).any (fun cd => decide (cd.mro = .ref C :: up)) && fs.all fun f => He.eqO (PySem.W.findIn K (.ref C) f) (some none))))))))
structure ClsF (K : PySem.W.Frag) (mg : Str → Option Value) (up : List Value) (x : Str) (fs : List Str) : Prop where
  gl : mg x = some (.ref (He.ga K x))
  ox : OexC K (He.ga K x)
  xf : XfC K (He.ga K x)
  ha : PySem.W.findIn K (.ref (He.ga K x)) "__class__" = some (some (.builtin "object.__class__"))
  mro : ∃ cd, PySem.W.clsIn K (He.ga K x) = some cd ∧ cd.mro = .ref (He.ga K x) :: up
  no : ∀ f ∈ fs, PySem.W.findIn K (.ref (He.ga K x)) f = some none
theorem any_ok {α : Type} {o : Option α} {p : α → Bool} (h : o.any p = true) : ∃ a, o = some a ∧ p a = true := by
  cases o with
  | none => cases h
  | some a => exact ⟨a, rfl, h⟩
theorem clsB_ok {K : PySem.W.Frag} {mg : Str → Option Value} {h : Heap} {up : List Value} {x : Str} {fs : List Str} (X : K.In h) (G : h.Ns mainGlobals mg) (c : clsB K up x fs = true) : ClsF K mg up x fs := by
  unfold clsB at c
  obtain ⟨c1, c⟩ := He.ba c
  obtain ⟨c2, c⟩ := He.ba c
  obtain ⟨c3, c⟩ := He.ba c
  obtain ⟨c4, c⟩ := He.ba c
  obtain ⟨c5, c⟩ := He.ba c
  obtain ⟨c6, c⟩ := He.ba c
  obtain ⟨c7, c⟩ := He.ba c
  obtain ⟨c8, c9⟩ := He.ba c
  have XF := xfB_ok c4
  obtain ⟨cd, hc, hm⟩ := any_ok c8
  exact ⟨PySem.W.mg_of X G (He.eqO_ok c1), ⟨oexB_ok c2, He.eqO_ok c3, XF.exC, of_decide_eq_true c7, c6⟩, XF, He.eqO_ok c5, ⟨cd, hc, of_decide_eq_true hm⟩, fun f hf => He.eqO_ok (List.all_eq_true.mp c9 f hf)⟩
def initB (K : PySem.W.Frag) (x : Str) : Bool := He.eqO (PySem.W.findIn K (.ref (He.ga K x)) "__init__") (some (some (.ref (He.fAd K (x, some "__init__"))))) && decide (PySem.W.typeIn K (.ref (He.fAd K (x, some "__init__"))) = some (.type "function"))
section
variable {K : PySem.W.Frag} {mg : Str → Option Value} {fd : FuncData}
theorem vals_app {vs zs : List V} {us ws : List Value} (a : Vals vs us) (b : Vals zs ws) : Vals (vs ++ zs) (us ++ ws) := a.append b
theorem vals_rev : ∀ {vs : List V} {us : List Value}, Vals vs us → Vals vs.reverse us.reverse
  | _, _, .nil => .nil
  | _, _, .cons r t => by
    rw [List.reverse_cons, List.reverse_cons]
    exact (vals_rev t).append (.cons r .nil)
theorem ec1_of {x f qual : Str} {params : Arguments} {scope : Scope} {up : List Value} {fs : List Str} {p1 p2 p3 p4 : Pos} (c : ClsF K mg up x fs) (hf : f ∈ fs) (hi : initB K x = true)
    (F : FunD K "__init__" qual params [.Assign [.Attribute (.Name "self" p1) f p2] (.Name f p3) p4] scope [] [] (He.fAd K (x, some "__init__")) fd) (S : FnScope ["self", f] ["self", f] scope) (hd : (f == ("__debug__" : Str)) = false) (hc : (f == ("__classdict__" : Str)) = false)
    (b1 : ∀ (kV doc pm : Value) (an : Option Addr) (cdv ct : Value) (us ws : List Value), us.length = 2 → ws.length = ([] : List Str).length → bindArgs (PySem.W.fnOf "__init__" qual params [.Assign [.Attribute (.Name "self" p1) f p2] (.Name f p3) p4] scope .none kV doc pm an cdv ct) ⟨us, ([] : List Str).zip ws⟩ = pure ((["self", f] : List Str).zip us))
    (b2 : ∀ (kV doc pm : Value) (an : Option Addr) (cdv ct : Value) (us ws : List Value), us.length = 1 → ws.length = [f].length → bindArgs (PySem.W.fnOf "__init__" qual params [.Assign [.Attribute (.Name "self" p1) f p2] (.Name f p3) p4] scope .none kV doc pm an cdv ct) ⟨us, [f].zip ws⟩ = pure ((["self", f] : List Str).zip (us ++ ws))) : Ec1 K mg x f (He.ga K x) := by
  obtain ⟨i1, i2⟩ := He.ba hi
  exact ⟨c.ox, c.gl, c.no f hf, _, fd, He.eqO_ok i1, of_decide_eq_true i2, fun P w base => ok_init1 F S hd hc, kbn_of F 2 [] (fun us ws => us) (fun a _ => a) b1, kbn_of F 1 [f] (fun us ws => us ++ ws) (fun a b => a.append b) b2⟩
theorem ec2_of {x f g qual : Str} {params : Arguments} {scope : Scope} {up : List Value} {fs : List Str} {p1 p2 p3 p4 q1 q2 q3 q4 : Pos} (c : ClsF K mg up x fs) (hf : f ∈ fs) (hg : g ∈ fs) (hi : initB K x = true)
    (F : FunD K "__init__" qual params [.Assign [.Attribute (.Name "self" p1) f p2] (.Name f p3) p4, .Assign [.Attribute (.Name "self" q1) g q2] (.Name g q3) q4] scope [] [] (He.fAd K (x, some "__init__")) fd) (S : FnScope ["self", f, g] ["self", f, g] scope)
    (hd : (f == ("__debug__" : Str)) = false) (hc : (f == ("__classdict__" : Str)) = false) (hd2 : (g == ("__debug__" : Str)) = false) (hc2 : (g == ("__classdict__" : Str)) = false)
    (b1 : ∀ (kV doc pm : Value) (an : Option Addr) (cdv ct : Value) (us ws : List Value), us.length = 3 → ws.length = ([] : List Str).length → bindArgs (PySem.W.fnOf "__init__" qual params [.Assign [.Attribute (.Name "self" p1) f p2] (.Name f p3) p4, .Assign [.Attribute (.Name "self" q1) g q2] (.Name g q3) q4] scope .none kV doc pm an cdv ct) ⟨us, ([] : List Str).zip ws⟩ = pure ((["self", f, g] : List Str).zip us))
    (b2 : ∀ (kV doc pm : Value) (an : Option Addr) (cdv ct : Value) (us ws : List Value), us.length = 1 → ws.length = [g, f].length → bindArgs (PySem.W.fnOf "__init__" qual params [.Assign [.Attribute (.Name "self" p1) f p2] (.Name f p3) p4, .Assign [.Attribute (.Name "self" q1) g q2] (.Name g q3) q4] scope .none kV doc pm an cdv ct) ⟨us, [g, f].zip ws⟩ = pure ((["self", f, g] : List Str).zip (us ++ ws.reverse))) : Ec2 K mg x f g (He.ga K x) := by
  obtain ⟨i1, i2⟩ := He.ba hi
  exact ⟨c.ox, c.gl, c.no f hf, c.no g hg, _, fd, He.eqO_ok i1, of_decide_eq_true i2, fun P w base => ok_init2 F S hd hc hd2 hc2, kbn_of F 3 [] (fun us ws => us) (fun a _ => a) b1, kbn_of F 1 [g, f] (fun us ws => us ++ ws.reverse) (fun a b => a.append (vals_rev b)) b2⟩
abbrev UpT (K : PySem.W.Frag) : List Value := .ref (He.ga K "TaskError") :: tailV
end
/-! ### the head's part: the module's names, the classes' dicts, the functions, their code -/
def as1 (g : Addr → Option Obj) : List Addr := match g mainGlobals with
  | some ⟨_, _, .dict es _, _⟩ => es.toList.flatMap fun e => He.refV e.val
  | _ => []
def as2 (g : Addr → Option Obj) : List Addr := (as1 g).flatMap fun a => match g a with
  | some ⟨_, _, .cls cd, _⟩ => [cd.ns]
  | some ⟨_, _, .func fd, _⟩ => He.refV fd.code
  | _ => []
def as3 (g : Addr → Option Obj) : List Addr := (as2 g).flatMap fun a => match g a with
  | some ⟨_, _, .dict es _, _⟩ => es.toList.flatMap fun e => (match e.val with
    | .ref b => (match g b with
      | some ⟨_, _, .func _, _⟩ => [b]
      | _ => [])
    | _ => [])
  | _ => []
def as4 (g : Addr → Option Obj) : List Addr := (as3 g).flatMap fun a => match g a with
  | some ⟨_, _, .func fd, _⟩ => He.refV fd.code
  | _ => []
def asX (g : Addr → Option Obj) : List Addr := mainGlobals :: sysModules :: (as1 g ++ (as2 g ++ (as3 g ++ as4 g)))
def nodB : List Addr → Bool
  | [] => true
  | a :: r => !r.contains a && nodB r
theorem nodB_ok : ∀ {l : List Addr}, nodB l = true → l.Nodup
  | [], _ => List.nodup_nil
  | a :: r, h => by
    obtain ⟨h1, h2⟩ := He.ba h
    refine List.nodup_cons.mpr ⟨fun z => ?_, nodB_ok h2⟩
    rw [Bool.not_eq_true'] at h1
    have : r.contains a = true := List.contains_iff_mem.mpr z
    rw [h1] at this
    cases this
def codeHdB (o : Obj) (c P : Addr) : Bool := match o with
  | ⟨.type t, _, .fields vs, _⟩ => decide (t = "code") && ((match (vs[11]? : Option Value) with
      | some (.ref Q) => decide (Q = P)
      | _ => false) && ((match vs.getD 18 .none with
      | .str _ _ => true
      | _ => false) && ((match vs.getD 7 .none with
      | .int _ _ => true
      | _ => false) && ((match vs.getD 9 .none with
      | .bool _ => true
      | _ => false) && ((match vs.getD 10 .none with
      | .int _ _ => true
      | _ => false) && !decide (c = P))))))
  | _ => false
theorem codeHdB_ok {h : Heap} {o : Obj} {c P : Addr} (e : h.get? c = some o) (b : codeHdB o c P = true) : PySem.W.CodeHd h c P := by
  unfold codeHdB at b
  split at b
  · rename_i t dd vs sl
    obtain ⟨b1, b⟩ := He.ba b
    obtain ⟨b2, b⟩ := He.ba b
    obtain ⟨b3, b⟩ := He.ba b
    obtain ⟨b4, b⟩ := He.ba b
    obtain ⟨b5, b⟩ := He.ba b
    obtain ⟨b6, b7⟩ := He.ba b
    have ht : t = "code" := of_decide_eq_true b1
    subst ht
    split at b2
    · rename_i Q hq
      have hQ : Q = P := of_decide_eq_true b2
      subst hQ
      split at b3
      · rename_i file tf h18
        split at b4
        · rename_i fl tg h7
          split at b5
          · rename_i inF h9
            split at b6
            · rename_i tx tt h10
              refine ⟨_, vs, file, tf, fl, tg, inF, tx, tt, e, rfl, rfl, hq, ?_, h18, h7, h9, h10, ?_⟩
              · rw [Array.getD_eq_getD_getElem?, hq]
                rfl
              · simpa using b7
            · cases b6
          · cases b5
        · cases b4
      · cases b3
    · cases b2
  · cases b
def tabOf (K : PySem.W.Frag) (x : Str) : Addr × Addr := match codeOf K (He.ga K x) with
  | some (.ref c) => (match K.lookup c with
    | some ⟨_, _, .fields vs, _⟩ => (match (vs[11]? : Option Value) with
      | some (.ref P) => (c, P)
      | _ => (0, 0))
    | _ => (0, 0))
  | _ => (0, 0)
def isRef (o : Option Value) (c : Addr) : Bool := match o with
  | some (.ref d) => decide (d = c)
  | _ => false
theorem isRef_ok {o : Option Value} {c : Addr} (h : isRef o c = true) : o = some (.ref c) := by
  unfold isRef at h
  split at h
  · rename_i d
    have e : d = c := of_decide_eq_true h
    rw [e]
  · cases h
def emptyB (o : Option Obj) : Bool := match o with
  | some ⟨.none, none, .fields vs, sl⟩ => vs.isEmpty && sl.isEmpty
  | _ => false
theorem emptyB_ok {o : Option Obj} (h : emptyB o = true) : o = some { cls := .none, data := .fields #[] } := by
  unfold emptyB at h
  split at h
  · rename_i vs sl
    obtain ⟨h1, h2⟩ := He.ba h
    rw [Array.isEmpty_iff.mp h1, Array.isEmpty_iff.mp h2]
  · cases h
def tabB (K : PySem.W.Frag) (g : Addr → Option Obj) (x : Str) : Bool := isRef (codeOf K (He.ga K x)) (tabOf K x).1 && ((match K.lookup (tabOf K x).1 with
  | some o => codeHdB o (tabOf K x).1 (tabOf K x).2
  | none => false) && ((K.lookup (tabOf K x).2).isNone && emptyB (g (tabOf K x).2)))
structure TabH (K : PySem.W.Frag) (h : Heap) (x : Str) : Prop where
  co : codeOf K (He.ga K x) = some (.ref (tabOf K x).1)
  hd : PySem.W.CodeHd h (tabOf K x).1 (tabOf K x).2
  no : K.lookup (tabOf K x).2 = none
  em : h.get? (tabOf K x).2 = some { cls := .none, data := .fields #[] }
theorem tabB_ok {K : PySem.W.Frag} {h : Heap} {x : Str} (X : K.In h) (b : tabB K h.get? x = true) : TabH K h x := by
  obtain ⟨b1, b⟩ := He.ba b
  obtain ⟨b2, b⟩ := He.ba b
  obtain ⟨b3, b4⟩ := He.ba b
  split at b2
  · rename_i o ho
    exact ⟨isRef_ok b1, codeHdB_ok (X _ _ ho) b2, Option.isNone_iff_eq_none.mp b3, emptyB_ok b4⟩
  · cases b2
section
variable (fa : List He.Fa) (fn : List He.DefD) (mk : List Str) (nms : List (Str × List Str))
def clsAll (K : PySem.W.Frag) : Bool := clsB K tailV "TaskError" [] && (nms.all (fun p => clsB K (UpT K) p.1 p.2 && initB K p.1) && (K.lookup sysModules).isSome)
def obsX (g : Addr → Option Obj) (K : PySem.W.Frag) : Bool × He.AlD := (clsAll nms K && (mk.all (fun x => tabB K g x) && nodB (mk.map fun x => (tabOf K x).2)), He.obsD fa fn K)
structure SayX (h : Heap) (K : PySem.W.Frag) : Prop where
  inh : K.In h
  cls : clsAll nms K = true
  tab : ∀ x ∈ mk, TabH K h x
  nod : (mk.map fun x => (tabOf K x).2).Nodup
  say : He.SaysD fa fn K
def hkX : PySem.W.Hook where
  α := Bool × He.AlD
  obs := fun s => obsX fa fn mk nms s.heap.get? (He.frG s.heap.get? (asX s.heap.get?))
  val := fun _ => (true, He.valD fn)
  says := fun _ h => ∃ K, SayX fa fn mk nms h K
  of := fun _ s e => by
    have e1 := congrArg Prod.fst e
    have e2 := congrArg Prod.snd e
    obtain ⟨c1, c2⟩ := He.ba e1
    obtain ⟨c2, c3⟩ := He.ba c2
    exact ⟨_, He.frG_in, c1, fun x hx => tabB_ok He.frG_in (List.all_eq_true.mp c2 x hx), nodB_ok c3, e2⟩
  keeps := fun _ h h' ⟨K, s⟩ k => ⟨K, PySem.W.Frag.In.keeps s.inh k, s.cls, fun x hx => ⟨(s.tab x hx).co, (s.tab x hx).hd.keeps k, (s.tab x hx).no, k _ _ (s.tab x hx).em⟩, s.nod, s.say⟩
def obX (s : PySem.W.SharedT) : Bool × He.AlD := obsX fa fn mk nms (HandSHeadRun.getT s) (He.frG (HandSHeadRun.getT s) (asX (HandSHeadRun.getT s)))
theorem obX_eq (s : PySem.W.SharedT) : obX fa fn mk nms s = (hkX fa fn mk nms).obs s.abs := by
  have e : HandSHeadRun.getT s = s.abs.heap.get? := funext (HandSHeadRun.getT_eq s)
  unfold obX
  rw [e]
  rfl
end
section
variable {fa : List He.Fa} {fn : List He.DefD} {mk : List Str} {nms : List (Str × List Str)} {h : Heap} {K : PySem.W.Frag} {mg : Str → Option Value}
theorem SayX.fact (s : SayX fa fn mk nms h K) {f : He.Fa} (hf : f ∈ fa) : f.ok K = true := by
  obtain ⟨i, hi⟩ := List.mem_iff_getElem?.mp hf
  exact s.say.fact i hi
theorem SayX.fd (s : SayX fa fn mk nms h K) {d : He.DefD} (hd : d ∈ fn) : ∃ fd, FunD K d.name d.qual d.params d.body d.scope (d.dvs K) (d.kws K) (He.fAd K d.at_) fd := by
  obtain ⟨i, hi⟩ := List.mem_iff_getElem?.mp hd
  exact s.say.def_ i hi
theorem SayX.glo (s : SayX fa fn mk nms h K) (G : h.Ns mainGlobals mg) {x : Str} (hf : He.Fa.glo x ∈ fa) : mg x = some (.ref (He.ga K x)) := He.glo_ok s.inh G (s.fact hf)
theorem SayX.free (s : SayX fa fn mk nms h K) (G : h.Ns mainGlobals mg) {x : Str} (hf : He.Fa.free x ∈ fa) : mg x = none := He.free_ok s.inh G (s.fact hf)
theorem SayX.te (s : SayX fa fn mk nms h K) (G : h.Ns mainGlobals mg) : ClsF K mg tailV "TaskError" [] := clsB_ok s.inh G (He.ba s.cls).1
theorem SayX.exc (s : SayX fa fn mk nms h K) (G : h.Ns mainGlobals mg) {p : Str × List Str} (hp : p ∈ nms) : ClsF K mg (UpT K) p.1 p.2 ∧ initB K p.1 = true := by
  have z := List.all_eq_true.mp (He.ba (He.ba s.cls).2).1 p hp
  exact ⟨clsB_ok s.inh G (He.ba z).1, (He.ba z).2⟩
theorem SayX.sm (s : SayX fa fn mk nms h K) : (K.lookup sysModules).isSome = true := (He.ba (He.ba s.cls).2).2
end
/-- a def's parameters, bound by place -/
theorem binds0 {K : PySem.W.Frag} {x qual : Str} {params : Arguments} {body : List Stmt} {scope : Scope} {f : Addr} {fd : FuncData} {ps : List Str} (F : FunD K x qual params body scope [] [] f fd)
    (h : ∀ (kV doc pm : Value) (an : Option Addr) (cdv ct : Value) (us : List Value), us.length = ps.length → bindArgs (PySem.W.fnOf x qual params body scope .none kV doc pm an cdv ct) ⟨us, []⟩ = pure (ps.zip us)) : Binds K fd ps [] := by
  obtain ⟨oc, od, dV, kV, doc, pm, an, cdv, ct, osl, rfl, lk, hcd, hD, hK⟩ := F.ex
  rcases hD with ⟨_, rfl⟩ | ⟨e, _⟩
  · exact fun s us _ hl => by
      rw [List.append_nil] at hl ⊢
      exact .of_eq (h kV doc pm an cdv ct us hl)
  · exact absurd rfl e
end GX

/-! GY: GX with one more test of the head's part -/
namespace GY
open PySem PySem.Spec PyProof.Rows L2 LamX LamV XK0
section
variable (xt : PySem.W.Frag → Bool) (fa : List He.Fa) (fn : List He.DefD) (mk : List Str) (nms : List (Str × List Str))
def obsY (g : Addr → Option Obj) (K : PySem.W.Frag) : Bool × He.AlD := (xt K && (GX.obsX fa fn mk nms g K).1, (GX.obsX fa fn mk nms g K).2)
structure SayY (h : Heap) (K : PySem.W.Frag) : Prop where
  s : GX.SayX fa fn mk nms h K
  x : xt K = true
def hkY : PySem.W.Hook where
  α := Bool × He.AlD
  obs := fun s => obsY xt fa fn mk nms s.heap.get? (He.frG s.heap.get? (GX.asX s.heap.get?))
  val := fun _ => (true, He.valD fn)
  says := fun _ h => ∃ K, SayY xt fa fn mk nms h K
  of := fun _ s e => by
    have e1 := congrArg Prod.fst e
    have e2 := congrArg Prod.snd e
    obtain ⟨c0, c1⟩ := He.ba e1
    obtain ⟨c1, c2⟩ := He.ba c1
    obtain ⟨c2, c3⟩ := He.ba c2
    exact ⟨_, ⟨He.frG_in, c1, fun x hx => GX.tabB_ok He.frG_in (List.all_eq_true.mp c2 x hx), GX.nodB_ok c3, e2⟩, c0⟩
  keeps := fun _ h h' ⟨K, s⟩ k => ⟨K, ⟨PySem.W.Frag.In.keeps s.s.inh k, s.s.cls, fun x hx => ⟨(s.s.tab x hx).co, (s.s.tab x hx).hd.keeps k, (s.s.tab x hx).no, k _ _ (s.s.tab x hx).em⟩, s.s.nod, s.s.say⟩, s.x⟩
def obY (s : PySem.W.SharedT) : Bool × He.AlD := obsY xt fa fn mk nms (HandSHeadRun.getT s) (He.frG (HandSHeadRun.getT s) (GX.asX (HandSHeadRun.getT s)))
theorem obY_eq (s : PySem.W.SharedT) : obY xt fa fn mk nms s = (hkY xt fa fn mk nms).obs s.abs := by
  have e : HandSHeadRun.getT s = s.abs.heap.get? := funext (HandSHeadRun.getT_eq s)
  unfold obY
  rw [e]
  rfl
end
end GY

/-! J29G: what the class says of comparing and of being asked, as a test of the head's part -/
namespace TH
open PySem PySem.Spec PyProof.Rows L2 OQ
def thB (K : PySem.W.Frag) : Bool :=
  let C := He.ga K "Jobs"
  He.eqO (PySem.W.findIn K (.ref C) "__eq__") (some (some (.ref (He.fAd K ("Jobs", some "__eq__"))))) && (PySem.W.isFn K (.ref (He.fAd K ("Jobs", some "__eq__"))) && (He.eqO (PySem.W.findIn K (.ref C) "__ne__") (some (some (.builtin "object.__ne__"))) && (decide (PySem.W.mroIn K C (.type "object") = some true) && (PySem.W.notFirst K C (.type "dict") &&
    (He.eqO (PySem.W.findIn K (.ref C) "__class__") (some (some (.builtin "object.__class__"))) && (He.eqO (PySem.W.specialIn K (.builtin "object.__class__") "__get__") (some (some (.builtin "getset_descriptor.__get__"))) && (decide (PySem.W.takesIn K (.builtin "object.__class__") = some true) && (decide (PySem.W.kitOne K (.ref C) (.ref C) = some true) && decide (PySem.W.kitOne K (.type "dict") (.ref C) = some false)))))))))
theorem thB_ok {K : PySem.W.Frag} (h : thB K = true) : EqC K (He.ga K "Jobs") (He.fAd K ("Jobs", some "__eq__")) ∧ IsC K (He.ga K "Jobs") := by
  unfold thB at h
  obtain ⟨h1, h⟩ := He.ba h
  obtain ⟨h2, h⟩ := He.ba h
  obtain ⟨h3, h⟩ := He.ba h
  obtain ⟨h4, h⟩ := He.ba h
  obtain ⟨h5, h⟩ := He.ba h
  obtain ⟨h6, h⟩ := He.ba h
  obtain ⟨h7, h⟩ := He.ba h
  obtain ⟨h8, h⟩ := He.ba h
  obtain ⟨h9, h10⟩ := He.ba h
  exact ⟨⟨He.eqO_ok h1, h2, He.eqO_ok h3, of_decide_eq_true h4, h5⟩, ⟨He.eqO_ok h6, He.eqO_ok h7, of_decide_eq_true h8, of_decide_eq_true h4, of_decide_eq_true h9, of_decide_eq_true h10⟩⟩
end TH

/-! the facts of the law's head (printed by genend.py) -/
namespace K59
open PySem PySem.Spec PyProof.Rows L2 LamX LamV XK0
def fD (x : Str) (t : Nat) : He.DefD := ⟨(x, none), x, x, defArgs (TH.top t), defBody (TH.top t), defScope (TH.top t), [], []⟩
def mD (x m q : Str) (t j : Nat) : He.DefD := ⟨(x, some m), m, q, defArgs (inClass (TH.top t) j), defBody (inClass (TH.top t) j), defScope (inClass (TH.top t) j), [], []⟩
def fnF : List He.DefD := [fD "is_integer" 2, fD "is_natural" 3, fD "is_positive" 4, fD "is_list" 5, fD "is_pair" 6, fD "is_word" 7, fD "is_job_body" 16, fD "is_job" 17, fD "body_kept" 18, fD "spans_of" 19, fD "check_job" 21, fD "is_coming" 22, fD "checked_comings" 23, fD "inside_at" 24, fD "priority_now" 25, fD "moments_done" 26, fD "ends_of" 27, fD "done" 28, fD "answers_in" 29, fD "answers" 30, fD "breakdown" 31, fD "_law_pool" 33, fD "_law_take" 34, fD "_law_one" 35, fD "_law_mixed" 36, fD "_law_same" 37, fD "_law_body" 38, fD "_law_jobs" 39, fD "_law_units" 40, fD "_law_handed" 41, fD "_law_made" 42, fD "_law_ceilings" 43, fD "_law_met" 44, fD "_law_bad_jobs" 45, fD "_law_bad_comings" 46, fD "_law_refused" 47, fD "law" 48]
def fnI : List He.DefD := [mD "NoThing" "__init__" "NoThing.__init__" 10 0, mD "BadNumber" "__init__" "BadNumber.__init__" 11 0, mD "BadJobs" "__init__" "BadJobs.__init__" 12 0, mD "NoJob" "__init__" "NoJob.__init__" 13 0, mD "BadComings" "__init__" "BadComings.__init__" 14 0, mD "Jobs" "__init__" "Jobs.__init__" 20 0, mD "Jobs" "jobs" "Jobs.jobs" 20 1, mD "Jobs" "cost" "Jobs.cost" 20 2, mD "Jobs" "ceiling" "Jobs.ceiling" 20 3, mD "Jobs" "__eq__" "Jobs.__eq__" 20 4]
def fn : List He.DefD := fnF ++ fnI
def fa : List He.Fa := [.glo "is_integer", .glo "is_natural", .glo "is_positive", .glo "is_list", .glo "is_pair", .glo "is_word", .glo "is_job_body", .glo "is_job", .glo "body_kept", .glo "spans_of", .glo "check_job", .glo "is_coming", .glo "checked_comings", .glo "inside_at", .glo "priority_now", .glo "moments_done", .glo "ends_of", .glo "done", .glo "answers_in", .glo "answers", .glo "breakdown", .glo "_law_pool", .glo "_law_take", .glo "_law_one", .glo "_law_mixed", .glo "_law_same", .glo "_law_body", .glo "_law_jobs", .glo "_law_units", .glo "_law_handed", .glo "_law_made", .glo "_law_ceilings", .glo "_law_met", .glo "_law_bad_jobs", .glo "_law_bad_comings", .glo "_law_refused", .glo "law", .free "isinstance", .free "list", .free "tuple", .free "str", .free "len", .free "all", .free "enumerate", .free "sorted", .free "dict", .free "range", .free "int", .free "abs", .free "bool", .free "sum", .free "min", .free "max", .free "zip", .str "LETTERS" "abcdefghijklmnopqrstuvwxyz", .glo "Jobs", .cls "Jobs", .mkr "Jobs", .noat "Jobs" "kept_jobs", .noat "Jobs" "kept_spans", .noat "Jobs" "kept_costs", .noat "Jobs" "kept_ceilings", .meth "Jobs" "jobs", .meth "Jobs" "cost", .meth "Jobs" "ceiling", .exm "BadJobs" "BadJobs" true, .exm "BadJobs" "NoJob" false, .exm "BadJobs" "NoThing" false, .exm "BadJobs" "BadComings" false, .exm "BadJobs" "BadNumber" false, .exm "NoJob" "BadJobs" false, .exm "NoJob" "NoJob" true, .exm "NoJob" "NoThing" false, .exm "NoJob" "BadComings" false, .exm "NoJob" "BadNumber" false, .exm "NoThing" "BadJobs" false, .exm "NoThing" "NoJob" false, .exm "NoThing" "NoThing" true, .exm "NoThing" "BadComings" false, .exm "NoThing" "BadNumber" false, .exm "BadComings" "BadJobs" false, .exm "BadComings" "NoJob" false, .exm "BadComings" "NoThing" false, .exm "BadComings" "BadComings" true, .exm "BadComings" "BadNumber" false, .exm "BadNumber" "BadJobs" false, .exm "BadNumber" "NoJob" false, .exm "BadNumber" "NoThing" false, .exm "BadNumber" "BadComings" false, .exm "BadNumber" "BadNumber" true]
def mk : List Str := ["_law_refused", "law"]
def nms : List (Str × List Str) := [("BadJobs", ["job"]), ("NoJob", ["job"]), ("NoThing", ["thing"]), ("BadComings", ["job"]), ("BadNumber", ["number"])]
abbrev hk : PySem.W.Hook := GY.hkY TH.thB fa fn mk nms
end K59

/-! F59e: all promises joined (printed by gen59e.py) -/
namespace K59
open PySem PySem.Spec PyProof.Rows L2 LamX LamV XK0 TH OD OQ
theorem le_of {P : Program} {w : World} {K : PySem.W.Frag} {mg : Str → Option Value} {base : Heap} {CX : CXT} {j k : Nat} {f : Addr} {fd : FuncData} {ps : List Str} {sp : Sp} (F : FnOk P w K mg base CX j f fd ps sp) (h : j ≤ k) : FnOk P w K mg base CX k f fd ps sp := F.mono h
theorem law_all {P : Program} {w : World} {h base : Heap} {K : PySem.W.Frag} {mg : Str → Option Value} (SY : GY.SayY TH.thB fa fn mk nms h K) (G : h.Ns mainGlobals mg) {T : List (Addr × Str)} {c1 P1 c2 P2 : Addr} (t1 : codeOf K (He.fAd K ("_law_refused", none)) = some (.ref c1)) (t2 : codeOf K (He.fAd K ("law", none)) = some (.ref c2))
    (TB1 : TabB base mg c1 P1) (TB2 : TabB base mg c2 P2) (m1 : (P1, TH.lamR) ∈ T) (u1 : ∀ p ∈ T, p.1 = P1 → p.2 = TH.lamR) (m2 : (P2, TH.lamL) ∈ T) (u2 : ∀ p ∈ T, p.1 = P2 → p.2 = TH.lamL) :
    ∃ fd, FnP K "law" (TH.top 48) (He.fAd K ("law", none)) fd ∧ FnOk P w K mg base CX0 13 (He.fAd K ("law", none)) fd ["_law_script"] (TH.spLawP K T) := by
  have S := SY.s
  obtain ⟨EQ, IC⟩ := thB_ok SY.x
  have fr : ∀ x, x ∈ (["isinstance", "list", "tuple", "str", "len", "all", "enumerate", "sorted", "dict", "range", "int", "abs", "bool", "sum", "min", "max", "zip"] : List Str) → mg x = none := fun x hx => by
    simp only [List.mem_cons, List.mem_nil_iff, or_false] at hx
    rcases hx with rfl | rfl | rfl | rfl | rfl | rfl | rfl | rfl | rfl | rfl | rfl | rfl | rfl | rfl | rfl | rfl | rfl <;> exact S.free G (by simp [fa])
  obtain ⟨tL, gL⟩ := He.str_ok S.inh G (S.fact (f := .str "LETTERS" "abcdefghijklmnopqrstuvwxyz") (by simp [fa]))
  let C : Addr := He.ga K "Jobs"
  have TC : JobC K C := ⟨He.cls_ok (S.fact (f := .cls "Jobs") (by simp [fa])), He.noat_ok (S.fact (f := .noat "Jobs" "kept_jobs") (by simp [fa])), He.noat_ok (S.fact (f := .noat "Jobs" "kept_spans") (by simp [fa])), He.noat_ok (S.fact (f := .noat "Jobs" "kept_costs") (by simp [fa])), He.noat_ok (S.fact (f := .noat "Jobs" "kept_ceilings") (by simp [fa]))⟩
  let CJ : Addr := He.ga K "BadJobs"
  let CN : Addr := He.ga K "NoJob"
  let CT : Addr := He.ga K "NoThing"
  let CB : Addr := He.ga K "BadComings"
  let CM : Addr := He.ga K "BadNumber"
  obtain ⟨xJ, iJ⟩ := S.exc G (p := ("BadJobs", ["job"])) (by simp [nms])
  obtain ⟨dxJ, hxJ⟩ := S.fd (d := mD "BadJobs" "__init__" "BadJobs.__init__" 12 0) (by simp [fn, fnI])
  have EJ : Ec1 K mg "BadJobs" "job" CJ := GX.ec1_of xJ (by simp) iJ hxJ ⟨rfl, rfl, rfl, by decide +kernel, rfl, by decide +kernel, by decide +kernel⟩ (by decide) (by decide) (fun _ _ _ _ _ _ us ws hl _ => match us, hl with | [_, _], _ => rfl) (fun _ _ _ _ _ _ us ws hl hw => match us, hl, ws, hw with | [_], _, [_], _ => rfl)
  obtain ⟨xN, iN⟩ := S.exc G (p := ("NoJob", ["job"])) (by simp [nms])
  obtain ⟨dxN, hxN⟩ := S.fd (d := mD "NoJob" "__init__" "NoJob.__init__" 13 0) (by simp [fn, fnI])
  have EN : Ec1 K mg "NoJob" "job" CN := GX.ec1_of xN (by simp) iN hxN ⟨rfl, rfl, rfl, by decide +kernel, rfl, by decide +kernel, by decide +kernel⟩ (by decide) (by decide) (fun _ _ _ _ _ _ us ws hl _ => match us, hl with | [_, _], _ => rfl) (fun _ _ _ _ _ _ us ws hl hw => match us, hl, ws, hw with | [_], _, [_], _ => rfl)
  obtain ⟨xT, iT⟩ := S.exc G (p := ("NoThing", ["thing"])) (by simp [nms])
  obtain ⟨dxT, hxT⟩ := S.fd (d := mD "NoThing" "__init__" "NoThing.__init__" 10 0) (by simp [fn, fnI])
  have ET : Ec1 K mg "NoThing" "thing" CT := GX.ec1_of xT (by simp) iT hxT ⟨rfl, rfl, rfl, by decide +kernel, rfl, by decide +kernel, by decide +kernel⟩ (by decide) (by decide) (fun _ _ _ _ _ _ us ws hl _ => match us, hl with | [_, _], _ => rfl) (fun _ _ _ _ _ _ us ws hl hw => match us, hl, ws, hw with | [_], _, [_], _ => rfl)
  obtain ⟨xB, iB⟩ := S.exc G (p := ("BadComings", ["job"])) (by simp [nms])
  obtain ⟨dxB, hxB⟩ := S.fd (d := mD "BadComings" "__init__" "BadComings.__init__" 14 0) (by simp [fn, fnI])
  have EB : Ec1 K mg "BadComings" "job" CB := GX.ec1_of xB (by simp) iB hxB ⟨rfl, rfl, rfl, by decide +kernel, rfl, by decide +kernel, by decide +kernel⟩ (by decide) (by decide) (fun _ _ _ _ _ _ us ws hl _ => match us, hl with | [_, _], _ => rfl) (fun _ _ _ _ _ _ us ws hl hw => match us, hl, ws, hw with | [_], _, [_], _ => rfl)
  obtain ⟨xM, iM⟩ := S.exc G (p := ("BadNumber", ["number"])) (by simp [nms])
  obtain ⟨dxM, hxM⟩ := S.fd (d := mD "BadNumber" "__init__" "BadNumber.__init__" 11 0) (by simp [fn, fnI])
  have EM : Ec1 K mg "BadNumber" "number" CM := GX.ec1_of xM (by simp) iM hxM ⟨rfl, rfl, rfl, by decide +kernel, rfl, by decide +kernel, by decide +kernel⟩ (by decide) (by decide) (fun _ _ _ _ _ _ us ws hl _ => match us, hl with | [_, _], _ => rfl) (fun _ _ _ _ _ _ us ws hl hw => match us, hl, ws, hw with | [_], _, [_], _ => rfl)
  have M5 : Met5 K mg CJ CN CT CB CM := ⟨xJ.gl, xN.gl, xT.gl, xB.gl, xM.gl, xJ.xf, xN.xf, xT.xf, xB.xf, xM.xf, xJ.no _ (by simp), xN.no _ (by simp), xT.no _ (by simp), xB.no _ (by simp), xM.no _ (by simp), (He.exm_ok (S.fact (f := .exm "BadJobs" "BadJobs" true) (by simp [fa]))), (He.exm_ok (S.fact (f := .exm "NoJob" "BadJobs" false) (by simp [fa]))), (He.exm_ok (S.fact (f := .exm "NoJob" "NoJob" true) (by simp [fa]))), (He.exm_ok (S.fact (f := .exm "NoThing" "BadJobs" false) (by simp [fa]))), (He.exm_ok (S.fact (f := .exm "NoThing" "NoJob" false) (by simp [fa]))), (He.exm_ok (S.fact (f := .exm "NoThing" "NoThing" true) (by simp [fa]))), (He.exm_ok (S.fact (f := .exm "BadComings" "BadJobs" false) (by simp [fa]))), (He.exm_ok (S.fact (f := .exm "BadComings" "NoJob" false) (by simp [fa]))), (He.exm_ok (S.fact (f := .exm "BadComings" "NoThing" false) (by simp [fa]))), (He.exm_ok (S.fact (f := .exm "BadComings" "BadComings" true) (by simp [fa]))), (He.exm_ok (S.fact (f := .exm "BadNumber" "BadJobs" false) (by simp [fa]))), (He.exm_ok (S.fact (f := .exm "BadNumber" "NoJob" false) (by simp [fa]))), (He.exm_ok (S.fact (f := .exm "BadNumber" "NoThing" false) (by simp [fa]))), (He.exm_ok (S.fact (f := .exm "BadNumber" "BadComings" false) (by simp [fa]))), (He.exm_ok (S.fact (f := .exm "BadNumber" "BadNumber" true) (by simp [fa])))⟩
  obtain ⟨dislist, hislist⟩ := S.fd (d := fD "is_list" 5) (by simp [fn, fnF])
  have bislist : Binds K dislist ["thing"] [] := GX.binds0 hislist (fun _ _ _ _ _ _ us hl => match us, hl with | [_], _ => rfl)
  have Hil : Has P w K mg base "is_list" 1 ["thing"] (spIsList K) := ⟨_, dislist, (S.glo G (by simp [fa])), hislist.kp, bislist, ok_is_list hislist (fr "isinstance" (by simp)) (fr "list" (by simp)) (fr "tuple" (by simp))⟩
  obtain ⟨disword, hisword⟩ := S.fd (d := fD "is_word" 7) (by simp [fn, fnF])
  have bisword : Binds K disword ["thing"] [] := GX.binds0 hisword (fun _ _ _ _ _ _ us hl => match us, hl with | [_], _ => rfl)
  have Hiw : Has P w K mg base "is_word" 1 ["thing"] (spIsWord K) := ⟨_, disword, (S.glo G (by simp [fa])), hisword.kp, bisword, ok_is_word hisword (fr "isinstance" (by simp)) (fr "str" (by simp)) (fr "len" (by simp)) (fr "all" (by simp)) gL⟩
  obtain ⟨disinteger, hisinteger⟩ := S.fd (d := fD "is_integer" 2) (by simp [fn, fnF])
  have bisinteger : Binds K disinteger ["thing"] [] := GX.binds0 hisinteger (fun _ _ _ _ _ _ us hl => match us, hl with | [_], _ => rfl)
  have Hin : Has P w K mg base "is_integer" 1 ["thing"] (spIsInt K) := ⟨_, disinteger, (S.glo G (by simp [fa])), hisinteger.kp, bisinteger, ok_is_int hisinteger (fr "isinstance" (by simp)) (fr "int" (by simp)) (fr "bool" (by simp))⟩
  obtain ⟨disnatural, hisnatural⟩ := S.fd (d := fD "is_natural" 3) (by simp [fn, fnF])
  have bisnatural : Binds K disnatural ["thing"] [] := GX.binds0 hisnatural (fun _ _ _ _ _ _ us hl => match us, hl with | [_], _ => rfl)
  have Hna : Has P w K mg base "is_natural" 2 ["thing"] (spIsNat K) := ⟨_, disnatural, (S.glo G (by simp [fa])), hisnatural.kp, bisnatural, ok_is_nat hisnatural Hin⟩
  obtain ⟨dispositive, hispositive⟩ := S.fd (d := fD "is_positive" 4) (by simp [fn, fnF])
  have bispositive : Binds K dispositive ["thing"] [] := GX.binds0 hispositive (fun _ _ _ _ _ _ us hl => match us, hl with | [_], _ => rfl)
  have Hps : Has P w K mg base "is_positive" 2 ["thing"] (spIsPos K) := ⟨_, dispositive, (S.glo G (by simp [fa])), hispositive.kp, bispositive, ok_is_pos hispositive Hin⟩
  obtain ⟨dispair, hispair⟩ := S.fd (d := fD "is_pair" 6) (by simp [fn, fnF])
  have bispair : Binds K dispair ["thing"] [] := GX.binds0 hispair (fun _ _ _ _ _ _ us hl => match us, hl with | [_], _ => rfl)
  have Hpr : Has P w K mg base "is_pair" 2 ["thing"] (spIsPair K) := ⟨_, dispair, (S.glo G (by simp [fa])), hispair.kp, bispair, ok_is_pair hispair Hil (fr "len" (by simp))⟩
  obtain ⟨disjobbody, hisjobbody⟩ := S.fd (d := fD "is_job_body" 16) (by simp [fn, fnF])
  have bisjobbody : Binds K disjobbody ["thing", "within"] [] := GX.binds0 hisjobbody (fun _ _ _ _ _ _ us hl => match us, hl with | [_, _], _ => rfl)
  have Hjb : Has P w K mg base "is_job_body" 7 ["thing", "within"] (spJobBody K 4) := ⟨_, disjobbody, (S.glo G (by simp [fa])), hisjobbody.kp, bisjobbody, ok_job_body hisjobbody (S.glo G (by simp [fa])) bisjobbody Hil Hiw Hps Hpr (fr "len" (by simp)) 4⟩
  obtain ⟨disjob, hisjob⟩ := S.fd (d := fD "is_job" 17) (by simp [fn, fnF])
  have bisjob : Binds K disjob ["thing", "priorities"] [] := GX.binds0 hisjob (fun _ _ _ _ _ _ us hl => match us, hl with | [_, _], _ => rfl)
  have Hij : Has P w K mg base "is_job" 8 ["thing", "priorities"] (spIsJob K 4) := ⟨_, disjob, (S.glo G (by simp [fa])), hisjob.kp, bisjob, ok_is_job hisjob Hil Hps Hjb (fr "len" (by simp))⟩
  obtain ⟨dbodykept, hbodykept⟩ := S.fd (d := fD "body_kept" 18) (by simp [fn, fnF])
  have bbodykept : Binds K dbodykept ["body"] [] := GX.binds0 hbodykept (fun _ _ _ _ _ _ us hl => match us, hl with | [_], _ => rfl)
  have Hbk : Has P w K mg base "body_kept" 6 ["body"] (spKept K 3) := ⟨_, dbodykept, (S.glo G (by simp [fa])), hbodykept.kp, bbodykept, ok_kept hbodykept (S.glo G (by simp [fa])) bbodykept Hps (fr "tuple" (by simp)) 3⟩
  obtain ⟨dspansof, hspansof⟩ := S.fd (d := fD "spans_of" 19) (by simp [fn, fnF])
  have bspansof : Binds K dspansof ["body", "path", "begin"] [] := GX.binds0 hspansof (fun _ _ _ _ _ _ us hl => match us, hl with | [_, _, _], _ => rfl)
  have Hso : Has P w K mg base "spans_of" 6 ["body", "path", "begin"] (spSpans K 3) := ⟨_, dspansof, (S.glo G (by simp [fa])), hspansof.kp, bspansof, ok_spans hspansof (S.glo G (by simp [fa])) bspansof Hps (fr "enumerate" (by simp)) 3⟩
  obtain ⟨dI, hI⟩ := S.fd (d := mD "Jobs" "__init__" "Jobs.__init__" 20 0) (by simp [fn, fnI])
  have bI : Binds K dI ["self", "jobs"] [] := GX.binds0 hI (fun _ _ _ _ _ _ us hl => match us, hl with | [_, _], _ => rfl)
  have OI : FnOk P w K mg base CX0 9 (He.fAd K ("Jobs", some "__init__")) dI ["self", "jobs"] (spJInit K C) := ok_jinit hI TC Hiw Hij Hbk Hso (fr "isinstance" (by simp)) (fr "dict" (by simp)) (fr "len" (by simp)) (fr "sorted" (by simp)) (fr "max" (by simp))
  have OIX : FnOk P w K mg base (L2.CX P w) 9 (He.fAd K ("Jobs", some "__init__")) dI ["self", "jobs"] (spJInitX K w C CJ) := ok_jinitX hI EJ Hiw Hij (fr "isinstance" (by simp)) (fr "dict" (by simp)) (fr "len" (by simp))
  obtain ⟨dcheckjob, hcheckjob⟩ := S.fd (d := fD "check_job" 21) (by simp [fn, fnF])
  have bcheckjob : Binds K dcheckjob ["jobs", "job"] [] := GX.binds0 hcheckjob (fun _ _ _ _ _ _ us hl => match us, hl with | [_, _], _ => rfl)
  have Hcj : Has P w K mg base "check_job" 2 ["jobs", "job"] (spCheckJob C) := ⟨_, dcheckjob, (S.glo G (by simp [fa])), hcheckjob.kp, bcheckjob, ok_check_job hcheckjob TC Hiw⟩
  have Hcx : HasX P w K mg base "check_job" 4 ["jobs", "job"] (spCheckJobX K C CN) := ⟨_, dcheckjob, (S.glo G (by simp [fa])), hcheckjob.kp, bcheckjob, ok_check_jobX hcheckjob TC EN Hiw⟩
  have Hcc : HasX P w K mg base "check_job" 4 ["jobs", "job"] (spCJ K C CN) := ⟨_, dcheckjob, (S.glo G (by simp [fa])), hcheckjob.kp, bcheckjob, fn_or (ok_check_jobX hcheckjob TC EN Hiw) (le_of (TH.FnOk.any (ok_check_job hcheckjob TC Hiw)) (by decide))⟩
  obtain ⟨discoming, hiscoming⟩ := S.fd (d := fD "is_coming" 22) (by simp [fn, fnF])
  have biscoming : Binds K discoming ["thing", "distance"] [] := GX.binds0 hiscoming (fun _ _ _ _ _ _ us hl => match us, hl with | [_, _], _ => rfl)
  have Hic : Has P w K mg base "is_coming" 3 ["thing", "distance"] (spIsComing K) := ⟨_, discoming, (S.glo G (by simp [fa])), hiscoming.kp, biscoming, ok_is_coming hiscoming Hil Hna (fr "all" (by simp)) (fr "zip" (by simp))⟩
  obtain ⟨dcheckedcomings, hcheckedcomings⟩ := S.fd (d := fD "checked_comings" 23) (by simp [fn, fnF])
  have bcheckedcomings : Binds K dcheckedcomings ["jobs", "comings"] [] := GX.binds0 hcheckedcomings (fun _ _ _ _ _ _ us hl => match us, hl with | [_, _], _ => rfl)
  have Hch : HasX P w K mg base "checked_comings" 4 ["jobs", "comings"] (spCC K w C CB) := ⟨_, dcheckedcomings, (S.glo G (by simp [fa])), hcheckedcomings.kp, bcheckedcomings, fn_or (ok_checkedX hcheckedcomings TC EB Hiw Hic (fr "isinstance" (by simp)) (fr "dict" (by simp))) (TH.FnOk.any (ok_checkedS hcheckedcomings TC Hiw Hic (fr "isinstance" (by simp)) (fr "dict" (by simp)) (fr "sorted" (by simp)) (fr "list" (by simp))))⟩
  obtain ⟨dmomentsdone, hmomentsdone⟩ := S.fd (d := fD "moments_done" 26) (by simp [fn, fnF])
  have bmomentsdone : Binds K dmomentsdone ["jobs", "comings"] [] := GX.binds0 hmomentsdone (fun _ _ _ _ _ _ us hl => match us, hl with | [_, _], _ => rfl)
  have Hmd : Has P w K mg base "moments_done" 1 ["jobs", "comings"] (spNever) := ⟨_, dmomentsdone, (S.glo G (by simp [fa])), hmomentsdone.kp, bmomentsdone, ok_never⟩
  obtain ⟨danswersin, hanswersin⟩ := S.fd (d := fD "answers_in" 29) (by simp [fn, fnF])
  have banswersin : Binds K danswersin ["jobs", "comings"] [] := GX.binds0 hanswersin (fun _ _ _ _ _ _ us hl => match us, hl with | [_, _], _ => rfl)
  have Hai : Has P w K mg base "answers_in" 1 ["jobs", "comings"] (spNever) := ⟨_, danswersin, (S.glo G (by simp [fa])), hanswersin.kp, banswersin, ok_never⟩
  obtain ⟨ddone, hdone⟩ := S.fd (d := fD "done" 28) (by simp [fn, fnF])
  have bdone : Binds K ddone ["jobs", "comings"] [] := GX.binds0 hdone (fun _ _ _ _ _ _ us hl => match us, hl with | [_, _], _ => rfl)
  have Hdn : HasX P w K mg base "done" 5 ["jobs", "comings"] (spCheckedX K w C CB) := ⟨_, ddone, (S.glo G (by simp [fa])), hdone.kp, bdone, ok_doneX hdone Hmd Hch⟩
  obtain ⟨danswers, hanswers⟩ := S.fd (d := fD "answers" 30) (by simp [fn, fnF])
  have banswers : Binds K danswers ["jobs", "comings"] [] := GX.binds0 hanswers (fun _ _ _ _ _ _ us hl => match us, hl with | [_, _], _ => rfl)
  have Han : HasX P w K mg base "answers" 5 ["jobs", "comings"] (spCheckedX K w C CB) := ⟨_, danswers, (S.glo G (by simp [fa])), hanswers.kp, banswers, ok_answersX hanswers Hai Hch⟩
  obtain ⟨dbreakdown, hbreakdown⟩ := S.fd (d := fD "breakdown" 31) (by simp [fn, fnF])
  have bbreakdown : Binds K dbreakdown ["jobs", "comings", "job", "number"] [] := GX.binds0 hbreakdown (fun _ _ _ _ _ _ us hl => match us, hl with | [_, _, _, _], _ => rfl)
  have Hbr : HasX P w K mg base "breakdown" 5 ["jobs", "comings", "job", "number"] (spBreakX K w C CN CB CM) := ⟨_, dbreakdown, (S.glo G (by simp [fa])), hbreakdown.kp, bbreakdown, ok_breakX hbreakdown EM Hcc Hch Hna (fr "len" (by simp))⟩
  obtain ⟨dMJ, hMJ⟩ := S.fd (d := mD "Jobs" "jobs" "Jobs.jobs" 20 1) (by simp [fn, fnI])
  have bMJ : Binds K dMJ ["self"] [] := GX.binds0 hMJ (fun _ _ _ _ _ _ us hl => match us, hl with | [_], _ => rfl)
  have MJ : C8.Met P w K mg base 1 C "jobs" (spJobsM C) [] := ⟨_, dMJ, ["self"], [], TC.cls, He.meth_ok (S.fact (f := .meth "Jobs" "jobs") (by simp [fa])), ok_jobsM hMJ TC (fr "dict" (by simp)), bMJ, .nil⟩
  obtain ⟨dMC, hMC⟩ := S.fd (d := mD "Jobs" "cost" "Jobs.cost" 20 2) (by simp [fn, fnI])
  have bMC : Binds K dMC ["self", "job"] [] := GX.binds0 hMC (fun _ _ _ _ _ _ us hl => match us, hl with | [_, _], _ => rfl)
  have MC : C8.Met P w K mg base 3 C "cost" (spCost C) [] := ⟨_, dMC, ["self", "job"], [], TC.cls, He.meth_ok (S.fact (f := .meth "Jobs" "cost") (by simp [fa])), ok_cost hMC TC Hcj, bMC, .nil⟩
  have MCX : MetX P w K mg base 5 C "cost" (spCheckJobX K C CN) := ⟨_, dMC, ["self", "job"], TC.cls, He.meth_ok (S.fact (f := .meth "Jobs" "cost") (by simp [fa])), ok_costX hMC Hcx, bMC⟩
  obtain ⟨dME, hME⟩ := S.fd (d := mD "Jobs" "ceiling" "Jobs.ceiling" 20 3) (by simp [fn, fnI])
  have bME : Binds K dME ["self", "thing"] [] := GX.binds0 hME (fun _ _ _ _ _ _ us hl => match us, hl with | [_, _], _ => rfl)
  have ME : C8.Met P w K mg base 2 C "ceiling" (spCeil C) [] := ⟨_, dME, ["self", "thing"], [], TC.cls, He.meth_ok (S.fact (f := .meth "Jobs" "ceiling") (by simp [fa])), ok_ceil hME TC Hiw, bME, .nil⟩
  have MEX : MetX P w K mg base 4 C "ceiling" (spCeilX K C CT) := ⟨_, dME, ["self", "thing"], TC.cls, He.meth_ok (S.fact (f := .meth "Jobs" "ceiling") (by simp [fa])), ok_ceilX hME TC ET Hiw, bME⟩
  obtain ⟨dE, hE⟩ := S.fd (d := mD "Jobs" "__eq__" "Jobs.__eq__" 20 4) (by simp [fn, fnI])
  have bE : Binds K dE ["self", "other"] [] := GX.binds0 hE (fun _ _ _ _ _ _ us hl => match us, hl with | [_, _], _ => rfl)
  have OE : FnOk P w K mg base CX0 1 (He.fAd K ("Jobs", some "__eq__")) dE ["self", "other"] (spJEq C) := ok_jeq hE TC IC (S.glo G (by simp [fa])) (fr "isinstance" (by simp))
  obtain ⟨dlawpool, hlawpool⟩ := S.fd (d := fD "_law_pool" 33) (by simp [fn, fnF])
  have blawpool : Binds K dlawpool ["_law_script", "_law_turn"] [] := GX.binds0 hlawpool (fun _ _ _ _ _ _ us hl => match us, hl with | [_, _], _ => rfl)
  have Hpo : Has P w K mg base "_law_pool" 1 ["_law_script", "_law_turn"] (spPool K) := ⟨_, dlawpool, (S.glo G (by simp [fa])), hlawpool.kp, blawpool, ok_pool hlawpool (fr "int" (by simp)) (fr "abs" (by simp)) (fr "len" (by simp)) (fr "sum" (by simp))⟩
  obtain ⟨dlawtake, hlawtake⟩ := S.fd (d := fD "_law_take" 34) (by simp [fn, fnF])
  have blawtake : Binds K dlawtake ["_law_pool_here", "_law_many"] [] := GX.binds0 hlawtake (fun _ _ _ _ _ _ us hl => match us, hl with | [_, _], _ => rfl)
  have Htk : Has P w K mg base "_law_take" 1 ["_law_pool_here", "_law_many"] (spTakeP) := ⟨_, dlawtake, (S.glo G (by simp [fa])), hlawtake.kp, blawtake, ok_takeP hlawtake (fr "int" (by simp))⟩
  obtain ⟨dlawone, hlawone⟩ := S.fd (d := fD "_law_one" 35) (by simp [fn, fnF])
  have blawone : Binds K dlawone ["_law_pool_here", "_law_things"] [] := GX.binds0 hlawone (fun _ _ _ _ _ _ us hl => match us, hl with | [_, _], _ => rfl)
  have Hon : Has P w K mg base "_law_one" 2 ["_law_pool_here", "_law_things"] (spOneP) := ⟨_, dlawone, (S.glo G (by simp [fa])), hlawone.kp, blawone, ok_oneP hlawone Htk (fr "len" (by simp))⟩
  obtain ⟨dlawmixed, hlawmixed⟩ := S.fd (d := fD "_law_mixed" 36) (by simp [fn, fnF])
  have blawmixed : Binds K dlawmixed ["_law_pool_here", "_law_things"] [] := GX.binds0 hlawmixed (fun _ _ _ _ _ _ us hl => match us, hl with | [_, _], _ => rfl)
  have Hmx : Has P w K mg base "_law_mixed" 2 ["_law_pool_here", "_law_things"] (spMixed) := ⟨_, dlawmixed, (S.glo G (by simp [fa])), hlawmixed.kp, blawmixed, ok_mixed hlawmixed Htk (fr "len" (by simp)) (fr "list" (by simp))⟩
  obtain ⟨dlawsame, hlawsame⟩ := S.fd (d := fD "_law_same" 37) (by simp [fn, fnF])
  have blawsame : Binds K dlawsame ["_law_found", "_law_due"] [] := GX.binds0 hlawsame (fun _ _ _ _ _ _ us hl => match us, hl with | [_, _], _ => rfl)
  have Hsa : Has P w K mg base "_law_same" 6 ["_law_found", "_law_due"] (spSame K 5) := ⟨_, dlawsame, (S.glo G (by simp [fa])), hlawsame.kp, blawsame, ok_same hlawsame (S.glo G (by simp [fa])) blawsame (fr "isinstance" (by simp)) (fr "list" (by simp)) (fr "tuple" (by simp)) (fr "len" (by simp)) (fr "all" (by simp)) (fr "zip" (by simp)) (fr "int" (by simp)) (fr "bool" (by simp)) 5⟩
  have Hsb : Has P w K mg base "_law_same" 10 ["_law_found", "_law_due"] (spSame K 9) := ⟨_, dlawsame, (S.glo G (by simp [fa])), hlawsame.kp, blawsame, ok_same hlawsame (S.glo G (by simp [fa])) blawsame (fr "isinstance" (by simp)) (fr "list" (by simp)) (fr "tuple" (by simp)) (fr "len" (by simp)) (fr "all" (by simp)) (fr "zip" (by simp)) (fr "int" (by simp)) (fr "bool" (by simp)) 9⟩
  obtain ⟨dlawbody, hlawbody⟩ := S.fd (d := fD "_law_body" 38) (by simp [fn, fnF])
  have blawbody : Binds K dlawbody ["_law_pool_here", "_law_things", "_law_deep"] [] := GX.binds0 hlawbody (fun _ _ _ _ _ _ us hl => match us, hl with | [_, _, _], _ => rfl)
  have Hbo : Has P w K mg base "_law_body" 6 ["_law_pool_here", "_law_things", "_law_deep"] (spBody 3) := ⟨_, dlawbody, (S.glo G (by simp [fa])), hlawbody.kp, blawbody, ok_body hlawbody (S.glo G (by simp [fa])) blawbody Htk Hon (fr "range" (by simp)) (fr "tuple" (by simp)) 3⟩
  obtain ⟨dlawunits, hlawunits⟩ := S.fd (d := fD "_law_units" 40) (by simp [fn, fnF])
  have blawunits : Binds K dlawunits ["_law_body_here", "_law_around"] [] := GX.binds0 hlawunits (fun _ _ _ _ _ _ us hl => match us, hl with | [_, _], _ => rfl)
  have Hun : Has P w K mg base "_law_units" 4 ["_law_body_here", "_law_around"] (spUnits 3) := ⟨_, dlawunits, (S.glo G (by simp [fa])), hlawunits.kp, blawunits, ok_units hlawunits (S.glo G (by simp [fa])) blawunits (fr "enumerate" (by simp)) (fr "isinstance" (by simp)) (fr "int" (by simp)) (fr "len" (by simp)) 3⟩
  obtain ⟨dlawjobs, hlawjobs⟩ := S.fd (d := fD "_law_jobs" 39) (by simp [fn, fnF])
  have blawjobs : Binds K dlawjobs ["_law_pool_here", "_law_many"] [] := GX.binds0 hlawjobs (fun _ _ _ _ _ _ us hl => match us, hl with | [_, _], _ => rfl)
  have Hjo : Has P w K mg base "_law_jobs" 7 ["_law_pool_here", "_law_many"] (spJobs) := ⟨_, dlawjobs, (S.glo G (by simp [fa])), hlawjobs.kp, blawjobs, ok_jobs hlawjobs Htk Hmx Hbo Hun (fr "len" (by simp)) (fr "zip" (by simp))⟩
  obtain ⟨dlawhanded, hlawhanded⟩ := S.fd (d := fD "_law_handed" 41) (by simp [fn, fnF])
  have blawhanded : Binds K dlawhanded ["_law_pool_here", "_law_thing"] [] := GX.binds0 hlawhanded (fun _ _ _ _ _ _ us hl => match us, hl with | [_, _], _ => rfl)
  have Hha : Has P w K mg base "_law_handed" 9 ["_law_pool_here", "_law_thing"] (spHanded K 7) := ⟨_, dlawhanded, (S.glo G (by simp [fa])), hlawhanded.kp, blawhanded, ok_handed hlawhanded (S.glo G (by simp [fa])) blawhanded Htk (fr "isinstance" (by simp)) (fr "list" (by simp)) (fr "tuple" (by simp)) 7⟩
  obtain ⟨dlawmade, hlawmade⟩ := S.fd (d := fD "_law_made" 42) (by simp [fn, fnF])
  have blawmade : Binds K dlawmade ["_law_pool_here", "_law_jobs_here"] [] := GX.binds0 hlawmade (fun _ _ _ _ _ _ us hl => match us, hl with | [_, _], _ => rfl)
  have Hmj : Has P w K mg base "_law_made" 11 ["_law_pool_here", "_law_jobs_here"] (spMadeJ C) := ⟨_, dlawmade, (S.glo G (by simp [fa])), hlawmade.kp, blawmade, ok_madeJ hlawmade (He.mkr_ok (S.fact (f := .mkr "Jobs") (by simp [fa]))) (S.glo G (by simp [fa])) bI OI Hmx Hha (fr "sorted" (by simp)) (fr "dict" (by simp))⟩
  obtain ⟨dlawceilings, hlawceilings⟩ := S.fd (d := fD "_law_ceilings" 43) (by simp [fn, fnF])
  have blawceilings : Binds K dlawceilings ["_law_jobs_here"] [] := GX.binds0 hlawceilings (fun _ _ _ _ _ _ us hl => match us, hl with | [_], _ => rfl)
  have Hce : Has P w K mg base "_law_ceilings" 5 ["_law_jobs_here"] (spCeilings) := ⟨_, dlawceilings, (S.glo G (by simp [fa])), hlawceilings.kp, blawceilings, ok_ceilings hlawceilings Hun (fr "max" (by simp)) (fr "dict" (by simp))⟩
  obtain ⟨dlawbadjobs, hlawbadjobs⟩ := S.fd (d := fD "_law_bad_jobs" 45) (by simp [fn, fnF])
  have blawbadjobs : Binds K dlawbadjobs ["_law_pool_here", "_law_jobs_here"] [] := GX.binds0 hlawbadjobs (fun _ _ _ _ _ _ us hl => match us, hl with | [_, _], _ => rfl)
  have Hbj : Has P w K mg base "_law_bad_jobs" 3 ["_law_pool_here", "_law_jobs_here"] (spBadJobs K w) := ⟨_, dlawbadjobs, (S.glo G (by simp [fa])), hlawbadjobs.kp, blawbadjobs, ok_bad_jobs hlawbadjobs Hon Hmx (fr "sorted" (by simp)) (fr "dict" (by simp))⟩
  obtain ⟨dlawbadcomings, hlawbadcomings⟩ := S.fd (d := fD "_law_bad_comings" 46) (by simp [fn, fnF])
  have blawbadcomings : Binds K dlawbadcomings ["_law_pool_here", "_law_jobs_here"] [] := GX.binds0 hlawbadcomings (fun _ _ _ _ _ _ us hl => match us, hl with | [_, _], _ => rfl)
  have Hbc : Has P w K mg base "_law_bad_comings" 3 ["_law_pool_here", "_law_jobs_here"] (spBadCom K w) := ⟨_, dlawbadcomings, (S.glo G (by simp [fa])), hlawbadcomings.kp, blawbadcomings, ok_bad_com hlawbadcomings Hon Htk (fr "sorted" (by simp)) (fr "dict" (by simp))⟩
  obtain ⟨dmt, hmt⟩ := S.fd (d := fD "_law_met" 44) (by simp [fn, fnF])
  obtain ⟨dlawrefused, hlawrefused⟩ := S.fd (d := fD "_law_refused" 47) (by simp [fn, fnF])
  have blawrefused : Binds K dlawrefused ["_law_pool_here", "_law_made_here", "_law_jobs_here"] [] := GX.binds0 hlawrefused (fun _ _ _ _ _ _ us hl => match us, hl with | [_, _, _], _ => rfl)
  have Hre : Has P w K mg base "_law_refused" 8 ["_law_pool_here", "_law_made_here", "_law_jobs_here"] (spRefused C T) := ⟨_, dlawrefused, (S.glo G (by simp [fa])), hlawrefused.kp, blawrefused, ok_refused hlawrefused t1 TB1 m1 u1 M5 hmt (S.glo G (by simp [fa])) hmt.kp Hdn Han Hbr Hon Hbc Hsa (fr "sorted" (by simp))⟩
  obtain ⟨dla, hla⟩ := S.fd (d := fD "law" 48) (by simp [fn, fnF])
  have OL := ok_law (P := P) (w := w) (base := base) hla t2 TB2 m2 u2 M5 hmt (S.glo G (by simp [fa])) hmt.kp Hpo Htk Hon Hmx Hjo Hha Hun Hce Hmj Hbj Hre Hsb (He.mkr_ok (S.fact (f := .mkr "Jobs") (by simp [fa]))) (S.glo G (by simp [fa])) bI OI OIX MJ MC ME MCX MEX EQ OE bE (fr "sorted" (by simp)) (fr "dict" (by simp)) (fr "list" (by simp)) (fr "len" (by simp)) (fr "int" (by simp)) (fr "min" (by simp)) (fr "range" (by simp))
  exact ⟨dla, hla, OL⟩
end K59

/-! the head's looks, kernel runs (printed by genend.py) -/
namespace K59
open PySem PySem.W PySem.Calls PyProof.Rows
abbrev R : OpenRow := OpenLaw.row PySem.Challenge.rw_meettasks_k59_jobs_told_and_refused
abbrev qv : Program := view R.prog [48]
def n0 : List PySem.Str := [(PySem.Str.ofString "is_integer"), (PySem.Str.ofString "is_natural"), (PySem.Str.ofString "is_positive"), (PySem.Str.ofString "is_list"), (PySem.Str.ofString "is_pair"), (PySem.Str.ofString "is_word"), (PySem.Str.ofString "TaskError"), (PySem.Str.ofString "NoThing"), (PySem.Str.ofString "BadNumber"), (PySem.Str.ofString "BadJobs"), (PySem.Str.ofString "NoJob"), (PySem.Str.ofString "BadComings"), (PySem.Str.ofString "is_job_body"), (PySem.Str.ofString "is_job"), (PySem.Str.ofString "body_kept"), (PySem.Str.ofString "spans_of"), (PySem.Str.ofString "Jobs"), (PySem.Str.ofString "check_job"), (PySem.Str.ofString "is_coming"), (PySem.Str.ofString "checked_comings"), (PySem.Str.ofString "inside_at"), (PySem.Str.ofString "priority_now"), (PySem.Str.ofString "moments_done"), (PySem.Str.ofString "ends_of"), (PySem.Str.ofString "done")]
def n1 : List PySem.Str := [(PySem.Str.ofString "answers_in"), (PySem.Str.ofString "answers"), (PySem.Str.ofString "breakdown"), (PySem.Str.ofString "_law_pool"), (PySem.Str.ofString "_law_take"), (PySem.Str.ofString "_law_one"), (PySem.Str.ofString "_law_mixed"), (PySem.Str.ofString "_law_same"), (PySem.Str.ofString "_law_body"), (PySem.Str.ofString "_law_jobs"), (PySem.Str.ofString "_law_units"), (PySem.Str.ofString "_law_handed"), (PySem.Str.ofString "_law_made"), (PySem.Str.ofString "_law_ceilings"), (PySem.Str.ofString "_law_met"), (PySem.Str.ofString "_law_bad_jobs"), (PySem.Str.ofString "_law_bad_comings"), (PySem.Str.ofString "_law_refused"), (PySem.Str.ofString "LETTERS")]
def names : List PySem.Str := n0 ++ n1
noncomputable abbrev Zs (w : World) (os : OsState) : SharedT := K59H.Sz w os
noncomputable abbrev KZ (w : World) (os : OsState) : Frag := He.frG (HandSHeadRun.getT (Zs w os)) (GX.asX (HandSHeadRun.getT (Zs w os)))
theorem zLooks (w : World) (os : OsState) : HandSHeadRun.looksF R.prog (boot_heap w.params) (Zs w os).abs = true := by kernel_rfl
theorem zSeen (w : World) (os : OsState) : HandSHeadRun.seenQ qv names (importedModules R.prog.main.body) (fun s => xlAt qv [] s && recOk R.toRowW.records s) (Zs w os).abs = openGood qv names := by kernel_rfl
theorem zFa (w : World) (os : OsState) : (fa.all fun f => f.ok (KZ w os)) = true := by kernel_rfl
theorem zFF (w : World) (os : OsState) : ((fnF.all fun d => d.ok (KZ w os)), fnF.map fun d => He.fnW (KZ w os) d.at_) = (true, fnF.map He.DefD.val) := by kernel_rfl
theorem zFI (w : World) (os : OsState) : ((fnI.all fun d => d.ok (KZ w os)), fnI.map fun d => He.fnW (KZ w os) d.at_) = (true, fnI.map He.DefD.val) := by kernel_rfl
theorem zTb (w : World) (os : OsState) : (mk.all (fun x => GX.tabB (KZ w os) (HandSHeadRun.getT (Zs w os)) x) && GX.nodB (mk.map fun x => (GX.tabOf (KZ w os) x).2)) = true := by kernel_rfl
theorem zCl (w : World) (os : OsState) : GX.clsAll nms (KZ w os) = true := by kernel_rfl
theorem zXt (w : World) (os : OsState) : TH.thB (KZ w os) = true := by kernel_rfl
theorem zOb (w : World) (os : OsState) : hk.obs (Zs w os).abs = (true, He.valD fn) := by
  rw [← GY.obY_eq]
  have a := zFF w os
  have b := zFI w os
  simp only [Prod.mk.injEq] at a b
  have dd : He.obsD fa fn (KZ w os) = He.valD fn := by
    unfold He.obsD He.valD
    rw [show fn = fnF ++ fnI from rfl, List.map_append, List.map_append, a.2, b.2, List.all_append, zFa, a.1, b.1]
    rfl
  show GY.obsY TH.thB fa fn mk nms _ (KZ w os) = _
  unfold GY.obsY GX.obsX
  rw [dd, zCl, zTb, zXt]
  rfl
end K59

open PySem PySem.W PySem.Calls PyProof.Rows
theorem PySem.Challenge.cw_meettasks_k59_jobs_told_and_refused_holds : PySem.Challenge.rw_meettasks_k59_jobs_told_and_refused.Holds := by
  w_on; o_law
  refine HG.head (r := OpenLaw.row PySem.Challenge.rw_meettasks_k59_jobs_told_and_refused) (q := view (OpenLaw.row PySem.Challenge.rw_meettasks_k59_jobs_told_and_refused).prog [48]) (H := K59.hk) (loose := K59.names) (d := HandSHeadRun.topDef (OpenLaw.row PySem.Challenge.rw_meettasks_k59_jobs_told_and_refused).prog 48) (kwd := [])
    (by kernel_rfl) (fun s => by kernel_rfl) K59H.top K59.zLooks K59.zSeen K59.zOb (by kernel_rfl) (by kernel_rfl) (by kernel_rfl) (by rfl) (by first | assumption | decide +kernel) (by decide +kernel) ⟨rfl, rfl, rfl, rfl, rfl, by decide +kernel⟩ ?hw ?hc
  case hw => w_witness2
  case hc =>
    refine LamX.walk_ofG (l := PySem.Challenge.rw_meettasks_k59_jobs_told_and_refused) (n := 63) (CX := L2.CX0) rfl (by decide) (by kernel_rfl) ?F (fun _ _ _ _ z => z)
    intro w mg fa h Y G hmg0
    obtain ⟨K, SY⟩ := Y
    have S := SY.s
    have hmg : mg ("law" : PySem.Str) = some (.ref fa) := by
      have e : (HandSHeadRun.topDef (OpenLaw.row PySem.Challenge.rw_meettasks_k59_jobs_told_and_refused).prog 48).name = ("law" : PySem.Str) := by kernel_rfl
      rw [← e]
      exact hmg0
    have gl : mg ("law" : PySem.Str) = some (.ref (He.ga K "law")) := S.glo G (by simp [K59.fa])
    have efa : He.ga K "law" = fa := by
      rw [gl] at hmg
      exact Value.ref.inj (Option.some.inj hmg)
    subst efa
    have ta := S.tab "_law_refused" (by simp [K59.mk])
    have tb := S.tab "law" (by simp [K59.mk])
    have nd := S.nod
    simp only [K59.mk, List.map_cons, List.map_nil, List.nodup_cons, List.mem_cons, List.mem_nil_iff, or_false, not_or] at nd
    refine ⟨K, [GX.tabOf K "_law_refused", GX.tabOf K "law"], S.inh, fun p hp => ?_, fun p hp => ?_, fun p hp => ?_, fun base hK hg TB s H a ns hl hT hS e0 => ?_⟩
    · simp only [List.mem_cons, List.mem_nil_iff, or_false] at hp
      rcases hp with rfl | rfl
      · exact ta.em
      · exact tb.em
    · simp only [List.mem_cons, List.mem_nil_iff, or_false] at hp
      rcases hp with rfl | rfl
      · exact ta.no
      · exact tb.no
    · simp only [List.mem_cons, List.mem_nil_iff, or_false] at hp
      rcases hp with rfl | rfl
      · exact ta.hd
      · exact tb.hd
    · have hu1 : ∀ p ∈ [((GX.tabOf K "_law_refused").2, TH.lamR), ((GX.tabOf K "law").2, TH.lamL)], p.1 = (GX.tabOf K "_law_refused").2 → p.2 = TH.lamR := fun p hp e => by
        simp only [List.mem_cons, List.mem_nil_iff, or_false] at hp
        rcases hp with rfl | rfl
        · rfl
        · exact absurd e.symm nd.1
      have hu2 : ∀ p ∈ [((GX.tabOf K "_law_refused").2, TH.lamR), ((GX.tabOf K "law").2, TH.lamL)], p.1 = (GX.tabOf K "law").2 → p.2 = TH.lamL := fun p hp e => by
        simp only [List.mem_cons, List.mem_nil_iff, or_false] at hp
        rcases hp with rfl | rfl
        · exact absurd e nd.1
        · rfl
      obtain ⟨fd, FL, OL⟩ := K59.law_all (P := PySem.Challenge.rw_meettasks_k59_jobs_told_and_refused.prog) (w := w) (base := base) SY G (T := [((GX.tabOf K "_law_refused").2, TH.lamR), ((GX.tabOf K "law").2, TH.lamL)]) ta.co tb.co (TB _ (by simp)) (TB _ (by simp)) (by simp) hu1 (by simp) hu2
      have hb := L2.FunD.bindsA (ps := ["_law_script"]) FL (fun _ _ _ _ _ _ us hl => match us, hl with | [_], _ => rfl) s [Value.ref a] rfl
      refine OL.run callerA [] s H ⟨[.ref a], []⟩ [.ref a] [.ref a] _ _ ⟨rfl, by decide, by decide⟩ e0 hb (.cons rfl .nil) ⟨a, ns, rfl, hS, hl, fun p hp => ?_, fun _ => rfl⟩
      simp only [List.mem_cons, List.mem_nil_iff, or_false] at hp
      rcases hp with rfl | rfl
      · exact LamX.TabS.nil (hT _ (by simp))
      · exact LamX.TabS.nil (hT _ (by simp))
#print axioms PySem.Challenge.cw_meettasks_k59_jobs_told_and_refused_holds

