import PyProof.Rows.All
import Wide.All
import OpenK.AllK
import Wide.FinOn
import HandS.Head0
import HandS.Head1
import HandS.Head2
import PySem.Challenge.RW_meettasks_k35_first_opened
import HandS.ForMost
import HandS.IsInst
import HandS.TupAny
import HandS.Flow
import HandS.ExcInit
import HandS.ExcIs
import HandS.ExcField
import HandS.ExcValue
import HandS.MakeKw
import HandS.MakeKwOnly
import KE.KExcIs
import HandS.Nested
import HandS.EndTab
import HandS.DeepEq
import PyProof.ReprRoads
import PyProof.ReprDict
import HandS.Words
import HandS.WordsExc
import HandS.WordsList
import HandS.TryMany
import HandS.Walk
import HandS.DictComp
import HandS.Star
import HandS.Conv
import HandS.TryOnly
import HandS.Defaults
import HandS.HeadHook1
import HandS.HeadHook2
import KE.GoesEnum
import KE.KDictSum
import HandS.More
import HandS.Codes
set_option Elab.async false
set_option linter.all false
set_option maxRecDepth 100000
set_option maxHeartbeats 0
/-! HG: the top in pieces whose states are written out; each piece is one kernel run. -/
noncomputable section
namespace HG
open PySem PySem.W PySem.Calls PyProof.Rows HandSHeadRun
section
variable (st : SharedT → Thread → Option (SharedT × Thread)) (m0 : Nat) (ann : Option Value)
/-- so many steps, none of them the end -/
def steps : Nat → SharedT → Thread → Option (SharedT × Thread)
  | 0, s, t => some (s, t)
  | k + 1, s, t => bif through t then none else bif stepOk m0 ann t then (match st s t with
      | none => none
      | some x => frS x.1 fun u => steps k u x.2) else none
/-- to the end of a block -/
def block : Nat → SharedT → Thread → Option (Flow × SharedT × Code × Pos)
  | 0, _, _ => none
  | k + 1, s, t => match endAt 1 t with
    | some f => some (f, s, t.code, t.pos)
    | none => bif stepOk m0 ann t then (match st s t with
      | none => none
      | some x => frS x.1 fun u => block k u x.2) else none
end
section
variable {tb : String → Option Builtin} {p : Program} {w : World} {m0 : Nat} {ann : Option Value}
theorem steps_ok {s' : SharedT} {t' : Thread} : ∀ {k : Nat} {s : SharedT} {t : Thread}, steps (stepT (denote tb) p w) m0 ann k s t = some (s', t') → topGo tb p w m0 ann k s.abs t = some (s'.abs, t') := by
  intro k
  induction k with
  | zero =>
    intro s t h
    cases h
    rfl
  | succ k ih =>
    intro s t h
    rw [steps] at h
    rw [topGo]
    cases a : through t <;> rw [a] at h
    · cases b : stepOk m0 ann t <;> rw [b] at h
      · cases h
      · cases c : stepT (denote tb) p w s t with
        | none =>
          rw [c] at h
          cases h
        | some x =>
          obtain ⟨x1, x2⟩ := x
          rw [c] at h
          have h' : frS x1 (fun u => steps (stepT (denote tb) p w) m0 ann k u x2) = some (s', t') := h
          rw [frS_eq] at h'
          have z := ih h'
          simp only [stepT_spec c]
          exact z
    · cases h
theorem block_ok {r : Flow × SharedT × Code × Pos} : ∀ {k : Nat} {s : SharedT} {t : Thread}, block (stepT (denote tb) p w) m0 ann k s t = some r → segRunT tb p w m0 ann 1 k s t = some r := by
  intro k
  induction k with
  | zero =>
    intro s t h
    cases h
  | succ k ih =>
    intro s t h
    rw [block] at h
    rw [segRunT]
    cases a : endAt 1 t with
    | some f =>
      rw [a] at h
      exact h
    | none =>
      rw [a] at h
      have h : (bif stepOk m0 ann t then (match stepT (denote tb) p w s t with
        | none => none
        | some x => frS x.1 fun u => block (stepT (denote tb) p w) m0 ann k u x.2) else none) = some r := h
      cases b : stepOk m0 ann t <;> rw [b] at h
      · cases h
      · cases c : stepT (denote tb) p w s t with
        | none =>
          rw [c] at h
          cases h
        | some x =>
          obtain ⟨x1, x2⟩ := x
          rw [c] at h
          have h' : frS x1 (fun u => block (stepT (denote tb) p w) m0 ann k u x2) = some r := h
          rw [frS_eq] at h'
          exact ih h'
end
def exQ : List Stmt → Env → Sem Flow := PySem.W.Fast.tw12563942051412417395
theorem exQ_eq : @PySem.execs = exQ := PySem.W.Fast.te12563942051412417395
/-- the first steps, from the boot -/
def first (st : SharedT → Thread → Option (SharedT × Thread)) (k : Nat) (p : Program) (w : World) (os : OsState) : Option (SharedT × Thread) := match putAll (boot_heap w.params).objs.toList .nil 0 with
  | none => none
  | some x => frNat x.2 fun n => steps st n (bootAnn w) k (bootT w os (x.1, n)) (topStub p)
abbrev bootS (w : World) (os : OsState) : Shared := ⟨boot_heap w.params, #[], boot_drawn, boot_toks, os⟩
theorem size_boot (w : World) : (boot_heap w.params).objs.size = 11 := by kernel_rfl
theorem ann_boot (w : World) : bootAnn w = some (.ref 6) := by kernel_rfl
abbrev an6 : Option Value := some (.ref 6)
theorem first_ok {k : Nat} {p : Program} {w : World} {os : OsState} {s : SharedT} {t : Thread} (h : first (stepQ (denQ tabQ) p w) k p w os = some (s, t)) : topGo treeTable p w 11 an6 k (bootS w os) (topStub p) = some (s.abs, t) := by
  rw [← stepQ_eq, ← denQ_eq, ← tabQ_eq] at h
  unfold first at h
  cases e : putAll (boot_heap w.params).objs.toList .nil 0 with
  | none =>
    rw [e] at h
    cases h
  | some x =>
    obtain ⟨T, n⟩ := x
    rw [e] at h
    have h : (frNat n fun n => steps (stepT (denote treeTable) p w) n (bootAnn w) k (bootT w os (T, n)) (topStub p)) = some (s, t) := h
    rw [frNat_eq] at h
    have z := steps_ok h
    have hh := putAll_heap e
    have hn : n = 11 := by
      rw [← size_boot w, ← hh]
      exact (absHeap_size T n _).symm
    rw [ann_boot, hn] at z
    subst hn
    have zz : (bootT w os (T, 11)).abs = bootS w os := congrArg (fun y => (⟨y, #[], boot_drawn, boot_toks, os⟩ : Shared)) hh
    rw [zz] at z
    exact z
section
variable {p : Program} {w : World} {env : Env} {q : Pos}
/-- a piece, and what follows -/
theorem piece {k N : Nat} {s s' : SharedT} {r : Shared} {l rest : List Stmt} {c : Code} {a b : Pos} (h : block (stepQ (denQ tabQ) p w) 11 an6 k s ⟨(exQ l env).wrap doneF deadEnd id id, c, a, [topFrame q]⟩ = some (.next, s', c, b))
    (z : topRun treeTable p w 11 an6 N s'.abs (restOf rest env c b [topFrame q]) = some r) : topRun treeTable p w 11 an6 (k + N) s.abs (restOf (l ++ rest) env c a [topFrame q]) = some r := by
  rw [← stepQ_eq, ← denQ_eq, ← tabQ_eq, ← exQ_eq] at h
  exact piece_app (segRun_of (block_ok h)) z
/-- behind the last piece -/
theorem last {k : Nat} {s s' : SharedT} {c : Code} {a : Pos} (h : goF (stepQ (denQ tabQ) p w) 11 an6 k s ⟨doneF .next, c, a, [topFrame q]⟩ = some s') : topRun treeTable p w 11 an6 k s.abs (restOf [] env c a [topFrame q]) = some s'.abs := by
  rw [← stepQ_eq, ← denQ_eq, ← tabQ_eq] at h
  exact goF_ok h
/-- the first steps, the block's begin, and what follows -/
theorem begin_ {k N : Nat} {os : OsState} {s : SharedT} {r : Shared} {b : List Stmt} {c : Code} {a : Pos} (h : first (stepQ (denQ tabQ) p w) k p w os = some (s, ⟨denQ tabQ (.body b env), c, a, [topFrame q]⟩))
    (hb : block (stepQ (denQ tabQ) p w) 11 an6 1 s ⟨(PySem.W.Fast.tw1066825118222455980 b env).wrap (fun _ => doneF .next) deadEnd id id, c, a, [topFrame q]⟩ = some (.next, s, c, a))
    (z : topRun treeTable p w 11 an6 N s.abs (restOf b env c a [topFrame q]) = some r) : topRun treeTable p w 11 an6 (k + (1 + N)) (bootS w os) (topStub p) = some r := by
  have h1 := first_ok h
  rw [← denQ_eq, ← tabQ_eq] at h1
  rw [← stepQ_eq, ← denQ_eq, ← tabQ_eq, ← PySem.W.Fast.te1066825118222455980] at hb
  exact go_top h1 (piece_block (segRun_of (block_ok hb)) z)
end
/-- what the top leaves, of a written state -/
theorem left {p q : Program} {loose : List PySem.Str} {Xt : Shared → Bool} {α : Type} {Yf : Shared → α} {Ya : World → α} {N M n k : Nat} {T : Params → BT} {life : Life} {d : Drawn} (e : opening p = plainProg p.main.scope.names) (hN : Nat.ble 600 N = true) (f : ∀ s, fenceModules? p s = some s)
    (run : ∀ (w : World) (os : OsState), topRun treeTable p w 11 an6 M (bootS w os) (topStub p) = some (SharedT.abs ⟨T w.params, n, life, #[], d, k, os⟩)) (le : Nat.ble M N = true)
    (l1 : ∀ (w : World) (os : OsState), looksF p (boot_heap w.params) (SharedT.abs ⟨T w.params, n, life, #[], d, k, os⟩) = true)
    (l2 : ∀ (w : World) (os : OsState), seenQ q loose (importedModules p.main.body) Xt (SharedT.abs ⟨T w.params, n, life, #[], d, k, os⟩) = openGood q loose)
    (l3 : ∀ (w : World) (os : OsState), Yf (SharedT.abs ⟨T w.params, n, life, #[], d, k, os⟩) = Ya w) : LeftO p q loose Xt Yf Ya N true := by
  refine LeftO.of_pieces (H₀ := boot_heap) (H₁ := fun P => absHeap (T P) n life) (gs₀ := #[]) (gs₁ := #[]) (d₀ := boot_drawn) (d₁ := d) (k₀ := boot_toks) (k₁ := k) (m₀ := 11) (ann := an6) (M := M) (boot_open e hN f) (fun w => ?_) run le fun w => funext fun os => ?_
  · have a := size_boot w
    have b := ann_boot w
    unfold bootAnn at b
    rw [a, b, boot_ns]
    rfl
  · have a := l1 w os
    have b := l2 w os
    rw [← seenQ_eq] at b
    exact Prod.ext a (Prod.ext b (l3 w os))
end HG

end
/-! HF: a law by a head in written-out pieces. -/
noncomputable section
namespace HG
open PySem PySem.W PySem.Calls PyProof.Rows HandSHeadRun
theorem head {r : OpenRow} {q : Program} {H : Hook} {M n k : Nat} {T : Params → BT} {life : Life} {dr : Drawn} {loose : List PySem.Str} {d : DefRec} {kwd : List (PySem.Str × PySem.Expr)}
    (e : opening r.prog = plainProg r.prog.main.scope.names) (f : ∀ s, fenceModules? r.prog s = some s)
    (run : ∀ (w : World) (os : OsState), topRun treeTable r.prog w 11 an6 M (bootS w os) (topStub r.prog) = some (SharedT.abs ⟨T w.params, n, life, #[], dr, k, os⟩))
    (l1 : ∀ (w : World) (os : OsState), looksF r.prog (boot_heap w.params) (SharedT.abs ⟨T w.params, n, life, #[], dr, k, os⟩) = true)
    (l2 : ∀ (w : World) (os : OsState), seenQ q loose (importedModules r.prog.main.body) (fun s => xlAt q [] s && recOk r.toRowW.records s) (SharedT.abs ⟨T w.params, n, life, #[], dr, k, os⟩) = openGood q loose)
    (l3 : ∀ (w : World) (os : OsState), H.obs (SharedT.abs ⟨T w.params, n, life, #[], dr, k, os⟩) = H.val w)
    (h1 : defOf q r.name = some (d, kwd)) (h2 : r.prog.theDef r.name = some (d.params, d.body, d.scope)) (h3 : kwWritten? d.params.kwonlyargs d.params.kw_defaults = some kwd)
    (h4 : (!r.writes || r.records.isEmpty) = true) (h5 : r.wellSaid = true) (h6 : (chainsOk q && opensWell r.prog && (frees r.toRowW && r.within.isEmpty)) = true) (h7 : r.prog.bare) (h8 : r.toRowW.promised)
    (call : WalkO q loose (XL q []) H.says r.toRowW d kwd fun f vs => PySem.call f vs) : r.Holds := by
  have L : LeftO r.prog q loose (fun s => xlAt q [] s && recOk r.toRowW.records s) H.obs H.val (M + 600) true :=
    left (M := M) e (Nat.ble_eq_true_of_le (Nat.le_add_left 600 M)) f run (Nat.ble_eq_true_of_le (Nat.le_add_right M 600)) l1 l2 l3
  exact holds_open (XP := XL q []) (YP := H.says) L H.of H.keeps (fun s z => xl_of s (Bool.and_eq_true_iff.mp z).1) XL.keeps h1 h2 h3 (fun s z => recFacts_of (Bool.and_eq_true_iff.mp z).2) h4 h5 h6 h7 h8 call
end HG

end
noncomputable section
namespace K35H
open PySem PySem.W PySem.Calls PyProof.Rows HandSHeadRun
abbrev Pg : Program := (OpenLaw.row PySem.Challenge.rw_meettasks_k35_first_opened).prog
abbrev S : String → PySem.Str := PySem.Str.ofString
abbrev N : Obj → BT → BT → BT := BT.node
abbrev e : BT := BT.nil
abbrev E (P : Params) (x : String) (t : Nat) (v : Value) : DictEntry := ⟨PySem.PyData.keyHash P (S x), .str (S x) t, v⟩
def dT (i : Nat) : DefRec := topDef Pg i
def dM (i j : Nat) : DefRec := match Pg.main.body[i]? with
  | some (.ClassDef _ _ _ b _ _ _ _ _ _ _) => (match b[j]? with
    | some (.FunctionDef n a c _ _ _ sc _ _ ps) => ⟨n, a, c, sc, ps⟩
    | _ => topDef Pg i)
  | _ => topDef Pg i
def o0 (P : Params) : Obj := ⟨(.type "tuple"), none, (.seq #[] 0), #[]⟩
def o1 (P : Params) : Obj := ⟨.none, none, (.fields #[]), #[]⟩
def o2 (P : Params) : Obj := ⟨(.type "code"), none, (.fields #[(.str (S "<module>") 182), (.str (S "<module>") 183), (.str (S "/claim/cut.py") 184), (.int 1 0), (.int 0 0), (.int 0 0), (.int 0 0), (.int 0 0), (.ref 11), (.bool false), (.int 181 0), (.ref 12), .none, .none, .none, .none, (.int 185 0), (.int 1 0), (.str (S "/claim/cut.py") 186)]), #[]⟩
def o3 (P : Params) : Obj := ⟨(.type "frame"), none, .plain, #[(some (.ref 13)), (some (.ref 3)), (some (.ref 3)), none, (some (.str (S "__main__") 164)), none, (some (.ref 0))]⟩
def Ta (P : Params) : BT := (N (boot_o_0 P) (N (boot_o_1 P) (N (boot_o_3 P) (N (boot_o_7 P) e e) (N (o0 P) e e)) (N (boot_o_5 P) (N (boot_o_9 P) e e) (N (o2 P) e e))) (N (boot_o_2 P) (N (boot_o_4 P) (N (boot_o_8 P) e e) (N (o1 P) e e)) (N (boot_o_6 P) (N (boot_o_10 P) e e) (N (o3 P) e e))))
def Sa (w : World) (os : OsState) : SharedT := ⟨Ta w.params, 15, ⟨[], [], [], 0, [], [], false, #[], [], 0, false, false, false, 0, [2000, 10, 10], false, 0, true, [], [], 0, false⟩, #[], ⟨0, 0, 0, 0⟩, 187, os⟩
def posa : Pos := ⟨0, 0, 0, 0⟩
def Tb (P : Params) : BT := (N (boot_o_0 P) (N (boot_o_1 P) (N (boot_o_3 P) (N (boot_o_7 P) e e) (N (o0 P) e e)) (N (boot_o_5 P) (N (boot_o_9 P) e e) (N (o2 P) e e))) (N (boot_o_2 P) (N (boot_o_4 P) (N (boot_o_8 P) e e) (N (o1 P) e e)) (N (boot_o_6 P) (N (boot_o_10 P) e e) (N (o3 P) e e))))
def Sb (w : World) (os : OsState) : SharedT := ⟨Tb w.params, 15, ⟨[], [], [], 0, [], [], false, #[], [], 0, false, false, false, 0, [2000, 10, 10], false, 0, true, [], [], 0, false⟩, #[], ⟨0, 0, 0, 0⟩, 187, os⟩
def posb : Pos := ⟨0, 0, 0, 0⟩
def o4 (P : Params) : Obj := ⟨(.type "dict"), none, (.dict #[E P "__name__" 165 (.str (S "law_meettasks_k35_first_opened") 640), E P "__doc__" 166 .none, E P "__package__" 167 .none, E P "__loader__" 168 (.builtin "__main__.__loader__#opaque"), E P "__spec__" 169 .none, E P "__annotations__" 170 (.ref 6), E P "__builtins__" 171 (.ref 4), E P "__file__" 173 (.str (S "/claim/cut.py") 172), E P "__cached__" 174 .none, E P "_wall" 193 (.ref 21), E P "LETTERS" 197 (.str (S "abcdefghijklmnopqrstuvwxyz") 196), E P "is_list" 204 (.ref 28), E P "is_pair" 211 (.ref 35), E P "is_word" 217 (.ref 40), E P "first_bad_word" 228 (.ref 47), E P "TaskError" 248 (.ref 57), E P "BadValues" 273 (.ref 77), E P "BadStart" 298 (.ref 96), E P "BadDeeds" 323 (.ref 115), E P "BadEntries" 348 (.ref 134), E P "NoEntryName" 373 (.ref 153), E P "BadNames" 398 (.ref 172), E P "is_lead" 410 (.ref 181), E P "first_wrong" 421 (.ref 188), E P "ordered" 427 (.ref 193), E P "Thing" 499 (.ref 241), E P "lots_of" 507 (.ref 250), E P "check_entry" 517 (.ref 257), E P "names_of" 524 (.ref 264), E P "checked_names" 530 (.ref 269), E P "led_to" 539 (.ref 276), E P "rows_from" 555 (.ref 283), E P "first_open" 568 (.ref 290), E P "shut_rows" 579 (.ref 297), E P "uses_within" 585 (.ref 302), E P "shut_pieces" 591 (.ref 307), E P "ring_along" 597 (.ref 312), E P "shut_ring" 603 (.ref 317), E P "goes_along" 615 (.ref 324), E P "is_shut_ring" 621 (.ref 329), E P "is_within" 627 (.ref 334), E P "idle_lots" 633 (.ref 339), E P "helpers_of" 639 (.ref 344), E P "_law_spring" 648 (.ref 351), E P "_law_take" 659 (.ref 358), E P "_law_one" 667 (.ref 365), E P "_law_mix" 673 (.ref 370), E P "_law_thing" 679 (.ref 375), E P "_law_made" 686 (.ref 382), E P "_law_names" 693 (.ref 389), E P "_law_led" 702 (.ref 396), E P "_law_first" 718 (.ref 403), E P "_law_met" 726 (.ref 410), E P "_law_refused" 732 (.ref 415), E P "law" 747 (.ref 422)] 55), #[]⟩
def o5 (P : Params) : Obj := ⟨.none, none, (.fields #[(.int 1 0), (.int 0 0), (.ref 20), (.int 6 0), (.int 0 0), (.ref 27), (.int 8 0), (.int 0 0), (.ref 34), (.int 10 0), (.int 0 0), (.ref 39), (.int 12 0), (.int 0 0), (.ref 46), (.int 22 0), (.int 0 0), (.ref 53), (.int 24 0), (.int 0 0), (.ref 66), (.int 28 0), (.int 0 0), (.ref 85), (.int 32 0), (.int 0 0), (.ref 104), (.int 36 0), (.int 0 0), (.ref 123), (.int 40 0), (.int 0 0), (.ref 142), (.int 44 0), (.int 0 0), (.ref 161), (.int 49 0), (.int 0 0), (.ref 180), (.int 56 0), (.int 0 0), (.ref 187), (.int 63 0), (.int 0 0), (.ref 192), (.int 65 0), (.int 0 0), (.ref 199), (.int 99 0), (.int 0 0), (.ref 249), (.int 109 0), (.int 0 0), (.ref 256), (.int 112 0), (.int 0 0), (.ref 263), (.int 114 0), (.int 0 0), (.ref 268), (.int 123 0), (.int 0 0), (.ref 275), (.int 127 0), (.int 0 0), (.ref 282), (.int 139 0), (.int 0 0), (.ref 289), (.int 147 0), (.int 0 0), (.ref 296), (.int 149 0), (.int 0 0), (.ref 301), (.int 156 0), (.int 0 0), (.ref 306), (.int 165 0), (.int 0 0), (.ref 311), (.int 173 0), (.int 0 0), (.ref 316), (.int 181 0), (.int 0 0), (.ref 323), (.int 189 0), (.int 0 0), (.ref 328), (.int 199 0), (.int 0 0), (.ref 333), (.int 201 0), (.int 0 0), (.ref 338), (.int 206 0), (.int 0 0), (.ref 343), (.int 213 0), (.int 0 0), (.ref 350), (.int 215 0), (.int 0 0), (.ref 357), (.int 227 0), (.int 0 0), (.ref 364), (.int 229 0), (.int 0 0), (.ref 369), (.int 232 0), (.int 0 0), (.ref 374), (.int 240 0), (.int 0 0), (.ref 381), (.int 242 0), (.int 0 0), (.ref 388), (.int 244 0), (.int 0 0), (.ref 395), (.int 246 0), (.int 0 0), (.ref 402), (.int 261 0), (.int 0 0), (.ref 409), (.int 269 0), (.int 0 0), (.ref 414), (.int 290 0), (.int 0 0), (.ref 421)]), #[]⟩
def o6 (P : Params) : Obj := ⟨(.type "tuple"), none, (.seq #[] 0), #[]⟩
def o7 (P : Params) : Obj := ⟨.none, none, (.fields #[]), #[]⟩
def o8 (P : Params) : Obj := ⟨(.type "tuple"), none, (.seq #[(.str (S "k") 190)] 0), #[]⟩
def o9 (P : Params) : Obj := ⟨(.type "tuple"), none, (.seq #[] 0), #[]⟩
def o10 (P : Params) : Obj := ⟨.none, none, (.func ⟨(S "_wall"), (S "_wall"), (dT 0).params, .stmts (dT 0).body, (dT 0).scope, 0, [], .none, .none, .none, .none, none, .none, .none, 0⟩), #[]⟩
def o11 (P : Params) : Obj := ⟨(.type "code"), none, (.fields #[(.str (S "_wall") 187), (.str (S "_wall") 188), (.str (S "/claim/cut.py") 189), (.int 1 0), (.int 1 0), (.int 0 0), (.int 0 0), (.int 3 0), (.ref 15), (.bool true), (.int 181 0), (.ref 16), .none, (.ref 17), (.ref 18), (.ref 19), (.int 191 0), (.int 1 0), (.str (S "/claim/cut.py") 192)]), #[]⟩
def o12 (P : Params) : Obj := ⟨(.type "function"), none, (.func ⟨(S "_wall"), (S "_wall"), (dT 0).params, .stmts (dT 0).body, (dT 0).scope, 3, [], .none, .none, .none, (.str (S "__main__") 164), none, (.ref 20), .none, 0⟩), #[]⟩
def o13 (P : Params) : Obj := ⟨(.type "tuple"), none, (.seq #[] 0), #[]⟩
def o14 (P : Params) : Obj := ⟨.none, none, (.fields #[]), #[]⟩
def o15 (P : Params) : Obj := ⟨(.type "tuple"), none, (.seq #[(.str (S "thing") 201)] 0), #[]⟩
def o16 (P : Params) : Obj := ⟨(.type "tuple"), none, (.seq #[] 0), #[]⟩
def o17 (P : Params) : Obj := ⟨.none, none, (.func ⟨(S "is_list"), (S "is_list"), (dT 3).params, .stmts (dT 3).body, (dT 3).scope, 0, [], .none, .none, .none, .none, none, .none, .none, 0⟩), #[]⟩
def o18 (P : Params) : Obj := ⟨(.type "code"), none, (.fields #[(.str (S "is_list") 198), (.str (S "is_list") 199), (.str (S "/claim/cut.py") 200), (.int 6 0), (.int 1 0), (.int 0 0), (.int 0 0), (.int 3 0), (.ref 22), (.bool true), (.int 181 0), (.ref 23), .none, (.ref 24), (.ref 25), (.ref 26), (.int 202 0), (.int 6 0), (.str (S "/claim/cut.py") 203)]), #[]⟩
def o19 (P : Params) : Obj := ⟨(.type "function"), none, (.func ⟨(S "is_list"), (S "is_list"), (dT 3).params, .stmts (dT 3).body, (dT 3).scope, 3, [], .none, .none, .none, (.str (S "meettasks.basics") 194), none, (.ref 27), .none, 0⟩), #[]⟩
def o20 (P : Params) : Obj := ⟨(.type "tuple"), none, (.seq #[] 0), #[]⟩
def o21 (P : Params) : Obj := ⟨.none, none, (.fields #[]), #[]⟩
def o22 (P : Params) : Obj := ⟨(.type "tuple"), none, (.seq #[(.str (S "thing") 208)] 0), #[]⟩
def o23 (P : Params) : Obj := ⟨(.type "tuple"), none, (.seq #[] 0), #[]⟩
def o24 (P : Params) : Obj := ⟨.none, none, (.func ⟨(S "is_pair"), (S "is_pair"), (dT 4).params, .stmts (dT 4).body, (dT 4).scope, 0, [], .none, .none, .none, .none, none, .none, .none, 0⟩), #[]⟩
def o25 (P : Params) : Obj := ⟨(.type "code"), none, (.fields #[(.str (S "is_pair") 205), (.str (S "is_pair") 206), (.str (S "/claim/cut.py") 207), (.int 8 0), (.int 1 0), (.int 0 0), (.int 0 0), (.int 3 0), (.ref 29), (.bool true), (.int 181 0), (.ref 30), .none, (.ref 31), (.ref 32), (.ref 33), (.int 209 0), (.int 8 0), (.str (S "/claim/cut.py") 210)]), #[]⟩
def o26 (P : Params) : Obj := ⟨(.type "function"), none, (.func ⟨(S "is_pair"), (S "is_pair"), (dT 4).params, .stmts (dT 4).body, (dT 4).scope, 3, [], .none, .none, .none, (.str (S "meettasks.basics") 194), none, (.ref 34), .none, 0⟩), #[]⟩
def o27 (P : Params) : Obj := ⟨(.type "tuple"), none, (.seq #[] 0), #[]⟩
def o28 (P : Params) : Obj := ⟨.none, none, (.fields #[]), #[]⟩
def o29 (P : Params) : Obj := ⟨.none, none, (.func ⟨(S "is_word"), (S "is_word"), (dT 5).params, .stmts (dT 5).body, (dT 5).scope, 0, [], .none, .none, .none, .none, none, .none, .none, 0⟩), #[]⟩
def o30 (P : Params) : Obj := ⟨(.type "code"), none, (.fields #[(.str (S "is_word") 212), (.str (S "is_word") 213), (.str (S "/claim/cut.py") 214), (.int 10 0), (.int 1 0), (.int 0 0), (.int 0 0), (.int 3 0), (.ref 36), (.bool true), (.int 181 0), (.ref 37), .none, .none, .none, (.ref 38), (.int 215 0), (.int 10 0), (.str (S "/claim/cut.py") 216)]), #[]⟩
def o31 (P : Params) : Obj := ⟨(.type "function"), none, (.func ⟨(S "is_word"), (S "is_word"), (dT 5).params, .stmts (dT 5).body, (dT 5).scope, 3, [], .none, .none, .none, (.str (S "meettasks.basics") 194), none, (.ref 39), .none, 0⟩), #[]⟩
def o32 (P : Params) : Obj := ⟨(.type "tuple"), none, (.seq #[] 0), #[]⟩
def o33 (P : Params) : Obj := ⟨.none, none, (.fields #[]), #[]⟩
def o34 (P : Params) : Obj := ⟨(.type "tuple"), none, (.seq #[(.str (S "things") 221), (.str (S "barred") 222), (.str (S "met") 223), (.str (S "index") 224), (.str (S "thing") 225)] 0), #[]⟩
def o35 (P : Params) : Obj := ⟨(.type "tuple"), none, (.seq #[] 0), #[]⟩
def o36 (P : Params) : Obj := ⟨.none, none, (.func ⟨(S "first_bad_word"), (S "first_bad_word"), (dT 6).params, .stmts (dT 6).body, (dT 6).scope, 0, [], .none, .none, .none, .none, none, .none, .none, 0⟩), #[]⟩
def o37 (P : Params) : Obj := ⟨(.type "code"), none, (.fields #[(.str (S "first_bad_word") 218), (.str (S "first_bad_word") 219), (.str (S "/claim/cut.py") 220), (.int 12 0), (.int 2 0), (.int 0 0), (.int 0 0), (.int 3 0), (.ref 41), (.bool true), (.int 181 0), (.ref 42), .none, (.ref 43), (.ref 44), (.ref 45), (.int 226 0), (.int 12 0), (.str (S "/claim/cut.py") 227)]), #[]⟩
def o38 (P : Params) : Obj := ⟨(.type "function"), none, (.func ⟨(S "first_bad_word"), (S "first_bad_word"), (dT 6).params, .stmts (dT 6).body, (dT 6).scope, 3, [], .none, .none, .none, (.str (S "meettasks.basics") 194), none, (.ref 46), .none, 0⟩), #[]⟩
def o39 (P : Params) : Obj := ⟨(.type "tuple"), none, (.seq #[(.type "ValueError")] 0), #[]⟩
def o40 (P : Params) : Obj := ⟨(.type "builtin_function_or_method"), none, (.fields #[(.builtin "type.__prepare__"), (.type "type")]), #[]⟩
def o41 (P : Params) : Obj := ⟨(.type "dict"), none, (.dict #[E P "__module__" 238 (.str (S "meettasks.errors") 229), E P "__qualname__" 240 (.str (S "TaskError") 239), E P "__firstlineno__" 242 (.int 22 241), E P "__static_attributes__" 243 (.ref 55)] 4), #[]⟩
def o42 (P : Params) : Obj := ⟨(.type "tuple"), none, (.seq #[] 0), #[]⟩
def o43 (P : Params) : Obj := ⟨.none, none, (.fields #[]), #[]⟩
def o44 (P : Params) : Obj := ⟨(.type "code"), none, (.fields #[(.str (S "TaskError") 233), (.str (S "TaskError") 234), (.str (S "/claim/cut.py") 235), (.int 22 0), (.int 0 0), (.int 0 0), (.int 0 0), (.int 0 0), (.ref 51), (.bool false), (.int 181 0), (.ref 52), .none, .none, .none, .none, (.int 236 0), (.int 22 0), (.str (S "/claim/cut.py") 237)]), #[]⟩
def o45 (P : Params) : Obj := ⟨(.type "frame"), none, .plain, #[(some (.ref 53)), (some (.ref 3)), (some (.ref 50)), none, (some (.str (S "meettasks.errors") 229)), none, (some (.ref 0))]⟩
def o46 (P : Params) : Obj := ⟨(.type "tuple"), none, (.seq #[] 0), #[]⟩
def o47 (P : Params) : Obj := ⟨(.type "dict"), none, (.dict #[E P "__module__" 238 (.str (S "meettasks.errors") 229), E P "__firstlineno__" 242 (.int 22 241), E P "__static_attributes__" 243 (.ref 55), E P "__weakref__" 245 (.ref 58), E P "__doc__" 246 .none] 3), #[]⟩
def o48 (P : Params) : Obj := ⟨(.type "type"), none, (.cls ⟨(S "TaskError"), [(.type "ValueError")], [(.ref 57), (.type "ValueError"), (.type "Exception"), (.type "BaseException"), (.type "object")], 56, (S "TaskError"), true, [], [(.ref 77), (.ref 96), (.ref 115), (.ref 134), (.ref 153), (.ref 172)], false, none, false⟩), #[(some (.ref 48)), none, (some (.str (S "TaskError") 231)), (some (.str (S "TaskError") 239)), (some (.builtin "ValueError.__new__")), (some (.bool true))]⟩
def o49 (P : Params) : Obj := ⟨(.type "getset_descriptor"), none, (.fields #[(.str (S "__weakref__") 244), (.ref 57), (.builtin "ExceptionGroup.__weakref__"), .none]), #[]⟩
def o50 (P : Params) : Obj := ⟨(.type "super"), none, (.fields #[(.ref 57), (.ref 57), (.ref 57)]), #[]⟩
def o51 (P : Params) : Obj := ⟨(.type "builtin_function_or_method"), none, (.fields #[(.builtin "object.__init_subclass__"), (.ref 57)]), #[]⟩
def o52 (P : Params) : Obj := ⟨(.type "tuple"), none, (.seq #[(.ref 57)] 0), #[]⟩
def o53 (P : Params) : Obj := ⟨(.type "builtin_function_or_method"), none, (.fields #[(.builtin "type.__prepare__"), (.type "type")]), #[]⟩
def o54 (P : Params) : Obj := ⟨(.type "dict"), none, (.dict #[E P "__module__" 256 (.str (S "meettasks.errors") 229), E P "__qualname__" 258 (.str (S "BadValues") 257), E P "__firstlineno__" 260 (.int 24 259), E P "__init__" 268 (.ref 74), E P "__static_attributes__" 270 (.ref 75)] 5), #[]⟩
def o55 (P : Params) : Obj := ⟨(.type "tuple"), none, (.seq #[] 0), #[]⟩
def o56 (P : Params) : Obj := ⟨.none, none, (.fields #[(.int 26 0), (.int 4 0), (.ref 73)]), #[]⟩
def o57 (P : Params) : Obj := ⟨(.type "code"), none, (.fields #[(.str (S "BadValues") 251), (.str (S "BadValues") 252), (.str (S "/claim/cut.py") 253), (.int 24 0), (.int 0 0), (.int 0 0), (.int 0 0), (.int 0 0), (.ref 64), (.bool false), (.int 181 0), (.ref 65), .none, .none, .none, .none, (.int 254 0), (.int 24 0), (.str (S "/claim/cut.py") 255)]), #[]⟩
def o58 (P : Params) : Obj := ⟨(.type "frame"), none, .plain, #[(some (.ref 66)), (some (.ref 3)), (some (.ref 63)), none, (some (.str (S "meettasks.errors") 229)), none, (some (.ref 0))]⟩
def o59 (P : Params) : Obj := ⟨(.type "tuple"), none, (.seq #[] 0), #[]⟩
def o60 (P : Params) : Obj := ⟨.none, none, (.fields #[]), #[]⟩
def o61 (P : Params) : Obj := ⟨(.type "tuple"), none, (.seq #[(.str (S "self") 264), (.str (S "index") 265)] 0), #[]⟩
def o62 (P : Params) : Obj := ⟨(.type "tuple"), none, (.seq #[] 0), #[]⟩
def o63 (P : Params) : Obj := ⟨.none, none, (.func ⟨(S "__init__"), (S "BadValues.__init__"), (dM 9 0).params, .stmts (dM 9 0).body, (dM 9 0).scope, 0, [], .none, .none, .none, .none, none, .none, .none, 0⟩), #[]⟩
def o64 (P : Params) : Obj := ⟨(.type "code"), none, (.fields #[(.str (S "__init__") 261), (.str (S "BadValues.__init__") 262), (.str (S "/claim/cut.py") 263), (.int 26 0), (.int 2 0), (.int 0 0), (.int 0 0), (.int 3 0), (.ref 68), (.bool true), (.int 181 0), (.ref 69), .none, (.ref 70), (.ref 71), (.ref 72), (.int 266 0), (.int 26 0), (.str (S "/claim/cut.py") 267)]), #[]⟩
def o65 (P : Params) : Obj := ⟨(.type "function"), none, (.func ⟨(S "__init__"), (S "BadValues.__init__"), (dM 9 0).params, .stmts (dM 9 0).body, (dM 9 0).scope, 3, [], .none, .none, .none, (.str (S "meettasks.errors") 229), none, (.ref 73), .none, 0⟩), #[]⟩
def o66 (P : Params) : Obj := ⟨(.type "tuple"), none, (.seq #[(.str (S "index") 269)] 0), #[]⟩
def o67 (P : Params) : Obj := ⟨(.type "dict"), none, (.dict #[E P "__module__" 256 (.str (S "meettasks.errors") 229), E P "__firstlineno__" 260 (.int 24 259), E P "__init__" 268 (.ref 74), E P "__static_attributes__" 270 (.ref 75), E P "__doc__" 271 .none] 2), #[]⟩
def o68 (P : Params) : Obj := ⟨(.type "type"), none, (.cls ⟨(S "BadValues"), [(.ref 57)], [(.ref 77), (.ref 57), (.type "ValueError"), (.type "Exception"), (.type "BaseException"), (.type "object")], 76, (S "BadValues"), true, [], [], false, none, false⟩), #[(some (.ref 61)), none, (some (.str (S "BadValues") 249)), (some (.str (S "BadValues") 257)), (some (.builtin "ValueError.__new__")), (some (.bool true))]⟩
def o69 (P : Params) : Obj := ⟨(.type "super"), none, (.fields #[(.ref 77), (.ref 77), (.ref 77)]), #[]⟩
def o70 (P : Params) : Obj := ⟨(.type "builtin_function_or_method"), none, (.fields #[(.builtin "object.__init_subclass__"), (.ref 77)]), #[]⟩
def o71 (P : Params) : Obj := ⟨(.type "tuple"), none, (.seq #[(.ref 57)] 0), #[]⟩
def o72 (P : Params) : Obj := ⟨(.type "builtin_function_or_method"), none, (.fields #[(.builtin "type.__prepare__"), (.type "type")]), #[]⟩
def o73 (P : Params) : Obj := ⟨(.type "dict"), none, (.dict #[E P "__module__" 281 (.str (S "meettasks.errors") 229), E P "__qualname__" 283 (.str (S "BadStart") 282), E P "__firstlineno__" 285 (.int 28 284), E P "__init__" 293 (.ref 93), E P "__static_attributes__" 295 (.ref 94)] 5), #[]⟩
def o74 (P : Params) : Obj := ⟨(.type "tuple"), none, (.seq #[] 0), #[]⟩
def o75 (P : Params) : Obj := ⟨.none, none, (.fields #[(.int 30 0), (.int 4 0), (.ref 92)]), #[]⟩
def o76 (P : Params) : Obj := ⟨(.type "code"), none, (.fields #[(.str (S "BadStart") 276), (.str (S "BadStart") 277), (.str (S "/claim/cut.py") 278), (.int 28 0), (.int 0 0), (.int 0 0), (.int 0 0), (.int 0 0), (.ref 83), (.bool false), (.int 181 0), (.ref 84), .none, .none, .none, .none, (.int 279 0), (.int 28 0), (.str (S "/claim/cut.py") 280)]), #[]⟩
def o77 (P : Params) : Obj := ⟨(.type "frame"), none, .plain, #[(some (.ref 85)), (some (.ref 3)), (some (.ref 82)), none, (some (.str (S "meettasks.errors") 229)), none, (some (.ref 0))]⟩
def o78 (P : Params) : Obj := ⟨(.type "tuple"), none, (.seq #[] 0), #[]⟩
def o79 (P : Params) : Obj := ⟨.none, none, (.fields #[]), #[]⟩
def o80 (P : Params) : Obj := ⟨(.type "tuple"), none, (.seq #[(.str (S "self") 289), (.str (S "thing") 290)] 0), #[]⟩
def o81 (P : Params) : Obj := ⟨(.type "tuple"), none, (.seq #[] 0), #[]⟩
def o82 (P : Params) : Obj := ⟨.none, none, (.func ⟨(S "__init__"), (S "BadStart.__init__"), (dM 10 0).params, .stmts (dM 10 0).body, (dM 10 0).scope, 0, [], .none, .none, .none, .none, none, .none, .none, 0⟩), #[]⟩
def o83 (P : Params) : Obj := ⟨(.type "code"), none, (.fields #[(.str (S "__init__") 286), (.str (S "BadStart.__init__") 287), (.str (S "/claim/cut.py") 288), (.int 30 0), (.int 2 0), (.int 0 0), (.int 0 0), (.int 3 0), (.ref 87), (.bool true), (.int 181 0), (.ref 88), .none, (.ref 89), (.ref 90), (.ref 91), (.int 291 0), (.int 30 0), (.str (S "/claim/cut.py") 292)]), #[]⟩
def o84 (P : Params) : Obj := ⟨(.type "function"), none, (.func ⟨(S "__init__"), (S "BadStart.__init__"), (dM 10 0).params, .stmts (dM 10 0).body, (dM 10 0).scope, 3, [], .none, .none, .none, (.str (S "meettasks.errors") 229), none, (.ref 92), .none, 0⟩), #[]⟩
def o85 (P : Params) : Obj := ⟨(.type "tuple"), none, (.seq #[(.str (S "thing") 294)] 0), #[]⟩
def o86 (P : Params) : Obj := ⟨(.type "dict"), none, (.dict #[E P "__module__" 281 (.str (S "meettasks.errors") 229), E P "__firstlineno__" 285 (.int 28 284), E P "__init__" 293 (.ref 93), E P "__static_attributes__" 295 (.ref 94), E P "__doc__" 296 .none] 2), #[]⟩
def o87 (P : Params) : Obj := ⟨(.type "type"), none, (.cls ⟨(S "BadStart"), [(.ref 57)], [(.ref 96), (.ref 57), (.type "ValueError"), (.type "Exception"), (.type "BaseException"), (.type "object")], 95, (S "BadStart"), true, [], [], false, none, false⟩), #[(some (.ref 80)), none, (some (.str (S "BadStart") 274)), (some (.str (S "BadStart") 282)), (some (.builtin "ValueError.__new__")), (some (.bool true))]⟩
def o88 (P : Params) : Obj := ⟨(.type "super"), none, (.fields #[(.ref 96), (.ref 96), (.ref 96)]), #[]⟩
def o89 (P : Params) : Obj := ⟨(.type "builtin_function_or_method"), none, (.fields #[(.builtin "object.__init_subclass__"), (.ref 96)]), #[]⟩
def o90 (P : Params) : Obj := ⟨(.type "tuple"), none, (.seq #[(.ref 57)] 0), #[]⟩
def o91 (P : Params) : Obj := ⟨(.type "builtin_function_or_method"), none, (.fields #[(.builtin "type.__prepare__"), (.type "type")]), #[]⟩
def o92 (P : Params) : Obj := ⟨(.type "dict"), none, (.dict #[E P "__module__" 306 (.str (S "meettasks.errors") 229), E P "__qualname__" 308 (.str (S "BadDeeds") 307), E P "__firstlineno__" 310 (.int 32 309), E P "__init__" 318 (.ref 112), E P "__static_attributes__" 320 (.ref 113)] 5), #[]⟩
def o93 (P : Params) : Obj := ⟨(.type "tuple"), none, (.seq #[] 0), #[]⟩
def o94 (P : Params) : Obj := ⟨.none, none, (.fields #[(.int 34 0), (.int 4 0), (.ref 111)]), #[]⟩
def o95 (P : Params) : Obj := ⟨(.type "code"), none, (.fields #[(.str (S "BadDeeds") 301), (.str (S "BadDeeds") 302), (.str (S "/claim/cut.py") 303), (.int 32 0), (.int 0 0), (.int 0 0), (.int 0 0), (.int 0 0), (.ref 102), (.bool false), (.int 181 0), (.ref 103), .none, .none, .none, .none, (.int 304 0), (.int 32 0), (.str (S "/claim/cut.py") 305)]), #[]⟩
def o96 (P : Params) : Obj := ⟨(.type "frame"), none, .plain, #[(some (.ref 104)), (some (.ref 3)), (some (.ref 101)), none, (some (.str (S "meettasks.errors") 229)), none, (some (.ref 0))]⟩
def o97 (P : Params) : Obj := ⟨(.type "tuple"), none, (.seq #[] 0), #[]⟩
def o98 (P : Params) : Obj := ⟨.none, none, (.fields #[]), #[]⟩
def o99 (P : Params) : Obj := ⟨(.type "tuple"), none, (.seq #[(.str (S "self") 314), (.str (S "name") 315)] 0), #[]⟩
def o100 (P : Params) : Obj := ⟨(.type "tuple"), none, (.seq #[] 0), #[]⟩
def o101 (P : Params) : Obj := ⟨.none, none, (.func ⟨(S "__init__"), (S "BadDeeds.__init__"), (dM 11 0).params, .stmts (dM 11 0).body, (dM 11 0).scope, 0, [], .none, .none, .none, .none, none, .none, .none, 0⟩), #[]⟩
def o102 (P : Params) : Obj := ⟨(.type "code"), none, (.fields #[(.str (S "__init__") 311), (.str (S "BadDeeds.__init__") 312), (.str (S "/claim/cut.py") 313), (.int 34 0), (.int 2 0), (.int 0 0), (.int 0 0), (.int 3 0), (.ref 106), (.bool true), (.int 181 0), (.ref 107), .none, (.ref 108), (.ref 109), (.ref 110), (.int 316 0), (.int 34 0), (.str (S "/claim/cut.py") 317)]), #[]⟩
def o103 (P : Params) : Obj := ⟨(.type "function"), none, (.func ⟨(S "__init__"), (S "BadDeeds.__init__"), (dM 11 0).params, .stmts (dM 11 0).body, (dM 11 0).scope, 3, [], .none, .none, .none, (.str (S "meettasks.errors") 229), none, (.ref 111), .none, 0⟩), #[]⟩
def o104 (P : Params) : Obj := ⟨(.type "tuple"), none, (.seq #[(.str (S "name") 319)] 0), #[]⟩
def o105 (P : Params) : Obj := ⟨(.type "dict"), none, (.dict #[E P "__module__" 306 (.str (S "meettasks.errors") 229), E P "__firstlineno__" 310 (.int 32 309), E P "__init__" 318 (.ref 112), E P "__static_attributes__" 320 (.ref 113), E P "__doc__" 321 .none] 2), #[]⟩
def o106 (P : Params) : Obj := ⟨(.type "type"), none, (.cls ⟨(S "BadDeeds"), [(.ref 57)], [(.ref 115), (.ref 57), (.type "ValueError"), (.type "Exception"), (.type "BaseException"), (.type "object")], 114, (S "BadDeeds"), true, [], [], false, none, false⟩), #[(some (.ref 99)), none, (some (.str (S "BadDeeds") 299)), (some (.str (S "BadDeeds") 307)), (some (.builtin "ValueError.__new__")), (some (.bool true))]⟩
def o107 (P : Params) : Obj := ⟨(.type "super"), none, (.fields #[(.ref 115), (.ref 115), (.ref 115)]), #[]⟩
def o108 (P : Params) : Obj := ⟨(.type "builtin_function_or_method"), none, (.fields #[(.builtin "object.__init_subclass__"), (.ref 115)]), #[]⟩
def o109 (P : Params) : Obj := ⟨(.type "tuple"), none, (.seq #[(.ref 57)] 0), #[]⟩
def o110 (P : Params) : Obj := ⟨(.type "builtin_function_or_method"), none, (.fields #[(.builtin "type.__prepare__"), (.type "type")]), #[]⟩
def o111 (P : Params) : Obj := ⟨(.type "dict"), none, (.dict #[E P "__module__" 331 (.str (S "meettasks.errors") 229), E P "__qualname__" 333 (.str (S "BadEntries") 332), E P "__firstlineno__" 335 (.int 36 334), E P "__init__" 343 (.ref 131), E P "__static_attributes__" 345 (.ref 132)] 5), #[]⟩
def o112 (P : Params) : Obj := ⟨(.type "tuple"), none, (.seq #[] 0), #[]⟩
def o113 (P : Params) : Obj := ⟨.none, none, (.fields #[(.int 38 0), (.int 4 0), (.ref 130)]), #[]⟩
def o114 (P : Params) : Obj := ⟨(.type "code"), none, (.fields #[(.str (S "BadEntries") 326), (.str (S "BadEntries") 327), (.str (S "/claim/cut.py") 328), (.int 36 0), (.int 0 0), (.int 0 0), (.int 0 0), (.int 0 0), (.ref 121), (.bool false), (.int 181 0), (.ref 122), .none, .none, .none, .none, (.int 329 0), (.int 36 0), (.str (S "/claim/cut.py") 330)]), #[]⟩
def o115 (P : Params) : Obj := ⟨(.type "frame"), none, .plain, #[(some (.ref 123)), (some (.ref 3)), (some (.ref 120)), none, (some (.str (S "meettasks.errors") 229)), none, (some (.ref 0))]⟩
def o116 (P : Params) : Obj := ⟨(.type "tuple"), none, (.seq #[] 0), #[]⟩
def o117 (P : Params) : Obj := ⟨.none, none, (.fields #[]), #[]⟩
def o118 (P : Params) : Obj := ⟨(.type "tuple"), none, (.seq #[(.str (S "self") 339), (.str (S "name") 340)] 0), #[]⟩
def o119 (P : Params) : Obj := ⟨(.type "tuple"), none, (.seq #[] 0), #[]⟩
def o120 (P : Params) : Obj := ⟨.none, none, (.func ⟨(S "__init__"), (S "BadEntries.__init__"), (dM 12 0).params, .stmts (dM 12 0).body, (dM 12 0).scope, 0, [], .none, .none, .none, .none, none, .none, .none, 0⟩), #[]⟩
def o121 (P : Params) : Obj := ⟨(.type "code"), none, (.fields #[(.str (S "__init__") 336), (.str (S "BadEntries.__init__") 337), (.str (S "/claim/cut.py") 338), (.int 38 0), (.int 2 0), (.int 0 0), (.int 0 0), (.int 3 0), (.ref 125), (.bool true), (.int 181 0), (.ref 126), .none, (.ref 127), (.ref 128), (.ref 129), (.int 341 0), (.int 38 0), (.str (S "/claim/cut.py") 342)]), #[]⟩
def o122 (P : Params) : Obj := ⟨(.type "function"), none, (.func ⟨(S "__init__"), (S "BadEntries.__init__"), (dM 12 0).params, .stmts (dM 12 0).body, (dM 12 0).scope, 3, [], .none, .none, .none, (.str (S "meettasks.errors") 229), none, (.ref 130), .none, 0⟩), #[]⟩
def o123 (P : Params) : Obj := ⟨(.type "tuple"), none, (.seq #[(.str (S "name") 344)] 0), #[]⟩
def o124 (P : Params) : Obj := ⟨(.type "dict"), none, (.dict #[E P "__module__" 331 (.str (S "meettasks.errors") 229), E P "__firstlineno__" 335 (.int 36 334), E P "__init__" 343 (.ref 131), E P "__static_attributes__" 345 (.ref 132), E P "__doc__" 346 .none] 2), #[]⟩
def o125 (P : Params) : Obj := ⟨(.type "type"), none, (.cls ⟨(S "BadEntries"), [(.ref 57)], [(.ref 134), (.ref 57), (.type "ValueError"), (.type "Exception"), (.type "BaseException"), (.type "object")], 133, (S "BadEntries"), true, [], [], false, none, false⟩), #[(some (.ref 118)), none, (some (.str (S "BadEntries") 324)), (some (.str (S "BadEntries") 332)), (some (.builtin "ValueError.__new__")), (some (.bool true))]⟩
def o126 (P : Params) : Obj := ⟨(.type "super"), none, (.fields #[(.ref 134), (.ref 134), (.ref 134)]), #[]⟩
def o127 (P : Params) : Obj := ⟨(.type "builtin_function_or_method"), none, (.fields #[(.builtin "object.__init_subclass__"), (.ref 134)]), #[]⟩
def o128 (P : Params) : Obj := ⟨(.type "tuple"), none, (.seq #[(.ref 57)] 0), #[]⟩
def o129 (P : Params) : Obj := ⟨(.type "builtin_function_or_method"), none, (.fields #[(.builtin "type.__prepare__"), (.type "type")]), #[]⟩
def o130 (P : Params) : Obj := ⟨(.type "dict"), none, (.dict #[E P "__module__" 356 (.str (S "meettasks.errors") 229), E P "__qualname__" 358 (.str (S "NoEntryName") 357), E P "__firstlineno__" 360 (.int 40 359), E P "__init__" 368 (.ref 150), E P "__static_attributes__" 370 (.ref 151)] 5), #[]⟩
def o131 (P : Params) : Obj := ⟨(.type "tuple"), none, (.seq #[] 0), #[]⟩
def o132 (P : Params) : Obj := ⟨.none, none, (.fields #[(.int 42 0), (.int 4 0), (.ref 149)]), #[]⟩
def o133 (P : Params) : Obj := ⟨(.type "code"), none, (.fields #[(.str (S "NoEntryName") 351), (.str (S "NoEntryName") 352), (.str (S "/claim/cut.py") 353), (.int 40 0), (.int 0 0), (.int 0 0), (.int 0 0), (.int 0 0), (.ref 140), (.bool false), (.int 181 0), (.ref 141), .none, .none, .none, .none, (.int 354 0), (.int 40 0), (.str (S "/claim/cut.py") 355)]), #[]⟩
def o134 (P : Params) : Obj := ⟨(.type "frame"), none, .plain, #[(some (.ref 142)), (some (.ref 3)), (some (.ref 139)), none, (some (.str (S "meettasks.errors") 229)), none, (some (.ref 0))]⟩
def o135 (P : Params) : Obj := ⟨(.type "tuple"), none, (.seq #[] 0), #[]⟩
def o136 (P : Params) : Obj := ⟨.none, none, (.fields #[]), #[]⟩
def o137 (P : Params) : Obj := ⟨(.type "tuple"), none, (.seq #[(.str (S "self") 364), (.str (S "entry") 365)] 0), #[]⟩
def o138 (P : Params) : Obj := ⟨(.type "tuple"), none, (.seq #[] 0), #[]⟩
def o139 (P : Params) : Obj := ⟨.none, none, (.func ⟨(S "__init__"), (S "NoEntryName.__init__"), (dM 13 0).params, .stmts (dM 13 0).body, (dM 13 0).scope, 0, [], .none, .none, .none, .none, none, .none, .none, 0⟩), #[]⟩
def o140 (P : Params) : Obj := ⟨(.type "code"), none, (.fields #[(.str (S "__init__") 361), (.str (S "NoEntryName.__init__") 362), (.str (S "/claim/cut.py") 363), (.int 42 0), (.int 2 0), (.int 0 0), (.int 0 0), (.int 3 0), (.ref 144), (.bool true), (.int 181 0), (.ref 145), .none, (.ref 146), (.ref 147), (.ref 148), (.int 366 0), (.int 42 0), (.str (S "/claim/cut.py") 367)]), #[]⟩
def o141 (P : Params) : Obj := ⟨(.type "function"), none, (.func ⟨(S "__init__"), (S "NoEntryName.__init__"), (dM 13 0).params, .stmts (dM 13 0).body, (dM 13 0).scope, 3, [], .none, .none, .none, (.str (S "meettasks.errors") 229), none, (.ref 149), .none, 0⟩), #[]⟩
def o142 (P : Params) : Obj := ⟨(.type "tuple"), none, (.seq #[(.str (S "entry") 369)] 0), #[]⟩
def o143 (P : Params) : Obj := ⟨(.type "dict"), none, (.dict #[E P "__module__" 356 (.str (S "meettasks.errors") 229), E P "__firstlineno__" 360 (.int 40 359), E P "__init__" 368 (.ref 150), E P "__static_attributes__" 370 (.ref 151), E P "__doc__" 371 .none] 2), #[]⟩
def o144 (P : Params) : Obj := ⟨(.type "type"), none, (.cls ⟨(S "NoEntryName"), [(.ref 57)], [(.ref 153), (.ref 57), (.type "ValueError"), (.type "Exception"), (.type "BaseException"), (.type "object")], 152, (S "NoEntryName"), true, [], [], false, none, false⟩), #[(some (.ref 137)), none, (some (.str (S "NoEntryName") 349)), (some (.str (S "NoEntryName") 357)), (some (.builtin "ValueError.__new__")), (some (.bool true))]⟩
def o145 (P : Params) : Obj := ⟨(.type "super"), none, (.fields #[(.ref 153), (.ref 153), (.ref 153)]), #[]⟩
def o146 (P : Params) : Obj := ⟨(.type "builtin_function_or_method"), none, (.fields #[(.builtin "object.__init_subclass__"), (.ref 153)]), #[]⟩
def o147 (P : Params) : Obj := ⟨(.type "tuple"), none, (.seq #[(.ref 57)] 0), #[]⟩
def o148 (P : Params) : Obj := ⟨(.type "builtin_function_or_method"), none, (.fields #[(.builtin "type.__prepare__"), (.type "type")]), #[]⟩
def o149 (P : Params) : Obj := ⟨(.type "dict"), none, (.dict #[E P "__module__" 381 (.str (S "meettasks.errors") 229), E P "__qualname__" 383 (.str (S "BadNames") 382), E P "__firstlineno__" 385 (.int 44 384), E P "__init__" 393 (.ref 169), E P "__static_attributes__" 395 (.ref 170)] 5), #[]⟩
def o150 (P : Params) : Obj := ⟨(.type "tuple"), none, (.seq #[] 0), #[]⟩
def o151 (P : Params) : Obj := ⟨.none, none, (.fields #[(.int 46 0), (.int 4 0), (.ref 168)]), #[]⟩
def o152 (P : Params) : Obj := ⟨(.type "code"), none, (.fields #[(.str (S "BadNames") 376), (.str (S "BadNames") 377), (.str (S "/claim/cut.py") 378), (.int 44 0), (.int 0 0), (.int 0 0), (.int 0 0), (.int 0 0), (.ref 159), (.bool false), (.int 181 0), (.ref 160), .none, .none, .none, .none, (.int 379 0), (.int 44 0), (.str (S "/claim/cut.py") 380)]), #[]⟩
def o153 (P : Params) : Obj := ⟨(.type "frame"), none, .plain, #[(some (.ref 161)), (some (.ref 3)), (some (.ref 158)), none, (some (.str (S "meettasks.errors") 229)), none, (some (.ref 0))]⟩
def o154 (P : Params) : Obj := ⟨(.type "tuple"), none, (.seq #[] 0), #[]⟩
def o155 (P : Params) : Obj := ⟨.none, none, (.fields #[]), #[]⟩
def o156 (P : Params) : Obj := ⟨(.type "tuple"), none, (.seq #[(.str (S "self") 389), (.str (S "index") 390)] 0), #[]⟩
def o157 (P : Params) : Obj := ⟨(.type "tuple"), none, (.seq #[] 0), #[]⟩
def o158 (P : Params) : Obj := ⟨.none, none, (.func ⟨(S "__init__"), (S "BadNames.__init__"), (dM 14 0).params, .stmts (dM 14 0).body, (dM 14 0).scope, 0, [], .none, .none, .none, .none, none, .none, .none, 0⟩), #[]⟩
def o159 (P : Params) : Obj := ⟨(.type "code"), none, (.fields #[(.str (S "__init__") 386), (.str (S "BadNames.__init__") 387), (.str (S "/claim/cut.py") 388), (.int 46 0), (.int 2 0), (.int 0 0), (.int 0 0), (.int 3 0), (.ref 163), (.bool true), (.int 181 0), (.ref 164), .none, (.ref 165), (.ref 166), (.ref 167), (.int 391 0), (.int 46 0), (.str (S "/claim/cut.py") 392)]), #[]⟩
def o160 (P : Params) : Obj := ⟨(.type "function"), none, (.func ⟨(S "__init__"), (S "BadNames.__init__"), (dM 14 0).params, .stmts (dM 14 0).body, (dM 14 0).scope, 3, [], .none, .none, .none, (.str (S "meettasks.errors") 229), none, (.ref 168), .none, 0⟩), #[]⟩
def o161 (P : Params) : Obj := ⟨(.type "tuple"), none, (.seq #[(.str (S "index") 394)] 0), #[]⟩
def o162 (P : Params) : Obj := ⟨(.type "dict"), none, (.dict #[E P "__module__" 381 (.str (S "meettasks.errors") 229), E P "__firstlineno__" 385 (.int 44 384), E P "__init__" 393 (.ref 169), E P "__static_attributes__" 395 (.ref 170), E P "__doc__" 396 .none] 2), #[]⟩
def o163 (P : Params) : Obj := ⟨(.type "type"), none, (.cls ⟨(S "BadNames"), [(.ref 57)], [(.ref 172), (.ref 57), (.type "ValueError"), (.type "Exception"), (.type "BaseException"), (.type "object")], 171, (S "BadNames"), true, [], [], false, none, false⟩), #[(some (.ref 156)), none, (some (.str (S "BadNames") 374)), (some (.str (S "BadNames") 382)), (some (.builtin "ValueError.__new__")), (some (.bool true))]⟩
def o164 (P : Params) : Obj := ⟨(.type "super"), none, (.fields #[(.ref 172), (.ref 172), (.ref 172)]), #[]⟩
def o165 (P : Params) : Obj := ⟨(.type "builtin_function_or_method"), none, (.fields #[(.builtin "object.__init_subclass__"), (.ref 172)]), #[]⟩
def o166 (P : Params) : Obj := ⟨(.type "tuple"), none, (.seq #[] 0), #[]⟩
def o167 (P : Params) : Obj := ⟨.none, none, (.fields #[]), #[]⟩
def o168 (P : Params) : Obj := ⟨(.type "tuple"), none, (.seq #[(.str (S "thing") 404), (.str (S "known") 405), (.str (S "is_whole") 406), (.str (S "value") 407)] 0), #[]⟩
def o169 (P : Params) : Obj := ⟨(.type "tuple"), none, (.seq #[] 0), #[]⟩
def o170 (P : Params) : Obj := ⟨.none, none, (.func ⟨(S "is_lead"), (S "is_lead"), (dT 16).params, .stmts (dT 16).body, (dT 16).scope, 0, [], .none, .none, .none, .none, none, .none, .none, 0⟩), #[]⟩
def o171 (P : Params) : Obj := ⟨(.type "code"), none, (.fields #[(.str (S "is_lead") 401), (.str (S "is_lead") 402), (.str (S "/claim/cut.py") 403), (.int 49 0), (.int 3 0), (.int 0 0), (.int 0 0), (.int 3 0), (.ref 175), (.bool true), (.int 181 0), (.ref 176), .none, (.ref 177), (.ref 178), (.ref 179), (.int 408 0), (.int 49 0), (.str (S "/claim/cut.py") 409)]), #[]⟩
def o172 (P : Params) : Obj := ⟨(.type "function"), none, (.func ⟨(S "is_lead"), (S "is_lead"), (dT 16).params, .stmts (dT 16).body, (dT 16).scope, 3, [], .none, .none, .none, (.str (S "meettasks.things") 399), none, (.ref 180), .none, 0⟩), #[]⟩
def o173 (P : Params) : Obj := ⟨(.type "tuple"), none, (.seq #[] 0), #[]⟩
def o174 (P : Params) : Obj := ⟨.none, none, (.fields #[]), #[]⟩
def o175 (P : Params) : Obj := ⟨(.type "tuple"), none, (.seq #[(.str (S "leads") 414), (.str (S "known") 415), (.str (S "barred") 416), (.str (S "is_whole") 417), (.str (S "name") 418)] 0), #[]⟩
def o176 (P : Params) : Obj := ⟨(.type "tuple"), none, (.seq #[] 0), #[]⟩
def o177 (P : Params) : Obj := ⟨.none, none, (.func ⟨(S "first_wrong"), (S "first_wrong"), (dT 17).params, .stmts (dT 17).body, (dT 17).scope, 0, [], .none, .none, .none, .none, none, .none, .none, 0⟩), #[]⟩
def o178 (P : Params) : Obj := ⟨(.type "code"), none, (.fields #[(.str (S "first_wrong") 411), (.str (S "first_wrong") 412), (.str (S "/claim/cut.py") 413), (.int 56 0), (.int 4 0), (.int 0 0), (.int 0 0), (.int 3 0), (.ref 182), (.bool true), (.int 181 0), (.ref 183), .none, (.ref 184), (.ref 185), (.ref 186), (.int 419 0), (.int 56 0), (.str (S "/claim/cut.py") 420)]), #[]⟩
def o179 (P : Params) : Obj := ⟨(.type "function"), none, (.func ⟨(S "first_wrong"), (S "first_wrong"), (dT 17).params, .stmts (dT 17).body, (dT 17).scope, 3, [], .none, .none, .none, (.str (S "meettasks.things") 399), none, (.ref 187), .none, 0⟩), #[]⟩
def o180 (P : Params) : Obj := ⟨(.type "tuple"), none, (.seq #[] 0), #[]⟩
def o181 (P : Params) : Obj := ⟨.none, none, (.fields #[]), #[]⟩
def o182 (P : Params) : Obj := ⟨.none, none, (.func ⟨(S "ordered"), (S "ordered"), (dT 18).params, .stmts (dT 18).body, (dT 18).scope, 0, [], .none, .none, .none, .none, none, .none, .none, 0⟩), #[]⟩
def o183 (P : Params) : Obj := ⟨(.type "code"), none, (.fields #[(.str (S "ordered") 422), (.str (S "ordered") 423), (.str (S "/claim/cut.py") 424), (.int 63 0), (.int 2 0), (.int 0 0), (.int 0 0), (.int 3 0), (.ref 189), (.bool true), (.int 181 0), (.ref 190), .none, .none, .none, (.ref 191), (.int 425 0), (.int 63 0), (.str (S "/claim/cut.py") 426)]), #[]⟩
def o184 (P : Params) : Obj := ⟨(.type "function"), none, (.func ⟨(S "ordered"), (S "ordered"), (dT 18).params, .stmts (dT 18).body, (dT 18).scope, 3, [], .none, .none, .none, (.str (S "meettasks.things") 399), none, (.ref 192), .none, 0⟩), #[]⟩
def o185 (P : Params) : Obj := ⟨(.type "tuple"), none, (.seq #[] 0), #[]⟩
def o186 (P : Params) : Obj := ⟨(.type "builtin_function_or_method"), none, (.fields #[(.builtin "type.__prepare__"), (.type "type")]), #[]⟩
def o187 (P : Params) : Obj := ⟨(.type "dict"), none, (.dict #[E P "__module__" 435 (.str (S "meettasks.things") 399), E P "__qualname__" 437 (.str (S "Thing") 436), E P "__firstlineno__" 439 (.int 65 438), E P "__init__" 452 (.ref 207), E P "worths" 459 (.ref 214), E P "start" 466 (.ref 221), E P "deeds" 472 (.ref 226), E P "entries" 478 (.ref 231), E P "__eq__" 486 (.ref 238), E P "__static_attributes__" 491 (.ref 239)] 10), #[]⟩
def o188 (P : Params) : Obj := ⟨(.type "tuple"), none, (.seq #[] 0), #[]⟩
def o189 (P : Params) : Obj := ⟨.none, none, (.fields #[(.int 67 0), (.int 4 0), (.ref 206), (.int 82 0), (.int 4 0), (.ref 213), (.int 85 0), (.int 4 0), (.ref 220), (.int 88 0), (.int 4 0), (.ref 225), (.int 91 0), (.int 4 0), (.ref 230), (.int 94 0), (.int 4 0), (.ref 237)]), #[]⟩
def o190 (P : Params) : Obj := ⟨(.type "code"), none, (.fields #[(.str (S "Thing") 430), (.str (S "Thing") 431), (.str (S "/claim/cut.py") 432), (.int 65 0), (.int 0 0), (.int 0 0), (.int 0 0), (.int 0 0), (.ref 197), (.bool false), (.int 181 0), (.ref 198), .none, .none, .none, .none, (.int 433 0), (.int 65 0), (.str (S "/claim/cut.py") 434)]), #[]⟩
def o191 (P : Params) : Obj := ⟨(.type "frame"), none, .plain, #[(some (.ref 199)), (some (.ref 3)), (some (.ref 196)), none, (some (.str (S "meettasks.things") 399)), none, (some (.ref 0))]⟩
def o192 (P : Params) : Obj := ⟨(.type "tuple"), none, (.seq #[] 0), #[]⟩
def o193 (P : Params) : Obj := ⟨.none, none, (.fields #[]), #[]⟩
def o194 (P : Params) : Obj := ⟨(.type "tuple"), none, (.seq #[(.str (S "self") 443), (.str (S "values") 444), (.str (S "start") 445), (.str (S "deeds") 446), (.str (S "entries") 447), (.str (S "index") 448), (.str (S "wrong") 449)] 0), #[]⟩
def o195 (P : Params) : Obj := ⟨(.type "tuple"), none, (.seq #[] 0), #[]⟩
def o196 (P : Params) : Obj := ⟨.none, none, (.func ⟨(S "__init__"), (S "Thing.__init__"), (dM 19 0).params, .stmts (dM 19 0).body, (dM 19 0).scope, 0, [], .none, .none, .none, .none, none, .none, .none, 0⟩), #[]⟩
def o197 (P : Params) : Obj := ⟨(.type "code"), none, (.fields #[(.str (S "__init__") 440), (.str (S "Thing.__init__") 441), (.str (S "/claim/cut.py") 442), (.int 67 0), (.int 5 0), (.int 0 0), (.int 0 0), (.int 3 0), (.ref 201), (.bool true), (.int 181 0), (.ref 202), .none, (.ref 203), (.ref 204), (.ref 205), (.int 450 0), (.int 67 0), (.str (S "/claim/cut.py") 451)]), #[]⟩
def o198 (P : Params) : Obj := ⟨(.type "function"), none, (.func ⟨(S "__init__"), (S "Thing.__init__"), (dM 19 0).params, .stmts (dM 19 0).body, (dM 19 0).scope, 3, [], .none, .none, .none, (.str (S "meettasks.things") 399), none, (.ref 206), .none, 0⟩), #[]⟩
def o199 (P : Params) : Obj := ⟨(.type "tuple"), none, (.seq #[] 0), #[]⟩
def o200 (P : Params) : Obj := ⟨.none, none, (.fields #[]), #[]⟩
def o201 (P : Params) : Obj := ⟨(.type "tuple"), none, (.seq #[(.str (S "self") 456)] 0), #[]⟩
def o202 (P : Params) : Obj := ⟨(.type "tuple"), none, (.seq #[] 0), #[]⟩
def o203 (P : Params) : Obj := ⟨.none, none, (.func ⟨(S "worths"), (S "Thing.worths"), (dM 19 1).params, .stmts (dM 19 1).body, (dM 19 1).scope, 0, [], .none, .none, .none, .none, none, .none, .none, 0⟩), #[]⟩
def o204 (P : Params) : Obj := ⟨(.type "code"), none, (.fields #[(.str (S "worths") 453), (.str (S "Thing.worths") 454), (.str (S "/claim/cut.py") 455), (.int 82 0), (.int 1 0), (.int 0 0), (.int 0 0), (.int 3 0), (.ref 208), (.bool true), (.int 181 0), (.ref 209), .none, (.ref 210), (.ref 211), (.ref 212), (.int 457 0), (.int 82 0), (.str (S "/claim/cut.py") 458)]), #[]⟩
def o205 (P : Params) : Obj := ⟨(.type "function"), none, (.func ⟨(S "worths"), (S "Thing.worths"), (dM 19 1).params, .stmts (dM 19 1).body, (dM 19 1).scope, 3, [], .none, .none, .none, (.str (S "meettasks.things") 399), none, (.ref 213), .none, 0⟩), #[]⟩
def o206 (P : Params) : Obj := ⟨(.type "tuple"), none, (.seq #[] 0), #[]⟩
def o207 (P : Params) : Obj := ⟨.none, none, (.fields #[]), #[]⟩
def o208 (P : Params) : Obj := ⟨(.type "tuple"), none, (.seq #[(.str (S "self") 463)] 0), #[]⟩
def o209 (P : Params) : Obj := ⟨(.type "tuple"), none, (.seq #[] 0), #[]⟩
def o210 (P : Params) : Obj := ⟨.none, none, (.func ⟨(S "start"), (S "Thing.start"), (dM 19 2).params, .stmts (dM 19 2).body, (dM 19 2).scope, 0, [], .none, .none, .none, .none, none, .none, .none, 0⟩), #[]⟩
def o211 (P : Params) : Obj := ⟨(.type "code"), none, (.fields #[(.str (S "start") 460), (.str (S "Thing.start") 461), (.str (S "/claim/cut.py") 462), (.int 85 0), (.int 1 0), (.int 0 0), (.int 0 0), (.int 3 0), (.ref 215), (.bool true), (.int 181 0), (.ref 216), .none, (.ref 217), (.ref 218), (.ref 219), (.int 464 0), (.int 85 0), (.str (S "/claim/cut.py") 465)]), #[]⟩
def o212 (P : Params) : Obj := ⟨(.type "function"), none, (.func ⟨(S "start"), (S "Thing.start"), (dM 19 2).params, .stmts (dM 19 2).body, (dM 19 2).scope, 3, [], .none, .none, .none, (.str (S "meettasks.things") 399), none, (.ref 220), .none, 0⟩), #[]⟩
def o213 (P : Params) : Obj := ⟨(.type "tuple"), none, (.seq #[] 0), #[]⟩
def o214 (P : Params) : Obj := ⟨.none, none, (.fields #[]), #[]⟩
def o215 (P : Params) : Obj := ⟨.none, none, (.func ⟨(S "deeds"), (S "Thing.deeds"), (dM 19 3).params, .stmts (dM 19 3).body, (dM 19 3).scope, 0, [], .none, .none, .none, .none, none, .none, .none, 0⟩), #[]⟩
def o216 (P : Params) : Obj := ⟨(.type "code"), none, (.fields #[(.str (S "deeds") 467), (.str (S "Thing.deeds") 468), (.str (S "/claim/cut.py") 469), (.int 88 0), (.int 1 0), (.int 0 0), (.int 0 0), (.int 3 0), (.ref 222), (.bool true), (.int 181 0), (.ref 223), .none, .none, .none, (.ref 224), (.int 470 0), (.int 88 0), (.str (S "/claim/cut.py") 471)]), #[]⟩
def o217 (P : Params) : Obj := ⟨(.type "function"), none, (.func ⟨(S "deeds"), (S "Thing.deeds"), (dM 19 3).params, .stmts (dM 19 3).body, (dM 19 3).scope, 3, [], .none, .none, .none, (.str (S "meettasks.things") 399), none, (.ref 225), .none, 0⟩), #[]⟩
def o218 (P : Params) : Obj := ⟨(.type "tuple"), none, (.seq #[] 0), #[]⟩
def o219 (P : Params) : Obj := ⟨.none, none, (.fields #[]), #[]⟩
def o220 (P : Params) : Obj := ⟨.none, none, (.func ⟨(S "entries"), (S "Thing.entries"), (dM 19 4).params, .stmts (dM 19 4).body, (dM 19 4).scope, 0, [], .none, .none, .none, .none, none, .none, .none, 0⟩), #[]⟩
def o221 (P : Params) : Obj := ⟨(.type "code"), none, (.fields #[(.str (S "entries") 473), (.str (S "Thing.entries") 474), (.str (S "/claim/cut.py") 475), (.int 91 0), (.int 1 0), (.int 0 0), (.int 0 0), (.int 3 0), (.ref 227), (.bool true), (.int 181 0), (.ref 228), .none, .none, .none, (.ref 229), (.int 476 0), (.int 91 0), (.str (S "/claim/cut.py") 477)]), #[]⟩
def o222 (P : Params) : Obj := ⟨(.type "function"), none, (.func ⟨(S "entries"), (S "Thing.entries"), (dM 19 4).params, .stmts (dM 19 4).body, (dM 19 4).scope, 3, [], .none, .none, .none, (.str (S "meettasks.things") 399), none, (.ref 230), .none, 0⟩), #[]⟩
def o223 (P : Params) : Obj := ⟨(.type "tuple"), none, (.seq #[] 0), #[]⟩
def o224 (P : Params) : Obj := ⟨.none, none, (.fields #[]), #[]⟩
def o225 (P : Params) : Obj := ⟨(.type "tuple"), none, (.seq #[(.str (S "self") 482), (.str (S "other") 483)] 0), #[]⟩
def o226 (P : Params) : Obj := ⟨(.type "tuple"), none, (.seq #[] 0), #[]⟩
def o227 (P : Params) : Obj := ⟨.none, none, (.func ⟨(S "__eq__"), (S "Thing.__eq__"), (dM 19 5).params, .stmts (dM 19 5).body, (dM 19 5).scope, 0, [], .none, .none, .none, .none, none, .none, .none, 0⟩), #[]⟩
def o228 (P : Params) : Obj := ⟨(.type "code"), none, (.fields #[(.str (S "__eq__") 479), (.str (S "Thing.__eq__") 480), (.str (S "/claim/cut.py") 481), (.int 94 0), (.int 2 0), (.int 0 0), (.int 0 0), (.int 3 0), (.ref 232), (.bool true), (.int 181 0), (.ref 233), .none, (.ref 234), (.ref 235), (.ref 236), (.int 484 0), (.int 94 0), (.str (S "/claim/cut.py") 485)]), #[]⟩
def o229 (P : Params) : Obj := ⟨(.type "function"), none, (.func ⟨(S "__eq__"), (S "Thing.__eq__"), (dM 19 5).params, .stmts (dM 19 5).body, (dM 19 5).scope, 3, [], .none, .none, .none, (.str (S "meettasks.things") 399), none, (.ref 237), .none, 0⟩), #[]⟩
def o230 (P : Params) : Obj := ⟨(.type "tuple"), none, (.seq #[(.str (S "kept_deeds") 487), (.str (S "kept_entries") 488), (.str (S "kept_start") 489), (.str (S "kept_values") 490)] 0), #[]⟩
def o231 (P : Params) : Obj := ⟨(.type "dict"), none, (.dict #[E P "__module__" 435 (.str (S "meettasks.things") 399), E P "__firstlineno__" 439 (.int 65 438), E P "__init__" 452 (.ref 207), E P "worths" 459 (.ref 214), E P "start" 466 (.ref 221), E P "deeds" 472 (.ref 226), E P "entries" 478 (.ref 231), E P "__eq__" 486 (.ref 238), E P "__static_attributes__" 491 (.ref 239), E P "__dict__" 493 (.ref 242), E P "__weakref__" 495 (.ref 243), E P "__doc__" 496 .none, E P "__hash__" 497 .none] 5), #[]⟩
def o232 (P : Params) : Obj := ⟨(.type "type"), none, (.cls ⟨(S "Thing"), [(.type "object")], [(.ref 241), (.type "object")], 240, (S "Thing"), true, [], [], false, none, false⟩), #[none, none, (some (.str (S "Thing") 428)), (some (.str (S "Thing") 436)), (some (.builtin "object.__new__")), (some (.bool true))]⟩
def o233 (P : Params) : Obj := ⟨(.type "getset_descriptor"), none, (.fields #[(.str (S "__dict__") 492), (.ref 241), (.builtin "function.__dict__"), (.builtin "function.__dict__#set")]), #[]⟩
def o234 (P : Params) : Obj := ⟨(.type "getset_descriptor"), none, (.fields #[(.str (S "__weakref__") 494), (.ref 241), (.builtin "ExceptionGroup.__weakref__"), .none]), #[]⟩
def o235 (P : Params) : Obj := ⟨(.type "super"), none, (.fields #[(.ref 241), (.ref 241), (.ref 241)]), #[]⟩
def o236 (P : Params) : Obj := ⟨(.type "builtin_function_or_method"), none, (.fields #[(.builtin "object.__init_subclass__"), (.ref 241)]), #[]⟩
def o237 (P : Params) : Obj := ⟨(.type "tuple"), none, (.seq #[] 0), #[]⟩
def o238 (P : Params) : Obj := ⟨.none, none, (.fields #[]), #[]⟩
def o239 (P : Params) : Obj := ⟨.none, none, (.func ⟨(S "lots_of"), (S "lots_of"), (dT 21).params, .stmts (dT 21).body, (dT 21).scope, 0, [], .none, .none, .none, .none, none, .none, .none, 0⟩), #[]⟩
def o240 (P : Params) : Obj := ⟨(.type "code"), none, (.fields #[(.str (S "lots_of") 502), (.str (S "lots_of") 503), (.str (S "/claim/cut.py") 504), (.int 99 0), (.int 1 0), (.int 0 0), (.int 0 0), (.int 3 0), (.ref 246), (.bool true), (.int 181 0), (.ref 247), .none, .none, .none, (.ref 248), (.int 505 0), (.int 99 0), (.str (S "/claim/cut.py") 506)]), #[]⟩
def o241 (P : Params) : Obj := ⟨(.type "function"), none, (.func ⟨(S "lots_of"), (S "lots_of"), (dT 21).params, .stmts (dT 21).body, (dT 21).scope, 3, [], .none, .none, .none, (.str (S "meettasks.marks") 500), none, (.ref 249), .none, 0⟩), #[]⟩
def o242 (P : Params) : Obj := ⟨(.type "tuple"), none, (.seq #[] 0), #[]⟩
def o243 (P : Params) : Obj := ⟨.none, none, (.fields #[]), #[]⟩
def o244 (P : Params) : Obj := ⟨(.type "tuple"), none, (.seq #[(.str (S "thing") 513), (.str (S "entry") 514)] 0), #[]⟩
def o245 (P : Params) : Obj := ⟨(.type "tuple"), none, (.seq #[] 0), #[]⟩
def o246 (P : Params) : Obj := ⟨.none, none, (.func ⟨(S "check_entry"), (S "check_entry"), (dT 23).params, .stmts (dT 23).body, (dT 23).scope, 0, [], .none, .none, .none, .none, none, .none, .none, 0⟩), #[]⟩
def o247 (P : Params) : Obj := ⟨(.type "code"), none, (.fields #[(.str (S "check_entry") 510), (.str (S "check_entry") 511), (.str (S "/claim/cut.py") 512), (.int 109 0), (.int 2 0), (.int 0 0), (.int 0 0), (.int 3 0), (.ref 251), (.bool true), (.int 181 0), (.ref 252), .none, (.ref 253), (.ref 254), (.ref 255), (.int 515 0), (.int 109 0), (.str (S "/claim/cut.py") 516)]), #[]⟩
def o248 (P : Params) : Obj := ⟨(.type "function"), none, (.func ⟨(S "check_entry"), (S "check_entry"), (dT 23).params, .stmts (dT 23).body, (dT 23).scope, 3, [], .none, .none, .none, (.str (S "meettasks.uses") 508), none, (.ref 256), .none, 0⟩), #[]⟩
def o249 (P : Params) : Obj := ⟨(.type "tuple"), none, (.seq #[] 0), #[]⟩
def o250 (P : Params) : Obj := ⟨.none, none, (.fields #[]), #[]⟩
def o251 (P : Params) : Obj := ⟨(.type "tuple"), none, (.seq #[(.str (S "thing") 521)] 0), #[]⟩
def o252 (P : Params) : Obj := ⟨(.type "tuple"), none, (.seq #[] 0), #[]⟩
def o253 (P : Params) : Obj := ⟨.none, none, (.func ⟨(S "names_of"), (S "names_of"), (dT 24).params, .stmts (dT 24).body, (dT 24).scope, 0, [], .none, .none, .none, .none, none, .none, .none, 0⟩), #[]⟩
def o254 (P : Params) : Obj := ⟨(.type "code"), none, (.fields #[(.str (S "names_of") 518), (.str (S "names_of") 519), (.str (S "/claim/cut.py") 520), (.int 112 0), (.int 1 0), (.int 0 0), (.int 0 0), (.int 3 0), (.ref 258), (.bool true), (.int 181 0), (.ref 259), .none, (.ref 260), (.ref 261), (.ref 262), (.int 522 0), (.int 112 0), (.str (S "/claim/cut.py") 523)]), #[]⟩
def o255 (P : Params) : Obj := ⟨(.type "function"), none, (.func ⟨(S "names_of"), (S "names_of"), (dT 24).params, .stmts (dT 24).body, (dT 24).scope, 3, [], .none, .none, .none, (.str (S "meettasks.uses") 508), none, (.ref 263), .none, 0⟩), #[]⟩
def o256 (P : Params) : Obj := ⟨(.type "tuple"), none, (.seq #[] 0), #[]⟩
def o257 (P : Params) : Obj := ⟨.none, none, (.fields #[]), #[]⟩
def o258 (P : Params) : Obj := ⟨.none, none, (.func ⟨(S "checked_names"), (S "checked_names"), (dT 25).params, .stmts (dT 25).body, (dT 25).scope, 0, [], .none, .none, .none, .none, none, .none, .none, 0⟩), #[]⟩
def o259 (P : Params) : Obj := ⟨(.type "code"), none, (.fields #[(.str (S "checked_names") 525), (.str (S "checked_names") 526), (.str (S "/claim/cut.py") 527), (.int 114 0), (.int 2 0), (.int 0 0), (.int 0 0), (.int 3 0), (.ref 265), (.bool true), (.int 181 0), (.ref 266), .none, .none, .none, (.ref 267), (.int 528 0), (.int 114 0), (.str (S "/claim/cut.py") 529)]), #[]⟩
def o260 (P : Params) : Obj := ⟨(.type "function"), none, (.func ⟨(S "checked_names"), (S "checked_names"), (dT 25).params, .stmts (dT 25).body, (dT 25).scope, 3, [], .none, .none, .none, (.str (S "meettasks.uses") 508), none, (.ref 268), .none, 0⟩), #[]⟩
def o261 (P : Params) : Obj := ⟨(.type "tuple"), none, (.seq #[] 0), #[]⟩
def o262 (P : Params) : Obj := ⟨.none, none, (.fields #[]), #[]⟩
def o263 (P : Params) : Obj := ⟨(.type "tuple"), none, (.seq #[(.str (S "thing") 534), (.str (S "worth") 535), (.str (S "name") 536)] 0), #[]⟩
def o264 (P : Params) : Obj := ⟨(.type "tuple"), none, (.seq #[] 0), #[]⟩
def o265 (P : Params) : Obj := ⟨.none, none, (.func ⟨(S "led_to"), (S "led_to"), (dT 26).params, .stmts (dT 26).body, (dT 26).scope, 0, [], .none, .none, .none, .none, none, .none, .none, 0⟩), #[]⟩
def o266 (P : Params) : Obj := ⟨(.type "code"), none, (.fields #[(.str (S "led_to") 531), (.str (S "led_to") 532), (.str (S "/claim/cut.py") 533), (.int 123 0), (.int 3 0), (.int 0 0), (.int 0 0), (.int 3 0), (.ref 270), (.bool true), (.int 181 0), (.ref 271), .none, (.ref 272), (.ref 273), (.ref 274), (.int 537 0), (.int 123 0), (.str (S "/claim/cut.py") 538)]), #[]⟩
def o267 (P : Params) : Obj := ⟨(.type "function"), none, (.func ⟨(S "led_to"), (S "led_to"), (dT 26).params, .stmts (dT 26).body, (dT 26).scope, 3, [], .none, .none, .none, (.str (S "meettasks.uses") 508), none, (.ref 275), .none, 0⟩), #[]⟩
def o268 (P : Params) : Obj := ⟨(.type "tuple"), none, (.seq #[] 0), #[]⟩
def o269 (P : Params) : Obj := ⟨.none, none, (.fields #[]), #[]⟩
def o270 (P : Params) : Obj := ⟨(.type "tuple"), none, (.seq #[(.str (S "thing") 543), (.str (S "begin") 544), (.str (S "names") 545), (.str (S "is_let") 546), (.str (S "found") 547), (.str (S "waiting") 548), (.str (S "later") 549), (.str (S "worth") 550), (.str (S "name") 551), (.str (S "goal") 552)] 0), #[]⟩
def o271 (P : Params) : Obj := ⟨(.type "tuple"), none, (.seq #[] 0), #[]⟩
def o272 (P : Params) : Obj := ⟨.none, none, (.func ⟨(S "rows_from"), (S "rows_from"), (dT 27).params, .stmts (dT 27).body, (dT 27).scope, 0, [], .none, .none, .none, .none, none, .none, .none, 0⟩), #[]⟩
def o273 (P : Params) : Obj := ⟨(.type "code"), none, (.fields #[(.str (S "rows_from") 540), (.str (S "rows_from") 541), (.str (S "/claim/cut.py") 542), (.int 127 0), (.int 4 0), (.int 0 0), (.int 0 0), (.int 3 0), (.ref 277), (.bool true), (.int 181 0), (.ref 278), .none, (.ref 279), (.ref 280), (.ref 281), (.int 553 0), (.int 127 0), (.str (S "/claim/cut.py") 554)]), #[]⟩
def o274 (P : Params) : Obj := ⟨(.type "function"), none, (.func ⟨(S "rows_from"), (S "rows_from"), (dT 27).params, .stmts (dT 27).body, (dT 27).scope, 3, [], .none, .none, .none, (.str (S "meettasks.uses") 508), none, (.ref 282), .none, 0⟩), #[]⟩
def o275 (P : Params) : Obj := ⟨(.type "tuple"), none, (.seq #[] 0), #[]⟩
def o276 (P : Params) : Obj := ⟨.none, none, (.fields #[]), #[]⟩
def o277 (P : Params) : Obj := ⟨(.type "tuple"), none, (.seq #[(.str (S "thing") 559), (.str (S "entry") 560), (.str (S "names") 561), (.str (S "some") 562), (.str (S "found") 563), (.str (S "worth") 564), (.str (S "way") 565)] 0), #[]⟩
def o278 (P : Params) : Obj := ⟨(.type "tuple"), none, (.seq #[] 0), #[]⟩
def o279 (P : Params) : Obj := ⟨.none, none, (.func ⟨(S "first_open"), (S "first_open"), (dT 28).params, .stmts (dT 28).body, (dT 28).scope, 0, [], .none, .none, .none, .none, none, .none, .none, 0⟩), #[]⟩
def o280 (P : Params) : Obj := ⟨(.type "code"), none, (.fields #[(.str (S "first_open") 556), (.str (S "first_open") 557), (.str (S "/claim/cut.py") 558), (.int 139 0), (.int 3 0), (.int 0 0), (.int 0 0), (.int 3 0), (.ref 284), (.bool true), (.int 181 0), (.ref 285), .none, (.ref 286), (.ref 287), (.ref 288), (.int 566 0), (.int 139 0), (.str (S "/claim/cut.py") 567)]), #[]⟩
def o281 (P : Params) : Obj := ⟨(.type "function"), none, (.func ⟨(S "first_open"), (S "first_open"), (dT 28).params, .stmts (dT 28).body, (dT 28).scope, 3, [], .none, .none, .none, (.str (S "meettasks.uses") 508), none, (.ref 289), .none, 0⟩), #[]⟩
def o282 (P : Params) : Obj := ⟨(.type "tuple"), none, (.seq #[] 0), #[]⟩
def o283 (P : Params) : Obj := ⟨.none, none, (.fields #[]), #[]⟩
def o284 (P : Params) : Obj := ⟨(.type "tuple"), none, (.seq #[(.str (S "thing") 572), (.str (S "entry") 573), (.str (S "begin") 574)] 0), #[]⟩
def o285 (P : Params) : Obj := ⟨(.type "tuple"), none, (.seq #[(.str (S "thing") 575), (.str (S "entry") 576)] 0), #[]⟩
def o286 (P : Params) : Obj := ⟨.none, none, (.func ⟨(S "shut_rows"), (S "shut_rows"), (dT 29).params, .stmts (dT 29).body, (dT 29).scope, 0, [], .none, .none, .none, .none, none, .none, .none, 0⟩), #[]⟩
def o287 (P : Params) : Obj := ⟨(.type "code"), none, (.fields #[(.str (S "shut_rows") 569), (.str (S "shut_rows") 570), (.str (S "/claim/cut.py") 571), (.int 147 0), (.int 3 0), (.int 0 0), (.int 0 0), (.int 3 0), (.ref 291), (.bool true), (.int 181 0), (.ref 292), .none, (.ref 293), (.ref 294), (.ref 295), (.int 577 0), (.int 147 0), (.str (S "/claim/cut.py") 578)]), #[]⟩
def o288 (P : Params) : Obj := ⟨(.type "function"), none, (.func ⟨(S "shut_rows"), (S "shut_rows"), (dT 29).params, .stmts (dT 29).body, (dT 29).scope, 3, [], .none, .none, .none, (.str (S "meettasks.uses") 508), none, (.ref 296), .none, 0⟩), #[]⟩
def o289 (P : Params) : Obj := ⟨(.type "tuple"), none, (.seq #[] 0), #[]⟩
def o290 (P : Params) : Obj := ⟨.none, none, (.fields #[]), #[]⟩
def o291 (P : Params) : Obj := ⟨.none, none, (.func ⟨(S "uses_within"), (S "uses_within"), (dT 30).params, .stmts (dT 30).body, (dT 30).scope, 0, [], .none, .none, .none, .none, none, .none, .none, 0⟩), #[]⟩
def o292 (P : Params) : Obj := ⟨(.type "code"), none, (.fields #[(.str (S "uses_within") 580), (.str (S "uses_within") 581), (.str (S "/claim/cut.py") 582), (.int 149 0), (.int 3 0), (.int 0 0), (.int 0 0), (.int 3 0), (.ref 298), (.bool true), (.int 181 0), (.ref 299), .none, .none, .none, (.ref 300), (.int 583 0), (.int 149 0), (.str (S "/claim/cut.py") 584)]), #[]⟩
def o293 (P : Params) : Obj := ⟨(.type "function"), none, (.func ⟨(S "uses_within"), (S "uses_within"), (dT 30).params, .stmts (dT 30).body, (dT 30).scope, 3, [], .none, .none, .none, (.str (S "meettasks.uses") 508), none, (.ref 301), .none, 0⟩), #[]⟩
def o294 (P : Params) : Obj := ⟨(.type "tuple"), none, (.seq #[] 0), #[]⟩
def o295 (P : Params) : Obj := ⟨.none, none, (.fields #[]), #[]⟩
def o296 (P : Params) : Obj := ⟨.none, none, (.func ⟨(S "shut_pieces"), (S "shut_pieces"), (dT 31).params, .stmts (dT 31).body, (dT 31).scope, 0, [], .none, .none, .none, .none, none, .none, .none, 0⟩), #[]⟩
def o297 (P : Params) : Obj := ⟨(.type "code"), none, (.fields #[(.str (S "shut_pieces") 586), (.str (S "shut_pieces") 587), (.str (S "/claim/cut.py") 588), (.int 156 0), (.int 2 0), (.int 0 0), (.int 0 0), (.int 3 0), (.ref 303), (.bool true), (.int 181 0), (.ref 304), .none, .none, .none, (.ref 305), (.int 589 0), (.int 156 0), (.str (S "/claim/cut.py") 590)]), #[]⟩
def o298 (P : Params) : Obj := ⟨(.type "function"), none, (.func ⟨(S "shut_pieces"), (S "shut_pieces"), (dT 31).params, .stmts (dT 31).body, (dT 31).scope, 3, [], .none, .none, .none, (.str (S "meettasks.uses") 508), none, (.ref 306), .none, 0⟩), #[]⟩
def o299 (P : Params) : Obj := ⟨(.type "tuple"), none, (.seq #[] 0), #[]⟩
def o300 (P : Params) : Obj := ⟨.none, none, (.fields #[]), #[]⟩
def o301 (P : Params) : Obj := ⟨.none, none, (.func ⟨(S "ring_along"), (S "ring_along"), (dT 32).params, .stmts (dT 32).body, (dT 32).scope, 0, [], .none, .none, .none, .none, none, .none, .none, 0⟩), #[]⟩
def o302 (P : Params) : Obj := ⟨(.type "code"), none, (.fields #[(.str (S "ring_along") 592), (.str (S "ring_along") 593), (.str (S "/claim/cut.py") 594), (.int 165 0), (.int 4 0), (.int 0 0), (.int 0 0), (.int 3 0), (.ref 308), (.bool true), (.int 181 0), (.ref 309), .none, .none, .none, (.ref 310), (.int 595 0), (.int 165 0), (.str (S "/claim/cut.py") 596)]), #[]⟩
def o303 (P : Params) : Obj := ⟨(.type "function"), none, (.func ⟨(S "ring_along"), (S "ring_along"), (dT 32).params, .stmts (dT 32).body, (dT 32).scope, 3, [], .none, .none, .none, (.str (S "meettasks.uses") 508), none, (.ref 311), .none, 0⟩), #[]⟩
def o304 (P : Params) : Obj := ⟨(.type "tuple"), none, (.seq #[] 0), #[]⟩
def o305 (P : Params) : Obj := ⟨.none, none, (.fields #[]), #[]⟩
def o306 (P : Params) : Obj := ⟨.none, none, (.func ⟨(S "shut_ring"), (S "shut_ring"), (dT 33).params, .stmts (dT 33).body, (dT 33).scope, 0, [], .none, .none, .none, .none, none, .none, .none, 0⟩), #[]⟩
def o307 (P : Params) : Obj := ⟨(.type "code"), none, (.fields #[(.str (S "shut_ring") 598), (.str (S "shut_ring") 599), (.str (S "/claim/cut.py") 600), (.int 173 0), (.int 3 0), (.int 0 0), (.int 0 0), (.int 3 0), (.ref 313), (.bool true), (.int 181 0), (.ref 314), .none, .none, .none, (.ref 315), (.int 601 0), (.int 173 0), (.str (S "/claim/cut.py") 602)]), #[]⟩
def o308 (P : Params) : Obj := ⟨(.type "function"), none, (.func ⟨(S "shut_ring"), (S "shut_ring"), (dT 33).params, .stmts (dT 33).body, (dT 33).scope, 3, [], .none, .none, .none, (.str (S "meettasks.uses") 508), none, (.ref 316), .none, 0⟩), #[]⟩
def o309 (P : Params) : Obj := ⟨(.type "tuple"), none, (.seq #[] 0), #[]⟩
def o310 (P : Params) : Obj := ⟨.none, none, (.fields #[]), #[]⟩
def o311 (P : Params) : Obj := ⟨(.type "tuple"), none, (.seq #[(.str (S "thing") 607), (.str (S "begin") 608), (.str (S "uses") 609), (.str (S "found") 610), (.str (S "name") 611), (.str (S "goal") 612)] 0), #[]⟩
def o312 (P : Params) : Obj := ⟨(.type "tuple"), none, (.seq #[] 0), #[]⟩
def o313 (P : Params) : Obj := ⟨.none, none, (.func ⟨(S "goes_along"), (S "goes_along"), (dT 34).params, .stmts (dT 34).body, (dT 34).scope, 0, [], .none, .none, .none, .none, none, .none, .none, 0⟩), #[]⟩
def o314 (P : Params) : Obj := ⟨(.type "code"), none, (.fields #[(.str (S "goes_along") 604), (.str (S "goes_along") 605), (.str (S "/claim/cut.py") 606), (.int 181 0), (.int 3 0), (.int 0 0), (.int 0 0), (.int 3 0), (.ref 318), (.bool true), (.int 181 0), (.ref 319), .none, (.ref 320), (.ref 321), (.ref 322), (.int 613 0), (.int 181 0), (.str (S "/claim/cut.py") 614)]), #[]⟩
def o315 (P : Params) : Obj := ⟨(.type "function"), none, (.func ⟨(S "goes_along"), (S "goes_along"), (dT 34).params, .stmts (dT 34).body, (dT 34).scope, 3, [], .none, .none, .none, (.str (S "meettasks.uses") 508), none, (.ref 323), .none, 0⟩), #[]⟩
def o316 (P : Params) : Obj := ⟨(.type "tuple"), none, (.seq #[] 0), #[]⟩
def o317 (P : Params) : Obj := ⟨.none, none, (.fields #[]), #[]⟩
def o318 (P : Params) : Obj := ⟨.none, none, (.func ⟨(S "is_shut_ring"), (S "is_shut_ring"), (dT 35).params, .stmts (dT 35).body, (dT 35).scope, 0, [], .none, .none, .none, .none, none, .none, .none, 0⟩), #[]⟩
def o319 (P : Params) : Obj := ⟨(.type "code"), none, (.fields #[(.str (S "is_shut_ring") 616), (.str (S "is_shut_ring") 617), (.str (S "/claim/cut.py") 618), (.int 189 0), (.int 4 0), (.int 0 0), (.int 0 0), (.int 3 0), (.ref 325), (.bool true), (.int 181 0), (.ref 326), .none, .none, .none, (.ref 327), (.int 619 0), (.int 189 0), (.str (S "/claim/cut.py") 620)]), #[]⟩
def o320 (P : Params) : Obj := ⟨(.type "function"), none, (.func ⟨(S "is_shut_ring"), (S "is_shut_ring"), (dT 35).params, .stmts (dT 35).body, (dT 35).scope, 3, [], .none, .none, .none, (.str (S "meettasks.uses") 508), none, (.ref 328), .none, 0⟩), #[]⟩
def o321 (P : Params) : Obj := ⟨(.type "tuple"), none, (.seq #[] 0), #[]⟩
def o322 (P : Params) : Obj := ⟨.none, none, (.fields #[]), #[]⟩
def o323 (P : Params) : Obj := ⟨.none, none, (.func ⟨(S "is_within"), (S "is_within"), (dT 36).params, .stmts (dT 36).body, (dT 36).scope, 0, [], .none, .none, .none, .none, none, .none, .none, 0⟩), #[]⟩
def o324 (P : Params) : Obj := ⟨(.type "code"), none, (.fields #[(.str (S "is_within") 622), (.str (S "is_within") 623), (.str (S "/claim/cut.py") 624), (.int 199 0), (.int 2 0), (.int 0 0), (.int 0 0), (.int 3 0), (.ref 330), (.bool true), (.int 181 0), (.ref 331), .none, .none, .none, (.ref 332), (.int 625 0), (.int 199 0), (.str (S "/claim/cut.py") 626)]), #[]⟩
def o325 (P : Params) : Obj := ⟨(.type "function"), none, (.func ⟨(S "is_within"), (S "is_within"), (dT 36).params, .stmts (dT 36).body, (dT 36).scope, 3, [], .none, .none, .none, (.str (S "meettasks.uses") 508), none, (.ref 333), .none, 0⟩), #[]⟩
def o326 (P : Params) : Obj := ⟨(.type "tuple"), none, (.seq #[] 0), #[]⟩
def o327 (P : Params) : Obj := ⟨.none, none, (.fields #[]), #[]⟩
def o328 (P : Params) : Obj := ⟨.none, none, (.func ⟨(S "idle_lots"), (S "idle_lots"), (dT 37).params, .stmts (dT 37).body, (dT 37).scope, 0, [], .none, .none, .none, .none, none, .none, .none, 0⟩), #[]⟩
def o329 (P : Params) : Obj := ⟨(.type "code"), none, (.fields #[(.str (S "idle_lots") 628), (.str (S "idle_lots") 629), (.str (S "/claim/cut.py") 630), (.int 201 0), (.int 2 0), (.int 0 0), (.int 0 0), (.int 3 0), (.ref 335), (.bool true), (.int 181 0), (.ref 336), .none, .none, .none, (.ref 337), (.int 631 0), (.int 201 0), (.str (S "/claim/cut.py") 632)]), #[]⟩
def o330 (P : Params) : Obj := ⟨(.type "function"), none, (.func ⟨(S "idle_lots"), (S "idle_lots"), (dT 37).params, .stmts (dT 37).body, (dT 37).scope, 3, [], .none, .none, .none, (.str (S "meettasks.uses") 508), none, (.ref 338), .none, 0⟩), #[]⟩
def o331 (P : Params) : Obj := ⟨(.type "tuple"), none, (.seq #[] 0), #[]⟩
def o332 (P : Params) : Obj := ⟨.none, none, (.fields #[]), #[]⟩
def o333 (P : Params) : Obj := ⟨.none, none, (.func ⟨(S "helpers_of"), (S "helpers_of"), (dT 38).params, .stmts (dT 38).body, (dT 38).scope, 0, [], .none, .none, .none, .none, none, .none, .none, 0⟩), #[]⟩
def o334 (P : Params) : Obj := ⟨(.type "code"), none, (.fields #[(.str (S "helpers_of") 634), (.str (S "helpers_of") 635), (.str (S "/claim/cut.py") 636), (.int 206 0), (.int 2 0), (.int 0 0), (.int 0 0), (.int 3 0), (.ref 340), (.bool true), (.int 181 0), (.ref 341), .none, .none, .none, (.ref 342), (.int 637 0), (.int 206 0), (.str (S "/claim/cut.py") 638)]), #[]⟩
def o335 (P : Params) : Obj := ⟨(.type "function"), none, (.func ⟨(S "helpers_of"), (S "helpers_of"), (dT 38).params, .stmts (dT 38).body, (dT 38).scope, 3, [], .none, .none, .none, (.str (S "meettasks.uses") 508), none, (.ref 343), .none, 0⟩), #[]⟩
def o336 (P : Params) : Obj := ⟨(.type "tuple"), none, (.seq #[] 0), #[]⟩
def o337 (P : Params) : Obj := ⟨.none, none, (.fields #[]), #[]⟩
def o338 (P : Params) : Obj := ⟨(.type "tuple"), none, (.seq #[(.str (S "_law_script") 645)] 0), #[]⟩
def o339 (P : Params) : Obj := ⟨(.type "tuple"), none, (.seq #[] 0), #[]⟩
def o340 (P : Params) : Obj := ⟨.none, none, (.func ⟨(S "_law_spring"), (S "_law_spring"), (dT 40).params, .stmts (dT 40).body, (dT 40).scope, 0, [], .none, .none, .none, .none, none, .none, .none, 0⟩), #[]⟩
def o341 (P : Params) : Obj := ⟨(.type "code"), none, (.fields #[(.str (S "_law_spring") 642), (.str (S "_law_spring") 643), (.str (S "/claim/cut.py") 644), (.int 213 0), (.int 1 0), (.int 0 0), (.int 0 0), (.int 3 0), (.ref 345), (.bool true), (.int 181 0), (.ref 346), .none, (.ref 347), (.ref 348), (.ref 349), (.int 646 0), (.int 213 0), (.str (S "/claim/cut.py") 647)]), #[]⟩
def o342 (P : Params) : Obj := ⟨(.type "function"), none, (.func ⟨(S "_law_spring"), (S "_law_spring"), (dT 40).params, .stmts (dT 40).body, (dT 40).scope, 3, [], .none, .none, .none, (.str (S "law_meettasks_k35_first_opened") 640), none, (.ref 350), .none, 0⟩), #[]⟩
def o343 (P : Params) : Obj := ⟨(.type "tuple"), none, (.seq #[] 0), #[]⟩
def o344 (P : Params) : Obj := ⟨.none, none, (.fields #[]), #[]⟩
def o345 (P : Params) : Obj := ⟨(.type "tuple"), none, (.seq #[(.str (S "_law_spring_here") 652), (.str (S "_law_many") 653), (.str (S "_law_cell") 654), (.str (S "_law_digit") 655), (.str (S "_law_mixed") 656)] 0), #[]⟩
def o346 (P : Params) : Obj := ⟨(.type "tuple"), none, (.seq #[] 0), #[]⟩
def o347 (P : Params) : Obj := ⟨.none, none, (.func ⟨(S "_law_take"), (S "_law_take"), (dT 41).params, .stmts (dT 41).body, (dT 41).scope, 0, [], .none, .none, .none, .none, none, .none, .none, 0⟩), #[]⟩
def o348 (P : Params) : Obj := ⟨(.type "code"), none, (.fields #[(.str (S "_law_take") 649), (.str (S "_law_take") 650), (.str (S "/claim/cut.py") 651), (.int 215 0), (.int 2 0), (.int 0 0), (.int 0 0), (.int 3 0), (.ref 352), (.bool true), (.int 181 0), (.ref 353), .none, (.ref 354), (.ref 355), (.ref 356), (.int 657 0), (.int 215 0), (.str (S "/claim/cut.py") 658)]), #[]⟩
def o349 (P : Params) : Obj := ⟨(.type "function"), none, (.func ⟨(S "_law_take"), (S "_law_take"), (dT 41).params, .stmts (dT 41).body, (dT 41).scope, 3, [], .none, .none, .none, (.str (S "law_meettasks_k35_first_opened") 640), none, (.ref 357), .none, 0⟩), #[]⟩
def o350 (P : Params) : Obj := ⟨(.type "tuple"), none, (.seq #[] 0), #[]⟩
def o351 (P : Params) : Obj := ⟨.none, none, (.fields #[]), #[]⟩
def o352 (P : Params) : Obj := ⟨(.type "tuple"), none, (.seq #[(.str (S "_law_spring_here") 663), (.str (S "_law_things") 664)] 0), #[]⟩
def o353 (P : Params) : Obj := ⟨(.type "tuple"), none, (.seq #[] 0), #[]⟩
def o354 (P : Params) : Obj := ⟨.none, none, (.func ⟨(S "_law_one"), (S "_law_one"), (dT 42).params, .stmts (dT 42).body, (dT 42).scope, 0, [], .none, .none, .none, .none, none, .none, .none, 0⟩), #[]⟩
def o355 (P : Params) : Obj := ⟨(.type "code"), none, (.fields #[(.str (S "_law_one") 660), (.str (S "_law_one") 661), (.str (S "/claim/cut.py") 662), (.int 227 0), (.int 2 0), (.int 0 0), (.int 0 0), (.int 3 0), (.ref 359), (.bool true), (.int 181 0), (.ref 360), .none, (.ref 361), (.ref 362), (.ref 363), (.int 665 0), (.int 227 0), (.str (S "/claim/cut.py") 666)]), #[]⟩
def o356 (P : Params) : Obj := ⟨(.type "function"), none, (.func ⟨(S "_law_one"), (S "_law_one"), (dT 42).params, .stmts (dT 42).body, (dT 42).scope, 3, [], .none, .none, .none, (.str (S "law_meettasks_k35_first_opened") 640), none, (.ref 364), .none, 0⟩), #[]⟩
def o357 (P : Params) : Obj := ⟨(.type "tuple"), none, (.seq #[] 0), #[]⟩
def o358 (P : Params) : Obj := ⟨.none, none, (.fields #[]), #[]⟩
def o359 (P : Params) : Obj := ⟨.none, none, (.func ⟨(S "_law_mix"), (S "_law_mix"), (dT 43).params, .stmts (dT 43).body, (dT 43).scope, 0, [], .none, .none, .none, .none, none, .none, .none, 0⟩), #[]⟩
def o360 (P : Params) : Obj := ⟨(.type "code"), none, (.fields #[(.str (S "_law_mix") 668), (.str (S "_law_mix") 669), (.str (S "/claim/cut.py") 670), (.int 229 0), (.int 2 0), (.int 0 0), (.int 0 0), (.int 3 0), (.ref 366), (.bool true), (.int 181 0), (.ref 367), .none, .none, .none, (.ref 368), (.int 671 0), (.int 229 0), (.str (S "/claim/cut.py") 672)]), #[]⟩
def o361 (P : Params) : Obj := ⟨(.type "function"), none, (.func ⟨(S "_law_mix"), (S "_law_mix"), (dT 43).params, .stmts (dT 43).body, (dT 43).scope, 3, [], .none, .none, .none, (.str (S "law_meettasks_k35_first_opened") 640), none, (.ref 369), .none, 0⟩), #[]⟩
def o362 (P : Params) : Obj := ⟨(.type "tuple"), none, (.seq #[] 0), #[]⟩
def o363 (P : Params) : Obj := ⟨.none, none, (.fields #[]), #[]⟩
def o364 (P : Params) : Obj := ⟨.none, none, (.func ⟨(S "_law_thing"), (S "_law_thing"), (dT 44).params, .stmts (dT 44).body, (dT 44).scope, 0, [], .none, .none, .none, .none, none, .none, .none, 0⟩), #[]⟩
def o365 (P : Params) : Obj := ⟨(.type "code"), none, (.fields #[(.str (S "_law_thing") 674), (.str (S "_law_thing") 675), (.str (S "/claim/cut.py") 676), (.int 232 0), (.int 3 0), (.int 0 0), (.int 0 0), (.int 3 0), (.ref 371), (.bool true), (.int 181 0), (.ref 372), .none, .none, .none, (.ref 373), (.int 677 0), (.int 232 0), (.str (S "/claim/cut.py") 678)]), #[]⟩
def o366 (P : Params) : Obj := ⟨(.type "function"), none, (.func ⟨(S "_law_thing"), (S "_law_thing"), (dT 44).params, .stmts (dT 44).body, (dT 44).scope, 3, [], .none, .none, .none, (.str (S "law_meettasks_k35_first_opened") 640), none, (.ref 374), .none, 0⟩), #[]⟩
def o367 (P : Params) : Obj := ⟨(.type "tuple"), none, (.seq #[] 0), #[]⟩
def o368 (P : Params) : Obj := ⟨.none, none, (.fields #[]), #[]⟩
def o369 (P : Params) : Obj := ⟨(.type "tuple"), none, (.seq #[(.str (S "_law_parts") 683)] 0), #[]⟩
def o370 (P : Params) : Obj := ⟨(.type "tuple"), none, (.seq #[] 0), #[]⟩
def o371 (P : Params) : Obj := ⟨.none, none, (.func ⟨(S "_law_made"), (S "_law_made"), (dT 45).params, .stmts (dT 45).body, (dT 45).scope, 0, [], .none, .none, .none, .none, none, .none, .none, 0⟩), #[]⟩
def o372 (P : Params) : Obj := ⟨(.type "code"), none, (.fields #[(.str (S "_law_made") 680), (.str (S "_law_made") 681), (.str (S "/claim/cut.py") 682), (.int 240 0), (.int 1 0), (.int 0 0), (.int 0 0), (.int 3 0), (.ref 376), (.bool true), (.int 181 0), (.ref 377), .none, (.ref 378), (.ref 379), (.ref 380), (.int 684 0), (.int 240 0), (.str (S "/claim/cut.py") 685)]), #[]⟩
def o373 (P : Params) : Obj := ⟨(.type "function"), none, (.func ⟨(S "_law_made"), (S "_law_made"), (dT 45).params, .stmts (dT 45).body, (dT 45).scope, 3, [], .none, .none, .none, (.str (S "law_meettasks_k35_first_opened") 640), none, (.ref 381), .none, 0⟩), #[]⟩
def o374 (P : Params) : Obj := ⟨(.type "tuple"), none, (.seq #[] 0), #[]⟩
def o375 (P : Params) : Obj := ⟨.none, none, (.fields #[]), #[]⟩
def o376 (P : Params) : Obj := ⟨(.type "tuple"), none, (.seq #[(.str (S "_law_parts") 690)] 0), #[]⟩
def o377 (P : Params) : Obj := ⟨(.type "tuple"), none, (.seq #[] 0), #[]⟩
def o378 (P : Params) : Obj := ⟨.none, none, (.func ⟨(S "_law_names"), (S "_law_names"), (dT 46).params, .stmts (dT 46).body, (dT 46).scope, 0, [], .none, .none, .none, .none, none, .none, .none, 0⟩), #[]⟩
def o379 (P : Params) : Obj := ⟨(.type "code"), none, (.fields #[(.str (S "_law_names") 687), (.str (S "_law_names") 688), (.str (S "/claim/cut.py") 689), (.int 242 0), (.int 1 0), (.int 0 0), (.int 0 0), (.int 3 0), (.ref 383), (.bool true), (.int 181 0), (.ref 384), .none, (.ref 385), (.ref 386), (.ref 387), (.int 691 0), (.int 242 0), (.str (S "/claim/cut.py") 692)]), #[]⟩
def o380 (P : Params) : Obj := ⟨(.type "function"), none, (.func ⟨(S "_law_names"), (S "_law_names"), (dT 46).params, .stmts (dT 46).body, (dT 46).scope, 3, [], .none, .none, .none, (.str (S "law_meettasks_k35_first_opened") 640), none, (.ref 388), .none, 0⟩), #[]⟩
def o381 (P : Params) : Obj := ⟨(.type "tuple"), none, (.seq #[] 0), #[]⟩
def o382 (P : Params) : Obj := ⟨.none, none, (.fields #[]), #[]⟩
def o383 (P : Params) : Obj := ⟨(.type "tuple"), none, (.seq #[(.str (S "_law_parts") 697), (.str (S "_law_worth") 698), (.str (S "_law_name") 699)] 0), #[]⟩
def o384 (P : Params) : Obj := ⟨(.type "tuple"), none, (.seq #[] 0), #[]⟩
def o385 (P : Params) : Obj := ⟨.none, none, (.func ⟨(S "_law_led"), (S "_law_led"), (dT 47).params, .stmts (dT 47).body, (dT 47).scope, 0, [], .none, .none, .none, .none, none, .none, .none, 0⟩), #[]⟩
def o386 (P : Params) : Obj := ⟨(.type "code"), none, (.fields #[(.str (S "_law_led") 694), (.str (S "_law_led") 695), (.str (S "/claim/cut.py") 696), (.int 244 0), (.int 3 0), (.int 0 0), (.int 0 0), (.int 3 0), (.ref 390), (.bool true), (.int 181 0), (.ref 391), .none, (.ref 392), (.ref 393), (.ref 394), (.int 700 0), (.int 244 0), (.str (S "/claim/cut.py") 701)]), #[]⟩
def o387 (P : Params) : Obj := ⟨(.type "function"), none, (.func ⟨(S "_law_led"), (S "_law_led"), (dT 47).params, .stmts (dT 47).body, (dT 47).scope, 3, [], .none, .none, .none, (.str (S "law_meettasks_k35_first_opened") 640), none, (.ref 395), .none, 0⟩), #[]⟩
def o388 (P : Params) : Obj := ⟨(.type "tuple"), none, (.seq #[] 0), #[]⟩
def o389 (P : Params) : Obj := ⟨.none, none, (.fields #[]), #[]⟩
def o390 (P : Params) : Obj := ⟨(.type "tuple"), none, (.seq #[(.str (S "_law_parts") 706), (.str (S "_law_entry") 707), (.str (S "_law_names_here") 708), (.str (S "_law_tier") 709), (.str (S "_law_met_here") 710), (.str (S "_law_row") 711), (.str (S "_law_worth") 712), (.str (S "_law_later") 713), (.str (S "_law_name") 714), (.str (S "_law_goal") 715)] 0), #[]⟩
def o391 (P : Params) : Obj := ⟨(.type "tuple"), none, (.seq #[] 0), #[]⟩
def o392 (P : Params) : Obj := ⟨.none, none, (.func ⟨(S "_law_first"), (S "_law_first"), (dT 48).params, .stmts (dT 48).body, (dT 48).scope, 0, [], .none, .none, .none, .none, none, .none, .none, 0⟩), #[]⟩
def o393 (P : Params) : Obj := ⟨(.type "code"), none, (.fields #[(.str (S "_law_first") 703), (.str (S "_law_first") 704), (.str (S "/claim/cut.py") 705), (.int 246 0), (.int 3 0), (.int 0 0), (.int 0 0), (.int 3 0), (.ref 397), (.bool true), (.int 181 0), (.ref 398), .none, (.ref 399), (.ref 400), (.ref 401), (.int 716 0), (.int 246 0), (.str (S "/claim/cut.py") 717)]), #[]⟩
def o394 (P : Params) : Obj := ⟨(.type "function"), none, (.func ⟨(S "_law_first"), (S "_law_first"), (dT 48).params, .stmts (dT 48).body, (dT 48).scope, 3, [], .none, .none, .none, (.str (S "law_meettasks_k35_first_opened") 640), none, (.ref 402), .none, 0⟩), #[]⟩
def o395 (P : Params) : Obj := ⟨(.type "tuple"), none, (.seq #[] 0), #[]⟩
def o396 (P : Params) : Obj := ⟨.none, none, (.fields #[]), #[]⟩
def o397 (P : Params) : Obj := ⟨(.type "tuple"), none, (.seq #[(.str (S "_law_ask") 722), (.str (S "e") 723)] 0), #[]⟩
def o398 (P : Params) : Obj := ⟨(.type "tuple"), none, (.seq #[] 0), #[]⟩
def o399 (P : Params) : Obj := ⟨.none, none, (.func ⟨(S "_law_met"), (S "_law_met"), (dT 49).params, .stmts (dT 49).body, (dT 49).scope, 0, [], .none, .none, .none, .none, none, .none, .none, 0⟩), #[]⟩
def o400 (P : Params) : Obj := ⟨(.type "code"), none, (.fields #[(.str (S "_law_met") 719), (.str (S "_law_met") 720), (.str (S "/claim/cut.py") 721), (.int 261 0), (.int 1 0), (.int 0 0), (.int 0 0), (.int 3 0), (.ref 404), (.bool true), (.int 181 0), (.ref 405), .none, (.ref 406), (.ref 407), (.ref 408), (.int 724 0), (.int 261 0), (.str (S "/claim/cut.py") 725)]), #[]⟩
def o401 (P : Params) : Obj := ⟨(.type "function"), none, (.func ⟨(S "_law_met"), (S "_law_met"), (dT 49).params, .stmts (dT 49).body, (dT 49).scope, 3, [], .none, .none, .none, (.str (S "law_meettasks_k35_first_opened") 640), none, (.ref 409), .none, 0⟩), #[]⟩
def o402 (P : Params) : Obj := ⟨(.type "tuple"), none, (.seq #[] 0), #[]⟩
def o403 (P : Params) : Obj := ⟨.none, none, (.fields #[]), #[]⟩
def o404 (P : Params) : Obj := ⟨.none, none, (.func ⟨(S "_law_refused"), (S "_law_refused"), (dT 50).params, .stmts (dT 50).body, (dT 50).scope, 0, [], .none, .none, .none, .none, none, .none, .none, 0⟩), #[]⟩
def o405 (P : Params) : Obj := ⟨(.type "code"), none, (.fields #[(.str (S "_law_refused") 727), (.str (S "_law_refused") 728), (.str (S "/claim/cut.py") 729), (.int 269 0), (.int 3 0), (.int 0 0), (.int 0 0), (.int 3 0), (.ref 411), (.bool true), (.int 181 0), (.ref 412), .none, .none, .none, (.ref 413), (.int 730 0), (.int 269 0), (.str (S "/claim/cut.py") 731)]), #[]⟩
def o406 (P : Params) : Obj := ⟨(.type "function"), none, (.func ⟨(S "_law_refused"), (S "_law_refused"), (dT 50).params, .stmts (dT 50).body, (dT 50).scope, 3, [], .none, .none, .none, (.str (S "law_meettasks_k35_first_opened") 640), none, (.ref 414), .none, 0⟩), #[]⟩
def o407 (P : Params) : Obj := ⟨(.type "tuple"), none, (.seq #[] 0), #[]⟩
def o408 (P : Params) : Obj := ⟨.none, none, (.fields #[]), #[]⟩
def o409 (P : Params) : Obj := ⟨(.type "tuple"), none, (.seq #[(.str (S "_law_script") 736), (.str (S "_law_spring_here") 737), (.str (S "_law_turn") 738), (.str (S "_law_parts") 739), (.str (S "_law_thing_here") 740), (.str (S "_law_k") 741), (.str (S "_law_names_here") 742), (.str (S "_law_entry") 743), (.str (S "_law_told") 744)] 0), #[]⟩
def o410 (P : Params) : Obj := ⟨(.type "tuple"), none, (.seq #[] 0), #[]⟩
def o411 (P : Params) : Obj := ⟨.none, none, (.func ⟨(S "law"), (S "law"), (dT 51).params, .stmts (dT 51).body, (dT 51).scope, 0, [], .none, .none, .none, .none, none, .none, .none, 0⟩), #[]⟩
def o412 (P : Params) : Obj := ⟨(.type "code"), none, (.fields #[(.str (S "law") 733), (.str (S "law") 734), (.str (S "/claim/cut.py") 735), (.int 290 0), (.int 1 0), (.int 0 0), (.int 0 0), (.int 3 0), (.ref 416), (.bool true), (.int 181 0), (.ref 417), .none, (.ref 418), (.ref 419), (.ref 420), (.int 745 0), (.int 290 0), (.str (S "/claim/cut.py") 746)]), #[]⟩
def o413 (P : Params) : Obj := ⟨(.type "function"), none, (.func ⟨(S "law"), (S "law"), (dT 51).params, .stmts (dT 51).body, (dT 51).scope, 3, [], .none, .none, .none, (.str (S "law_meettasks_k35_first_opened") 640), none, (.ref 421), .none, 0⟩), #[]⟩
def T1 (P : Params) : BT := (N (boot_o_0 P) (N (boot_o_1 P) (N (o4 P) (N (boot_o_7 P) (N (o6 P) (N (o22 P) (N (o54 P) (N (o118 P) (N (o246 P) e e) (N (o374 P) e e)) (N (o182 P) (N (o310 P) e e) e)) (N (o86 P) (N (o150 P) (N (o278 P) e e) (N (o406 P) e e)) (N (o214 P) (N (o342 P) e e) e))) (N (o38 P) (N (o70 P) (N (o134 P) (N (o262 P) e e) (N (o390 P) e e)) (N (o198 P) (N (o326 P) e e) e)) (N (o102 P) (N (o166 P) (N (o294 P) e e) e) (N (o230 P) (N (o358 P) e e) e)))) (N (o14 P) (N (o30 P) (N (o62 P) (N (o126 P) (N (o254 P) e e) (N (o382 P) e e)) (N (o190 P) (N (o318 P) e e) e)) (N (o94 P) (N (o158 P) (N (o286 P) e e) e) (N (o222 P) (N (o350 P) e e) e))) (N (o46 P) (N (o78 P) (N (o142 P) (N (o270 P) e e) (N (o398 P) e e)) (N (o206 P) (N (o334 P) e e) e)) (N (o110 P) (N (o174 P) (N (o302 P) e e) e) (N (o238 P) (N (o366 P) e e) e))))) (N (o0 P) (N (o10 P) (N (o26 P) (N (o58 P) (N (o122 P) (N (o250 P) e e) (N (o378 P) e e)) (N (o186 P) (N (o314 P) e e) e)) (N (o90 P) (N (o154 P) (N (o282 P) e e) (N (o410 P) e e)) (N (o218 P) (N (o346 P) e e) e))) (N (o42 P) (N (o74 P) (N (o138 P) (N (o266 P) e e) (N (o394 P) e e)) (N (o202 P) (N (o330 P) e e) e)) (N (o106 P) (N (o170 P) (N (o298 P) e e) e) (N (o234 P) (N (o362 P) e e) e)))) (N (o18 P) (N (o34 P) (N (o66 P) (N (o130 P) (N (o258 P) e e) (N (o386 P) e e)) (N (o194 P) (N (o322 P) e e) e)) (N (o98 P) (N (o162 P) (N (o290 P) e e) e) (N (o226 P) (N (o354 P) e e) e))) (N (o50 P) (N (o82 P) (N (o146 P) (N (o274 P) e e) (N (o402 P) e e)) (N (o210 P) (N (o338 P) e e) e)) (N (o114 P) (N (o178 P) (N (o306 P) e e) e) (N (o242 P) (N (o370 P) e e) e)))))) (N (boot_o_5 P) (N (boot_o_9 P) (N (o8 P) (N (o24 P) (N (o56 P) (N (o120 P) (N (o248 P) e e) (N (o376 P) e e)) (N (o184 P) (N (o312 P) e e) e)) (N (o88 P) (N (o152 P) (N (o280 P) e e) (N (o408 P) e e)) (N (o216 P) (N (o344 P) e e) e))) (N (o40 P) (N (o72 P) (N (o136 P) (N (o264 P) e e) (N (o392 P) e e)) (N (o200 P) (N (o328 P) e e) e)) (N (o104 P) (N (o168 P) (N (o296 P) e e) e) (N (o232 P) (N (o360 P) e e) e)))) (N (o16 P) (N (o32 P) (N (o64 P) (N (o128 P) (N (o256 P) e e) (N (o384 P) e e)) (N (o192 P) (N (o320 P) e e) e)) (N (o96 P) (N (o160 P) (N (o288 P) e e) e) (N (o224 P) (N (o352 P) e e) e))) (N (o48 P) (N (o80 P) (N (o144 P) (N (o272 P) e e) (N (o400 P) e e)) (N (o208 P) (N (o336 P) e e) e)) (N (o112 P) (N (o176 P) (N (o304 P) e e) e) (N (o240 P) (N (o368 P) e e) e))))) (N (o2 P) (N (o12 P) (N (o28 P) (N (o60 P) (N (o124 P) (N (o252 P) e e) (N (o380 P) e e)) (N (o188 P) (N (o316 P) e e) e)) (N (o92 P) (N (o156 P) (N (o284 P) e e) (N (o412 P) e e)) (N (o220 P) (N (o348 P) e e) e))) (N (o44 P) (N (o76 P) (N (o140 P) (N (o268 P) e e) (N (o396 P) e e)) (N (o204 P) (N (o332 P) e e) e)) (N (o108 P) (N (o172 P) (N (o300 P) e e) e) (N (o236 P) (N (o364 P) e e) e)))) (N (o20 P) (N (o36 P) (N (o68 P) (N (o132 P) (N (o260 P) e e) (N (o388 P) e e)) (N (o196 P) (N (o324 P) e e) e)) (N (o100 P) (N (o164 P) (N (o292 P) e e) e) (N (o228 P) (N (o356 P) e e) e))) (N (o52 P) (N (o84 P) (N (o148 P) (N (o276 P) e e) (N (o404 P) e e)) (N (o212 P) (N (o340 P) e e) e)) (N (o116 P) (N (o180 P) (N (o308 P) e e) e) (N (o244 P) (N (o372 P) e e) e))))))) (N (boot_o_2 P) (N (boot_o_4 P) (N (boot_o_8 P) (N (o7 P) (N (o23 P) (N (o55 P) (N (o119 P) (N (o247 P) e e) (N (o375 P) e e)) (N (o183 P) (N (o311 P) e e) e)) (N (o87 P) (N (o151 P) (N (o279 P) e e) (N (o407 P) e e)) (N (o215 P) (N (o343 P) e e) e))) (N (o39 P) (N (o71 P) (N (o135 P) (N (o263 P) e e) (N (o391 P) e e)) (N (o199 P) (N (o327 P) e e) e)) (N (o103 P) (N (o167 P) (N (o295 P) e e) e) (N (o231 P) (N (o359 P) e e) e)))) (N (o15 P) (N (o31 P) (N (o63 P) (N (o127 P) (N (o255 P) e e) (N (o383 P) e e)) (N (o191 P) (N (o319 P) e e) e)) (N (o95 P) (N (o159 P) (N (o287 P) e e) e) (N (o223 P) (N (o351 P) e e) e))) (N (o47 P) (N (o79 P) (N (o143 P) (N (o271 P) e e) (N (o399 P) e e)) (N (o207 P) (N (o335 P) e e) e)) (N (o111 P) (N (o175 P) (N (o303 P) e e) e) (N (o239 P) (N (o367 P) e e) e))))) (N (o5 P) (N (o11 P) (N (o27 P) (N (o59 P) (N (o123 P) (N (o251 P) e e) (N (o379 P) e e)) (N (o187 P) (N (o315 P) e e) e)) (N (o91 P) (N (o155 P) (N (o283 P) e e) (N (o411 P) e e)) (N (o219 P) (N (o347 P) e e) e))) (N (o43 P) (N (o75 P) (N (o139 P) (N (o267 P) e e) (N (o395 P) e e)) (N (o203 P) (N (o331 P) e e) e)) (N (o107 P) (N (o171 P) (N (o299 P) e e) e) (N (o235 P) (N (o363 P) e e) e)))) (N (o19 P) (N (o35 P) (N (o67 P) (N (o131 P) (N (o259 P) e e) (N (o387 P) e e)) (N (o195 P) (N (o323 P) e e) e)) (N (o99 P) (N (o163 P) (N (o291 P) e e) e) (N (o227 P) (N (o355 P) e e) e))) (N (o51 P) (N (o83 P) (N (o147 P) (N (o275 P) e e) (N (o403 P) e e)) (N (o211 P) (N (o339 P) e e) e)) (N (o115 P) (N (o179 P) (N (o307 P) e e) e) (N (o243 P) (N (o371 P) e e) e)))))) (N (boot_o_6 P) (N (boot_o_10 P) (N (o9 P) (N (o25 P) (N (o57 P) (N (o121 P) (N (o249 P) e e) (N (o377 P) e e)) (N (o185 P) (N (o313 P) e e) e)) (N (o89 P) (N (o153 P) (N (o281 P) e e) (N (o409 P) e e)) (N (o217 P) (N (o345 P) e e) e))) (N (o41 P) (N (o73 P) (N (o137 P) (N (o265 P) e e) (N (o393 P) e e)) (N (o201 P) (N (o329 P) e e) e)) (N (o105 P) (N (o169 P) (N (o297 P) e e) e) (N (o233 P) (N (o361 P) e e) e)))) (N (o17 P) (N (o33 P) (N (o65 P) (N (o129 P) (N (o257 P) e e) (N (o385 P) e e)) (N (o193 P) (N (o321 P) e e) e)) (N (o97 P) (N (o161 P) (N (o289 P) e e) e) (N (o225 P) (N (o353 P) e e) e))) (N (o49 P) (N (o81 P) (N (o145 P) (N (o273 P) e e) (N (o401 P) e e)) (N (o209 P) (N (o337 P) e e) e)) (N (o113 P) (N (o177 P) (N (o305 P) e e) e) (N (o241 P) (N (o369 P) e e) e))))) (N (o3 P) (N (o13 P) (N (o29 P) (N (o61 P) (N (o125 P) (N (o253 P) e e) (N (o381 P) e e)) (N (o189 P) (N (o317 P) e e) e)) (N (o93 P) (N (o157 P) (N (o285 P) e e) (N (o413 P) e e)) (N (o221 P) (N (o349 P) e e) e))) (N (o45 P) (N (o77 P) (N (o141 P) (N (o269 P) e e) (N (o397 P) e e)) (N (o205 P) (N (o333 P) e e) e)) (N (o109 P) (N (o173 P) (N (o301 P) e e) e) (N (o237 P) (N (o365 P) e e) e)))) (N (o21 P) (N (o37 P) (N (o69 P) (N (o133 P) (N (o261 P) e e) (N (o389 P) e e)) (N (o197 P) (N (o325 P) e e) e)) (N (o101 P) (N (o165 P) (N (o293 P) e e) e) (N (o229 P) (N (o357 P) e e) e))) (N (o53 P) (N (o85 P) (N (o149 P) (N (o277 P) e e) (N (o405 P) e e)) (N (o213 P) (N (o341 P) e e) e)) (N (o117 P) (N (o181 P) (N (o309 P) e e) e) (N (o245 P) (N (o373 P) e e) e))))))))
def S1 (w : World) (os : OsState) : SharedT := ⟨T1 w.params, 423, ⟨[], [], [], 0, [], [], false, #[], [], 0, false, false, false, 0, [2000, 10, 10], false, 0, true, [], [], 0, false⟩, #[], ⟨0, 0, 0, 0⟩, 748, os⟩
def pos1 : Pos := ⟨290, 0, 308, 15⟩
def Tz (P : Params) : BT := (N (boot_o_0 P) (N (boot_o_1 P) (N (o4 P) (N (boot_o_7 P) (N (o6 P) (N (o22 P) (N (o54 P) (N (o118 P) (N (o246 P) e e) (N (o374 P) e e)) (N (o182 P) (N (o310 P) e e) e)) (N (o86 P) (N (o150 P) (N (o278 P) e e) (N (o406 P) e e)) (N (o214 P) (N (o342 P) e e) e))) (N (o38 P) (N (o70 P) (N (o134 P) (N (o262 P) e e) (N (o390 P) e e)) (N (o198 P) (N (o326 P) e e) e)) (N (o102 P) (N (o166 P) (N (o294 P) e e) e) (N (o230 P) (N (o358 P) e e) e)))) (N (o14 P) (N (o30 P) (N (o62 P) (N (o126 P) (N (o254 P) e e) (N (o382 P) e e)) (N (o190 P) (N (o318 P) e e) e)) (N (o94 P) (N (o158 P) (N (o286 P) e e) e) (N (o222 P) (N (o350 P) e e) e))) (N (o46 P) (N (o78 P) (N (o142 P) (N (o270 P) e e) (N (o398 P) e e)) (N (o206 P) (N (o334 P) e e) e)) (N (o110 P) (N (o174 P) (N (o302 P) e e) e) (N (o238 P) (N (o366 P) e e) e))))) (N (o0 P) (N (o10 P) (N (o26 P) (N (o58 P) (N (o122 P) (N (o250 P) e e) (N (o378 P) e e)) (N (o186 P) (N (o314 P) e e) e)) (N (o90 P) (N (o154 P) (N (o282 P) e e) (N (o410 P) e e)) (N (o218 P) (N (o346 P) e e) e))) (N (o42 P) (N (o74 P) (N (o138 P) (N (o266 P) e e) (N (o394 P) e e)) (N (o202 P) (N (o330 P) e e) e)) (N (o106 P) (N (o170 P) (N (o298 P) e e) e) (N (o234 P) (N (o362 P) e e) e)))) (N (o18 P) (N (o34 P) (N (o66 P) (N (o130 P) (N (o258 P) e e) (N (o386 P) e e)) (N (o194 P) (N (o322 P) e e) e)) (N (o98 P) (N (o162 P) (N (o290 P) e e) e) (N (o226 P) (N (o354 P) e e) e))) (N (o50 P) (N (o82 P) (N (o146 P) (N (o274 P) e e) (N (o402 P) e e)) (N (o210 P) (N (o338 P) e e) e)) (N (o114 P) (N (o178 P) (N (o306 P) e e) e) (N (o242 P) (N (o370 P) e e) e)))))) (N (boot_o_5 P) (N (boot_o_9 P) (N (o8 P) (N (o24 P) (N (o56 P) (N (o120 P) (N (o248 P) e e) (N (o376 P) e e)) (N (o184 P) (N (o312 P) e e) e)) (N (o88 P) (N (o152 P) (N (o280 P) e e) (N (o408 P) e e)) (N (o216 P) (N (o344 P) e e) e))) (N (o40 P) (N (o72 P) (N (o136 P) (N (o264 P) e e) (N (o392 P) e e)) (N (o200 P) (N (o328 P) e e) e)) (N (o104 P) (N (o168 P) (N (o296 P) e e) e) (N (o232 P) (N (o360 P) e e) e)))) (N (o16 P) (N (o32 P) (N (o64 P) (N (o128 P) (N (o256 P) e e) (N (o384 P) e e)) (N (o192 P) (N (o320 P) e e) e)) (N (o96 P) (N (o160 P) (N (o288 P) e e) e) (N (o224 P) (N (o352 P) e e) e))) (N (o48 P) (N (o80 P) (N (o144 P) (N (o272 P) e e) (N (o400 P) e e)) (N (o208 P) (N (o336 P) e e) e)) (N (o112 P) (N (o176 P) (N (o304 P) e e) e) (N (o240 P) (N (o368 P) e e) e))))) (N (o2 P) (N (o12 P) (N (o28 P) (N (o60 P) (N (o124 P) (N (o252 P) e e) (N (o380 P) e e)) (N (o188 P) (N (o316 P) e e) e)) (N (o92 P) (N (o156 P) (N (o284 P) e e) (N (o412 P) e e)) (N (o220 P) (N (o348 P) e e) e))) (N (o44 P) (N (o76 P) (N (o140 P) (N (o268 P) e e) (N (o396 P) e e)) (N (o204 P) (N (o332 P) e e) e)) (N (o108 P) (N (o172 P) (N (o300 P) e e) e) (N (o236 P) (N (o364 P) e e) e)))) (N (o20 P) (N (o36 P) (N (o68 P) (N (o132 P) (N (o260 P) e e) (N (o388 P) e e)) (N (o196 P) (N (o324 P) e e) e)) (N (o100 P) (N (o164 P) (N (o292 P) e e) e) (N (o228 P) (N (o356 P) e e) e))) (N (o52 P) (N (o84 P) (N (o148 P) (N (o276 P) e e) (N (o404 P) e e)) (N (o212 P) (N (o340 P) e e) e)) (N (o116 P) (N (o180 P) (N (o308 P) e e) e) (N (o244 P) (N (o372 P) e e) e))))))) (N (boot_o_2 P) (N (boot_o_4 P) (N (boot_o_8 P) (N (o7 P) (N (o23 P) (N (o55 P) (N (o119 P) (N (o247 P) e e) (N (o375 P) e e)) (N (o183 P) (N (o311 P) e e) e)) (N (o87 P) (N (o151 P) (N (o279 P) e e) (N (o407 P) e e)) (N (o215 P) (N (o343 P) e e) e))) (N (o39 P) (N (o71 P) (N (o135 P) (N (o263 P) e e) (N (o391 P) e e)) (N (o199 P) (N (o327 P) e e) e)) (N (o103 P) (N (o167 P) (N (o295 P) e e) e) (N (o231 P) (N (o359 P) e e) e)))) (N (o15 P) (N (o31 P) (N (o63 P) (N (o127 P) (N (o255 P) e e) (N (o383 P) e e)) (N (o191 P) (N (o319 P) e e) e)) (N (o95 P) (N (o159 P) (N (o287 P) e e) e) (N (o223 P) (N (o351 P) e e) e))) (N (o47 P) (N (o79 P) (N (o143 P) (N (o271 P) e e) (N (o399 P) e e)) (N (o207 P) (N (o335 P) e e) e)) (N (o111 P) (N (o175 P) (N (o303 P) e e) e) (N (o239 P) (N (o367 P) e e) e))))) (N (o5 P) (N (o11 P) (N (o27 P) (N (o59 P) (N (o123 P) (N (o251 P) e e) (N (o379 P) e e)) (N (o187 P) (N (o315 P) e e) e)) (N (o91 P) (N (o155 P) (N (o283 P) e e) (N (o411 P) e e)) (N (o219 P) (N (o347 P) e e) e))) (N (o43 P) (N (o75 P) (N (o139 P) (N (o267 P) e e) (N (o395 P) e e)) (N (o203 P) (N (o331 P) e e) e)) (N (o107 P) (N (o171 P) (N (o299 P) e e) e) (N (o235 P) (N (o363 P) e e) e)))) (N (o19 P) (N (o35 P) (N (o67 P) (N (o131 P) (N (o259 P) e e) (N (o387 P) e e)) (N (o195 P) (N (o323 P) e e) e)) (N (o99 P) (N (o163 P) (N (o291 P) e e) e) (N (o227 P) (N (o355 P) e e) e))) (N (o51 P) (N (o83 P) (N (o147 P) (N (o275 P) e e) (N (o403 P) e e)) (N (o211 P) (N (o339 P) e e) e)) (N (o115 P) (N (o179 P) (N (o307 P) e e) e) (N (o243 P) (N (o371 P) e e) e)))))) (N (boot_o_6 P) (N (boot_o_10 P) (N (o9 P) (N (o25 P) (N (o57 P) (N (o121 P) (N (o249 P) e e) (N (o377 P) e e)) (N (o185 P) (N (o313 P) e e) e)) (N (o89 P) (N (o153 P) (N (o281 P) e e) (N (o409 P) e e)) (N (o217 P) (N (o345 P) e e) e))) (N (o41 P) (N (o73 P) (N (o137 P) (N (o265 P) e e) (N (o393 P) e e)) (N (o201 P) (N (o329 P) e e) e)) (N (o105 P) (N (o169 P) (N (o297 P) e e) e) (N (o233 P) (N (o361 P) e e) e)))) (N (o17 P) (N (o33 P) (N (o65 P) (N (o129 P) (N (o257 P) e e) (N (o385 P) e e)) (N (o193 P) (N (o321 P) e e) e)) (N (o97 P) (N (o161 P) (N (o289 P) e e) e) (N (o225 P) (N (o353 P) e e) e))) (N (o49 P) (N (o81 P) (N (o145 P) (N (o273 P) e e) (N (o401 P) e e)) (N (o209 P) (N (o337 P) e e) e)) (N (o113 P) (N (o177 P) (N (o305 P) e e) e) (N (o241 P) (N (o369 P) e e) e))))) (N (o3 P) (N (o13 P) (N (o29 P) (N (o61 P) (N (o125 P) (N (o253 P) e e) (N (o381 P) e e)) (N (o189 P) (N (o317 P) e e) e)) (N (o93 P) (N (o157 P) (N (o285 P) e e) (N (o413 P) e e)) (N (o221 P) (N (o349 P) e e) e))) (N (o45 P) (N (o77 P) (N (o141 P) (N (o269 P) e e) (N (o397 P) e e)) (N (o205 P) (N (o333 P) e e) e)) (N (o109 P) (N (o173 P) (N (o301 P) e e) e) (N (o237 P) (N (o365 P) e e) e)))) (N (o21 P) (N (o37 P) (N (o69 P) (N (o133 P) (N (o261 P) e e) (N (o389 P) e e)) (N (o197 P) (N (o325 P) e e) e)) (N (o101 P) (N (o165 P) (N (o293 P) e e) e) (N (o229 P) (N (o357 P) e e) e))) (N (o53 P) (N (o85 P) (N (o149 P) (N (o277 P) e e) (N (o405 P) e e)) (N (o213 P) (N (o341 P) e e) e)) (N (o117 P) (N (o181 P) (N (o309 P) e e) e) (N (o245 P) (N (o373 P) e e) e))))))))
def Sz (w : World) (os : OsState) : SharedT := ⟨Tz w.params, 423, ⟨[], [], [], 0, [], [], false, #[], [], 0, false, false, false, 0, [2000, 10, 10], false, 0, true, [], [], 0, false⟩, #[], ⟨0, 0, 0, 0⟩, 748, os⟩
def posz : Pos := ⟨290, 0, 308, 15⟩
abbrev bd : List Stmt := behindTheImports Pg
def env : Env := { scope := Pg.main.scope, locals := mainNs, globals := mainNs, cells := [], code := (.ref 13), frame := some 14 }
abbrev cE : Code := .body bd env
abbrev qf : Pos := ⟨0, 0, 0, 0⟩
abbrev cut (a b : Nat) : List Stmt := (bd.drop a).take (b - a)
end K35H

end
noncomputable section
namespace K35H
open PySem PySem.W PySem.Calls PyProof.Rows HandSHeadRun HG
theorem g0 (w : World) (os : OsState) : first (stepQ (denQ tabQ) Pg w) 12 Pg w os = some (Sa w os, ⟨denQ tabQ cE, cE, posa, [topFrame qf]⟩) := by kernel_rfl
theorem gb (w : World) (os : OsState) : block (stepQ (denQ tabQ) Pg w) 11 an6 1 (Sa w os) ⟨(PySem.W.Fast.tw1066825118222455980 bd env).wrap (fun _ => doneF .next) deadEnd id id, cE, posa, [topFrame qf]⟩ = some (.next, Sa w os, cE, posa) := by kernel_rfl
theorem g1 (w : World) (os : OsState) : block (stepQ (denQ tabQ) Pg w) 11 an6 3197 (Sa w os) ⟨(exQ (cut 0 52) env).wrap doneF deadEnd id id, cE, posa, [topFrame qf]⟩ = some (.next, S1 w os, cE, pos1) := by kernel_rfl
theorem gz (w : World) (os : OsState) : goF (stepQ (denQ tabQ) Pg w) 11 an6 2 (S1 w os) ⟨doneF .next, cE, pos1, [topFrame qf]⟩ = some (Sz w os) := by kernel_rfl
theorem body_cut : bd = cut 0 52 ++ [] := by kernel_rfl
theorem top (w : World) (os : OsState) : topRun treeTable Pg w 11 an6 3212 (bootS w os) (topStub Pg) = some (Sz w os).abs := by
  refine begin_ (g0 w os) (gb w os) (N := 3199) ?_
  have z : topRun treeTable Pg w 11 an6 (3197 + 2) (Sa w os).abs (restOf (cut 0 52 ++ []) env cE posa [topFrame qf]) = some (Sz w os).abs := piece (g1 w os) (last (gz w os))
  rw [← body_cut] at z
  exact z
end K35H

end
/-! E1: a class over ValueError with an own __init__ is called, with keywords too (at the model's level). -/
namespace XMake
open PySem
/-- at C stands such a class, its line of ancestors behind itself is bm -/
def At (h : Heap) (C : Addr) (bm : List Value) : Prop := ∃ nm q N bs dct sn sub ab col dd a0 a1 a2 a3 a5, h.get? C = some (excClassObj nm q C N bs bm dct sn sub ab col dd a0 a1 a2 a3 a5 "ValueError.__new__")
/-- the built-in classes among bm are ValueError's -/
def Over (bm : List Value) : Prop := ∀ T : String, bm.contains (.type T) = [Value.type "ValueError", .type "Exception", .type "BaseException", .type "object"].contains (.type T)
theorem Over.has {bm : List Value} (o : Over bm) (C : Addr) (T : String) (b : Bool) (e : [Value.type "ValueError", .type "Exception", .type "BaseException", .type "object"].contains (.type T) = b) : (Value.ref C :: bm).contains (.type T) = b := by
  have z : (Value.type T == Value.ref C) = false := rfl
  rw [List.contains_cons, z, Bool.false_or]
  exact (o T).trans e
abbrev vf := PySem.F.excBase_ValueError
/-- the heap with a tuple of the arguments and the bare exception behind it -/
abbrev made (h : Heap) (C : Addr) (us : List Value) : Heap := (h.push (W.kdv_tup us)).push (HandSPX.excO C h.objs.size)
section
variable {P : Program} {w : World} {A : Around} {C : Addr} {bm us : List Value} {kw : List (Str × Value)} {h : Heap} {g : Array GenState} {d : Drawn} {t : Nat} {os : OsState}
theorem let_by {M : Model} {E : Value → Shared → Prop} {Q : Unit → Shared → Prop} (c : At h C bm) (o : Over bm) (k : Q () ⟨h, g, d, t, os⟩) : wpAny M A (checkBuiltinCall "ValueError.__new__" ⟨.ref C :: us, kw⟩) Q E ⟨h, g, d, t, os⟩ := by
  obtain ⟨nm, q, N, bs, dct, sn, sub, ab, col, dd, a0, a1, a2, a3, a5, c⟩ := c
  have v := o.has C "ValueError" true rfl
  have star := vf.noStar
  unfold checkBuiltinCall
  simp only [vf.newRow, vf.newSplit, vf.newKind]
  repeat
    first
      | (refine wpAny_isSubtype_exc c ?_
         rw [v])
      | refine wpAny_staticBase_exc c ?_
      | refine wpAny_madeBy_exc c ?_
      | refine wpAny_loadPart_at c ?_
      | simp only [if_false, Bool.false_eq_true, bne_self_eq_false]
      | wp_step
  exact k
theorem new {R : Result → Shared → Prop} (c : At h C bm) (o : Over bm) (l : us.length ≤ sizeLine) (k : R (.ok (.ret (.ref (h.objs.size + 1)))) ⟨made h C us, g, d, t, os⟩) :
    codeAny (model P w) A (.builtin "ValueError.__new__" ⟨.ref C :: us, kw⟩) R ⟨h, g, d, t, os⟩ := by
  obtain ⟨nm, q, N, bs, dct, sn, sub, ab, col, dd, a0, a1, a2, a3, a5, c⟩ := c
  have v := o.has C "ValueError" true rfl
  have v1 := o.has C "AttributeError" false (by decide)
  have v2 := o.has C "NameError" false (by decide)
  have ends := vf.ends
  refine codeAny_builtinAt vf.entry (wpAt_bind ?_)
  refine wpAt_bind (wpAt_stack fun _ _ => wpAt_of_wpAny ?_)
  wp_walk
  refine wpAt_of_wpAny ?_
  rw [vf.owner]
  repeat
    first
      | (with_reducible refine wpAny_isSubtype_exc c ?_
         first
           | rw [v]
           | rw [v1]
           | rw [v2])
      | with_reducible refine wpAny_madeHere_exc vf.canon c ?_
      | with_reducible refine wpAny_loadPart_at c ?_
      | wp_step
  show R (.ok (.ret (.ref (Heap.push h _).objs.size))) _
  rw [Heap.size_push]
  exact k
theorem At.on {h' : Heap} (c : At h C bm) (k : ∀ b o, h.get? b = some o → h'.get? b = some o) : At h' C bm := by
  obtain ⟨nm, q, N, bs, dct, sn, sub, ab, col, dd, a0, a1, a2, a3, a5, c⟩ := c
  exact ⟨nm, q, N, bs, dct, sn, sub, ab, col, dd, a0, a1, a2, a3, a5, k _ _ c⟩
theorem made_keeps (b : Addr) (o : Obj) (e : h.get? b = some o) : (made h C us).get? b = some o := by
  unfold made
  exact Heap.get?_push_of_some _ (Heap.get?_push_of_some _ e)
theorem made_here : (made h C us).get? (h.objs.size + 1) = some (HandSPX.excO C h.objs.size) := by
  unfold made
  heap_get
/-- type.__call__ of the class: made, then its __init__, at f -/
theorem by_type {E : Value → Shared → Prop} {Q : Fin → Shared → Prop} {f : Addr} (c : At h C bm) (o : Over bm) (l : us.length ≤ sizeLine)
    (i : W.Looks (model P w) h (typeLookup (.ref C) "__init__") (some (.ref f))) (b : ∀ x, W.Looks (model P w) h (bindSpecial (.ref f) x) (.ref f, [x]))
    (k : codeAny (model P w) A (.call (.ref f) ⟨.ref (h.objs.size + 1) :: us, kw⟩) (fun r s' => match r with
      | .error e => E e s'
      | .ok (.ret v) => v = .none ∧ Q (.done (.ret (.ref (h.objs.size + 1)))) s'
      | .ok _ => False) ⟨made h C us, g, d, t, os⟩) :
    wpAny (model P w) A (Builtin.«type.__call__» ⟨.ref C :: us, kw⟩) Q E ⟨h, g, d, t, os⟩ := by
  have c' := c
  obtain ⟨nm, q, N, bs, dct, sn, sub, ab, col, dd, a0, a1, a2, a3, a5, z⟩ := c'
  have z2 := made_keeps (C := C) (us := us) _ _ z
  have self := made_here (h := h) (C := C) (us := us)
  have own : (Value.ref C :: bm).contains (.ref C) = true := List.contains_iff_mem.mpr List.mem_cons_self
  have i2 := i.keeps (made_keeps (C := C) (us := us))
  have b2 := (b (.ref (h.objs.size + 1))).keeps (made_keeps (C := C) (us := us))
  repeat
    first
      | with_reducible refine wpAny_madeBy_exc z ?_
      | with_reducible refine wpAny_loadPart_at z ?_
      | wp_step
  refine codeAny_call_builtin_code (Code.quiet_builtin _ vf.quiet) (let_by c o (new c o l ?_))
  show wpAny _ _ _ _ _ _
  unfold isInstance
  repeat
    first
      | (with_reducible refine wpAny_isSubtype_exc z2 ?_
         rw [own])
      | with_reducible refine wpAny_loadPart_at self ?_
      | wp_step
  refine i2.at (wpAny_holding (wpAny_bind (b2.at (wpAny_bind (wpAny_call (codeAny_mono k fun r s' y => ?_))))))
  match r, y with
  | .error e, y => exact y
  | .ok (.ret v), y =>
    obtain ⟨rfl, y⟩ := y
    first
      | exact wpAny_pure (wpAny_pure y)
      | (wp_walk; exact y)
  | .ok .next, y => exact y.elim
  | .ok .brk, y => exact y.elim
  | .ok .cont, y => exact y.elim
/-- the class is called -/
theorem called {R : Result → Shared → Prop} {f : Addr} (c : At h C bm) (o : Over bm) (l : us.length ≤ sizeLine)
    (i : W.Looks (model P w) h (typeLookup (.ref C) "__init__") (some (.ref f))) (b : ∀ x, W.Looks (model P w) h (bindSpecial (.ref f) x) (.ref f, [x]))
    (k : codeAny (model P w) (A.under (.builtin "type.__call__" ⟨.ref C :: us, kw⟩)) (.call (.ref f) ⟨.ref (h.objs.size + 1) :: us, kw⟩) (W.InitBack (h.objs.size + 1) R) ⟨made h C us, g, d, t, os⟩) :
    codeAny (model P w) A (.call (.ref C) ⟨us, kw⟩) R ⟨h, g, d, t, os⟩ := by
  have c' := c
  obtain ⟨nm, q, N, bs, dct, sn, sub, ab, col, dd, a0, a1, a2, a3, a5, z⟩ := c'
  have t1 := tc_bind (.ref C)
  have t2 := tc_lookup
  have ty : (⟨h, g, d, t, os⟩ : Shared).TypeIs (.ref C) "type" := ⟨_, z, rfl⟩
  apply codeAny_of_tree
  show wpAny (model P w) _ (callAny (.ref C) _) _ _ _
  repeat
    any_goals
      first
        | with_reducible refine wpAny_loadPart_at z ?_
        | assumption
        | wp_step
  refine ⟨rfl, codeAny_call_builtin_at (Code.quiet_builtin _ (by decide +kernel)) entry_typeCall (wpAny_check_type_call_sub z (by_type c o l i b (codeAny_mono k fun r s' y => ?_)))⟩
  match r, y with
  | .error e, y => exact y
  | .ok (.ret v), y => exact y
  | .ok .next, y => exact y
  | .ok .brk, y => exact y
  | .ok .cont, y => exact y
end
end XMake

namespace L2
open PySem PySem.Spec PyProof.Rows
/-- C(.., k = v, ..), C an exception class of one's own with its own __init__: the new exception is a value -/
def tMkX (C : Addr) (n m : Nat) (sp : Sp) (gV : List V → List V → List V) (t tk : TA) : TE := fun σ H Q => t σ H fun vs H1 => tk σ H1 fun zs H2 => vs.length = n ∧ n ≤ 1000 ∧ zs.length = m ∧
  ∀ a, H2 a = none → sp (gV (.ref a :: vs) zs) (upd H2 a (exo a C none)) (fun v H3 => v = .non ∧ Q (.ref a) H3) (fun _ _ _ => False)
section
variable {X : Cx} {CX : CXT} {k n : Nat} {f C : Addr} {fd : FuncData} {ps ks : List Str} {sp : Sp} {x : Str} {p pos : Pos} {e : Expr} {es : List Expr} {kws : List Keyword} {t tk : TA} {g : List Value → List Value → List Value} {gV : List V → List V → List V}
/-- what is known of the class and of its __init__ -/
structure MkX (X : Cx) (CX : CXT) (k : Nat) (C f : Addr) (fd : FuncData) (ps : List Str) (sp : Sp) : Prop where
  cls : OexC X.K C
  ini : PySem.W.findIn X.K (.ref C) "__init__" = some (some (.ref f))
  fun_ : PySem.W.typeIn X.K (.ref f) = some (.type "function")
  ok : FnOk X.prog X.w X.K X.mg X.base CX k f fd ps sp
  room : Room (k + 1) X.A
  pass : Passes CX X (fun _ _ _ => False)
theorem MkX.run {pins : List (Addr × Obj)} {σ : St} {H : Hp} {s : Shared} {Q : VK} {us ws : List Value} {vs zs : List V} (M : MkX X CX k C f fd ps sp) (B : KBn X.K fd ps (n + 1) ks g gV)
    (I : Inv X pins σ H s) (r : Vals vs us) (rz : Vals zs ws) (l1 : vs.length = n) (l0 : n ≤ 1000) (l2 : zs.length = ks.length)
    (go : ∀ a, H a = none → sp (gV (.ref a :: vs) zs) (upd H a (exo a C none)) (fun v H2 => v = .non ∧ Q (.ref a) H2) (fun _ _ _ => False)) :
    wpAny (model X.prog X.w) X.A (call (.ref C) us (ks.zip ws)) (EP X pins σ Q) X.xe s := by
  obtain ⟨hp, gs, dr, tk, os⟩ := s
  obtain ⟨nm, q, N, bs, bm, sn, sub, ab, col, dd, a0, a1, a2, a3, a5, lk, anc⟩ := M.cls.cls
  have at_ : XMake.At hp C bm := ⟨nm, q, N, bs, true, sn, sub, ab, col, dd, a0, a1, a2, a3, a5, I.kIn _ _ lk⟩
  have over : XMake.Over bm := fun T => PySem.HandSPX.refsVE_contains T bm anc
  have few : us.length ≤ sizeLine := by
    have z := r.length
    rw [sizeLine_eq]
    omega
  -- the new exception's address
  obtain ⟨a, ea⟩ : ∃ a, a = hp.objs.size + 1 := ⟨_, rfl⟩
  have le : hp.objs.size ≤ a := by omega
  have free : H a = none := I.hok.fresh le
  have here : (XMake.made hp C us).get? a = some (PySem.HandSPX.excO C hp.objs.size) := by
    rw [ea]
    exact XMake.made_here
  have J : Inv X pins σ (upd H a (exo a C none)) ⟨XMake.made hp C us, gs, dr, tk, os⟩ := I.laid (t' := tk) (h' := XMake.made hp C us) XMake.made_keeps le (exo_ok here)
  have num : (Value.ref a :: us).length = n + 1 := by
    have z := r.length
    simp only [List.length_cons]
    omega
  have bound := B.to ⟨XMake.made hp C us, gs, dr, tk, os⟩ (Value.ref a :: us) ws J.kIn num (rz.length.symm.trans l2)
  have init := M.ok.run _ X.stack _ _ ⟨Value.ref a :: us, ks.zip ws⟩ (g (Value.ref a :: us) ws) _ _ (fun _ _ _ => False) (M.room.make C us (ks.zip ws)) (J.env0.make C us (ks.zip ws)) bound (B.rel (show Vals (V.ref a :: vs) (Value.ref a :: us) from .cons rfl r) rz) (go a free)
  refine wpAny_call (XMake.called at_ over few (PySem.W.looks_findIn I.kIn M.ini) (fun z => PySem.W.bind_fn I.kIn z M.fun_) ?_)
  rw [← ea]
  refine codeAny_mono init fun r s' z => ?_
  match r, z with
  | .error u, z => exact M.pass pins σ _ _ u s' J z
  | .ok (.ret u), z =>
    obtain ⟨v, H', L, rv, ev, y⟩ := J.after z
    rw [ev] at rv
    exact ⟨rv, .ref a, H', L, rfl, y⟩
  | .ok .next, z => exact z.elim
  | .ok .brk, z => exact z.elim
  | .ok .cont, z => exact z.elim
/-- C(e, ..) -/
theorem pe_mkX (T : OexC X.K C) (iC : PySem.W.findIn X.K (.ref C) "__init__" = some (some (.ref f))) (tI : PySem.W.typeIn X.K (.ref f) = some (.type "function"))
    (F : FnOk X.prog X.w X.K X.mg X.base CX k f fd ps sp) (hr : Room (k + 1) X.A) (hb : KBn X.K fd ps (n + 1) [] g gV) (hx : Passes CX X (fun _ _ _ => False)) (hg : Gl X x) (hm : X.mg x = some (.ref C)) (ha : PA X (e :: es) t)
    (dbg : (x == ("__debug__" : Str)) = false := by decide) (stars : starEach (e :: es) X.env = (false, eval e X.env) :: starEach es X.env := by rfl) (plain : (backTo pos (starEach es X.env)).any (·.1) = false := by rfl) :
    PE X (.Call (.Name x p) (e :: es) [] pos) (tMkX C n 0 sp gV t tNil) := ⟨fun pins s σ H Q I h => wpAny_Call_Name_kw (ld_glob I hg hm (PySem.W.callWith_K (h₀ := X.base) I.ok.mod.kin T.kC (thn (ha.run pos pins s σ H _ I h) fun us s1 ⟨vs, H1, I1, r1, l1, l0, _, q1⟩ =>
      ⟨I1.kIn, MkX.run (ks := []) (ws := []) (zs := []) ⟨T, iC, tI, F, hr, hx⟩ hb I1 r1 .nil l1 l0 rfl q1⟩) stars plain) dbg)⟩
/-- C(k = v, ..) -/
theorem pe_mkXK (T : OexC X.K C) (iC : PySem.W.findIn X.K (.ref C) "__init__" = some (some (.ref f))) (tI : PySem.W.typeIn X.K (.ref f) = some (.type "function"))
    (F : FnOk X.prog X.w X.K X.mg X.base CX k f fd ps sp) (hr : Room (k + 1) X.A) (hb : KBn X.K fd ps 1 ks g gV) (hx : Passes CX X (fun _ _ _ => False)) (hg : Gl X x) (hm : X.mg x = some (.ref C)) (hkw : PK X kws tk)
    (named : (backToKw pos (keywordEach kws X.env)).all (·.1.isSome) = true := by rfl) (names : (backToKw pos (keywordEach kws X.env)).filterMap (·.1) = ks := by rfl) (dbg : (x == ("__debug__" : Str)) = false := by decide)
    (plain : ((backTo pos (starEach [] X.env)).any (·.1) || (backToKw pos (keywordEach kws X.env)).any (·.1.isNone)) = false := by rfl) :
    PE X (.Call (.Name x p) [] kws pos) (tMkX C 0 ks.length sp gV tNil tk) := ⟨fun pins s σ H Q I h => wpAny_Call_Name_kw (ld_glob I hg hm (PySem.W.callWith_KW0 (h₀ := X.base) I.ok.mod.kin T.kC named (thn (hkw.run pos pins s σ H _ I h) fun ws s2 ⟨zs, H2, I2, rz, l1, l0, l2, q2⟩ =>
      ⟨I2.kIn, by
        rw [names]
        exact MkX.run (us := []) (vs := []) (n := 0) ⟨T, iC, tI, F, hr, hx⟩ hb I2 .nil rz rfl l0 l2 q2⟩) plain) dbg)⟩
end
/-! ### reading a field, isinstance -/
/-- e.f of an exception that is a value -/
def tXv (K : PySem.W.Frag) (f : Str) (te : TE) : TE := fun σ H Q => te σ H fun x H1 => ∃ (a C d : Addr) (fs : List (Str × V)) (v : V), x = .ref a ∧ H1 a = some (exo a C (some d)) ∧ H1 d = some (exd d fs) ∧ XfC K C ∧ PySem.W.findIn K (.ref C) f = some none ∧ fs.lookup f = some v ∧ Q v H1
theorem pe_xv {X : Cx} {e : Expr} {te : TE} {pos : Pos} {n : Str} (he : PE X e te) (base : attributeBase e n X.env (eval e X.env) = eval e X.env := by rfl) : PE X (.Attribute e n pos) (tXv X.K n te) := ⟨fun pins s σ H Q I h => attr_of base (thn (he.run pins s σ H _ I h) fun u s1 hh => by
  obtain ⟨x, H1, J, rx, a, C, d, fs, v, rfl, ea, ed, T, no, lf, q⟩ := hh
  obtain ⟨m, hm, rel⟩ := exd_at J.hok ed
  obtain ⟨od, at_, look⟩ := lookIn_ns hm
  obtain ⟨y, hy, ry⟩ := RelO.some_of (v := v) (o := m n) (lf ▸ rel n)
  obtain ⟨_, ho⟩ := exo_at J.hok ea
  have rx : u = Value.ref a := rx
  subst rx
  have own : PySem.W.InstAt s1.heap a _ C (some od) := ⟨ho, rfl, rfl, at_⟩
  exact HandSPX.exc_get J.kIn own T.ga T.gg T.exC (PySem.W.findObj_own T.hdC no rfl ((look n).trans (by rw [hy]))) (handed_of ry) ⟨v, H1, J.tok _, ry, q⟩)⟩
end L2

namespace L2
open PySem PySem.Spec PyProof.Rows
/-- an exception that is a value: of the class D -/
def IsX (H : Hp) (a D : Addr) : Prop := H a = some (exo a D none) ∨ ∃ d fs, H a = some (exo a D (some d)) ∧ H d = some (exd d fs)
def rIsX (K : PySem.W.Frag) : List V → Hp → VK → Prop := fun xs H Q => ∃ (a D : Addr) (c : V) (cv : Value) (b : Bool), xs = [.ref a, c] ∧ IsX H a D ∧ ExcC K D ∧ (∀ u, RelV c u → u = cv) ∧ PySem.W.kitOne K (.ref D) cv = some b ∧ Q (.bl b) H
theorem ExcC.kit {K : PySem.W.Frag} {D x : Addr} {ox : Obj} {od : Option Obj} (C : ExcC K D) : PySem.W.KitX K (.ref x) (.ref D) fun h => PySem.W.InstAt h x ox D od := by
  obtain ⟨cd, hc, _⟩ := PySem.W.any_some C.hd
  exact PySem.W.kitx_exc (by rw [hc]; rfl) C.hg C.hk C.hs C.ha C.hn C.ht C.hm
/-- such an exception stands in memory as an instance of its class -/
theorem IsX.inst {P : Program} {w : World} {H : Hp} {h : Heap} {a D : Addr} (k : HOk P w H h) (x : IsX H a D) : ∃ ox od, PySem.W.InstAt h a ox D od := by
  rcases x with x | ⟨d, fs, x, y⟩
  · obtain ⟨_, e⟩ := exo_at k x
    exact ⟨_, none, e, rfl, rfl, trivial⟩
  · obtain ⟨_, e⟩ := exo_at k x
    obtain ⟨m, n, _⟩ := exd_at k y
    obtain ⟨od, z, _⟩ := lookIn_ns n
    exact ⟨_, some od, e, rfl, rfl, z⟩
theorem call_isX {X : Cx} : CallR X (.builtin "isinstance") (rIsX X.K) := fun pins s σ H xs us Q I rel ⟨a, D, c, cv, b, ex, x, C, one, ans, q⟩ => by
  subst ex
  obtain ⟨u, v, rfl, ru, rv⟩ := vals2 rel
  have ru : u = Value.ref a := ru
  have ev := one v rv
  subst ru ev
  obtain ⟨ox, od, J⟩ := x.inst I.hok
  exact PySem.W.kia_one C.kit I.kIn J ans (fun z => nomatch z) fun tt => ⟨.bl b, H, I.kept (t' := tt) fun _ _ z => z, rfl, q⟩
/-- C(), no __init__ of its own -/
def tMk0 (C : Addr) : TE := fun σ H Q => ∀ a, H a = none → Q (.ref a) (upd H a (exo a C none))
theorem pe_mk0 {X : Cx} {C : Addr} {bmB : List Value} {B newId initId : String} {x : Str} {p pos : Pos} (F : ExcBaseFacts B newId initId bmB) (q : PySem.W.excIn X.K C bmB newId = true) (gC : X.mg x = some (.ref C)) (kC : PySem.W.keepIn X.K (.ref C) = true) (hg : Gl X x)
    (dbg : (x == ("__debug__" : Str)) = false := by decide) : PE X (.Call (.Name x p) [] [] pos) (tMk0 C) := ⟨fun pins s σ H Q I h => by
  refine wpAny_Call_Name_kw (ld_glob I hg gC (PySem.W.callWith_K0 I.kIn kC ?_) dbg)
  obtain ⟨bm, N, nm, qn, bs, dct, sn, sub, ab, col, dd, a0, a1, a2, a3, a5, mN, c1, c2, c3, T⟩ := exc_obj I.kIn q
  obtain ⟨hp, gs, dr, t, os⟩ := s
  refine wpAny_call_exc_subT F T c1 c2 c3 (fun h' e m => ?_) (Nat.zero_le sizeLine)
  have free : H e = none := I.hok.gone m.new
  obtain ⟨_, here, _, _⟩ := m.there
  exact ⟨.ref e, _, I.laidN (t' := t) m.keeps m.new free (exo_ok here), rfl, h e free⟩⟩
end L2

namespace LamV
open PySem PySem.Spec PyProof.Rows L2 LamX NdefX
/-- the words of a lambda that captures nothing -/
structure LF where
  qual : Str
  params : Arguments
  body : Expr
  scope : Scope
/-- the object at f is the lambda F with the code object c -/
def LamO (f c : Addr) (F : LF) : HO := .ext fun h => ∃ (pm ctv : Value), h.get? f = some (PySem.W.kla_obj "<lambda>" F.qual F.params F.body F.scope [] pm c ctv)
theorem lamO_at {P : Program} {w : World} {H : Hp} {h : Heap} {f c : Addr} {F : LF} (hok : HOk P w H h) (e : H f = some (LamO f c F)) : ∃ (pm ctv : Value), h.get? f = some (PySem.W.kla_obj "<lambda>" F.qual F.params F.body F.scope [] pm c ctv) := by
  obtain ⟨z, _, _⟩ := hok f _ e
  exact z
def IsLam (H : Hp) (f : Addr) (F : LF) : Prop := ∃ c, H f = some (LamO f c F) ∧ H c = some (CodeO c F.qual)
section
variable {X : Cx} {pins : List (Addr × Obj)} {σ : L2.St} {H : Hp} {s : Shared}
theorem clo_none {cells : List (Str × Addr)} {names : List (Str × NameKind)} (h : ∀ y ∈ names, y.2 ≠ .free) : cloFrom cells names [] = [] := by
  cases e : cloFrom cells names [] with
  | nil => rfl
  | cons p l =>
    have m : (p.1, p.2) ∈ cloFrom cells names [] := e ▸ List.mem_cons_self
    rcases cloFrom_mem m with z | ⟨z, _⟩
    · exact nomatch z
    · exact (h _ z rfl).elim
/-- the abstract heap with one more code object c in the table P -/
noncomputable abbrev more (H : Hp) (P : Addr) (ps : Array Value) (pos : Pos) (c : Addr) (q : Str) : Hp := upd (upd H P (.tbl (ps ++ #[rawInt pos.line, rawInt pos.col, .ref c]))) c (CodeO c q)
theorem more_ext {P c : Addr} {ps : Array Value} {pos : Pos} {q : Str} (hP : H P = some (.tbl ps)) (free : H c = none) : ExtN H (more H P ps pos c q) := by
  intro b o e n
  have ne : b ≠ P := by
    rintro rfl
    exact n ps (Option.some.inj (e.symm.trans hP))
  exact (upd_ne (ne_of_none e free)).trans ((upd_ne ne).trans e)
theorem more_tabs {T : List (Addr × Str)} {P c : Addr} {ps : Array Value} {pos : Pos} {q : Str} (t : Tabs T H) (only : ∀ p ∈ T, p.1 = P → p.2 = q) (hP : H P = some (.tbl ps)) (free : H c = none) : Tabs T (more H P ps pos c q) := by
  have ext := more_ext (pos := pos) (q := q) hP free
  rintro ⟨A, r⟩ m
  obtain ⟨rs, e, ok, tells⟩ := t _ m
  by_cases z : A = P
  · subst z
    cases e.symm.trans hP
    have eq : r = q := only _ m rfl
    subst eq
    have l : (ps ++ #[rawInt pos.line, rawInt pos.col, .ref c]).toList = ps.toList ++ [rawInt pos.line, rawInt pos.col, .ref c] := by rw [Array.toList_append]
    refine ⟨_, (upd_ne (ne_of_none hP free)).trans upd_same, l ▸ TriplesOk_snoc _ _ _ _ ok, fun p' cv y => ?_⟩
    rw [l] at y
    rcases among_app _ ok y with y | y
    · obtain ⟨d, d1, d2⟩ := tells p' cv y
      exact ⟨d, d1, ext _ _ d2 codeO_ne⟩
    · exact ⟨c, y, upd_same⟩
  · refine ⟨rs, (upd_ne (ne_of_none e free)).trans ((upd_ne z).trans e), ok, fun p' cv y => ?_⟩
    obtain ⟨d, d1, d2⟩ := tells p' cv y
    exact ⟨d, d1, ext _ _ d2 codeO_ne⟩
/-- the function object is laid down -/
theorem lam_laid {F : LF} {c : Addr} {tk : Nat} {pm ctv : Value} {H0 : Hp} {T : List (Addr × Str)} (J : Inv X pins σ H s) (ext : ExtN H0 H) (t : Tabs T H) (hc : H c = some (CodeO c F.qual)) :
    ∃ H1, Inv X pins σ H1 { s with heap := s.heap.push (PySem.W.kla_obj "<lambda>" F.qual F.params F.body F.scope [] pm c ctv), toks := tk } ∧ ExtN H0 H1 ∧ Tabs T H1 ∧ IsLam H1 s.heap.objs.size F := by
  have free : H s.heap.objs.size = none := J.hok.fresh (Nat.le_refl _)
  have at_ : (s.heap.push (PySem.W.kla_obj "<lambda>" F.qual F.params F.body F.scope [] pm c ctv)).get? s.heap.objs.size = some _ := Heap.get?_push_size s.heap rfl
  have keep : ∀ b o, H b = some o → upd H s.heap.objs.size (LamO s.heap.objs.size c F) b = some o := fun b o e => (upd_ne (ne_of_none e free)).trans e
  refine ⟨upd H s.heap.objs.size (LamO s.heap.objs.size c F), J.laid (fun b u e => Heap.get?_push_of_some _ e) (Nat.le_refl _) ⟨⟨pm, ctv, at_⟩, ⟨_, at_⟩, ?_⟩, fun b o e n => keep b o (ext b o e n), t.ext keep, c, upd_same, keep _ _ hc⟩
  rintro _ _ ⟨p, u, z⟩ st
  exact ⟨p, u, st _ z⟩
theorem lam_makeV {T : List (Addr × Str)} {c P : Addr} {params : Arguments} {body : Expr} {scope : Scope} {pos : Pos} {E : Value → Shared → Prop} {Q : Value → Shared → Prop} (I : Inv X pins σ H s) (TB : TabB X.base X.mg c P) (own : X.env.code = .ref c)
    (hm : (P, X.env.qual ++ "<lambda>") ∈ T) (only : ∀ p ∈ T, p.1 = P → p.2 = X.env.qual ++ "<lambda>") (t : Tabs T H) (hdef : defaultsOf params X.env = ([], [])) (hfree : ∀ y ∈ scope.names, y.2 ≠ .free)
    (h : ∀ (f : Addr) (H1 : Hp) (s' : Shared), Inv X pins σ H1 s' → ExtN H H1 → Tabs T H1 → H f = none → IsLam H1 f ⟨X.env.qual ++ "<lambda>", params, body, scope⟩ → Q (.ref f) s') :
    wpAny (model X.prog X.w) X.A (eval (.Lambda params body scope pos) X.env) Q E s := by
  obtain ⟨ps, eP, ok, tells⟩ := t _ hm
  have clo : closureFor scope X.env = pure [] := (closure_ok (scope := scope) (env := X.env) fun y m z => (hfree y m z).elim).trans (congrArg pure (clo_none hfree))
  have glob := I.mod.glob.keeps I.bk
  have code := TB.code.keeps I.bk
  have rows : s.heap.get? P = some { cls := .none, data := .fields ps } := I.hok P _ eP
  refine PySem.W.kla_eval hdef ?_
  cases am : codeAmong pos ps.toList with
  | some cv =>
    obtain ⟨d, rfl, d2⟩ := tells pos cv am
    refine PySem.W.kla_makeFunctionHit (mg := X.mg) (c := c) (P := P) (ps := ps) clo I.ok.glob glob own code rows ok am (TB.bm.keeps I.bk) fun ctv h' tk keep _ => ?_
    have J : Inv X pins σ H { s with heap := h', toks := tk } := I.kept keep
    obtain ⟨H1, J1, e1, t1, l1⟩ := lam_laid (F := ⟨X.env.qual ++ "<lambda>", params, body, scope⟩) (tk := tk) (pm := (X.mg "__name__").getD .none) (ctv := ctv) J (ExtN.refl H) t d2
    exact h _ H1 _ J1 e1 t1 (J.hok.fresh (Nat.le_refl _)) l1
  | none =>
    refine PySem.W.kla_makeFunction (mg := X.mg) (c := c) (P := P) (ps := ps) clo I.ok.glob glob own code rows ok am TB.gP (TB.bm.keeps I.bk) fun d ctv h' tk keep ge lt rec grew => ?_
    obtain ⟨d', oc, vs, tok, ed, r1, r2, r3⟩ := rec
    cases ed
    have free : H d = none := I.hok.fresh ge
    have J := inv_table (t' := tk) (more := #[rawInt pos.line, rawInt pos.col, .ref d]) I eP (fun b o n e => keep b o n e) grew ge ⟨oc, vs, tok, r1, r2, r3⟩
    obtain ⟨H1, J1, e1, t1, l1⟩ := lam_laid (F := ⟨X.env.qual ++ "<lambda>", params, body, scope⟩) (tk := tk) (pm := (X.mg "__name__").getD .none) (ctv := ctv) J (more_ext eP free) (more_tabs t only eP free) upd_same
    exact h _ H1 _ J1 e1 t1 (I.hok.fresh (Nat.le_trans ge (Nat.le_of_lt lt))) l1
end
/-- the reading of a lambda as a value -/
def tLamV (T : List (Addr × Str)) (F : LF) : TE := fun σ H Q => Tabs T H ∧ ∀ (f : Addr) (H1 : Hp), ExtN H H1 → Tabs T H1 → H f = none → IsLam H1 f F → Q (.ref f) H1
theorem pe_lamV {X : Cx} {T : List (Addr × Str)} {c P : Addr} {params : Arguments} {body : Expr} {scope : Scope} {pos : Pos} {q : Str} (TB : TabB X.base X.mg c P) (hcode : X.env.code = .ref c) (hq : X.env.qual ++ "<lambda>" = q)
    (hm : (P, q) ∈ T) (hu : ∀ p ∈ T, p.1 = P → p.2 = q) (hdef : defaultsOf params X.env = ([], [])) (hfree : ∀ y ∈ scope.names, y.2 ≠ .free) : PE X (.Lambda params body scope pos) (tLamV T ⟨q, params, body, scope⟩) := by
  subst hq
  refine ⟨fun pins s σ H Q I h => ?_⟩
  obtain ⟨hT, h⟩ := h
  exact lam_makeV I TB hcode hm hu hT hdef hfree fun f H1 s' I1 e1 e2 e3 e4 => ⟨.ref f, H1, I1, rfl, h f H1 e1 e2 e3 e4⟩
/-! ### its promise -/
structure LOk (P : Program) (w : World) (K : PySem.W.Frag) (mg : Str → Option Value) (base : Heap) (CX : CXT) (k : Nat) (F : LF) (sp : Sp) : Prop where
  run : ∀ (f : Addr) (A : Around) (outer : List Env) (s : Shared) (H : Hp) (us : List Value) (vs : List V) (Q : VK) (E : XK), Room k A → Env0 P w K mg base A outer s H → IsLam H f F → Vals vs us → sp vs H Q E →
    codeAny (model P w) A (.call (.ref f) ⟨us, []⟩) (CR CX outer P w H s Q E) s
abbrev nfOf (F : LF) (c : Addr) : NF := ⟨"<lambda>", F.qual, F.params, [], F.scope, [], c⟩
theorem lok_of {CX : CXT} {P : Program} {w : World} {K : PySem.W.Frag} {mg : Str → Option Value} {base : Heap} {ps : List Str} {F : LF} {k : Nat} {sp : Sp} (S : NScope ps ps [] F.scope)
    (bind : ∀ (pm cv ctv : Value) (us : List Value), us.length = ps.length → bindArgs (PySem.W.kla_fn "<lambda>" F.qual F.params F.body F.scope [] pm cv ctv) ⟨us, []⟩ = pure (ps.zip us)) (len : ∀ vs H Q E, sp vs H Q E → vs.length = ps.length)
    (hbody : ∀ (f c : Addr) (A : Around) (outer : List Env) (s : Shared) (H : Hp) (vs : List V) (Q : VK) (E : XK), Room k (A.deeper (envF (nfOf F c) f s.heap.objs.size)) → sp vs H Q E →
      ∃ t, PE (ncx CX P w K mg base ps (nfOf F c) f A outer s H E) F.body t ∧ t (startF ps vs []) H Q) : LOk P w K mg base CX (k + 1) F sp := ⟨fun f A outer s H us vs Q E room e0 ⟨c, isF, isC⟩ rel want => by
  have many := len _ _ _ _ want
  obtain ⟨pm, ctv, obj⟩ := lamO_at e0.hok isF
  obtain ⟨t, pe, rd⟩ := hbody f c A outer s H vs Q E (room.deeper _) want
  have nl : s.heap.NoLimit := e0.mod.nolimit.keeps fun b o z => (e0.bs b o z).1
  have cells : CellsAt (nfOf F c).cl [] [] s.heap H := ⟨rfl, fun _ _ z => (nomatch (show (none : Option Addr) = some _ from z)), fun _ _ _ z => (nomatch (show (none : Option Addr) = some _ from z)), fun _ _ z => by simp at z⟩
  refine PySem.W.kla_callFunE room.depth obj rfl S.co S.gen rfl (codeO_at e0.hok isC) ?_
  rw [bind pm (.ref c) ctv us (rel.length.symm.trans many)]
  refine wpAny_pure (wpAny_newFunctionEnv S.nocell (fun y m => S.par y.1 (List.of_mem_zip m).1) (fun g space but => ⟨nl.fresh _ but, ?_⟩) S.kind)
  have J : Inv (ncx CX P w K mg base ps (nfOf F c) f A outer s H E) [] (startF ps vs []) H { s with heap := g, toks := s.toks + (ps.zip us).length } :=
    inv_startN S room.hd e0 many rel cells space fun b o z => but.extBut b o (Nat.ne_of_lt (Heap.lt_size z)) (Heap.get?_push_of_some _ z)
  show codeAny (model P w) _ (.expr F.body _) _ _
  refine PySem.W.kla_codeExpr (wpAny_mono (pe.run [] _ _ H Q J rd) ?_ fun _ _ z => z)
  rintro v s' ⟨x, H', L, rx, q⟩
  exact ⟨x, H', L.os, L.bare, L.base, L.hok, rx, q⟩⟩
/-! ### a call of a name that holds a lambda -/
def tLCall (i : Nat) (LK : LF → Sp → Prop) (E : XK) (ta : TA) : TE := fun σ H Q => ∃ (f : Addr) (F : LF) (sp : Sp), σ[i]? = some (some (.ref f)) ∧ IsLam H f F ∧ LK F sp ∧ ta σ H fun vs H1 => IsLam H1 f F ∧ sp vs H1 Q E
theorem IsLam.fn {X : Cx} {pins : List (Addr × Obj)} {σ : L2.St} {H : Hp} {s : Shared} {f : Addr} {F : LF} (l : IsLam H f F) (J : Inv X pins σ H s) : PySem.W.FnAt f s.heap := by
  obtain ⟨c, isF, _⟩ := l
  obtain ⟨pm, ctv, z⟩ := lamO_at J.hok isF
  exact ⟨_, _, _, _, z⟩
theorem pe_lcall {X : Cx} {CX : CXT} {k i : Nat} {x : Str} {e : Expr} {es : List Expr} {ta : TA} {p pos : Pos} {LK : LF → Sp → Prop} {E : XK} (hL : ∀ F sp, LK F sp → LOk X.prog X.w X.K X.mg X.base CX k F sp) (hr : Room k X.A) (hx : Passes CX X E)
    (hN : X.N[i]? = some x) (hv : Vis X.env.scope x) (ha : PA X (e :: es) ta) (hd : (x == ("__debug__" : Str)) = false := by decide) (hcd : (x == ("__classdict__" : Str)) = false := by decide)
    (stars : starEach (e :: es) X.env = (false, eval e X.env) :: starEach es X.env := by rfl) (plain : (backTo pos (starEach es X.env)).any (·.1) = false := by rfl) :
    PE X (.Call (.Name x p) (e :: es) [] pos) (tLCall i LK E ta) := ⟨fun pins s σ H Q I ⟨f, F, sp, at_, lam, ok, h⟩ => by
  refine wpAny_Call_Name_kw (thn ((pe_var (pos := p) (i := i) hN hv hd hcd).run pins s σ H (fun v H1 => v = .ref f ∧ H1 = H) I ⟨.ref f, at_, rfl, rfl⟩) ?_)
  rintro u s1 ⟨v, H1, J, ru, ev, eH⟩
  rw [ev] at ru
  rw [eH] at J
  have ru : u = Value.ref f := ru
  subst ru
  refine PySem.W.callWith_F (lam.fn J) (thn (ha.run pos pins s1 σ H _ J h) ?_) stars plain
  rintro us s2 ⟨vs, H2, L, rel, lam2, want⟩
  refine ⟨lam2.fn L, wpAny_call (codeAny_mono ((hL F sp ok).run f X.A X.stack s2 H2 us vs Q E hr L.env0 lam2 rel want) fun r s' z => ?_)⟩
  match r, z with
  | .error y, z => exact hx pins σ H2 s2 y s' L z
  | .ok (.ret y), z => exact L.after z
  | .ok .next, z => exact z.elim
  | .ok .brk, z => exact z.elim
  | .ok .cont, z => exact z.elim⟩
end LamV

namespace L2
open PySem PySem.Spec PyProof.Rows
def keyD : Key → PyData
  | .inl i => .int i
  | .inr x => .str x
/-- the value v, read through H, is the datum d; nesting below n -/
def RdD (H : Hp) : Nat → V → PyData → Prop
  | 0 => fun _ _ => False
  | n + 1 => fun v d => match d with
    | .none => v = .non
    | .bool b => v = .bl b
    | .int i => v = .int i
    | .str x => v = .str x
    | .list xs => ∃ a ys, v = .ref a ∧ H a = some (.lst ys) ∧ Paired (RdD H n) ys xs
    | .tuple xs => ∃ a ys, v = .ref a ∧ H a = some (.tup ys) ∧ Paired (RdD H n) ys xs
    | .dict kvs => ∃ a ks, v = .ref a ∧ H a = some (.dK ks) ∧ Paired (fun (p : Key × V) (q : PyData × PyData) => q.1 = keyD p.1 ∧ RdD H n p.2 q.2) ks kvs
theorem RdD.ext {H H' : Hp} (e : ∀ b o, H b = some o → (∃ xs, o = .lst xs) ∨ (∃ xs, o = .tup xs) ∨ (∃ xs, o = .dK xs) → H' b = some o) : ∀ {n : Nat} {v : V} {d : PyData}, RdD H n v d → RdD H' n v d
  | 0, _, _, h => h.elim
  | n + 1, v, d, h => by
    cases d with
    | none => exact h
    | bool b => exact h
    | int i => exact h
    | str x => exact h
    | list xs =>
      obtain ⟨a, ys, h1, h2, h3⟩ := h
      exact ⟨a, ys, h1, e _ _ h2 (.inl ⟨_, rfl⟩), Paired.mapP h3 fun _ _ z => RdD.ext e z⟩
    | tuple xs =>
      obtain ⟨a, ys, h1, h2, h3⟩ := h
      exact ⟨a, ys, h1, e _ _ h2 (.inr (.inl ⟨_, rfl⟩)), Paired.mapP h3 fun _ _ z => RdD.ext e z⟩
    | dict kvs =>
      obtain ⟨a, ys, h1, h2, h3⟩ := h
      exact ⟨a, ys, h1, e _ _ h2 (.inr (.inr ⟨_, rfl⟩)), Paired.mapP h3 fun _ _ z => ⟨z.1, RdD.ext e z.2⟩⟩
section
variable {P : Program} {w : World} {H : Hp} {h : Heap}
theorem reads_all {F : V → PyData → Prop} (ih : ∀ v d u, F v d → RelV v u → ∃ as, Reads h u d as ∧ sysModules ∉ as) : ∀ {ys : List V} {xs : List PyData} {us : List Value}, Paired F ys xs → Vals ys us → ∃ as, ReadsAll h us xs as ∧ sysModules ∉ as
  | _, _, _, .nil, .nil => ⟨[], .nil, by simp⟩
  | _, _, _, .cons f t, .cons r q => by
    obtain ⟨a1, r1, n1⟩ := ih _ _ _ f r
    obtain ⟨a2, r2, n2⟩ := reads_all ih t q
    exact ⟨a1 ++ a2, .cons r1 r2, fun z => (List.mem_append.mp z).elim n1 n2⟩
theorem reads_keys {F : V → PyData → Prop} : ∀ {ks : List (Key × V)} {vs : List (Key × Value)} {es : List DictEntry} {kvs : List (PyData × PyData)}, KV ks vs → Pairs (mixKind P w) es vs → Paired (fun (p : Key × V) (q : PyData × PyData) => q.1 = keyD p.1 ∧ F p.2 q.2) ks kvs →
    ReadsAll h (es.map (·.key)) (kvs.map (·.1)) [] ∧ Vals (ks.map (·.2)) (es.map (·.val)) ∧ Paired F (ks.map (·.2)) (kvs.map (·.2))
  | _, _, _, _, .nil, .nil, .nil => ⟨.nil, .nil, .nil⟩
  | _, _, _, _, .cons (a := p) (b := q) r t, .cons (e := e) h1 h2 t2, .cons (b := z) f t3 => by
    obtain ⟨i1, i2, i3⟩ := reads_keys t t2 t3
    obtain ⟨r1, r2⟩ := r
    obtain ⟨f1, f2⟩ := f
    have hk : Reads h e.key z.1 [] := by
      rw [f1, r1]
      have h1' : keyIs q.1 e.key = true := h1
      rcases keyIs_shape h1' with ⟨i, t, e1, e2⟩ | ⟨x, t, e1, e2⟩
      · rw [e1, e2]; exact .int i t
      · rw [e1, e2]; exact .str x t
    refine ⟨.cons (as := []) (bs := []) hk i1, .cons ?_ i2, .cons f2 i3⟩
    show RelV p.2 e.val
    rw [h2]; exact r2
theorem rdD_reads (hok : HOk P w H h) (hs : H sysModules = none) : ∀ (n : Nat) (v : V) (d : PyData) (u : Value), RdD H n v d → RelV v u → ∃ as, Reads h u d as ∧ sysModules ∉ as
  | 0, _, _, _, r, _ => r.elim
  | n + 1, v, d, u, r, rv => by
    have ne : ∀ {a : Addr} {o : HO}, H a = some o → sysModules ≠ a := fun {a o} e z => by
      rw [← z, hs] at e
      cases e
    cases d with
    | none =>
      have r' : v = .non := r
      subst r'
      obtain rfl : u = Value.none := rv
      exact ⟨[], .none, by simp⟩
    | bool b =>
      have r' : v = .bl b := r
      subst r'
      obtain rfl : u = Value.bool b := rv
      exact ⟨[], .bool b, by simp⟩
    | int i =>
      have r' : v = .int i := r
      subst r'
      obtain ⟨t, rfl⟩ := rv
      exact ⟨[], .int i t, by simp⟩
    | str x =>
      have r' : v = .str x := r
      subst r'
      obtain ⟨t, rfl⟩ := rv
      exact ⟨[], .str x t, by simp⟩
    | list xs =>
      obtain ⟨a, ys, rfl, h2, h3⟩ := r
      obtain rfl : u = Value.ref a := rv
      obtain ⟨_, its, m, rr, e⟩ := hok a _ h2
      obtain ⟨as, q1, q2⟩ := reads_all (fun v d u => rdD_reads hok hs n v d u) h3 rr
      exact ⟨a :: as, .list e rfl rfl (by simpa using q1), fun z => (List.mem_cons.mp z).elim (ne h2) q2⟩
    | tuple xs =>
      obtain ⟨a, ys, rfl, h2, h3⟩ := r
      obtain rfl : u = Value.ref a := rv
      obtain ⟨_, its, rr, o, e, ec, m, ed⟩ := hok a _ h2
      obtain ⟨as, q1, q2⟩ := reads_all (fun v d u => rdD_reads hok hs n v d u) h3 rr
      exact ⟨as, .tuple e ec ed (by simpa using q1), q2⟩
    | dict kvs =>
      obtain ⟨a, ks, rfl, h2, h3⟩ := r
      obtain rfl : u = Value.ref a := rv
      obtain ⟨_, _, vs, rr, o, es, ep, e, ex, ed, _, pr, _⟩ := hok a _ h2
      obtain ⟨k1, k2, k3⟩ := reads_keys (h := h) rr pr h3
      obtain ⟨as, q1, q2⟩ := reads_all (fun v d u => rdD_reads hok hs n v d u) k3 k2
      exact ⟨a :: [] ++ as, .dict e ex.1 ed k1 q1, fun z => (List.mem_cons.mp z).elim (ne h2) q2⟩
end
/-- repr of a list, tuple, dict -/
def rRepr : List V → Hp → VK → Prop := fun xs H Q => ∃ (a : Addr) (n : Nat) (d : PyData), xs = [.ref a] ∧ RdD H n (.ref a) d ∧ d.showable = true ∧ d.depth ≤ 40 ∧ d.shown.length ≤ sizeLine ∧ Q (.str d.shown) H
theorem call_reprD {X : Cx} (hG : X.A.guards = some []) (hu : X.A.units + 64 < cLine) (hS : (X.K.lookup sysModules).isSome = true) : CallR X (.builtin "repr") rRepr := by
  intro pins s σ H xs us Q I r h
  obtain ⟨a, n, d, rfl, hd, hs, hdp, hsz, q⟩ := h
  obtain ⟨u1, rfl, r1⟩ := vals1 r
  obtain rfl : u1 = Value.ref a := r1
  obtain ⟨o, ho⟩ := Option.isSome_iff_exists.mp hS
  have hn : H sysModules = none := (I.bs _ _ (I.ok.mod.kin _ _ ho)).2
  obtain ⟨as, hr, hm⟩ := rdD_reads I.hok hn n (.ref a) d (.ref a) hd rfl
  exact repr_of_reads' hr hs (fun _ => hm) hG (by omega) (fun _ _ z => z) (fun h' u tk hk => ⟨.str d.shown, H, I.kept (t' := tk) hk, ⟨u, rfl⟩, q⟩) hsz
end L2

/-! the law's call, asked at the caller's own surroundings: what is tracked at its begin, and what its end leaves -/
namespace LamX
open PySem PySem.Spec PyProof.Rows L2
abbrev noRows : Obj := { cls := .none, data := .fields #[] }
abbrev scrO (us : List Value) : Obj := { cls := .type "list", data := .seq us.toArray }
/-- the begin: the script at a; ts: code objects with their tables, which are empty -/
structure Beg (K : PySem.W.Frag) (mg mb : Str → Option Value) (ts : List (Addr × Addr)) (s : Shared) (a : Addr) (us : List Value) (ns : List Int) : Prop where
  frag : K.In s.heap
  glob : s.heap.Ns mainGlobals mg
  blt : s.heap.Ns builtinsNs mb
  bltW : ∀ x : Str, x ≠ "__name__" → mb x = bootBuiltins x
  lim : s.heap.NoLimit
  gens : s.gens = #[]
  rows : ∀ p, p ∈ ts → s.heap.get? p.2 = some noRows
  out : ∀ p, p ∈ ts → K.lookup p.2 = none
  code : ∀ p, p ∈ ts → PySem.W.CodeHd s.heap p.1 p.2
  bmod : ∃ (m : Addr) (o : Obj), mg "__builtins__" = some (.ref m) ∧ m ≠ builtinsNs ∧ s.heap.get? m = some o ∧ o.cls = .type "module" ∧ o.dict = some builtinsNs ∧ o.data = .plain
  scr : s.heap.get? a = some (scrO us)
  nums : IntsAre us ns
  few : ns.length ≤ sizeLine
/-- what is tracked at the begin -/
noncomputable def begH (K : PySem.W.Frag) (ts : List (Addr × Addr)) (a : Addr) (us : List Value) (ns : List Int) : Hp := fun b =>
  match decide (b ∈ ts.map Prod.snd), decide (b = a), K.lookup a with
  | true, _, _ => some (.tbl #[])
  | false, true, none => some (.frz (scrO us) (.lst (ns.map V.int)))
  | false, true, some _ => none
  | false, false, _ => none
section
variable {K : PySem.W.Frag} {mg mb : Str → Option Value} {ts : List (Addr × Addr)} {s : Shared} {a : Addr} {us : List Value} {ns : List Int}
theorem begH_ways (b : Addr) : (b ∈ ts.map Prod.snd ∧ begH K ts a us ns b = some (.tbl #[])) ∨ (b ∉ ts.map Prod.snd ∧ b = a ∧ K.lookup a = none ∧ begH K ts a us ns b = some (.frz (scrO us) (.lst (ns.map V.int)))) ∨
    (b ∉ ts.map Prod.snd ∧ begH K ts a us ns b = none ∧ (b = a → K.lookup a ≠ none)) := by
  unfold begH
  by_cases m : b ∈ ts.map Prod.snd
  · exact .inl ⟨m, by rw [decide_eq_true m]⟩
  · rw [decide_eq_false m]
    by_cases q : b = a
    · rw [decide_eq_true q]
      cases k : K.lookup a with
      | none => exact .inr (.inl ⟨m, q, rfl, rfl⟩)
      | some o => exact .inr (.inr ⟨m, rfl, fun _ z => by cases z⟩)
    · rw [decide_eq_false q]
      exact .inr (.inr ⟨m, rfl, fun z => absurd z q⟩)
theorem snd_mem {p : Addr × Addr} (h : p ∈ ts) : p.2 ∈ ts.map Prod.snd := List.mem_map_of_mem h
theorem begH_tab {p : Addr × Addr} (h : p ∈ ts) : begH K ts a us ns p.2 = some (.tbl #[]) := by
  unfold begH
  rw [decide_eq_true (snd_mem h)]
namespace Beg
variable (B : Beg K mg mb ts s a us ns)
include B
theorem at_tab {b : Addr} (h : b ∈ ts.map Prod.snd) : s.heap.get? b = some noRows := by
  obtain ⟨p, m, rfl⟩ := List.mem_map.mp h
  exact B.rows p m
theorem no_tab : a ∉ ts.map Prod.snd := fun z => by
  have q := (B.at_tab z).symm.trans B.scr
  cases q
/-- neither a list nor a table without rows: it is not tracked -/
theorem loose {b : Addr} {o : Obj} (e : s.heap.get? b = some o) (h : match o.data with
    | .seq _ _ => False
    | .fields vs => vs ≠ #[]
    | _ => True) : begH K ts a us ns b = none := by
  rcases begH_ways (K := K) (ts := ts) (a := a) (us := us) (ns := ns) b with ⟨m, _⟩ | ⟨_, q, _, _⟩ | ⟨_, z, _⟩
  · cases (B.at_tab m).symm.trans e
    exact absurd rfl h
  · subst q
    cases B.scr.symm.trans e
    exact h.elim
  · exact z
noncomputable abbrev base (_ : Beg K mg mb ts s a us ns) : Heap := hidT s.heap (begH K ts a us ns)
theorem seen {b : Addr} {o : Obj} (e : s.heap.get? b = some o) (h : match o.data with
    | .seq _ _ => False
    | .fields vs => vs ≠ #[]
    | _ => True) : B.base.get? b = some o := hidT_get e (B.loose e h)
theorem space {b : Addr} {m : Str → Option Value} (z : s.heap.Ns b m) : B.base.Ns b m := by
  obtain ⟨o, es, ep, e, d, r⟩ := z
  exact ⟨o, es, ep, B.seen e (by rw [d]; trivial), d, r⟩
theorem kin : K.In B.base := fun b o e => by
  refine hidT_get (B.frag b o e) ?_
  rcases begH_ways (K := K) (ts := ts) (a := a) (us := us) (ns := ns) b with ⟨m, _⟩ | ⟨_, q, k, _⟩ | ⟨_, z, _⟩
  · obtain ⟨p, hp, rfl⟩ := List.mem_map.mp m
    rw [B.out p hp] at e
    cases e
  · rw [q, k] at e
    cases e
  · exact z
theorem module_ : L2.Mod K mg B.base where
  kin := B.kin
  glob := B.space B.glob
  blt := ⟨mb, B.space B.blt, B.bltW⟩
  nolimit := by
    obtain ⟨mc, z, q⟩ := B.lim
    exact ⟨mc, B.space z, q⟩
theorem table {p : Addr × Addr} (hp : p ∈ ts) : TabB B.base mg p.1 p.2 where
  code := by
    obtain ⟨o, vs, c1, c2, c3, c4, c5, c6, c7, e, d1, d2, d3, d4⟩ := B.code p hp
    refine ⟨o, vs, c1, c2, c3, c4, c5, c6, c7, B.seen e ?_, d1, d2, d3, d4⟩
    rw [d2]
    intro z
    rw [z] at d3
    cases d3
  bm := by
    obtain ⟨m, o, e1, e2, e3, e4, e5, e6⟩ := B.bmod
    refine ⟨m, o, e1, e2, fun z => ?_, fun z => ?_, B.seen e3 (by rw [e6]; trivial), e4, e5, e6⟩
    · obtain ⟨u, es, ep, g1, g2, _⟩ := B.glob
      rw [z, g1] at e3
      rw [Option.some.inj e3, e6] at g2
      cases g2
    · rw [z, B.rows p hp] at e3
      rw [← Option.some.inj e3] at e6
      cases e6
  gP := fun z => by
    obtain ⟨u, es, ep, g1, g2, _⟩ := B.glob
    rw [z, B.rows p hp] at g1
    rw [← Option.some.inj g1] at g2
    cases g2
theorem fine {P : Program} {w : World} : HOk P w (begH K ts a us ns) s.heap := fun b o e => by
  rcases begH_ways (K := K) (ts := ts) (a := a) (us := us) (ns := ns) b with ⟨m, q⟩ | ⟨_, q1, _, q⟩ | ⟨_, q, _⟩
  · cases q.symm.trans e
    exact B.at_tab m
  · cases q.symm.trans e
    subst q1
    exact ⟨B.scr, by rw [List.length_map]; exact B.few, us, _, vals_ints B.nums, B.scr⟩
  · cases q.symm.trans e
theorem script : SqL K (begH K ts a us ns) a (ns.map V.int) := by
  rcases begH_ways (K := K) (ts := ts) (a := a) (us := us) (ns := ns) a with ⟨m, _⟩ | ⟨_, _, _, q⟩ | ⟨_, _, q⟩
  · exact absurd m B.no_tab
  · exact .inl (.inr ⟨_, q⟩)
  · cases k : K.lookup a with
    | none => exact absurd k (q rfl)
    | some o =>
      cases (B.frag a o k).symm.trans B.scr
      exact .inr ⟨_, us.toArray, _, k, rfl, rfl, rfl, by rw [List.size_toArray, B.nums.length]; exact B.few, vals_ints B.nums⟩
theorem env {P : Program} {w : World} : Env0 P w K mg B.base callerA [] s (begH K ts a us ns) where
  frames := rfl
  mod := B.module_
  bs := fun _ _ e => of_hidT e
  bsz := Nat.le_of_eq (hidT_size s.heap _)
  funs := trivial
  frf := fun b m => nomatch m
  hok := B.fine
  bare := .of_eq B.gens
/-- behind the call -/
theorem left {P : Program} {w : World} {H : Hp} {s' : Shared} (u : Un [] [] (begH K ts a us ns) H s.heap s'.heap) (k : HOk P w H s'.heap) : OldK s.heap s'.heap := by
  have tb : ∀ {b : Addr}, b ∈ ts.map Prod.snd → ∃ vs : Array Value, s'.heap.get? b = some { cls := .none, data := .fields vs } := fun {b} m => by
    obtain ⟨p, hp, rfl⟩ := List.mem_map.mp m
    obtain ⟨vs, q⟩ := u.tbls p.2 #[] (begH_tab hp)
    exact ⟨_, k p.2 _ q⟩
  have nt : ∀ {b : Addr} {o : Obj}, b ∉ ts.map Prod.snd → s.heap.get? b = some o → s'.heap.get? b = some o := fun {b o} n e => by
    rcases begH_ways (K := K) (ts := ts) (a := a) (us := us) (ns := ns) b with ⟨m, _⟩ | ⟨_, q1, _, q⟩ | ⟨_, q, _⟩
    · exact absurd m n
    · subst q1
      cases B.scr.symm.trans e
      exact (k b _ (u.frzs b _ _ q)).1
    · exact u.keep b o e q List.not_mem_nil List.not_mem_nil
  constructor
  · intro b o e
    by_cases m : b ∈ ts.map Prod.snd
    · obtain ⟨vs, q⟩ := tb m
      obtain ⟨p, hp, rfl⟩ := List.mem_map.mp m
      cases (B.rows p hp).symm.trans e
      exact .inr (.inl ⟨((B.code p hp).tab (B.rows p hp)).isCodeTable, rfl, #[], vs, rfl, by rw [Array.empty_append]; exact q⟩)
    · exact .inl (nt m e)
  · intro b o e
    by_cases m : b ∈ ts.map Prod.snd
    · obtain ⟨vs, q⟩ := tb m
      exact ⟨_, q⟩
    · exact ⟨o, nt m e⟩
end Beg
end
/-- what is asked of a law: its call at the caller's own surroundings, whatever is tracked besides the script and the tables -/
def AskG (l : PySem.W.OpenLaw) (CX : CXT) (n : Nat) (w : World) (mg : Str → Option Value) (fa : Addr) (K : PySem.W.Frag) (ts : List (Addr × Addr)) : Prop := ∀ b : Heap, K.In b → b.Ns mainGlobals mg → (∀ p, p ∈ ts → TabB b mg p.1 p.2) →
  ∀ (s : Shared) (H : Hp) (a : Addr) (ns : List Int), ns.length ≤ n → (∀ p, p ∈ ts → H p.2 = some (.tbl #[])) → SqL K H a (ns.map V.int) → Env0 l.prog w K mg b callerA [] s H →
    codeAny (model l.prog w) callerA (.call (.ref fa) ⟨[.ref a], []⟩) (CR CX [] l.prog w H s (fun v _ => v = .bl true) fun _ _ _ => False) s
theorem walk_ofG {l : PySem.W.OpenLaw} {n : Nat} {q : Program} {loose : List Str} {XP : (Str → Option Value) → Heap → Prop} {YP : World → Heap → Prop} {d : DefRec} {CX : CXT} (h1 : l.most = some n) (h2 : n ≤ sizeLine) (h3 : d.params.defaults = [])
    (F : ∀ (w : World) (mg : Str → Option Value) (fa : Addr) (h : Heap), YP w h → h.Ns mainGlobals mg → mg d.name = some (.ref fa) → ∃ (K : PySem.W.Frag) (ts : List (Addr × Addr)),
      K.In h ∧ (∀ p, p ∈ ts → h.get? p.2 = some noRows) ∧ (∀ p, p ∈ ts → K.lookup p.2 = none) ∧ (∀ p, p ∈ ts → PySem.W.CodeHd h p.1 p.2) ∧ AskG l CX n w mg fa K ts)
    (h4 : ∀ (H : Hp) (s : Shared) (e : Value) (s' : Shared), CX [] H s (fun _ _ _ => False) e s' → False) : PySem.W.WalkO q loose XP YP l.row.toRowW d [] fun f vs => PySem.call f vs := by
  refine Att.attach_callB h1 h3 fun w _ s mg mb fa _ _ _ _ a us ns G Y _ _ _ m scr nums few _ gens => ?_
  obtain ⟨K, ts, k1, k2, k3, k4, ask⟩ := F w mg fa _ Y G.T.g m
  have B : Beg K mg mb ts s a us ns := ⟨k1, G.T.g, G.T.b, G.T.builtins, G.T.nolimit, gens, k2, k3, k4, G.T.bmain, scr, nums, Nat.le_trans few h2⟩
  refine codeAny_mono (ask B.base B.kin (B.space B.glob) (fun p hp => B.table hp) s _ a ns few (fun p hp => begH_tab hp) B.script B.env) fun r s' z => ?_
  match r, z with
  | .error e, z => exact (h4 _ _ e s' z).elim
  | .ok (.ret v), z =>
    obtain ⟨x, H, o1, o2, u, k, rx, ex⟩ := z
    have ex : x = .bl true := ex
    subst ex
    have rx : v = Value.bool true := rx
    subst rx
    exact ⟨rfl, B.left u k, o1, o2⟩
  | .ok .next, z => exact z.elim
  | .ok .brk, z => exact z.elim
  | .ok .cont, z => exact z.elim
end LamX

namespace XK0
open PySem PySem.Spec PyProof.Rows L2
theorem upd3 {H : Hp} {a d : Addr} {o1 o2 o3 : HO} (h : d ≠ a) : upd (upd (upd H a o1) d o2) a o3 = upd (upd H d o2) a o3 := by
  funext b
  by_cases e : b = a
  · rw [e, upd_same, upd_same]
  · rw [upd_ne e, upd_ne e]
    by_cases e2 : b = d
    · rw [e2, upd_same, upd_same]
    · rw [upd_ne e2, upd_ne e2, upd_ne e]
/-- the promise of an __init__ that keeps one thing -/
def spI1 (K : PySem.W.Frag) (f : Str) : Sp := fun vs H Q _ => ∃ (a C : Addr) (y : V), vs = [.ref a, y] ∧ OexC K C ∧ PySem.W.findIn K (.ref C) f = some none ∧ H a = some (exo a C none) ∧ ∀ d, H d = none → d ≠ a → Q .non (upd (upd H d (exd d [(f, y)])) a (exo a C (some d)))
def spI2 (K : PySem.W.Frag) (f g : Str) : Sp := fun vs H Q _ => ∃ (a C : Addr) (y z : V), vs = [.ref a, y, z] ∧ OexC K C ∧ PySem.W.findIn K (.ref C) f = some none ∧ PySem.W.findIn K (.ref C) g = some none ∧ H a = some (exo a C none) ∧
  ∀ d, H d = none → d ≠ a → Q .non (upd (upd H d (exd d [(g, z), (f, y)])) a (exo a C (some d)))
section
variable {P : Program} {w : World} {K : PySem.W.Frag} {mg : Str → Option Value} {base : Heap} {fI : Addr} {fd : FuncData} {params : Arguments} {body : List Stmt} {scope : Scope} {qual f g : Str} {p1 p2 p3 p4 q1 q2 q3 q4 : Pos}
theorem vis_par {N P : List Str} {sc : Scope} (S : FnScope N P sc) {x : Str} (h : x ∈ P) : Vis sc x := (S.par x h).elim (fun z => .inl z) (fun z => .inr (.inl z))
theorem ok_init1 (F : FunD K "__init__" qual params [.Assign [.Attribute (.Name "self" p1) f p2] (.Name f p3) p4] scope [] [] fI fd) (S : FnScope ["self", f] ["self", f] scope) (hd : (f == ("__debug__" : Str)) = false) (hc : (f == ("__classdict__" : Str)) = false) :
    FnOk P w K mg base CX0 1 fI fd ["self", f] (spI1 K f) := by
  refine F.ok S (fun vs H Q E h => ?_) (fun cdv A outer s H vs Q E hr h => ⟨_, PSs.nox (pss_one (ps_ost (pe_var (i := 0) rfl (vis_par S List.mem_cons_self)) (pe_var (i := 1) rfl (vis_par S (List.mem_cons_of_mem _ List.mem_cons_self)) hd hc))), ?_⟩)
  · obtain ⟨a, C, y, rfl, _⟩ := h
    rfl
  · obtain ⟨a, C, y, rfl, T, hno, ha, q⟩ := h
    exact ⟨y, rfl, .ref a, rfl, a, C, rfl, T, hno, .inl ⟨ha, fun dx n ne => q dx n ne⟩⟩
theorem ok_init2 (F : FunD K "__init__" qual params [.Assign [.Attribute (.Name "self" p1) f p2] (.Name f p3) p4, .Assign [.Attribute (.Name "self" q1) g q2] (.Name g q3) q4] scope [] [] fI fd) (S : FnScope ["self", f, g] ["self", f, g] scope)
    (hd : (f == ("__debug__" : Str)) = false) (hc : (f == ("__classdict__" : Str)) = false) (hd2 : (g == ("__debug__" : Str)) = false) (hc2 : (g == ("__classdict__" : Str)) = false) :
    FnOk P w K mg base CX0 1 fI fd ["self", f, g] (spI2 K f g) := by
  refine F.ok S (fun vs H Q E h => ?_) (fun cdv A outer s H vs Q E hr h => ⟨_, PSs.nox (pss_cons (ps_ost (pe_var (i := 0) rfl (vis_par S List.mem_cons_self)) (pe_var (i := 1) rfl (vis_par S (List.mem_cons_of_mem _ List.mem_cons_self)) hd hc))
    (pss_one (ps_ost (pe_var (i := 0) rfl (vis_par S List.mem_cons_self)) (pe_var (i := 2) rfl (vis_par S (List.mem_cons_of_mem _ (List.mem_cons_of_mem _ List.mem_cons_self))) hd2 hc2)))), ?_⟩)
  · obtain ⟨a, C, y, z, rfl, _⟩ := h
    rfl
  · obtain ⟨a, C, y, z, rfl, T, hno, hno2, ha, q⟩ := h
    refine ⟨y, rfl, .ref a, rfl, a, C, rfl, T, hno, .inl ⟨ha, fun dx n ne => ?_⟩⟩
    refine ⟨z, rfl, .ref a, rfl, a, C, rfl, T, hno2, .inr ⟨dx, [(f, y)], upd_same, ?_, by show 1 ≤ 900; omega, ?_⟩⟩
    · rw [upd_ne ne, upd_same]
    · have e : upd (upd (upd H dx (exd dx [(f, y)])) a (exo a C (some dx))) dx (exd dx [(g, z), (f, y)]) = upd (upd H dx (exd dx [(g, z), (f, y)])) a (exo a C (some dx)) := by
        funext b
        by_cases e1 : b = dx
        · rw [e1, upd_same, upd_ne ne, upd_same]
        · rw [upd_ne e1]
          by_cases e2 : b = a
          · rw [e2, upd_same, upd_same]
          · rw [upd_ne e2, upd_ne e1, upd_ne e2, upd_ne e1]
      rw [e]
      exact q dx n ne
end
theorem kbn_of {K : PySem.W.Frag} {x qual : Str} {params : Arguments} {body : List Stmt} {scope : Scope} {f : Addr} {fd : FuncData} {ps : List Str} (F : FunD K x qual params body scope [] [] f fd) (n : Nat) (ks : List Str) (g : {α : Type} → List α → List α → List α)
    (hrel : ∀ {vs zs : List V} {us ws : List Value}, Vals vs us → Vals zs ws → Vals (g vs zs) (g us ws))
    (h : ∀ (kV doc pm : Value) (an : Option Addr) (cdv ct : Value) (us ws : List Value), us.length = n → ws.length = ks.length → bindArgs (PySem.W.fnOf x qual params body scope .none kV doc pm an cdv ct) ⟨us, ks.zip ws⟩ = pure (ps.zip (g us ws))) : KBn K fd ps n ks g g := by
  obtain ⟨oc, od, dV, kV, doc, pm, an, cdv, ct, osl, rfl, lk, hcd, hD, hK⟩ := F.ex
  rcases hD with ⟨_, rfl⟩ | ⟨e, _⟩
  · exact ⟨fun s us ws X l1 l2 => .of_eq (h kV doc pm an cdv ct us ws l1 l2), fun r1 r2 => hrel r1 r2⟩
  · exact absurd rfl e
/-! ### a class of one field, of two -/
structure Ec1 (K : PySem.W.Frag) (mg : Str → Option Value) (x f : Str) (C : Addr) : Prop where
  ox : OexC K C
  gl : mg x = some (.ref C)
  no : PySem.W.findIn K (.ref C) f = some none
  ini : ∃ (fI : Addr) (fd : FuncData), PySem.W.findIn K (.ref C) "__init__" = some (some (.ref fI)) ∧ PySem.W.typeIn K (.ref fI) = some (.type "function") ∧
    (∀ (P : Program) (w : World) (base : Heap), FnOk P w K mg base CX0 1 fI fd ["self", f] (spI1 K f)) ∧ KBn K fd ["self", f] 2 [] (fun us ws => us) (fun us ws => us) ∧ KBn K fd ["self", f] 1 [f] (fun us ws => us ++ ws) (fun us ws => us ++ ws)
structure Ec2 (K : PySem.W.Frag) (mg : Str → Option Value) (x f g : Str) (C : Addr) : Prop where
  ox : OexC K C
  gl : mg x = some (.ref C)
  no : PySem.W.findIn K (.ref C) f = some none
  no2 : PySem.W.findIn K (.ref C) g = some none
  ini : ∃ (fI : Addr) (fd : FuncData), PySem.W.findIn K (.ref C) "__init__" = some (some (.ref fI)) ∧ PySem.W.typeIn K (.ref fI) = some (.type "function") ∧
    (∀ (P : Program) (w : World) (base : Heap), FnOk P w K mg base CX0 1 fI fd ["self", f, g] (spI2 K f g)) ∧ KBn K fd ["self", f, g] 3 [] (fun us ws => us) (fun us ws => us) ∧ KBn K fd ["self", f, g] 1 [g, f] (fun us ws => us ++ ws.reverse) (fun us ws => us ++ ws.reverse)
/-- the reading of a new error -/
def tNew (C : Addr) (fs : List (Str × V)) (Q : VK) (H : Hp) : Prop := ∀ a d, H a = none → H d = none → d ≠ a → Q (.ref a) (upd (upd H d (exd d fs)) a (exo a C (some d)))
section
variable {X : Cx} {x f g : Str} {C : Addr} {e1 e2 : Expr} {t1 t2 : TE} {p pos kp1 kp2 : Pos}
theorem fresh_of {H : Hp} {a d : Addr} {o : HO} (h : upd H a o d = none) : H d = none ∧ d ≠ a := by
  by_cases e : d = a
  · rw [e, upd_same] at h
    cases h
  · rw [upd_ne e] at h
    exact ⟨h, e⟩
def Mo (t : TE) : Prop := ∀ (σ : L2.St) (H : Hp) (Q Q' : VK), (∀ v H', Q v H' → Q' v H') → t σ H Q → t σ H Q'
theorem mo_var (i : Nat) : Mo (tVar i) := fun σ H Q Q' k ⟨v, e, h⟩ => ⟨v, e, k _ _ h⟩
theorem new1_ok {K : PySem.W.Frag} {mg : Str → Option Value} (E : Ec1 K mg x f C) {Q : VK} {H : Hp} {y : V} (h : tNew C [(f, y)] Q H) {a : Addr} (ha : H a = none) : spI1 K f [.ref a, y] (upd H a (exo a C none)) (fun v H2 => v = .non ∧ Q (.ref a) H2) (fun _ _ _ => False) := by
  refine ⟨a, C, y, rfl, E.ox, E.no, upd_same, fun d hd hne => ⟨rfl, ?_⟩⟩
  rw [upd3 hne]
  exact h a d ha (fresh_of hd).1 hne
theorem new2_ok {K : PySem.W.Frag} {mg : Str → Option Value} (E : Ec2 K mg x f g C) {Q : VK} {H : Hp} {y z : V} (h : tNew C [(g, z), (f, y)] Q H) {a : Addr} (ha : H a = none) : spI2 K f g [.ref a, y, z] (upd H a (exo a C none)) (fun v H2 => v = .non ∧ Q (.ref a) H2) (fun _ _ _ => False) := by
  refine ⟨a, C, y, z, rfl, E.ox, E.no, E.no2, upd_same, fun d hd hne => ⟨rfl, ?_⟩⟩
  rw [upd3 hne]
  exact h a d ha (fresh_of hd).1 hne
theorem pe_new1 (E : Ec1 X.K X.mg x f C) (hr : Room 2 X.A) (hg : Gl X x) (h1 : PE X e1 t1) (m1 : Mo t1) (hdb : (x == ("__debug__" : Str)) = false := by decide)
    (he : starEach [e1] X.env = (false, eval e1 X.env) :: starEach [] X.env := by rfl) : PE X (.Call (.Name x p) [e1] [] pos) (fun σ H Q => t1 σ H fun y H1 => tNew C [(f, y)] Q H1) := by
  obtain ⟨fI, fd, i1, i2, i3, i4, _⟩ := E.ini
  have q := pe_mkX (p := p) (pos := pos) (X := X) E.ox i1 i2 (i3 X.prog X.w X.base) hr i4 pass0 hg E.gl (pa_cons h1 pa_nil he) hdb he rfl
  refine ⟨fun pins s σ H Q I h => q.run pins s σ H Q I (m1 _ _ _ _ (fun y H1 h => ?_) h)⟩
  exact ⟨rfl, by omega, rfl, fun a ha => new1_ok E h ha⟩
theorem pe_new1K (E : Ec1 X.K X.mg x f C) (hr : Room 2 X.A) (hg : Gl X x) (h1 : PE X e1 t1) (m1 : Mo t1) (hdb : (x == ("__debug__" : Str)) = false := by decide)
    (hall : (backToKw pos (keywordEach [⟨some f, e1, kp1⟩] X.env)).all (·.1.isSome) = true := by rfl) (hks : (backToKw pos (keywordEach [⟨some f, e1, kp1⟩] X.env)).filterMap (·.1) = [f] := by rfl)
    (hpl : ((backTo pos (starEach [] X.env)).any (·.1) || (backToKw pos (keywordEach [⟨some f, e1, kp1⟩] X.env)).any (·.1.isNone)) = false := by rfl) :
    PE X (.Call (.Name x p) [] [⟨some f, e1, kp1⟩] pos) (fun σ H Q => t1 σ H fun y H1 => tNew C [(f, y)] Q H1) := by
  obtain ⟨fI, fd, i1, i2, i3, _, i5⟩ := E.ini
  have q := pe_mkXK (p := p) (pos := pos) (X := X) E.ox i1 i2 (i3 X.prog X.w X.base) hr i5 pass0 hg E.gl (pk_cons (nm := some f) (kpos := kp1) h1 pk_nil) hall hks hdb hpl
  refine ⟨fun pins s σ H Q I h => q.run pins s σ H Q I (m1 _ _ _ _ (fun y H1 h => ?_) h)⟩
  exact ⟨rfl, by omega, rfl, fun a ha => new1_ok E h ha⟩
theorem pe_new2 (E : Ec2 X.K X.mg x f g C) (hr : Room 2 X.A) (hg : Gl X x) (h1 : PE X e1 t1) (m1 : Mo t1) (h2 : PE X e2 t2) (m2 : Mo t2) (hdb : (x == ("__debug__" : Str)) = false := by decide)
    (he : starEach [e1, e2] X.env = (false, eval e1 X.env) :: starEach [e2] X.env := by rfl) (he2 : starEach [e2] X.env = (false, eval e2 X.env) :: starEach [] X.env := by rfl) (hpl : (backTo pos (starEach [e2] X.env)).any (·.1) = false := by rfl) :
    PE X (.Call (.Name x p) [e1, e2] [] pos) (fun σ H Q => t1 σ H fun y H1 => t2 σ H1 fun z H2 => tNew C [(g, z), (f, y)] Q H2) := by
  obtain ⟨fI, fd, i1, i2, i3, i4, _⟩ := E.ini
  have q := pe_mkX (p := p) (pos := pos) (X := X) E.ox i1 i2 (i3 X.prog X.w X.base) hr i4 pass0 hg E.gl (pa_cons h1 (pa_cons h2 pa_nil he2) he) hdb he hpl
  refine ⟨fun pins s σ H Q I h => q.run pins s σ H Q I (m1 _ _ _ _ (fun y H1 h => m2 _ _ _ _ (fun z H2 h => ?_) h) h)⟩
  exact ⟨rfl, by omega, rfl, fun a ha => new2_ok E h ha⟩
/-- C(g = e2, f = e1) -/
theorem pe_new2K (E : Ec2 X.K X.mg x f g C) (hr : Room 2 X.A) (hg : Gl X x) (h1 : PE X e1 t1) (m1 : Mo t1) (h2 : PE X e2 t2) (m2 : Mo t2) (hdb : (x == ("__debug__" : Str)) = false := by decide)
    (hall : (backToKw pos (keywordEach [⟨some g, e2, kp1⟩, ⟨some f, e1, kp2⟩] X.env)).all (·.1.isSome) = true := by rfl) (hks : (backToKw pos (keywordEach [⟨some g, e2, kp1⟩, ⟨some f, e1, kp2⟩] X.env)).filterMap (·.1) = [g, f] := by rfl)
    (hpl : ((backTo pos (starEach [] X.env)).any (·.1) || (backToKw pos (keywordEach [⟨some g, e2, kp1⟩, ⟨some f, e1, kp2⟩] X.env)).any (·.1.isNone)) = false := by rfl) :
    PE X (.Call (.Name x p) [] [⟨some g, e2, kp1⟩, ⟨some f, e1, kp2⟩] pos) (fun σ H Q => t2 σ H fun z H1 => t1 σ H1 fun y H2 => tNew C [(g, z), (f, y)] Q H2) := by
  obtain ⟨fI, fd, i1, i2, i3, _, i5⟩ := E.ini
  have q := pe_mkXK (p := p) (pos := pos) (X := X) E.ox i1 i2 (i3 X.prog X.w X.base) hr i5 pass0 hg E.gl (pk_cons (nm := some g) (kpos := kp1) h2 (pk_cons (nm := some f) (kpos := kp2) h1 pk_nil)) hall hks hdb hpl
  refine ⟨fun pins s σ H Q I h => q.run pins s σ H Q I (m2 _ _ _ _ (fun z H1 h => m1 _ _ _ _ (fun y H2 h => ?_) h) h)⟩
  exact ⟨rfl, by omega, rfl, fun a ha => new2_ok E h ha⟩
end
end XK0

namespace XK0
open PySem PySem.Spec PyProof.Rows L2 LamX LamV
/-- a made pair of errors, the look at their fields, and what is due -/
structure It where
  C : Addr
  fs : List (Str × V)
  due : List V
  ns : List Str
/-- a lambda that tells the named fields of its argument in a list -/
structure Lm (F : LF) (ns : List Str) : Prop where
  sc : NdefX.NScope ["_law_e"] ["_law_e"] [] F.scope
  bd : ∀ (pm cv ctv : Value) (us : List Value), us.length = 1 → bindArgs (PySem.W.kla_fn "<lambda>" F.qual F.params F.body F.scope [] pm cv ctv) ⟨us, []⟩ = pure ((["_law_e"] : List Str).zip us)
  sh : (∃ (f : Str) (p1 p2 p3 : Pos), ns = [f] ∧ F.body = .List [.Attribute (.Name "_law_e" p1) f p2] p3) ∨ ∃ (f g : Str) (p1 p2 p3 p4 p5 : Pos), ns = [f, g] ∧ F.body = .List [.Attribute (.Name "_law_e" p1) f p2, .Attribute (.Name "_law_e" p3) g p4] p5
def Item (L : Addr) (H : Hp) (i : It) (v : V) : Prop := ∃ t m1 d1 m2 d2 f dl, v = .ref t ∧ H t = some (.tup [.ref m1, .ref m2, .ref f, .ref dl]) ∧ H m1 = some (exo m1 i.C (some d1)) ∧ H d1 = some (exd d1 i.fs) ∧
  H m2 = some (exo m2 i.C (some d2)) ∧ H d2 = some (exd d2 i.fs) ∧ (∃ F, Lm F i.ns ∧ IsLam H f F) ∧ H dl = some (.lst i.due) ∧ dl ≠ L
/-- all but tables and the list at L stays -/
def Kp (L : Addr) (H H' : Hp) : Prop := ∀ b o, H b = some o → (∀ ps, o ≠ .tbl ps) → b ≠ L → H' b = some o
theorem Kp.refl {L : Addr} {H : Hp} : Kp L H H := fun _ _ h _ _ => h
theorem Kp.trans {L : Addr} {H H1 H2 : Hp} (a : Kp L H H1) (b : Kp L H1 H2) : Kp L H H2 := fun c o h n m => b c o (a c o h n m) n m
theorem Kp.new {L a : Addr} {H : Hp} {o : HO} (h : H a = none) : Kp L H (upd H a o) := fun b u e _ _ => by rw [upd_ne (ne_of_none e h)]; exact e
theorem Kp.extN {L : Addr} {H H' : Hp} (h : ExtN H H') : Kp L H H' := fun b o e n _ => h b o e n
theorem exd_tbl {e : Addr} {fs : List (Str × V)} (ps : Array Value) : exd e fs ≠ .tbl ps := fun z => by
  have z' : HO.ext _ = HO.tbl ps := z
  cases z'
theorem lamO_tbl {f c : Addr} {F : LF} (ps : Array Value) : LamO f c F ≠ .tbl ps := fun z => by
  have z' : HO.ext _ = HO.tbl ps := z
  cases z'
theorem not_at {H : Hp} {b L : Addr} {o : HO} {xs : List V} (hL : H L = some (.lst xs)) (h : H b = some o) (n : o ≠ .lst xs) : b ≠ L := fun z => by
  rw [z, hL] at h
  exact n (Option.some.inj h).symm
theorem exo_lst {e C : Addr} {d : Option Addr} (xs : List V) : exo e C d ≠ .lst xs := fun z => by
  have z' : HO.ext _ = HO.lst xs := z
  cases z'
theorem exd_lst {e : Addr} {fs : List (Str × V)} (ps : List V) : exd e fs ≠ .lst ps := fun z => by
  have z' : HO.ext _ = HO.lst ps := z
  cases z'
theorem lamO_lst {f c : Addr} {F : LF} (ps : List V) : LamO f c F ≠ .lst ps := fun z => by
  have z' : HO.ext _ = HO.lst ps := z
  cases z'
theorem codeO_lst {c : Addr} {q : Str} (ps : List V) : CodeO c q ≠ .lst ps := fun z => by
  have z' : HO.ext _ = HO.lst ps := z
  cases z'
theorem isLam_kp {L f : Addr} {H H' : Hp} {F : LF} {xs : List V} (hL : H L = some (.lst xs)) (k : Kp L H H') (h : IsLam H f F) : IsLam H' f F := by
  obtain ⟨c, h1, h2⟩ := h
  exact ⟨c, k _ _ h1 (fun ps => lamO_tbl ps) (not_at hL h1 (lamO_lst _)), k _ _ h2 (fun ps => codeO_ne ps) (not_at hL h2 (codeO_lst _))⟩
theorem Item.kp {L : Addr} {H H' : Hp} {i : It} {v : V} {xs : List V} (hL : H L = some (.lst xs)) (k : Kp L H H') (h : Item L H i v) : Item L H' i v := by
  obtain ⟨t, m1, d1, m2, d2, f, dl, rfl, h1, h2, h3, h4, h5, ⟨F, h6a, h6⟩, h7, h8⟩ := h
  exact ⟨t, m1, d1, m2, d2, f, dl, rfl, k _ _ h1 (fun _ z => nomatch z) (not_at hL h1 (fun z => nomatch z)), k _ _ h2 (fun _ => exo_tbl) (not_at hL h2 (exo_lst _)), k _ _ h3 exd_tbl (not_at hL h3 (exd_lst _)),
    k _ _ h4 (fun _ => exo_tbl) (not_at hL h4 (exo_lst _)), k _ _ h5 exd_tbl (not_at hL h5 (exd_lst _)), ⟨F, h6a, isLam_kp hL k h6⟩, k _ _ h7 (fun _ z => nomatch z) h8, h8⟩
/-- the state: the list at L holds these items -/
structure MS (T : List (Addr × Str)) (L : Addr) (its : List It) (H : Hp) : Prop where
  tab : Tabs T H
  lst : ∃ vs, H L = some (.lst vs) ∧ Paired (Item L H) its vs
theorem Paired.snoc {α β : Type} {F : α → β → Prop} : ∀ {l₁ : List α} {l₂ : List β} {a : α} {b : β}, Paired F l₁ l₂ → F a b → Paired F (l₁ ++ [a]) (l₂ ++ [b])
  | _, _, _, _, .nil, h => .cons h .nil
  | _, _, _, _, .cons r t, h => .cons r (Paired.snoc t h)
theorem Tabs.keep {T : List (Addr × Str)} {H H' : Hp} (t : Tabs T H) (k : ∀ b o, H b = some o → (∀ xs, o ≠ .lst xs) → H' b = some o) : Tabs T H' := fun p hp => by
  obtain ⟨ps, h1, h2, h3⟩ := t p hp
  refine ⟨ps, k _ _ h1 (fun _ z => nomatch z), h2, fun pos cv hc => ?_⟩
  obtain ⟨c, e1, e2⟩ := h3 pos cv hc
  exact ⟨c, e1, k _ _ e2 (fun _ => codeO_lst _)⟩
section
variable {K : PySem.W.Frag} {T : List (Addr × Str)} {L C : Addr} {fs : List (Str × V)} {due : List V} {ns : List Str} {F : LF} {its : List It} {A B tD tL : TE} {σ : L2.St} {H : Hp} {D : Ends}
theorem new_kp {a d : Addr} (ha : H a = none) (hd : H d = none) (hne : d ≠ a) : Kp L H (upd (upd H d (exd d fs)) a (exo a C (some d))) :=
  (Kp.new hd).trans (Kp.new (by rw [upd_ne hne.symm]; exact ha))
theorem new_ext {a d : Addr} (ha : H a = none) (hd : H d = none) : ∀ b o, H b = some o → upd (upd H d (exd d fs)) a (exo a C (some d)) b = some o := fun b o e => by
  rw [upd_ne (ne_of_none e ha), upd_ne (ne_of_none e hd)]
  exact e
/-- found.append((C(..), C(..), lambda e: .., [..])) -/
theorem line (hF : Lm F ns) (hL : tL = tVar 2) (hs : σ[2]? = some (some (.ref L))) (ms : MS T L its H) (hn : its.length < 1000) (hA : ∀ H Q, tNew C fs Q H → A σ H Q) (hB : ∀ H Q, tNew C fs Q H → B σ H Q) (hD : ∀ H Q, (∀ p, H p = none → Q (.ref p) (upd H p (.lst due))) → tD σ H Q)
    (k : ∀ H', MS T L (its ++ [⟨C, fs, due, ns⟩]) H' → Kp L H H' → D.nx σ H') : tDrop (tBM K "list" rAppend tL (tCons (tTup (tCons A (tCons B (tCons (tLamV T F) (tCons tD tNil))))) tNil)) D σ H := by
  subst hL
  obtain ⟨tab, vs, hl, hp⟩ := ms
  have hlen : vs.length = its.length := (Paired.length hp).symm
  refine ⟨.ref L, hs, .inl ⟨rfl, vs, .inl (.inl hl)⟩, ?_⟩
  refine hA _ _ fun m1 d1 a1 b1 c1 => ?_
  have e1 := new_ext (C := C) (fs := fs) a1 b1
  have k1 : Kp L H _ := new_kp (C := C) (fs := fs) a1 b1 c1
  have g1 : upd (upd H d1 (exd d1 fs)) m1 (exo m1 C (some d1)) m1 = some (exo m1 C (some d1)) := upd_same
  have g1d : upd (upd H d1 (exd d1 fs)) m1 (exo m1 C (some d1)) d1 = some (exd d1 fs) := by rw [upd_ne c1, upd_same]
  generalize upd (upd H d1 (exd d1 fs)) m1 (exo m1 C (some d1)) = H1 at e1 k1 g1 g1d ⊢
  refine hB _ _ fun m2 d2 a2 b2 c2 => ?_
  have e2 := new_ext (C := C) (fs := fs) a2 b2
  have k2 : Kp L H1 _ := new_kp (C := C) (fs := fs) a2 b2 c2
  have g2 : upd (upd H1 d2 (exd d2 fs)) m2 (exo m2 C (some d2)) m2 = some (exo m2 C (some d2)) := upd_same
  have g2d : upd (upd H1 d2 (exd d2 fs)) m2 (exo m2 C (some d2)) d2 = some (exd d2 fs) := by rw [upd_ne c2, upd_same]
  generalize upd (upd H1 d2 (exd d2 fs)) m2 (exo m2 C (some d2)) = H2 at e2 k2 g2 g2d ⊢
  refine ⟨tab.ext fun b o e => e2 b o (e1 b o e), fun f H3 x3 t3 f3 l3 => ?_⟩
  refine hD _ _ fun dl a4 => ?_
  have k3 : Kp L H2 H3 := .extN x3
  have k4 : Kp L H3 (upd H3 dl (.lst due)) := .new a4
  have hl3 : H3 L = some (.lst vs) := x3 _ _ (e2 _ _ (e1 _ _ hl)) (fun _ z => nomatch z)
  have hdl : dl ≠ L := fun z => by rw [z, hl3] at a4; cases a4
  have g4 : upd H3 dl (.lst due) dl = some (.lst due) := upd_same
  have e4 : ∀ b o, H3 b = some o → upd H3 dl (.lst due) b = some o := fun b o e => by rw [upd_ne (ne_of_none e a4)]; exact e
  generalize upd H3 dl (.lst due) = H4 at k4 g4 e4 ⊢
  refine ⟨by rw [sizeLine_eq]; show 4 ≤ _; omega, fun t a5 => ?_⟩
  have k5 : Kp L H4 (upd H4 t (.tup [.ref m1, .ref m2, .ref f, .ref dl])) := .new a5
  have g5 : upd H4 t (.tup [.ref m1, .ref m2, .ref f, .ref dl]) t = some (.tup [.ref m1, .ref m2, .ref f, .ref dl]) := upd_same
  have e5 : ∀ b o, H4 b = some o → upd H4 t (.tup [.ref m1, .ref m2, .ref f, .ref dl]) b = some o := fun b o e => by rw [upd_ne (ne_of_none e a5)]; exact e
  generalize upd H4 t (.tup [.ref m1, .ref m2, .ref f, .ref dl]) = H5 at k5 g5 e5 ⊢
  have hl5 : H5 L = some (.lst vs) := e5 _ _ (e4 _ _ hl3)
  refine ⟨L, vs, .ref t, rfl, rfl, hl5, by rw [sizeLine_eq]; omega, ?_⟩
  have k6 : Kp L H5 (upd H5 L (.lst (vs ++ [.ref t]))) := fun b o e _ n => by rw [upd_ne n]; exact e
  have t6 : Tabs T (upd H5 L (.lst (vs ++ [.ref t]))) := Tabs.keep (t3.ext fun b o e => e5 _ _ (e4 _ _ e)) fun b o e n => by rw [upd_ne (not_at hl5 e (n _))]; exact e
  have all : Kp L H (upd H5 L (.lst (vs ++ [.ref t]))) := ((((k1.trans k2).trans k3).trans k4).trans k5).trans k6
  have hl1 : H1 L = some (.lst vs) := e1 _ _ hl
  have hl2 : H2 L = some (.lst vs) := e2 _ _ hl1
  have hl4 : H4 L = some (.lst vs) := e4 _ _ hl3
  have kk : Kp L H2 (upd H5 L (.lst (vs ++ [.ref t]))) := ((k3.trans k4).trans k5).trans k6
  have kk1 : Kp L H1 (upd H5 L (.lst (vs ++ [.ref t]))) := k2.trans kk
  refine k _ ⟨t6, vs ++ [.ref t], upd_same, Paired.snoc (Paired.mapP hp fun i v z => Item.kp hl all z) ?_⟩ all
  refine ⟨t, m1, d1, m2, d2, f, dl, rfl, k6 _ _ g5 (fun _ z => nomatch z) (not_at hl5 g5 (fun z => nomatch z)), kk1 _ _ g1 (fun _ => exo_tbl) (not_at hl1 g1 (exo_lst _)), kk1 _ _ g1d exd_tbl (not_at hl1 g1d (exd_lst _)),
    kk _ _ g2 (fun _ => exo_tbl) (not_at hl2 g2 (exo_lst _)), kk _ _ g2d exd_tbl (not_at hl2 g2d (exd_lst _)), ⟨F, hF, isLam_kp hl3 ((k4.trans k5).trans k6) l3⟩, (k5.trans k6) _ _ g4 (fun _ z => nomatch z) hdl, hdl⟩
end
end XK0

namespace XK0
open PySem PySem.Spec PyProof.Rows L2 LamX LamV
/-- one line of a maker: what it adds, of x and y -/
def LineOk (X : Cx) (T : List (Addr × Str)) (st : Stmt) (it : V → V → It) : Prop := ∃ t, PS X st t ∧ ∀ (L : Addr) (x y : V) (its : List It) (σ : L2.St) (H : Hp) (D : Ends), σ[0]? = some (some x) → σ[1]? = some (some y) → σ[2]? = some (some (.ref L)) →
  MS T L its H → its.length < 1000 → (∀ H', MS T L (its ++ [it x y]) H' → Kp L H H' → D.nx σ H') → t D σ H
/-- where the maker stands: its table -/
structure Mkr (X : Cx) (T : List (Addr × Str)) (q : Str) : Prop where
  rm : Room 2 X.A
  nn : X.N = (["_law_x", "_law_y", "_law_found"] : List Str)
  vx : Vis X.env.scope "_law_x"
  vy : Vis X.env.scope "_law_y"
  vf : Vis X.env.scope "_law_found"
  tb : ∃ c P, TabB X.base X.mg c P ∧ X.env.code = .ref c ∧ (P, q) ∈ T ∧ ∀ p ∈ T, p.1 = P → p.2 = q
  qu : X.env.qual ++ "<lambda>" = q
section
variable {X : Cx} {T : List (Addr × Str)} {q cx f g : Str} {C : Addr} {params : Arguments} {body : Expr} {scope : Scope} {p1 p2 p3 p4 p5 p6 p7 p8 p9 p10 p11 p12 p13 p14 p15 p16 p17 p18 p19 : Pos} {k : Nat}
theorem line1_ok (M : Mkr X T q) (E : Ec1 X.K X.mg cx f C) (hg : Gl X cx) (hF : Lm ⟨q, params, body, scope⟩ [f]) (hdef : defaultsOf params X.env = ([], [])) (hfree : ∀ y ∈ scope.names, y.2 ≠ .free) (hdb : (cx == ("__debug__" : Str)) = false)
    (hline : (p2.endLine == p14.line) = true) :
    LineOk X T (.Expr (.Call (.Attribute (.Name "_law_found" p1) "append" p2) [.Tuple [.Call (.Name cx p3) [.Name "_law_x" p4] [] p5, .Call (.Name cx p6) [] [⟨some f, .Name "_law_x" p7, p8⟩] p9, .Lambda params body scope p10, .List [.Name "_law_x" p11] p12] k p13] [] p14) p15)
      (fun x y => ⟨C, [(f, x)], [x], [f]⟩) := by
  obtain ⟨c, P, TB, hc, hm, hu⟩ := M.tb
  have vX : ∀ p, PE X (.Name "_law_x" p) (tVar 0) := fun p => pe_var (by rw [M.nn]; rfl) M.vx
  have vF : ∀ p, PE X (.Name "_law_found" p) (tVar 2) := fun p => pe_var (by rw [M.nn]; rfl) M.vf
  refine ⟨_, ps_expr (pe_bm PySem.F.plainAttrs_list PySem.F.slot_list_append PySem.F.type_list_append mt_append (vF p1) (pa_cons (pe_tup (pa_cons (pe_new1 E M.rm hg (vX p4) (mo_var 0) hdb) (pa_cons (pe_new1K E M.rm hg (vX p7) (mo_var 0) hdb)
    (pa_cons (pe_lamV TB hc M.qu hm hu hdef hfree) (pa_cons (pe_lst (pa_cons (vX p11) pa_nil)) pa_nil))))) pa_nil) rfl rfl hline), ?_⟩
  intro L x y its σ H D hx hy hL ms hn kk
  exact line hF rfl hL ms hn (fun H Q h => ⟨x, hx, h⟩) (fun H Q h => ⟨x, hx, h⟩) (fun H Q h => ⟨x, hx, by rw [sizeLine_eq]; show 1 ≤ _; omega, fun p hp => h p hp⟩) kk
theorem line2_ok (M : Mkr X T q) (E : Ec2 X.K X.mg cx f g C) (hg : Gl X cx) (hF : Lm ⟨q, params, body, scope⟩ [f, g]) (hdef : defaultsOf params X.env = ([], [])) (hfree : ∀ y ∈ scope.names, y.2 ≠ .free) (hdb : (cx == ("__debug__" : Str)) = false)
    (hline : (p2.endLine == p14.line) = true) :
    LineOk X T (.Expr (.Call (.Attribute (.Name "_law_found" p1) "append" p2) [.Tuple [.Call (.Name cx p3) [.Name "_law_x" p4, .Name "_law_y" p16] [] p5, .Call (.Name cx p6) [] [⟨some g, .Name "_law_y" p7, p8⟩, ⟨some f, .Name "_law_x" p17, p18⟩] p9, .Lambda params body scope p10, .List [.Name "_law_x" p11, .Name "_law_y" p19] p12] k p13] [] p14) p15)
      (fun x y => ⟨C, [(g, y), (f, x)], [x, y], [f, g]⟩) := by
  obtain ⟨c, P, TB, hc, hm, hu⟩ := M.tb
  have vX : ∀ p, PE X (.Name "_law_x" p) (tVar 0) := fun p => pe_var (by rw [M.nn]; rfl) M.vx
  have vY : ∀ p, PE X (.Name "_law_y" p) (tVar 1) := fun p => pe_var (by rw [M.nn]; rfl) M.vy
  have vF : ∀ p, PE X (.Name "_law_found" p) (tVar 2) := fun p => pe_var (by rw [M.nn]; rfl) M.vf
  refine ⟨_, ps_expr (pe_bm PySem.F.plainAttrs_list PySem.F.slot_list_append PySem.F.type_list_append mt_append (vF p1) (pa_cons (pe_tup (pa_cons (pe_new2 E M.rm hg (vX p4) (mo_var 0) (vY p16) (mo_var 1) hdb) (pa_cons (pe_new2K E M.rm hg (vX p17) (mo_var 0) (vY p7) (mo_var 1) hdb)
    (pa_cons (pe_lamV TB hc M.qu hm hu hdef hfree) (pa_cons (pe_lst (pa_cons (vX p11) (pa_cons (vY p19) pa_nil))) pa_nil))))) pa_nil) rfl rfl hline), ?_⟩
  intro L x y its σ H D hx hy hL ms hn kk
  exact line hF rfl hL ms hn (fun H Q h => ⟨x, hx, y, hy, h⟩) (fun H Q h => ⟨y, hy, x, hx, h⟩) (fun H Q h => ⟨x, hx, y, hy, by rw [sizeLine_eq]; show 2 ≤ _; omega, fun p hp => h p hp⟩) kk
/-- lines one behind another, then the rest -/
theorem block_ok {rest : List Stmt} {tr : TS} (hr : PSs X rest tr) : ∀ {sts : List Stmt} {itf : List (V → V → It)}, Paired (LineOk X T) sts itf → ∃ t, PSs X (sts ++ rest) t ∧ ∀ (L : Addr) (x y : V) (its : List It) (σ : L2.St) (H : Hp) (D : Ends),
    σ[0]? = some (some x) → σ[1]? = some (some y) → σ[2]? = some (some (.ref L)) → MS T L its H → its.length + itf.length < 1000 → (∀ H', MS T L (its ++ itf.map (fun i => i x y)) H' → Kp L H H' → tr D σ H') → t D σ H
  | _, _, .nil => ⟨tr, hr, fun L x y its σ H D _ _ _ ms _ k => k H (by simpa using ms) Kp.refl⟩
  | _, _, .cons (b := i) (l₂ := r) h t => by
    obtain ⟨t1, p1, q1⟩ := h
    obtain ⟨t2, p2, q2⟩ := block_ok hr t
    refine ⟨tSeq t1 t2, pss_cons p1 p2, fun L x y its σ H D hx hy hL ms hn k => ?_⟩
    refine q1 L x y its σ H _ hx hy hL ms (by simp at hn; omega) fun H1 ms1 k1 => ?_
    refine q2 L x y _ σ H1 D hx hy hL ms1 (by simp at hn ⊢; omega) fun H2 ms2 k2 => k H2 (by simpa using ms2) (k1.trans k2)
end
/-- what a maker promises -/
def spMade (T : List (Addr × Str)) (itf : List (V → V → It)) : Sp := fun vs H Q _ => ∃ x y, vs = [x, y] ∧ Tabs T H ∧ ∀ L H', H L = none → MS T L (itf.map fun i => i x y) H' → Kp L H H' → Q (.ref L) H'
def codeOf (K : PySem.W.Frag) (f : Addr) : Option Value := match K.lookup f with
  | some ⟨_, _, .func fd, _⟩ => some fd.code
  | _ => none
theorem made_ok {P : Program} {w : World} {K : PySem.W.Frag} {mg : Str → Option Value} {base : Heap} {x : Str} {params : Arguments} {body sts : List Stmt} {scope : Scope} {f c Pt : Addr} {fd : FuncData} {T : List (Addr × Str)} {itf : List (V → V → It)} {p1 p2 p3 p4 p5 : Pos}
    (F : FunD K x x params body scope [] [] f fd) (hcode : codeOf K f = some (.ref c)) (TB : TabB base mg c Pt) (hm : (Pt, x ++ ".<locals>." ++ "<lambda>") ∈ T) (hu : ∀ p ∈ T, p.1 = Pt → p.2 = x ++ ".<locals>." ++ "<lambda>")
    (S : FnScope ["_law_x", "_law_y", "_law_found"] ["_law_x", "_law_y"] scope) (vf : scope.names.lookup ("_law_found" : Str) = some NameKind.local)
    (hb : body = .Assign [.Name "_law_found" p1] (.List [] p2) p3 :: (sts ++ [.Return (some (.Name "_law_found" p4)) p5])) (hn : itf.length < 900)
    (hl : ∀ X : Cx, X.K = K → X.mg = mg → X.env.scope = scope → Mkr X T (x ++ ".<locals>." ++ "<lambda>") → Paired (LineOk X T) sts itf) :
    FnOk P w K mg base CX0 3 f fd ["_law_x", "_law_y"] (spMade T itf) := by
  obtain ⟨oc, od, dV, kV, doc, pm, an, cdv, ct, osl, rfl, lk, hcd, _, _⟩ := F.ex
  have ec : cdv = .ref c := by
    unfold codeOf at hcode
    rw [lk] at hcode
    exact Option.some.inj hcode
  subst ec
  refine fn_of lk hcd S (fun vs H Q E h => ?_) fun A outer s H vs Q E hr h => ?_
  · obtain ⟨x, y, rfl, _⟩ := h
    rfl
  · subst hb
    obtain ⟨vx, vy, rfl, hT, hQ⟩ := h
    have M : Mkr (cxOf CX0 P w K mg base ["_law_x", "_law_y", "_law_found"] x scope f (.ref c) A outer s H E).nox T (x ++ ".<locals>." ++ "<lambda>") :=
      ⟨hr, rfl, vis_par S List.mem_cons_self, vis_par S (List.mem_cons_of_mem _ List.mem_cons_self), .inl vf, ⟨c, Pt, TB, rfl, hm, hu⟩, rfl⟩
    obtain ⟨t, ht, hq⟩ := block_ok (pss_one (ps_ret (pos := p5) (pe_var (pos := p4) (i := 2) (X := (cxOf CX0 P w K mg base ["_law_x", "_law_y", "_law_found"] x scope f (.ref c) A outer s H E).nox) rfl (.inl vf)))) (hl _ rfl rfl rfl M)
    refine ⟨_, PSs.nox (pss_cons (ps_set (i := 2) S.nd rfl (.inl vf) (pe_lst pa_nil)) ht), ?_⟩
    refine ⟨Nat.zero_le _, fun L hL => ?_⟩
    refine hq L vx vy [] _ _ _ rfl rfl rfl ⟨hT.ext fun b o e => by rw [upd_ne (ne_of_none e hL)]; exact e, [], upd_same, .nil⟩ (by simpa using (by omega : itf.length < 1000)) fun H' ms k => ?_
    refine ⟨.ref L, rfl, hQ L H' hL (by simpa using ms) ((Kp.new hL).trans k)⟩
end XK0

/-! E11: several clauses «except x as n»; raise C(e); what never comes; a def that may raise, by its name -/
namespace XK0
open PySem PySem.Spec PyProof.Rows L2 LamX LamV
abbrev Suit := Addr → Value → Option Addr → TS
/-- the clauses in turn: what each wishes, with the name in slot i -/
def wTurn (K : PySem.W.Frag) (i : Nat) (Wo : WX) (D : Ends) : List (Value × Suit) → WX
  | [] => Wo
  | q :: r => wAs K q.1 i q.2 (wTurn K i Wo D r) D
/-- clauses of one name n, with their suites -/
inductive Clauses (X : Cx) (n : Str) : List ExceptHandler → List (Value × Suit) → Prop
  | nil : Clauses X n [] []
  | cons {x : Str} {c : Value} {ts : Suit} {b0 : Stmt} {su : List Stmt} {p1 p2 : Pos} {hs : List ExceptHandler} {l : List (Value × Suit)} (nm : Names X x c)
      (go : ∀ (a : Addr) (oe : Obj) (cls : Value) (d : Option Addr) (pn : List (Addr × Obj)), Zc cls d oe → (∃ vs, oe.data = .fields vs) → PSs (X.suite a ((a, oe) :: pn)) (b0 :: su) (ts a cls d)) (r : Clauses X n hs l) :
      Clauses X n (.ExceptHandler (some (.Name x p1)) (some n) (b0 :: su) p2 :: hs) ((c, ts) :: l)
section
variable {X : Cx} {n : Str} {i : Nat} {Wo : WX}
/-- a caught exception, in the air over the frames; sI: the state without it -/
structure Air (X : Cx) (pins : List (Addr × Obj)) (σ : L2.St) (H : Hp) (sI : Shared) (B : Heap) (a : Addr) (cls : Value) (d : Option Addr) (s3 : Shared) : Prop where
  inv : Inv X pins σ H sI
  fly : HandSPX.FlyingZ B (X.env :: X.outer) a (Zc cls d) s3.heap
  nb : ∀ b o, sI.heap.get? b = some o → b ∉ frs X.stack → B.get? b = some o
  up : sI.heap.UpToSlots s3.heap
  na : H a = none
  os : s3.os = sI.os
  bare : AllBare s3.gens
theorem Air.on {pins : List (Addr × Obj)} {σ : L2.St} {H : Hp} {sI s3 : Shared} {B : Heap} {a : Addr} {cls : Value} {d : Option Addr} (A : Air X pins σ H sI B a cls d s3) : Inv X pins σ H s3 := A.inv.landed A.nb A.fly.1 A.up A.os A.bare
theorem Air.to {pins : List (Addr × Obj)} {σ : L2.St} {H : Hp} {sI s3 : Shared} {B : Heap} {a : Addr} {cls : Value} {d : Option Addr} (A : Air X pins σ H sI B a cls d s3) {h4 : Heap} (f : HandSPX.FlyingZ B (X.env :: X.outer) a (Zc cls d) h4) (u : s3.heap.UpToSlots h4) :
    Air X pins σ H sI B a cls d { s3 with heap := h4 } := ⟨A.inv, f, A.nb, A.up.trans u, A.na, A.os, A.bare⟩
/-- the exception as a pinned object -/
theorem Air.pin {pins : List (Addr × Obj)} {σ : L2.St} {H : Hp} {sI s3 : Shared} {B : Heap} {a : Addr} {cls : Value} {d : Option Addr} (A : Air X pins σ H sI B a cls d s3) (hf : X.env.frame = some X.env.locals) :
    ∃ oe, s3.heap.get? a = some oe ∧ Zc cls d oe ∧ (∃ vs, oe.data = .fields vs) ∧ Inv (X.suite a ((a, oe) :: (X.pn ++ pins))) [] σ H s3 := by
  obtain ⟨oe, vs, at_, z, dat⟩ := A.fly.there
  have off : a ∉ frs (X.env :: X.outer) := fun m => by
    obtain ⟨_, o2, at2, no⟩ := A.fly.2.2.1.mem m
    cases at_.symm.trans at2
    exact no _ dat
  have mem : ∀ e ∈ X.env :: X.outer, ∀ b, e.frame = some b → b ∈ frs (X.env :: X.outer) := fun e m b q => List.mem_filterMap.mpr ⟨e, m, q⟩
  refine ⟨oe, at_, z, ⟨vs, dat⟩, A.on.suite at_ dat A.na (fun y => ?_) fun m => ?_⟩
  · subst y
    exact off (mem _ List.mem_cons_self _ hf)
  · obtain ⟨e, m1, q⟩ := List.mem_filterMap.mp m
    exact off (mem e (List.mem_cons_of_mem _ m1) a q)
theorem clauses_go {pins : List (Addr × Obj)} {σ : L2.St} {H : Hp} {sI : Shared} {B : Heap} {a : Addr} {cls : Value} {d : Option Addr} {D : Ends} (hs : X.stack = X.env :: X.outer) (hf : X.env.frame = some X.env.locals) (nd : X.N.Nodup) (at_ : X.N[i]? = some n) (lc : X.env.kindOf n = some .local) (tk : Takes X Wo) :
    ∀ {hds : List ExceptHandler} {l : List (Value × Suit)}, Clauses X n hds l → ∀ s3, Air X pins σ H sI B a cls d s3 → wTurn X.K i Wo D l cls d σ H → wpAny (model X.prog X.w) X.A (handleBy (.ref a) X.env hds) (SP X pins D) X.xe s3 := by
  intro hds l C
  induction C with
  | nil =>
    intro s3 A want
    refine wpAny_handleBy_nil ?_
    have fly := A.fly
    obtain ⟨_, _, _, oe, vs, T, oT, ts, e1, z, dat, e2, _⟩ := fly
    have go : wpAny (model X.prog X.w) X.A (setFlight (.ref a) X.env.frame) (fun _ s4 => wpAny (model X.prog X.w) X.A (throw (.ref a) : Sem Flow) (SP X pins D) X.xe s4) X.xe s3 := by
      rw [hf]
      refine HandSPX.setFlight_upZ A.fly fun h4 held up => wpAny_throw (tk _ _ ⟨a, B, sI, pins, σ, H, cls, d, rfl, A.inv, A.nb, A.up.trans up, .inr (.inr ?_), A.na, A.os, A.bare, want⟩)
      rw [hs]
      exact held
    unfold PySem.passOn
    refine wpAny_bind (wpAny_field e1 dat e2 ?_)
    have ne : ¬ ((Value.ref T == Value.none) = true) := by simp
    rw [if_neg ne]
    first
      | exact wpAny_bind go
      | exact wpAny_bind (wpAny_pure (wpAny_bind go))
  | @cons x c ts b0 su p1 p2 hs2 l2 nm go r ih =>
    intro s3 A want
    obtain ⟨b, isB, yes, no⟩ := want
    obtain ⟨oe, here, z, dat, S⟩ := A.pin hf
    have ty : PySem.W.Looks (model X.prog X.w) s3.heap (typeOf (.ref a)) cls := fun _ _ _ _ k q => wpAny_typeOf_ref (k _ _ here) (by rw [z.1]; exact q)
    have one := PySem.W.exm_one (M := model X.prog X.w) A.on.kIn ty isB
    have named : ∀ {Q : Value → Shared → Prop} {E : Value → Shared → Prop}, Q c s3 → wpAny (model X.prog X.w) (X.A.mark (some (.ref a))) (eval (.Name x p1) X.env) Q E s3 := by
      intro Q E q
      obtain ⟨g, db, m | ⟨m, v, nn⟩⟩ := nm
      · exact ld_glob (X := X.suite a ((a, oe) :: (X.pn ++ pins))) S g m q db
      · exact ld_blt (X := X.suite a ((a, oe) :: (X.pn ++ pins))) S g m v q nn db
    refine wpAny_handleBy_cons (codeAny_handlers_test (named (one.here ?_))) (fun q => by cases q)
    cases b with
    | false => exact ih s3 A (no rfl)
    | true =>
      refine codeAny_handlers_suite_as (HandSPX.lands_againZ A.fly fun h4 f4 u4 => ?_)
      have A4 := A.to f4 u4
      obtain ⟨oe4, here4, z4, dat4, S4⟩ := A4.pin hf
      refine store_ok (X := X.suite a ((a, oe4) :: (X.pn ++ pins))) (v := .ref a) S4 nd at_ (.inl lc) rfl (fun s5 S5 => ?_) (.inr lc)
      refine wpAny_mono ((go a oe4 cls d (X.pn ++ pins) z4 dat4).run [] s5 _ H _ S5 (yes rfl a A.na)) (fun f s6 y => ?_) fun _ _ y => y.elim
      have off : ∀ {τ : L2.St} {G : Hp} {R : Shared → Prop}, Inv (X.suite a ((a, oe4) :: (X.pn ++ pins))) [] τ G s6 → (∀ s7, Inv X pins (τ.set i none) G s7 → R s7) → wpAny (model X.prog X.w) X.A (do bindName X.env n .none; unbindBehindTheSuite X.env n p2) (fun _ s7 => R s7) X.xe s6 :=
        fun I q => gone_ok (I.unsuite A.inv.ok) nd at_ lc q
      match f, y with
      | .next, ⟨τ, G, I, q⟩ => exact off I fun s7 J => ⟨_, _, J, q⟩
      | .brk, ⟨τ, G, I, q⟩ => exact off I fun s7 J => ⟨_, _, J, q⟩
      | .cont, ⟨τ, G, I, q⟩ => exact off I fun s7 J => ⟨_, _, J, q⟩
      | .ret u, ⟨v, τ, G, I, rv, q⟩ => exact off I fun s7 J => ⟨_, _, _, J, rv, q⟩
/-- try: body, except x as n: .., except y as n: .. -/
theorem ps_tryAs {h0 : ExceptHandler} {hds : List ExceptHandler} {l : List (Value × Suit)} {body : List Stmt} {tb : WX → TS} {pos : Pos} (hs : X.stack = X.env :: X.outer) (hf : X.env.frame = some X.env.locals) (nd : X.N.Nodup) (at_ : X.N[i]? = some n) (lc : X.env.kindOf n = some .local) (tk : Takes X Wo)
    (hb : ∀ (W : WX) (pn : List (Addr × Obj)) (xe : Value → Shared → Prop), Takes (X.tr pn xe) W → PassesOwn (model X.prog X.w) X.A X.env xe → PSs (X.tr pn xe) body (tb W)) (C : Clauses X n (h0 :: hds) l) :
    PS X (.Try body (h0 :: hds) [] [] pos) (fun D σ H => tb (wTurn X.K i Wo D l) D σ H) := by
  refine ⟨fun pins s σ H D I want => wpAny_Try_except ?_⟩
  have fr : X.A.frames = some (X.env :: X.outer) := I.ok.frames.trans (congrArg some hs)
  let xe : Value → Shared → Prop := fun e s1 => wpAny (model X.prog X.w) X.A (noteFrame e X.env) (fun _ s2 => wpAny (model X.prog X.w) X.A (setFlight e none) (fun _ s3 => wpAny (model X.prog X.w) X.A (handleBy e X.env (h0 :: hds)) (SP X pins D) X.xe s3) X.xe s2) X.xe s1
  have takes : Takes (X.tr (X.pn ++ pins) xe) (wTurn X.K i Wo D l) := by
    rintro u s' ⟨a, B, sI, pins', τ, G, cls, d, rfl, J, nb, up, sky, na, os, ag, w⟩
    have sky : Sky B (X.env :: X.outer) a (Zc cls d) X.env.locals s'.heap := hs ▸ sky
    exact Sky.land Zc.steady fr hf sky fun h3 f3 u3 => clauses_go hs hf nd at_ lc tk C _ ⟨J.ofTry I.ok, f3, nb, up.trans u3, na, os, ag⟩ w
  refine wpAny_mono ((hb _ (X.pn ++ pins) xe takes PassesOwn.looking).run [] s σ H D (I.toTry xe) want) (fun f s1 y => ?_) fun _ _ y => y
  match f, y with
  | .next, ⟨τ, G, J, q⟩ => exact wpAny_execs_nil ⟨τ, G, J.ofTry I.ok, q⟩
  | .brk, ⟨τ, G, J, q⟩ => exact ⟨τ, G, J.ofTry I.ok, q⟩
  | .cont, ⟨τ, G, J, q⟩ => exact ⟨τ, G, J.ofTry I.ok, q⟩
  | .ret u, ⟨v, τ, G, J, rv, q⟩ => exact ⟨v, τ, G, J.ofTry I.ok, rv, q⟩
end
/-! ### what never comes -/
theorem ps_dead {X : Cx} {st : Stmt} : PS X st (fun _ _ _ => False) := ⟨fun _ _ _ _ _ _ h => h.elim⟩
theorem pss_dead {X : Cx} {sts : List Stmt} : PSs X sts (fun _ _ _ => False) := ⟨fun _ _ _ _ _ _ h => h.elim⟩
theorem pe_dead {X : Cx} {e : Expr} : PE X e (fun _ _ _ => False) := ⟨fun _ _ _ _ _ _ h => h.elim⟩
/-! ### raise C(e) -/
theorem del_new {H : Hp} {a d : Addr} {o o1 o2 o3 : HO} (ha : H a = none) (ne : d ≠ a) : upd (L2.del (upd (upd (upd H a o1) d o2) a o3) a) d o = upd H d o := by
  funext b
  by_cases e : b = d
  · rw [e, upd_same, upd_same]
  · rw [upd_ne e, upd_ne e]
    unfold L2.del
    by_cases e2 : b = a
    · rw [if_pos e2, e2, ha]
    · rw [if_neg e2, upd_ne e2, upd_ne e, upd_ne e2]
theorem ps_raise1 {X : Cx} {x f : Str} {C : Addr} {W : WX} {e : Expr} {t : TE} {p pos pos2 : Pos} (E : Ec1 X.K X.mg x f C) (hc : X.calm = true) (hr : Room 2 X.A) (tk : Takes X W) (hg : Gl X x) (h : PE X e t) (hdb : (x == ("__debug__" : Str)) = false := by decide)
    (he : starEach [e] X.env = (false, eval e X.env) :: starEach [] X.env := by rfl) : PS X (.Raise (some (.Call (.Name x p) [e] [] pos)) none pos2) (fun D σ H => tMkO C (spI1 X.K f) [] (tCons t tNil) σ H fun cls d H' => W cls d σ H') := by
  obtain ⟨fI, fd, i1, i2, i3, ⟨b1, b2⟩, _⟩ := E.ini
  have bd : Binds X.K fd ["self", f] [] := fun s us kin hl => by
    have z := b1 s us [] kin (by simpa using hl) rfl
    simpa using z
  exact ps_raise (pos := pos2) hc tk (pmk_oex (p := p) (pos := pos) E.ox i1 i2 (i3 X.prog X.w X.base) hr bd .nil pass0 hg E.gl (pa_cons h pa_nil he) hdb he rfl)
theorem mk1_ok {K : PySem.W.Frag} {mg : Str → Option Value} {x f : Str} {C : Addr} (E : Ec1 K mg x f C) {Q : XK} {H1 : Hp} {y : V} (k : ∀ d, H1 d = none → Q (.ref C) (some d) (upd H1 d (.xd [(f, y)]))) :
    [y].length ≤ 1000 ∧ ∀ a, H1 a = none → spI1 K f (.ref a :: ([y] ++ [])) (upd H1 a (exo a C none)) (fun v H2 => v = .non ∧ ∃ (d : Addr) (fs : List (Str × V)), H2 a = some (exo a C (some d)) ∧ H2 d = some (exd d fs) ∧ H1 d = none ∧ Q (.ref C) (some d) (upd (L2.del H2 a) d (.xd fs))) (fun _ _ _ => False) := by
  refine ⟨by show 1 ≤ 1000; decide, fun a ha => ⟨a, C, y, rfl, E.ox, E.no, upd_same, fun d hd ne => ⟨rfl, d, [(f, y)], upd_same, (upd_ne ne).trans upd_same, (fresh_of hd).1, ?_⟩⟩⟩
  rw [del_new ha ne]
  exact k d (fresh_of hd).1
/-! ### a def that may raise, by the module's name -/
def HasX (P : Program) (w : World) (K : PySem.W.Frag) (mg : Str → Option Value) (base : Heap) (x : Str) (k : Nat) (ps : List Str) (sp : Sp) : Prop := ∃ f fd, mg x = some (.ref f) ∧ PySem.W.keepIn K (.ref f) = true ∧ Binds K fd ps [] ∧ FnOk P w K mg base (L2.CX P w) k f fd ps sp
theorem pe_hasX {X : Cx} {k j : Nat} {x : Str} {ps : List Str} {sp : Sp} {W : WX} {E : XK} {p pos : Pos} {e : Expr} {es : List Expr} {t : TA} (F : HasX X.prog X.w X.K X.mg X.base x k ps sp) (hr : Room j X.A) (le : k ≤ j) (hg : Gl X x) (tk : Takes X W) (hW : ∀ cls d σ H, E cls d H → W cls d σ H) (ha : PA X (e :: es) t) (dbg : (x == ("__debug__" : Str)) = false := by decide)
    (stars : starEach (e :: es) X.env = (false, eval e X.env) :: starEach es X.env := by rfl) (plain : (backTo pos (starEach es X.env)).any (·.1) = false := by rfl) : PE X (.Call (.Name x p) (e :: es) [] pos) (tCall sp [] E t) := by
  obtain ⟨f, fd, gf, kf, bf, F⟩ := F
  exact pe_call F (hr.mono le) hg gf kf bf .nil (passes_call tk hW) ha dbg stars plain
end XK0

/-! A1: is_list, is_word, first_bad_word -/
namespace TH
open PySem PySem.Spec PyProof.Rows L2
def top (i : Nat) : Stmt := PySem.Challenge.pw_meettasks_k35_first_opened.main.body.getD i (.Pass ⟨0, 0, 0, 0⟩)
abbrev FnP (K : PySem.W.Frag) (x : Str) (st : Stmt) (f : Addr) (fd : FuncData) : Prop := FunD K x x (defArgs st) (defBody st) (defScope st) [] [] f fd
/-- nothing that was there is changed -/
def Ex (H H' : Hp) : Prop := ∀ b o, H b = some o → H' b = some o
theorem Ex.refl {H : Hp} : Ex H H := fun _ _ h => h
theorem Ex.trans {H H1 H2 : Hp} (a : Ex H H1) (b : Ex H1 H2) : Ex H H2 := fun c o h => b c o (a c o h)
theorem Ex.new {H : Hp} {a : Addr} {o : HO} (h : H a = none) : Ex H (upd H a o) := fun b u e => (upd_ne (ne_of_none e h)).trans e
theorem Ex.none {H H' : Hp} (x : Ex H H') {p : Addr} (h : H' p = none) : H p = none := by
  cases q : H p with
  | none => rfl
  | some o => rw [x _ _ q] at h; cases h
theorem Ex.sqL {K : PySem.W.Frag} {H H' : Hp} {a : Addr} {xs : List V} (k : Ex H H') (h : SqL K H a xs) : SqL K H' a xs := h.imp (Or.imp (k _ _) fun ⟨o, z⟩ => ⟨o, k _ _ z⟩) id
theorem Ex.sqT {K : PySem.W.Frag} {H H' : Hp} {a : Addr} {xs : List V} (k : Ex H H') (h : SqT K H a xs) : SqT K H' a xs := h.imp (Or.imp (k _ _) fun ⟨o, z⟩ => ⟨o, k _ _ z⟩) id
/-- a def that keeps a promise, by the module's name -/
def Has (P : Program) (w : World) (K : PySem.W.Frag) (mg : Str → Option Value) (base : Heap) (x : Str) (k : Nat) (ps : List Str) (sp : Sp) : Prop := ∃ f fd, mg x = some (.ref f) ∧ PySem.W.keepIn K (.ref f) = true ∧ Binds K fd ps [] ∧ FnOk P w K mg base CX0 k f fd ps sp
theorem pe_has {X : Cx} {k j : Nat} {x : Str} {ps : List Str} {sp : Sp} {p pos : Pos} {e : Expr} {es : List Expr} {t : TA} (F : Has X.prog X.w X.K X.mg X.base x k ps sp) (hr : Room j X.A) (le : k ≤ j) (hg : Gl X x) (ha : PA X (e :: es) t) (dbg : (x == ("__debug__" : Str)) = false := by decide)
    (stars : starEach (e :: es) X.env = (false, eval e X.env) :: starEach es X.env := by rfl) (plain : (backTo pos (starEach es X.env)).any (·.1) = false := by rfl) : PE X (.Call (.Name x p) (e :: es) [] pos) (tCall sp [] E0 t) := by
  obtain ⟨f, fd, gf, kf, bf, F⟩ := F
  exact pe_call F (hr.mono le) hg gf kf bf .nil pass0 ha dbg stars plain
/-! ### kinds of values -/
def tys : List String := ["NoneType", "bool", "int", "str", "list", "tuple", "dict"]
/-- the kind of a value -/
def Kd (K : PySem.W.Frag) (H : Hp) (v : V) (T : String) : Prop := T ∈ tys ∧ TyX K H v (.type T) ∧ ∀ x, v = .str x → x.length ≤ 1000
theorem tyx_ex {K : PySem.W.Frag} {H H' : Hp} {v : V} {t : Value} (x : Ex H H') (h : TyX K H v t) : TyX K H' v t := by
  cases h with
  | base h =>
    refine .base ?_
    cases h with
    | non => exact .non
    | bl b => exact .bl b
    | int i => exact .int i
    | str z => exact .str z
    | flt z => exact .flt z
    | lst e => exact .lst (x _ _ e)
    | frz e => exact .frz (x _ _ e)
    | tup e => exact .tup (x _ _ e)
    | dK e => exact .dK (x _ _ e)
    | dT e => exact .dT (x _ _ e)
    | ins e cl ha hn htk hm => exact .ins (x _ _ e) cl ha hn htk hm
  | byt b => exact .byt b
  | set e => exact .set (x _ _ e)
  | kList e c => exact .kList e c
  | kTuple e c => exact .kTuple e c
  | kDict e c => exact .kDict e c
  | fTuple e => exact .fTuple (x _ _ e)
  | fDict e => exact .fDict (x _ _ e)
theorem Kd.ex {K : PySem.W.Frag} {H H' : Hp} {v : V} {T : String} (x : Ex H H') (h : Kd K H v T) : Kd K H' v T := ⟨h.1, tyx_ex x h.2.1, h.2.2⟩
theorem Kd.str {K : PySem.W.Frag} {H : Hp} {v : V} (h : Kd K H v "str") : ∃ x, v = .str x ∧ x.length ≤ 1000 := by
  obtain ⟨_, h, l⟩ := h
  generalize e : Value.type "str" = t at h
  cases h with
  | base h => cases h <;> first | exact ⟨_, rfl, l _ rfl⟩ | (exfalso; simp at e)
  | _ => exfalso; simp at e
def isLt (T : String) : Bool := decide (T = "list") || decide (T = "tuple")
theorem kit_lt {K : PySem.W.Frag} {T : String} (h : T ∈ tys) : PySem.W.kitAny K (.type T) [.type "list", .type "tuple"] = some (isLt T) := by
  have key : ∀ a b c : Bool, ∀ S : String, kitB S "list" = some a → kitB S "tuple" = some b → isLt S = c → (a || b) = c → PySem.W.kitAny K (.type S) [.type "list", .type "tuple"] = some (isLt S) := by
    intro a b c S h1 h2 h3 h4
    unfold PySem.W.kitAny
    rw [kit_ty h1]
    cases a with
    | true => rw [h3, ← h4]; rfl
    | false =>
      show PySem.W.kitAny K (.type S) [.type "tuple"] = _
      unfold PySem.W.kitAny
      rw [kit_ty h2]
      cases b with
      | true => rw [h3, ← h4]; rfl
      | false => rw [h3, ← h4]; rfl
  simp only [tys, List.mem_cons, List.mem_nil_iff, or_false] at h
  rcases h with rfl | rfl | rfl | rfl | rfl | rfl | rfl
  · exact key false false false _ (by decide +kernel) (by decide +kernel) (by decide +kernel) rfl
  · exact key false false false _ (by decide +kernel) (by decide +kernel) (by decide +kernel) rfl
  · exact key false false false _ (by decide +kernel) (by decide +kernel) (by decide +kernel) rfl
  · exact key false false false _ (by decide +kernel) (by decide +kernel) (by decide +kernel) rfl
  · exact key true false true _ (by decide +kernel) (by decide +kernel) (by decide +kernel) rfl
  · exact key false true true _ (by decide +kernel) (by decide +kernel) (by decide +kernel) rfl
  · exact key false false false _ (by decide +kernel) (by decide +kernel) (by decide +kernel) rfl
theorem kit_str {K : PySem.W.Frag} {T : String} (h : T ∈ tys) : PySem.W.kitOne K (.type T) (.type "str") = some (decide (T = "str")) := by
  simp only [tys, List.mem_cons, List.mem_nil_iff, or_false] at h
  rcases h with rfl | rfl | rfl | rfl | rfl | rfl | rfl <;> exact kit_ty (by decide +kernel)
/-! ### is_list -/
abbrev sIsList : Stmt := top 3
abbrev sIsWord : Stmt := top 5
abbrev sFirstBad : Stmt := top 6
def spIsList (K : PySem.W.Frag) : Sp := fun vs H Q _ => ∃ v T, vs = [v] ∧ Kd K H v T ∧ ∀ H', Ex H H' → Q (.bl (isLt T)) H'
section
variable {P : Program} {w : World} {K : PySem.W.Frag} {mg : Str → Option Value} {base : Heap} {f : Addr} {fd : FuncData}
theorem scIsList : FnScope ["thing"] ["thing"] (defScope sIsList) := ⟨rfl, rfl, rfl, by decide +kernel, rfl, by decide +kernel, by decide +kernel⟩
theorem ok_is_list (F : FnP K "is_list" sIsList f fd) (gi : mg "isinstance" = none) (gl : mg "list" = none) (gt : mg "tuple" = none) : FnOk P w K mg base CX0 1 f fd ["thing"] (spIsList K) := by
  refine F.ok scIsList (fun vs H Q E h => ?_) (fun cdv A outer s H vs Q E hr h => ?_)
  · obtain ⟨v, T, rfl, _⟩ := h
    rfl
  · refine ⟨_, PSs.nox (pss_one (ps_ret (pe_callB call_isiT rfl gi boot_isinstance (pa_cons (pv 0) (pa_cons (pe_tup (pa_cons (pe_bltn (v := .ty "list") rfl gl boot_list rfl) (pa_cons (pe_bltn (v := .ty "tuple") rfl gt boot_tuple rfl) pa_nil))) pa_nil))))), ?_⟩
    obtain ⟨v, T, rfl, ⟨t1, t2, _⟩, hQ⟩ := h
    exact ⟨v, rfl, by show 2 ≤ sizeLine; decide, fun tp htp => ⟨v, tp, _, _, [.type "list", .type "tuple"], _, rfl, upd_same, .cons (.ty "list") (.cons (.ty "tuple") .nil), tyx_ex (Ex.new htp) t2, kit_lt t1, hQ _ (Ex.new htp)⟩⟩
end
end TH

/-! A2: is_word -/
namespace TH
open PySem PySem.Spec PyProof.Rows L2
def letters : Str := "abcdefghijklmnopqrstuvwxyz"
def okS (x : Str) : Bool := decide (1 ≤ x.length) && (decide (x.length ≤ 8) && x.cps.toList.all fun c => decide (c ∈ letters.cps.toList))
/-- a word: one to eight small letters -/
def isWd : V → Bool
  | .str x => okS x
  | _ => false
def spIsWord (K : PySem.W.Frag) : Sp := fun vs H Q _ => ∃ v T, vs = [v] ∧ Kd K H v T ∧ ∀ H', Ex H H' → Q (.bl (isWd v)) H'
theorem isWd_no {K : PySem.W.Frag} {H : Hp} {v : V} {T : String} (h : Kd K H v T) (n : T ≠ "str") : isWd v = false := by
  cases v with
  | str x =>
    obtain ⟨_, t, _⟩ := h
    cases t with
    | base t => cases t; exact absurd rfl n
  | _ => rfl
section
variable {P : Program} {w : World} {K : PySem.W.Frag} {mg : Str → Option Value} {base : Heap} {f : Addr} {fd : FuncData}
theorem scIsWord : FnScope ["thing", "sign"] ["thing"] (defScope sIsWord) := ⟨rfl, rfl, rfl, by decide +kernel, rfl, by decide +kernel, by decide +kernel⟩
theorem ok_is_word {t : Tok} (F : FnP K "is_word" sIsWord f fd) (gi : mg "isinstance" = none) (gs : mg "str" = none) (gn : mg "len" = none) (ga : mg "all" = none) (gL : mg "LETTERS" = some (.str letters t)) : FnOk P w K mg base CX0 1 f fd ["thing"] (spIsWord K) := by
  refine F.ok scIsWord (fun vs H Q E h => ?_) (fun cdv A outer s H vs Q E hr h => ?_)
  · obtain ⟨v, T, rfl, _⟩ := h
    rfl
  · refine ⟨_, PSs.nox (pss_one (ps_ret (pe_and (pe_callB call_isi rfl gi boot_isinstance (pa_cons (pv 0) (pa_cons (pe_bltn (v := .ty "str") rfl gs boot_str rfl) pa_nil)))
      (pe_and (pe_chain op_le op_le pe_int (pe_callB call_len rfl gn boot_len (pa_cons (pv 0) pa_nil)) pe_int)
      (pe_one (pe_callB (cr_all rfl) rfl ga boot_all (pa_cons (pe_lc (own := [("sign", 1)]) rfl scIsWord.nd (pi_str (pv 0)) (blkOk_by (by kernel_rfl)) (fun s H C cl fp => pg_name (i := 1) scIsWord.nd rfl (.inl rfl) (.inr rfl)) (fun s H C cl fp => pts_nil)
        (fun s H C cl fp => pe_cmpR op_in_sign (pv 1) (pe_glob (v := .str letters) rfl gL ⟨_, rfl⟩) (by with_unfolding_all rfl))) pa_nil))))))), ?_⟩
    obtain ⟨v, T, rfl, k, hQ⟩ := h
    refine ⟨v, rfl, v, .ty "str", _, _, _, rfl, .ty "str", k.2.1, kit_str k.1, _, rfl, ?_⟩
    by_cases hT : T = "str"
    · subst hT
      obtain ⟨x, rfl, hl⟩ := k.str
      rw [if_pos (by simp)]
      refine ⟨.str x, rfl, .str x, x.length, rfl, ⟨by rw [sizeLine_eq]; omega, rfl⟩, 1, x.length, rfl, rfl, _, rfl, ?_⟩
      by_cases h1 : (1 : Int) ≤ x.length
      · rw [if_pos (decide_eq_true h1)]
        refine ⟨x.length, 8, rfl, rfl, _, rfl, ?_⟩
        by_cases h8 : (x.length : Int) ≤ 8
        · rw [if_pos (decide_eq_true h8)]
          refine ⟨.str x, rfl, x, rfl, fun D hD => ?_⟩
          have ext : ∀ l : List V, Ex H (upd H D (.lst l)) := fun l => Ex.new hD
          refine lc_it walk_str (fun n H2 => H2 = upd H D (.lst ((x.cps.toList.take n).map fun c => V.bl (decide (c ∈ letters.cps.toList))))) rfl (fun _ _ _ _ => trivial) (fun n v H2 H3 hn e y => ?_) fun H2 e => ?_
          · obtain ⟨rfl, c, hc, rfl⟩ := y
            subst e
            refine ⟨rfl, .str ⟨#[c]⟩, rfl, c, letters, rfl, rfl, _, upd_same, ?_, ?_⟩
            · have e1 : x.cps.toList.length = x.length := Array.length_toList
              rw [sizeLine_eq, List.length_map, List.length_take, e1]
              have := Nat.min_le_right n x.length
              omega
            · rw [upd_upd]
              have hc' : x.cps.toList[n]? = some c := by simpa using hc
              rw [List.take_add_one, hc', List.map_append]
              rfl
          · subst e
            have et : x.cps.toList.take x.cps.size = x.cps.toList := List.take_of_length_le (by simp)
            refine ⟨D, x.cps.toList.map fun c => decide (c ∈ letters.cps.toList), rfl, .inl (.inl ?_), ?_⟩
            · rw [upd_same, et, List.map_map]
              rfl
            · have q := hQ _ (ext ((x.cps.toList.take x.cps.size).map fun c => V.bl (decide (c ∈ letters.cps.toList))))
              have e2 : isWd (.str x) = (x.cps.toList.map fun c => decide (c ∈ letters.cps.toList)).all id := by
                show okS x = _
                unfold okS
                rw [decide_eq_true (show 1 ≤ x.length by omega), decide_eq_true (show x.length ≤ 8 by omega), List.all_map]
                rfl
              rw [e2] at q
              exact q
        · rw [if_neg (by simpa using h8)]
          have q := hQ _ Ex.refl
          rw [show isWd (.str x) = false by
            show okS x = false
            unfold okS
            rw [decide_eq_false (show ¬ x.length ≤ 8 by omega)]
            simp] at q
          exact q
      · rw [if_neg (by simpa using h1)]
        refine ⟨_, rfl, ?_⟩
        have q := hQ _ Ex.refl
        rw [show isWd (.str x) = false by
          show okS x = false
          unfold okS
          rw [decide_eq_false (show ¬ 1 ≤ x.length by omega)]
          rfl] at q
        exact q
    · rw [if_neg (by simpa using hT)]
      have q := hQ _ Ex.refl
      rw [isWd_no k hT] at q
      exact q
end
end TH

/-! A3: enumerate over a tuple -/
namespace TH
open PySem PySem.Spec PyProof.Rows L2
abbrev enO (it : Addr) : Obj := { cls := .type "enumerate", data := .fields #[.none, .bool false, .ref it, rawInt 0, .none, .none] }
set_option maxHeartbeats 8000000 in
theorem enum_made {v : Value} {o : Obj} {G : Heap → Prop} (B : Begins v o G) :
    Meets (Builtin.«enumerate.__new__» ⟨[.type "enumerate", v], []⟩) (fun _ R s => G s.heap ∧ R (.ok (.ret (.ref (s.heap.push o).objs.size))) { s with heap := (s.heap.push o).push (enO s.heap.objs.size) }) :=
  .of_wp fun prog w A R s ⟨g1, g2⟩ => by
    obtain ⟨hp, g, d, tk, os⟩ := s
    have sb := sub_enumerate
    have begun : ∀ {A' : Around} {E : Value → Shared → Prop} {Q : Value → Shared → Prop}, Q (.ref hp.objs.size) ⟨hp.push o, g, d, tk, os⟩ → wpAny (model prog w) A' (pyIter v) Q E ⟨hp, g, d, tk, os⟩ := fun q => B.iter prog w _ _ _ _ g1 q
    wp_walk using begun
    refine wpAny_stack_any fun st => wpAny_pure ?_
    split
    · rename_i c _ _ _ _ _
      cases (c == Value.type "enumerate") <;> (wp_walk using begun; exact ⟨_, rfl, g2⟩)
    · wp_walk using begun
      exact ⟨_, rfl, g2⟩
theorem enum_call {prog : Program} {w : World} {A : Around} {E : Value → Shared → Prop} {s : Shared} {v : Value} {o : Obj} {G : Heap → Prop} {Q : Value → Shared → Prop} (B : Begins v o G) (g1 : G s.heap)
    (q : Q (.ref (s.heap.objs.size + 1)) { s with heap := (s.heap.push o).push (enO s.heap.objs.size) }) : wpAny (model prog w) A (call (.type "enumerate") [v]) Q E s := by
  refine callType_new F.called_enumerate (by decide) (F.typeCall_enumerate_1 _) (F.newCall_enumerate_1 _) (fun x => F.args_object_init_2 x _) F.entry_enumerate_new (enum_made B) ⟨g1, ?_⟩
  have sz : (s.heap.push o).objs.size = s.heap.objs.size + 1 := Heap.size_push ..
  have new := Heap.get?_push_size (s.heap.push o) (o := enO s.heap.objs.size) rfl
  show _ ∧ _
  rw [sz] at new ⊢
  exact ⟨⟨_, new, rfl⟩, q⟩
/-- the tuple at a, each item in a new pair -/
def ItE (K : PySem.W.Frag) (a : Addr) : It :=
  ⟨fun i H => ∃ (xs : List V) (x : V), SqT K H a xs ∧ xs[i]? = some x, fun i H v H' => ∃ T x, v = .ref T ∧ H T = none ∧ H' = upd H T (.tup [.int (i : Nat), x]) ∧ ∀ xs, SqT K H a xs → xs[i]? = some x, fun i H => ∃ xs : List V, SqT K H a xs ∧ xs.length = i⟩
theorem walk_enumT {K : PySem.W.Frag} {a : Addr} {xs : List V} : Walk (ItE K a) xs.length (fun H => SqT K H a xs) (YPair (fun i => some (.int (i : Nat))) (fun i => xs[i]?)) where
  goes := fun i H hi h => ⟨xs, xs[i], h, List.getElem?_eq_getElem hi⟩
  stops := fun H h => ⟨xs, h, rfl⟩
  yields := fun i H v H' _ h ⟨T, x, e1, e2, e3, e4⟩ => ⟨T, _, x, e1, e2, e3, rfl, e4 xs h⟩
/-- how the two new objects stand at turn i -/
def EnSt (a e it : Addr) (i : Nat) (h : Heap) : Prop := (∃ old, IsEnum h e it ((i : Nat) : Int) old) ∧ h.IsTupleIter it a i ∧ e ≠ it ∧ a ≠ it ∧ e ≠ a
theorem turn_enumT {P : Program} {w : World} {K : PySem.W.Frag} {elts : List Expr} {kk : Nat} {tpos : Pos} (a e it : Addr) : Turn P w K (.Tuple elts kk tpos) (ItE K a) [e, it] e (EnSt a e it) where
  mem := List.mem_cons_self
  obj := fun i h ⟨⟨old, he⟩, ⟨o, ho, _, hd⟩, _⟩ b hb => by
    rcases List.mem_cons.mp hb with z | z
    · subst z
      exact ⟨_, he, fun v q => nomatch q⟩
    · rw [List.mem_singleton.mp z]
      exact ⟨o, ho, fun v q => by rw [hd] at q; cases q⟩
  keep := fun i h h' ⟨⟨old, he⟩, hi, hne⟩ k => ⟨⟨old, k e List.mem_cons_self _ he⟩, hi.at fun o q => k it (by simp) o q, hne⟩
  item := by
    intro X hP hw hK hc i pins s σ H E I hf st ⟨xs, x, sq, hx⟩
    subst hP hw hK
    obtain ⟨⟨old, he⟩, hit, ne, na, nea⟩ := st
    obtain ⟨its, rel, tp, _⟩ := I.tuple sq
    obtain ⟨u, hu, ru⟩ := rel.get hx
    have lte : e < s.heap.objs.size := Heap.lt_size he
    have lti : it < s.heap.objs.size := by
      obtain ⟨_, q, _⟩ := hit
      exact Heap.lt_size q
    have lt : i < its.toArray.size := by
      obtain ⟨z, _⟩ := List.getElem?_eq_some_iff.mp hu
      simpa using z
    refine wpAny_pyNext_enum_itemC (Draws.tuple (show X.A.in1.handled = none from I.ok.hd hc) it a na its.toArray) he ⟨hit, tp⟩ lt ne (by simp [ne, nea]) fun y h1 tk py out st1 new sz keep => ?_
    have ey : y = u := Option.some.inj (py.symm.trans (by simpa using hu))
    subst ey
    refine ⟨_, rfl, wpAny_letOwnedTupleGo_enum (s := { s with heap := h1, toks := tk + 1 }) out fun h2 he2 sb => ?_⟩
    have new2 : h2.get? s.heap.objs.size = some { cls := .type "tuple", data := .seq #[.int i tk, y] } := (sb.2 _ (Nat.ne_of_gt lte)).trans new
    have ok : ObjOk X.prog X.w (upd H s.heap.objs.size (.tup [.int (i : Nat), x])) h2 s.heap.objs.size (.tup [.int (i : Nat), x]) := ⟨by show 2 ≤ sizeLine; decide, [.int i tk, y], .cons ⟨_, rfl⟩ (.cons ru .nil), _, new2, rfl, _, rfl⟩
    have J : Inv X pins σ (upd H s.heap.objs.size (.tup [.int (i : Nat), x])) { s with heap := h2, toks := tk + 1 } :=
      I.turnedNew (ch := [e, it]) (fun b ob hb q => (sb.2 b fun z => hb (by simp [z])).trans (keep b ob (fun z => hb (by simp [z])) (fun z => hb (by simp [z])) q)) hf (Nat.le_refl _) ok
    refine ⟨.ref s.heap.objs.size, _, J, rfl, ⟨_, x, rfl, I.hok.fresh (Nat.le_refl _), rfl, fun ys z => by rw [I.tuple_inj z sq]; exact hx⟩, ⟨⟨y, ?_⟩, st1.1.at fun o q => (sb.2 it (Ne.symm ne)).trans q, ne, na, nea⟩, fun b hb => ?_⟩
    · rw [show ((i + 1 : Nat) : Int) = (i : Int) + 1 by omega]
      exact he2
    · have lb : b < s.heap.objs.size := by
        rcases List.mem_cons.mp hb with z | z
        · rw [z]; exact lte
        · rw [List.mem_singleton.mp z]; exact lti
      exact (upd_ne (Nat.ne_of_lt lb)).trans (hf b hb).1
  done := by
    intro X hP hw hK hc i pins s σ H E I hf st ⟨xs, sq, le⟩
    subst hP hw hK le
    obtain ⟨⟨old, he⟩, hit, ne, na, nea⟩ := st
    obtain ⟨its, rel, tp, _⟩ := I.tuple sq
    have en : its.toArray.size = xs.length := by
      rw [List.size_toArray]
      exact rel.length.symm
    obtain ⟨f0, f1, _, f3, f4, f5⟩ := hf it (by simp)
    exact wpAny_pyNext_enum_endD (Draws.tuple (show X.A.in1.handled = none from I.ok.hd hc) it a na its.toArray) he ⟨en ▸ hit, tp⟩ fun h1 eb => ⟨rfl, I.turned (t' := s.toks) (fun b o nb q => eb b o nb q) f0 f1 f3 f4 f5⟩
  self := fun A i s Q E ⟨⟨_, he⟩, _⟩ h => wpAny_pyIter_enum he h
/-- a sequence: a list or a tuple -/
def Sq (K : PySem.W.Frag) (H : Hp) (a : Addr) (xs : List V) : Prop := SqL K H a xs ∨ SqT K H a xs
/-- a walk in numbered pairs over xs, which goes as long as what stood at its begin stands -/
def EnW (H : Hp) (xs : List V) (J : It) : Prop := ∃ G, Walk J xs.length G (YPair (fun i => some (.int (i : Nat))) (fun i => xs[i]?)) ∧ ∀ H', Ex H H' → G H'
def iEnumT (K : PySem.W.Frag) (ta : TA) : TI := fun σ H R => ta σ H fun vs H1 => ∃ (a : Addr) (xs : List V) (H0 : Hp), vs = [.ref a] ∧ Ex H0 H1 ∧ Sq K H0 a xs ∧ ∀ J, EnW H0 xs J → R J H1
/-- enumerate of a list or a tuple -/
theorem pi_enumT {X : Cx} {e : Expr} {ta : TA} {p pos tpos : Pos} {elts : List Expr} {kk : Nat} (hg : Gl X "enumerate") (hm : X.mg "enumerate" = none) (ha : PA X [e] ta) (stars : starEach [e] X.env = [(false, eval e X.env)] := by rfl) :
    PI X (.Tuple elts kk tpos) (.Call (.Name "enumerate" p) [e] [] pos) (iEnumT X.K ta) := ⟨fun pins s σ H R I h => Call_ (ld_blt I hg hm boot_enumerate (PyProof.Rows.callWith_type1 (thn (ha.run pos pins s σ H _ I h) fun us s1 ⟨vs, H1, J, rel, a, xs, H0, ev, x0, sq, q⟩ => by
  subst ev
  cases rel with
  | cons r rr =>
    cases rr
    cases r
    have far : ∀ b, b ∈ [s1.heap.objs.size + 1, s1.heap.objs.size] → s1.heap.objs.size ≤ b := fun b m => by
      rcases List.mem_cons.mp m with z | z
      · rw [z]; exact Nat.le_succ _
      · rw [List.mem_singleton.mp z]; exact Nat.le_refl _
    have apart : ∀ b, b ∈ [s1.heap.objs.size + 1, s1.heap.objs.size] → FpOk X pins H1 b := fun b m => J.fpOk (far b m) (J.hok.fresh (far b m))
    rcases sq with sq | sq
    · obtain ⟨its, _, lp, _⟩ := J.list (x0.sqL sq)
      exact call_enumerate_list lp.isList fun h1 en li _ keep => wpAny_pyIter_enum en ⟨s1.heap.objs.size + 1, _, _, _, H1, rfl, J.kept (t' := s1.toks) keep, turn_enum a (s1.heap.objs.size + 1) s1.heap.objs.size, ⟨⟨.none, en⟩, li, Nat.succ_ne_self _⟩, apart, q _ ⟨_, walk_enum, fun H' x => x.sqL sq⟩⟩
    · obtain ⟨its, _, tp, _⟩ := J.tuple (x0.sqT sq)
      have la : a < s1.heap.objs.size := by
        obtain ⟨_, z, _⟩ := tp
        exact Heap.lt_size z
      have tI : (s1.heap.push { cls := .type "tuple_iterator", data := .fields #[.ref a, .int 0 0] }).objs.size = s1.heap.objs.size + 1 := Heap.size_push ..
      have en : IsEnum ((s1.heap.push { cls := .type "tuple_iterator", data := .fields #[.ref a, .int 0 0] }).push (enO s1.heap.objs.size)) (s1.heap.objs.size + 1) s1.heap.objs.size 0 .none := by
        have z := Heap.get?_push_size (s1.heap.push { cls := .type "tuple_iterator", data := .fields #[.ref a, .int 0 0] }) (o := enO s1.heap.objs.size) rfl
        rw [tI] at z
        exact z
      refine enum_call (begins_tuple a its.toArray) tp (wpAny_pyIter_enum en ⟨s1.heap.objs.size + 1, _, _, _, H1, rfl, J.kept (t' := s1.toks) fun b o z => Heap.get?_push_of_some _ (Heap.get?_push_of_some _ z), turn_enumT a (s1.heap.objs.size + 1) s1.heap.objs.size, ⟨⟨.none, en⟩, ⟨_, Heap.get?_push_of_some _ (Heap.get?_push_size _ rfl), rfl, rfl⟩, Nat.succ_ne_self _, Nat.ne_of_lt la, Nat.ne_of_gt (Nat.lt_succ_of_lt la)⟩, apart, q _ ⟨_, walk_enumT, fun H' x => x.sqT sq⟩⟩)) stars rfl))⟩
end TH

/-! A4: first_bad_word -/
namespace TH
open PySem PySem.Spec PyProof.Rows L2
/-- the first that is no word, or was met -/
def fbw : List V → List V → Nat → Option Nat
  | [], _, _ => none
  | x :: r, met, i => if (!isWd x || inV x met) = true then some i else fbw r (met ++ [x]) (i + 1)
def optV : Option Nat → V
  | none => .non
  | some i => .int i
theorem Sq.ex {K : PySem.W.Frag} {H H' : Hp} {a : Addr} {xs : List V} (k : Ex H H') (h : Sq K H a xs) : Sq K H' a xs := h.imp k.sqL k.sqT
theorem sqL_kd {K : PySem.W.Frag} {H : Hp} {a : Addr} {xs : List V} (h : SqL K H a xs) : Kd K H (.ref a) "list" := by
  refine ⟨by decide, ?_, fun x z => nomatch z⟩
  rcases h with (h | ⟨o, h⟩) | ⟨o, its, n, hk, hc, _⟩
  · exact .base (.lst h)
  · exact .base (.frz h)
  · exact .kList hk hc
theorem sqT_kd {K : PySem.W.Frag} {H : Hp} {a : Addr} {xs : List V} (h : SqT K H a xs) : Kd K H (.ref a) "tuple" := by
  refine ⟨by decide, ?_, fun x z => nomatch z⟩
  rcases h with (h | ⟨o, h⟩) | ⟨o, its, n, hk, hc, _⟩
  · exact .base (.tup h)
  · exact .fTuple h
  · exact .kTuple hk hc
def spFirstBad (K : PySem.W.Frag) : Sp := fun vs H Q _ => ∃ (v : V) (b : Addr), vs = [v, .ref b] ∧ H b = some (.lst []) ∧
  ((∃ T, Kd K H v T ∧ isLt T = false ∧ ∀ H', Ex H H' → Q (.int 0) H') ∨
   ∃ (a : Addr) (xs : List V), v = .ref a ∧ Sq K H a xs ∧ xs.length ≤ 1000 ∧ (∀ x ∈ xs, ∃ T, Kd K H x T) ∧ ∀ H', Ex H H' → Q (optV (fbw xs [] 0)) H')
theorem isWd_str {v : V} (h : isWd v = true) : ∃ x, v = .str x := by
  cases v with
  | str x => exact ⟨x, rfl⟩
  | _ => cases h
theorem fbw_step {xs : List V} {i : Nat} {x : V} {met : List V} (h : xs[i]? = some x) : fbw (xs.drop i) met i = if (!isWd x || inV x met) = true then some i else fbw (xs.drop (i + 1)) (met ++ [x]) (i + 1) := by
  obtain ⟨lt, e⟩ := List.getElem?_eq_some_iff.mp h
  rw [List.drop_eq_getElem_cons lt, e]
  rfl
section
variable {P : Program} {w : World} {K : PySem.W.Frag} {mg : Str → Option Value} {base : Heap} {f : Addr} {fd : FuncData}
theorem scFirstBad : FnScope ["things", "barred", "met", "index", "thing"] ["things", "barred"] (defScope sFirstBad) := ⟨rfl, rfl, rfl, by decide +kernel, rfl, by decide +kernel, by decide +kernel⟩
theorem ok_first_bad (F : FnP K "first_bad_word" sFirstBad f fd) (FL : Has P w K mg base "is_list" 1 ["thing"] (spIsList K)) (FW : Has P w K mg base "is_word" 1 ["thing"] (spIsWord K)) (gl : mg "list" = none) (ge : mg "enumerate" = none) : FnOk P w K mg base CX0 2 f fd ["things", "barred"] (spFirstBad K) := by
  refine F.ok scFirstBad (fun vs H Q E h => ?_) (fun cdv A outer s H vs Q E hr h => ?_)
  · obtain ⟨v, b, rfl, _⟩ := h
    rfl
  · refine ⟨_, PSs.nox (pss_cons (ps_if (pt_not (pt_val (pe_has FL hr (by decide) rfl (pa_cons (pv 0) pa_nil)))) (pss_one (ps_ret pe_int)) pss_nil)
      (pss_cons (ps_set (i := 2) scFirstBad.nd rfl (.inl rfl) (pe_callTy call_list_of rfl gl boot_list (pa_cons (pv 1) pa_nil)))
      (pss_cons (ps_for PassesOwn.never rfl (pi_enumT rfl ge (pa_cons (pv 0) pa_nil)) (pg_tup rfl (pgs_cons (pg_name (i := 3) scFirstBad.nd rfl (.inl rfl)) (pgs_cons (pg_name (i := 4) scFirstBad.nd rfl (.inl rfl)) pgs_nil)))
        (pss_cons (ps_if (PW.pt (pw_or (pt_not (pt_val (pe_has FW hr (by decide) rfl (pa_cons (pv 4) pa_nil)))) (pw_or1 (pt_cmpR op_in_seq (pv 4) (pv 2) (by with_unfolding_all rfl))))) (pss_one (ps_ret (pv 3))) pss_nil)
        (pss_one (ps_expr (pe_bm PySem.F.plainAttrs_list PySem.F.slot_list_append PySem.F.type_list_append mt_append (pv 2) (pa_cons (pv 4) pa_nil))))))
      (pss_one (ps_ret pe_non))))), ?_⟩
    obtain ⟨v, b, rfl, hb, h⟩ := h
    rcases h with ⟨T, k, nl, hQ⟩ | ⟨a, xs, rfl, sq, len, kinds, hQ⟩
    · refine ⟨v, rfl, v, T, rfl, k, fun H1 x1 => ⟨_, rfl, ?_⟩⟩
      rw [nl]
      exact hQ H1 x1
    · obtain ⟨T, kT, lT⟩ : ∃ T, Kd K H (.ref a) T ∧ isLt T = true := by
        rcases sq with sq | sq
        · exact ⟨_, sqL_kd sq, rfl⟩
        · exact ⟨_, sqT_kd sq, rfl⟩
      refine ⟨.ref a, rfl, .ref a, T, rfl, kT, fun H1 x1 => ⟨_, rfl, ?_⟩⟩
      rw [lT]
      refine ⟨.ref b, rfl, b, [], rfl, .inl (.inl (.inl (x1 _ _ hb))), fun m nm => ?_⟩
      have x2 : Ex H (upd H1 m (.lst [])) := x1.trans (Ex.new nm)
      have nmH : H m = none := x1.none nm
      refine ⟨.ref a, rfl, a, xs, H, rfl, x2, sq, fun J ⟨G, W, gs⟩ => for_it W (fun i σ H2 => ∃ (met : List V) (o3 o4 : Option V), σ = [some (.ref a), some (.ref b), some (.ref m), o3, o4] ∧ Ex H H2 ∧ H2 m = some (.lst met) ∧ met.length = i ∧ (∀ y ∈ met, ∃ x, y = .str x) ∧ fbw xs [] 0 = fbw (xs.drop i) met i)
        ⟨[], none, none, rfl, x2, upd_same, rfl, (fun y h => by cases h), rfl⟩ (fun i σ H2 _ ⟨_, _, _, _, x, _⟩ => gs H2 x) (fun i v σ H2 H3 hi h y => ?_) fun σ H2 h => ?_⟩
      · obtain ⟨met, o3, o4, rfl, x3, hm, ln, ws, eq⟩ := h
        obtain ⟨t, u, x, rfl, nt, rfl, eu, ex⟩ := y
        cases eu
        have xt : Ex H2 (upd H2 t (.tup [.int (i : Nat), x])) := Ex.new nt
        obtain ⟨Tx, kx⟩ := kinds x (List.mem_of_getElem? ex)
        refine ⟨t, _, rfl, .inl (.inl upd_same), rfl, .int i, [x], rfl, x, [], rfl, rfl, ?_⟩
        refine ⟨x, rfl, x, Tx, rfl, kx.ex (x3.trans xt), fun H4 x4 => ⟨_, rfl, ?_⟩⟩
        have x5 := (x3.trans xt).trans x4
        have hm4 : H4 m = some (.lst met) := x4 _ _ (xt _ _ hm)
        rw [fbw_step ex] at eq
        cases wd : isWd x with
        | false =>
          rw [wd] at eq
          refine ⟨.int i, rfl, ?_⟩
          have q := hQ H4 x5
          rw [eq] at q
          exact q
        | true =>
          rw [wd] at eq
          obtain ⟨z, rfl⟩ := isWd_str wd
          refine ⟨.str z, rfl, .ref m, rfl, m, met, rfl, .inl (.inl (.inl hm4)), rfl, List.all_eq_true.mpr fun y hy => ?_, _, rfl, ?_⟩
          · obtain ⟨x, rfl⟩ := ws y hy
            rfl
          · cases iv : inV (.str z) met with
            | true =>
              rw [iv] at eq
              refine ⟨.int i, rfl, ?_⟩
              have q := hQ H4 x5
              rw [eq] at q
              exact q
            | false =>
              rw [iv, if_neg (by simp)] at eq
              refine ⟨.ref m, rfl, .inl ⟨rfl, met, .inl (.inl hm4)⟩, .str z, rfl, m, met, .str z, rfl, rfl, hm4, by rw [sizeLine_eq]; omega, ?_⟩
              refine ⟨met ++ [.str z], _, _, rfl, fun b o e => ?_, upd_same, by simp [ln], fun y hy => ?_, eq⟩
              · have nb : b ≠ m := fun q => by rw [q, nmH] at e; cases e
                exact (upd_ne nb).trans (x5 _ _ e)
              · rcases List.mem_append.mp hy with z | z
                · exact ws y z
                · exact ⟨_, List.mem_singleton.mp z⟩
      · obtain ⟨met, o3, o4, rfl, x3, hm, ln, ws, eq⟩ := h
        have q := hQ H2 x3
        rw [eq, List.drop_length] at q
        exact q
end
end TH

/-! A5: [*d, ..]; a Thing in memory; names_of, led_to -/
namespace TH
open PySem PySem.Spec PyProof.Rows L2
def tStarD (te : TE) (t : TA) : TA := fun σ H Q => te σ H fun x H1 => ∃ (d : Addr) (kvs : List (Key × V)), x = .ref d ∧ Rd H1 d (.dK kvs) ∧ t σ H1 fun ys H2 => Q ((kvs.map fun kv => kV kv.1) ++ ys) H2
theorem pa_starD {X : Cx} {e : Expr} {es : List Expr} {te : TE} {t : TA} {p : Pos} (hc : X.calm = true) (he : PE X e te) (hr : PA X es t) (stars : starEach (.Starred e p :: es) X.env = (true, eval e X.env) :: starEach es X.env := by rfl) :
    PA X (.Starred e p :: es) (tStarD te t) := ⟨fun pos pins s σ H Q I h => PySem.W.items_star (thn (he.run pins s σ H _ I h) fun v s1 ⟨y, H1, J, ry, d, kvs, ey, rd, q⟩ => by
  subst ey
  have ry : v = Value.ref d := ry
  subst ry
  obtain ⟨z, lo, vs, rel, dd⟩ := dk_rd J.hok rd
  obtain ⟨ep, at_⟩ := dd.dictAt
  have ek : (kvs.map fun kv => kV kv.1) = vs.map fun p => kV p.1 := by
    have e := congrArg (List.map kV) rel.keys
    simp only [List.map_map] at e
    exact e
  unfold PySem.W.StarOf notIterableAtAll
  refine wpAny_bind (wpAny_specialOf dd.typeIs PySem.F.slot_dict_iter.lookup (wpAny_pure ⟨rfl, ?_⟩))
  refine PySem.W.kdu_collect (PySem.W.kdl_dict (knd := mixKind X.prog X.w) (kvs := vs) (ep := ep) lo) (J.ok.hd hc) at_ (by rw [← rel.length]; exact z) fun h1 tk acc keep its => ?_
  have vals : Vals (vs.map fun p => kV p.1) acc.toList := keys_at (by rw [Array.length_toList]; exact its.1) fun j v e => its.2 j v (by rw [← Array.getElem?_toList]; exact e)
  exact thn (hr.run pos pins _ σ H1 _ (J.kept (t' := tk) keep) q) fun ws s3 ⟨us, H3, L, r3, q3⟩ => ⟨_, H3, L, (ek ▸ vals).append r3, q3⟩) stars⟩
/-! ### a Thing -/
abbrev Ld := List (Str × Str)
abbrev Lds := List (Str × Ld)
structure ThD where
  vals : List Str
  start : Str
  deeds : Lds
  ents : Lds
def ldV (l : Ld) : List (Key × V) := l.map fun p => (Sum.inr p.1, V.str p.2)
/-- a dict of dicts at a -/
def DD (H : Hp) (a : Addr) (ls : Lds) : Prop := ∃ kvs : List (Key × V), H a = some (.dK kvs) ∧ Paired (fun (l : Str × Ld) (kv : Key × V) => kv.1 = Sum.inr l.1 ∧ ∃ b, kv.2 = .ref b ∧ H b = some (.dK (ldV l.2))) ls kvs
theorem DD.ex {H H' : Hp} {a : Addr} {ls : Lds} (x : Ex H H') (h : DD H a ls) : DD H' a ls := by
  obtain ⟨kvs, e, p⟩ := h
  exact ⟨kvs, x _ _ e, Paired.mapP p fun _ _ ⟨e1, b, e2, e3⟩ => ⟨e1, b, e2, x _ _ e3⟩⟩
theorem DD.keys {ls : Lds} {kvs : List (Key × V)} {R : Str × Ld → Key × V → Prop} (p : Paired R ls kvs) (h : ∀ l kv, R l kv → kv.1 = Sum.inr l.1) : kvs.map (fun kv => kV kv.1) = ls.map fun l => V.str l.1 := by
  induction p with
  | nil => rfl
  | cons r _ ih => rw [List.map_cons, List.map_cons, ih, h _ _ r]; rfl
def look (ls : Lds) (n : Str) : Option Ld := (ls.find? fun l => decide (l.1 = n)).map (·.2)
def lookL (l : Ld) (n : Str) : Option Str := (l.find? fun p => decide (p.1 = n)).map (·.2)
theorem lookL_val (l : Ld) (n : Str) : valV (ldV l) (Sum.inr n) = (lookL l n).map V.str := by
  induction l with
  | nil => rfl
  | cons p l ih =>
    by_cases e : p.1 = n
    · rw [show ldV (p :: l) = (Sum.inr p.1, V.str p.2) :: ldV l from rfl, valV_pos (congrArg Sum.inr e)]
      unfold lookL
      rw [List.find?_cons, decide_eq_true e]
      rfl
    · rw [show ldV (p :: l) = (Sum.inr p.1, V.str p.2) :: ldV l from rfl, valV_neg (fun z => e (Sum.inr.inj z)), ih]
      unfold lookL
      rw [List.find?_cons, decide_eq_false e]
theorem look_val {H : Hp} {ls : Lds} {kvs : List (Key × V)} (p : Paired (fun (l : Str × Ld) (kv : Key × V) => kv.1 = Sum.inr l.1 ∧ ∃ b, kv.2 = .ref b ∧ H b = some (.dK (ldV l.2))) ls kvs) (n : Str) :
    (look ls n = none ∧ valV kvs (Sum.inr n) = none) ∨ ∃ l b, look ls n = some l ∧ valV kvs (Sum.inr n) = some (.ref b) ∧ H b = some (.dK (ldV l)) := by
  induction p with
  | nil => exact .inl ⟨rfl, rfl⟩
  | @cons l kv ls kvs r _ ih =>
    obtain ⟨e1, b, e2, e3⟩ := r
    by_cases e : l.1 = n
    · refine .inr ⟨l.2, b, ?_, ?_, e3⟩
      · unfold look
        rw [List.find?_cons, decide_eq_true e]
        rfl
      · rw [valV_pos (e1.trans (congrArg Sum.inr e)), e2]
    · have n1 : look (l :: ls) n = look ls n := by
        unfold look
        rw [List.find?_cons, decide_eq_false e]
      have n2 : valV (kv :: kvs) (Sum.inr n) = valV kvs (Sum.inr n) := valV_neg fun z => e (Sum.inr.inj (e1.symm.trans z))
      rw [n1, n2]
      exact ih
/-- the object t is the Thing d of the class C -/
def IsTh (H : Hp) (C t : Addr) (d : ThD) : Prop := ∃ dx vt dd de, H t = some (.ins C dx [("kept_values", .ref vt), ("kept_start", .str d.start), ("kept_deeds", .ref dd), ("kept_entries", .ref de)]) ∧ H vt = some (.tup (d.vals.map V.str)) ∧ DD H dd d.deeds ∧ DD H de d.ents
theorem IsTh.ex {H H' : Hp} {C t : Addr} {d : ThD} (x : Ex H H') (h : IsTh H C t d) : IsTh H' C t d := by
  obtain ⟨dx, vt, dd, de, e1, e2, e3, e4⟩ := h
  exact ⟨dx, vt, dd, de, x _ _ e1, x _ _ e2, e3.ex x, e4.ex x⟩
/-- what the class says of its fields -/
structure ThC (K : PySem.W.Frag) (C : Addr) : Prop where
  cls : Cls K C
  vals : NoAttr K C "kept_values"
  start : NoAttr K C "kept_start"
  deeds : NoAttr K C "kept_deeds"
  ents : NoAttr K C "kept_entries"
end TH

/-! A6: names_of, led_to -/
namespace TH
open PySem PySem.Spec PyProof.Rows L2
abbrev sNamesOf : Stmt := top 24
abbrev sLedTo : Stmt := top 26
def ThD.names (d : ThD) : List Str := d.deeds.map (·.1) ++ d.ents.map (·.1)
def spNamesOf (C : Addr) : Sp := fun vs H Q _ => ∃ (t : Addr) (d : ThD), vs = [.ref t] ∧ IsTh H C t d ∧ d.names.length < 64 ∧ ∀ (p : Addr) (ys : List Str) (H' : Hp), Ex H H' → H p = none → H' p = some (.lst (ys.map V.str)) → ys.Perm d.names → sortedS ys = true → Q (.ref p) H'
/-- where a use leads: what the deed says, or the entry, if it is open -/
def ThD.led (d : ThD) (v n : Str) : Option Str := match look d.deeds n with
  | some l => lookL l v
  | none => match look d.ents n with
    | some l => lookL l v
    | none => none
def optS : Option Str → V
  | none => .non
  | some x => .str x
def spLedTo (C : Addr) : Sp := fun vs H Q _ => ∃ (t : Addr) (d : ThD) (v n : Str), vs = [.ref t, .str v, .str n] ∧ IsTh H C t d ∧ ((∃ l, look d.deeds n = some l ∧ (lookL l v).isSome = true) ∨ (look d.deeds n = none ∧ (look d.ents n).isSome = true)) ∧ Q (optS (d.led v n)) H
section
variable {P : Program} {w : World} {K : PySem.W.Frag} {mg : Str → Option Value} {base : Heap} {f C : Addr} {fd : FuncData}
theorem scNamesOf : FnScope ["thing"] ["thing"] (defScope sNamesOf) := ⟨rfl, rfl, rfl, by decide +kernel, rfl, by decide +kernel, by decide +kernel⟩
theorem ok_names_of (F : FnP K "names_of" sNamesOf f fd) (T : ThC K C) (gs : mg "sorted" = none) : FnOk P w K mg base CX0 1 f fd ["thing"] (spNamesOf C) := by
  refine F.ok scNamesOf (fun vs H Q E h => ?_) (fun cdv A outer s H vs Q E hr h => ?_)
  · obtain ⟨t, d, rfl, _⟩ := h
    rfl
  · refine ⟨_, PSs.nox (pss_one (ps_ret (pe_callB cr_sortedS rfl gs boot_sorted (pa_cons (pe_lst (pa_starD rfl (pe_fld (pv 0) rfl) (pa_starD rfl (pe_fld (pv 0) rfl) pa_nil))) pa_nil)))), ?_⟩
    obtain ⟨t, d, rfl, th, len, hQ⟩ := h
    obtain ⟨dx, vt, dd, de, e1, e2, ⟨ks, k1, kp⟩, ⟨es, m1, mp⟩⟩ := th
    have kk := DD.keys kp fun _ _ r => r.1
    have mk := DD.keys mp fun _ _ r => r.1
    have all : (ks.map fun kv => kV kv.1) ++ ((es.map fun kv => kV kv.1) ++ []) = d.names.map V.str := by
      rw [kk, mk, List.append_nil]
      unfold ThD.names
      rw [List.map_append, List.map_map, List.map_map]
      rfl
    refine ⟨.ref t, rfl, t, C, dx, _, .ref dd, rfl, e1, T.cls, T.deeds, rfl, dd, ks, rfl, .inl k1, .ref t, rfl, t, C, dx, _, .ref de, rfl, e1, T.cls, T.ents, rfl, de, es, rfl, .inl m1, ?_⟩
    unfold tNil
    dsimp only
    rw [all]
    refine ⟨by rw [sizeLine_eq, List.length_map]; omega, fun l hl => ?_⟩
    have x1 : Ex H (upd H l (.lst (d.names.map V.str))) := Ex.new hl
    exact ⟨l, d.names, rfl, .inl (.inl upd_same), len, fun ys p pm so np => hQ p ys _ (x1.trans (Ex.new np)) (x1.none np) upd_same pm so⟩
theorem scLedTo : FnScope ["thing", "worth", "name"] ["thing", "worth", "name"] (defScope sLedTo) := ⟨rfl, rfl, rfl, by decide +kernel, rfl, by decide +kernel, by decide +kernel⟩
theorem ok_led_to (F : FnP K "led_to" sLedTo f fd) (T : ThC K C) : FnOk P w K mg base CX0 1 f fd ["thing", "worth", "name"] (spLedTo C) := by
  refine F.ok scLedTo (fun vs H Q E h => ?_) (fun cdv A outer s H vs Q E hr h => ?_)
  · obtain ⟨t, d, v, n, rfl, _⟩ := h
    rfl
  · have hu := hu_of hr
    refine ⟨_, PSs.nox (pss_cons (ps_if (pt_cmp (pc_din hu (pv 2) (pe_fld (pv 0) rfl))) (pss_one (ps_ret (pe_dget hu (pe_dget hu (pe_fld (pv 0) rfl) (pv 2) (fun _ _ => rfl)) (pv 1) (fun _ _ => rfl)))) pss_nil)
      (pss_one (ps_ret (pe_dget1 hu (pe_dget hu (pe_fld (pv 0) rfl) (pv 2) (fun _ _ => rfl)) (pv 1) ⟨rfl, rfl, rfl, rfl⟩)))), ?_⟩
    obtain ⟨t, d, v, n, rfl, th, way, hQ⟩ := h
    obtain ⟨dx, vt, dd, de, e1, e2, ⟨ks, k1, kp⟩, ⟨es, m1, mp⟩⟩ := th
    refine ⟨.str n, rfl, .ref t, rfl, t, C, dx, _, .ref dd, rfl, e1, T.cls, T.deeds, rfl, dd, _, rfl, DGet.k (k := Sum.inr n) k1, _, rfl, ?_⟩
    unfold ThD.led at hQ
    rcases look_val kp n with ⟨a1, a2⟩ | ⟨l, b, a1, a2, a3⟩
    · rw [a1] at hQ
      dsimp only at hQ
      rw [a2]
      rcases way with ⟨l, z, _⟩ | ⟨_, so⟩
      · rw [a1] at z; cases z
      · rcases look_val mp n with ⟨b1, b2⟩ | ⟨l, b, b1, b2, b3⟩
        · rw [b1] at so; cases so
        · rw [b1] at hQ
          dsimp only at hQ
          refine ⟨.ref t, rfl, t, C, dx, _, .ref de, rfl, e1, T.cls, T.ents, rfl, .str n, rfl, de, .ref b, rfl, b2 ▸ DGet.k (k := Sum.inr n) m1, b, rfl, .inl ⟨_, .inl b3⟩, .str v, rfl, _, DGet.k (k := Sum.inr v) b3, ?_⟩
          rw [lookL_val]
          cases q : lookL l v with
          | none => rw [q] at hQ; exact hQ
          | some x => rw [q] at hQ; exact hQ
    · rw [a1] at hQ
      dsimp only at hQ
      rw [a2]
      rcases way with ⟨l', z, so⟩ | ⟨z, _⟩
      · rw [a1] at z
        cases z
        obtain ⟨x, ex⟩ := Option.isSome_iff_exists.mp so
        have q : valV (ldV l) (Sum.inr v) = some (.str x) := by rw [lookL_val, ex]; rfl
        refine ⟨.ref t, rfl, t, C, dx, _, .ref dd, rfl, e1, T.cls, T.deeds, rfl, .str n, rfl, dd, .ref b, rfl, a2 ▸ DGet.k (k := Sum.inr n) k1, .str v, rfl, b, .str x, rfl, q ▸ DGet.k (k := Sum.inr v) a3, ?_⟩
        rw [ex] at hQ
        exact hQ
      · rw [a1] at z; cases z
end
end TH

/-! A7: the rows, plainly -/
namespace TH
open PySem PySem.Spec PyProof.Rows L2
abbrev Fnd := List (Str × List Str)
def rowOf (f : Fnd) (v : Str) : Option (List Str) := (f.find? fun p => decide (p.1 = v)).map (·.2)
def nStep (d : ThD) (w : Str) (st : Fnd × List Str) (n : Str) : Fnd × List Str := match d.led w n with
  | none => st
  | some g => match rowOf st.1 g with
    | some _ => st
    | none => (st.1 ++ [(g, (rowOf st.1 w).getD [] ++ [n])], st.2 ++ [g])
def wStep (d : ThD) (ns : List Str) (st : Fnd × List Str) (w : Str) : Fnd × List Str := ns.foldl (nStep d w) st
def tier (d : ThD) (ns : List Str) (f : Fnd) (ws : List Str) : Fnd × List Str := ws.foldl (wStep d ns) (f, [])
inductive Run (d : ThD) (ns : List Str) : Fnd → List Str → Fnd → Prop where
  | nil (f : Fnd) : Run d ns f [] f
  | step {f : Fnd} {ws : List Str} {f' : Fnd} (h : ws ≠ []) (r : Run d ns (tier d ns f ws).1 (tier d ns f ws).2 f') : Run d ns f ws f'
/-- a right Thing -/
structure ThD.Ok (d : ThD) : Prop where
  few : d.vals.length ≤ 10
  start : d.start ∈ d.vals
  txt : ∀ v ∈ d.vals, PyData.canLay0 (.str v) = true
  deeds : ∀ n l, look d.deeds n = some l → ∀ v ∈ d.vals, ∃ g ∈ d.vals, lookL l v = some g
  ents : ∀ n l, look d.ents n = some l → ∀ v g, lookL l v = some g → g ∈ d.vals
/-- all names are the Thing's -/
def ThD.Own (d : ThD) (ns : List Str) : Prop := ∀ n ∈ ns, (look d.deeds n).isSome = true ∨ (look d.ents n).isSome = true
theorem ThD.Ok.led {d : ThD} (k : d.Ok) {v n g : Str} (hv : v ∈ d.vals) (h : d.led v n = some g) : g ∈ d.vals := by
  unfold ThD.led at h
  cases q : look d.deeds n with
  | some l =>
    rw [q] at h
    obtain ⟨g', m, e⟩ := k.deeds n l q v hv
    have h : lookL l v = some g := h
    rw [e] at h
    cases h
    exact m
  | none =>
    rw [q] at h
    cases q2 : look d.ents n with
    | some l =>
      rw [q2] at h
      exact k.ents n l q2 v g h
    | none =>
      rw [q2] at h
      cases h
/-- what holds of the rows found -/
structure FOk (d : ThD) (f : Fnd) : Prop where
  nd : (f.map (·.1)).Nodup
  sub : ∀ p ∈ f, p.1 ∈ d.vals
  row : ∀ p ∈ f, p.2.length ≤ f.length
theorem rowOf_some {f : Fnd} {v : Str} {r : List Str} (h : rowOf f v = some r) : (v, r) ∈ f := by
  unfold rowOf at h
  obtain ⟨p, e, rfl⟩ := Option.map_eq_some_iff.mp h
  have z := List.find?_some e
  have m := List.mem_of_find?_eq_some e
  simp only [decide_eq_true_eq] at z
  rw [← z]
  exact m
theorem rowOf_none {f : Fnd} {v : Str} (h : rowOf f v = none) : v ∉ f.map (·.1) := by
  intro m
  obtain ⟨p, hp, rfl⟩ := List.mem_map.mp m
  unfold rowOf at h
  have z := List.find?_eq_none.mp (Option.map_eq_none_iff.mp h) p hp
  simp at z
theorem rowOf_mem {f : Fnd} {v : Str} (h : v ∈ f.map (·.1)) : ∃ r, rowOf f v = some r := by
  cases q : rowOf f v with
  | some r => exact ⟨r, rfl⟩
  | none => exact absurd h (rowOf_none q)
theorem FOk.has {d : ThD} {f : Fnd} (k : FOk d f) {v : Str} (h : v ∈ f.map (·.1)) : v ∈ d.vals := by
  obtain ⟨p, hp, rfl⟩ := List.mem_map.mp h
  exact k.sub p hp
theorem FOk.len {d : ThD} {f : Fnd} (k : FOk d f) : f.length ≤ d.vals.length := by
  have z := k.nd.length_le_of_subset (l₂ := d.vals) fun v m => by
    obtain ⟨p, hp, rfl⟩ := List.mem_map.mp m
    exact k.sub p hp
  simpa using z
/-- one step keeps it -/
theorem nStep_ok {d : ThD} (k : d.Ok) {w : Str} {st : Fnd × List Str} {n : Str} (h : FOk d st.1) (hw : w ∈ st.1.map (·.1)) (hl : ∀ g ∈ st.2, g ∈ st.1.map (·.1)) :
    FOk d (nStep d w st n).1 ∧ (∀ v ∈ st.1.map (·.1), v ∈ (nStep d w st n).1.map (·.1)) ∧ (∀ g ∈ (nStep d w st n).2, g ∈ (nStep d w st n).1.map (·.1)) ∧ (nStep d w st n).1.length - st.1.length = (nStep d w st n).2.length - st.2.length ∧ st.1.length ≤ (nStep d w st n).1.length ∧ st.2.length ≤ (nStep d w st n).2.length := by
  have same : FOk d st.1 ∧ (∀ v ∈ st.1.map (·.1), v ∈ st.1.map (·.1)) ∧ (∀ g ∈ st.2, g ∈ st.1.map (·.1)) ∧ st.1.length - st.1.length = st.2.length - st.2.length ∧ st.1.length ≤ st.1.length ∧ st.2.length ≤ st.2.length := ⟨h, fun _ m => m, hl, by omega, Nat.le_refl _, Nat.le_refl _⟩
  unfold nStep
  cases q : d.led w n with
  | none => exact same
  | some g =>
    dsimp only
    cases q2 : rowOf st.1 g with
    | some r => exact same
    | none =>
      have wv : w ∈ d.vals := by
        obtain ⟨p, hp, rfl⟩ := List.mem_map.mp hw
        exact h.sub p hp
      have gv := k.led wv q
      have ng := rowOf_none q2
      obtain ⟨r, er⟩ := rowOf_mem hw
      have lr := h.row _ (rowOf_some er)
      refine ⟨⟨?_, fun p hp => ?_, fun p hp => ?_⟩, fun v m => ?_, fun x m => ?_, ?_, ?_, ?_⟩
      · rw [List.map_append]
        refine List.nodup_append.mpr ⟨h.nd, by simp, fun a ha b hb => ?_⟩
        rw [List.map_cons, List.map_nil, List.mem_singleton] at hb
        rw [hb]
        exact fun z => ng ((show a = g from z) ▸ ha)
      · rcases List.mem_append.mp hp with z | z
        · exact h.sub p z
        · rw [List.mem_singleton.mp z]; exact gv
      · rw [List.length_append]
        rcases List.mem_append.mp hp with z | z
        · have := h.row p z
          omega
        · rw [List.mem_singleton.mp z, er]
          simp only [Option.getD_some, List.length_append, List.length_cons, List.length_nil]
          have : r.length ≤ st.1.length := lr
          omega
      · rw [List.map_append]
        exact List.mem_append_left _ m
      · rw [List.map_append]
        rcases List.mem_append.mp m with z | z
        · exact List.mem_append_left _ (hl x z)
        · rw [List.mem_singleton.mp z]
          exact List.mem_append_right _ (by simp)
      · simp only [List.length_append, List.length_cons, List.length_nil]
        omega
      · simp only [List.length_append]
        omega
      · simp only [List.length_append]
        omega
end TH

/-! A8: rows_from -/
namespace TH
open PySem PySem.Spec PyProof.Rows L2 LamV
abbrev sRowsFrom : Stmt := top 27
/-- rows as a dict of tuples at a -/
def FD (K : PySem.W.Frag) (H : Hp) (a : Addr) (f : Fnd) : Prop := ∃ kvs : List (Key × V), H a = some (.dK kvs) ∧ Paired (fun (p : Str × List Str) (kv : Key × V) => kv.1 = Sum.inr p.1 ∧ ∃ b, kv.2 = .ref b ∧ SqT K H b (p.2.map V.str)) f kvs
/-- a lambda that is always True -/
def LTrue (P : Program) (w : World) (K : PySem.W.Frag) (mg : Str → Option Value) (base : Heap) (F : LF) : Prop := LOk P w K mg base CX0 1 F fun vs H Q _ => ∃ v, vs = [v] ∧ Q (.bl true) H
theorem IsLam.ex {H H' : Hp} {f : Addr} {F : LF} (x : Ex H H') (h : IsLam H f F) : IsLam H' f F := by
  obtain ⟨c, e1, e2⟩ := h
  exact ⟨c, x _ _ e1, x _ _ e2⟩
def spRowsFrom (P : Program) (w : World) (K : PySem.W.Frag) (mg : Str → Option Value) (base : Heap) (C : Addr) : Sp := fun vs H Q _ => ∃ (t : Addr) (d : ThD) (b : Str) (nl : Addr) (ns : List Str) (fl : Addr) (F : LF), vs = [.ref t, .str b, .ref nl, .ref fl] ∧ IsTh H C t d ∧ d.Ok ∧ b ∈ d.vals ∧ SqL K H nl (ns.map V.str) ∧ ns.length ≤ 60 ∧ d.Own ns ∧ IsLam H fl F ∧ LTrue P w K mg base F ∧
  ∀ (p : Addr) (H' : Hp) (f : Fnd), Ex H H' → H p = none → FD K H' p f → FOk d f → Run d ns [(b, [])] [b] f → Q (.ref p) H'
theorem ne_new {H : Hp} {p q : Addr} {o : HO} (h : upd H p o q = none) : q ≠ p := fun z => by
  rw [z, upd_same] at h
  cases h
theorem FD.ex {K : PySem.W.Frag} {H H' : Hp} {a : Addr} {f : Fnd} (x : Ex H H') (h : FD K H a f) : FD K H' a f := by
  obtain ⟨kvs, e, p⟩ := h
  exact ⟨kvs, x _ _ e, Paired.mapP p fun _ _ ⟨e1, b, e2, e3⟩ => ⟨e1, b, e2, x.sqT e3⟩⟩
theorem dp_strs {K : PySem.W.Frag} {H : Hp} : ∀ ws : List Str, DpAll K H (ws.map V.str) (ws.map PyData.str)
  | [] => .nil
  | w :: r => .cons (.str w) (dp_strs r)
theorem lay_strs : ∀ {ws : List Str}, (∀ w ∈ ws, PyData.canLay0 (.str w) = true) → PyData.canLayAll0 (ws.map PyData.str) = true ∧ PyData.depthAll (ws.map PyData.str) = 0
  | [], _ => ⟨rfl, rfl⟩
  | w :: r, h => by
    obtain ⟨a, b⟩ := lay_strs (ws := r) fun v m => h v (List.mem_cons_of_mem _ m)
    have c := h w List.mem_cons_self
    refine ⟨?_, ?_⟩
    · show (PyData.canLay0 (.str w) && PyData.canLayAll0 (r.map PyData.str)) = true
      rw [c, a]
      rfl
    · show max (PyData.depth (.str w)) (PyData.depthAll (r.map PyData.str)) = 0
      rw [b]
      rfl
theorem shaped_strs {ws : List Str} (h : ∀ w ∈ ws, PyData.canLay0 (.str w) = true) : SeqAt.shaped (.list (ws.map PyData.str)) = true := by
  obtain ⟨a, b⟩ := lay_strs h
  have e1 : PyData.canLay0 (.list (ws.map PyData.str)) = PyData.canLayAll0 (ws.map PyData.str) := by unfold PyData.canLay0; rfl
  have e2 : PyData.depth (.list (ws.map PyData.str)) = PyData.depthAll (ws.map PyData.str) + 1 := by unfold PyData.depth; rfl
  unfold SeqAt.shaped
  rw [e1, a, e2, b]
  decide
theorem eqv_nil (ws : List Str) : PyData.eqv (.list (ws.map PyData.str)) (.list []) = decide (ws = []) := by
  cases ws with
  | nil => rfl
  | cons w r => rfl
/-- what holds at each turn of the while -/
def RInv (K : PySem.W.Frag) (H : Hp) (d : ThD) (ns : List Str) (t nl fl p : Addr) (b : Str) (m : Nat) (σ : L2.St) (H2 : Hp) : Prop := ∃ (fnd : Fnd) (ws : List Str) (wl : Addr) (o6 o7 o8 o9 : Option V), σ = [some (.ref t), some (.str b), some (.ref nl), some (.ref fl), some (.ref p), some (.ref wl), o6, o7, o8, o9] ∧ Ex H H2 ∧ FD K H2 p fnd ∧ FOk d fnd ∧ H2 wl = some (.lst (ws.map V.str)) ∧ H wl = none ∧ wl ≠ p ∧ (∀ g ∈ ws, g ∈ fnd.map (·.1)) ∧ ws.length ≤ 10 ∧
  m = 2 * (d.vals.length - fnd.length) + (if ws = [] then 0 else 1) ∧ ∀ f', Run d ns fnd ws f' → Run d ns [(b, [])] [b] f'
theorem opR_imp {X : Cx} {g : Value → Value → Sem Value} {r r' : R2} (h : OpR X g r) (i : ∀ x y H Q, r' x y H Q → r x y H Q) : OpR X g r' := fun pins s σ H x y v u Q I a c q => h pins s σ H x y v u Q I a c (i x y H Q q)
def rCatN (K : PySem.W.Frag) : R2 := fun x y H Q => ∃ a b xs ys, x = .ref a ∧ y = .ref b ∧ SqT K H a xs ∧ SqT K H b ys ∧ xs.length + ys.length ≤ sizeLine ∧ ∀ r H', Ex H H' → SqT K H' r (xs ++ ys) → Q (.ref r) H'
theorem op_catN {X : Cx} : OpR X (binaryOp .Add) (rCatN X.K) := opR_imp op_catA fun x y H Q ⟨a, b, xs, ys, e1, e2, s1, s2, l, q⟩ => ⟨a, b, xs, ys, e1, e2, s1, s2, l, fun z => q b H Ex.refl (by rw [z]; exact s2), fun _ z => q a H Ex.refl (by rw [z, List.append_nil]; exact s1), fun _ _ p np => q p _ (Ex.new np) (.inl (.inl upd_same))⟩
/-- a tuple stands where something else is written -/
theorem sqT_put {K : PySem.W.Frag} {H : Hp} {p a : Addr} {u o : HO} {xs : List V} (hp : H p = some u) (n1 : ∀ ys, u ≠ .tup ys) (n2 : ∀ ob v, u ≠ .frz ob v) (h : SqT K H a xs) : SqT K (upd H p o) a xs := by
  rcases h with (h | ⟨ob, h⟩) | h
  · exact .inl (.inl ((upd_ne fun z => n1 xs (Option.some.inj ((z ▸ hp).symm.trans h))).trans h))
  · exact .inl (.inr ⟨ob, (upd_ne fun z => n2 ob _ (Option.some.inj ((z ▸ hp).symm.trans h))).trans h⟩)
  · exact .inr h
theorem row_val {R : Str × List Str → Key × V → Prop} {f : Fnd} {kvs : List (Key × V)} (p : Paired R f kvs) (h1 : ∀ a kv, R a kv → kv.1 = Sum.inr a.1) (v : Str) : (rowOf f v = none ∧ valV kvs (Sum.inr v) = none) ∨ ∃ r kv, rowOf f v = some r ∧ valV kvs (Sum.inr v) = some kv.2 ∧ R (v, r) kv := by
  induction p with
  | nil => exact .inl ⟨rfl, rfl⟩
  | @cons a kv f kvs r _ ih =>
    by_cases e : a.1 = v
    · refine .inr ⟨a.2, kv, ?_, valV_pos ((h1 _ _ r).trans (congrArg Sum.inr e)), by rw [← e]; exact r⟩
      unfold rowOf
      rw [List.find?_cons, decide_eq_true e]
      rfl
    · have q1 : rowOf (a :: f) v = rowOf f v := by
        unfold rowOf
        rw [List.find?_cons, decide_eq_false e]
      have q2 : valV (kv :: kvs) (Sum.inr v) = valV kvs (Sum.inr v) := valV_neg fun z => e (Sum.inr.inj ((h1 _ _ r).symm.trans z))
      rw [q1, q2]
      exact ih
theorem paired_snoc {α β : Type} {R : α → β → Prop} {l : List α} {r : List β} {a : α} {b : β} (p : Paired R l r) (h : R a b) : Paired R (l ++ [a]) (r ++ [b]) := by
  induction p with
  | nil => exact .cons h .nil
  | cons x _ ih => exact .cons x ih
/-- the state within the two loops -/
structure StI (K : PySem.W.Frag) (H : Hp) (d : ThD) (t nl fl p wl ll : Addr) (b : Str) (fnd : Fnd) (ws : List Str) (st : Fnd × List Str) (o7 o8 o9 : Option V) (σ : L2.St) (H4 : Hp) : Prop where
  sl : σ = [some (.ref t), some (.str b), some (.ref nl), some (.ref fl), some (.ref p), some (.ref wl), some (.ref ll), o7, o8, o9]
  ex : Ex H H4
  wt : H4 wl = some (.lst (ws.map V.str))
  fd : FD K H4 p st.1
  ok : FOk d st.1
  lt : H4 ll = some (.lst (st.2.map V.str))
  old : ∀ v ∈ fnd.map (·.1), v ∈ st.1.map (·.1)
  new : ∀ g ∈ st.2, g ∈ st.1.map (·.1)
  len : st.1.length = fnd.length + st.2.length
section
variable {P : Program} {w : World} {K : PySem.W.Frag} {mg : Str → Option Value} {base : Heap} {f C : Addr} {fd : FuncData}
theorem scRowsFrom : FnScope ["thing", "begin", "names", "is_let", "found", "waiting", "later", "worth", "name", "goal"] ["thing", "begin", "names", "is_let"] (defScope sRowsFrom) := ⟨rfl, rfl, rfl, by decide +kernel, rfl, by decide +kernel, by decide +kernel⟩
theorem ok_rows_from (F : FnP K "rows_from" sRowsFrom f fd) (FL : Has P w K mg base "led_to" 1 ["thing", "worth", "name"] (spLedTo C)) : FnOk P w K mg base CX0 2 f fd ["thing", "begin", "names", "is_let"] (spRowsFrom P w K mg base C) := by
  refine F.ok scRowsFrom (fun vs H Q E h => ?_) (fun cdv A outer s H vs Q E hr h => ?_)
  · obtain ⟨t, d, b, nl, ns, fl, G, rfl, _⟩ := h
    rfl
  · have hu := hu_of hr
    refine ⟨_, PSs.nox (pss_cons (ps_par (i := 4) (j := 5) rfl scRowsFrom.nd rfl rfl (by decide) rfl rfl (pa_cons (pe_disp (pps_cons (pv 1) (pe_tup pa_nil) pps_nil) rfl rfl (by simp) (by decide)) (pa_cons (pe_lst (pa_cons (pv 1) pa_nil)) pa_nil)) rfl)
      (pss_cons (ps_while PassesOwn.never (pt_cmpR (op_neD hr.units) (pv 5) (pe_lst pa_nil) (nomark _))
        (pss_cons (ps_set (i := 6) scRowsFrom.nd rfl (.inl rfl) (pe_lst pa_nil))
        (pss_cons (ps_for PassesOwn.never rfl (pi_list (pv 5)) (pg_name (i := 7) scRowsFrom.nd rfl (.inl rfl))
          (pss_one (ps_for PassesOwn.never rfl (pi_list (pv 2)) (pg_name (i := 8) scRowsFrom.nd rfl (.inl rfl))
            (pss_cons (ps_set (i := 9) scRowsFrom.nd rfl (.inl rfl) (pe_has FL hr (by decide) rfl (pa_cons (pv 0) (pa_cons (pv 7) (pa_cons (pv 8) pa_nil)))))
            (pss_one (ps_if (PW.pt (pw_and (pt_cmp (pc_notN (pv 9))) (pw_and (pt_cmp (pc_dnotin hu (pv 9) (pv 4))) (pw_and1 (pt_val (pe_lcall (i := 3) (LK := fun F sp => LTrue P w K mg base F ∧ sp = fun vs H Q _ => ∃ v, vs = [v] ∧ Q (.bl true) H) (fun F sp ⟨h, e⟩ => by rw [e]; exact h) hr pass0 rfl (.inl rfl) (pa_cons (pv 9) pa_nil)))))))
              (pss_cons (ps_dput hu (pv 4) (pv 9) (pe_op op_catN (pe_dget hu (pv 4) (pv 7) (fun _ _ => rfl)) (pe_tup (pa_cons (pv 8) pa_nil))) rfl)
              (pss_one (ps_expr (pe_bm PySem.F.plainAttrs_list PySem.F.slot_list_append PySem.F.type_list_append mt_append (pv 6) (pa_cons (pv 9) pa_nil))))) pss_nil))))))
        (pss_one (ps_set (i := 5) scRowsFrom.nd rfl (.inl rfl) (pv 6))))))
      (pss_one (ps_ret (pv 4))))), ?_⟩
    obtain ⟨t, d, b, nl, ns, fl, G, rfl, th, dk, hb, sn, len, own, lam, lt, hQ⟩ := h
    refine fun p np => ⟨.str b, rfl, Nat.zero_le _, fun tp ntp => ⟨?_, [(.inr b, .ref tp)], rfl, by show 1 ≤ 15; decide, ?_⟩⟩
    · exact (upd_ne (ne_new ntp).symm).trans upd_same
    have x0 : Ex H (upd (upd H p (.dK [])) tp (.tup [])) := (Ex.new np).trans (Ex.new ntp)
    have x1 : Ex H (upd (upd (upd H p (.dK [])) tp (.tup [])) p (.dK (mergeK [] [(.inr b, .ref tp)]))) := fun c o e => (upd_ne (fun z => by rw [z, np] at e; cases e)).trans (x0 _ _ e)
    have hp1 : upd (upd (upd H p (.dK [])) tp (.tup [])) p (.dK (mergeK [] [(.inr b, .ref tp)])) p = some (.dK [(.inr b, .ref tp)]) := upd_same
    have ht1 : upd (upd (upd H p (.dK [])) tp (.tup [])) p (.dK (mergeK [] [(.inr b, .ref tp)])) tp = some (.tup []) := (upd_ne (ne_new ntp)).trans upd_same
    generalize upd (upd (upd H p (.dK [])) tp (.tup [])) p (.dK (mergeK [] [(.inr b, .ref tp)])) = Hd at x1 hp1 ht1 ⊢
    refine ⟨.str b, rfl, by show 1 ≤ sizeLine; decide, fun wl nwl => ⟨_, _, rfl, ?_⟩⟩
    have xw : Ex Hd (upd Hd wl (.lst [.str b])) := Ex.new nwl
    refine ⟨RInv K H d ns t nl fl p b, ⟨_, [(b, [])], [b], wl, none, none, none, none, rfl, x1.trans xw, ⟨_, xw _ _ hp1, .cons ⟨rfl, tp, rfl, .inl (.inl (xw _ _ ht1))⟩ .nil⟩, ?_, upd_same, x1.none nwl, (fun z => by rw [z, hp1] at nwl; cases nwl), fun g hg => hg, by show 1 ≤ 10; decide, rfl, fun f' r => r⟩, fun m σ H2 h => ?_⟩
    · exact ⟨by simp, fun q hq => by rw [List.mem_singleton.mp hq]; exact hb, fun q hq => by rw [List.mem_singleton.mp hq]; exact Nat.zero_le _⟩
    obtain ⟨fnd, ws, wl, o6, o7, o8, o9, rfl, x2, hf, fk, hwl, nwl, wlp, wk, wlen, em, back⟩ := h
    refine ⟨.ref wl, rfl, Nat.zero_le _, fun e ne => ⟨.list (ws.map PyData.str), .list [], .lst (.inl (.inl ((Ex.new ne) _ _ hwl))) (dp_strs ws), .lst (.inl (.inl upd_same)) .nil, shaped_strs (fun v m => dk.txt v (fk.has (wk v m))), rfl, _, rfl, ?_⟩⟩
    rw [eqv_nil]
    have xe : Ex H2 (upd H2 e (.lst [])) := Ex.new ne
    have hf2 := hf.ex xe
    have hwl2 := xe _ _ hwl
    have x3 := x2.trans xe
    have pe : e ≠ p := fun z => by
      obtain ⟨_, q, _⟩ := hf
      rw [z, q] at ne
      cases ne
    generalize upd H2 e (.lst []) = H3 at xe hf2 hwl2 x3 ⊢
    cases ws with
    | nil => exact ⟨.ref p, rfl, hQ p H3 fnd x3 np hf2 fk (back _ (.nil _))⟩
    | cons w0 wr =>
      generalize hws : w0 :: wr = ws at *
      have wne : ws ≠ [] := by rw [← hws]; exact fun z => nomatch z
      rw [decide_eq_false wne]
      refine ⟨fun σ' H' => ∃ m', m' < m ∧ RInv K H d ns t nl fl p b m' σ' H', fun σ' H' h => h, Nat.zero_le _, fun ll nll => ?_⟩
      have xl : Ex H3 (upd H3 ll (.lst [])) := Ex.new nll
      have lp : ll ≠ p := fun z => by
        obtain ⟨_, q, _⟩ := hf2
        rw [z, q] at nll
        cases nll
      have lw : ll ≠ wl := fun z => by rw [z, hwl2] at nll; cases nll
      have nlH : H ll = none := x3.none nll
      refine ⟨.ref wl, rfl, wl, rfl, ⟨_, .inl (.inl (xl _ _ hwl2))⟩, for_list (K := K) (xs := ws.map V.str) (fun i σ H4 => ∃ o7 o8 o9, StI K H d t nl fl p wl ll b fnd ws ((ws.take i).foldl (wStep d ns) (fnd, [])) o7 o8 o9 σ H4)
        ⟨_, _, _, rfl, x3.trans xl, xl _ _ hwl2, hf2.ex xl, fk, upd_same, fun v m => m, fun g m => (nomatch m), rfl⟩ (fun i σ H4 _ ⟨_, _, _, h⟩ => .inl (.inl h.wt)) (fun i v σ H4 hv h => ?_) fun σ H4 h => ?_⟩
      · obtain ⟨o7, o8, o9, S⟩ := h
        rw [List.getElem?_map] at hv
        obtain ⟨wd, ew, rfl⟩ := Option.map_eq_some_iff.mp hv
        have et : (ws.take (i + 1)).foldl (wStep d ns) (fnd, []) = wStep d ns ((ws.take i).foldl (wStep d ns) (fnd, [])) wd := by
          rw [List.take_add_one, ew, List.foldl_append]
          rfl
        rw [et]
        generalize (ws.take i).foldl (wStep d ns) (fnd, []) = st at S ⊢
        have wv : wd ∈ st.1.map (·.1) := S.old _ (wk _ (List.mem_of_getElem? ew))
        obtain rfl := S.sl
        refine ⟨.ref nl, rfl, nl, rfl, ⟨_, S.ex.sqL sn⟩, for_list (K := K) (xs := ns.map V.str) (fun j σ H5 => ∃ o8 o9, StI K H d t nl fl p wl ll b fnd ws ((ns.take j).foldl (nStep d wd) st) (some (.str wd)) o8 o9 σ H5)
          ⟨_, _, rfl, S.ex, S.wt, S.fd, S.ok, S.lt, S.old, S.new, S.len⟩ (fun j σ H5 _ ⟨_, _, h⟩ => h.ex.sqL sn) (fun j v σ H5 hv h => ?_) fun σ H5 h => ?_⟩
        · obtain ⟨o8, o9, T⟩ := h
          rw [List.getElem?_map] at hv
          obtain ⟨n, en, rfl⟩ := Option.map_eq_some_iff.mp hv
          have et : (ns.take (j + 1)).foldl (nStep d wd) st = nStep d wd ((ns.take j).foldl (nStep d wd) st) n := by
            rw [List.take_add_one, en, List.foldl_append]
            rfl
          rw [et]
          have wj : wd ∈ ((ns.take j).foldl (nStep d wd) st).1.map (·.1) := T.old _ (wk _ (List.mem_of_getElem? ew))
          generalize (ns.take j).foldl (nStep d wd) st = sj at T wj ⊢
          have ok := nStep_ok dk (n := n) T.ok wj T.new
          obtain ⟨kvs, hp5, pr⟩ := T.fd
          obtain rfl := T.sl
          have mn : n ∈ ns := List.mem_of_getElem? en
          have way : (∃ l, look d.deeds n = some l ∧ (lookL l wd).isSome = true) ∨ (look d.deeds n = none ∧ (look d.ents n).isSome = true) := by
            cases q : look d.deeds n with
            | some l =>
              obtain ⟨g, _, e⟩ := dk.deeds n l q wd (T.ok.has wj)
              exact .inl ⟨l, rfl, by rw [e]; rfl⟩
            | none =>
              rcases own n mn with z | z
              · rw [q] at z; cases z
              · exact .inr ⟨rfl, z⟩
          refine ⟨.ref t, rfl, .str wd, rfl, .str n, rfl, t, d, wd, n, rfl, th.ex T.ex, way, ?_⟩
          have same : nStep d wd sj n = sj → StI K H d t nl fl p wl ll b fnd ws (nStep d wd sj n) (some (.str wd)) (some (.str n)) (some (optS (d.led wd n))) [some (.ref t), some (.str b), some (.ref nl), some (.ref fl), some (.ref p), some (.ref wl), some (.ref ll), some (.str wd), some (.str n), some (optS (d.led wd n))] H5 := fun z => by
            rw [z]
            exact ⟨rfl, T.ex, T.wt, ⟨kvs, hp5, pr⟩, T.ok, T.lt, T.old, T.new, T.len⟩
          cases eg : d.led wd n with
          | none =>
            refine ⟨.non, rfl, ?_⟩
            have z : nStep d wd sj n = sj := by
              unfold nStep
              rw [eg]
            have q := same z
            rw [eg] at q
            exact ⟨false, rfl, _, _, q⟩
          | some g =>
            refine ⟨.str g, rfl, true, rfl, .str g, rfl, .ref p, rfl, p, _, rfl, DGet.k (k := Sum.inr g) hp5, _, rfl, ?_⟩
            rcases row_val pr (fun _ _ r => r.1) g with ⟨r1, r2⟩ | ⟨r, kv, r1, r2, _⟩
            · rw [r2]
              refine ⟨fl, G, _, rfl, IsLam.ex T.ex lam, ⟨lt, rfl⟩, .str g, rfl, IsLam.ex T.ex lam, .str g, rfl, true, rfl, ?_⟩
              obtain ⟨row, q1, q2⟩ | ⟨row, kv, q1, q2, q3, rb, q4, q5⟩ : (∃ row : List Str, False ∧ True) ∨ ∃ (row : List Str) (kv : Key × V), rowOf sj.1 wd = some row ∧ valV kvs (Sum.inr wd) = some kv.2 ∧ kv.1 = Sum.inr wd ∧ ∃ rb, kv.2 = .ref rb ∧ SqT K H5 rb (row.map V.str) := by
                rcases row_val pr (fun _ _ r => r.1) wd with ⟨z, _⟩ | ⟨row, kv, z1, z2, z3, rb, z4, z5⟩
                · obtain ⟨_, z'⟩ := rowOf_mem wj
                  rw [z] at z'
                  cases z'
                · exact .inr ⟨row, kv, z1, z2, z3, rb, z4, z5⟩
              · exact q1.elim
              have rl := T.ok.row _ (rowOf_some q1)
              have sl := T.ok.len
              have vl := dk.few
              have rl' : row.length ≤ sj.1.length := rl
              refine ⟨.ref p, rfl, .str wd, rfl, p, .ref rb, rfl, (q2.trans (congrArg some q4)) ▸ DGet.k (k := Sum.inr wd) hp5, .str n, rfl, by show 1 ≤ sizeLine; decide, fun nt nnt => ?_⟩
              have xn : Ex H5 (upd H5 nt (.tup [.str n])) := Ex.new nnt
              refine ⟨rb, nt, row.map V.str, [.str n], rfl, rfl, xn.sqT q5, .inl (.inl upd_same), by rw [sizeLine_eq, List.length_map]; simp only [List.length_cons, List.length_nil]; omega, fun r6 H6 x6 s6 => ?_⟩
              have x56 := xn.trans x6
              have hp6 := x56 _ _ hp5
              have hl6 := x56 _ _ T.lt
              have hw6 := x56 _ _ T.wt
              have kl : kvs.length = sj.1.length := (Paired.length pr).symm
              refine ⟨.ref p, rfl, .str g, rfl, p, _, rfl, DPut.k (k := Sum.inr g) hp6 (by rw [sizeLine_eq]; omega), ?_⟩
              rw [putK_new _ r2]
              have hl7 : upd H6 p (.dK (kvs ++ [(Sum.inr g, .ref r6)])) ll = some (.lst (sj.2.map V.str)) := (upd_ne lp).trans hl6
              refine ⟨.ref ll, rfl, .inl ⟨rfl, _, .inl (.inl hl7)⟩, .str g, rfl, ll, _, .str g, rfl, rfl, hl7, by rw [sizeLine_eq, List.length_map]; have := T.len; omega, ?_⟩
              have es : nStep d wd sj n = (sj.1 ++ [(g, row ++ [n])], sj.2 ++ [g]) := by
                unfold nStep
                rw [eg]
                dsimp only
                rw [r1, q1]
                rfl
              rw [es] at ok ⊢
              obtain ⟨k1, k2, k3, k4, k5, k6⟩ := ok
              have keep : ∀ (a : Addr) (xs : List V), SqT K H6 a xs → SqT K (upd (upd H6 p (.dK (kvs ++ [(Sum.inr g, .ref r6)]))) ll (.lst (sj.2.map V.str ++ [.str g]))) a xs := fun a xs z => sqT_put hl7 (fun _ z => nomatch z) (fun _ _ z => nomatch z) (sqT_put hp6 (fun _ z => nomatch z) (fun _ _ z => nomatch z) z)
              refine ⟨_, _, rfl, fun c o e => ?_, (upd_ne lw.symm).trans ((upd_ne wlp).trans hw6), ⟨_, (upd_ne lp.symm).trans upd_same, paired_snoc (Paired.mapP pr fun _ _ ⟨e1, c, e2, e3⟩ => ⟨e1, c, e2, keep _ _ (x56.sqT e3)⟩) ⟨rfl, r6, rfl, keep _ _ (by rw [List.map_append]; exact s6)⟩⟩, k1, ?_, fun v m => k2 v (T.old v m), k3, ?_⟩
              · have n1 : c ≠ ll := fun z => by rw [z, nlH] at e; cases e
                have n2 : c ≠ p := fun z => by rw [z, np] at e; cases e
                exact (upd_ne n1).trans ((upd_ne n2).trans (x56 _ _ (T.ex _ _ e)))
              · rw [upd_same, List.map_append]
                rfl
              · have := T.len
                simp only [List.length_append, List.length_cons, List.length_nil]
                omega
            · rw [r2]
              have z : nStep d wd sj n = sj := by
                unfold nStep
                rw [eg]
                dsimp only
                rw [r1]
              have q := same z
              rw [eg] at q
              exact ⟨_, _, q⟩
        · obtain ⟨o8, o9, T⟩ := h
          rw [List.length_map, List.take_length] at T
          exact ⟨_, _, _, T⟩
      · obtain ⟨o7, o8, o9, S⟩ := h
        rw [List.length_map, List.take_length] at S
        obtain ⟨es, x4, w4, f4, k4, l4, s4, g4, n4⟩ := S
        subst es
        refine ⟨.ref ll, rfl, _, ?_, _, _, ll, _, _, _, _, rfl, x4, f4, k4, l4, nlH, lp, g4, ?_, rfl, fun f' r => back f' (.step wne r)⟩
        · have fl1 := k4.len
          rw [em, if_neg wne]
          by_cases z : (ws.foldl (wStep d ns) (fnd, [])).2 = []
          · rw [if_pos z]
            have : (ws.foldl (wStep d ns) (fnd, [])).2.length = 0 := by rw [z]; rfl
            omega
          · rw [if_neg z]
            have : 0 < (ws.foldl (wStep d ns) (fnd, [])).2.length := List.length_pos_iff.mpr z
            omega
        · have fl1 := k4.len
          have := dk.few
          omega
end
end TH

/-! A9: check_entry, checked_names, where they let by -/
namespace TH
open PySem PySem.Spec PyProof.Rows L2
/-- a statement that is never come to -/
theorem ps_dead {X : Cx} {st : Stmt} : PS X st (fun _ _ _ => False) := ⟨fun _ _ _ _ _ _ h => h.elim⟩
abbrev sCheckEntry : Stmt := top 23
abbrev sCheckedNames : Stmt := top 25
def spCheckEntry (K : PySem.W.Frag) (C : Addr) : Sp := fun vs H Q _ => ∃ (t : Addr) (d : ThD) (x : Str), vs = [.ref t, .str x] ∧ IsTh H C t d ∧ okS x = true ∧ (look d.ents x).isSome = true ∧ ∀ H', Ex H H' → Q .non H'
theorem okS_len {x : Str} (h : okS x = true) : x.length ≤ 8 := by
  unfold okS at h
  simp only [Bool.and_eq_true, decide_eq_true_eq] at h
  exact h.2.1
theorem str_kd {K : PySem.W.Frag} {H : Hp} {x : Str} (h : x.length ≤ 1000) : Kd K H (.str x) "str" := ⟨by decide, .base (.str x), fun y e => by cases e; exact h⟩
def spCheckedNames (K : PySem.W.Frag) : Sp := fun vs H Q _ => ∃ (a kl : Addr) (xs ks : List Str), vs = [.ref a, .ref kl] ∧ Sq K H a (xs.map V.str) ∧ SqL K H kl (ks.map V.str) ∧ xs.length ≤ 60 ∧ (∀ x ∈ xs, okS x = true) ∧ xs.Nodup ∧ (∀ x ∈ xs, x ∈ ks) ∧ ∀ (p : Addr) (H' : Hp), Ex H H' → H p = none → H' p = some (.lst (xs.map V.str)) → Q (.ref p) H'
theorem inV_strs (x : Str) (xs : List Str) : inV (.str x) (xs.map V.str) = decide (x ∈ xs) := by
  induction xs with
  | nil => rfl
  | cons y r ih =>
    have e : inV (.str x) ((y :: r).map V.str) = (eqV (.str y) (.str x) || inV (.str x) (r.map V.str)) := rfl
    rw [e, ih]
    have e2 : eqV (.str y) (.str x) = decide (y = x) := by
      show (y == x) = _
      by_cases z : y = x
      · subst z; simp
      · rw [decide_eq_false z]; exact beq_eq_false_iff_ne.mpr z
    rw [e2]
    by_cases z : y = x
    · simp [z]
    · have z' : ¬ x = y := fun q => z q.symm
      simp [z, z']
theorem fbw_none : ∀ (xs met : List Str) (i : Nat), (∀ x ∈ xs, okS x = true) → xs.Nodup → (∀ x ∈ xs, x ∉ met) → fbw (xs.map V.str) (met.map V.str) i = none
  | [], _, _, _, _, _ => rfl
  | x :: r, met, i, h, nd, nm => by
    have e : fbw ((x :: r).map V.str) (met.map V.str) i = if (!isWd (.str x) || inV (.str x) (met.map V.str)) = true then some i else fbw (r.map V.str) (met.map V.str ++ [.str x]) (i + 1) := rfl
    have n1 : isWd (.str x) = true := h x List.mem_cons_self
    rw [e, n1, inV_strs, decide_eq_false (nm x List.mem_cons_self), if_neg (by simp)]
    have q := fbw_none r (met ++ [x]) (i + 1) (fun y m => h y (List.mem_cons_of_mem _ m)) (List.nodup_cons.mp nd).2 fun y m z => by
      rcases List.mem_append.mp z with z | z
      · exact nm y (List.mem_cons_of_mem _ m) z
      · rw [List.mem_singleton.mp z] at m
        exact (List.nodup_cons.mp nd).1 m
    rw [List.map_append] at q
    exact q
section
variable {P : Program} {w : World} {K : PySem.W.Frag} {mg : Str → Option Value} {base : Heap} {f C : Addr} {fd : FuncData}
theorem scCheckEntry : FnScope ["thing", "entry"] ["thing", "entry"] (defScope sCheckEntry) := ⟨rfl, rfl, rfl, by decide +kernel, rfl, by decide +kernel, by decide +kernel⟩
theorem ok_check_entry (F : FnP K "check_entry" sCheckEntry f fd) (T : ThC K C) (FW : Has P w K mg base "is_word" 1 ["thing"] (spIsWord K)) : FnOk P w K mg base CX0 2 f fd ["thing", "entry"] (spCheckEntry K C) := by
  refine F.ok scCheckEntry (fun vs H Q E h => ?_) (fun cdv A outer s H vs Q E hr h => ?_)
  · obtain ⟨t, d, x, rfl, _⟩ := h
    rfl
  · have hu := hu_of hr
    refine ⟨_, PSs.nox (pss_one (ps_if (PW.pt (pw_or (pt_not (pt_val (pe_has FW hr (by decide) rfl (pa_cons (pv 1) pa_nil)))) (pw_or1 (pt_cmp (pc_dnotin hu (pv 1) (pe_fld (pv 0) rfl)))))) (pss_one ps_dead) pss_nil)), ?_⟩
    obtain ⟨t, d, x, rfl, th, ok, so, hQ⟩ := h
    refine ⟨.str x, rfl, .str x, "str", rfl, str_kd (by have := okS_len ok; omega), fun H1 x1 => ⟨_, rfl, ?_⟩⟩
    rw [show isWd (.str x) = true from ok]
    obtain ⟨dx, vt, dd, de, e1, e2, _, ⟨es, m1, mp⟩⟩ := th.ex x1
    refine ⟨.str x, rfl, .ref t, rfl, t, C, dx, _, .ref de, rfl, e1, T.cls, T.ents, rfl, de, _, rfl, DGet.k (k := Sum.inr x) m1, _, rfl, ?_⟩
    rcases look_val mp x with ⟨b1, b2⟩ | ⟨l, b, b1, b2, b3⟩
    · rw [b1] at so; cases so
    · rw [b2]
      exact hQ H1 x1
theorem scCheckedNames : FnScope ["names", "known", "index", "few", "strange", "number", "name"] ["names", "known"] (defScope sCheckedNames) := ⟨rfl, rfl, rfl, by decide +kernel, rfl, by decide +kernel, by decide +kernel⟩
/-- an expression that is never come to -/
theorem pe_dead {X : Cx} {e : Expr} : PE X e (fun _ _ _ => False) := ⟨fun _ _ _ _ _ _ h => h.elim⟩
theorem ok_checked_names (F : FnP K "checked_names" sCheckedNames f fd) (FB : Has P w K mg base "first_bad_word" 2 ["things", "barred"] (spFirstBad K)) (gl : mg "list" = none) (ge : mg "enumerate" = none) : FnOk P w K mg base CX0 3 f fd ["names", "known"] (spCheckedNames K) := by
  refine F.ok scCheckedNames (fun vs H Q E h => ?_) (fun cdv A outer s H vs Q E hr h => ?_)
  · obtain ⟨a, kl, xs, ks, rfl, _⟩ := h
    rfl
  · refine ⟨_, PSs.nox (pss_cons (ps_set (i := 2) scCheckedNames.nd rfl (.inl rfl) (pe_has FB hr (by decide) rfl (pa_cons (pv 0) (pa_cons (pe_lst pa_nil) pa_nil))))
      (pss_cons (ps_set (i := 3) scCheckedNames.nd rfl (.inl rfl) (pe_ifExp (pt_cmp (pc_isN (pv 2))) (pe_callTy call_list_of rfl gl boot_list (pa_cons (pv 0) pa_nil)) pe_dead))
      (pss_cons (ps_setLc (i := 4) (own := [("number", 5), ("name", 6)]) (g := gTup K 2 (gCons (gName 5) (gCons (gName 6) gNil))) rfl scCheckedNames.nd rfl rfl (sw_true rfl rfl rfl (by decide +kernel)) (pi_enumT rfl ge (pa_cons (pv 3) pa_nil)) (blkOk_by (by kernel_rfl))
        (fun s H C cl fp => pg_tup rfl (pgs_cons (pg_name (i := 5) scCheckedNames.nd rfl (.inl rfl) (.inr rfl)) (pgs_cons (pg_name (i := 6) scCheckedNames.nd rfl (.inl rfl) (.inr rfl)) pgs_nil))) (fun s H C cl fp => pts_one (pt_cmpR (r := rIn K true) op_notIn_seq (pv 6) (pv 1) (by with_unfolding_all rfl))) (fun s H C cl fp => pv 5))
      (pss_cons (ps_if (pt_cmpR (op_neD hr.units) (pv 4) (pe_lst pa_nil) (nomark _)) (pss_one ps_dead) pss_nil)
      (pss_cons (ps_if (pt_cmp (pc_notN (pv 2))) (pss_one ps_dead) pss_nil)
      (pss_one (ps_ret (pe_callTy call_list_of rfl gl boot_list (pa_cons (pv 0) pa_nil))))))))), ?_⟩
    obtain ⟨a, kl, xs, ks, rfl, sq, sk, len, ok, nd, sub, hQ⟩ := h
    refine ⟨.ref a, rfl, Nat.zero_le _, fun e0 n0 => ?_⟩
    have x0 : Ex H (upd H e0 (.lst [])) := Ex.new n0
    refine ⟨.ref a, e0, rfl, upd_same, .inr ⟨a, xs.map V.str, rfl, sq.ex x0, by rw [List.length_map]; omega, fun v m => ?_, fun H1 x1 => ?_⟩⟩
    · obtain ⟨x, mx, rfl⟩ := List.mem_map.mp m
      exact ⟨_, str_kd (by have := okS_len (ok x mx); omega)⟩
    have fn : fbw (xs.map V.str) [] 0 = none := fbw_none xs [] 0 ok nd fun _ _ z => nomatch z
    rw [fn]
    have y1 := x0.trans x1
    refine ⟨.non, rfl, _, rfl, .ref a, rfl, a, _, rfl, (sq.ex y1), fun l1 m1 => ?_⟩
    have y2 : Ex H (upd H1 l1 (.lst (xs.map V.str))) := y1.trans (Ex.new m1)
    have g1 : upd H1 l1 (.lst (xs.map V.str)) l1 = some (.lst (xs.map V.str)) := upd_same
    generalize upd H1 l1 (.lst (xs.map V.str)) = H2 at y2 g1 ⊢
    refine ⟨.ref l1, rfl, l1, xs.map V.str, H2, rfl, Ex.refl, .inl (.inl (.inl g1)), fun J ⟨G, W, gs⟩ => fun D hD => ?_⟩
    refine lc_it W (fun n H3 => Ex H2 H3 ∧ H3 D = some (.lst [])) ⟨Ex.new hD, upd_same⟩ (fun n H3 _ h => gs H3 h.1) (fun n v H3 H4 hn h y => ?_) fun H3 h => ?_
    · obtain ⟨z1, z2⟩ := h
      obtain ⟨tt, u, x, rfl, nt, rfl, eu, ex⟩ := y
      cases eu
      have ex : (xs.map V.str)[n]? = some x := ex
      rw [List.getElem?_map] at ex
      obtain ⟨x, ex2, rfl⟩ := Option.map_eq_some_iff.mp ex
      have xt : Ex H3 (upd H3 tt (.tup [.int (n : Nat), .str x])) := Ex.new nt
      refine ⟨tt, _, rfl, .inl (.inl upd_same), rfl, .int n, [.str x], rfl, .str x, [], rfl, rfl, rfl, .str x, rfl, .ref kl, rfl, kl, ks.map V.str, rfl, .inl ((y2.trans (z1.trans xt)).sqL sk), rfl, ?_, _, rfl, ?_⟩
      · exact List.all_eq_true.mpr fun y hy => by
          obtain ⟨q, _, rfl⟩ := List.mem_map.mp hy
          rfl
      · rw [inV_strs, decide_eq_true (sub x (List.mem_of_getElem? ex2))]
        exact ⟨z1.trans xt, xt _ _ z2⟩
    · obtain ⟨z1, z2⟩ := h
      refine ⟨.ref D, rfl, Nat.zero_le _, fun e2 n2 => ⟨.list [], .list [], .lst (.inl (.inl ((Ex.new n2) _ _ z2))) .nil, .lst (.inl (.inl upd_same)) .nil, rfl, rfl, false, rfl, ?_⟩⟩
      have y4 := y2.trans (z1.trans (Ex.new (o := .lst []) n2))
      refine ⟨.non, rfl, _, rfl, .ref a, rfl, a, _, rfl, sq.ex y4, fun p np => ?_⟩
      exact hQ p _ (y4.trans (Ex.new np)) (y4.none np) upd_same
end
end TH

/-! A10: first_open, where it lets by -/
namespace TH
open PySem PySem.Spec PyProof.Rows L2 LamV LamX XK0
abbrev sFirstOpen : Stmt := top 28
theorem Ex.extN {H H' : Hp} (x : Ex H H') : ExtN H H' := fun b o e _ => x b o e
theorem Ex.tabs {H H' : Hp} {T : List (Addr × Str)} (x : Ex H H') (t : Tabs T H) : Tabs T H' := t.ext x
theorem extN_lst {H H' : Hp} {a : Addr} {xs : List V} (x : ExtN H H') (h : H a = some (.lst xs)) : H' a = some (.lst xs) := x _ _ h fun _ z => (nomatch z)
theorem extN_sqL {K : PySem.W.Frag} {H H' : Hp} {a : Addr} {xs : List V} (x : ExtN H H') (h : SqL K H a xs) : SqL K H' a xs := h.imp (Or.imp (fun z => x _ _ z fun _ q => (nomatch q)) fun ⟨o, z⟩ => ⟨o, x _ _ z fun _ q => (nomatch q)⟩) id
theorem DD.exN {H H' : Hp} {a : Addr} {ls : Lds} (x : ExtN H H') (h : DD H a ls) : DD H' a ls := by
  obtain ⟨kvs, e, p⟩ := h
  exact ⟨kvs, x _ _ e fun _ q => (nomatch q), Paired.mapP p fun _ _ ⟨e1, b, e2, e3⟩ => ⟨e1, b, e2, x _ _ e3 fun _ q => (nomatch q)⟩⟩
theorem IsTh.exN {H H' : Hp} {C t : Addr} {d : ThD} (x : ExtN H H') (h : IsTh H C t d) : IsTh H' C t d := by
  obtain ⟨dx, vt, dd, de, e1, e2, e3, e4⟩ := h
  exact ⟨dx, vt, dd, de, x _ _ e1 fun _ q => (nomatch q), x _ _ e2 fun _ q => (nomatch q), e3.exN x, e4.exN x⟩
/-- the first row found whose value is led on -/
def firstIn (l : Ld) (f : Fnd) : Option (List Str) := (f.find? fun p => (lookL l p.1).isSome).map (·.2)
/-- nothing but a table stood there -/
def NewP (H : Hp) (p : Addr) : Prop := ∀ o, H p = some o → (∀ ps, o ≠ .tbl ps) → False
abbrev lamQ : Str := ("first_open" : Str) ++ ".<locals>." ++ "<lambda>"
def spFirstOpen (K : PySem.W.Frag) (C : Addr) (T : List (Addr × Str)) : Sp := fun vs H Q _ => ∃ (t a : Addr) (d : ThD) (x : Str) (xs : List Str) (l : Ld), vs = [.ref t, .str x, .ref a] ∧ IsTh H C t d ∧ d.Ok ∧ okS x = true ∧ look d.ents x = some l ∧ Sq K H a (xs.map V.str) ∧ xs.length ≤ 60 ∧ d.names.length < 60 ∧ (∀ y ∈ xs, okS y = true) ∧ xs.Nodup ∧ (∀ y ∈ xs, y ∈ d.names) ∧ Tabs T H ∧
  ∀ (ys : List Str) (f : Fnd), ys.Perm xs → sortedS ys = true → Run d ys [(d.start, [])] [d.start] f →
    (∀ H', ExtN H H' → Tabs T H' → firstIn l f = none → Q .non H') ∧ ∀ (row : List Str) (p : Addr) (H' : Hp), ExtN H H' → Tabs T H' → firstIn l f = some row → NewP H p → H' p = some (.lst (row.map V.str)) → Q (.ref p) H'
theorem look_mem {ls : Lds} {n : Str} (h : n ∈ ls.map (·.1)) : (look ls n).isSome = true := by
  obtain ⟨p, hp, rfl⟩ := List.mem_map.mp h
  unfold look
  rw [Option.isSome_map]
  exact List.find?_isSome.mpr ⟨p, hp, by simp⟩
theorem names_look {d : ThD} {n : Str} (h : n ∈ d.names) : (look d.deeds n).isSome = true ∨ (look d.ents n).isSome = true := by
  unfold ThD.names at h
  rcases List.mem_append.mp h with h | h
  · exact .inl (look_mem h)
  · exact .inr (look_mem h)
theorem paired_get {α β : Type} {R : α → β → Prop} {l : List α} {r : List β} (p : Paired R l r) : ∀ {i : Nat} {y : β}, r[i]? = some y → ∃ x, l[i]? = some x ∧ R x y := by
  induction p with
  | nil => intro i y h; simp at h
  | cons x _ ih =>
    intro i y h
    cases i with
    | zero => simp at h; subst h; exact ⟨_, rfl, x⟩
    | succ i =>
      obtain ⟨z, e, q⟩ := ih (by simpa using h)
      exact ⟨z, by simpa using e, q⟩
theorem firstIn_step {l : Ld} {f : Fnd} {i : Nat} {p : Str × List Str} (h : f[i]? = some p) : firstIn l (f.drop i) = if (lookL l p.1).isSome = true then some p.2 else firstIn l (f.drop (i + 1)) := by
  obtain ⟨lt, e⟩ := List.getElem?_eq_some_iff.mp h
  rw [List.drop_eq_getElem_cons lt, e]
  unfold firstIn
  rw [List.find?_cons]
  cases (lookL l p.1).isSome <;> rfl
theorem lt_true {P : Program} {w : World} {K : PySem.W.Frag} {mg : Str → Option Value} {base : Heap} {q x : Str} {params : Arguments} {scope : Scope} {j : Nat} {pos : Pos} (S : NdefX.NScope [x] [x] [] scope)
    (bd : ∀ (pm cv ctv : Value) (us : List Value), us.length = [x].length → bindArgs (PySem.W.kla_fn "<lambda>" q params (.Constant (.bool true) j pos) scope [] pm cv ctv) ⟨us, []⟩ = pure ([x].zip us)) : LTrue P w K mg base ⟨q, params, .Constant (.bool true) j pos, scope⟩ := by
  refine lok_of (k := 0) (ps := [x]) S bd (fun vs H Q E z => ?_) fun f c A outer s H vs Q E hr z => ?_
  · obtain ⟨v, rfl, _⟩ := z
    rfl
  · obtain ⟨v, rfl, q⟩ := z
    exact ⟨_, pe_bl, q⟩
section
variable {P : Program} {w : World} {K : PySem.W.Frag} {mg : Str → Option Value} {base : Heap} {f C c Pt : Addr} {fd : FuncData} {T : List (Addr × Str)}
theorem scFirstOpen : FnScope ["thing", "entry", "names", "some", "found", "worth", "way"] ["thing", "entry", "names"] (defScope sFirstOpen) := ⟨rfl, rfl, rfl, by decide +kernel, rfl, by decide +kernel, by decide +kernel⟩
theorem ok_first_open (F : FnP K "first_open" sFirstOpen f fd) (hcode : codeOf K f = some (.ref c)) (TB : TabB base mg c Pt) (hm : (Pt, lamQ) ∈ T) (hT : ∀ p ∈ T, p.1 = Pt → p.2 = lamQ) (TC : ThC K C)
    (FCE : Has P w K mg base "check_entry" 2 ["thing", "entry"] (spCheckEntry K C)) (FCN : Has P w K mg base "checked_names" 3 ["names", "known"] (spCheckedNames K)) (FNO : Has P w K mg base "names_of" 1 ["thing"] (spNamesOf C)) (FR : Has P w K mg base "rows_from" 2 ["thing", "begin", "names", "is_let"] (spRowsFrom P w K mg base C)) (gs : mg "sorted" = none) (gl : mg "list" = none) :
    FnOk P w K mg base CX0 4 f fd ["thing", "entry", "names"] (spFirstOpen K C T) := by
  obtain ⟨oc, od, dV, kwV, doc, pm, an, cdv, ct, osl, rfl, lk, hcd, _, _⟩ := F.ex
  have ec : cdv = .ref c := by
    unfold codeOf at hcode
    rw [lk] at hcode
    exact Option.some.inj hcode
  subst ec
  refine fn_of lk hcd scFirstOpen (fun vs H Q E h => ?_) fun A outer s H vs Q E hr h => ?_
  · obtain ⟨t, a, d, x, xs, l, rfl, _⟩ := h
    rfl
  · have hu : (A.deeper (envOfC "first_open" (defScope sFirstOpen) s.heap.objs.size f (.ref c))).units + 1 < cLine := hu_of hr
    refine ⟨_, PSs.nox (pss_cons (ps_expr (pe_has FCE hr (by decide) rfl (pa_cons (pv 0) (pa_cons (pv 1) pa_nil))))
      (pss_cons (ps_set (i := 3) scFirstOpen.nd rfl (.inl rfl) (pe_callB cr_sortedS rfl gs boot_sorted (pa_cons (pe_has FCN hr (by decide) rfl (pa_cons (pv 2) (pa_cons (pe_has FNO hr (by decide) rfl (pa_cons (pv 0) pa_nil)) pa_nil))) pa_nil)))
      (pss_cons (ps_set (i := 4) scFirstOpen.nd rfl (.inl rfl) (pe_has FR hr (by decide) rfl (pa_cons (pv 0) (pa_cons (pe_fld (pv 0) rfl) (pa_cons (pv 3) (pa_cons (pe_lamV (T := T) TB rfl rfl hm hT rfl (by decide +kernel)) pa_nil))))))
      (pss_cons (ps_lock (ps_for PassesOwn.never rfl (pi_items (pv 4)) (pg_tup rfl (pgs_cons (pg_name (i := 5) scFirstOpen.nd rfl (.inl rfl)) (pgs_cons (pg_name (i := 6) scFirstOpen.nd rfl (.inl rfl)) pgs_nil)))
        (pss_one (ps_if (pt_cmp (pc_din hu (pv 5) (pe_dget hu (pe_fld (pv 0) rfl) (pv 1) (fun _ _ => rfl)))) (pss_one (ps_ret (pe_callTy call_list_of rfl gl boot_list (pa_cons (pv 6) pa_nil)))) pss_nil))))
      (pss_one (ps_ret pe_non)))))), ?_⟩
    obtain ⟨t, a, d, x, xs, l, rfl, th, dk, ox, lx, sq, len, nlen, oks, nd, sub, tabs, hQ⟩ := h
    refine ⟨.ref t, rfl, .str x, rfl, t, d, x, rfl, th, ox, by rw [lx]; rfl, fun H1 x1 => ?_⟩
    refine ⟨.ref a, rfl, .ref t, rfl, t, d, rfl, th.ex x1, by omega, fun n1 ks H2 x2 nn2 g2 pm2 so2 => ?_⟩
    have y2 := x1.trans x2
    refine ⟨a, n1, xs, ks, rfl, sq.ex y2, .inl (.inl g2), len, oks, nd, fun y m => pm2.mem_iff.mpr (sub y m), fun p3 H3 x3 np3 g3 => ?_⟩
    have y3 := y2.trans x3
    refine ⟨p3, xs, rfl, .inl (.inl g3), by omega, fun ys p4 pm4 so4 np4 => ?_⟩
    have y4 : Ex H (upd H3 p4 (.lst (ys.map V.str))) := y3.trans (Ex.new np4)
    have g4 : upd H3 p4 (.lst (ys.map V.str)) p4 = some (.lst (ys.map V.str)) := upd_same
    generalize upd H3 p4 (.lst (ys.map V.str)) = H4 at y4 g4 ⊢
    obtain ⟨dx, vt, dd, de, e1, e2, e3, e4⟩ := th.ex y4
    refine ⟨.ref t, rfl, .ref t, rfl, t, C, dx, _, .str d.start, rfl, e1, TC.cls, TC.start, rfl, .ref p4, rfl, y4.tabs tabs, fun fl H5 x5 t5 nf5 lam => ?_⟩
    have th5 : IsTh H5 C t d := (th.ex y4).exN x5
    have y5 : ExtN H H5 := y4.extN.trans x5
    refine ⟨t, d, d.start, p4, ys, fl, _, rfl, th5, dk, dk.start, .inl (.inl (extN_lst x5 g4)), by rw [pm4.length_eq]; omega, fun n m => ?_, lam, lt_true (x := "worth") (NdefX.nscope_by (by kernel_rfl)) (fun pm cv ctv us hl => match us, hl with | [_], _ => rfl), fun p6 H6 fnd x6 np6 fd6 fk6 run6 => ?_⟩
    · exact names_look (sub n (pm4.mem_iff.mp m))
    have y6 : ExtN H H6 := y5.trans x6.extN
    have t6 : Tabs T H6 := x6.tabs t5
    obtain ⟨hn, hs⟩ := hQ ys fnd pm4 so4 run6
    obtain ⟨kvs, gk, pr⟩ := fd6
    refine ⟨p6, _, gk, trivial, fun od => ?_⟩
    have np0 : ∀ o, H p6 = some o → (∀ ps, o ≠ .tbl ps) → False := fun o e n => by
      rw [y5 _ _ e n] at np6
      cases np6
    have back : ∀ H7, Ex (upd H6 p6 (.frz od (.dK kvs))) H7 → Ex H6 (upd H7 p6 (.dK kvs)) := fun H7 x7 b o e => by
      by_cases z : b = p6
      · subst z
        rw [upd_same]
        exact gk.symm.trans e
      · exact (upd_ne z).trans (x7 _ _ ((upd_ne z).trans e))
    have keepT : ∀ H7, Ex (upd H6 p6 (.frz od (.dK kvs))) H7 → ∀ b xs, SqT K H6 b xs → SqT K H7 b xs := fun H7 x7 b xs z => x7.sqT (sqT_put gk (fun _ z => (nomatch z)) (fun _ _ z => (nomatch z)) z)
    have thL : ∀ H7, Ex (upd H6 p6 (.frz od (.dK kvs))) H7 → ∃ dx vt dd de es b, H7 t = some (.ins C dx [("kept_values", .ref vt), ("kept_start", .str d.start), ("kept_deeds", .ref dd), ("kept_entries", .ref de)]) ∧ H7 de = some (.dK es) ∧ valV es (Sum.inr x) = some (.ref b) ∧ H7 b = some (.dK (ldV l)) := fun H7 x7 => by
      obtain ⟨dx, vt, dd, de, e1, e2, _, ⟨es, m1, mp⟩⟩ := th5.ex x6
      obtain ⟨_, _, _, _, f1, _, _, ⟨fs, m2, mq⟩⟩ := th5
      have ne : ∀ {a : Addr} {o : HO}, H5 a = some o → a ≠ p6 := fun e z => by rw [z, np6] at e; cases e
      have up : ∀ {a : Addr} {o : HO}, H5 a = some o → H7 a = some o := fun e => x7 _ _ ((upd_ne (ne e)).trans (x6 _ _ e))
      rcases look_val mq x with ⟨z, _⟩ | ⟨l', b, z1, z2, z3⟩
      · rw [lx] at z; cases z
      · rw [lx] at z1
        cases z1
        exact ⟨_, _, _, _, fs, b, up f1, up m2, z2, up z3⟩
    refine ⟨.ref p6, rfl, p6, od, kvs, rfl, upd_same, for_it walk_items (fun i σ H7 => ∃ o5 o6, σ = [some (.ref t), some (.str x), some (.ref a), some (.ref p4), some (.ref p6), o5, o6] ∧ Ex (upd H6 p6 (.frz od (.dK kvs))) H7 ∧ firstIn l fnd = firstIn l (fnd.drop i))
      ⟨_, _, rfl, Ex.refl, rfl⟩ (fun i σ H7 _ ⟨_, _, _, x7, _⟩ => x7 _ _ upd_same) (fun i v σ H7 H8 hi h y => ?_) fun σ H7 h => ?_⟩
    · obtain ⟨o5, o6, rfl, x7, eq⟩ := h
      obtain ⟨T2, k, v2, rfl, nt, rfl, ek, ev⟩ := y
      have hkv : ∃ kv, kvs[i]? = some kv := ⟨_, List.getElem?_eq_getElem hi⟩
      obtain ⟨kv, hkv⟩ := hkv
      have ek : (kvs[i]?.map fun kv => kV kv.1) = some k := ek
      have ev : kvs[i]?.map Prod.snd = some v2 := ev
      rw [hkv] at ek ev
      have ek : some (kV kv.1) = some k := ek
      have ev : some kv.2 = some v2 := ev
      cases ek
      cases ev
      obtain ⟨pp, hpp, k1, rb, k2, k3⟩ := paired_get pr hkv
      rw [firstIn_step hpp] at eq
      have x8 : Ex (upd H6 p6 (.frz od (.dK kvs))) (upd H7 T2 (.tup [kV kv.1, kv.2])) := x7.trans (Ex.new nt)
      refine ⟨T2, _, rfl, .inl (.inl upd_same), rfl, kV kv.1, [kv.2], rfl, kv.2, [], rfl, rfl, ?_⟩
      rw [k1, k2] at x8 ⊢
      obtain ⟨dx, vt, dd, de, es, b, g1, g2, g3, g4⟩ := thL _ x8
      refine ⟨.str pp.1, rfl, .ref t, rfl, t, C, dx, _, .ref de, rfl, g1, TC.cls, TC.ents, rfl, .str x, rfl, de, .ref b, rfl, g3 ▸ DGet.k (k := Sum.inr x) g2, b, _, rfl, DGet.k (k := Sum.inr pp.1) g4, _, rfl, ?_⟩
      rw [lookL_val]
      cases q : lookL l pp.1 with
      | none =>
        rw [q] at eq
        exact ⟨_, _, rfl, x8, eq⟩
      | some z =>
        rw [q] at eq
        have eq : firstIn l fnd = some pp.2 := eq
        refine ⟨.ref rb, rfl, rb, pp.2.map V.str, rfl, .inr (keepT _ x8 _ _ k3), fun q9 n9 => ?_⟩
        have x9 := x8.trans (Ex.new (o := .lst (pp.2.map V.str)) n9)
        have n96 : q9 ≠ p6 := fun z => by rw [z, x8 _ _ upd_same] at n9; cases n9
        refine ⟨x9 _ _ upd_same, hs pp.2 q9 _ (y6.trans (back _ x9).extN) ((back _ x9).tabs t6) eq (fun o e n => ?_) ((upd_ne n96).trans upd_same)⟩
        have z6 := y6 _ _ e n
        rw [x8 _ _ ((upd_ne n96).trans z6)] at n9
        cases n9
    · obtain ⟨o5, o6, rfl, x7, eq⟩ := h
      have ln : fnd.length = kvs.length := Paired.length pr
      rw [← ln, List.drop_length] at eq
      exact ⟨x7 _ _ upd_same, hn _ (y6.trans (back _ x7).extN) ((back _ x7).tabs t6) eq⟩
end
end TH

/-! A11: _law_spring, _law_take, _law_one -/
namespace TH
open PySem PySem.Spec PyProof.Rows L2 LamV LamX XK0
abbrev sSpring : Stmt := top 40
abbrev sTake : Stmt := top 41
abbrev sOne : Stmt := top 42
/-- the spring: what is left of the script, the cell in use, how many were taken, the mixed number -/
structure Spg (H : Hp) (sp l : Addr) (ns : List Int) (a m : Int) (n : Nat) : Prop where
  hs : H sp = some (.lst [.ref l, .int a, .int n, .int m])
  hl : H l = some (.lst (ns.map V.int))
  ne : sp ≠ l
  a0 : 0 ≤ a
  m0 : 0 ≤ m
  m1 : m < 2147483647
def Spr (H : Hp) (sp l : Addr) (n : Nat) : Prop := ∃ ns a m, Spg H sp l ns a m n
/-- nothing but the spring is changed -/
def ExS (sp l : Addr) (H H' : Hp) : Prop := ∀ b o, b ≠ sp → b ≠ l → H b = some o → H' b = some o
theorem ExS.refl {sp l : Addr} {H : Hp} : ExS sp l H H := fun _ _ _ _ h => h
theorem ExS.trans {sp l : Addr} {H H1 H2 : Hp} (x : ExS sp l H H1) (y : ExS sp l H1 H2) : ExS sp l H H2 := fun b o h1 h2 e => y b o h1 h2 (x b o h1 h2 e)
theorem Ex.exS {sp l : Addr} {H H' : Hp} (x : Ex H H') : ExS sp l H H' := fun b o _ _ e => x b o e
theorem ExS.updS {sp l : Addr} {H : Hp} {o : HO} : ExS sp l H (upd H sp o) := fun _ _ h1 _ e => (upd_ne h1).trans e
theorem ExS.updL {sp l : Addr} {H : Hp} {o : HO} : ExS sp l H (upd H l o) := fun _ _ _ h2 e => (upd_ne h2).trans e
theorem Spg.ex {H H' : Hp} {sp l : Addr} {ns : List Int} {a m : Int} {n : Nat} (x : Ex H H') (h : Spg H sp l ns a m n) : Spg H' sp l ns a m n := ⟨x _ _ h.hs, x _ _ h.hl, h.ne, h.a0, h.m0, h.m1⟩
theorem Spr.ex {H H' : Hp} {sp l : Addr} {n : Nat} (x : Ex H H') : Spr H sp l n → Spr H' sp l n := fun ⟨ns, a, m, h⟩ => ⟨ns, a, m, h.ex x⟩
/-- what is free now was free before -/
theorem ExS.none {sp l p : Addr} {H H' : Hp} {n k : Nat} (x : ExS sp l H H') (s : Spr H' sp l k) (h : H' p = none) : H p = none := by
  obtain ⟨_, _, _, s⟩ := s
  cases q : H p with
  | none => rfl
  | some o =>
    rw [x p o (fun z => by rw [z, s.hs] at h; cases h) (fun z => by rw [z, s.hl] at h; cases h) q] at h
    cases h
theorem dp_ints {K : PySem.W.Frag} {H : Hp} : ∀ ns : List Int, DpAll K H (ns.map V.int) (ns.map PyData.int)
  | [] => .nil
  | i :: r => .cons (.int i) (dp_ints r)
theorem lay_ints : ∀ ns : List Int, PyData.canLayAll0 (ns.map PyData.int) = true ∧ PyData.depthAll (ns.map PyData.int) = 0
  | [] => ⟨rfl, rfl⟩
  | i :: r => by
    obtain ⟨a, b⟩ := lay_ints r
    refine ⟨?_, ?_⟩
    · show (PyData.canLay0 (.int i) && PyData.canLayAll0 (r.map PyData.int)) = true
      rw [a]
      rfl
    · show max (PyData.depth (.int i)) (PyData.depthAll (r.map PyData.int)) = 0
      rw [b]
      rfl
theorem shaped_ints (ns : List Int) : SeqAt.shaped (.list (ns.map PyData.int)) = true := by
  obtain ⟨a, b⟩ := lay_ints ns
  have e1 : PyData.canLay0 (.list (ns.map PyData.int)) = PyData.canLayAll0 (ns.map PyData.int) := by unfold PyData.canLay0; rfl
  have e2 : PyData.depth (.list (ns.map PyData.int)) = PyData.depthAll (ns.map PyData.int) + 1 := by unfold PyData.depth; rfl
  unfold SeqAt.shaped
  rw [e1, a, e2, b]
  decide
theorem eqv_nilI (ns : List Int) : PyData.eqv (.list (ns.map PyData.int)) (.list []) = decide (ns = []) := by
  cases ns with
  | nil => rfl
  | cons w r => rfl
def spTake : Sp := fun vs H Q _ => ∃ (sp l : Addr) (k : Int) (n : Nat), vs = [.ref sp, .int k] ∧ Spr H sp l n ∧ n < 1000000 ∧ 1 ≤ k ∧ k ≤ 1000 ∧ ∀ (d : Nat) (H' : Hp), (d : Int) < k → ExS sp l H H' → Spr H' sp l (n + 1) → Q (.int d) H'
/-- at each turn of the while -/
def TInv (H : Hp) (sp l : Addr) (k : Int) (n c : Nat) (σ : L2.St) (H2 : Hp) : Prop := ∃ (ns : List Int) (a m : Int) (o2 : Option V), σ = [some (.ref sp), some (.int k), o2, none, none] ∧ ExS sp l H H2 ∧ Spg H2 sp l ns a m (n + 1) ∧ c = ns.length
theorem tand_go {t u : TT} {σ : L2.St} {H : Hp} {Q : Bool → Hp → Prop} {N : Hp → Prop} (c e : Bool) (ht : ∀ Q, Q c H → t σ H Q) (hu : ∀ Q, (∀ H1, N H1 → Q e H1) → u σ H Q) (n0 : N H) (h : ∀ H1, N H1 → Q (c && e) H1) : tAnd t u σ H Q := by
  refine ht _ ?_
  cases c with
  | true => exact hu _ h
  | false => exact h H n0
section
variable {P : Program} {w : World} {K : PySem.W.Frag} {mg : Str → Option Value} {base : Heap} {f : Addr} {fd : FuncData}
theorem scTake : FnScope ["_law_spring_here", "_law_many", "_law_cell", "_law_digit", "_law_mixed"] ["_law_spring_here", "_law_many"] (defScope sTake) := ⟨rfl, rfl, rfl, by decide +kernel, rfl, by decide +kernel, by decide +kernel⟩
theorem ok_take (F : FnP K "_law_take" sTake f fd) (gi : mg "int" = none) (ga : mg "abs" = none) : FnOk P w K mg base CX0 1 f fd ["_law_spring_here", "_law_many"] spTake := by
  refine F.ok scTake (fun vs H Q E h => ?_) (fun cdv A outer s H vs Q E hr h => ?_)
  · obtain ⟨sp, l, k, n, rfl, _⟩ := h
    rfl
  · refine ⟨_, PSs.nox (pss_cons (ps_asg (pe_op op_add (pe_ix ix_list (pv 0) pe_int (fun _ _ => rfl)) pe_int) (pg_sub (pv 0) pe_int set_list))
      (pss_cons (ps_while PassesOwn.never (PW.pt (pw_and (pt_cmp (pc_eqI (pe_ix ix_list (pv 0) pe_int (fun _ _ => rfl)) pe_int)) (pw_and1 (pt_cmpR (op_neD hr.units) (pe_ix ix_list (pv 0) pe_int (fun _ _ => rfl)) (pe_lst pa_nil) (nomark _)))))
        (pss_cons (ps_set (i := 2) scTake.nd rfl (.inl rfl) (pe_callB call_abs rfl ga boot_abs (pa_cons (pe_bm PySem.F.plainAttrs_list PySem.F.slot_list_pop PySem.F.type_list_pop mt_popAt (pe_ix ix_list (pv 0) pe_int (fun _ _ => rfl)) (pa_cons pe_int pa_nil)) pa_nil)))
        (pss_cons (ps_asg (pe_op op_mod (pe_callTy call_int1 rfl gi boot_int (pa_cons (pe_op op_add (pe_op op_add (pe_op op_mul (pe_ix ix_list (pv 0) pe_int (fun _ _ => rfl)) pe_int) (pv 2)) pe_int) pa_nil)) pe_int) (pg_sub (pv 0) pe_int set_list))
        (pss_one (ps_asg (pe_ifExp (pt_cmpR op_ge (pv 2) (pe_op op_pow pe_int pe_int) (nomark _)) (pv 2) pe_int) (pg_sub (pv 0) pe_int set_list))))))
      (pss_cons (ps_if (pt_cmpR op_gt (pe_ix ix_list (pv 0) pe_int (fun _ _ => rfl)) pe_int (nomark _))
        (pss_cons (ps_set (i := 3) scTake.nd rfl (.inl rfl) (pe_op op_mod (pe_callTy call_int1 rfl gi boot_int (pa_cons (pe_ix ix_list (pv 0) pe_int (fun _ _ => rfl)) pa_nil)) (pv 1)))
        (pss_cons (ps_asg (pe_op op_fdiv (pe_ix ix_list (pv 0) pe_int (fun _ _ => rfl)) (pv 1)) (pg_sub (pv 0) pe_int set_list))
        (pss_one (ps_ret (pv 3))))) pss_nil)
      (pss_cons (ps_set (i := 4) scTake.nd rfl (.inl rfl) (pe_op op_mod (pe_callTy call_int1 rfl gi boot_int (pa_cons (pe_op op_pow (pe_op op_add (pe_op op_add (pe_ix ix_list (pv 0) pe_int (fun _ _ => rfl)) (pe_op op_mul pe_int (pe_ix ix_list (pv 0) pe_int (fun _ _ => rfl)))) pe_int) pe_int) pa_nil)) pe_int))
      (pss_one (ps_ret (pe_op op_mod (pe_op op_mod (pe_callTy call_int1 rfl gi boot_int (pa_cons (pe_op op_pow (pe_op op_add (pe_op op_add (pe_op op_mul (pv 4) pe_int) (pe_op op_mul pe_int (pe_ix ix_list (pv 0) pe_int (fun _ _ => rfl)))) pe_int) pe_int) pa_nil)) pe_int) (pv 1)))))))), ?_⟩
    obtain ⟨sp, l, k, n, rfl, ⟨ns, a, m, S⟩, hn, k1, k2, hQ⟩ := h
    have kpos : (0 : Int) < k := by omega
    refine ⟨.ref sp, rfl, sp, _, 2, .int n, rfl, rfl, .inl (.inl S.hs), rfl, n, 1, rfl, rfl, .ref sp, rfl, sp, _, 2, 2, rfl, rfl, S.hs, rfl, ?_⟩
    refine ⟨TInv H sp l k n, ⟨_, ns, a, m, none, rfl, ExS.updS, ⟨upd_same, (upd_ne S.ne.symm).trans S.hl, S.ne, S.a0, S.m0, S.m1⟩, rfl⟩, fun c σ H2 h => ?_⟩
    clear S
    obtain ⟨ns, a, m, o2, rfl, x2, S, rfl⟩ := h
    have sq := fun {H' : Hp} (x : Ex H2 H') => (show SqL K H' sp _ from .inl (.inl (x _ _ S.hs)))
    refine tand_go (N := fun H1 => Ex H2 H1) (decide (a = 0)) (!decide (ns = [])) (fun Q q => ⟨.ref sp, rfl, sp, _, 1, .int a, rfl, rfl, sq Ex.refl, rfl, a, 0, rfl, rfl, _, rfl, q⟩) (fun Q q => ?_) Ex.refl fun H1 x1 => ?_
    · refine ⟨.ref sp, rfl, sp, _, 0, .ref l, rfl, rfl, sq Ex.refl, rfl, Nat.zero_le _, fun e ne => ⟨.list (ns.map PyData.int), .list [], .lst (.inl (.inl ((Ex.new ne) _ _ S.hl))) (dp_ints ns), .lst (.inl (.inl upd_same)) .nil, shaped_ints ns, rfl, _, rfl, ?_⟩⟩
      rw [eqv_nilI]
      exact q _ (Ex.new ne)
    have S1 := S.ex x1
    have x3 : ExS sp l H H1 := x2.trans x1.exS
    clear S sq x2 x1
    have sq : SqL K H1 sp _ := .inl (.inl S1.hs)
    by_cases ha : a = 0 ∧ ns ≠ []
    · obtain ⟨ha, hns⟩ := ha
      rw [decide_eq_true ha, decide_eq_false hns]
      cases ns with
      | nil => exact absurd rfl hns
      | cons i r =>
        refine ⟨fun σ' H' => ∃ m', m' < (i :: r).length ∧ TInv H sp l k n m' σ' H', fun σ' H' h => h, .ref sp, rfl, sp, _, 0, .ref l, rfl, rfl, sq, rfl, .inl ⟨rfl, _, .inl (.inl S1.hl)⟩, l, _, 0, 0, .int i, rfl, rfl, S1.hl, by decide, by decide, seqIndex_of (by decide) (by simp), rfl, i, rfl, ?_⟩
        have c0 : (0 : Int) ≤ (if i < 0 then -i else i) := by split <;> omega
        generalize (if i < 0 then -i else i) = c at c0 ⊢
        have x4 : ExS sp l H (upd H1 l (.lst (r.map V.int))) := x3.trans ExS.updL
        have h4 : upd H1 l (.lst (r.map V.int)) sp = some (.lst [.ref l, .int a, .int ((n + 1 : Nat) : Int), .int m]) := (upd_ne S1.ne).trans S1.hs
        have l4 : upd H1 l (.lst (r.map V.int)) l = some (.lst (r.map V.int)) := upd_same
        rw [show ((i :: r).map V.int).eraseIdx 0 = r.map V.int from rfl]
        generalize upd H1 l (.lst (r.map V.int)) = H4 at x4 h4 l4 ⊢
        refine ⟨.ref sp, rfl, sp, _, 3, .int m, rfl, rfl, .inl (.inl h4), rfl, m, 8191, rfl, rfl, .inr (by decide), .int c, rfl, _, _, rfl, rfl, _, _, rfl, rfl, .inl ⟨_, rfl, _, _, rfl, rfl, (by decide : (0 : Int) < 2147483647), ?_⟩⟩
        have b1 : 0 ≤ (m * 8191 + c + 3) % 2147483647 := Int.emod_nonneg _ (by decide)
        have b2 : (m * 8191 + c + 3) % 2147483647 < 2147483647 := Int.emod_lt_of_pos _ (by decide)
        refine ⟨.ref sp, rfl, sp, _, 3, 3, rfl, rfl, h4, rfl, ?_⟩
        refine ⟨.int c, rfl, 10, 18, rfl, rfl, ⟨by decide, by decide, by decide⟩, _, _, rfl, rfl, _, rfl, ?_⟩
        show (if _ = true then _ else _)
        split
        · exact ⟨.int c, rfl, .ref sp, rfl, sp, _, 1, 1, rfl, rfl, upd_same, rfl, r.length, Nat.lt_succ_self _, r, c, (m * 8191 + c + 3) % 2147483647, _, rfl, (x4.trans ExS.updS).trans ExS.updS, ⟨upd_same, (upd_ne S1.ne.symm).trans ((upd_ne S1.ne.symm).trans l4), S1.ne, c0, b1, b2⟩, rfl⟩
        · exact ⟨.ref sp, rfl, sp, _, 1, 1, rfl, rfl, upd_same, rfl, r.length, Nat.lt_succ_self _, r, 0, (m * 8191 + c + 3) % 2147483647, _, rfl, (x4.trans ExS.updS).trans ExS.updS, ⟨upd_same, (upd_ne S1.ne.symm).trans ((upd_ne S1.ne.symm).trans l4), S1.ne, Int.le_refl 0, b1, b2⟩, rfl⟩
    · rw [show (decide (a = 0) && !decide (ns = [])) = false from by
        by_cases z : a = 0
        · by_cases y : ns = []
          · rw [y]; simp
          · exact absurd ⟨z, y⟩ ha
        · rw [decide_eq_false z]; rfl, if_neg Bool.false_ne_true]
      refine ⟨.ref sp, rfl, sp, _, 1, .int a, rfl, rfl, sq, rfl, a, 0, rfl, rfl, _, rfl, ?_⟩
      by_cases hi : 0 < a
      · show (if decide (0 < a) = true then _ else _)
        rw [if_pos (decide_eq_true hi)]
        refine ⟨.ref sp, rfl, sp, _, 1, .int a, rfl, rfl, sq, rfl, .inl ⟨a, rfl, .int k, rfl, a, k, rfl, rfl, kpos, ?_⟩⟩
        refine ⟨.ref sp, rfl, sp, _, 1, .int a, rfl, rfl, sq, rfl, .int k, rfl, a, k, rfl, rfl, ⟨kpos, by omega⟩, ?_⟩
        refine ⟨.ref sp, rfl, sp, _, 1, 1, rfl, rfl, S1.hs, rfl, .int (a % k), rfl, ?_⟩
        have b1 : 0 ≤ a % k := Int.emod_nonneg _ (by omega)
        rw [show a % k = ((a % k).toNat : Int) from (Int.toNat_of_nonneg b1).symm]
        exact hQ _ _ (by rw [Int.toNat_of_nonneg b1]; exact Int.emod_lt_of_pos _ kpos) (x3.trans ExS.updS) ⟨ns, a / k, m, upd_same, (upd_ne S1.ne.symm).trans S1.hl, S1.ne, Int.ediv_nonneg S1.a0 (by omega), S1.m0, S1.m1⟩
      · show (if decide (0 < a) = true then _ else _)
        rw [if_neg (show ¬ (decide (0 < a) = true) from by simpa using hi)]
        have m0 := S1.m0
        have m1 := S1.m1
        refine ⟨.ref sp, rfl, sp, _, 3, .int m, rfl, rfl, sq, rfl, .ref sp, rfl, sp, _, 2, .int ((n + 1 : Nat) : Int), rfl, rfl, sq, rfl, 7919, _, rfl, rfl, .inl (by decide), m, _, rfl, rfl, _, _, rfl, rfl, _, 5, rfl, rfl, ⟨by decide, by decide, by omega⟩, .inl ⟨_, rfl, _, _, rfl, rfl, (by decide : (0 : Int) < 2147483629), ?_⟩⟩
        have b1 : 0 ≤ (m + 7919 * ((n + 1 : Nat) : Int) + 104729) ^ (5 : Int).toNat % 2147483629 := Int.emod_nonneg _ (by decide)
        have b2 : (m + 7919 * ((n + 1 : Nat) : Int) + 104729) ^ (5 : Int).toNat % 2147483629 < 2147483629 := Int.emod_lt_of_pos _ (by decide)
        have bb : ∀ y : Int, 0 ≤ y → y < 2147483629 → (y * 48271 + 30011 * ((n + 1 : Nat) : Int) + 29).natAbs < 2 ^ 64 := fun y _ _ => by omega
        have bc := bb _ b1 b2
        refine ⟨_, rfl, (m + 7919 * ((n + 1 : Nat) : Int) + 104729) ^ (5 : Int).toNat % 2147483629, 48271, rfl, rfl, .inr (by decide), .ref sp, rfl, sp, _, 2, .int ((n + 1 : Nat) : Int), rfl, rfl, sq, rfl, 30011, _, rfl, rfl, .inl (by decide), _, _, rfl, rfl, _, _, rfl, rfl, _, 3, rfl, rfl, ⟨by decide, by decide, bc⟩, .inl ⟨_, rfl, _, _, rfl, rfl, (by decide : (0 : Int) < 1000000007), .int k, rfl, _, k, rfl, rfl, kpos, ?_⟩⟩
        have fin : ∀ z : Int, Q (.int (z % k)) H1 := fun z => by
          have b3 : 0 ≤ z % k := Int.emod_nonneg _ (by omega)
          rw [show z % k = ((z % k).toNat : Int) from (Int.toNat_of_nonneg b3).symm]
          exact hQ _ _ (by rw [Int.toNat_of_nonneg b3]; exact Int.emod_lt_of_pos _ kpos) x3 ⟨ns, a, m, S1⟩
        exact fin _
end
end TH

/-! A12: _law_spring, _law_one, _law_mix -/
namespace TH
open PySem PySem.Spec PyProof.Rows L2 LamV LamX XK0
abbrev sMix : Stmt := top 43
theorem at_nat {xs : List V} {k : Nat} {y : V} (h : xs[k]? = some y) : atI xs (k : Int) = some y := by
  obtain ⟨lt, _⟩ := List.getElem?_eq_some_iff.mp h
  unfold atI ixN
  rw [if_pos (Int.natCast_nonneg k), if_pos (by omega), Option.bind_some, Int.toNat_natCast]
  exact h
def spSpring (K : PySem.W.Frag) : Sp := fun vs H Q _ => ∃ (a : Addr) (ns : List Int), vs = [.ref a] ∧ SqL K H a (ns.map V.int) ∧ ns.length ≤ sizeLine ∧ ∀ (sp l : Addr) (H' : Hp), Ex H H' → H sp = none → H l = none → Spr H' sp l 0 → Q (.ref sp) H'
def spOne : Sp := fun vs H Q _ => ∃ (sp l t : Addr) (n : Nat) (xs : List V), vs = [.ref sp, .ref t] ∧ Spr H sp l n ∧ n < 1000000 ∧ t ≠ sp ∧ t ≠ l ∧ H t = some (.lst xs) ∧ xs ≠ [] ∧ xs.length ≤ 1000 ∧ ∀ (y : V) (H' : Hp), y ∈ xs → ExS sp l H H' → Spr H' sp l (n + 1) → Q y H'
section
variable {P : Program} {w : World} {K : PySem.W.Frag} {mg : Str → Option Value} {base : Heap} {f : Addr} {fd : FuncData}
theorem scSpring : FnScope ["_law_script"] ["_law_script"] (defScope sSpring) := ⟨rfl, rfl, rfl, by decide +kernel, rfl, by decide +kernel, by decide +kernel⟩
theorem ok_spring (F : FnP K "_law_spring" sSpring f fd) (gl : mg "list" = none) : FnOk P w K mg base CX0 1 f fd ["_law_script"] (spSpring K) := by
  refine F.ok scSpring (fun vs H Q E h => ?_) (fun cdv A outer s H vs Q E hr h => ?_)
  · obtain ⟨a, ns, rfl, _⟩ := h
    rfl
  · refine ⟨_, PSs.nox (pss_one (ps_ret (pe_lst (pa_cons (pe_callTy call_list_of rfl gl boot_list (pa_cons (pv 0) pa_nil)) (pa_cons pe_int (pa_cons pe_int (pa_cons pe_int pa_nil))))))), ?_⟩
    obtain ⟨a, ns, rfl, sq, len, hQ⟩ := h
    refine ⟨.ref a, rfl, a, _, rfl, .inl sq, fun l nl => ⟨by show 4 ≤ sizeLine; decide, fun sp nsp => ?_⟩⟩
    have x1 : Ex H (upd H l (.lst (ns.map V.int))) := Ex.new nl
    refine hQ sp l _ (x1.trans (Ex.new nsp)) (x1.none nsp) nl ⟨ns, 0, 17, upd_same, (Ex.new nsp) _ _ upd_same, ?_, by decide, by decide, by decide⟩
    exact fun z => by rw [z, upd_same] at nsp; cases nsp
theorem scOne : FnScope ["_law_spring_here", "_law_things"] ["_law_spring_here", "_law_things"] (defScope sOne) := ⟨rfl, rfl, rfl, by decide +kernel, rfl, by decide +kernel, by decide +kernel⟩
theorem ok_one (F : FnP K "_law_one" sOne f fd) (FT : Has P w K mg base "_law_take" 1 ["_law_spring_here", "_law_many"] spTake) (gn : mg "len" = none) : FnOk P w K mg base CX0 2 f fd ["_law_spring_here", "_law_things"] spOne := by
  refine F.ok scOne (fun vs H Q E h => ?_) (fun cdv A outer s H vs Q E hr h => ?_)
  · obtain ⟨sp, l, t, n, xs, rfl, _⟩ := h
    rfl
  · refine ⟨_, PSs.nox (pss_one (ps_ret (pe_ix ix_list (pv 1) (pe_has FT hr (by decide) rfl (pa_cons (pv 0) (pa_cons (pe_callB call_len rfl gn boot_len (pa_cons (pv 1) pa_nil)) pa_nil))) (fun _ _ => rfl)))), ?_⟩
    obtain ⟨sp, l, t, n, xs, rfl, S, hn, t1, t2, ht, ne, len, hQ⟩ := h
    have pos : 0 < xs.length := List.length_pos_iff.mpr ne
    refine ⟨.ref t, rfl, .ref sp, rfl, .ref t, rfl, .ref t, xs.length, rfl, .inl ⟨xs, .inl (.inl ht), rfl⟩, sp, l, xs.length, n, rfl, S, hn, by omega, by omega, fun d H' hd x S' => ?_⟩
    have lt : d < xs.length := by omega
    exact ⟨t, xs, d, xs[d], rfl, rfl, .inl (.inl (x _ _ t1 t2 ht)), at_nat (List.getElem?_eq_getElem lt), hQ _ _ (List.getElem_mem lt) x S'⟩
end
end TH

/-! A13: _law_mix -/
namespace TH
open PySem PySem.Spec PyProof.Rows L2 LamV LamX XK0
theorem erase_perm {α : Type} : ∀ {l : List α} {i : Nat} {y : α}, l[i]? = some y → (y :: l.eraseIdx i).Perm l
  | [], _, _, h => by simp at h
  | x :: r, 0, y, h => by
    simp at h
    subst h
    exact List.Perm.refl _
  | x :: r, i + 1, y, h => by
    have ih := erase_perm (l := r) (i := i) (y := y) (by simpa using h)
    exact (List.Perm.swap x y _).trans (ih.cons x)
def spMix (K : PySem.W.Frag) : Sp := fun vs H Q _ => ∃ (sp l t : Addr) (n : Nat) (xs : List V), vs = [.ref sp, .ref t] ∧ Spr H sp l n ∧ n + xs.length < 1000000 ∧ t ≠ sp ∧ t ≠ l ∧ Sq K H t xs ∧ xs.length ≤ 1000 ∧
  ∀ (q : Addr) (ys : List V) (H' : Hp), ExS sp l H H' → Spr H' sp l (n + xs.length) → H q = none → H' q = some (.lst ys) → ys.Perm xs → Q (.ref q) H'
/-- at each turn -/
def MInv (H : Hp) (sp l lf D : Addr) (n : Nat) (xs : List V) (i : Nat) (H2 : Hp) : Prop := ∃ left acc, ExS sp l H H2 ∧ Spr H2 sp l (n + i) ∧ H2 lf = some (.lst left) ∧ H2 D = some (.lst acc) ∧ (acc ++ left).Perm xs ∧ acc.length = i
section
variable {P : Program} {w : World} {K : PySem.W.Frag} {mg : Str → Option Value} {base : Heap} {f : Addr} {fd : FuncData}
theorem scMix : FnScope ["_law_spring_here", "_law_things", "_law_left", "_law_k"] ["_law_spring_here", "_law_things"] (defScope sMix) := ⟨rfl, rfl, rfl, by decide +kernel, rfl, by decide +kernel, by decide +kernel⟩
theorem ok_mix (F : FnP K "_law_mix" sMix f fd) (FT : Has P w K mg base "_law_take" 1 ["_law_spring_here", "_law_many"] spTake) (gn : mg "len" = none) (gl : mg "list" = none) (gr : mg "range" = none) : FnOk P w K mg base CX0 2 f fd ["_law_spring_here", "_law_things"] (spMix K) := by
  refine F.ok scMix (fun vs H Q E h => ?_) (fun cdv A outer s H vs Q E hr h => ?_)
  · obtain ⟨sp, l, t, n, xs, rfl, _⟩ := h
    rfl
  · refine ⟨_, PSs.nox (pss_cons (ps_set (i := 2) scMix.nd rfl (.inr rfl) (pe_callTy call_list_of rfl gl boot_list (pa_cons (pv 1) pa_nil)))
      (pss_one (ps_ret (pe_lc (te := tBM K "list" rPopAt (tVar 2) (tCons (tCall spTake [] E0 (tCons (tVar 0) (tCons (tCB (rLen K) (tCons (tVar 2) tNil)) tNil))) tNil)) (own := [("_law_k", 3)]) rfl scMix.nd (pi_range1 rfl gr (pa_cons (pe_callB call_len rfl gn boot_len (pa_cons (pv 2) pa_nil)) pa_nil)) (blkOk_by (by kernel_rfl)) (fun s H C cl fp => pg_name (i := 3) scMix.nd rfl (.inl rfl) (.inr rfl)) (fun s H C cl fp => pts_nil)
        (fun s H C cl fp => pe_bm PySem.F.plainAttrs_list PySem.F.slot_list_pop PySem.F.type_list_pop mt_popAt (pv 2) (pa_cons (pe_has FT hr (by decide) rfl (pa_cons (pv 0) (pa_cons (pe_callB call_len rfl gn boot_len (pa_cons (pv 2) pa_nil)) pa_nil))) pa_nil)))))), ?_⟩
    obtain ⟨sp, l, t, n, xs, rfl, S, hn, t1, t2, sq, len, hQ⟩ := h
    refine ⟨.ref t, rfl, t, xs, rfl, sq, fun lf nlf => ?_⟩
    refine ⟨.ref lf, rfl, .ref lf, xs.length, rfl, .inl ⟨xs, .inl (.inl upd_same), rfl⟩, xs.length, rfl, by omega, by omega, fun D nD => ?_⟩
    have x1 : Ex H (upd H lf (.lst xs)) := Ex.new nlf
    have x2 : Ex (upd H lf (.lst xs)) (upd (upd H lf (.lst xs)) D (.lst [])) := Ex.new nD
    have nDH : H D = none := x1.none nD
    have Dl : lf ≠ D := fun z => by rw [← z, upd_same] at nD; cases nD
    obtain ⟨ns, a, m, S0⟩ := S
    have l1 : lf ≠ sp := fun z => by rw [z, S0.hs] at nlf; cases nlf
    have l2 : lf ≠ l := fun z => by rw [z, S0.hl] at nlf; cases nlf
    have d1 : D ≠ sp := fun z => by rw [z, S0.hs] at nDH; cases nDH
    have d2 : D ≠ l := fun z => by rw [z, S0.hl] at nDH; cases nDH
    refine lc_range (MInv H sp l lf D n xs) ⟨xs, [], (x1.trans x2).exS, ⟨ns, a, m, S0.ex (x1.trans x2)⟩, x2 _ _ upd_same, upd_same, .refl _, rfl⟩ (fun i H2 hi h => ?_) fun H2 h => ?_
    · obtain ⟨left, acc, x3, S3, h3, h4, pm, la⟩ := h
      have ln : acc.length + left.length = xs.length := by rw [← pm.length_eq, List.length_append]
      refine ⟨rfl, .ref lf, rfl, .inl ⟨rfl, _, .inl (.inl h3)⟩, .ref sp, rfl, .ref lf, rfl, .ref lf, left.length, rfl, .inl ⟨left, .inl (.inl h3), rfl⟩, sp, l, left.length, n + i, rfl, S3, by omega, by omega, by omega, fun d H4 hd x4 S4 => ?_⟩
      have lt : d < left.length := by omega
      have g3 := x4 _ _ l1 l2 h3
      have g4 := x4 _ _ d1 d2 h4
      refine ⟨lf, left, d, d, left[d], rfl, rfl, g3, by omega, by omega, seqIndex_of (by omega) (by omega), List.getElem?_eq_getElem lt, acc, (upd_ne Dl.symm).trans g4, by rw [sizeLine_eq]; omega, ?_⟩
      obtain ⟨ns, a, m, S4⟩ := S4
      refine ⟨left.eraseIdx d, acc ++ [left[d]], ?_, ⟨ns, a, m, (upd_ne d1.symm).trans ((upd_ne l1.symm).trans S4.hs), (upd_ne d2.symm).trans ((upd_ne l2.symm).trans S4.hl), S4.ne, S4.a0, S4.m0, S4.m1⟩, (upd_ne Dl).trans upd_same, upd_same, ?_, by rw [List.length_append, la]; rfl⟩
      · intro b o b1 b2 e
        have bl : b ≠ lf := fun z => by rw [z, nlf] at e; cases e
        have bd : b ≠ D := fun z => by rw [z, nDH] at e; cases e
        exact (upd_ne bd).trans ((upd_ne bl).trans (x4 _ _ b1 b2 (x3 _ _ b1 b2 e)))
      · rw [List.append_assoc]
        exact ((erase_perm (List.getElem?_eq_getElem lt)).append_left acc).trans pm
    · obtain ⟨left, acc, x3, S3, h3, h4, pm, la⟩ := h
      have ln : acc.length + left.length = xs.length := by rw [← pm.length_eq, List.length_append]
      have e : left = [] := List.length_eq_zero_iff.mp (by simp at la; omega)
      subst e
      rw [List.append_nil] at pm
      exact hQ D acc H2 x3 S3 nDH h4 pm
end
end TH

/-! A14: the parts; _law_names, _law_led -/
namespace TH
open PySem PySem.Spec PyProof.Rows L2 LamV LamX XK0
abbrev sNames : Stmt := top 46
abbrev sLed : Stmt := top 47
/-- the parts that a thing is made of -/
def IsPt (H : Hp) (pt : Addr) (d : ThD) : Prop := ∃ vl dd de, H pt = some (.tup [.ref vl, .str d.start, .ref dd, .ref de]) ∧ H vl = some (.lst (d.vals.map V.str)) ∧ DD H dd d.deeds ∧ DD H de d.ents
theorem IsPt.exN {H H' : Hp} {pt : Addr} {d : ThD} (x : ExtN H H') (h : IsPt H pt d) : IsPt H' pt d := by
  obtain ⟨vl, dd, de, e1, e2, e3, e4⟩ := h
  exact ⟨vl, dd, de, x _ _ e1 fun _ q => (nomatch q), x _ _ e2 fun _ q => (nomatch q), e3.exN x, e4.exN x⟩
theorem IsPt.ex {H H' : Hp} {pt : Addr} {d : ThD} (x : Ex H H') (h : IsPt H pt d) : IsPt H' pt d := h.exN x.extN
def spNames : Sp := fun vs H Q _ => ∃ (pt : Addr) (d : ThD), vs = [.ref pt] ∧ IsPt H pt d ∧ d.names.length < 64 ∧ ∀ (p : Addr) (ys : List Str) (H' : Hp), Ex H H' → H p = none → H' p = some (.lst (ys.map V.str)) → ys.Perm d.names → sortedS ys = true → Q (.ref p) H'
def spLed : Sp := fun vs H Q _ => ∃ (pt : Addr) (d : ThD) (v n : Str), vs = [.ref pt, .str v, .str n] ∧ IsPt H pt d ∧ ((∃ l, look d.deeds n = some l ∧ (lookL l v).isSome = true) ∨ (look d.deeds n = none ∧ (look d.ents n).isSome = true)) ∧ Q (optS (d.led v n)) H
section
variable {P : Program} {w : World} {K : PySem.W.Frag} {mg : Str → Option Value} {base : Heap} {f : Addr} {fd : FuncData}
theorem scNames : FnScope ["_law_parts"] ["_law_parts"] (defScope sNames) := ⟨rfl, rfl, rfl, by decide +kernel, rfl, by decide +kernel, by decide +kernel⟩
theorem ok_names (F : FnP K "_law_names" sNames f fd) (gs : mg "sorted" = none) (gl : mg "list" = none) : FnOk P w K mg base CX0 1 f fd ["_law_parts"] spNames := by
  refine F.ok scNames (fun vs H Q E h => ?_) (fun cdv A outer s H vs Q E hr h => ?_)
  · obtain ⟨t, d, rfl, _⟩ := h
    rfl
  · refine ⟨_, PSs.nox (pss_one (ps_ret (pe_callB cr_sortedS rfl gs boot_sorted (pa_cons (pe_op op_cat (pe_callTy (call_listD rfl) rfl gl boot_list (pa_cons (pe_ix ix_tup (pv 0) pe_int (fun _ _ => rfl)) pa_nil)) (pe_callTy (call_listD rfl) rfl gl boot_list (pa_cons (pe_ix ix_tup (pv 0) pe_int (fun _ _ => rfl)) pa_nil))) pa_nil)))), ?_⟩
    obtain ⟨t, d, rfl, th, len, hQ⟩ := h
    obtain ⟨vl, dd, de, e1, e2, ⟨ks, k1, kp⟩, ⟨es, m1, mp⟩⟩ := th
    have kk := DD.keys kp fun _ _ r => r.1
    have mk := DD.keys mp fun _ _ r => r.1
    have all : (ks.map fun kv => kV kv.1) ++ (es.map fun kv => kV kv.1) = d.names.map V.str := by
      rw [kk, mk]
      unfold ThD.names
      rw [List.map_append, List.map_map, List.map_map]
      rfl
    refine ⟨.ref t, rfl, t, _, 2, .ref dd, rfl, rfl, .inl (.inl e1), rfl, dd, ks, rfl, .inl k1, fun p np => ?_⟩
    have x1 : Ex H (upd H p (.lst (ks.map fun kv => kV kv.1))) := Ex.new np
    have h1 : upd H p (.lst (ks.map fun kv => kV kv.1)) p = _ := upd_same
    generalize upd H p (.lst (ks.map fun kv => kV kv.1)) = H1 at x1 h1 ⊢
    refine ⟨.ref t, rfl, t, _, 3, .ref de, rfl, rfl, .inl (.inl (x1 _ _ e1)), rfl, de, es, rfl, .inl (x1 _ _ m1), fun q nq => ?_⟩
    have x2 : Ex H1 (upd H1 q (.lst (es.map fun kv => kV kv.1))) := Ex.new nq
    have h2 : upd H1 q (.lst (es.map fun kv => kV kv.1)) q = _ := upd_same
    generalize upd H1 q (.lst (es.map fun kv => kV kv.1)) = H2 at x2 h2 ⊢
    refine ⟨p, q, _, _, rfl, rfl, x2 _ _ h1, h2, ?_, fun r nr => ?_⟩
    · rw [← List.length_append, all, List.length_map, sizeLine_eq]; omega
    rw [all]
    have x3 : Ex H (upd H2 r (.lst (d.names.map V.str))) := (x1.trans x2).trans (Ex.new nr)
    exact ⟨r, d.names, rfl, .inl (.inl upd_same), len, fun ys p pm so np => hQ p ys _ (x3.trans (Ex.new np)) (x3.none np) upd_same pm so⟩
theorem scLed : FnScope ["_law_parts", "_law_worth", "_law_name"] ["_law_parts", "_law_worth", "_law_name"] (defScope sLed) := ⟨rfl, rfl, rfl, by decide +kernel, rfl, by decide +kernel, by decide +kernel⟩
theorem ok_led (F : FnP K "_law_led" sLed f fd) : FnOk P w K mg base CX0 1 f fd ["_law_parts", "_law_worth", "_law_name"] spLed := by
  refine F.ok scLed (fun vs H Q E h => ?_) (fun cdv A outer s H vs Q E hr h => ?_)
  · obtain ⟨t, d, v, n, rfl, _⟩ := h
    rfl
  · have hu := hu_of hr
    refine ⟨_, PSs.nox (pss_one (ps_ret (pe_ifExp (pt_cmp (pc_din hu (pv 2) (pe_ix ix_tup (pv 0) pe_int (fun _ _ => rfl)))) (pe_dget hu (pe_dget hu (pe_ix ix_tup (pv 0) pe_int (fun _ _ => rfl)) (pv 2) (fun _ _ => rfl)) (pv 1) (fun _ _ => rfl))
      (pe_dget1 hu (pe_dget hu (pe_ix ix_tup (pv 0) pe_int (fun _ _ => rfl)) (pv 2) (fun _ _ => rfl)) (pv 1) ⟨rfl, rfl, rfl, rfl⟩)))), ?_⟩
    obtain ⟨t, d, v, n, rfl, th, way, hQ⟩ := h
    obtain ⟨vl, dd, de, e1, e2, ⟨ks, k1, kp⟩, ⟨es, m1, mp⟩⟩ := th
    refine ⟨.str n, rfl, .ref t, rfl, t, _, 2, .ref dd, rfl, rfl, .inl (.inl e1), rfl, dd, _, rfl, DGet.k (k := Sum.inr n) k1, _, rfl, ?_⟩
    unfold ThD.led at hQ
    rcases look_val kp n with ⟨a1, a2⟩ | ⟨l, b, a1, a2, a3⟩
    · rw [a1] at hQ
      dsimp only at hQ
      rw [a2]
      rcases way with ⟨l, z, _⟩ | ⟨_, so⟩
      · rw [a1] at z; cases z
      · rcases look_val mp n with ⟨b1, b2⟩ | ⟨l, b, b1, b2, b3⟩
        · rw [b1] at so; cases so
        · rw [b1] at hQ
          dsimp only at hQ
          refine ⟨.ref t, rfl, t, _, 3, .ref de, rfl, rfl, .inl (.inl e1), rfl, .str n, rfl, de, .ref b, rfl, b2 ▸ DGet.k (k := Sum.inr n) m1, b, rfl, .inl ⟨_, .inl b3⟩, .str v, rfl, _, DGet.k (k := Sum.inr v) b3, ?_⟩
          rw [lookL_val]
          cases q : lookL l v with
          | none => rw [q] at hQ; exact hQ
          | some x => rw [q] at hQ; exact hQ
    · rw [a1] at hQ
      dsimp only at hQ
      rw [a2]
      rcases way with ⟨l', z, so⟩ | ⟨z, _⟩
      · rw [a1] at z
        cases z
        obtain ⟨x, ex⟩ := Option.isSome_iff_exists.mp so
        have q : valV (ldV l) (Sum.inr v) = some (.str x) := by rw [lookL_val, ex]; rfl
        refine ⟨.ref t, rfl, t, _, 2, .ref dd, rfl, rfl, .inl (.inl e1), rfl, .str n, rfl, dd, .ref b, rfl, a2 ▸ DGet.k (k := Sum.inr n) k1, .str v, rfl, b, .str x, rfl, q ▸ DGet.k (k := Sum.inr v) a3, ?_⟩
        rw [ex] at hQ
        exact hQ
      · rw [a1] at z; cases z
end
end TH

/-! A15: _law_thing -/
namespace TH
open PySem PySem.Spec PyProof.Rows L2 LamV LamX XK0
abbrev sThing : Stmt := top 44
def rDictP (K : PySem.W.Frag) : List V → Hp → VK → Prop := fun xs H Q => ∃ (a : Addr) (ps : List Addr) (kvs : List (Key × V)), xs = [.ref a] ∧ SqL K H a (ps.map V.ref) ∧ Paired (fun p kv => SqT K H p [kV kv.1, kv.2]) ps kvs ∧ ∀ p, H p = none → Q (.ref p) (upd H p (.dK (mergeK [] kvs)))
theorem call_dictPK {X : Cx} (hc : X.calm = true) : CallR X (.type "dict") (rDictP X.K) := call_dictP hc
theorem cut_take (xs : List V) (k : Nat) : cutV xs none (some (k : Int)) = xs.take k := by
  unfold cutV
  rw [HT.sIx_none, HT.sIx_nat, List.drop_zero, Nat.sub_zero]
  by_cases h : k ≤ xs.length
  · rw [Nat.min_eq_left h]
  · rw [Nat.min_eq_right (by omega), List.take_of_length_le (Nat.le_refl _), List.take_of_length_le (by omega)]
/-- what is no list stands while only the spring is changed -/
theorem ExS.non {sp l b : Addr} {H H' : Hp} {n : Nat} {o : HO} (x : ExS sp l H H') (s : Spr H sp l n) (h : H b = some o) (no : ∀ xs, o ≠ .lst xs) : H' b = some o := by
  obtain ⟨ns, a, m, s⟩ := s
  exact x b o (fun z => by rw [z, s.hs] at h; exact no _ (Option.some.inj h).symm) (fun z => by rw [z, s.hl] at h; exact no _ (Option.some.inj h).symm) h
theorem Spr.new {H : Hp} {sp l p : Addr} {n : Nat} {o : HO} (s : Spr H sp l n) (h : H p = none) : Spr (upd H p o) sp l n := s.ex (Ex.new h)
theorem Spr.off {H : Hp} {sp l p : Addr} {n : Nat} (s : Spr H sp l n) (h : H p = none) : p ≠ sp ∧ p ≠ l := by
  obtain ⟨ns, a, m, s⟩ := s
  exact ⟨fun z => (by rw [z, s.hs] at h; cases h), fun z => (by rw [z, s.hl] at h; cases h)⟩
theorem Spr.put {H : Hp} {sp l p : Addr} {n : Nat} {o : HO} (s : Spr H sp l n) (h : p ≠ sp ∧ p ≠ l) : Spr (upd H p o) sp l n := by
  obtain ⟨ns, a, m, s⟩ := s
  exact ⟨ns, a, m, (upd_ne h.1.symm).trans s.hs, (upd_ne h.2.symm).trans s.hl, s.ne, s.a0, s.m0, s.m1⟩
theorem DD.exS {sp l : Addr} {H H' : Hp} {n : Nat} {a : Addr} {ls : Lds} (x : ExS sp l H H') (s : Spr H sp l n) (h : DD H a ls) : DD H' a ls := by
  obtain ⟨kvs, e, p⟩ := h
  exact ⟨kvs, x.non s e (fun _ z => nomatch z), Paired.mapP p fun _ _ ⟨e1, b, e2, e3⟩ => ⟨e1, b, e2, x.non s e3 (fun _ z => nomatch z)⟩⟩
/-! ### dict([(worth, _law_one(spring, values)) for worth in ks]) -/
theorem putK_fresh {kvs : List (Key × V)} {k : Key} {v : V} (h : k ∉ kvs.map (·.1)) : putK kvs k v = kvs ++ [(k, v)] := by
  refine putK_new _ ?_
  induction kvs with
  | nil => rfl
  | cons p r ih =>
    simp only [List.map_cons, List.mem_cons, not_or] at h
    rw [valV_neg fun z => h.1 z.symm]
    exact ih h.2
theorem merge_nd : ∀ (more kvs : List (Key × V)), ((kvs ++ more).map (·.1)).Nodup → mergeK kvs more = kvs ++ more
  | [], kvs, _ => (List.append_nil _).symm
  | p :: r, kvs, h => by
    show mergeK (putK kvs p.1 p.2) r = _
    have e : p.1 ∉ kvs.map (·.1) := fun z => by
      rw [List.map_append, List.map_cons] at h
      exact (List.nodup_append.mp h).2.2 _ z _ List.mem_cons_self rfl
    rw [putK_fresh e, merge_nd r (kvs ++ [(p.1, p.2)]) (by simpa using h)]
    simp
theorem keys_nd {ld : Ld} (h : (ld.map (·.1)).Nodup) : ((ldV ld).map (·.1)).Nodup := by
  have e : (ldV ld).map (·.1) = (ld.map (·.1)).map Sum.inr := by
    unfold ldV
    rw [List.map_map, List.map_map]
    rfl
  rw [e]
  refine List.pairwise_map.mpr (List.Pairwise.imp (fun z q => z (Sum.inr.inj q)) h)
def tDO (K : PySem.W.Frag) (i : Nat) : TE := tCB (rDictP K) (tCons (tLc (iList K (tVar i)) (gName 8) tYes (tTup (tCons (tVar 8) (tCons (tCall spOne [] E0 (tCons (tVar 0) (tCons (tVar 3) tNil))) tNil))) [8]) tNil)
/-- at each turn: the pairs so far -/
def DOInv (H : Hp) (sp l D : Addr) (n : Nat) (ks vals : List Str) (i : Nat) (H2 : Hp) : Prop := ∃ (ps : List Addr) (ld : Ld), ExS sp l H H2 ∧ Spr H2 sp l (n + i) ∧ H2 D = some (.lst (ps.map V.ref)) ∧ ld.map (·.1) = ks.take i ∧ (∀ q ∈ ld, q.2 ∈ vals) ∧ ps.length = i ∧ Paired (fun p kv => H2 p = some (.tup [kV kv.1, kv.2])) ps (ldV ld)
theorem paired_app {α β : Type} {R : α → β → Prop} : ∀ {l : List α} {r : List β} {a : α} {b : β}, Paired R l r → R a b → Paired R (l ++ [a]) (r ++ [b])
  | _, _, _, _, .nil, h => .cons h .nil
  | _, _, _, _, .cons x q, h => .cons x (paired_app q h)
theorem dictOne_go {K : PySem.W.Frag} {σ : L2.St} {H : Hp} {Q : VK} {sp l va ka : Addr} {n i : Nat} {vals ks : List Str} (len : σ.length = 9) (s0 : σ[0]? = some (some (.ref sp))) (s3 : σ[3]? = some (some (.ref va))) (si : σ[i]? = some (some (.ref ka))) (S : Spr H sp l n) (hn : n + ks.length < 1000000)
    (hv : H va = some (.lst (vals.map V.str))) (v1 : va ≠ sp ∧ va ≠ l) (hk : H ka = some (.lst (ks.map V.str))) (k1 : ka ≠ sp ∧ ka ≠ l) (ne : vals ≠ []) (vl : vals.length ≤ 100) (kl : ks.length ≤ 100) (nd : ks.Nodup)
    (hQ : ∀ (ld : Ld) (p : Addr) (H' : Hp), ld.map (·.1) = ks → (∀ q ∈ ld, q.2 ∈ vals) → ExS sp l H H' → Spr H' sp l (n + ks.length) → H p = none → H' p = some (.dK (ldV ld)) → Q (.ref p) H') : tDO K i σ H Q := by
  refine ⟨.ref ka, si, ka, rfl, ⟨_, .inl (.inl hk)⟩, fun D nD => ?_⟩
  have d1 := S.off nD
  have keepL : ∀ {H2 : Hp} {b : Addr} {xs : List V}, ExS sp l H H2 → H b = some (.lst xs) → b ≠ sp ∧ b ≠ l → H2 b = some (.lst xs) := fun x h q => x _ _ q.1 q.2 h
  refine lc_list (K := K) (xs := ks.map V.str) (DOInv H sp l D n ks vals) ⟨[], [], (Ex.new nD).exS, S.new nD, upd_same, rfl, fun q m => (nomatch m), rfl, .nil⟩ (fun i H2 _ ⟨ps, ld, x, _⟩ => .inl (.inl (keepL x hk k1))) (fun i v H2 hv2 h => ?_) fun H2 h => ?_
  · obtain ⟨ps, ld, x2, S2, hD, lk, lv, pl, pr⟩ := h
    rw [List.getElem?_map] at hv2
    obtain ⟨w, ew, rfl⟩ := Option.map_eq_some_iff.mp hv2
    have ilt : i < ks.length := (List.getElem?_eq_some_iff.mp ew).1
    have a8 : (((wipe σ [8]).set 8 (some (V.str w))))[8]? = some (some (V.str w)) := List.getElem?_set_self (by rw [wipe_length, len]; decide)
    have a0 : (((wipe σ [8]).set 8 (some (V.str w))))[0]? = some (some (V.ref sp)) := by
      rw [List.getElem?_set_ne (by decide)]
      exact (List.getElem?_set_ne (by decide)).trans s0
    have a3 : (((wipe σ [8]).set 8 (some (V.str w))))[3]? = some (some (V.ref va)) := by
      rw [List.getElem?_set_ne (by decide)]
      exact (List.getElem?_set_ne (by decide)).trans s3
    refine ⟨?_, ?_⟩
    · show ((σ.set 8 none).set 8 (some (V.str w))).set 8 none = σ.set 8 none
      rw [List.set_set, List.set_set]
    refine ⟨.str w, a8, .ref sp, a0, .ref va, a3, sp, l, va, n + i, vals.map V.str, rfl, S2, by omega, v1.1, v1.2, keepL x2 hv v1, by simpa using ne, by rw [List.length_map]; omega, fun y H3 my x3 S3 => ?_⟩
    obtain ⟨g, mg, rfl⟩ := List.mem_map.mp my
    refine ⟨by show 2 ≤ sizeLine; decide, fun p np => ?_⟩
    have hD3 : H3 D = some (.lst (ps.map V.ref)) := x3 _ _ d1.1 d1.2 hD
    have pD : p ≠ D := fun z => by rw [z, hD3] at np; cases np
    have p1 := S3.off np
    refine ⟨ps.map V.ref, (upd_ne pD.symm).trans hD3, by rw [sizeLine_eq, List.length_map]; omega, ps ++ [p], ld ++ [(w, g)], ?_, (S3.new np).put d1, ?_, ?_, ?_, ?_, ?_⟩
    · intro b o b1 b2 e
      have bp : b ≠ p := fun z => by rw [z] at e; rw [x3 _ _ p1.1 p1.2 (x2 _ _ p1.1 p1.2 e)] at np; cases np
      have bD : b ≠ D := fun z => by rw [z, nD] at e; cases e
      exact (upd_ne bD).trans ((upd_ne bp).trans (x3 _ _ b1 b2 (x2 _ _ b1 b2 e)))
    · rw [upd_same, List.map_append]
      rfl
    · rw [List.map_append, lk, List.take_add_one, ew]
      rfl
    · intro q hq
      rcases List.mem_append.mp hq with z | z
      · exact lv q z
      · rw [List.mem_singleton.mp z]; exact mg
    · rw [List.length_append, pl]
      rfl
    · unfold ldV
      rw [List.map_append]
      refine paired_app (Paired.mapP pr fun b kv e => ?_) ?_
      · have e3 : H3 b = some (.tup [kV kv.1, kv.2]) := x3.non S2 e fun _ z => nomatch z
        have n1 : b ≠ p := fun z => by rw [z, np] at e3; cases e3
        have n2 : b ≠ D := fun z => by rw [z, hD3] at e3; cases e3
        exact (upd_ne n2).trans ((upd_ne n1).trans e3)
      · exact (upd_ne pD).trans upd_same
  · obtain ⟨ps, ld, x2, S2, hD, lk, lv, pl, pr⟩ := h
    rw [List.length_map] at lk pl S2
    rw [List.take_length] at lk
    have nd2 : (ld.map (·.1)).Nodup := lk ▸ nd
    refine ⟨D, ps, ldV ld, rfl, .inl (.inl hD), Paired.mapP pr fun p kv e => .inl (.inl e), fun p np => ?_⟩
    have em : mergeK [] (ldV ld) = ldV ld := merge_nd _ _ (keys_nd nd2)
    rw [em]
    have p1 := S2.off np
    exact hQ ld p _ lk lv (x2.trans (Ex.new np).exS) (S2.new np) (x2.none (n := 0) S2 np) upd_same
end TH

/-! A16: _law_thing -/
namespace TH
open PySem PySem.Spec PyProof.Rows L2 LamV LamX XK0
def valN : List Str := ["a", "b", "c", "d"]
def deedN : List Str := ["p", "q"]
def entN : List Str := ["e", "g", "h"]
/-- right parts -/
structure ThD.Good (d : ThD) : Prop where
  vals : ∃ k, 2 ≤ k ∧ k ≤ 4 ∧ d.vals = valN.take k
  start : d.start ∈ d.vals
  dn : ∃ k, k ≤ 2 ∧ d.deeds.map (·.1) = deedN.take k
  en : ∃ k, 1 ≤ k ∧ k ≤ 3 ∧ d.ents.map (·.1) = entN.take k
  dl : ∀ p ∈ d.deeds, p.2.map (·.1) = d.vals ∧ ∀ q ∈ p.2, q.2 ∈ d.vals
  el : ∀ p ∈ d.ents, (p.2.map (·.1)).Nodup ∧ (∀ q ∈ p.2, q.1 ∈ d.vals) ∧ ∀ q ∈ p.2, q.2 ∈ d.vals
/-- the parts, their list of values is none of the spring's -/
def IsPtS (sp l : Addr) (H : Hp) (pt : Addr) (d : ThD) : Prop := ∃ vl dd de, H pt = some (.tup [.ref vl, .str d.start, .ref dd, .ref de]) ∧ H vl = some (.lst (d.vals.map V.str)) ∧ (vl ≠ sp ∧ vl ≠ l) ∧ DD H dd d.deeds ∧ DD H de d.ents
theorem IsPtS.pt {sp l : Addr} {H : Hp} {pt : Addr} {d : ThD} (h : IsPtS sp l H pt d) : IsPt H pt d := by
  obtain ⟨vl, dd, de, e1, e2, _, e3, e4⟩ := h
  exact ⟨vl, dd, de, e1, e2, e3, e4⟩
def spThing : Sp := fun vs H Q _ => ∃ (sp l : Addr) (n : Nat) (most many : Int), vs = [.ref sp, .int most, .int many] ∧ Spr H sp l n ∧ n + 200 < 1000000 ∧ 2 ≤ most ∧ most ≤ 4 ∧ 1 ≤ many ∧ many ≤ 3 ∧
  ∀ (pt : Addr) (d : ThD) (m : Nat) (H' : Hp), d.Good → m ≤ n + 100 → ExS sp l H H' → Spr H' sp l m → H pt = none → IsPtS sp l H' pt d → Q (.ref pt) H'
/-- dict([(name, dict([..])) for name in ..]) -/
def tDDs (K : PySem.W.Frag) (tl : TE) : TE := tCB (rDictP K) (tCons (tLc (iList K tl) (gName 4) tYes (tTup (tCons (tVar 4) (tCons (tDO K 3) tNil))) [4]) tNil)
def PR (H : Hp) (lds : Lds) (kvs : List (Key × V)) : Prop := Paired (fun (l : Str × Ld) (kv : Key × V) => kv.1 = Sum.inr l.1 ∧ ∃ b, kv.2 = .ref b ∧ H b = some (.dK (ldV l.2))) lds kvs
theorem PR.keys {H : Hp} {lds : Lds} {kvs : List (Key × V)} (p : PR H lds kvs) : kvs.map (·.1) = (lds.map (·.1)).map Sum.inr := by
  induction p with
  | nil => rfl
  | cons r _ ih =>
    simp only [List.map_cons] at ih ⊢
    rw [ih, r.1]
theorem nd_inr {xs : List Str} (h : xs.Nodup) : (xs.map (Sum.inr : Str → Key)).Nodup := List.pairwise_map.mpr (List.Pairwise.imp (fun z q => z (Sum.inr.inj q)) h)
def DInv (H : Hp) (sp l D : Addr) (n : Nat) (names vals : List Str) (i : Nat) (H2 : Hp) : Prop := ∃ (ps : List Addr) (lds : Lds) (kvs : List (Key × V)), ExS sp l H H2 ∧ Spr H2 sp l (n + i * vals.length) ∧ H2 D = some (.lst (ps.map V.ref)) ∧ ps.length = i ∧ lds.map (·.1) = names.take i ∧
  (∀ p ∈ lds, p.2.map (·.1) = vals ∧ ∀ q ∈ p.2, q.2 ∈ vals) ∧ Paired (fun p kv => H2 p = some (.tup [kV kv.1, kv.2])) ps kvs ∧ PR H2 lds kvs
theorem deeds_go {K : PySem.W.Frag} {tl : TE} {σ : L2.St} {H : Hp} {Q : VK} {sp l va : Addr} {n : Nat} {vals : List Str} (len : σ.length = 9) (s0 : σ[0]? = some (some (.ref sp))) (s3 : σ[3]? = some (some (.ref va))) (S : Spr H sp l n) (hn : n + 100 < 1000000)
    (hv : H va = some (.lst (vals.map V.str))) (v1 : va ≠ sp ∧ va ≠ l) (ne : vals ≠ []) (vl : vals.length ≤ 4) (nd : vals.Nodup)
    (htl : ∀ Q, (∀ k ka H1, k ≤ 2 → ExS sp l H H1 → Spr H1 sp l (n + 1) → H ka = none → H1 ka = some (.lst ((deedN.take k).map V.str)) → Q (V.ref ka) H1) → tl σ H Q)
    (hQ : ∀ (lds : Lds) (p : Addr) (H' : Hp) (k m : Nat), k ≤ 2 → m ≤ n + 9 → lds.map (·.1) = deedN.take k → (∀ p ∈ lds, p.2.map (·.1) = vals ∧ ∀ q ∈ p.2, q.2 ∈ vals) → ExS sp l H H' → Spr H' sp l m → H p = none → DD H' p lds → Q (.ref p) H') : tDDs K tl σ H Q := by
  refine htl _ fun k ka H1 hk x1 S1 nka hka => ?_
  have k1 := S.off nka
  refine ⟨ka, rfl, ⟨_, .inl (.inl hka)⟩, fun D nD => ?_⟩
  have d1 := S1.off nD
  have nDH : H D = none := x1.none (n := 0) S1 nD
  have ndn : (deedN.take k).Nodup := (List.take_sublist k deedN).nodup (by decide)
  have kl : (deedN.take k).length = k := by rw [List.length_take]; exact Nat.min_eq_left hk
  refine lc_list (K := K) (xs := (deedN.take k).map V.str) (DInv H1 sp l D (n + 1) (deedN.take k) vals) ⟨[], [], [], (Ex.new nD).exS, by rw [Nat.zero_mul]; exact S1.new nD, upd_same, rfl, rfl, fun q m => (nomatch m), .nil, .nil⟩ (fun i H2 _ ⟨ps, ld, kvs, x, _⟩ => .inl (.inl (x _ _ k1.1 k1.2 hka))) (fun i v H2 hv2 h => ?_) fun H2 h => ?_
  · obtain ⟨ps, lds, kvs, x2, S2, hD, pl, lk, lv, pr, pr2⟩ := h
    rw [List.getElem?_map] at hv2
    obtain ⟨w, ew, rfl⟩ := Option.map_eq_some_iff.mp hv2
    have ilt : i < k := by
      have := (List.getElem?_eq_some_iff.mp ew).1
      omega
    have bd : i * vals.length ≤ 2 * 4 := Nat.mul_le_mul (by omega) vl
    have a4 : (((wipe σ [4]).set 4 (some (V.str w))))[4]? = some (some (V.str w)) := List.getElem?_set_self (by rw [wipe_length, len]; decide)
    have a0 : (((wipe σ [4]).set 4 (some (V.str w))))[0]? = some (some (V.ref sp)) := by
      rw [List.getElem?_set_ne (by decide)]
      exact (List.getElem?_set_ne (by decide)).trans s0
    have a3 : (((wipe σ [4]).set 4 (some (V.str w))))[3]? = some (some (V.ref va)) := by
      rw [List.getElem?_set_ne (by decide)]
      exact (List.getElem?_set_ne (by decide)).trans s3
    refine ⟨?_, ?_⟩
    · show ((σ.set 4 none).set 4 (some (V.str w))).set 4 none = σ.set 4 none
      rw [List.set_set, List.set_set]
    have hv1 := x1 _ _ v1.1 v1.2 hv
    have hv22 := x2 _ _ v1.1 v1.2 hv1
    refine ⟨.str w, a4, dictOne_go (by rw [List.length_set, wipe_length]; exact len) a0 a3 a3 S2 (by omega) hv22 v1 hv22 v1 ne (by omega) (by omega) nd fun ld b H3 k3 m3 x3 S3 nb hb => ?_⟩
    refine ⟨by show 2 ≤ sizeLine; decide, fun p np => ?_⟩
    have hD3 : H3 D = some (.lst (ps.map V.ref)) := x3 _ _ d1.1 d1.2 hD
    have pD : p ≠ D := fun z => by rw [z, hD3] at np; cases np
    have p1 := S3.off np
    have bp : b ≠ p := fun z => by rw [z, np] at hb; cases hb
    have bD : b ≠ D := fun z => by rw [z, hD3] at hb; cases hb
    refine ⟨ps.map V.ref, (upd_ne pD.symm).trans hD3, by rw [sizeLine_eq, List.length_map]; omega, ps ++ [p], lds ++ [(w, ld)], kvs ++ [(.inr w, .ref b)], ?_, ?_, ?_, by rw [List.length_append, pl]; rfl, ?_, ?_, ?_, ?_⟩
    · intro c o c1 c2 e
      have cp : c ≠ p := fun z => by rw [z] at e; rw [x3 _ _ p1.1 p1.2 (x2 _ _ p1.1 p1.2 e)] at np; cases np
      have cD : c ≠ D := fun z => by rw [z, nD] at e; cases e
      exact (upd_ne cD).trans ((upd_ne cp).trans (x3 _ _ c1 c2 (x2 _ _ c1 c2 e)))
    · rw [Nat.succ_mul, ← Nat.add_assoc]
      exact (S3.new np).put d1
    · rw [upd_same, List.map_append]
      rfl
    · rw [List.map_append, lk, List.take_add_one, ew]
      rfl
    · intro q hq
      rcases List.mem_append.mp hq with z | z
      · exact lv q z
      · rw [List.mem_singleton.mp z]; exact ⟨k3, m3⟩
    · refine paired_app (Paired.mapP pr fun b kv e => ?_) ((upd_ne pD).trans upd_same)
      have e3 : H3 b = some (.tup [kV kv.1, kv.2]) := x3.non S2 e fun _ z => nomatch z
      have n1 : b ≠ p := fun z => by rw [z, np] at e3; cases e3
      have n2 : b ≠ D := fun z => by rw [z, hD3] at e3; cases e3
      exact (upd_ne n2).trans ((upd_ne n1).trans e3)
    · refine paired_app (Paired.mapP pr2 fun l' kv ⟨e1, b', e2, e3⟩ => ⟨e1, b', e2, ?_⟩) ⟨rfl, b, rfl, (upd_ne bD).trans ((upd_ne bp).trans hb)⟩
      have e3 := x3.non S2 e3 fun _ z => nomatch z
      have n1 : b' ≠ p := fun z => by rw [z, np] at e3; cases e3
      have n2 : b' ≠ D := fun z => by rw [z, hD3] at e3; cases e3
      exact (upd_ne n2).trans ((upd_ne n1).trans e3)
  · obtain ⟨ps, lds, kvs, x2, S2, hD, pl, lk, lv, pr, pr2⟩ := h
    rw [List.length_map] at lk pl S2
    rw [List.take_length] at lk
    rw [kl] at S2
    have bd : k * vals.length ≤ 2 * 4 := Nat.mul_le_mul hk vl
    refine ⟨D, ps, kvs, rfl, .inl (.inl hD), Paired.mapP pr fun p kv e => .inl (.inl e), fun p np => ?_⟩
    have em : mergeK [] kvs = kvs := merge_nd _ _ (by rw [List.nil_append, pr2.keys, lk]; exact nd_inr ndn)
    rw [em]
    have p1 := S2.off np
    have x3 : ExS sp l H (upd H2 p (.dK kvs)) := (x1.trans x2).trans (Ex.new np).exS
    refine hQ lds p _ k _ hk (by omega) lk lv x3 (S2.new np) ((x1.trans x2).none (n := 0) S2 np) ⟨kvs, upd_same, Paired.mapP pr2 fun l' kv ⟨e1, b', e2, e3⟩ => ⟨e1, b', e2, ?_⟩⟩
    exact (Ex.new np) _ _ e3
end TH

/-! A17: _law_thing, the def -/
namespace TH
open PySem PySem.Spec PyProof.Rows L2 LamV LamX XK0
theorem perm_strs {ys : List V} {ks : List Str} (h : ys.Perm (ks.map V.str)) : ∃ zs : List Str, ys = zs.map V.str ∧ zs.Perm ks := by
  have e : ∃ zs : List Str, ys = zs.map V.str := by
    have all : ∀ y ∈ ys, ∃ z, y = V.str z := fun y m => by
      obtain ⟨z, _, e⟩ := List.mem_map.mp (h.mem_iff.mp m)
      exact ⟨z, e.symm⟩
    clear h
    induction ys with
    | nil => exact ⟨[], rfl⟩
    | cons y r ih =>
      obtain ⟨z, rfl⟩ := all y List.mem_cons_self
      obtain ⟨zs, rfl⟩ := ih fun y m => all y (List.mem_cons_of_mem _ m)
      exact ⟨z :: zs, rfl⟩
  obtain ⟨zs, rfl⟩ := e
  refine ⟨zs, rfl, ?_⟩
  have := h.filterMap fun v => match v with | .str z => some z | _ => none
  rw [List.filterMap_map, List.filterMap_map] at this
  have id : ∀ l : List Str, l.filterMap ((fun v => match v with | V.str z => some z | _ => none) ∘ V.str) = l := fun l => by
    induction l with
    | nil => rfl
    | cons a r ih => rw [List.filterMap_cons]; simp only [Function.comp]; exact congrArg _ ih
  rwa [id, id] at this
/-- at each turn of the for -/
def EInv (H : Hp) (sp l va dd de na : Addr) (n : Nat) (most many : Int) (names vals : List Str) (i : Nat) (σ : L2.St) (H2 : Hp) : Prop := ∃ (o4 o7 : Option V) (lds : Lds) (kvs : List (Key × V)) (m : Nat), σ = [some (.ref sp), some (.int most), some (.int many), some (.ref va), o4, some (.ref dd), some (.ref de), o7, none] ∧
  ExS sp l H H2 ∧ H2 na = some (.lst (names.map V.str)) ∧ Spr H2 sp l m ∧ m ≤ n + i * 9 ∧ H2 de = some (.dK kvs) ∧ Paired (fun (l : Str × Ld) (kv : Key × V) => kv.1 = Sum.inr l.1 ∧ ∃ b, kv.2 = .ref b ∧ b ≠ de ∧ H2 b = some (.dK (ldV l.2))) lds kvs ∧ lds.map (·.1) = names.take i ∧ ∀ p ∈ lds, (p.2.map (·.1)).Nodup ∧ (∀ q ∈ p.2, q.1 ∈ vals) ∧ ∀ q ∈ p.2, q.2 ∈ vals
section
variable {P : Program} {w : World} {K : PySem.W.Frag} {mg : Str → Option Value} {base : Heap} {f : Addr} {fd : FuncData}
theorem scThing : FnScope ["_law_spring_here", "_law_most", "_law_many", "_law_values", "_law_name", "_law_deeds", "_law_entries", "_law_some", "_law_worth"] ["_law_spring_here", "_law_most", "_law_many"] (defScope sThing) := ⟨rfl, rfl, rfl, by decide +kernel, rfl, by decide +kernel, by decide +kernel⟩
theorem ok_thing (F : FnP K "_law_thing" sThing f fd) (FT : Has P w K mg base "_law_take" 1 ["_law_spring_here", "_law_many"] spTake) (FO : Has P w K mg base "_law_one" 2 ["_law_spring_here", "_law_things"] spOne) (FM : Has P w K mg base "_law_mix" 2 ["_law_spring_here", "_law_things"] (spMix K)) (gn : mg "len" = none) (gd : mg "dict" = none) :
    FnOk P w K mg base CX0 3 f fd ["_law_spring_here", "_law_most", "_law_many"] spThing := by
  refine F.ok scThing (fun vs H Q E h => ?_) (fun cdv A outer s H vs Q E hr h => ?_)
  · obtain ⟨sp, l, n, most, many, rfl, _⟩ := h
    rfl
  · have hu := hu_of hr
    refine ⟨_, PSs.nox (pss_cons (ps_set (i := 3) scThing.nd rfl (.inr rfl) (pe_slice sl_list (pe_lst (pa_cons pe_str (pa_cons pe_str (pa_cons pe_str (pa_cons pe_str pa_nil))))) po_none (po_some (pe_op op_add pe_int (pe_has FT hr (by decide) rfl (pa_cons (pv 0) (pa_cons (pe_op op_sub (pv 1) pe_int) pa_nil)))))))
      (pss_cons (ps_set (i := 5) scThing.nd rfl (.inl rfl) (pe_callTy (call_dictPK rfl) rfl gd boot_dict (pa_cons (pe_lc (te := tTup (tCons (tVar 4) (tCons (tDO K 3) tNil))) (own := [("_law_name", 4)]) rfl scThing.nd (pi_list (pe_slice sl_list (pe_lst (pa_cons pe_str (pa_cons pe_str pa_nil))) po_none (po_some (pe_has FT hr (by decide) rfl (pa_cons (pv 0) (pa_cons pe_int pa_nil)))))) (blkOk_by (by kernel_rfl)) (fun s H C cl fp => pg_name (i := 4) scThing.nd rfl (.inl rfl) (.inr rfl)) (fun s H C cl fp => pts_nil)
          (fun s H C cl fp => pe_tup (pa_cons (pv 4) (pa_cons (pe_callTy (call_dictPK rfl) rfl gd boot_dict (pa_cons (pe_lc (te := tTup (tCons (tVar 8) (tCons (tCall spOne [] E0 (tCons (tVar 0) (tCons (tVar 3) tNil))) tNil))) (own := [("_law_worth", 8)]) rfl scThing.nd (pi_list (pv 3)) (blkOk_by (by kernel_rfl)) (fun s H C cl fp => pg_name (i := 8) scThing.nd rfl (.inl rfl) (.inr rfl)) (fun s H C cl fp => pts_nil)
            (fun s H C cl fp => pe_tup (pa_cons (pv 8) (pa_cons (pe_has FO hr (by decide) rfl (pa_cons (pv 0) (pa_cons (pv 3) pa_nil))) pa_nil)))) pa_nil)) pa_nil)))) pa_nil)))
      (pss_cons (ps_set (i := 6) scThing.nd rfl (.inl rfl) pe_dnewK)
      (pss_cons (ps_for PassesOwn.never rfl (pi_list (pe_slice sl_list (pe_lst (pa_cons pe_str (pa_cons pe_str (pa_cons pe_str pa_nil)))) po_none (po_some (pe_op op_add pe_int (pe_has FT hr (by decide) rfl (pa_cons (pv 0) (pa_cons (pv 2) pa_nil))))))) (pg_name (i := 4) scThing.nd rfl (.inl rfl))
        (pss_cons (ps_set (i := 7) scThing.nd rfl (.inl rfl) (pe_slice sl_list (pe_has FM hr (by decide) rfl (pa_cons (pv 0) (pa_cons (pv 3) pa_nil))) po_none (po_some (pe_has FT hr (by decide) rfl (pa_cons (pv 0) (pa_cons (pe_op op_add (pe_callB call_len rfl gn boot_len (pa_cons (pv 3) pa_nil)) pe_int) pa_nil))))))
        (pss_one (ps_dput hu (pv 6) (pv 4) (pe_callTy (call_dictPK rfl) rfl gd boot_dict (pa_cons (pe_lc (te := tTup (tCons (tVar 8) (tCons (tCall spOne [] E0 (tCons (tVar 0) (tCons (tVar 3) tNil))) tNil))) (own := [("_law_worth", 8)]) rfl scThing.nd (pi_list (pv 7)) (blkOk_by (by kernel_rfl)) (fun s H C cl fp => pg_name (i := 8) scThing.nd rfl (.inl rfl) (.inr rfl)) (fun s H C cl fp => pts_nil)
            (fun s H C cl fp => pe_tup (pa_cons (pv 8) (pa_cons (pe_has FO hr (by decide) rfl (pa_cons (pv 0) (pa_cons (pv 3) pa_nil))) pa_nil)))) pa_nil)) rfl))))
      (pss_one (ps_ret (pe_tup (pa_cons (pv 3) (pa_cons (pe_has FO hr (by decide) rfl (pa_cons (pv 0) (pa_cons (pv 3) pa_nil))) (pa_cons (pv 5) (pa_cons (pv 6) pa_nil)))))))))))
      , ?_⟩
    obtain ⟨sp, l, n, most, many, rfl, S, hn, m1, m2, y1, y2, hQ⟩ := h
    refine ⟨by show 4 ≤ sizeLine; decide, fun a0 na0 => ?_⟩
    have x0 : Ex H (upd H a0 (.lst (valN.map V.str))) := Ex.new na0
    refine ⟨.ref sp, rfl, .int most, rfl, most, 1, rfl, rfl, sp, l, most - 1, n, rfl, S.ex x0, by omega, by omega, by omega, fun k H1 hk x1 S1 => ⟨2, k, rfl, rfl, _, rfl, a0, valN.map V.str, rfl, ?_, fun va nva => ?_⟩⟩
    · exact .inl (.inl (x1 _ _ (S.off na0).1 (S.off na0).2 upd_same))
    have k4 : 2 + k ≤ 4 := by omega
    have ek : (2 : Int) + (k : Int) = ((2 + k : Nat) : Int) := by omega
    have ec : cutV (valN.map V.str) none (some (2 + (k : Int))) = ((valN.take (2 + k)).map V.str) := by rw [ek, cut_take, List.map_take]
    have v1 := S1.off nva
    have x2 : ExS sp l H (upd H1 va (.lst (cutV (valN.map V.str) none (some (2 + (k : Int)))))) := (x0.exS.trans x1).trans (Ex.new nva).exS
    have S2 : Spr (upd H1 va (.lst (cutV (valN.map V.str) none (some (2 + (k : Int)))))) sp l (n + 1) := S1.new nva
    have hva : upd H1 va (.lst (cutV (valN.map V.str) none (some (2 + (k : Int))))) va = some (.lst ((valN.take (2 + k)).map V.str)) := by rw [upd_same, ec]
    generalize upd H1 va (.lst (cutV (valN.map V.str) none (some (2 + (k : Int))))) = H2 at x2 S2 hva ⊢
    have vlen : (valN.take (2 + k)).length = 2 + k := by rw [List.length_take]; exact Nat.min_eq_left k4
    have vnd : (valN.take (2 + k)).Nodup := (List.take_sublist _ valN).nodup (by decide)
    have ev : ∃ j, 2 ≤ j ∧ j ≤ 4 ∧ valN.take (2 + k) = valN.take j := ⟨2 + k, by omega, k4, rfl⟩
    clear x0 na0 ec ek x1 S1 nva
    generalize valN.take (2 + k) = vals at hva vlen vnd ev
    have vne : vals ≠ [] := fun z => by rw [z] at vlen; simp at vlen; omega
    show tDDs K (tSl (rSlL K) (tLst (tCons (tC (.str "p")) (tCons (tC (.str "q")) tNil))) tNoPart (tPart (tCall spTake [] E0 (tCons (tVar 0) (tCons (tC (.int 3)) tNil))))) [some (.ref sp), some (.int most), some (.int many), some (.ref va), none, none, none, none, none] H2 _
    refine deeds_go (σ := [some (.ref sp), some (.int most), some (.int many), some (.ref va), none, none, none, none, none]) (vals := vals) (n := n + 1) rfl rfl rfl S2 (by omega) hva v1 vne (by omega) vnd (fun Q q => ?_) fun lds dd H3 k3 n3 hk3 hn3 lk3 lv3 x3 S3 ndd hdd => ?_
    · refine ⟨by show 2 ≤ sizeLine; decide, fun a1 na1 => ?_⟩
      have x3 : Ex H2 (upd H2 a1 (.lst (deedN.map V.str))) := Ex.new na1
      refine ⟨.ref sp, rfl, sp, l, 3, n + 1, rfl, S2.ex x3, by omega, by omega, by omega, fun j H3 hj x4 S4 => ⟨j, rfl, a1, deedN.map V.str, rfl, ?_, fun ka nka => ?_⟩⟩
      · exact .inl (.inl (x4 _ _ (S2.off na1).1 (S2.off na1).2 upd_same))
      · have x5 := x3.exS.trans x4
        exact q j ka _ (by omega) (x5.trans (Ex.new nka).exS) (S4.new nka) (x5.none (n := 0) S4 nka) (by rw [upd_same, cut_take, List.map_take])
    have d1 : dd ≠ sp ∧ dd ≠ l := S2.off ndd
    intro de nde
    have x4 : Ex H3 (upd H3 de (.dK [])) := Ex.new nde
    have e1 := S3.off nde
    refine ⟨by show 3 ≤ sizeLine; decide, fun a2 na2 => ?_⟩
    have x5 : Ex H3 (upd (upd H3 de (.dK [])) a2 (.lst [V.str "e", V.str "g", V.str "h"])) := x4.trans (Ex.new na2)
    have hde5 : upd (upd H3 de (.dK [])) a2 (.lst [V.str "e", V.str "g", V.str "h"]) de = some (.dK []) := (Ex.new na2) _ _ upd_same
    have a21 := (S3.ex x4).off na2
    have ha2 : upd (upd H3 de (.dK [])) a2 (.lst [V.str "e", V.str "g", V.str "h"]) a2 = some (.lst (entN.map V.str)) := upd_same
    have S5 := S3.ex x5
    generalize upd (upd H3 de (.dK [])) a2 (.lst [V.str "e", V.str "g", V.str "h"]) = H5 at x5 hde5 ha2 S5 ⊢
    refine ⟨.ref sp, rfl, .int many, rfl, sp, l, many, n3, rfl, S5, by omega, by omega, by omega, fun j H6 hj x6 S6 => ⟨1, j, rfl, rfl, _, rfl, a2, entN.map V.str, rfl, .inl (.inl (x6 _ _ a21.1 a21.2 ha2)), fun na nna => ?_⟩⟩
    have j3 : 1 + j ≤ 3 := by omega
    have ej : cutV (entN.map V.str) none (some (1 + (j : Int))) = ((entN.take (1 + j)).map V.str) := by rw [show (1 : Int) + (j : Int) = ((1 + j : Nat) : Int) by omega, cut_take, List.map_take]
    rw [ej]
    have nnd : (entN.take (1 + j)).Nodup := (List.take_sublist _ entN).nodup (by decide)
    have nlen : (entN.take (1 + j)).length = 1 + j := by rw [List.length_take]; exact Nat.min_eq_left j3
    have en : ∃ k, 1 ≤ k ∧ k ≤ 3 ∧ entN.take (1 + j) = entN.take k := ⟨1 + j, by omega, j3, rfl⟩
    generalize entN.take (1 + j) = names at nnd nlen en ⊢
    have hde6 := x6.non S5 hde5 fun _ z => nomatch z
    have n1 := S6.off nna
    have naH : H3 na = none := (x5.exS.trans x6).none (n := 0) S6 nna
    refine ⟨na, rfl, ⟨_, .inl (.inl upd_same)⟩, for_list (K := K) (xs := names.map V.str) (EInv H3 sp l va dd de na (n3 + 1) most many names vals) ⟨none, none, [], [], n3 + 1, rfl, (x5.exS.trans x6).trans (Ex.new nna).exS, upd_same, S6.new nna, by omega, (Ex.new nna) _ _ hde6, .nil, rfl, fun p m => (nomatch m)⟩ (fun i σ H7 _ ⟨_, _, _, _, _, _, _, z, _⟩ => .inl (.inl z)) (fun i v σ H7 hv h => ?_) fun σ H7 h => ?_⟩
    · obtain ⟨o4, o7, elds, kvs, m, rfl, x7, hna, S7, hm, hde, pr, lk, lv⟩ := h
      rw [List.getElem?_map] at hv
      obtain ⟨w, ew, rfl⟩ := Option.map_eq_some_iff.mp hv
      have ilt : i < names.length := (List.getElem?_eq_some_iff.mp ew).1
      have hva3 := x3 _ _ v1.1 v1.2 hva
      have hva7 := x7 _ _ v1.1 v1.2 hva3
      refine ⟨.ref sp, rfl, .ref va, rfl, sp, l, va, m, vals.map V.str, rfl, S7, by rw [List.length_map]; omega, v1.1, v1.2, .inl (.inl (.inl hva7)), by rw [List.length_map]; omega, fun q ys H8 x8 S8 nq hq pm => ?_⟩
      obtain ⟨zs, rfl, pz⟩ := perm_strs pm
      rw [List.length_map] at S8
      have q1 := S7.off nq
      have hva8 := x8 _ _ v1.1 v1.2 hva7
      refine ⟨.ref sp, rfl, .ref va, rfl, .ref va, vals.length, rfl, .inl ⟨_, .inl (.inl hva8), by rw [List.length_map]⟩, vals.length, 1, rfl, rfl, sp, l, (vals.length : Int) + 1, m + vals.length, rfl, S8, by omega, by omega, by omega, fun c H9 hc x9 S9 => ⟨c, rfl, q, _, rfl, .inl (.inl (x9 _ _ q1.1 q1.2 hq)), fun so nso => ?_⟩⟩
      rw [cut_take, ← List.map_take]
      have s1 := S9.off nso
      have xA : ExS sp l H7 (upd H9 so (.lst ((zs.take c).map V.str))) := (x8.trans x9).trans (Ex.new nso).exS
      have hso : upd H9 so (.lst ((zs.take c).map V.str)) so = some (.lst ((zs.take c).map V.str)) := upd_same
      have SA : Spr (upd H9 so (.lst ((zs.take c).map V.str))) sp l (m + vals.length + 1) := S9.new nso
      generalize upd H9 so (.lst ((zs.take c).map V.str)) = HA at xA hso SA ⊢
      have znd : (zs.take c).Nodup := (List.take_sublist _ zs).nodup (pz.nodup_iff.mpr vnd)
      have zlen : (zs.take c).length ≤ vals.length := by rw [List.length_take, pz.length_eq]; exact Nat.min_le_right _ _
      have zsub : ∀ z ∈ zs.take c, z ∈ vals := fun z mz => pz.mem_iff.mp (List.mem_of_mem_take mz)
      refine dictOne_go (σ := [some (.ref sp), some (.int most), some (.int many), some (.ref va), some (.str w), some (.ref dd), some (.ref de), some (.ref so), none]) (i := 7) rfl rfl rfl rfl SA (by omega) (xA _ _ v1.1 v1.2 hva7) v1 hso s1 vne (by omega) (by omega) znd fun ld b HB kB mB xB SB nb hb => ?_
      have x7B := xA.trans xB
      have hdeB := x7B.non S7 hde fun _ z => nomatch z
      have ek : kvs.map (·.1) = (names.take i).map Sum.inr := by rw [PR.keys (H := H7) (Paired.mapP pr fun _ _ ⟨q1, b', q2, _, q3⟩ => ⟨q1, b', q2, q3⟩), lk]
      have fr : (Sum.inr w : Key) ∉ kvs.map (·.1) := fun z => by
        rw [ek] at z
        obtain ⟨u, mu, eu⟩ := List.mem_map.mp z
        cases eu
        have nn := List.nodup_append.mp (show (names.take i ++ names.drop i).Nodup by rw [List.take_append_drop]; exact nnd)
        refine nn.2.2 _ mu _ ?_ rfl
        obtain ⟨lt, e⟩ := List.getElem?_eq_some_iff.mp ew
        rw [List.drop_eq_getElem_cons lt, e]
        exact List.mem_cons_self
      have kvl : kvs.length ≤ 3 := by
        have := congrArg List.length ek
        rw [List.length_map, List.length_map, List.length_take] at this
        omega
      refine ⟨.ref de, rfl, .str w, rfl, de, _, rfl, DPut.k (k := Sum.inr w) hdeB (by rw [sizeLine_eq]; omega), ?_⟩
      rw [putK_fresh fr]
      have deb : b ≠ de := fun z => by rw [z, xA.non S7 hde (fun _ z => nomatch z)] at nb; cases nb
      refine ⟨_, _, elds ++ [(w, ld)], kvs ++ [(.inr w, .ref b)], m + vals.length + 1 + (zs.take c).length, rfl, fun c' o c1 c2 e => ?_, (upd_ne fun z => ?_).trans (x7B _ _ n1.1 n1.2 hna), SB.put e1, by omega, upd_same, ?_, ?_, fun p hp => ?_⟩
      · exact (upd_ne fun z => by rw [z, nde] at e; cases e).trans (x7B _ _ c1 c2 (x7 _ _ c1 c2 e))
      · rw [z, hde] at hna; cases hna
      · refine paired_app (Paired.mapP pr fun l' kv ⟨q1, b', q2, q4, q3⟩ => ⟨q1, b', q2, q4, (upd_ne q4).trans (x7B.non S7 q3 fun _ z => nomatch z)⟩) ⟨rfl, b, rfl, deb, (upd_ne deb).trans hb⟩
      · rw [List.map_append, lk, List.take_add_one, ew]
        rfl
      · rcases List.mem_append.mp hp with z | z
        · exact lv p z
        · rw [List.mem_singleton.mp z]
          refine ⟨by rw [kB]; exact znd, fun q hq => ?_, mB⟩
          exact zsub _ (kB ▸ List.mem_map_of_mem hq)
    · obtain ⟨o4, o7, elds, kvs, m, rfl, x7, hna, S7, hm, hde, pr, lk, lv⟩ := h
      rw [List.length_map] at lk hm
      rw [List.take_length] at lk
      have hva3 := x3 _ _ v1.1 v1.2 hva
      have hva7 := x7 _ _ v1.1 v1.2 hva3
      refine ⟨.ref va, rfl, .ref sp, rfl, .ref va, rfl, sp, l, va, m, vals.map V.str, rfl, S7, by omega, v1.1, v1.2, hva7, by simpa using vne, by rw [List.length_map]; omega, fun y H8 my x8 S8 => ?_⟩
      obtain ⟨st, mst, rfl⟩ := List.mem_map.mp my
      refine ⟨.ref dd, rfl, .ref de, rfl, by show 4 ≤ sizeLine; decide, fun pt npt => ?_⟩
      have x28 : ExS sp l H2 H8 := (x3.trans x7).trans x8
      have xF := Ex.new (o := .tup [.ref va, .str st, .ref dd, .ref de]) npt
      refine hQ pt ⟨vals, st, lds, elds⟩ (m + 1) _ ⟨ev, mst, ⟨k3, hk3, lk3⟩, ?_, lv3, lv⟩ (by omega) ((x2.trans x28).trans xF.exS) (S8.new npt) ((x2.trans x28).none (n := 0) S8 npt) ⟨va, dd, de, upd_same, xF _ _ (x8 _ _ v1.1 v1.2 hva7), v1, ((hdd.exS x7 S3).exS x8 S7).ex xF, DD.ex xF (DD.exS x8 S7 ⟨kvs, hde, Paired.mapP pr fun _ _ ⟨q1, b', q2, _, q3⟩ => ⟨q1, b', q2, q3⟩⟩)⟩
      obtain ⟨k, z1, z2, z3⟩ := en
      exact ⟨k, z1, z2, lk.trans z3⟩
end
end TH

/-! A18: check_entry, checked_names, where they raise -/
namespace TH
open PySem PySem.Spec PyProof.Rows L2 LamV LamX XK0
/-- C with the fields fs is raised, nothing else is changed -/
def Rz (E : XK) (H : Hp) (C : Addr) (fs : List (Str × V)) : Prop := ∀ H1 dd, Ex H H1 → H1 dd = none → E (.ref C) (some dd) (upd H1 dd (.xd fs))
theorem Rz.ex {E : XK} {H H1 : Hp} {C : Addr} {fs : List (Str × V)} (x : Ex H H1) (r : Rz E H C fs) : Rz E H1 C fs := fun H2 dd y n => r H2 dd (x.trans y) n
theorem FunD.okX {K : PySem.W.Frag} {P : Program} {w : World} {mg : Str → Option Value} {base : Heap} {x qual : Str} {st : Stmt} {f : Addr} {fd : FuncData} {N ps : List Str} {k : Nat} {sp : Sp} (F : FunD K x qual (defArgs st) (defBody st) (defScope st) [] [] f fd) (S : FnScope N ps (defScope st)) (len : ∀ vs H Q E, sp vs H Q E → vs.length = ps.length)
    (hbody : ∀ (cdv : Value) (A : Around) (outer : List Env) (s : Shared) (H : Hp) (vs : List V) (Q : VK) (E : XK), Room k (A.deeper (envOfC qual (defScope st) s.heap.objs.size f cdv)) → sp vs H Q E →
      ∃ t, PSs (cxOf (L2.CX P w) P w K mg base N qual (defScope st) f cdv A outer s H E) (defBody st) t ∧ t { nx := fun _ H' => Q .non H', rt := Q } (L2.start N vs) H) : FnOk P w K mg base (L2.CX P w) (k + 1) f fd ps sp := by
  obtain ⟨oc, od, dV, kV, doc, pm, an, cdv, ct, osl, rfl, lk, hcd, _⟩ := F.ex
  exact fn_of lk hcd S len fun A outer s H vs Q E hr hsp => hbody cdv A outer s H vs Q E hr hsp
/-- no entry of the thing -/
def NoEnt (d : ThD) (v : V) : Prop := isWd v = false ∨ ∃ x, v = .str x ∧ okS x = true ∧ look d.ents x = none
def spCheckEntryX (K : PySem.W.Frag) (C CN : Addr) : Sp := fun vs H Q E => ∃ (t : Addr) (d : ThD) (v : V) (T : String), vs = [.ref t, v] ∧ IsTh H C t d ∧ Kd K H v T ∧
  ((NoEnt d v ∧ Rz E H CN [("entry", v)]) ∨ ∃ x, v = .str x ∧ okS x = true ∧ (look d.ents x).isSome = true ∧ ∀ H', Ex H H' → Q .non H')
def fewL (xs : List V) : List V := match fbw xs [] 0 with
  | none => xs
  | some i => xs.take i
def strange (few : List V) (known : List Str) : Option Nat := few.findIdx? fun x => !inV x (known.map V.str)
def badIx (xs : List V) (known : List Str) : Option Nat := match strange (fewL xs) known with
  | some j => some j
  | none => fbw xs [] 0
def spCNX (K : PySem.W.Frag) (CB : Addr) : Sp := fun vs H Q E => ∃ (v : V) (kl : Addr) (ks : List Str) (j : Nat), vs = [v, .ref kl] ∧ SqL K H kl (ks.map V.str) ∧ Rz E H CB [("index", .int j)] ∧
  ((∃ T, Kd K H v T ∧ isLt T = false ∧ j = 0) ∨ ∃ (a : Addr) (xs : List V), v = .ref a ∧ Sq K H a xs ∧ xs.length ≤ 60 ∧ (∀ x ∈ xs, ∃ T, Kd K H x T) ∧ badIx xs ks = some j)
section
variable {P : Program} {w : World} {K : PySem.W.Frag} {mg : Str → Option Value} {base : Heap} {f C CN CB : Addr} {fd : FuncData}
theorem raise_go {X : Cx} {f : Str} {C : Addr} {E : XK} {σ : L2.St} {H : Hp} {t : TE} {y : V} {Q : XK} (Ec : ∃ x, Ec1 X.K X.mg x f C) (h : ∀ Q, Q y H → t σ H Q) (r : ∀ d, H d = none → Q (.ref C) (some d) (upd H d (.xd [(f, y)]))) : tMkO C (spI1 X.K f) [] (tCons t tNil) σ H Q := by
  obtain ⟨x, Ec⟩ := Ec
  refine h _ ?_
  exact mk1_ok Ec r
theorem ok_check_entryX (F : FnP K "check_entry" sCheckEntry f fd) (T : ThC K C) (EN : Ec1 K mg "NoEntryName" "entry" CN) (FW : Has P w K mg base "is_word" 1 ["thing"] (spIsWord K)) : FnOk P w K mg base (L2.CX P w) 3 f fd ["thing", "entry"] (spCheckEntryX K C CN) := by
  refine FunD.okX F scCheckEntry (fun vs H Q E h => ?_) (fun cdv A outer s H vs Q E hr h => ?_)
  · obtain ⟨t, d, x, T, rfl, _⟩ := h
    rfl
  · have hu := hu_of hr
    refine ⟨_, pss_one (ps_if (PW.pt (pw_or (pt_not (pt_val (pe_has FW hr (by decide) rfl (pa_cons (pv 1) pa_nil)))) (pw_or1 (pt_cmp (pc_dnotin hu (pv 1) (pe_fld (pv 0) rfl)))))) (pss_one (ps_raise1 EN rfl hr (takes_of rfl rfl rfl rfl) rfl (pv 1))) pss_nil), ?_⟩
    obtain ⟨t, d, v, T', rfl, th, kd, h⟩ := h
    refine ⟨v, rfl, v, T', rfl, kd, fun H1 x1 => ⟨_, rfl, ?_⟩⟩
    rcases h with ⟨ne, rz⟩ | ⟨x, rfl, ok, so, hQ⟩
    · have go : ∀ Hh, Ex H Hh → tMkO CN (spI1 K "entry") [] (tCons (tVar 1) tNil) [some (.ref t), some v] Hh fun cls d H' => E cls d H' := fun Hh xh => ⟨v, rfl, mk1_ok EN fun d n => rz _ _ xh n⟩
      rcases ne with n | ⟨x, rfl, ok, no⟩
      · rw [n]
        exact go H1 x1
      · rw [show isWd (.str x) = true from ok]
        obtain ⟨dx, vt, dd, de, e1, e2, _, ⟨es, m1, mp⟩⟩ := th.ex x1
        refine ⟨.str x, rfl, .ref t, rfl, t, C, dx, _, .ref de, rfl, e1, T.cls, T.ents, rfl, de, _, rfl, DGet.k (k := Sum.inr x) m1, _, rfl, ?_⟩
        rcases look_val mp x with ⟨b1, b2⟩ | ⟨l, b, b1, b2, b3⟩
        · rw [b2]
          exact go H1 x1
        · rw [no] at b1; cases b1
    · rw [show isWd (.str x) = true from ok]
      obtain ⟨dx, vt, dd, de, e1, e2, _, ⟨es, m1, mp⟩⟩ := th.ex x1
      refine ⟨.str x, rfl, .ref t, rfl, t, C, dx, _, .ref de, rfl, e1, T.cls, T.ents, rfl, de, _, rfl, DGet.k (k := Sum.inr x) m1, _, rfl, ?_⟩
      rcases look_val mp x with ⟨b1, b2⟩ | ⟨l, b, b1, b2, b3⟩
      · rw [b1] at so; cases so
      · rw [b2]
        exact hQ H1 x1
end
end TH

/-! A19: checked_names, where it raises -/
namespace TH
open PySem PySem.Spec PyProof.Rows L2 LamV LamX XK0
open C8 (pss_cut tCut)
theorem fbw_some : ∀ {xs met : List V} {i j : Nat}, fbw xs met i = some j → i ≤ j ∧ j < i + xs.length ∧ ∀ x ∈ xs.take (j - i), isWd x = true
  | [], _, _, _, h => by cases h
  | x :: r, met, i, j, h => by
    have e : fbw (x :: r) met i = if (!isWd x || inV x met) = true then some i else fbw r (met ++ [x]) (i + 1) := rfl
    rw [e] at h
    by_cases c : (!isWd x || inV x met) = true
    · rw [if_pos c] at h
      cases h
      refine ⟨Nat.le_refl _, by rw [List.length_cons]; omega, fun y m => ?_⟩
      rw [Nat.sub_self] at m
      cases m
    · rw [if_neg c] at h
      obtain ⟨h1, h2, h3⟩ := fbw_some h
      refine ⟨by omega, by rw [List.length_cons]; omega, fun y m => ?_⟩
      rw [show j - i = (j - (i + 1)) + 1 by omega, List.take_succ_cons] at m
      rcases List.mem_cons.mp m with rfl | m
      · cases w : isWd y with
        | true => rfl
        | false => rw [w] at c; exact absurd rfl c
      · exact h3 y m
theorem fbw_all : ∀ {xs met : List V} {i : Nat}, fbw xs met i = none → ∀ x ∈ xs, isWd x = true
  | [], _, _, _, _, m => by cases m
  | x :: r, met, i, h, y, m => by
    have e : fbw (x :: r) met i = if (!isWd x || inV x met) = true then some i else fbw r (met ++ [x]) (i + 1) := rfl
    rw [e] at h
    by_cases c : (!isWd x || inV x met) = true
    · rw [if_pos c] at h
      cases h
    · rw [if_neg c] at h
      rcases List.mem_cons.mp m with rfl | m
      · cases w : isWd y with
        | true => rfl
        | false => rw [w] at c; exact absurd rfl c
      · exact fbw_all h y m
theorem fewL_wd {xs : List V} : ∀ x ∈ fewL xs, isWd x = true := by
  unfold fewL
  cases h : fbw xs [] 0 with
  | none => exact fbw_all h
  | some i => exact (fbw_some h).2.2
theorem fewL_len {xs : List V} : (fewL xs).length ≤ xs.length := by
  unfold fewL
  cases h : fbw xs [] 0 with
  | none => exact Nat.le_refl _
  | some i => simp only [List.length_take]; exact Nat.min_le_right _ _
/-- positions so far -/
def PosOf (p : V → Bool) (few : List V) (n : Nat) (js : List Nat) : Prop := js.head? = (few.take n).findIdx? p ∧ js.length ≤ n
theorem posOf_step {p : V → Bool} {few : List V} {n : Nat} {js : List Nat} {x : V} (h : PosOf p few n js) (e : few[n]? = some x) : PosOf p few (n + 1) (if p x = true then js ++ [n] else js) := by
  obtain ⟨h1, h2⟩ := h
  have lt := (List.getElem?_eq_some_iff.mp e).1
  have tl : (few.take n).length = n := by rw [List.length_take]; exact Nat.min_eq_left (by omega)
  have ef : (few.take (n + 1)).findIdx? p = ((few.take n).findIdx? p).or (if p x = true then some n else none) := by
    rw [List.take_add_one, e, Option.toList_some, List.findIdx?_append, List.findIdx?_singleton, tl]
    cases p x
    · rfl
    · simp
  unfold PosOf
  rw [ef, ← h1]
  cases p x with
  | false => exact ⟨by simp, by simpa using Nat.le_succ_of_le h2⟩
  | true =>
    refine ⟨?_, by simpa using h2⟩
    cases js <;> rfl
theorem map_int (js : List Nat) : (js.map fun (j : Nat) => V.int j) = (js.map fun (j : Nat) => (j : Int)).map V.int := by
  rw [List.map_map]
  rfl
section
variable {P : Program} {w : World} {K : PySem.W.Frag} {mg : Str → Option Value} {base : Heap} {f C CN CB : Addr} {fd : FuncData}
theorem ok_checked_namesX (F : FnP K "checked_names" sCheckedNames f fd) (EB : Ec1 K mg "BadNames" "index" CB) (FB : Has P w K mg base "first_bad_word" 2 ["things", "barred"] (spFirstBad K)) (FL : Has P w K mg base "is_list" 1 ["thing"] (spIsList K)) (gl : mg "list" = none) (ge : mg "enumerate" = none) : FnOk P w K mg base (L2.CX P w) 3 f fd ["names", "known"] (spCNX K CB) := by
  refine FunD.okX F scCheckedNames (fun vs H Q E h => ?_) (fun cdv A outer s H vs Q E hr h => ?_)
  · obtain ⟨v, kl, ks, j, rfl, _⟩ := h
    rfl
  · refine ⟨_, pss_cut (ps_set (i := 2) scCheckedNames.nd rfl (.inl rfl) (pe_has FB hr (by decide) rfl (pa_cons (pv 0) (pa_cons (pe_lst pa_nil) pa_nil))))
      (pss_cut (ps_set (i := 3) scCheckedNames.nd rfl (.inl rfl) (pe_ifExp (pt_cmp (pc_isN (pv 2))) (pe_callTy call_list_of rfl gl boot_list (pa_cons (pv 0) pa_nil))
          (pe_ifExp (pt_val (pe_has FL hr (by decide) rfl (pa_cons (pv 0) pa_nil))) (pe_slice sl_list (pe_callTy call_list_of rfl gl boot_list (pa_cons (pv 0) pa_nil)) po_none (po_some (pv 2))) (pe_lst pa_nil))))
      (pss_cons (ps_setLc (i := 4) (own := [("number", 5), ("name", 6)]) (g := gTup K 2 (gCons (gName 5) (gCons (gName 6) gNil))) rfl scCheckedNames.nd rfl rfl (sw_true rfl rfl rfl (by decide +kernel)) (pi_enumT rfl ge (pa_cons (pv 3) pa_nil)) (blkOk_by (by kernel_rfl))
        (fun s H C cl fp => pg_tup rfl (pgs_cons (pg_name (i := 5) scCheckedNames.nd rfl (.inl rfl) (.inr rfl)) (pgs_cons (pg_name (i := 6) scCheckedNames.nd rfl (.inl rfl) (.inr rfl)) pgs_nil))) (fun s H C cl fp => pts_one (pt_cmpR (r := rIn K true) op_notIn_seq (pv 6) (pv 1) (by with_unfolding_all rfl))) (fun s H C cl fp => pv 5))
      (pss_cons (ps_if (pt_cmpR (op_neD hr.units) (pv 4) (pe_lst pa_nil) (nomark _)) (pss_one (ps_raise1 EB rfl hr (takes_of rfl rfl rfl rfl) rfl (pe_ix ix_list (pv 4) pe_int (fun _ _ => rfl)))) pss_nil)
      (pss_cons (ps_if (pt_cmp (pc_notN (pv 2))) (pss_one (ps_raise1 EB rfl hr (takes_of rfl rfl rfl rfl) rfl (pv 2))) pss_nil)
      pss_dead)))), ?_⟩
    obtain ⟨v, kl, ks, j, rfl, sk, rz, h⟩ := h
    have key : ∃ ix few, (∀ x ∈ few, isWd x = true) ∧ few.length ≤ 60 ∧ (match strange few ks with | some j => some j | none => ix) = some j ∧ ((∃ T, Kd K H v T ∧ isLt T = false ∧ ix = some 0 ∧ few = []) ∨ ∃ (a : Addr) (xs : List V), v = .ref a ∧ Sq K H a xs ∧ xs.length ≤ 60 ∧ (∀ x ∈ xs, ∃ T, Kd K H x T) ∧ ix = fbw xs [] 0 ∧ few = fewL xs) := by
      rcases h with ⟨T, kd, nl, rfl⟩ | ⟨a, xs, rfl, sq, len, kds, bad⟩
      · exact ⟨some 0, [], fun x m => (nomatch m), Nat.zero_le _, rfl, .inl ⟨T, kd, nl, rfl, rfl⟩⟩
      · exact ⟨fbw xs [] 0, fewL xs, fewL_wd, Nat.le_trans fewL_len len, bad, .inr ⟨a, xs, rfl, sq, len, kds, rfl, rfl⟩⟩
    obtain ⟨ix, few, wd, flen, bad, cas⟩ := key
    refine ⟨fun σ' H' => σ' = [some v, some (.ref kl), some (optV ix), none, none, none, none] ∧ Ex H H', ?_, ?_⟩
    · refine ⟨v, rfl, Nat.zero_le _, fun e0 n0 => ?_⟩
      have x0 : Ex H (upd H e0 (.lst [])) := Ex.new n0
      rcases cas with ⟨T, kd, nl, rfl, rfl⟩ | ⟨a, xs, rfl, sq, len, kds, rfl, rfl⟩
      · exact ⟨v, e0, rfl, upd_same, .inl ⟨T, kd.ex x0, nl, fun H' x1 => ⟨rfl, x0.trans x1⟩⟩⟩
      · exact ⟨.ref a, e0, rfl, upd_same, .inr ⟨a, xs, rfl, sq.ex x0, by omega, fun x m => (kds x m).imp fun T z => z.ex x0, fun H' x1 => ⟨rfl, x0.trans x1⟩⟩⟩
    rintro σ1 H1 ⟨rfl, x1⟩
    refine ⟨fun σ' H' => ∃ l1, σ' = [some v, some (.ref kl), some (optV ix), some (.ref l1), none, none, none] ∧ Ex H H' ∧ H' l1 = some (.lst few), ?_, ?_⟩
    · refine ⟨optV ix, rfl, _, rfl, ?_⟩
      rcases cas with ⟨T, kd, nl, rfl, rfl⟩ | ⟨a, xs, rfl, sq, len, kds, rfl, rfl⟩
      · refine ⟨v, rfl, v, T, rfl, kd.ex x1, fun H2 x2 => ⟨_, rfl, ?_⟩⟩
        rw [nl]
        exact ⟨Nat.zero_le _, fun l1 n1 => ⟨l1, rfl, (x1.trans x2).trans (Ex.new n1), upd_same⟩⟩
      · unfold fewL
        cases fb : fbw xs [] 0 with
        | none => exact ⟨.ref a, rfl, a, xs, rfl, sq.ex x1, fun l1 n1 => ⟨l1, rfl, x1.trans (Ex.new n1), upd_same⟩⟩
        | some i =>
          obtain ⟨T, kT, lT⟩ : ∃ T, Kd K H (.ref a) T ∧ isLt T = true := by
            rcases sq with sq | sq
            · exact ⟨_, sqL_kd sq, rfl⟩
            · exact ⟨_, sqT_kd sq, rfl⟩
          refine ⟨.ref a, rfl, .ref a, T, rfl, kT.ex x1, fun H2 x2 => ⟨_, rfl, ?_⟩⟩
          rw [lT]
          have y2 := x1.trans x2
          refine ⟨.ref a, rfl, a, xs, rfl, sq.ex y2, fun l0 n0 => ⟨.int i, rfl, i, rfl, l0, xs, rfl, .inl (.inl upd_same), fun l1 n1 => ⟨l1, ?_, (y2.trans (Ex.new n0)).trans (Ex.new n1), ?_⟩⟩⟩
          · rfl
          · rw [upd_same, cut_take]
    rintro σ2 H2 ⟨l1, rfl, x2, hl⟩
    refine ⟨.ref l1, rfl, l1, few, H2, rfl, Ex.refl, .inl (.inl (.inl hl)), fun J ⟨G, W, gs⟩ => fun D hD => ?_⟩
    refine lc_it W (fun n H3 => Ex H2 H3 ∧ ∃ js : List Nat, PosOf (fun x => !inV x (ks.map V.str)) few n js ∧ H3 D = some (.lst (js.map fun (j : Nat) => V.int j))) ⟨Ex.new hD, [], ⟨rfl, Nat.zero_le _⟩, upd_same⟩ (fun n H3 _ h => gs H3 h.1) (fun n v H3 H4 hn h y => ?_) fun H3 h => ?_
    · obtain ⟨z1, js, po, z2⟩ := h
      obtain ⟨tt, u, x, rfl, nt, rfl, eu, ex⟩ := y
      cases eu
      have ex : few[n]? = some x := ex
      obtain ⟨xx, rfl⟩ := isWd_str (wd x (List.mem_of_getElem? ex))
      have xt : Ex H3 (upd H3 tt (.tup [.int (n : Nat), .str xx])) := Ex.new nt
      have st := posOf_step po ex
      have Dt : D ≠ tt := fun z => by rw [← z, z2] at nt; cases nt
      refine ⟨tt, _, rfl, .inl (.inl upd_same), rfl, .int n, [.str xx], rfl, .str xx, [], rfl, rfl, rfl, .str xx, rfl, .ref kl, rfl, kl, ks.map V.str, rfl, .inl ((x2.trans (z1.trans xt)).sqL sk), rfl, ?_, _, rfl, ?_⟩
      · exact List.all_eq_true.mpr fun y hy => by
          obtain ⟨q, _, rfl⟩ := List.mem_map.mp hy
          rfl
      · cases q : inV (.str xx) (ks.map V.str) with
        | true =>
          rw [q] at st
          exact ⟨z1.trans xt, js, st, xt _ _ z2⟩
        | false =>
          rw [q] at st
          refine ⟨.int n, rfl, _, xt _ _ z2, by rw [sizeLine_eq, List.length_map]; have := po.2; have := (List.getElem?_eq_some_iff.mp ex).1; omega, ?_, js ++ [n], st, ?_⟩
          · exact fun b o e => (upd_ne fun z => by rw [z, hD] at e; cases e).trans ((z1.trans xt) _ _ e)
          · rw [upd_same, List.map_append]
            rfl
    · obtain ⟨z1, js, ⟨po, pl⟩, z2⟩ := h
      rw [List.take_length] at po
      have y3 := x2.trans z1
      rw [map_int] at z2
      refine ⟨.ref D, rfl, Nat.zero_le _, fun e2 n2 => ⟨.list ((js.map fun (j : Nat) => (j : Int)).map PyData.int), .list [], .lst (.inl (.inl ((Ex.new n2) _ _ z2))) (dp_ints _), .lst (.inl (.inl upd_same)) .nil, shaped_ints _, rfl, _, rfl, ?_⟩⟩
      have y4 := y3.trans (Ex.new (o := .lst []) n2)
      have z4 := (Ex.new (o := .lst []) n2) _ _ z2
      rw [eqv_nilI]
      unfold strange at bad
      rw [← po] at bad
      cases js with
      | cons j0 jr =>
        have bad : some j0 = some j := bad
        cases bad
        exact ⟨.ref D, rfl, D, _, 0, .int j, rfl, rfl, .inl (.inl z4), at_nat (k := 0) rfl, mk1_ok EB fun d n => rz _ _ y4 n⟩
      | nil =>
        have bad : ix = some j := bad
        subst bad
        exact ⟨.int j, rfl, _, rfl, .int j, rfl, mk1_ok EB fun d n => rz _ _ y4 n⟩
end
end TH

/-! A20: first_open, shut_ring, is_shut_ring, helpers_of, idle_lots, where they raise before anything else -/
namespace TH
open PySem PySem.Spec PyProof.Rows L2 LamV LamX XK0
open C8 (pss_cut tCut)
abbrev sShutRing : Stmt := top 33
abbrev sIsShutRing : Stmt := top 35
abbrev sIdleLots : Stmt := top 37
abbrev sHelpersOf : Stmt := top 38
/-- the names nv are refused with the index j, known being told by ks -/
def BadNm (K : PySem.W.Frag) (H : Hp) (nv : V) (known : List Str) (j : Nat) : Prop := (∃ T, Kd K H nv T ∧ isLt T = false ∧ j = 0) ∨ ∃ (a : Addr) (xs : List V), nv = .ref a ∧ Sq K H a xs ∧ xs.length ≤ 60 ∧ (∀ x ∈ xs, ∃ T, Kd K H x T) ∧ ∀ ks : List Str, (∀ x, x ∈ ks ↔ x ∈ known) → badIx xs ks = some j
theorem BadNm.ex {K : PySem.W.Frag} {H H' : Hp} {nv : V} {known : List Str} {j : Nat} (x : Ex H H') (h : BadNm K H nv known j) : BadNm K H' nv known j := by
  rcases h with ⟨T, kd, nl, e⟩ | ⟨a, xs, e, sq, l, kds, b⟩
  · exact .inl ⟨T, kd.ex x, nl, e⟩
  · exact .inr ⟨a, xs, e, sq.ex x, l, fun y m => (kds y m).imp fun _ z => z.ex x, b⟩
/-- refused: by the entry, or by the names -/
def Rfs (K : PySem.W.Frag) (CN CB : Addr) (E : XK) (H : Hp) (d : ThD) (v nv : V) (known : Str → List Str) : Prop := (NoEnt d v ∧ Rz E H CN [("entry", v)]) ∨ ∃ (x : Str) (j : Nat), v = .str x ∧ okS x = true ∧ (look d.ents x).isSome = true ∧ Rz E H CB [("index", .int j)] ∧ BadNm K H nv (known x) j
def spF3X (K : PySem.W.Frag) (C CN CB : Addr) (known : ThD → Str → List Str) : Sp := fun vs H Q E => ∃ (t : Addr) (d : ThD) (v nv : V) (T : String), vs = [.ref t, v, nv] ∧ IsTh H C t d ∧ d.names.length < 60 ∧ Kd K H v T ∧ Rfs K CN CB E H d v nv (known d)
def spF4X (K : PySem.W.Frag) (C CN CB : Addr) (known : ThD → Str → List Str) : Sp := fun vs H Q E => ∃ (t : Addr) (d : ThD) (v nv p : V) (T : String), vs = [.ref t, v, nv, p] ∧ IsTh H C t d ∧ d.names.length < 60 ∧ Kd K H v T ∧ Rfs K CN CB E H d v nv (known d)
def spF2X (K : PySem.W.Frag) (C CN : Addr) : Sp := fun vs H Q E => ∃ (t : Addr) (d : ThD) (v : V) (T : String), vs = [.ref t, v] ∧ IsTh H C t d ∧ Kd K H v T ∧ NoEnt d v ∧ Rz E H CN [("entry", v)]
def allNames (d : ThD) (_ : Str) : List Str := d.names
def lessNames (d : ThD) (x : Str) : List Str := d.names.filter fun y => !decide (y = x)
section
variable {P : Program} {w : World} {K : PySem.W.Frag} {mg : Str → Option Value} {base : Heap} {f C CN CB : Addr} {fd : FuncData}
theorem ok_idle_lotsX (F : FnP K "idle_lots" sIdleLots f fd) (FCE : HasX P w K mg base "check_entry" 3 ["thing", "entry"] (spCheckEntryX K C CN)) : FnOk P w K mg base (L2.CX P w) 4 f fd ["thing", "entry"] (spF2X K C CN) := by
  refine FunD.okX (N := ["thing", "entry", "found", "great"]) F ⟨rfl, rfl, rfl, by decide +kernel, rfl, by decide +kernel, by decide +kernel⟩ (fun vs H Q E h => ?_) (fun cdv A outer s H vs Q E hr h => ?_)
  · obtain ⟨t, d, v, T, rfl, _⟩ := h
    rfl
  · refine ⟨_, pss_cons (ps_expr (pe_hasX (E := E) FCE hr (by decide) rfl (takes_of rfl rfl rfl rfl) (fun _ _ _ _ z => z) (pa_cons (pv 0) (pa_cons (pv 1) pa_nil)))) pss_dead, ?_⟩
    obtain ⟨t, d, v, T, rfl, th, kd, ne, rz⟩ := h
    exact ⟨.ref t, rfl, v, rfl, t, d, v, T, rfl, th, kd, .inl ⟨ne, rz⟩⟩
theorem ok_helpers_ofX (F : FnP K "helpers_of" sHelpersOf f fd) (FIL : HasX P w K mg base "idle_lots" 4 ["thing", "entry"] (spF2X K C CN)) : FnOk P w K mg base (L2.CX P w) 5 f fd ["thing", "entry"] (spF2X K C CN) := by
  have S : FnScope ["thing", "entry", "idle", "found", "lot"] ["thing", "entry"] (defScope sHelpersOf) := ⟨rfl, rfl, rfl, by decide +kernel, rfl, by decide +kernel, by decide +kernel⟩
  refine FunD.okX F S (fun vs H Q E h => ?_) (fun cdv A outer s H vs Q E hr h => ?_)
  · obtain ⟨t, d, v, T, rfl, _⟩ := h
    rfl
  · refine ⟨_, pss_cons (ps_par (i := 2) (j := 3) rfl S.nd rfl rfl (by decide) rfl rfl (pa_cons (pe_hasX (E := E) FIL hr (by decide) rfl (takes_of rfl rfl rfl rfl) (fun _ _ _ _ z => z) (pa_cons (pv 0) (pa_cons (pv 1) pa_nil))) (pa_cons (pe_lst pa_nil) pa_nil)) rfl) pss_dead, ?_⟩
    obtain ⟨t, d, v, T, rfl, th, kd, ne, rz⟩ := h
    exact ⟨.ref t, rfl, v, rfl, t, d, v, T, rfl, th, kd, ne, rz⟩
theorem ok_first_openX (F : FnP K "first_open" sFirstOpen f fd) (FCE : HasX P w K mg base "check_entry" 3 ["thing", "entry"] (spCheckEntryX K C CN)) (FCN : HasX P w K mg base "checked_names" 3 ["names", "known"] (spCNX K CB)) (FNO : Has P w K mg base "names_of" 1 ["thing"] (spNamesOf C)) (gs : mg "sorted" = none) :
    FnOk P w K mg base (L2.CX P w) 4 f fd ["thing", "entry", "names"] (spF3X K C CN CB allNames) := by
  refine FunD.okX F scFirstOpen (fun vs H Q E h => ?_) (fun cdv A outer s H vs Q E hr h => ?_)
  · obtain ⟨t, d, v, nv, T, rfl, _⟩ := h
    rfl
  · refine ⟨_, pss_cons (ps_expr (pe_hasX (E := E) FCE hr (by decide) rfl (takes_of rfl rfl rfl rfl) (fun _ _ _ _ z => z) (pa_cons (pv 0) (pa_cons (pv 1) pa_nil))))
      (pss_cons (ps_set (i := 3) scFirstOpen.nd rfl (.inl rfl) (pe_callB cr_sortedS rfl gs boot_sorted (pa_cons (pe_hasX (E := E) FCN hr (by decide) rfl (takes_of rfl rfl rfl rfl) (fun _ _ _ _ z => z) (pa_cons (pv 2) (pa_cons (pe_has FNO hr (by decide) rfl (pa_cons (pv 0) pa_nil)) pa_nil))) pa_nil))) pss_dead), ?_⟩
    obtain ⟨t, d, v, nv, T, rfl, th, len, kd, h⟩ := h
    rcases h with ⟨ne, rz⟩ | ⟨x, j, rfl, ok, so, rz, bn⟩
    · exact ⟨.ref t, rfl, v, rfl, t, d, v, T, rfl, th, kd, .inl ⟨ne, rz⟩⟩
    · refine ⟨.ref t, rfl, .str x, rfl, t, d, _, T, rfl, th, kd, .inr ⟨x, rfl, ok, so, fun H1 x1 => ?_⟩⟩
      refine ⟨nv, rfl, .ref t, rfl, t, d, rfl, th.ex x1, by omega, fun p ys H2 x2 np hp pm so => ?_⟩
      refine ⟨nv, p, ys, j, rfl, .inl (.inl hp), rz.ex (x1.trans x2), ?_⟩
      rcases bn.ex (x1.trans x2) with z | ⟨a, xs, e, sq, l, kds, b⟩
      · exact .inl z
      · exact .inr ⟨a, xs, e, sq, l, kds, b ys fun x => pm.mem_iff⟩
/-- the names without the entry -/
theorem less_go {K : PySem.W.Frag} {i : Nat} {tn : TE} {σ : L2.St} {H : Hp} {Q : VK} {x : Str} (Py : List Str → Prop) (hi : i ≠ 1) (sl : σ[1]? = some (some (.str x))) (li : i < σ.length) (hn : ∀ Q, (∀ p H1 (ys : List Str), ys.length ≤ 100 → Py ys → Ex H H1 → H1 p = some (.lst (ys.map V.str)) → Q (V.ref p) H1) → tn σ H Q)
    (hQ : ∀ (q : Addr) (H' : Hp) (ys : List Str), Py ys → Ex H H' → H' q = some (.lst ((ys.filter fun y => !decide (y = x)).map V.str)) → Q (.ref q) H') : tLc (iList K tn) (gName i) (tTest (tOp rNe (tVar i) (tVar 1))) (tVar i) [i] σ H Q := by
  refine hn _ fun p H1 ys len py x1 hp => ⟨p, rfl, ⟨_, .inl (.inl hp)⟩, fun D nD => ?_⟩
  refine lc_list (K := K) (xs := ys.map V.str) (fun n H2 => Ex H1 H2 ∧ H2 D = some (.lst (((ys.take n).filter fun y => !decide (y = x)).map V.str))) ⟨Ex.new nD, upd_same⟩ (fun n H2 _ h => .inl (.inl (h.1 _ _ hp))) (fun n v H2 hv h => ?_) fun H2 h => ?_
  · obtain ⟨x2, hD⟩ := h
    rw [List.getElem?_map] at hv
    obtain ⟨w, ew, rfl⟩ := Option.map_eq_some_iff.mp hv
    have ai : (((wipe σ [i]).set i (some (V.str w))))[i]? = some (some (V.str w)) := List.getElem?_set_self (by rw [wipe_length]; exact li)
    have a1 : (((wipe σ [i]).set i (some (V.str w))))[1]? = some (some (V.str x)) := by
      rw [List.getElem?_set_ne hi]
      exact (List.getElem?_set_ne hi).trans sl
    refine ⟨?_, .str w, ai, .str x, a1, rfl, _, rfl, ?_⟩
    · show ((σ.set i none).set i (some (V.str w))).set i none = σ.set i none
      rw [List.set_set, List.set_set]
    rw [List.take_add_one, ew, Option.toList_some, List.filter_append]
    by_cases q : w = x
    · rw [show (!decide (V.str w = V.str x)) = false by rw [decide_eq_true (congrArg V.str q)]; rfl]
      refine ⟨x2, ?_⟩
      rw [List.filter_cons_of_neg (by simpa using q), List.filter_nil, List.append_nil]
      exact hD
    · rw [show (!decide (V.str w = V.str x)) = true by rw [decide_eq_false (fun z => q (V.str.inj z))]; rfl]
      have ln : ((ys.take n).filter fun y => !decide (y = x)).length ≤ ys.length := Nat.le_trans (List.length_filter_le _ _) (by rw [List.length_take]; exact Nat.min_le_right _ _)
      refine ⟨.str w, ai, _, hD, by rw [sizeLine_eq, List.length_map]; omega, fun b o e => (upd_ne fun z => by rw [z, nD] at e; cases e).trans (x2 _ _ e), ?_⟩
      rw [upd_same, List.filter_cons_of_pos (by simpa using q), List.filter_nil, List.map_append]
      rfl
  · obtain ⟨x2, hD⟩ := h
    rw [List.length_map, List.take_length] at hD
    exact hQ D H2 ys py (x1.trans x2) hD
theorem less_mem {d : ThD} {x : Str} {ys : List Str} (pm : ys.Perm d.names) (z : Str) : z ∈ ys.filter (fun y => !decide (y = x)) ↔ z ∈ lessNames d x := by
  unfold lessNames
  rw [List.mem_filter, List.mem_filter, pm.mem_iff]
theorem bad_go {K : PySem.W.Frag} {CB : Addr} {E : XK} {H H2 : Hp} {Q : VK} {d : ThD} {x : Str} {nv : V} {j : Nat} {ys : List Str} {q : Addr} (x2 : Ex H H2) (rz : Rz E H CB [("index", .int j)]) (bn : BadNm K H nv (lessNames d x) j) (pm : ys.Perm d.names) (hq : H2 q = some (.lst ((ys.filter fun y => !decide (y = x)).map V.str))) : spCNX K CB [nv, .ref q] H2 Q E := by
  refine ⟨nv, q, _, j, rfl, .inl (.inl hq), rz.ex x2, ?_⟩
  rcases bn.ex x2 with z | ⟨a, xs, e, sq, l, kds, b⟩
  · exact .inl z
  · exact .inr ⟨a, xs, e, sq, l, kds, b _ (less_mem pm)⟩
theorem ok_shut_ringX (F : FnP K "shut_ring" sShutRing f fd) (FCE : HasX P w K mg base "check_entry" 3 ["thing", "entry"] (spCheckEntryX K C CN)) (FCN : HasX P w K mg base "checked_names" 3 ["names", "known"] (spCNX K CB)) (FNO : Has P w K mg base "names_of" 1 ["thing"] (spNamesOf C)) :
    FnOk P w K mg base (L2.CX P w) 4 f fd ["thing", "entry", "names"] (spF3X K C CN CB lessNames) := by
  have S : FnScope ["thing", "entry", "names", "some", "coming", "worth", "used", "name"] ["thing", "entry", "names"] (defScope sShutRing) := ⟨rfl, rfl, rfl, by decide +kernel, rfl, by decide +kernel, by decide +kernel⟩
  refine FunD.okX F S (fun vs H Q E h => ?_) (fun cdv A outer s H vs Q E hr h => ?_)
  · obtain ⟨t, d, v, nv, T, rfl, _⟩ := h
    rfl
  · refine ⟨_, pss_cons (ps_expr (pe_hasX (E := E) FCE hr (by decide) rfl (takes_of rfl rfl rfl rfl) (fun _ _ _ _ z => z) (pa_cons (pv 0) (pa_cons (pv 1) pa_nil))))
      (pss_cons (ps_set (i := 3) S.nd rfl (.inl rfl) (pe_hasX (E := E) FCN hr (by decide) rfl (takes_of rfl rfl rfl rfl) (fun _ _ _ _ z => z) (pa_cons (pv 2) (pa_cons (pe_lc (te := tVar 7) (tt := tTest (tOp rNe (tVar 7) (tVar 1))) (own := [("name", 7)]) rfl S.nd (pi_list (pe_has FNO hr (by decide) rfl (pa_cons (pv 0) pa_nil))) (blkOk_by (by kernel_rfl)) (fun s H C cl fp => pg_name (i := 7) S.nd rfl (.inl rfl) (.inr rfl)) (fun s H C cl fp => pts_one (pt_cmpR op_ne (pv 7) (pv 1) (nomark _))) (fun s H C cl fp => pv 7)) pa_nil)))) pss_dead), ?_⟩
    obtain ⟨t, d, v, nv, T, rfl, th, len, kd, h⟩ := h
    rcases h with ⟨ne, rz⟩ | ⟨x, j, rfl, ok, so, rz, bn⟩
    · exact ⟨.ref t, rfl, v, rfl, t, d, v, T, rfl, th, kd, .inl ⟨ne, rz⟩⟩
    · refine ⟨.ref t, rfl, .str x, rfl, t, d, _, T, rfl, th, kd, .inr ⟨x, rfl, ok, so, fun H1 x1 => ?_⟩⟩
      refine ⟨nv, rfl, ?_⟩
      show tLc (iList K (tCall (spNamesOf C) [] E0 (tCons (tVar 0) tNil))) (gName 7) (tTest (tOp rNe (tVar 7) (tVar 1))) (tVar 7) [7] [some (.ref t), some (.str x), some nv, none, none, none, none, none] H1 _
      exact less_go (fun ys => ys.Perm d.names) (by decide) rfl (by simp) (fun Q hq => ⟨.ref t, rfl, t, d, rfl, th.ex x1, by omega, fun p ys H2 x2 np hp pm so => hq p H2 ys (by rw [pm.length_eq]; omega) pm x2 hp⟩) fun q H2 ys pm x2 hq => bad_go (Q := fun _ _ => False) (x1.trans x2) rz bn pm hq
theorem ok_is_shut_ringX (F : FnP K "is_shut_ring" sIsShutRing f fd) (FCE : HasX P w K mg base "check_entry" 3 ["thing", "entry"] (spCheckEntryX K C CN)) (FCN : HasX P w K mg base "checked_names" 3 ["names", "known"] (spCNX K CB)) (FNO : Has P w K mg base "names_of" 1 ["thing"] (spNamesOf C)) :
    FnOk P w K mg base (L2.CX P w) 4 f fd ["thing", "entry", "names", "pair"] (spF4X K C CN CB lessNames) := by
  have S : FnScope ["thing", "entry", "names", "pair", "some", "ahead", "around", "name", "worth"] ["thing", "entry", "names", "pair"] (defScope sIsShutRing) := ⟨rfl, rfl, rfl, by decide +kernel, rfl, by decide +kernel, by decide +kernel⟩
  refine FunD.okX F S (fun vs H Q E h => ?_) (fun cdv A outer s H vs Q E hr h => ?_)
  · obtain ⟨t, d, v, nv, pv, T, rfl, _⟩ := h
    rfl
  · refine ⟨_, pss_cons (ps_expr (pe_hasX (E := E) FCE hr (by decide) rfl (takes_of rfl rfl rfl rfl) (fun _ _ _ _ z => z) (pa_cons (pv 0) (pa_cons (pv 1) pa_nil))))
      (pss_cons (ps_set (i := 4) S.nd rfl (.inl rfl) (pe_hasX (E := E) FCN hr (by decide) rfl (takes_of rfl rfl rfl rfl) (fun _ _ _ _ z => z) (pa_cons (pv 2) (pa_cons (pe_lc (te := tVar 7) (tt := tTest (tOp rNe (tVar 7) (tVar 1))) (own := [("name", 7)]) rfl S.nd (pi_list (pe_has FNO hr (by decide) rfl (pa_cons (pv 0) pa_nil))) (blkOk_by (by kernel_rfl)) (fun s H C cl fp => pg_name (i := 7) S.nd rfl (.inl rfl) (.inr rfl)) (fun s H C cl fp => pts_one (pt_cmpR op_ne (pv 7) (pv 1) (nomark _))) (fun s H C cl fp => pv 7)) pa_nil)))) pss_dead), ?_⟩
    obtain ⟨t, d, v, nv, pv, T, rfl, th, len, kd, h⟩ := h
    rcases h with ⟨ne, rz⟩ | ⟨x, j, rfl, ok, so, rz, bn⟩
    · exact ⟨.ref t, rfl, v, rfl, t, d, v, T, rfl, th, kd, .inl ⟨ne, rz⟩⟩
    · refine ⟨.ref t, rfl, .str x, rfl, t, d, _, T, rfl, th, kd, .inr ⟨x, rfl, ok, so, fun H1 x1 => ?_⟩⟩
      refine ⟨nv, rfl, ?_⟩
      show tLc (iList K (tCall (spNamesOf C) [] E0 (tCons (tVar 0) tNil))) (gName 7) (tTest (tOp rNe (tVar 7) (tVar 1))) (tVar 7) [7] [some (.ref t), some (.str x), some nv, some pv, none, none, none, none, none] H1 _
      exact less_go (fun ys => ys.Perm d.names) (by decide) rfl (by simp) (fun Q hq => ⟨.ref t, rfl, t, d, rfl, th.ex x1, by omega, fun p ys H2 x2 np hp pm so => hq p H2 ys (by rw [pm.length_eq]; omega) pm x2 hp⟩) fun q H2 ys pm x2 hq => bad_go (Q := fun _ _ => False) (x1.trans x2) rz bn pm hq
end
end TH

/-! A21: is_lead, first_wrong, where all is right -/
namespace TH
open PySem PySem.Spec PyProof.Rows L2 LamV LamX XK0
open C8 (pss_cut tCut)
abbrev sIsLead : Stmt := top 16
abbrev sFirstWrong : Stmt := top 17
/-- a right lead -/
def LeadOk (vals : List Str) (wh : Bool) (ld : Ld) : Prop := (∀ q ∈ ld, q.1 ∈ vals ∧ q.2 ∈ vals) ∧ (ld.map (·.1)).Nodup ∧ ld.length ≤ 1000 ∧ (wh = true → ld.length = vals.length)
def spIsLead (K : PySem.W.Frag) : Sp := fun vs H Q _ => ∃ (a kt : Addr) (ld : Ld) (vals : List Str) (wh : Bool), vs = [.ref a, .ref kt, .bl wh] ∧ H a = some (.dK (ldV ld)) ∧ SqT K H kt (vals.map V.str) ∧ vals.length ≤ 1000 ∧ (∀ x ∈ vals, okS x = true) ∧ LeadOk vals wh ld ∧ ∀ H', Ex H H' → Q (.bl true) H'
def spFirstWrong (K : PySem.W.Frag) : Sp := fun vs H Q _ => ∃ (a kt bl : Addr) (lds : Lds) (vals bs : List Str) (wh : Bool), vs = [.ref a, .ref kt, .ref bl, .bl wh] ∧ DD H a lds ∧ SqT K H kt (vals.map V.str) ∧ SqL K H bl (bs.map V.str) ∧ vals.length ≤ 1000 ∧ (∀ x ∈ vals, okS x = true) ∧
  (∀ l ∈ lds, okS l.1 = true ∧ l.1 ∉ bs ∧ LeadOk vals wh l.2) ∧ ∀ (p : Addr) (H' : Hp), Ex H H' → H p = none → H' p = some (.lst []) → Q (.ref p) H'
theorem Ex.unlock {H H' : Hp} {a : Addr} {u v : HO} (h : H a = some u) (x : Ex (upd H a v) H') : Ex H (upd H' a u) := fun b o e => by
  by_cases z : b = a
  · subst z
    rw [upd_same]
    exact h.symm.trans e
  · exact (upd_ne z).trans (x _ _ ((upd_ne z).trans e))
/-- what is no such object stands while it is locked -/
theorem lock_ne {H H' : Hp} {a b : Addr} {u v o : HO} (h : H a = some u) (x : Ex (upd H a v) H') (e : H b = some o) (n : o ≠ u) : H' b = some o := x _ _ ((upd_ne fun z => n (by rw [z, h] at e; exact (Option.some.inj e).symm)).trans e)
theorem lock_sqT {K : PySem.W.Frag} {H H' : Hp} {a b : Addr} {kvs : List (Key × V)} {v : HO} {xs : List V} (h : H a = some (.dK kvs)) (x : Ex (upd H a v) H') (e : SqT K H b xs) : SqT K H' b xs := x.sqT (sqT_put h (fun _ z => nomatch z) (fun _ _ z => nomatch z) e)
theorem flat_strs (vals : List Str) : (vals.map V.str).all flatV = true := List.all_eq_true.mpr fun y hy => by
  obtain ⟨q, _, rfl⟩ := List.mem_map.mp hy
  rfl
theorem lookL_mem : ∀ {ld : Ld} {q : Str × Str}, (ld.map (·.1)).Nodup → q ∈ ld → lookL ld q.1 = some q.2
  | p :: r, q, nd, m => by
    rw [List.map_cons, List.nodup_cons] at nd
    unfold lookL
    rw [List.find?_cons]
    rcases List.mem_cons.mp m with rfl | m
    · rw [decide_eq_true rfl]
      rfl
    · have ne : ¬ p.1 = q.1 := fun z => nd.1 (z ▸ List.mem_map_of_mem m)
      rw [decide_eq_false ne]
      exact lookL_mem nd.2 m
section
variable {P : Program} {w : World} {K : PySem.W.Frag} {mg : Str → Option Value} {base : Heap} {f C CN CB : Addr} {fd : FuncData}
theorem scIsLead : FnScope ["thing", "known", "is_whole", "value"] ["thing", "known", "is_whole"] (defScope sIsLead) := ⟨rfl, rfl, rfl, by decide +kernel, rfl, by decide +kernel, by decide +kernel⟩
theorem ok_is_lead (F : FnP K "is_lead" sIsLead f fd) (FW : Has P w K mg base "is_word" 1 ["thing"] (spIsWord K)) (gi : mg "isinstance" = none) (gd : mg "dict" = none) (gn : mg "len" = none) : FnOk P w K mg base CX0 2 f fd ["thing", "known", "is_whole"] (spIsLead K) := by
  refine F.ok scIsLead (fun vs H Q E h => ?_) (fun cdv A outer s H vs Q E hr h => ?_)
  · obtain ⟨a, kt, ld, vals, wh, rfl, _⟩ := h
    rfl
  · have hu := hu_of hr
    refine ⟨_, PSs.nox (pss_cons (ps_if (pt_not (pt_val (pe_callB call_isi rfl gi boot_isinstance (pa_cons (pv 0) (pa_cons (pe_bltn (v := .ty "dict") rfl gd boot_dict rfl) pa_nil))))) (pss_one ps_dead) pss_nil)
      (pss_cons (ps_lock (ps_for PassesOwn.never rfl (pi_keys (pv 0)) (pg_name (i := 3) scIsLead.nd rfl (.inl rfl))
        (pss_one (ps_if (PW.pt (pw_or (pt_not (pt_val (pe_has FW hr (by decide) rfl (pa_cons (pv 3) pa_nil)))) (pw_or (pt_cmpR op_notIn_seq (pv 3) (pv 1) (by with_unfolding_all rfl)) (pw_or (pt_not (pt_val (pe_has FW hr (by decide) rfl (pa_cons (pe_dget hu (pv 0) (pv 3) (fun _ _ => rfl)) pa_nil)))) (pw_or1 (pt_cmpR op_notIn_seq (pe_dget hu (pv 0) (pv 3) (fun _ _ => rfl)) (pv 1) (by with_unfolding_all rfl))))))) (pss_one ps_dead) pss_nil))))
      (pss_one (ps_ret (pe_or (pe_not (pv 2)) (pe_one (pe_cmp (pc_eqI (pe_callB call_lenD rfl gn boot_len (pa_cons (pv 0) pa_nil)) (pe_callB call_len rfl gn boot_len (pa_cons (pv 1) pa_nil))) rfl))))))), ?_⟩
    obtain ⟨a, kt, ld, vals, wh, rfl, ha, sk, vl, vo, ⟨lok, lnd, ll, lw⟩, hQ⟩ := h
    refine ⟨.ref a, rfl, .ref a, .ty "dict", _, _, true, rfl, .ty "dict", .base (.dK ha), kit_ty (by decide +kernel), _, rfl, ?_⟩
    refine ⟨a, _, ha, trivial, fun od => ?_⟩
    have ea : ∀ {H'}, Ex (upd H a (.frz od (.dK (ldV ld)))) H' → H' a = some (.frz od (.dK (ldV ld))) := fun x => x _ _ upd_same
    refine ⟨.ref a, rfl, a, od, rfl, .inl ⟨ldV ld, upd_same, for_it walk_keys (fun i σ H7 => ∃ o3, σ = [some (.ref a), some (.ref kt), some (.bl wh), o3] ∧ Ex (upd H a (.frz od (.dK (ldV ld)))) H7) ⟨_, rfl, Ex.refl⟩ (fun i σ H7 _ ⟨_, _, x⟩ => ea x) (fun i v σ H7 H8 hi h y => ?_) fun σ H7 h => ?_⟩⟩
    · obtain ⟨o3, rfl, x7⟩ := h
      obtain ⟨rfl, k, v2, ek, rfl⟩ := y
      unfold ldV at ek
      rw [List.getElem?_map] at ek
      obtain ⟨q, eq, e2⟩ := Option.map_eq_some_iff.mp ek
      cases e2
      have mq := List.mem_of_getElem? eq
      obtain ⟨q1, q2⟩ := lok q mq
      have o1 := vo _ q1
      have o2 := vo _ q2
      have lv : lookL ld q.1 = some q.2 := lookL_mem lnd mq
      have vv : valV (ldV ld) (Sum.inr q.1) = some (.str q.2) := by rw [lookL_val, lv]; rfl
      have dg : ∀ {H'}, Ex (upd H a (.frz od (.dK (ldV ld)))) H' → DGet H' a (.str q.1) (some (.str q.2)) := fun x => vv ▸ .inl ⟨ldV ld, Sum.inr q.1, .inr ⟨od, ea x⟩, rfl, rfl⟩
      refine ⟨.str q.1, rfl, .str q.1, "str", rfl, str_kd (by have := okS_len o1; omega), fun H8 x8 => ⟨_, rfl, ?_⟩⟩
      have y8 := x7.trans x8
      rw [show isWd (.str q.1) = true from o1]
      refine ⟨.str q.1, rfl, .ref kt, rfl, kt, vals.map V.str, rfl, .inr (lock_sqT ha y8 sk), rfl, flat_strs vals, _, rfl, ?_⟩
      rw [inV_strs, decide_eq_true q1]
      refine ⟨.ref a, rfl, .str q.1, rfl, a, .str q.2, rfl, dg y8, .str q.2, "str", rfl, str_kd (by have := okS_len o2; omega), fun H9 x9 => ⟨_, rfl, ?_⟩⟩
      have y9 := y8.trans x9
      rw [show isWd (.str q.2) = true from o2]
      refine ⟨.ref a, rfl, .str q.1, rfl, a, .str q.2, rfl, dg y9, .ref kt, rfl, kt, vals.map V.str, rfl, .inr (lock_sqT ha y9 sk), rfl, flat_strs vals, _, rfl, ?_⟩
      rw [inV_strs, decide_eq_true q2]
      exact ⟨_, rfl, y9⟩
    · obtain ⟨o3, rfl, x7⟩ := h
      refine ⟨ea x7, ?_⟩
      have xu := Ex.unlock ha x7
      have ea2 : upd H7 a (.dK (ldV ld)) a = some (.dK (ldV ld)) := upd_same
      refine ⟨.bl wh, rfl, wh, rfl, !wh, rfl, ?_⟩
      cases wh with
      | false => exact hQ _ xu
      | true =>
        refine ⟨.ref a, rfl, a, ldV ld, rfl, ea2, .ref kt, rfl, .ref kt, vals.length, rfl, .inr (⟨vals.map V.str, xu.sqT sk, by rw [List.length_map]⟩), _, _, rfl, rfl, ?_⟩
        have e : decide (((ldV ld).length : Int) = (vals.length : Int)) = true := by
          unfold ldV
          rw [List.length_map, lw rfl]
          exact decide_eq_true rfl
        show Q (.bl (decide (((ldV ld).length : Int) = (vals.length : Int)))) _
        rw [e]
        exact hQ _ xu
theorem scFirstWrong : FnScope ["leads", "known", "barred", "is_whole", "name"] ["leads", "known", "barred", "is_whole"] (defScope sFirstWrong) := ⟨rfl, rfl, rfl, by decide +kernel, rfl, by decide +kernel, by decide +kernel⟩
theorem ok_first_wrong (F : FnP K "first_wrong" sFirstWrong f fd) (FW : Has P w K mg base "is_word" 1 ["thing"] (spIsWord K)) (FI : Has P w K mg base "is_lead" 2 ["thing", "known", "is_whole"] (spIsLead K)) (gi : mg "isinstance" = none) (gd : mg "dict" = none) : FnOk P w K mg base CX0 3 f fd ["leads", "known", "barred", "is_whole"] (spFirstWrong K) := by
  refine F.ok scFirstWrong (fun vs H Q E h => ?_) (fun cdv A outer s H vs Q E hr h => ?_)
  · obtain ⟨a, kt, bl, lds, vals, bs, wh, rfl, _⟩ := h
    rfl
  · have hu := hu_of hr
    refine ⟨_, PSs.nox (pss_cons (ps_if (pt_not (pt_val (pe_callB call_isi rfl gi boot_isinstance (pa_cons (pv 0) (pa_cons (pe_bltn (v := .ty "dict") rfl gd boot_dict rfl) pa_nil))))) (pss_one ps_dead) pss_nil)
      (pss_cons (ps_lock (ps_for PassesOwn.never rfl (pi_keys (pv 0)) (pg_name (i := 4) scFirstWrong.nd rfl (.inl rfl))
        (pss_one (ps_if (PW.pt (pw_or (pt_not (pt_val (pe_has FW hr (by decide) rfl (pa_cons (pv 4) pa_nil)))) (pw_or (pt_cmpR op_in_seq (pv 4) (pv 2) (by with_unfolding_all rfl)) (pw_or1 (pt_not (pt_val (pe_has FI hr (by decide) rfl (pa_cons (pe_dget hu (pv 0) (pv 4) (fun _ _ => rfl)) (pa_cons (pv 1) (pa_cons (pv 3) pa_nil)))))))))) (pss_one ps_dead) pss_nil))))
      (pss_one (ps_ret (pe_lst pa_nil))))), ?_⟩
    obtain ⟨a, kt, bl, lds, vals, bs, wh, rfl, ⟨kvs, ha, pr⟩, sk, sb, vl, vo, lok, hQ⟩ := h
    refine ⟨.ref a, rfl, .ref a, .ty "dict", _, _, true, rfl, .ty "dict", .base (.dK ha), kit_ty (by decide +kernel), _, rfl, ?_⟩
    refine ⟨a, _, ha, trivial, fun od => ?_⟩
    have ea : ∀ {H'}, Ex (upd H a (.frz od (.dK kvs))) H' → H' a = some (.frz od (.dK kvs)) := fun x => x _ _ upd_same
    have lockL : ∀ {H'} {b xs}, Ex (upd H a (.frz od (.dK kvs))) H' → SqL K H b xs → SqL K H' b xs := fun x e => by
      refine x.sqL (e.imp (Or.imp (fun z => (upd_ne fun q => ?_).trans z) fun ⟨o, z⟩ => ⟨o, (upd_ne fun q => ?_).trans z⟩) id)
      · rw [q, ha] at z; cases z
      · rw [q, ha] at z; cases z
    refine ⟨.ref a, rfl, a, od, rfl, .inl ⟨kvs, upd_same, for_it walk_keys (fun i σ H7 => ∃ o3, σ = [some (.ref a), some (.ref kt), some (.ref bl), some (.bl wh), o3] ∧ Ex (upd H a (.frz od (.dK kvs))) H7) ⟨_, rfl, Ex.refl⟩ (fun i σ H7 _ ⟨_, _, x⟩ => ea x) (fun i v σ H7 H8 hi h y => ?_) fun σ H7 h => ?_⟩⟩
    · obtain ⟨o3, rfl, x7⟩ := h
      obtain ⟨rfl, k, v2, ek, rfl⟩ := y
      obtain ⟨l, el, r1, b, r2, r3⟩ := paired_get pr ek
      have r1 : k = Sum.inr l.1 := r1
      have r2 : v2 = .ref b := r2
      subst r1 r2
      obtain ⟨o1, nb, lo⟩ := lok l (List.mem_of_getElem? el)
      have vv : ∃ l2 b2, valV kvs (Sum.inr l.1) = some (.ref b2) ∧ H b2 = some (.dK (ldV l2)) ∧ LeadOk vals wh l2 := by
        rcases look_val pr l.1 with ⟨z, _⟩ | ⟨l2, b2, z1, z2, z3⟩
        · have := look_mem (List.mem_map_of_mem (f := (·.1)) (List.mem_of_getElem? el))
          rw [z] at this
          cases this
        · refine ⟨l2, b2, z2, z3, ?_⟩
          unfold look at z1
          obtain ⟨p, e1, e2⟩ := Option.map_eq_some_iff.mp z1
          exact e2 ▸ (lok p (List.mem_of_find?_eq_some e1)).2.2
      obtain ⟨l2, b2, vv, hb2, lo2⟩ := vv
      have ne : HO.dK (ldV l2) ≠ HO.dK kvs := fun z => by
        injection z with z
        have m : ((Sum.inr l.1 : Key), V.ref b) ∈ ldV l2 := z ▸ List.mem_of_getElem? ek
        unfold ldV at m
        obtain ⟨q, _, eq⟩ := List.mem_map.mp m
        have e2 : V.str q.2 = V.ref b := congrArg Prod.snd eq
        cases e2
      refine ⟨.str l.1, rfl, .str l.1, "str", rfl, str_kd (by have := okS_len o1; omega), fun H8 x8 => ⟨_, rfl, ?_⟩⟩
      have y8 := x7.trans x8
      rw [show isWd (.str l.1) = true from o1]
      refine ⟨.str l.1, rfl, .ref bl, rfl, bl, bs.map V.str, rfl, .inl (lockL y8 sb), rfl, flat_strs bs, _, rfl, ?_⟩
      rw [inV_strs, decide_eq_false nb]
      refine ⟨.ref a, rfl, .str l.1, rfl, a, .ref b2, rfl, vv ▸ .inl ⟨kvs, Sum.inr l.1, .inr ⟨od, ea y8⟩, rfl, rfl⟩, .ref kt, rfl, .bl wh, rfl, b2, kt, l2, vals, wh, rfl, lock_ne ha y8 hb2 ne, lock_sqT ha y8 sk, vl, vo, lo2, fun H9 x9 => ⟨_, rfl, ?_⟩⟩
      exact ⟨_, rfl, y8.trans x9⟩
    · obtain ⟨o3, rfl, x7⟩ := h
      refine ⟨ea x7, Nat.zero_le _, fun p np => ?_⟩
      have xu := Ex.unlock ha x7
      exact hQ p _ (xu.trans (Ex.new np)) (xu.none np) upd_same

end
end TH

/-! A22: o.f as a target; dict comprehensions over any walk; ordered -/
namespace TH
open PySem PySem.Spec PyProof.Rows L2 LamV LamX XK0
open C8 (pss_cut tCut)
/-- o.f = .. -/
def gFld (K : PySem.W.Frag) (ta : TE) (f : Str) : TG := fun v σ H Q => ta σ H fun x H1 => ∃ a C dx fs, x = .ref a ∧ H1 a = some (.ins C dx fs) ∧ Cls K C ∧ NoAttr K C f ∧ fs.length < 1000 ∧ Q σ (upd H1 a (.ins C dx (putF f v fs)))
theorem pg_fld {X : Cx} {o : Expr} {f : Str} {pos : Pos} {ta : TE} (ha : PE X o ta)
    (hb : ∀ v, assign (.Attribute o f pos) X.env v = (do
      let ov ← holding [v] (eval o X.env)
      standAt pos.atName
      holding [v, ov] (setAttr ov f v)
      release [v, ov] []) := by intro _; rfl) : PG X (.Attribute o f pos) (gFld X.K ta f) := by
  refine ⟨fun pins s σ H v u Q I r h => ?_⟩
  rw [hb]
  refine wpAny_bind (wpAny_holding (thn (ha.run pins s σ H _ I h) fun ov s1 ⟨x, H1, I1, rx, a, C, dx, fs, ex, ea, c, n, l, q⟩ => ?_))
  subst ex
  obtain rfl : ov = Value.ref a := rx
  refine wpAny_bind (wpAny_standAt (wpAny_bind (wpAny_holding (setattr_ok I1 ea c n l r fun s2 I2 => ?_))))
  exact wpAny_release ⟨σ, _, I2, q⟩
/-- a dict comprehension over any walk -/
theorem dc_it {J : L2.It} {n : Nat} {G : Hp → Prop} {Y : Nat → Hp → V → Hp → Prop} (w : Walk J n G Y) {g : TG} {tt : TT} {tk tv : TE} {vs : List Nat} {σ : L2.St} {H1 : Hp} {D : Addr} {Qd : Hp → Prop} (Pv : Nat → Hp → Prop) (h0 : Pv 0 (upd H1 D (.dK []))) (hG : ∀ i H, i ≤ n → Pv i H → G H)
    (hs : ∀ i x H H', i < n → Pv i H → Y i H x H' → g x (wipe σ vs) H' fun σ2 H2 => wipe σ2 vs = wipe σ vs ∧ tt σ2 H2 fun b H3 =>
      if b = true then tk σ2 H3 fun y H4 => tv σ2 H4 fun z H5 => ∃ kvs k, y = kV k ∧ H5 D = some (.dK kvs) ∧ kvs.length < sizeLine ∧ Pv (i + 1) (upd H5 D (.dK (putK kvs k z))) else Pv (i + 1) H3) (hd : ∀ H, Pv n H → Qd H) :
    ∃ W : Nat → Nat → Hp → Prop, (∃ m, W 0 m (upd H1 D (.dK []))) ∧ ∀ i m H, W i m H →
      (J.stop i H ∧ Qd H) ∨ (J.go i H ∧ ∃ Nx : Hp → Prop, (∀ H', Nx H' → ∃ m', m' < m ∧ W (i + 1) m' H') ∧ ∀ x H', J.yld i H x H' → g x (wipe σ vs) H' fun σ2 H2 => wipe σ2 vs = wipe σ vs ∧ tt σ2 H2 fun b H3 =>
        if b = true then tk σ2 H3 fun y H4 => tv σ2 H4 fun z H5 => ∃ kvs k, y = kV k ∧ H5 D = some (.dK kvs) ∧ kvs.length < sizeLine ∧ Nx (upd H5 D (.dK (putK kvs k z))) else Nx H3) := by
  refine ⟨fun i m H => m = n - i ∧ i ≤ n ∧ Pv i H, ⟨n, by simp, Nat.zero_le _, h0⟩, ?_⟩
  rintro i m H ⟨rfl, hi, p⟩
  have q := hG i H hi p
  by_cases hlt : i < n
  · exact .inr ⟨w.goes i H hlt q, Pv (i + 1), fun H' p' => ⟨n - (i + 1), by omega, rfl, hlt, p'⟩, fun x H' y => hs i x H H' hlt p (w.yields i H x H' hlt q y)⟩
  · have e : i = n := by omega
    subst e
    exact .inl ⟨w.stops H q, hd H p⟩
/-! ### ordered -/
abbrev sOrdered : Stmt := top 18
def ordL (vals : List Str) (l : Ld) : Ld := vals.filterMap fun v => (lookL l v).map fun g => (v, g)
theorem ordL_snoc (vals : List Str) (v : Str) (l : Ld) : ordL (vals ++ [v]) l = ordL vals l ++ (match lookL l v with | some g => [(v, g)] | none => []) := by
  unfold ordL
  rw [List.filterMap_append]
  congr 1
  cases h : lookL l v <;> simp [h]
theorem ordL_keys {vals : List Str} {l : Ld} {v : Str} (h : v ∈ (ordL vals l).map (·.1)) : v ∈ vals := by
  obtain ⟨q, hq, rfl⟩ := List.mem_map.mp h
  unfold ordL at hq
  obtain ⟨u, hu, e⟩ := List.mem_filterMap.mp hq
  obtain ⟨g, _, rfl⟩ := Option.map_eq_some_iff.mp e
  exact hu
theorem ordL_len (vals : List Str) (l : Ld) : (ordL vals l).length ≤ vals.length := List.length_filterMap_le _ _
theorem ldV_keys (l : Ld) : (ldV l).map (·.1) = (l.map (·.1)).map Sum.inr := by
  unfold ldV
  rw [List.map_map, List.map_map]
  rfl
/-- the inner dict -/
def tIN (K : PySem.W.Frag) : TE := tDc (iList K (tVar 1)) (gName 3) (tTest (tDIn (tVar 3) (tDGet (tVar 0) (tVar 2)))) (tVar 3) (tDGet (tDGet (tVar 0) (tVar 2)) (tVar 3)) [3]
theorem take_fresh {α : Type} {xs : List α} {i : Nat} {x : α} (nd : xs.Nodup) (e : xs[i]? = some x) : x ∉ xs.take i := fun m => by
  have nn := List.nodup_append.mp (show (xs.take i ++ xs.drop i).Nodup by rw [List.take_append_drop]; exact nd)
  refine nn.2.2 _ m _ ?_ rfl
  obtain ⟨lt, e⟩ := List.getElem?_eq_some_iff.mp e
  rw [List.drop_eq_getElem_cons lt, e]
  exact List.mem_cons_self
theorem inner_go {K : PySem.W.Frag} {σ : L2.St} {H : Hp} {Q : VK} {a kl b : Addr} {name : Str} {kvs : List (Key × V)} {l : Ld} {vals : List Str} (len : σ.length = 4) (s0 : σ[0]? = some (some (.ref a))) (s1 : σ[1]? = some (some (.ref kl))) (s2 : σ[2]? = some (some (.str name)))
    (ha : H a = some (.dK kvs)) (hv : valV kvs (Sum.inr name) = some (.ref b)) (hb : H b = some (.dK (ldV l))) (hk : SqL K H kl (vals.map V.str)) (nd : vals.Nodup) (vl : vals.length ≤ 1000)
    (hQ : ∀ (p : Addr) (H' : Hp), Ex H H' → H p = none → H' p = some (.dK (ldV (ordL vals l))) → Q (.ref p) H') : tIN K σ H Q := by
  refine ⟨.ref kl, s1, kl, rfl, ⟨_, hk⟩, fun D nD => ?_⟩
  refine dc_it (walk_list (xs := vals.map V.str)) (fun i H2 => Ex H H2 ∧ H2 D = some (.dK (ldV (ordL (vals.take i) l)))) ⟨Ex.new nD, upd_same⟩ (fun i H2 _ h => h.1.sqL hk) (fun i v H2 H3 hi h y => ?_) fun H2 h => ?_
  · obtain ⟨x2, hD⟩ := h
    obtain ⟨rfl, y⟩ := y
    rw [List.getElem?_map] at y
    obtain ⟨w, ew, rfl⟩ := Option.map_eq_some_iff.mp y
    have a3 : (((wipe σ [3]).set 3 (some (V.str w))))[3]? = some (some (V.str w)) := List.getElem?_set_self (by rw [wipe_length, len]; decide)
    have up : ∀ j, j ≠ 3 → (((wipe σ [3]).set 3 (some (V.str w))))[j]? = σ[j]? := fun j hj => by
      rw [List.getElem?_set_ne hj.symm]
      exact List.getElem?_set_ne hj.symm
    have a0 := (up 0 (by decide)).trans s0
    have a2 := (up 2 (by decide)).trans s2
    have g1 : DGet H3 a (.str name) (some (.ref b)) := hv ▸ DGet.k (k := Sum.inr name) (x2 _ _ ha)
    have g2 : DGet H3 b (.str w) (valV (ldV l) (Sum.inr w)) := DGet.k (k := Sum.inr w) (x2 _ _ hb)
    refine ⟨?_, .str w, a3, .ref a, a0, .str name, a2, a, .ref b, rfl, g1, b, _, rfl, g2, _, rfl, ?_⟩
    · show ((σ.set 3 none).set 3 (some (V.str w))).set 3 none = σ.set 3 none
      rw [List.set_set, List.set_set]
    rw [List.take_add_one, ew, Option.toList_some, ordL_snoc]
    rw [lookL_val] at g2 ⊢
    cases q : lookL l w with
    | none => exact ⟨x2, by rw [List.append_nil]; exact hD⟩
    | some g =>
      rw [q] at g2
      have fr : (Sum.inr w : Key) ∉ (ldV (ordL (vals.take i) l)).map (·.1) := fun z => by
        rw [ldV_keys] at z
        obtain ⟨u, mu, eu⟩ := List.mem_map.mp z
        cases eu
        exact take_fresh nd ew (ordL_keys mu)
      have ln : (ldV (ordL (vals.take i) l)).length ≤ vals.length := by
        unfold ldV
        rw [List.length_map]
        exact Nat.le_trans (ordL_len _ _) (by rw [List.length_take]; exact Nat.min_le_right _ _)
      refine ⟨.str w, a3, .ref a, a0, .str name, a2, a, .ref b, rfl, g1, .str w, a3, b, .str g, rfl, g2, _, Sum.inr w, rfl, hD, by rw [sizeLine_eq]; omega, fun c o e => (upd_ne fun z => by rw [z, nD] at e; cases e).trans (x2 _ _ e), ?_⟩
      rw [upd_same, putK_fresh fr]
      unfold ldV
      rw [List.map_append]
      rfl
  · obtain ⟨x2, hD⟩ := h
    rw [List.length_map, List.take_length] at hD
    exact hQ D H2 x2 nD hD
/-- as PR, none of the dicts being N -/
def PRn (N : Addr) (H : Hp) (lds : Lds) (kvs : List (Key × V)) : Prop := Paired (fun (l : Str × Ld) (kv : Key × V) => kv.1 = Sum.inr l.1 ∧ ∃ b, kv.2 = .ref b ∧ b ≠ N ∧ H b = some (.dK (ldV l.2))) lds kvs
theorem PRn.pr {N : Addr} {H : Hp} {lds : Lds} {kvs : List (Key × V)} (p : PRn N H lds kvs) : PR H lds kvs := Paired.mapP p fun _ _ ⟨e1, b, e2, _, e3⟩ => ⟨e1, b, e2, e3⟩
def ordD (vals : List Str) (lds : Lds) (ns : List Str) : Lds := ns.map fun n => (n, ordL vals ((look lds n).getD []))
def spOrdered (K : PySem.W.Frag) : Sp := fun vs H Q _ => ∃ (a kl : Addr) (lds : Lds) (vals : List Str), vs = [.ref a, .ref kl] ∧ DD H a lds ∧ (lds.map (·.1)).Nodup ∧ lds.length < 64 ∧ SqL K H kl (vals.map V.str) ∧ vals.Nodup ∧ vals.length ≤ 1000 ∧
  ∀ (p : Addr) (H' : Hp) (ns : List Str), ns.Perm (lds.map (·.1)) → sortedS ns = true → Ex H H' → H p = none → DD H' p (ordD vals lds ns) → Q (.ref p) H'
section
variable {P : Program} {w : World} {K : PySem.W.Frag} {mg : Str → Option Value} {base : Heap} {f C CN CB : Addr} {fd : FuncData}
theorem scOrdered : FnScope ["leads", "known", "name", "value"] ["leads", "known"] (defScope sOrdered) := ⟨rfl, rfl, rfl, by decide +kernel, rfl, by decide +kernel, by decide +kernel⟩
theorem ok_ordered (F : FnP K "ordered" sOrdered f fd) (gs : mg "sorted" = none) : FnOk P w K mg base CX0 1 f fd ["leads", "known"] (spOrdered K) := by
  refine F.ok scOrdered (fun vs H Q E h => ?_) (fun cdv A outer s H vs Q E hr h => ?_)
  · obtain ⟨a, kl, lds, vals, rfl, _⟩ := h
    rfl
  · have hu := hu_of hr
    refine ⟨_, PSs.nox (pss_one (ps_ret (pe_dc (own := [("name", 2)]) (tk := tVar 2) (tv := tIN K) rfl scOrdered.nd (pi_list (pe_callB (call_sortedD rfl) rfl gs boot_sorted (pa_cons (pv 0) pa_nil))) (blkOk_by (by kernel_rfl)) (fun s H C cl fp => pg_name (i := 2) scOrdered.nd rfl (.inr rfl) (.inl rfl)) (fun s H C cl fp => pts_nil) (fun s H C cl fp => pv 2)
      (fun s H C cl fp => pe_dc (own := [("value", 3)]) (tt := tTest (tDIn (tVar 3) (tDGet (tVar 0) (tVar 2)))) (tk := tVar 3) (tv := tDGet (tDGet (tVar 0) (tVar 2)) (tVar 3)) rfl scOrdered.nd (pi_list (pv 1)) (blkOk_by (by kernel_rfl)) (fun s H C cl fp => pg_name (i := 3) scOrdered.nd rfl (.inl rfl) (.inr rfl))
        (fun s H C cl fp => pts_one (pt_cmp (pc_din hu (pv 3) (pe_dget hu (pv 0) (pv 2) (fun _ _ => rfl))))) (fun s H C cl fp => pv 3) (fun s H C cl fp => pe_dget hu (pe_dget hu (pv 0) (pv 2) (fun _ _ => rfl)) (pv 3) (fun _ _ => rfl)))))), ?_⟩
    obtain ⟨a, kl, lds, vals, rfl, ⟨kvs, ha, pr⟩, knd, kln, sk, nd, vl, hQ⟩ := h
    refine ⟨.ref a, rfl, a, kvs, lds.map (·.1), rfl, .inl ha, PR.keys pr, by rw [List.length_map]; exact kln, fun ns q pm so nq => ?_⟩
    have x1 : Ex H (upd H q (.lst (ns.map V.str))) := Ex.new nq
    have hq : upd H q (.lst (ns.map V.str)) q = some (.lst (ns.map V.str)) := upd_same
    generalize upd H q (.lst (ns.map V.str)) = H1 at x1 hq ⊢
    refine ⟨q, rfl, ⟨_, .inl (.inl hq)⟩, fun D nD => ?_⟩
    have nnd : ns.Nodup := pm.nodup_iff.mpr knd
    have nln : ns.length < 64 := by rw [pm.length_eq, List.length_map]; exact kln
    refine dc_it (walk_list (xs := ns.map V.str)) (fun i H2 => Ex H1 H2 ∧ ∃ ks, H2 D = some (.dK ks) ∧ PRn D H2 (ordD vals lds (ns.take i)) ks) ⟨Ex.new nD, [], upd_same, .nil⟩ (fun i H2 _ h => .inl (.inl (h.1 _ _ hq))) (fun i v H2 H3 hi h y => ?_) fun H2 h => ?_
    · obtain ⟨x2, ks, hD, pk⟩ := h
      obtain ⟨rfl, y⟩ := y
      rw [List.getElem?_map] at y
      obtain ⟨n, en, rfl⟩ := Option.map_eq_some_iff.mp y
      have y2 := x1.trans x2
      have mn : n ∈ lds.map (·.1) := pm.mem_iff.mp (List.mem_of_getElem? en)
      rcases look_val pr n with ⟨z, _⟩ | ⟨l, b, z1, z2, z3⟩
      · have := look_mem mn
        rw [z] at this
        cases this
      · refine ⟨rfl, .str n, rfl, ?_⟩
        refine inner_go (b := b) (l := l) rfl rfl rfl rfl (y2 _ _ ha) z2 (y2 _ _ z3) (y2.sqL sk) nd vl fun p H4 x4 np hp => ?_
        have fr : (Sum.inr n : Key) ∉ ks.map (·.1) := fun z => by
          rw [pk.pr.keys] at z
          obtain ⟨u, mu, eu⟩ := List.mem_map.mp z
          cases eu
          unfold ordD at mu
          rw [List.map_map] at mu
          obtain ⟨u, m2, e2⟩ := List.mem_map.mp mu
          have e2 : u = n := e2
          subst e2
          exact take_fresh nnd en m2
        have kl2 : ks.length < 64 := by
          have e := congrArg List.length pk.pr.keys
          unfold ordD at e
          simp only [List.length_map, List.length_take] at e
          omega
        have pD : p ≠ D := fun z => by rw [z, hD] at np; cases np
        refine ⟨ks, Sum.inr n, rfl, x4 _ _ hD, by rw [sizeLine_eq]; omega, fun c o e => (upd_ne fun z => by rw [z, nD] at e; cases e).trans (x4 _ _ (x2 _ _ e)), _, upd_same, ?_⟩
        rw [putK_fresh fr, List.take_add_one, en, Option.toList_some]
        unfold ordD
        rw [List.map_append]
        refine paired_app (Paired.mapP pk fun l' kv ⟨q1, b', q2, q4, q3⟩ => ⟨q1, b', q2, q4, (upd_ne q4).trans (x4 _ _ q3)⟩) ⟨rfl, p, rfl, pD, (upd_ne pD).trans ?_⟩
        rw [hp]
        show _ = some (HO.dK (ldV (ordL vals ((look lds n).getD []))))
        rw [z1]
        rfl
    · obtain ⟨x2, ks, hD, pk⟩ := h
      rw [List.length_map, List.take_length] at pk
      exact hQ D H2 ns pm so (x1.trans x2) (x1.none nD) ⟨ks, hD, pk.pr⟩
end
end TH

/-! A23: Thing.__init__ of right parts, _law_made -/
namespace TH
open PySem PySem.Spec PyProof.Rows L2 LamV LamX XK0
open C8 (pss_cut tCut)
abbrev sInit : Stmt := inClass (top 19) 0
abbrev sMade : Stmt := top 45
/-- all but p stands -/
def ExA (p : Addr) (H H' : Hp) : Prop := ∀ b o, b ≠ p → H b = some o → H' b = some o
theorem Ex.exA {p : Addr} {H H' : Hp} (x : Ex H H') : ExA p H H' := fun b o _ e => x b o e
theorem ExA.trans {p : Addr} {H H1 H2 : Hp} (x : ExA p H H1) (y : ExA p H1 H2) : ExA p H H2 := fun b o n e => y b o n (x b o n e)
theorem ExA.upd {p : Addr} {H : Hp} {o : HO} : ExA p H (upd H p o) := fun b _ n e => (upd_ne n).trans e
theorem ExA.non {p b : Addr} {H H' : Hp} {o u : HO} (x : ExA p H H') (hp : H p = some u) (h : H b = some o) (n : o ≠ u) : H' b = some o := x b o (fun z => n (by rw [z, hp] at h; exact (Option.some.inj h).symm)) h
theorem ExA.sqL {K : PySem.W.Frag} {p a : Addr} {H H' : Hp} {C dx : Addr} {fs : List (Str × V)} {xs : List V} (x : ExA p H H') (hp : H p = some (.ins C dx fs)) (h : SqL K H a xs) : SqL K H' a xs := h.imp (Or.imp (fun z => x.non hp z fun q => nomatch q) fun ⟨o, z⟩ => ⟨o, x.non hp z fun q => nomatch q⟩) id
theorem ExA.sqT {K : PySem.W.Frag} {p a : Addr} {H H' : Hp} {C dx : Addr} {fs : List (Str × V)} {xs : List V} (x : ExA p H H') (hp : H p = some (.ins C dx fs)) (h : SqT K H a xs) : SqT K H' a xs := h.imp (Or.imp (fun z => x.non hp z fun q => nomatch q) fun ⟨o, z⟩ => ⟨o, x.non hp z fun q => nomatch q⟩) id
theorem DD.exA {p a : Addr} {H H' : Hp} {C dx : Addr} {fs : List (Str × V)} {ls : Lds} (x : ExA p H H') (hp : H p = some (.ins C dx fs)) (h : DD H a ls) : DD H' a ls := by
  obtain ⟨kvs, e, q⟩ := h
  exact ⟨kvs, x.non hp e (fun z => nomatch z), Paired.mapP q fun _ _ ⟨e1, b, e2, e3⟩ => ⟨e1, b, e2, x.non hp e3 fun z => nomatch z⟩⟩
theorem putF_new {f : Str} {v : V} : ∀ {fs : List (Str × V)}, f ∉ fs.map (·.1) → putF f v fs = fs ++ [(f, v)]
  | [], _ => rfl
  | (g, x) :: r, h => by
    simp only [List.map_cons, List.mem_cons, not_or] at h
    show (if g = f then (g, v) :: r else (g, x) :: putF f v r) = _
    rw [if_neg fun z => h.1 z.symm, putF_new h.2]
    rfl
/-- parts that Thing takes -/
structure ThD.Fit (d : ThD) : Prop where
  vne : d.vals ≠ []
  vok : ∀ x ∈ d.vals, okS x = true
  vnd : d.vals.Nodup
  vln : d.vals.length ≤ 60
  st : d.start ∈ d.vals
  dln : d.deeds.length < 60
  eln : d.ents.length < 60
  dnd : (d.deeds.map (·.1)).Nodup
  end_ : (d.ents.map (·.1)).Nodup
  dok : ∀ l ∈ d.deeds, okS l.1 = true ∧ LeadOk d.vals true l.2
  eok : ∀ l ∈ d.ents, okS l.1 = true ∧ l.1 ∉ d.deeds.map (·.1) ∧ LeadOk d.vals false l.2
/-- the thing made of such parts: names in order, values in theirs -/
def IsOrd (d d' : ThD) : Prop := ∃ ns ms, ns.Perm (d.deeds.map (·.1)) ∧ sortedS ns = true ∧ ms.Perm (d.ents.map (·.1)) ∧ sortedS ms = true ∧ d' = ⟨d.vals, d.start, ordD d.vals d.deeds ns, ordD d.vals d.ents ms⟩
def spInit (K : PySem.W.Frag) (C : Addr) : Sp := fun vs H Q _ => ∃ (p dx vl dd de : Addr) (d : ThD), vs = [.ref p, .ref vl, .str d.start, .ref dd, .ref de] ∧ H p = some (.ins C dx []) ∧ SqL K H vl (d.vals.map V.str) ∧ DD H dd d.deeds ∧ DD H de d.ents ∧ d.Fit ∧
  ∀ (H' : Hp) (d' : ThD), ExA p H H' → IsTh H' C p d' → IsOrd d d' → Q .non H'
section
variable {P : Program} {w : World} {K : PySem.W.Frag} {mg : Str → Option Value} {base : Heap} {f C CN CB : Addr} {fd : FuncData}
theorem scInit : FnScope ["self", "values", "start", "deeds", "entries", "index", "wrong"] ["self", "values", "start", "deeds", "entries"] (defScope sInit) := ⟨rfl, rfl, rfl, by decide +kernel, rfl, by decide +kernel, by decide +kernel⟩
def f2 (a b : V) : List (Str × V) := [("kept_values", a), ("kept_start", b)]
def f4 (a b c d : V) : List (Str × V) := [("kept_values", a), ("kept_start", b), ("kept_deeds", c), ("kept_entries", d)]
theorem flds2 (a b : V) : putF "kept_start" b (putF "kept_values" a []) = f2 a b := by
  have n1 : ("kept_start" : Str) ∉ ([("kept_values" : Str)] : List Str) := by decide +kernel
  exact putF_new (fs := [(("kept_values" : Str), a)]) n1
theorem flds4 (a b c d : V) : putF "kept_entries" d (putF "kept_deeds" c (f2 a b)) = f4 a b c d := by
  have n2 : ("kept_deeds" : Str) ∉ ([("kept_values" : Str), "kept_start"] : List Str) := by decide +kernel
  have n3 : ("kept_entries" : Str) ∉ ([("kept_values" : Str), "kept_start", "kept_deeds"] : List Str) := by decide +kernel
  rw [putF_new (f := "kept_deeds") (fs := f2 a b) n2]
  exact putF_new (fs := f2 a b ++ [(("kept_deeds" : Str), c)]) n3
theorem ok_init (F : FunD K "__init__" "Thing.__init__" (defArgs sInit) (defBody sInit) (defScope sInit) [] [] f fd) (T : ThC K C) (FB : Has P w K mg base "first_bad_word" 2 ["things", "barred"] (spFirstBad K)) (FW : Has P w K mg base "is_word" 1 ["thing"] (spIsWord K)) (FR : Has P w K mg base "first_wrong" 3 ["leads", "known", "barred", "is_whole"] (spFirstWrong K)) (FO : Has P w K mg base "ordered" 1 ["leads", "known"] (spOrdered K)) (gn : mg "len" = none) (gt : mg "tuple" = none) (gl : mg "list" = none) :
    FnOk P w K mg base CX0 4 f fd ["self", "values", "start", "deeds", "entries"] (spInit K C) := by
  refine F.ok scInit (fun vs H Q E h => ?_) (fun cdv A outer s H vs Q E hr h => ?_)
  · obtain ⟨p, dx, vl, dd, de, d, rfl, _⟩ := h
    rfl
  · have hu := hu_of hr
    refine ⟨_, PSs.nox (pss_cons (ps_set (i := 5) scInit.nd rfl (.inl rfl) (pe_has FB hr (by decide) rfl (pa_cons (pv 1) (pa_cons (pe_lst pa_nil) pa_nil))))
      (pss_cons (ps_if (PW.pt (pw_or (pt_cmp (pc_notN (pv 5))) (pw_or1 (pt_cmp (pc_eqI (pe_callB call_len rfl gn boot_len (pa_cons (pv 1) pa_nil)) pe_int))))) (pss_one ps_dead) pss_nil)
      (pss_cons (ps_if (PW.pt (pw_or (pt_not (pt_val (pe_has FW hr (by decide) rfl (pa_cons (pv 2) pa_nil)))) (pw_or1 (pt_cmpR op_notIn_seq (pv 2) (pv 1) (by with_unfolding_all rfl))))) (pss_one ps_dead) pss_nil)
      (pss_cons (ps_asg (pe_tup (pa_cons (pe_callTy call_tuple_of rfl gt boot_tuple (pa_cons (pv 1) pa_nil)) (pa_cons (pv 2) pa_nil))) (pg_tup rfl (pgs_cons (pg_fld (pv 0)) (pgs_cons (pg_fld (pv 0)) pgs_nil))))
      (pss_cons (ps_set (i := 6) scInit.nd rfl (.inl rfl) (pe_has FR hr (by decide) rfl (pa_cons (pv 3) (pa_cons (pe_fld (pv 0) rfl) (pa_cons (pe_lst pa_nil) (pa_cons pe_bl pa_nil))))))
      (pss_cons (ps_if (pt_cmpR (op_neD hr.units) (pv 6) (pe_lst pa_nil) (nomark _)) (pss_one ps_dead) pss_nil)
      (pss_cons (ps_set (i := 6) scInit.nd rfl (.inl rfl) (pe_has FR hr (by decide) rfl (pa_cons (pv 4) (pa_cons (pe_fld (pv 0) rfl) (pa_cons (pe_callTy (call_listD rfl) rfl gl boot_list (pa_cons (pv 3) pa_nil)) (pa_cons pe_bl pa_nil))))))
      (pss_cons (ps_if (pt_cmpR (op_neD hr.units) (pv 6) (pe_lst pa_nil) (nomark _)) (pss_one ps_dead) pss_nil)
      (pss_one (ps_asg (pe_tup (pa_cons (pe_has FO hr (by decide) rfl (pa_cons (pv 3) (pa_cons (pv 1) pa_nil))) (pa_cons (pe_has FO hr (by decide) rfl (pa_cons (pv 4) (pa_cons (pv 1) pa_nil))) pa_nil))) (pg_tup rfl (pgs_cons (pg_fld (pv 0)) (pgs_cons (pg_fld (pv 0)) pgs_nil))))))))))))), ?_⟩
    obtain ⟨p, dx, vl, dd, de, d, rfl, hp, sv, hdd, hde, ft, hQ⟩ := h
    refine ⟨.ref vl, rfl, Nat.zero_le _, fun e0 n0 => ?_⟩
    have x0 : Ex H (upd H e0 (.lst [])) := Ex.new n0
    refine ⟨.ref vl, e0, rfl, upd_same, .inr ⟨vl, d.vals.map V.str, rfl, .inl (x0.sqL sv), by rw [List.length_map]; have := ft.vln; omega, fun v m => ?_, fun H1 x1 => ?_⟩⟩
    · obtain ⟨x, mx, rfl⟩ := List.mem_map.mp m
      exact ⟨_, str_kd (by have := okS_len (ft.vok x mx); omega)⟩
    have fn : fbw (d.vals.map V.str) [] 0 = none := fbw_none d.vals [] 0 ft.vok ft.vnd fun _ _ z => nomatch z
    rw [fn]
    have y1 := x0.trans x1
    have vpos : 0 < d.vals.length := List.length_pos_iff.mpr ft.vne
    refine ⟨.non, rfl, _, rfl, .ref vl, rfl, .ref vl, d.vals.length, rfl, .inl ⟨_, y1.sqL sv, by rw [List.length_map]⟩, d.vals.length, 0, rfl, rfl, false, congrArg V.bl (decide_eq_false (by omega)), ?_⟩
    refine ⟨.str d.start, rfl, .str d.start, "str", rfl, str_kd (by have := okS_len (ft.vok _ ft.st); omega), fun H2 x2 => ⟨_, rfl, ?_⟩⟩
    have y2 := y1.trans x2
    rw [show isWd (.str d.start) = true from ft.vok _ ft.st]
    refine ⟨.str d.start, rfl, .ref vl, rfl, vl, _, rfl, .inl (y2.sqL sv), rfl, flat_strs _, _, rfl, ?_⟩
    rw [inV_strs, decide_eq_true ft.st]
    refine ⟨.ref vl, rfl, vl, _, rfl, .inl ⟨y2.sqL sv, fun vt nvt => ⟨.str d.start, rfl, by show 2 ≤ sizeLine; decide, fun tp ntp => ?_⟩⟩⟩
    have y3 : Ex H2 (upd (upd H2 vt (.tup (d.vals.map V.str))) tp (.tup [.ref vt, .str d.start])) := (Ex.new nvt).trans (Ex.new ntp)
    have hvt : upd (upd H2 vt (.tup (d.vals.map V.str))) tp (.tup [.ref vt, .str d.start]) vt = some (.tup (d.vals.map V.str)) := (Ex.new ntp) _ _ upd_same
    have htp : upd (upd H2 vt (.tup (d.vals.map V.str))) tp (.tup [.ref vt, .str d.start]) tp = some (.tup [.ref vt, .str d.start]) := upd_same
    generalize upd (upd H2 vt (.tup (d.vals.map V.str))) tp (.tup [.ref vt, .str d.start]) = H3 at y3 hvt htp ⊢
    have z3 := y2.trans y3
    have hp3 := z3 _ _ hp
    refine ⟨tp, _, rfl, .inl (.inl htp), rfl, .ref vt, _, rfl, .ref p, rfl, p, C, dx, _, rfl, hp3, T.cls, T.vals, by decide, .str d.start, [], rfl, .ref p, rfl, p, C, dx, _, rfl, upd_same, T.cls, T.start, by show 1 < 1000; decide, rfl, ?_⟩
    have xa : ExA p H (upd (upd H3 p (.ins C dx (putF "kept_values" (.ref vt) []))) p (.ins C dx (putF "kept_start" (.str d.start) (putF "kept_values" (.ref vt) [])))) := (z3.exA.trans ExA.upd).trans ExA.upd
    have hp4 : upd (upd H3 p (.ins C dx (putF "kept_values" (.ref vt) []))) p (.ins C dx (putF "kept_start" (.str d.start) (putF "kept_values" (.ref vt) []))) p = _ := upd_same
    have hvt4 : upd (upd H3 p (.ins C dx (putF "kept_values" (.ref vt) []))) p (.ins C dx (putF "kept_start" (.str d.start) (putF "kept_values" (.ref vt) []))) vt = some (.tup (d.vals.map V.str)) := ((ExA.upd (p := p) (H := H3)).trans ExA.upd).non hp3 hvt fun q => nomatch q
    generalize upd (upd H3 p (.ins C dx (putF "kept_values" (.ref vt) []))) p (.ins C dx (putF "kept_start" (.str d.start) (putF "kept_values" (.ref vt) []))) = H4 at xa hp4 hvt4 ⊢
    rw [flds2] at hp4
    have S4 : ∀ {Hx}, Ex H4 Hx → Hx p = some (.ins C dx (f2 (.ref vt) (.str d.start))) ∧ Hx vt = some (.tup (d.vals.map V.str)) ∧ SqL K Hx vl (d.vals.map V.str) ∧ DD Hx dd d.deeds ∧ DD Hx de d.ents := fun x => ⟨x _ _ hp4, x _ _ hvt4, x.sqL (xa.sqL hp sv), (hdd.exA xa hp).ex x, (hde.exA xa hp).ex x⟩
    clear hvt htp hvt4
    refine ⟨.ref dd, rfl, .ref p, rfl, p, C, dx, _, .ref vt, rfl, hp4, T.cls, T.vals, rfl, Nat.zero_le _, fun e1 ne1 => ?_⟩
    have w1 : Ex H4 (upd H4 e1 (.lst [])) := Ex.new ne1
    obtain ⟨a1, a2, a3, a4, a5⟩ := S4 w1
    refine ⟨dd, vt, e1, d.deeds, d.vals, [], true, rfl, a4, .inl (.inl a2), .inl (.inl upd_same), by have := ft.vln; omega, ft.vok, fun l m => ⟨(ft.dok l m).1, fun z => (nomatch z), (ft.dok l m).2⟩, fun q1 H5 x5 nq1 hq1 => ?_⟩
    have w2 := w1.trans x5
    refine ⟨.ref q1, rfl, Nat.zero_le _, fun e2 n2 => ⟨.list [], .list [], .lst (.inl (.inl ((Ex.new n2) _ _ hq1))) .nil, .lst (.inl (.inl upd_same)) .nil, rfl, rfl, false, rfl, ?_⟩⟩
    have w3 := w2.trans (Ex.new (o := .lst []) n2)
    obtain ⟨b1, b2, b3, b4, b5⟩ := S4 w3
    obtain ⟨kvs, hk, pk⟩ := id b4
    have ek := DD.keys pk fun _ _ r => r.1
    refine ⟨.ref de, rfl, .ref p, rfl, p, C, dx, _, .ref vt, rfl, b1, T.cls, T.vals, rfl, .ref dd, rfl, dd, kvs, rfl, .inl hk, fun bl nbl => ?_⟩
    rw [ek, show (d.deeds.map fun l => V.str l.1) = (d.deeds.map (·.1)).map V.str by rw [List.map_map]; rfl]
    have w4 := w3.trans (Ex.new (o := .lst ((d.deeds.map (·.1)).map V.str)) nbl)
    obtain ⟨c1, c2, c3, c4, c5⟩ := S4 w4
    refine ⟨de, vt, bl, d.ents, d.vals, d.deeds.map (·.1), false, rfl, c5, .inl (.inl c2), .inl (.inl upd_same), by have := ft.vln; omega, ft.vok, ft.eok, fun q2 H6 x6 nq2 hq2 => ?_⟩
    have w5 := w4.trans x6
    refine ⟨.ref q2, rfl, Nat.zero_le _, fun e3 n3 => ⟨.list [], .list [], .lst (.inl (.inl ((Ex.new n3) _ _ hq2))) .nil, .lst (.inl (.inl upd_same)) .nil, rfl, rfl, false, rfl, ?_⟩⟩
    have w6 := w5.trans (Ex.new (o := .lst []) n3)
    obtain ⟨d1, d2, d3, d4, d5⟩ := S4 w6
    refine ⟨.ref dd, rfl, .ref vl, rfl, dd, vl, d.deeds, d.vals, rfl, d4, ft.dnd, by have := ft.dln; omega, d3, ft.vnd, by have := ft.vln; omega, fun r1 H7 ns pm so x7 nr1 hr1 => ?_⟩
    have w7 := w6.trans x7
    obtain ⟨g1, g2, g3, g4, g5⟩ := S4 w7
    refine ⟨.ref de, rfl, .ref vl, rfl, de, vl, d.ents, d.vals, rfl, g5, ft.end_, by have := ft.eln; omega, g3, ft.vnd, by have := ft.vln; omega, fun r2 H8 ms pm2 so2 x8 nr2 hr2 => ?_⟩
    refine ⟨by show 2 ≤ sizeLine; decide, fun tq ntq => ?_⟩
    have w8 := (w7.trans x8).trans (Ex.new (o := .tup [.ref r1, .ref r2]) ntq)
    have htq : upd H8 tq (.tup [.ref r1, .ref r2]) tq = some (.tup [.ref r1, .ref r2]) := upd_same
    have hr1' := (hr1.ex x8).ex (Ex.new (o := .tup [.ref r1, .ref r2]) ntq)
    have hr2' := hr2.ex (Ex.new (o := .tup [.ref r1, .ref r2]) ntq)
    obtain ⟨i1, i2, i3, i4, i5⟩ := S4 w8
    generalize upd H8 tq (.tup [.ref r1, .ref r2]) = H9 at w8 htq hr1' hr2' i1 i2 i3 i4 i5 ⊢
    refine ⟨tq, _, rfl, .inl (.inl htq), rfl, .ref r1, _, rfl, .ref p, rfl, p, C, dx, _, rfl, i1, T.cls, T.deeds, by show 2 < 1000; decide, .ref r2, [], rfl, .ref p, rfl, p, C, dx, _, rfl, upd_same, T.cls, T.ents, by show 3 < 1000; decide, rfl, ?_⟩
    have xF : ExA p H9 (upd (upd H9 p (.ins C dx (putF "kept_deeds" (.ref r1) (f2 (.ref vt) (.str d.start))))) p (.ins C dx (putF "kept_entries" (.ref r2) (putF "kept_deeds" (.ref r1) (f2 (.ref vt) (.str d.start)))))) := ExA.upd.trans ExA.upd
    refine hQ _ ⟨d.vals, d.start, ordD d.vals d.deeds ns, ordD d.vals d.ents ms⟩ ((xa.trans w8.exA).trans xF) ⟨dx, vt, r1, r2, ?_, xF.non i1 i2 (fun z => nomatch z), hr1'.exA xF i1, hr2'.exA xF i1⟩ ⟨ns, ms, pm, so, pm2, so2, rfl⟩
    rw [flds4]
    exact upd_same
/-- the thing of the parts -/
def spMade (K : PySem.W.Frag) (C : Addr) : Sp := fun vs H Q _ => ∃ (pt : Addr) (d : ThD), vs = [.ref pt] ∧ IsPt H pt d ∧ d.Fit ∧ ∀ (t : Addr) (H' : Hp) (d' : ThD), Ex H H' → H t = none → IsTh H' C t d' → IsOrd d d' → Q (.ref t) H'
theorem scMade : FnScope ["_law_parts"] ["_law_parts"] (defScope sMade) := ⟨rfl, rfl, rfl, by decide +kernel, rfl, by decide +kernel, by decide +kernel⟩
theorem ok_made {fI : Addr} {fdI : FuncData} (F : FnP K "_law_made" sMade f fd) (M : Mk K C fI) (gT : mg "Thing" = some (.ref C)) (bI : Binds K fdI ["self", "values", "start", "deeds", "entries"] []) (FI : FnOk P w K mg base CX0 4 fI fdI ["self", "values", "start", "deeds", "entries"] (spInit K C)) : FnOk P w K mg base CX0 6 f fd ["_law_parts"] (spMade K C) := by
  refine F.ok scMade (fun vs H Q E h => ?_) (fun cdv A outer s H vs Q E hr h => ?_)
  · obtain ⟨pt, d, rfl, _⟩ := h
    rfl
  · refine ⟨_, PSs.nox (pss_one (ps_ret (pe_make M FI hr rfl gT bI .nil pass0 (pa_cons (pe_ix ix_tup (pv 0) pe_int (fun _ _ => rfl)) (pa_cons (pe_ix ix_tup (pv 0) pe_int (fun _ _ => rfl)) (pa_cons (pe_ix ix_tup (pv 0) pe_int (fun _ _ => rfl)) (pa_cons (pe_ix ix_tup (pv 0) pe_int (fun _ _ => rfl)) pa_nil))))))), ?_⟩
    obtain ⟨pt, d, rfl, ⟨vl, dd, de, e1, e2, e3, e4⟩, ft, hQ⟩ := h
    refine ⟨.ref pt, rfl, pt, _, 0, .ref vl, rfl, rfl, .inl (.inl e1), rfl, .ref pt, rfl, pt, _, 1, .str d.start, rfl, rfl, .inl (.inl e1), rfl, .ref pt, rfl, pt, _, 2, .ref dd, rfl, rfl, .inl (.inl e1), rfl, .ref pt, rfl, pt, _, 3, .ref de, rfl, rfl, .inl (.inl e1), rfl, fun x dx nx ndx ne => ?_⟩
    have x1 : Ex H (upd (upd H dx (.own x)) x (.ins C dx [])) := fun b o e => (upd_ne fun z => by rw [z, nx] at e; cases e).trans ((upd_ne fun z => by rw [z, ndx] at e; cases e).trans e)
    refine ⟨x, dx, vl, dd, de, d, rfl, upd_same, .inl (.inl (x1 _ _ e2)), e3.ex x1, e4.ex x1, ft, fun H' d' xa th io => ⟨rfl, ?_⟩⟩
    exact hQ x H' d' (fun b o e => xa _ _ (fun z => by rw [z, nx] at e; cases e) (x1 _ _ e)) nx th io
end
end TH

/-! A24: plainly: sorted lists are one, a run is one, it ends, and it only appends -/
namespace TH
open PySem PySem.Spec PyProof.Rows L2 LamV LamX XK0
def leS (a b : Str) : Prop := ¬ b.cps.toList < a.cps.toList
theorem leS_trans {a b c : Str} (h1 : leS a b) (h2 : leS b c) : leS a c := by
  have q1 : a.cps.toList ≤ b.cps.toList := List.not_lt.mp h1
  have q2 : b.cps.toList ≤ c.cps.toList := List.not_lt.mp h2
  exact List.not_lt.mpr (List.le_trans q1 q2)
theorem leS_anti {a b : Str} (h1 : leS a b) (h2 : leS b a) : a = b := by
  have q1 : a.cps.toList ≤ b.cps.toList := List.not_lt.mp h1
  have q2 : b.cps.toList ≤ a.cps.toList := List.not_lt.mp h2
  have e : a.cps.toList = b.cps.toList := List.le_antisymm q1 q2
  cases a
  cases b
  exact congrArg _ (Array.toList_inj.mp e)
theorem rising_pw : ∀ {l : List Str} {p : Str}, risingS p l = true → (p :: l).Pairwise leS
  | [], p, _ => by simp
  | x :: r, p, h => by
    have h : (!ltCps x.cps.toList p.cps.toList && risingS x r) = true := h
    rw [Bool.and_eq_true, Bool.not_eq_true', ltCps_eq, decide_eq_false_iff_not] at h
    have ih := rising_pw h.2
    refine List.pairwise_cons.mpr ⟨fun y m => ?_, ih⟩
    rcases List.mem_cons.mp m with rfl | m
    · exact h.1
    · exact leS_trans h.1 ((List.pairwise_cons.mp ih).1 y m)
theorem sorted_pw {l : List Str} (h : sortedS l = true) : l.Pairwise leS := by
  cases l with
  | nil => exact .nil
  | cons x r => exact rising_pw h
/-- two sorted lists of the same are one -/
theorem sorted_one {l m : List Str} (h1 : sortedS l = true) (h2 : sortedS m = true) (p : l.Perm m) : l = m := p.eq_of_pairwise (le := leS) (fun _ _ _ _ => leS_anti) (sorted_pw h1) (sorted_pw h2)
/-! ### a run -/
theorem Run.one {d : ThD} {ns : List Str} {f : Fnd} {ws : List Str} {a b : Fnd} (h : Run d ns f ws a) : Run d ns f ws b → a = b := by
  induction h with
  | nil f =>
    intro q
    generalize e : ([] : List Str) = w at q
    cases q with
    | nil => rfl
    | step n _ => exact absurd e.symm n
  | step n _ ih =>
    intro q
    cases q with
    | nil => exact absurd rfl n
    | step _ q => exact ih q
theorem led_congr {d d' : ThD} (h : ∀ v n, d'.led v n = d.led v n) : (fun ns => tier d' ns) = fun ns => tier d ns := by
  funext ns f ws
  unfold tier wStep nStep
  simp only [h]
theorem Run.led {d d' : ThD} (h : ∀ v n, d'.led v n = d.led v n) {ns : List Str} {f : Fnd} {ws : List Str} {a : Fnd} (r : Run d' ns f ws a) : Run d ns f ws a := by
  induction r with
  | nil f => exact .nil f
  | step n _ ih =>
    rw [show tier d' ns = tier d ns from congrFun (led_congr h) ns] at ih
    exact .step n ih
/-- a tier appends, its new values are the next tier -/
def App (f : Fnd) (st : Fnd × List Str) : Prop := ∃ nw : Fnd, st = (f ++ nw, nw.map (·.1))
theorem nStep_app {d : ThD} {w n : Str} {f : Fnd} {st : Fnd × List Str} (h : App f st) : App f (nStep d w st n) := by
  obtain ⟨nw, rfl⟩ := h
  unfold nStep
  cases d.led w n with
  | none => exact ⟨nw, rfl⟩
  | some g =>
    dsimp only
    cases rowOf (f ++ nw) g with
    | some r => exact ⟨nw, rfl⟩
    | none => exact ⟨nw ++ [(g, (rowOf (f ++ nw) w).getD [] ++ [n])], by simp⟩
theorem wStep_app {d : ThD} {ns : List Str} {w : Str} {f : Fnd} : ∀ {st : Fnd × List Str}, App f st → App f (wStep d ns st w) := by
  unfold wStep
  induction ns with
  | nil => exact fun h => h
  | cons n r ih => exact fun h => ih (nStep_app h)
theorem tier_app {d : ThD} {ns : List Str} {f : Fnd} {ws : List Str} : App f (tier d ns f ws) := by
  unfold tier
  have : ∀ {st : Fnd × List Str}, App f st → App f (ws.foldl (wStep d ns) st) := by
    induction ws with
    | nil => exact fun h => h
    | cons w r ih => exact fun h => ih (wStep_app h)
  exact this ⟨[], by simp⟩
theorem Run.app {d : ThD} {ns : List Str} {f : Fnd} {ws : List Str} {a : Fnd} (r : Run d ns f ws a) : ∃ more, a = f ++ more := by
  induction r with
  | nil f => exact ⟨[], by simp⟩
  | step n _ ih =>
    rename_i f ws f' _
    obtain ⟨m1, e1⟩ := ih
    obtain ⟨nw, e2⟩ := tier_app (d := d) (ns := ns) (f := f) (ws := ws)
    rw [e2] at e1
    exact ⟨nw ++ m1, by rw [e1, List.append_assoc]⟩
/-- what a tier keeps -/
theorem wStep_ok {d : ThD} (k : d.Ok) {ns : List Str} {w : Str} : ∀ {st : Fnd × List Str}, FOk d st.1 → w ∈ st.1.map (·.1) → (∀ g ∈ st.2, g ∈ st.1.map (·.1)) → FOk d (wStep d ns st w).1 ∧ (∀ v ∈ st.1.map (·.1), v ∈ (wStep d ns st w).1.map (·.1)) ∧ ∀ g ∈ (wStep d ns st w).2, g ∈ (wStep d ns st w).1.map (·.1) := by
  unfold wStep
  induction ns with
  | nil => exact fun h _ hl => ⟨h, fun v m => m, hl⟩
  | cons n r ih =>
    intro st h hw hl
    obtain ⟨h1, h2, h3, _⟩ := nStep_ok k (n := n) h hw hl
    obtain ⟨g1, g2, g3⟩ := ih h1 (h2 w hw) h3
    exact ⟨g1, fun v m => g2 v (h2 v m), g3⟩
theorem tier_ok {d : ThD} (k : d.Ok) {ns ws : List Str} {f : Fnd} (h : FOk d f) (hw : ∀ w ∈ ws, w ∈ f.map (·.1)) : FOk d (tier d ns f ws).1 ∧ ∀ g ∈ (tier d ns f ws).2, g ∈ (tier d ns f ws).1.map (·.1) := by
  unfold tier
  have : ∀ {st : Fnd × List Str}, FOk d st.1 → (∀ w ∈ ws, w ∈ st.1.map (·.1)) → (∀ g ∈ st.2, g ∈ st.1.map (·.1)) → FOk d (ws.foldl (wStep d ns) st).1 ∧ ∀ g ∈ (ws.foldl (wStep d ns) st).2, g ∈ (ws.foldl (wStep d ns) st).1.map (·.1) := by
    clear hw
    induction ws with
    | nil => exact fun h _ hl => ⟨h, hl⟩
    | cons w r ih =>
      intro st h hw hl
      obtain ⟨h1, h2, h3⟩ := wStep_ok k (ns := ns) h (hw w List.mem_cons_self) hl
      exact ih h1 (fun v m => h2 v (hw v (List.mem_cons_of_mem _ m))) h3
  exact this h hw fun g m => nomatch m
/-- it ends -/
theorem Run.ends {d : ThD} (k : d.Ok) {ns : List Str} : ∀ (m : Nat) {f : Fnd} {ws : List Str}, FOk d f → (∀ w ∈ ws, w ∈ f.map (·.1)) → 2 * (d.vals.length - f.length) + (if ws = [] then 0 else 1) ≤ m → ∃ a, Run d ns f ws a := by
  intro m
  induction m with
  | zero =>
    intro f ws h hw hm
    by_cases e : ws = []
    · subst e
      exact ⟨f, .nil f⟩
    · rw [if_neg e] at hm
      omega
  | succ m ih =>
    intro f ws h hw hm
    by_cases e : ws = []
    · subst e
      exact ⟨f, .nil f⟩
    · obtain ⟨h1, h2⟩ := tier_ok k (ns := ns) h hw
      obtain ⟨nw, en⟩ := tier_app (d := d) (ns := ns) (f := f) (ws := ws)
      have l1 := h1.len
      have l0 := h.len
      rw [if_neg e] at hm
      obtain ⟨a, r⟩ := ih (f := (tier d ns f ws).1) (ws := (tier d ns f ws).2) h1 h2 (by
        rw [en] at l1 ⊢
        simp only [List.length_append] at l1 ⊢
        by_cases z : nw = []
        · subst z
          simp
          omega
        · have : 0 < nw.length := List.length_pos_iff.mpr z
          have nz : ¬ nw.map (·.1) = [] := by simpa using z
          rw [if_neg nz]
          omega)
      exact ⟨a, .step e r⟩
/-! ### the first that is led on -/
theorem firstIn_app_none {l : Ld} {f g : Fnd} (h : firstIn l f = none) : firstIn l (f ++ g) = firstIn l g := by
  unfold firstIn at *
  rw [List.find?_append, Option.map_eq_none_iff.mp h]
  rfl
theorem firstIn_app_some {l : Ld} {f g : Fnd} {r : List Str} (h : firstIn l f = some r) : firstIn l (f ++ g) = some r := by
  unfold firstIn at *
  obtain ⟨p, e, rfl⟩ := Option.map_eq_some_iff.mp h
  rw [List.find?_append, e]
  rfl
theorem firstIn_congr {l l' : Ld} (h : ∀ v, lookL l' v = lookL l v) (f : Fnd) : firstIn l' f = firstIn l f := by
  unfold firstIn
  simp only [h]
/-! ### ordered leads lead alike -/
theorem lookL_none {l : Ld} {v : Str} (h : v ∉ l.map (·.1)) : lookL l v = none := by
  unfold lookL
  refine Option.map_eq_none_iff.mpr (List.find?_eq_none.mpr fun p m z => h ?_)
  simp only [decide_eq_true_eq] at z
  exact z ▸ List.mem_map_of_mem m
theorem lookL_keys {l : Ld} {v g : Str} (h : lookL l v = some g) : v ∈ l.map (·.1) := by
  unfold lookL at h
  obtain ⟨p, e, _⟩ := Option.map_eq_some_iff.mp h
  have z := List.find?_some e
  simp only [decide_eq_true_eq] at z
  exact z ▸ List.mem_map_of_mem (List.mem_of_find?_eq_some e)
theorem ordL_look {vals : List Str} {l : Ld} (nd : vals.Nodup) (sub : ∀ q ∈ l, q.1 ∈ vals) (v : Str) : lookL (ordL vals l) v = lookL l v := by
  have knd : ((ordL vals l).map (·.1)).Nodup := by
    unfold ordL
    rw [List.map_filterMap]
    have : (vals.filterMap fun x => Option.map (·.1) ((lookL l x).map fun g => (x, g))).Sublist vals := by
      clear nd sub
      induction vals with
      | nil => exact .slnil
      | cons x r ih =>
        cases q : lookL l x with
        | none => rw [List.filterMap_cons_none (by rw [q]; rfl)]; exact ih.cons x
        | some g => rw [List.filterMap_cons_some (b := x) (by rw [q]; rfl)]; exact ih.cons_cons x
    exact this.nodup nd
  cases q : lookL l v with
  | none =>
    refine lookL_none fun m => ?_
    obtain ⟨p, mp, rfl⟩ := List.mem_map.mp m
    unfold ordL at mp
    obtain ⟨u, _, e⟩ := List.mem_filterMap.mp mp
    obtain ⟨g, eg, rfl⟩ := Option.map_eq_some_iff.mp e
    have eg : lookL l u = some g := eg
    have q : lookL l u = none := q
    rw [q] at eg
    cases eg
  | some g =>
    obtain ⟨p, mp, e⟩ := List.mem_map.mp (lookL_keys q)
    have mv : v ∈ vals := e ▸ sub p mp
    exact lookL_mem (ld := ordL vals l) (q := (v, g)) knd (List.mem_filterMap.mpr ⟨v, mv, by rw [q]; rfl⟩)
theorem look_ordD {vals : List Str} {lds : Lds} {ns : List Str} (nd : (lds.map (·.1)).Nodup) (pm : ns.Perm (lds.map (·.1))) (n : Str) : look (ordD vals lds ns) n = (look lds n).map (ordL vals) := by
  by_cases m : n ∈ ns
  · have e : look (ordD vals lds ns) n = some (ordL vals ((look lds n).getD [])) := by
      unfold look ordD
      clear pm
      induction ns with
      | nil => cases m
      | cons x r ih =>
        rw [List.map_cons, List.find?_cons]
        by_cases z : x = n
        · rw [decide_eq_true (show ((x, ordL vals ((look lds x).getD [])) : Str × Ld).1 = n from z)]
          subst z
          rfl
        · rw [decide_eq_false (show ¬ ((x, ordL vals ((look lds x).getD [])) : Str × Ld).1 = n from z)]
          rcases List.mem_cons.mp m with q | q
          · exact absurd q.symm z
          · exact ih q
    rw [e]
    obtain ⟨l, el⟩ := Option.isSome_iff_exists.mp (look_mem (pm.mem_iff.mp m))
    rw [el]
    rfl
  · have e1 : look lds n = none := by
      cases q : look lds n with
      | none => rfl
      | some l =>
        unfold look at q
        obtain ⟨p, ep, _⟩ := Option.map_eq_some_iff.mp q
        have z := List.find?_some ep
        simp only [decide_eq_true_eq] at z
        exact absurd (pm.mem_iff.mpr (z ▸ List.mem_map_of_mem (List.mem_of_find?_eq_some ep))) m
    rw [e1]
    unfold look ordD
    refine Option.map_eq_none_iff.mpr (List.find?_eq_none.mpr fun p mp z => m ?_)
    obtain ⟨u, mu, rfl⟩ := List.mem_map.mp mp
    have z : u = n := by simpa using z
    exact z ▸ mu
theorem look_some {ls : Lds} {n : Str} {l : Ld} (h : look ls n = some l) : ∃ p ∈ ls, p.1 = n ∧ p.2 = l := by
  unfold look at h
  obtain ⟨p, e, h2⟩ := Option.map_eq_some_iff.mp h
  have z := List.find?_some e
  simp only [decide_eq_true_eq] at z
  exact ⟨p, List.mem_of_find?_eq_some e, z, h2⟩
theorem ord_led {d d' : ThD} (ft : d.Fit) (h : IsOrd d d') (v n : Str) : d'.led v n = d.led v n := by
  obtain ⟨ns, ms, p1, s1, p2, s2, rfl⟩ := h
  unfold ThD.led
  dsimp only
  rw [look_ordD ft.dnd p1, look_ordD ft.end_ p2]
  cases q : look d.deeds n with
  | some l =>
    obtain ⟨p, m, e1, rfl⟩ := look_some q
    exact ordL_look ft.vnd (fun q m2 => ((ft.dok p m).2.1 q m2).1) v
  | none =>
    cases q2 : look d.ents n with
    | none => rfl
    | some l =>
      obtain ⟨p, m, e1, rfl⟩ := look_some q2
      exact ordL_look ft.vnd (fun q m2 => ((ft.eok p m).2.2.1 q m2).1) v
end TH

/-! A25: _law_first -/
namespace TH
open PySem PySem.Spec PyProof.Rows L2 LamV LamX XK0
open C8 (pss_cut tCut)
abbrev sFirst : Stmt := top 48
/-- all but lists stands -/
def ExL (H H' : Hp) : Prop := ∀ b o, H b = some o → (∀ xs, o ≠ .lst xs) → H' b = some o
theorem Ex.exL {H H' : Hp} (x : Ex H H') : ExL H H' := fun b o e _ => x b o e
theorem ExL.trans {H H1 H2 : Hp} (x : ExL H H1) (y : ExL H1 H2) : ExL H H2 := fun b o e n => y b o (x b o e n) n
theorem ExL.upd {H : Hp} {p : Addr} {xs : List V} {o : HO} (h : H p = some (.lst xs)) : ExL H (upd H p o) := fun b u e n => (upd_ne fun z => n xs (Option.some.inj ((z ▸ e).symm.trans h))).trans e
theorem ExL.sqT {K : PySem.W.Frag} {H H' : Hp} {a : Addr} {xs : List V} (k : ExL H H') (h : SqT K H a xs) : SqT K H' a xs := h.imp (Or.imp (fun z => k _ _ z fun _ q => nomatch q) fun ⟨o, z⟩ => ⟨o, k _ _ z fun _ q => nomatch q⟩) id
theorem ExL.none {H H' : Hp} {p : Addr} (x : Ex H H') (h : H' p = none) : H p = none := x.none h
/-- a tier: a list of pairs of a row and a value -/
def TR (K : PySem.W.Frag) (H : Hp) (ta : Addr) (cur : Fnd) : Prop := ∃ as : List Addr, H ta = some (.lst (as.map V.ref)) ∧ Paired (fun a (p : Str × List Str) => ∃ r, H a = some (.tup [.ref r, .str p.1]) ∧ SqT K H r (p.2.map V.str)) as cur
theorem TR.exL {K : PySem.W.Frag} {H H' : Hp} {ta : Addr} {cur : Fnd} (x : ExL H H') (h : ∀ xs, H ta = some (.lst xs) → H' ta = some (.lst xs)) (t : TR K H ta cur) : TR K H' ta cur := by
  obtain ⟨as, e, p⟩ := t
  exact ⟨as, h _ e, Paired.mapP p fun _ _ ⟨r, e1, e2⟩ => ⟨r, x _ _ e1 (fun _ z => nomatch z), x.sqT e2⟩⟩
theorem TR.ex {K : PySem.W.Frag} {H H' : Hp} {ta : Addr} {cur : Fnd} (x : Ex H H') (t : TR K H ta cur) : TR K H' ta cur := t.exL x.exL fun _ e => x _ _ e
theorem TR.ne {K : PySem.W.Frag} {H : Hp} {ta p : Addr} {cur : Fnd} (t : TR K H ta cur) (h : H p = none) : ta ≠ p := by
  obtain ⟨as, e, _⟩ := t
  exact fun z => by rw [z, h] at e; cases e
def rowD (p : Str × List Str) : PyData := .tuple [.tuple (p.2.map PyData.str), .str p.1]
theorem dp_tier {K : PySem.W.Frag} {H : Hp} : ∀ {as : List Addr} {cur : Fnd}, Paired (fun a (p : Str × List Str) => ∃ r, H a = some (.tup [.ref r, .str p.1]) ∧ SqT K H r (p.2.map V.str)) as cur → DpAll K H (as.map V.ref) (cur.map rowD)
  | _, _, .nil => .nil
  | _, _, .cons ⟨r, e1, e2⟩ q => .cons (.tup (.inl (.inl e1)) (.cons (.tup e2 (dp_strs _)) (.cons (.str _) .nil))) (dp_tier q)
theorem lay_tier : ∀ {cur : Fnd}, (∀ p ∈ cur, PyData.canLay0 (.str p.1) = true ∧ ∀ n ∈ p.2, PyData.canLay0 (.str n) = true) → PyData.canLayAll0 (cur.map rowD) = true ∧ PyData.depthAll (cur.map rowD) ≤ 3
  | [], _ => ⟨rfl, by decide⟩
  | p :: r, h => by
    obtain ⟨a, b⟩ := lay_tier (cur := r) fun q m => h q (List.mem_cons_of_mem _ m)
    obtain ⟨c1, c2⟩ := h p List.mem_cons_self
    obtain ⟨e1, e2⟩ := lay_strs c2
    refine ⟨?_, ?_⟩
    · show (PyData.canLay0 (rowD p) && PyData.canLayAll0 (r.map rowD)) = true
      rw [a, Bool.and_true]
      show ((PyData.canLay0 (.tuple (p.2.map PyData.str))) && (PyData.canLay0 (.str p.1) && true)) = true
      rw [c1]
      show (PyData.canLayAll0 (p.2.map PyData.str) && _) = true
      rw [e1]
      rfl
    · show max (PyData.depth (rowD p)) (PyData.depthAll (r.map rowD)) ≤ 3
      have z : PyData.depth (rowD p) = max ((PyData.depthAll (p.2.map PyData.str)) + 1) (max 0 0) + 1 := rfl
      rw [z, e2]
      exact Nat.max_le.mpr ⟨by decide, b⟩
theorem shaped_tier {cur : Fnd} (h : ∀ p ∈ cur, PyData.canLay0 (.str p.1) = true ∧ ∀ n ∈ p.2, PyData.canLay0 (.str n) = true) : SeqAt.shaped (.list (cur.map rowD)) = true := by
  obtain ⟨a, b⟩ := lay_tier h
  have e1 : PyData.canLay0 (.list (cur.map rowD)) = PyData.canLayAll0 (cur.map rowD) := by unfold PyData.canLay0; rfl
  have e2 : PyData.depth (.list (cur.map rowD)) = PyData.depthAll (cur.map rowD) + 1 := by unfold PyData.depth; rfl
  unfold SeqAt.shaped
  rw [e1, a, e2, Bool.true_and]
  exact decide_eq_true (by omega)
theorem eqv_tier (cur : Fnd) : PyData.eqv (.list (cur.map rowD)) (.list []) = decide (cur = []) := by
  cases cur with
  | nil => rfl
  | cons w r => rfl
/-- the rows are of the names -/
def RIn (ys : List Str) (f : Fnd) : Prop := ∀ p ∈ f, ∀ n ∈ p.2, n ∈ ys
theorem nStep_rin {d : ThD} {w n : Str} {ys : List Str} {st : Fnd × List Str} (hn : n ∈ ys) (h : RIn ys st.1) : RIn ys (nStep d w st n).1 := by
  unfold nStep
  cases d.led w n with
  | none => exact h
  | some g =>
    dsimp only
    cases rowOf st.1 g with
    | some r => exact h
    | none =>
      intro p hp m hm
      rcases List.mem_append.mp hp with z | z
      · exact h p z m hm
      · rw [List.mem_singleton.mp z] at hm
        rcases List.mem_append.mp hm with q | q
        · cases e : rowOf st.1 w with
          | none => rw [e] at q; cases q
          | some r => rw [e] at q; exact h _ (rowOf_some e) m q
        · rw [List.mem_singleton.mp q]; exact hn
def spLawFirst (K : PySem.W.Frag) : Sp := fun vs H Q _ => ∃ (pt nl : Addr) (d : ThD) (x : Str) (xs ys : List Str) (l : Ld) (f : Fnd), vs = [.ref pt, .str x, .ref nl] ∧ IsPt H pt d ∧ d.Ok ∧ look d.ents x = some l ∧ SqL K H nl (xs.map V.str) ∧ xs.length ≤ 60 ∧ d.Own xs ∧ (∀ n ∈ xs, PyData.canLay0 (.str n) = true) ∧
  ys.Perm xs ∧ sortedS ys = true ∧ Run d ys [(d.start, [])] [d.start] f ∧ (∀ H', Ex H H' → firstIn l f = none → Q .non H') ∧ ∀ (row : List Str) (p : Addr) (H' : Hp), Ex H H' → H p = none → H' p = some (.lst (row.map V.str)) → firstIn l f = some row → Q (.ref p) H'
/-- at each turn of the while -/
def LInv (K : PySem.W.Frag) (H : Hp) (d : ThD) (ys : List Str) (l : Ld) (f : Fnd) (pt nl : Addr) (x : Str) (m : Nat) (σ : L2.St) (H2 : Hp) : Prop := ∃ (dn cur : Fnd) (ta ma : Addr) (o5 o6 o7 o8 o9 : Option V), σ = [some (.ref pt), some (.str x), some (.ref nl), some (.ref ta), some (.ref ma), o5, o6, o7, o8, o9] ∧ Ex H H2 ∧ TR K H2 ta cur ∧ H2 ma = some (.lst (((dn ++ cur).map (·.1)).map V.str)) ∧
  H ma = none ∧ ta ≠ ma ∧ FOk d (dn ++ cur) ∧ RIn ys (dn ++ cur) ∧ firstIn l dn = none ∧ Run d ys (dn ++ cur) (cur.map (·.1)) f ∧ m = 2 * (d.vals.length - (dn ++ cur).length) + (if cur = [] then 0 else 1)
theorem paired_get2 {α β : Type} {R : α → β → Prop} {l : List α} {r : List β} (p : Paired R l r) : ∀ {i : Nat} {x : α}, l[i]? = some x → ∃ y, r[i]? = some y ∧ R x y := by
  induction p with
  | nil => intro i y h; simp at h
  | cons x _ ih =>
    intro i y h
    cases i with
    | zero => simp at h; subst h; exact ⟨_, rfl, x⟩
    | succ i =>
      obtain ⟨z, e, q⟩ := ih (by simpa using h)
      exact ⟨z, by simpa using e, q⟩
theorem rowOf_in : ∀ {f : Fnd} {p : Str × List Str}, (f.map (·.1)).Nodup → p ∈ f → rowOf f p.1 = some p.2
  | q :: r, p, nd, m => by
    rw [List.map_cons, List.nodup_cons] at nd
    unfold rowOf
    rw [List.find?_cons]
    rcases List.mem_cons.mp m with rfl | m
    · rw [decide_eq_true rfl]
      rfl
    · have ne : ¬ q.1 = p.1 := fun z => nd.1 (z ▸ List.mem_map_of_mem m)
      rw [decide_eq_false ne]
      exact rowOf_in nd.2 m
theorem firstIn_take {l : Ld} {f : Fnd} {i : Nat} {p : Str × List Str} (h : f[i]? = some p) (n : firstIn l (f.take i) = none) : (lookL l p.1 = none → firstIn l (f.take (i + 1)) = none) ∧ ((lookL l p.1).isSome = true → firstIn l f = some p.2) := by
  refine ⟨fun z => ?_, fun z => ?_⟩
  · rw [List.take_add_one, h, Option.toList_some, firstIn_app_none n]
    unfold firstIn
    rw [List.find?_cons, z]
    rfl
  · obtain ⟨lt, e⟩ := List.getElem?_eq_some_iff.mp h
    rw [← List.take_append_drop i f, firstIn_app_none n, List.drop_eq_getElem_cons lt, e]
    unfold firstIn
    rw [List.find?_cons, z]
    rfl
/-- within the two loops -/
structure LSt (K : PySem.W.Frag) (H : Hp) (d : ThD) (ys : List Str) (cur fnd : Fnd) (ta ma ll : Addr) (st : Fnd × List Str) (H4 : Hp) : Prop where
  ex : Ex H H4
  tr : TR K H4 ta cur
  mt : H4 ma = some (.lst ((st.1.map (·.1)).map V.str))
  lt : ∃ nw, st = (fnd ++ nw, nw.map (·.1)) ∧ TR K H4 ll nw
  ok : FOk d st.1
  rin : RIn ys st.1
  fresh : H ma = none ∧ H ll = none ∧ ma ≠ ll ∧ ta ≠ ma ∧ ta ≠ ll
section
variable {P : Program} {w : World} {K : PySem.W.Frag} {mg : Str → Option Value} {base : Heap} {f C CN CB : Addr} {fd : FuncData}
theorem scFirst : FnScope ["_law_parts", "_law_entry", "_law_names_here", "_law_tier", "_law_met_here", "_law_row", "_law_worth", "_law_later", "_law_name", "_law_goal"] ["_law_parts", "_law_entry", "_law_names_here"] (defScope sFirst) := ⟨rfl, rfl, rfl, by decide +kernel, rfl, by decide +kernel, by decide +kernel⟩
theorem ok_law_first (F : FnP K "_law_first" sFirst f fd) (FL : Has P w K mg base "_law_led" 1 ["_law_parts", "_law_worth", "_law_name"] spLed) (gs : mg "sorted" = none) (gl : mg "list" = none) : FnOk P w K mg base CX0 2 f fd ["_law_parts", "_law_entry", "_law_names_here"] (spLawFirst K) := by
  refine F.ok scFirst (fun vs H Q E h => ?_) (fun cdv A outer s H vs Q E hr h => ?_)
  · obtain ⟨pt, nl, d, x, xs, ys, l, f, rfl, _⟩ := h
    rfl
  · have hu := hu_of hr
    refine ⟨_, PSs.nox (pss_cons (ps_par (i := 3) (j := 4) rfl scFirst.nd rfl rfl (by decide) rfl rfl (pa_cons (pe_lst (pa_cons (pe_tup (pa_cons (pe_tup pa_nil) (pa_cons (pe_ix ix_tup (pv 0) pe_int (fun _ _ => rfl)) pa_nil))) pa_nil)) (pa_cons (pe_lst (pa_cons (pe_ix ix_tup (pv 0) pe_int (fun _ _ => rfl)) pa_nil)) pa_nil)) rfl)
      (pss_cons (ps_while PassesOwn.never (pt_cmpR (op_neD hr.units) (pv 3) (pe_lst pa_nil) (nomark _))
        (pss_cons (ps_for PassesOwn.never rfl (pi_list (pv 3)) (pg_tup rfl (pgs_cons (pg_name (i := 5) scFirst.nd rfl (.inl rfl)) (pgs_cons (pg_name (i := 6) scFirst.nd rfl (.inl rfl)) pgs_nil)))
          (pss_one (ps_if (pt_cmp (pc_din hu (pv 6) (pe_dget hu (pe_ix ix_tup (pv 0) pe_int (fun _ _ => rfl)) (pv 1) (fun _ _ => rfl)))) (pss_one (ps_ret (pe_callTy call_list_of rfl gl boot_list (pa_cons (pv 5) pa_nil)))) pss_nil)))
        (pss_cons (ps_set (i := 7) scFirst.nd rfl (.inl rfl) (pe_lst pa_nil))
        (pss_cons (ps_for PassesOwn.never rfl (pi_list (pv 3)) (pg_tup rfl (pgs_cons (pg_name (i := 5) scFirst.nd rfl (.inl rfl)) (pgs_cons (pg_name (i := 6) scFirst.nd rfl (.inl rfl)) pgs_nil)))
          (pss_one (ps_for PassesOwn.never rfl (pi_list (pe_callB cr_sortedS rfl gs boot_sorted (pa_cons (pv 2) pa_nil))) (pg_name (i := 8) scFirst.nd rfl (.inl rfl))
            (pss_cons (ps_set (i := 9) scFirst.nd rfl (.inl rfl) (pe_has FL hr (by decide) rfl (pa_cons (pv 0) (pa_cons (pv 6) (pa_cons (pv 8) pa_nil)))))
            (pss_one (ps_if (PW.pt (pw_and (pt_cmp (pc_notN (pv 9))) (pw_and1 (pt_cmpR op_notIn_seq (pv 9) (pv 4) (by with_unfolding_all rfl)))))
              (pss_cons (ps_expr (pe_bm PySem.F.plainAttrs_list PySem.F.slot_list_append PySem.F.type_list_append mt_append (pv 4) (pa_cons (pv 9) pa_nil)))
              (pss_one (ps_expr (pe_bm PySem.F.plainAttrs_list PySem.F.slot_list_append PySem.F.type_list_append mt_append (pv 7) (pa_cons (pe_tup (pa_cons (pe_op op_catN (pv 5) (pe_tup (pa_cons (pv 8) pa_nil))) (pa_cons (pv 9) pa_nil))) pa_nil))))) pss_nil))))))
        (pss_one (ps_set (i := 3) scFirst.nd rfl (.inl rfl) (pv 7)))))))
      (pss_one (ps_ret pe_non)))), ?_⟩
    obtain ⟨pt, nl, d, x, xs, ys, l, f, rfl, th, dk, lx, sn, len, own, lay, pm, so, run, hN, hS⟩ := h
    obtain ⟨vl, dd, de, e1, e2, e3, ⟨es, m1, mp⟩⟩ := id th
    obtain ⟨b, vb, hb⟩ : ∃ b, valV es (Sum.inr x) = some (.ref b) ∧ H b = some (.dK (ldV l)) := by
      rcases look_val mp x with ⟨z, _⟩ | ⟨l', b, z1, z2, z3⟩
      · rw [lx] at z; cases z
      · rw [lx] at z1
        cases z1
        exact ⟨b, z2, z3⟩
    refine ⟨Nat.zero_le _, fun t0 n0 => ?_⟩
    have x0 : Ex H (upd H t0 (.tup [])) := Ex.new n0
    refine ⟨.ref pt, rfl, pt, _, 1, .str d.start, rfl, rfl, .inl (.inl (x0 _ _ e1)), rfl, by show 2 ≤ sizeLine; decide, fun t1 n1 => ⟨by show 1 ≤ sizeLine; decide, fun ta nta => ?_⟩⟩
    have x1 : Ex H (upd (upd (upd H t0 (.tup [])) t1 (.tup [.ref t0, .str d.start])) ta (.lst [.ref t1])) := (x0.trans (Ex.new n1)).trans (Ex.new nta)
    have htr : TR K (upd (upd (upd H t0 (.tup [])) t1 (.tup [.ref t0, .str d.start])) ta (.lst [.ref t1])) ta [(d.start, [])] := ⟨[t1], upd_same, .cons ⟨t0, (Ex.new nta) _ _ upd_same, .inl (.inl ((Ex.new nta) _ _ ((Ex.new n1) _ _ upd_same)))⟩ .nil⟩
    generalize upd (upd (upd H t0 (.tup [])) t1 (.tup [.ref t0, .str d.start])) ta (.lst [.ref t1]) = H1 at x1 htr ⊢
    refine ⟨.ref pt, rfl, pt, _, 1, .str d.start, rfl, rfl, .inl (.inl (x1 _ _ e1)), rfl, by show 1 ≤ sizeLine; decide, fun ma nma => ⟨_, _, rfl, ?_⟩⟩
    have fok0 : FOk d [(d.start, [])] := ⟨by simp, fun q hq => by rw [List.mem_singleton.mp hq]; exact dk.start, fun q hq => by rw [List.mem_singleton.mp hq]; exact Nat.zero_le _⟩
    refine ⟨LInv K H d ys l f pt nl x, ⟨_, [], [(d.start, [])], ta, ma, none, none, none, none, none, rfl, x1.trans (Ex.new nma), htr.ex (Ex.new nma), upd_same, x1.none nma, htr.ne nma, fok0, fun p hp n hn => ?_, rfl, run, rfl⟩, fun m σ H2 h => ?_⟩
    · rw [List.mem_singleton.mp hp] at hn
      cases hn
    clear htr x1 nma x0 nta n1 n0
    obtain ⟨dn, cur, ta, ma, o5, o6, o7, o8, o9, rfl, x2, tr, hma, nma, tma, fok, rin, fn, run, em⟩ := h
    have layc : ∀ p ∈ cur, PyData.canLay0 (.str p.1) = true ∧ ∀ n ∈ p.2, PyData.canLay0 (.str n) = true := fun p mpp => ⟨dk.txt _ (fok.sub p (List.mem_append_right _ mpp)), fun n mn => lay n (pm.mem_iff.mp (rin p (List.mem_append_right _ mpp) n mn))⟩
    refine ⟨.ref ta, rfl, Nat.zero_le _, fun e ne => ?_⟩
    have xe : Ex H2 (upd H2 e (.lst [])) := Ex.new ne
    obtain ⟨as, hta, pr⟩ := tr.ex xe
    refine ⟨.list (cur.map rowD), .list [], .lst (.inl (.inl hta)) (dp_tier pr), .lst (.inl (.inl upd_same)) .nil, shaped_tier layc, rfl, _, rfl, ?_⟩
    rw [eqv_tier]
    have x3 := x2.trans xe
    have hma3 := xe _ _ hma
    generalize upd H2 e (.lst []) = H3 at xe hta pr x3 hma3 ⊢
    by_cases hc : cur = []
    · subst hc
      have ef := run.one (.nil _)
      rw [List.append_nil] at ef
      exact hN H3 x3 (by rw [ef]; exact fn)
    rw [decide_eq_false hc]
    obtain ⟨more, ef⟩ := run.app
    refine ⟨fun σ' H' => ∃ m', m' < m ∧ LInv K H d ys l f pt nl x m' σ' H', fun σ' H' h => h, ?_⟩
    have lenA : as.length = cur.length := Paired.length pr
    refine ⟨.ref ta, rfl, ta, rfl, ⟨_, .inl (.inl hta)⟩, for_list (K := K) (xs := as.map V.ref) (fun i σ H4 => ∃ o5 o6, σ = [some (.ref pt), some (.str x), some (.ref nl), some (.ref ta), some (.ref ma), o5, o6, o7, o8, o9] ∧ Ex H3 H4 ∧ firstIn l (cur.take i) = none)
      ⟨_, _, rfl, Ex.refl, rfl⟩ (fun i σ H4 _ ⟨_, _, _, x4, _⟩ => .inl (.inl (x4 _ _ hta))) (fun i v σ H4 hv h => ?_) fun σ H4 h => ?_⟩
    · obtain ⟨o5, o6, rfl, x4, ft⟩ := h
      rw [List.getElem?_map] at hv
      obtain ⟨a, ea, rfl⟩ := Option.map_eq_some_iff.mp hv
      obtain ⟨p, ep, r, g1, g2⟩ := paired_get2 pr ea
      have y4 := x3.trans x4
      obtain ⟨s1, s2⟩ := firstIn_take ep ft
      refine ⟨a, _, rfl, .inl (.inl (x4 _ _ g1)), rfl, .ref r, _, rfl, .str p.1, [], rfl, rfl, ?_⟩
      refine ⟨.str p.1, rfl, .ref pt, rfl, pt, _, 3, .ref de, rfl, rfl, .inl (.inl (y4 _ _ e1)), rfl, .str x, rfl, de, .ref b, rfl, vb ▸ DGet.k (k := Sum.inr x) (y4 _ _ m1), b, _, rfl, DGet.k (k := Sum.inr p.1) (y4 _ _ hb), _, rfl, ?_⟩
      rw [lookL_val]
      cases q : lookL l p.1 with
      | none => exact ⟨_, _, rfl, x4, s1 q⟩
      | some g =>
        refine ⟨.ref r, rfl, r, _, rfl, .inr (x4.sqT g2), fun z nz => hS p.2 z _ (y4.trans (Ex.new nz)) (y4.none nz) upd_same ?_⟩
        rw [ef, List.append_assoc, firstIn_app_none fn]
        exact firstIn_app_some (s2 (by rw [q]; rfl))
    obtain ⟨o5, o6, rfl, x4, ft⟩ := h
    rw [List.length_map, lenA, List.take_length] at ft
    have fnn : firstIn l (dn ++ cur) = none := by rw [firstIn_app_none fn]; exact ft
    have hta4 := x4 _ _ hta
    have pr4 : TR K H4 ta cur := TR.ex x4 ⟨as, hta, pr⟩
    have hma4 := x4 _ _ hma3
    have y4 := x3.trans x4
    refine ⟨Nat.zero_le _, fun ll nll => ?_⟩
    have x5 : Ex H4 (upd H4 ll (.lst [])) := Ex.new nll
    have lma : ma ≠ ll := fun z => by rw [z] at hma4; rw [hma4] at nll; cases nll
    have lta : ta ≠ ll := pr4.ne nll
    have st0 : LSt K H d ys cur (dn ++ cur) ta ma ll (dn ++ cur, []) (upd H4 ll (.lst [])) := ⟨y4.trans x5, pr4.ex x5, x5 _ _ hma4, ⟨[], by simp, [], upd_same, .nil⟩, fok, rin, nma, y4.none nll, lma, tma, lta⟩
    have hta5 := x5 _ _ hta4
    generalize upd H4 ll (.lst []) = H5 at st0 hta5 ⊢
    clear x5 nll hta4 pr4 hma4 y4 x4
    refine ⟨.ref ta, rfl, ta, rfl, ⟨_, .inl (.inl hta5)⟩, for_list (K := K) (xs := as.map V.ref) (fun i σ H6 => ∃ o5 o6 o8 o9, σ = [some (.ref pt), some (.str x), some (.ref nl), some (.ref ta), some (.ref ma), o5, o6, some (.ref ll), o8, o9] ∧ H6 ta = some (.lst (as.map V.ref)) ∧ LSt K H d ys cur (dn ++ cur) ta ma ll (((cur.map (·.1)).take i).foldl (wStep d ys) (dn ++ cur, [])) H6)
      ⟨_, _, _, _, rfl, hta5, st0⟩ (fun i σ H6 _ ⟨_, _, _, _, _, z, _⟩ => .inl (.inl z)) (fun i v σ H6 hv h => ?_) fun σ H6 h => ?_⟩
    · obtain ⟨o5, o6, o8, o9, rfl, hta6, S⟩ := h
      rw [List.getElem?_map] at hv
      obtain ⟨a, ea, rfl⟩ := Option.map_eq_some_iff.mp hv
      obtain ⟨as6, hta6', pr6⟩ := S.tr
      rw [hta6] at hta6'
      have eas : as6 = as := by
        have z : as.map V.ref = as6.map V.ref := HO.lst.inj (Option.some.inj hta6')
        exact (List.map_inj_right (fun _ _ q => V.ref.inj q)).mp z.symm
      subst eas
      obtain ⟨p, ep, r, g1, g2⟩ := paired_get2 pr6 ea
      have mpc : p ∈ cur := List.mem_of_getElem? ep
      have et : ((cur.map (·.1)).take (i + 1)).foldl (wStep d ys) (dn ++ cur, []) = wStep d ys (((cur.map (·.1)).take i).foldl (wStep d ys) (dn ++ cur, [])) p.1 := by
        rw [List.take_add_one, List.getElem?_map, ep, List.foldl_append]
        rfl
      rw [et]
      generalize ((cur.map (·.1)).take i).foldl (wStep d ys) (dn ++ cur, []) = st at S ⊢
      refine ⟨a, _, rfl, .inl (.inl g1), rfl, .ref r, _, rfl, .str p.1, [], rfl, rfl, ?_⟩
      refine ⟨.ref nl, rfl, nl, xs, rfl, S.ex.sqL sn, by omega, fun ys2 sl pm2 so2 nsl => ?_⟩
      have eys : ys2 = ys := sorted_one so2 so (pm2.trans pm.symm)
      subst eys
      have xs6 : Ex H6 (upd H6 sl (.lst (ys2.map V.str))) := Ex.new nsl
      have hsl : upd H6 sl (.lst (ys2.map V.str)) sl = some (.lst (ys2.map V.str)) := upd_same
      have slm : sl ≠ ma := fun z => by rw [z, S.mt] at nsl; cases nsl
      have sll : sl ≠ ll := fun z => by
        obtain ⟨_, _, _, q, _⟩ := S.lt
        rw [z, q] at nsl
        cases nsl
      have S7 : LSt K H d ys2 cur (dn ++ cur) ta ma ll st (upd H6 sl (.lst (ys2.map V.str))) := ⟨S.ex.trans xs6, S.tr.ex xs6, xs6 _ _ S.mt, S.lt.imp fun nw ⟨q1, q2⟩ => ⟨q1, q2.ex xs6⟩, S.ok, S.rin, S.fresh⟩
      have hta7 := xs6 _ _ hta6
      have g27 : SqT K (upd H6 sl (.lst (ys2.map V.str))) r (p.2.map V.str) := xs6.sqT g2
      generalize upd H6 sl (.lst (ys2.map V.str)) = H7 at S7 hsl hta7 g27 ⊢
      refine ⟨sl, rfl, ⟨_, .inl (.inl hsl)⟩, for_list (K := K) (xs := ys2.map V.str) (fun j σ H8 => ∃ o8 o9, σ = [some (.ref pt), some (.str x), some (.ref nl), some (.ref ta), some (.ref ma), some (.ref r), some (.str p.1), some (.ref ll), o8, o9] ∧ H8 sl = some (.lst (ys2.map V.str)) ∧ H8 ta = some (.lst (as6.map V.ref)) ∧ SqT K H8 r (p.2.map V.str) ∧ LSt K H d ys2 cur (dn ++ cur) ta ma ll ((ys2.take j).foldl (nStep d p.1) st) H8)
        ⟨_, _, rfl, hsl, hta7, g27, S7⟩ (fun j σ H8 _ ⟨_, _, _, z, _⟩ => .inl (.inl z)) (fun j v σ H8 hv h => ?_) fun σ H8 h => ?_⟩
      · obtain ⟨o8, o9, rfl, hsl8, hta8, g28, T⟩ := h
        rw [List.getElem?_map] at hv
        obtain ⟨n, en, rfl⟩ := Option.map_eq_some_iff.mp hv
        have et : (ys2.take (j + 1)).foldl (nStep d p.1) st = nStep d p.1 ((ys2.take j).foldl (nStep d p.1) st) n := by
          rw [List.take_add_one, en, List.foldl_append]
          rfl
        rw [et]
        generalize (ys2.take j).foldl (nStep d p.1) st = sj at T ⊢
        have mn : n ∈ ys2 := List.mem_of_getElem? en
        obtain ⟨nw, esj, trl⟩ := T.lt
        have mpj : p ∈ sj.1 := by rw [esj]; exact List.mem_append_left _ (List.mem_append_right _ mpc)
        have wj : p.1 ∈ sj.1.map (·.1) := List.mem_map_of_mem mpj
        have ok := nStep_ok dk (n := n) T.ok wj (by rw [esj]; intro g mg; rw [List.map_append]; exact List.mem_append_right _ mg)
        have rin2 := nStep_rin (d := d) (w := p.1) mn T.rin
        have way : (∃ l, look d.deeds n = some l ∧ (lookL l p.1).isSome = true) ∨ (look d.deeds n = none ∧ (look d.ents n).isSome = true) := by
          cases q : look d.deeds n with
          | some l =>
            obtain ⟨g, _, e⟩ := dk.deeds n l q p.1 (T.ok.has wj)
            exact .inl ⟨l, rfl, by rw [e]; rfl⟩
          | none =>
            rcases own n (pm.mem_iff.mp mn) with z | z
            · rw [q] at z; cases z
            · exact .inr ⟨rfl, z⟩
        refine ⟨.ref pt, rfl, .str p.1, rfl, .str n, rfl, pt, d, p.1, n, rfl, th.ex T.ex, way, ?_⟩
        cases eg : d.led p.1 n with
        | none =>
          have z : nStep d p.1 sj n = sj := by
            unfold nStep
            rw [eg]
          rw [z]
          exact ⟨.non, rfl, false, rfl, _, _, rfl, hsl8, hta8, g28, T⟩
        | some g =>
          refine ⟨.str g, rfl, true, rfl, .str g, rfl, .ref ma, rfl, ma, _, rfl, .inl (.inl (.inl T.mt)), rfl, flat_strs _, _, rfl, ?_⟩
          rw [inV_strs]
          by_cases mg : g ∈ sj.1.map (·.1)
          · rw [decide_eq_true mg]
            obtain ⟨rr, er⟩ := rowOf_mem mg
            have z : nStep d p.1 sj n = sj := by
              unfold nStep
              rw [eg]
              dsimp only
              rw [er]
            rw [z]
            exact ⟨_, _, rfl, hsl8, hta8, g28, T⟩
          · rw [decide_eq_false mg]
            have er : rowOf sj.1 g = none := by
              cases q : rowOf sj.1 g with
              | none => rfl
              | some r => exact absurd (List.mem_map_of_mem (f := (·.1)) (rowOf_some q)) mg
            have erw : rowOf sj.1 p.1 = some p.2 := rowOf_in T.ok.nd mpj
            have es2 : nStep d p.1 sj n = (sj.1 ++ [(g, p.2 ++ [n])], sj.2 ++ [g]) := by
              unfold nStep
              rw [eg]
              dsimp only
              rw [er, erw]
              rfl
            rw [es2] at ok rin2 ⊢
            obtain ⟨k1, k2, k3, k4, k5, k6⟩ := ok
            have sl10 := T.ok.len
            have vl10 := dk.few
            have rl := T.ok.row _ mpj
            obtain ⟨f1, f2, f3, f4, f5⟩ := T.fresh
            obtain ⟨al, hll, prl⟩ := trl
            have lal : al.length ≤ 10 := by
              have e := Paired.length prl
              have := congrArg (fun z : Fnd × List Str => z.1.length) esj
              simp only [List.length_append] at this
              omega
            refine ⟨.ref ma, rfl, .inl ⟨rfl, _, .inl (.inl T.mt)⟩, .str g, rfl, ma, _, .str g, rfl, rfl, T.mt, by rw [sizeLine_eq, List.length_map, List.length_map]; omega, ?_⟩
            have u1 : ExL H8 (upd H8 ma (.lst ((sj.1.map (·.1)).map V.str ++ [.str g]))) := ExL.upd T.mt
            have hm9 : upd H8 ma (.lst ((sj.1.map (·.1)).map V.str ++ [.str g])) ma = some (.lst ((sj.1.map (·.1)).map V.str ++ [.str g])) := upd_same
            have hl9 : upd H8 ma (.lst ((sj.1.map (·.1)).map V.str ++ [.str g])) ll = some (.lst (al.map V.ref)) := (upd_ne f3.symm).trans hll
            have hs9 : upd H8 ma (.lst ((sj.1.map (·.1)).map V.str ++ [.str g])) sl = some (.lst (ys2.map V.str)) := (upd_ne slm).trans hsl8
            have ht9 : upd H8 ma (.lst ((sj.1.map (·.1)).map V.str ++ [.str g])) ta = some (.lst (as6.map V.ref)) := (upd_ne f4).trans hta8
            have ex9 : Ex H (upd H8 ma (.lst ((sj.1.map (·.1)).map V.str ++ [.str g]))) := fun c o e => (upd_ne fun z => by rw [z, f1] at e; cases e).trans (T.ex _ _ e)
            generalize upd H8 ma (.lst ((sj.1.map (·.1)).map V.str ++ [.str g])) = H9 at u1 hm9 hl9 hs9 ht9 ex9 ⊢
            refine ⟨.ref ll, rfl, .inl ⟨rfl, _, .inl (.inl hl9)⟩, .ref r, rfl, .str n, rfl, by show 1 ≤ sizeLine; decide, fun nt nnt => ?_⟩
            have xn : Ex H9 (upd H9 nt (.tup [.str n])) := Ex.new nnt
            have rl' : p.2.length ≤ sj.1.length := rl
            refine ⟨r, nt, p.2.map V.str, [.str n], rfl, rfl, xn.sqT (u1.sqT g28), .inl (.inl upd_same), by rw [sizeLine_eq, List.length_map]; simp only [List.length_cons, List.length_nil]; omega, fun r6 HA xA s6 => ?_⟩
            refine ⟨.str g, rfl, by show 2 ≤ sizeLine; decide, fun tp ntp => ?_⟩
            have x9B : Ex H9 (upd HA tp (.tup [.ref r6, .str g])) := (xn.trans xA).trans (Ex.new ntp)
            have htp : upd HA tp (.tup [.ref r6, .str g]) tp = some (.tup [.ref r6, .str g]) := upd_same
            have s6B : SqT K (upd HA tp (.tup [.ref r6, .str g])) r6 (p.2.map V.str ++ [.str n]) := (Ex.new ntp).sqT s6
            generalize upd HA tp (.tup [.ref r6, .str g]) = HB at x9B htp s6B ⊢
            have hlB := x9B _ _ hl9
            refine ⟨ll, _, .ref tp, rfl, rfl, hlB, by rw [sizeLine_eq, List.length_map]; omega, ?_⟩
            have u2 : ExL HB (upd HB ll (.lst (al.map V.ref ++ [.ref tp]))) := ExL.upd hlB
            have u12 := (u1.trans x9B.exL).trans u2
            refine ⟨_, _, rfl, (upd_ne sll).trans (x9B _ _ hs9), (upd_ne f5).trans (x9B _ _ ht9), u12.sqT g28, ⟨fun c o e => (upd_ne fun z => by rw [z, f2] at e; cases e).trans (x9B _ _ (ex9 _ _ e)), T.tr.exL u12 fun xs e => ?_, ?_, ⟨nw ++ [(g, p.2 ++ [n])], ?_, al ++ [tp], ?_, ?_⟩, k1, rin2, T.fresh⟩⟩
            · rw [hta8] at e
              rw [← e]
              exact (upd_ne f5).trans (x9B _ _ ht9)
            · rw [upd_ne f3, x9B _ _ hm9]
              simp
            · rw [esj]
              simp
            · rw [upd_same, List.map_append]
              rfl
            · refine paired_app (Paired.mapP prl fun a' p' ⟨r', q1, q2⟩ => ⟨r', u12 _ _ q1 (fun _ z => nomatch z), u12.sqT q2⟩) ⟨r6, u2 _ _ htp (fun _ z => nomatch z), ?_⟩
              rw [List.map_append]
              exact u2.sqT s6B
      · obtain ⟨o8, o9, rfl, hsl8, hta8, g28, T⟩ := h
        rw [List.length_map, List.take_length] at T
        exact ⟨_, _, _, _, rfl, hta8, T⟩
    · obtain ⟨o5, o6, o8, o9, rfl, hta6, S⟩ := h
      have lc : (as.map V.ref).length = (cur.map (·.1)).length := by rw [List.length_map, List.length_map]; exact lenA
      rw [lc, List.take_length] at S
      obtain ⟨nw, est, trl⟩ := S.lt
      have run2 : Run d ys ((dn ++ cur) ++ nw) (nw.map (·.1)) f := by
        have e2 : tier d ys (dn ++ cur) (cur.map (·.1)) = ((dn ++ cur) ++ nw, nw.map (·.1)) := est
        have ne2 : cur.map (·.1) ≠ [] := by simpa using hc
        generalize ec : cur.map (·.1) = ws at run e2 ne2
        cases run with
        | nil => exact absurd rfl ne2
        | step _ q => rw [e2] at q; exact q
      obtain ⟨f1, f2, f3, f4, f5⟩ := S.fresh
      have ok2 := S.ok
      have rin2 := S.rin
      have mt2 := S.mt
      rw [est] at ok2 rin2 mt2
      refine ⟨.ref ll, rfl, _, ?_, dn ++ cur, nw, ll, ma, _, _, _, _, _, rfl, S.ex, trl, mt2, f1, f3.symm, ok2, rin2, fnn, run2, rfl⟩
      have l2 := ok2.len
      rw [em, if_neg hc]
      rw [List.length_append] at l2 ⊢
      by_cases z : nw = []
      · subst z
        simp
      · rw [if_neg z]
        have : 0 < nw.length := List.length_pos_iff.mpr z
        omega
end
end TH

/-! A26: _law_met -/
namespace TH
open PySem PySem.Spec PyProof.Rows L2 LamV LamX XK0
open C8 (pss_cut tCut)
abbrev sMet : Stmt := top 49
theorem takes_len {X : Cx} {W : WX} (tk : Takes X W) : Takes X (fun cls d σ H => σ.length = X.N.length → W cls d σ H) := by
  rintro u s' ⟨a, B, sI, pins', τ, G, cls, d, e, J, nb, up, sky, na, os, ag, w⟩
  exact tk u s' ⟨a, B, sI, pins', τ, G, cls, d, e, J, nb, up, sky, na, os, ag, w J.len⟩
/-- what the two classes are to one another -/
structure MetC (K : PySem.W.Frag) (mg : Str → Option Value) (CN CB : Addr) : Prop where
  gN : mg "NoEntryName" = some (.ref CN)
  gB : mg "BadNames" = some (.ref CB)
  xN : XfC K CN
  xB : XfC K CB
  nN : PySem.W.findIn K (.ref CN) "entry" = some none
  nB : PySem.W.findIn K (.ref CB) "index" = some none
  eNN : PySem.W.exmOne K (.ref CN) (.ref CN) = some true
  eBN : PySem.W.exmOne K (.ref CB) (.ref CN) = some false
  eBB : PySem.W.exmOne K (.ref CB) (.ref CB) = some true
/-- what _law_met makes of what it calls -/
def TTmet (CN CB : Addr) : (XK → Hp → VK → Prop) → Hp → VK → Prop := fun tl H Q => tl (fun cls dd H' => ∃ (d : Addr) (v : V), dd = some d ∧ ((cls = .ref CN ∧ H' d = some (.xd [("entry", v)]) ∧ ∀ p, H' p = none → Q (.ref p) (upd H' p (.lst [.str "entry", v]))) ∨
  (cls = .ref CB ∧ H' d = some (.xd [("index", v)]) ∧ ∀ p, H' p = none → Q (.ref p) (upd H' p (.lst [.str "names", v]))))) H (fun _ H' => Q .non H')
theorem scMet : FnScope ["_law_ask", "e"] ["_law_ask"] (defScope sMet) := ⟨rfl, rfl, rfl, by decide +kernel, rfl, by decide +kernel, by decide +kernel⟩
theorem met_gives {X : Cx} {g CN CB : Addr} {cdg : Value} {q : Str} (M : MetC X.K X.mg CN CB) : GivesTo X ["_law_ask", "e"] "_law_met" (defScope sMet) g cdg (defBody sMet) "_law_ask" q (TTmet CN CB) := by
  intro f c' s H Q tl act hc h
  refine ⟨_, pss_cons (ps_tryAs (X := (cxOf C8.CX0 X.prog X.w X.K X.mg X.base ["_law_ask", "e"] "_law_met" (defScope sMet) g cdg X.A X.stack s H C8.E0).nox) (i := 1) (Wo := fun _ _ _ _ => False)
      (tb := fun W D σ H => ∃ Ech : XK, (∀ cls d σ' H', Ech cls d H' → σ'.length = 2 → W cls d σ' H') ∧ σ[0]? = some (some (.ref f)) ∧ H c' = some (CodeO c' q) ∧ tl Ech H fun _ H' => D.nx σ H')
      rfl rfl scMet.nd rfl rfl L2.takes0 (fun W pn xe tk _ => ⟨fun pins s' σ H' D I h' => ?_⟩)
      (.cons ⟨rfl, by decide, .inl M.gN⟩ (fun a oe cls d pn hz hf => pss_one (ps_ret (pe_lst (pa_cons pe_str (pa_cons (pe_xf M.xN M.nN hz hf (pv 1)) pa_nil)))))
      (.cons ⟨rfl, by decide, .inl M.gB⟩ (fun a oe cls d pn hz hf => pss_one (ps_ret (pe_lst (pa_cons pe_str (pa_cons (pe_xf M.xB M.nB hz hf (pv 1)) pa_nil))))) .nil)))
    (pss_one (ps_ret pe_non)), ?_⟩
  · obtain ⟨Ech, hW, h1, h2, h3⟩ := h'
    exact (pss_one (ps_expr (act _ pn xe Ech _ _ (takes_len tk) fun cls d σ' H' e l => hW cls d σ' H' e l))).run pins s' σ H' D I ⟨h1, h2, h3⟩
  · refine ⟨_, ?_, rfl, hc, h⟩
    rintro cls dd σ' H' ⟨d, v, rfl, ⟨rfl, hd, hq⟩ | ⟨rfl, hd, hq⟩⟩ len
    · exact ⟨true, M.eNN, fun _ a na => ⟨.ref a, List.getElem?_set_self (by omega), rfl, rfl, d, _, v, rfl, hd, rfl, by show 2 ≤ sizeLine; decide, fun p np => hq p np⟩, fun z => nomatch z⟩
    · exact ⟨false, M.eBN, (fun z => nomatch z), fun _ => ⟨true, M.eBB, fun _ a na => ⟨.ref a, List.getElem?_set_self (by omega), rfl, rfl, d, _, v, rfl, hd, rfl, by show 2 ≤ sizeLine; decide, fun p np => hq p np⟩, fun z => nomatch z⟩⟩
end TH

/-! A27: all but the spring and tables stands; odd things; which index is refused; promises where nothing is being shown -/
namespace TH
open PySem PySem.Spec PyProof.Rows L2 LamV LamX XK0
open C8 (pss_cut tCut)
/-- all but the spring and tables stands -/
def ExSN (sp l : Addr) (H H' : Hp) : Prop := ∀ b o, b ≠ sp → b ≠ l → H b = some o → (∀ ps, o ≠ .tbl ps) → H' b = some o
theorem ExSN.refl {sp l : Addr} {H : Hp} : ExSN sp l H H := fun _ _ _ _ e _ => e
theorem ExSN.trans {sp l : Addr} {H H1 H2 : Hp} (x : ExSN sp l H H1) (y : ExSN sp l H1 H2) : ExSN sp l H H2 := fun b o h1 h2 e n => y b o h1 h2 (x b o h1 h2 e n) n
theorem ExS.sn {sp l : Addr} {H H' : Hp} (x : ExS sp l H H') : ExSN sp l H H' := fun b o h1 h2 e _ => x b o h1 h2 e
theorem exN_sn {sp l : Addr} {H H' : Hp} (x : ExtN H H') : ExSN sp l H H' := fun b o _ _ e n => x b o e n
theorem Ex.sn {sp l : Addr} {H H' : Hp} (x : Ex H H') : ExSN sp l H H' := fun b o _ _ e _ => x b o e
theorem Spr.exN {sp l : Addr} {H H' : Hp} {n : Nat} (x : ExtN H H') : Spr H sp l n → Spr H' sp l n := fun ⟨ns, a, m, s⟩ => ⟨ns, a, m, x _ _ s.hs (fun _ z => nomatch z), x _ _ s.hl (fun _ z => nomatch z), s.ne, s.a0, s.m0, s.m1⟩
/-- what is neither list nor table stands -/
theorem ExSN.non {sp l b : Addr} {H H' : Hp} {n : Nat} {o : HO} (x : ExSN sp l H H') (s : Spr H sp l n) (h : H b = some o) (no : ∀ xs, o ≠ .lst xs) (nt : ∀ ps, o ≠ .tbl ps) : H' b = some o := by
  obtain ⟨ns, a, m, s⟩ := s
  exact x b o (fun z => by rw [z, s.hs] at h; exact no _ (Option.some.inj h).symm) (fun z => by rw [z, s.hl] at h; exact no _ (Option.some.inj h).symm) h nt
theorem ExSN.lst {sp l b : Addr} {H H' : Hp} {xs : List V} (x : ExSN sp l H H') (h : H b = some (.lst xs)) (n : b ≠ sp ∧ b ≠ l) : H' b = some (.lst xs) := x b _ n.1 n.2 h fun _ z => nomatch z
theorem DD.sn {sp l : Addr} {H H' : Hp} {n : Nat} {a : Addr} {ls : Lds} (x : ExSN sp l H H') (s : Spr H sp l n) (h : DD H a ls) : DD H' a ls := by
  obtain ⟨kvs, e, p⟩ := h
  exact ⟨kvs, x.non s e (fun _ z => nomatch z) (fun _ z => nomatch z), Paired.mapP p fun _ _ ⟨e1, b, e2, e3⟩ => ⟨e1, b, e2, x.non s e3 (fun _ z => nomatch z) (fun _ z => nomatch z)⟩⟩
theorem IsTh.sn {sp l : Addr} {H H' : Hp} {n : Nat} {C t : Addr} {d : ThD} (x : ExSN sp l H H') (s : Spr H sp l n) (h : IsTh H C t d) : IsTh H' C t d := by
  obtain ⟨dx, vt, dd, de, e1, e2, e3, e4⟩ := h
  exact ⟨dx, vt, dd, de, x.non s e1 (fun _ z => nomatch z) (fun _ z => nomatch z), x.non s e2 (fun _ z => nomatch z) (fun _ z => nomatch z), e3.sn x s, e4.sn x s⟩
theorem IsPtS.sn {sp l : Addr} {H H' : Hp} {n : Nat} {pt : Addr} {d : ThD} (x : ExSN sp l H H') (s : Spr H sp l n) (h : IsPtS sp l H pt d) : IsPtS sp l H' pt d := by
  obtain ⟨vl, dd, de, e1, e2, e3, e4, e5⟩ := h
  exact ⟨vl, dd, de, x.non s e1 (fun _ z => nomatch z) (fun _ z => nomatch z), x.lst e2 e3, e3, e4.sn x s, e5.sn x s⟩
theorem Tabs.exS {sp l : Addr} {H H' : Hp} {n : Nat} {T : List (Addr × Str)} (x : ExS sp l H H') (s : Spr H sp l n) (t : Tabs T H) : Tabs T H' := fun p hp => by
  obtain ⟨ps, h1, h2, h3⟩ := t p hp
  refine ⟨ps, x.non s h1 (fun _ z => nomatch z), h2, fun pos cv hc => ?_⟩
  obtain ⟨c, e1, e2⟩ := h3 pos cv hc
  exact ⟨c, e1, x.non s e2 (fun _ z => by unfold CodeO at z; cases z)⟩
/-- new, or a table -/
theorem NewP.off {H : Hp} {p b : Addr} {o : HO} (n : NewP H p) (h : H b = some o) (nt : ∀ ps, o ≠ .tbl ps) : p ≠ b := fun z => n o (z ▸ h) nt
/-! ### odd things -/
inductive Odd (sp l : Addr) (H : Hp) (P : Str → Prop) : V → PyData → Prop
  | non : Odd sp l H P .non .none
  | int : Odd sp l H P (.int 5) (.int 5)
  | str (x : Str) (h : P x) : Odd sp l H P (.str x) (.str x)
  | lst (a : Addr) (h : H a = some (.lst [.str "e"])) (n : a ≠ sp ∧ a ≠ l) : Odd sp l H P (.ref a) (.list [.str "e"])
  | dct (a : Addr) (h : H a = some (.dK [])) : Odd sp l H P (.ref a) (.dict [])
theorem Odd.sn {sp l : Addr} {H H' : Hp} {n : Nat} {P : Str → Prop} {v : V} {d : PyData} (x : ExSN sp l H H') (s : Spr H sp l n) (h : Odd sp l H P v d) : Odd sp l H' P v d := by
  cases h with
  | non => exact .non
  | int => exact .int
  | str x h => exact .str x h
  | lst a h n => exact .lst a (x.lst h n) n
  | dct a h => exact .dct a (x.non s h (fun _ z => nomatch z) (fun _ z => nomatch z))
theorem Odd.kd {K : PySem.W.Frag} {sp l : Addr} {H : Hp} {P : Str → Prop} {v : V} {d : PyData} (hP : ∀ x, P x → x.length ≤ 1000) (h : Odd sp l H P v d) : ∃ T, Kd K H v T := by
  cases h with
  | non => exact ⟨"NoneType", by decide, .base .non, fun x z => nomatch z⟩
  | int => exact ⟨"int", by decide, .base (.int 5), fun x z => nomatch z⟩
  | str x h => exact ⟨_, str_kd (hP x h)⟩
  | lst a h n => exact ⟨_, sqL_kd (.inl (.inl h))⟩
  | dct a h => exact ⟨"dict", by decide, .base (.dK h), fun x z => nomatch z⟩
theorem Odd.wd {sp l : Addr} {H : Hp} {P : Str → Prop} {v : V} {d : PyData} (h : Odd sp l H P v d) : isWd v = false ∨ ∃ x, v = .str x ∧ P x ∧ okS x = true := by
  cases h with
  | str x h =>
    cases e : okS x with
    | false => exact .inl e
    | true => exact .inr ⟨x, rfl, h, e⟩
  | _ => exact .inl rfl
theorem Odd.rd {sp l : Addr} {H : Hp} {P : Str → Prop} {v : V} {d : PyData} (h : Odd sp l H P v d) : RdD H 2 v d := by
  cases h with
  | non => exact rfl
  | int => exact rfl
  | str x h => exact rfl
  | lst a h n => exact ⟨a, _, rfl, h, .cons rfl .nil⟩
  | dct a h => exact ⟨a, _, rfl, h, .nil⟩
/-! ### which index is refused -/
theorem fbw_pre : ∀ (xs : List Str) (met r : List V) (i : Nat), (∀ x ∈ xs, okS x = true) → xs.Nodup → (∀ x ∈ xs, inV (.str x) met = false) → fbw (xs.map V.str ++ r) met i = fbw r (met ++ xs.map V.str) (i + xs.length)
  | [], met, r, i, _, _, _ => by simp
  | x :: xs, met, r, i, h, nd, nm => by
    have e : fbw ((x :: xs).map V.str ++ r) met i = if (!isWd (.str x) || inV (.str x) met) = true then some i else fbw (xs.map V.str ++ r) (met ++ [.str x]) (i + 1) := rfl
    have n1 : isWd (.str x) = true := h x List.mem_cons_self
    rw [List.nodup_cons] at nd
    rw [e, n1, nm x List.mem_cons_self, if_neg (by simp), fbw_pre xs _ r (i + 1) (fun y m => h y (List.mem_cons_of_mem _ m)) nd.2 fun y m => ?_]
    · rw [List.map_cons, List.append_assoc, List.length_cons]
      congr 1
      omega
    · have z := nm y (List.mem_cons_of_mem _ m)
      have ne : ¬ x = y := fun q => nd.1 (q ▸ m)
      unfold inV at z ⊢
      rw [List.any_append, z]
      show (false || (eqV (V.str x) (V.str y) || false)) = false
      rw [show eqV (V.str x) (V.str y) = false from beq_eq_false_iff_ne.mpr ne]
      rfl
/-- words that are known, then an odd one -/
theorem bad_at {some_ ks : List Str} {z : V} {r : List V} (ok : ∀ x ∈ some_, okS x = true) (nd : some_.Nodup) (sub : ∀ x ∈ some_, x ∈ ks) (bad : (!isWd z || inV z (some_.map V.str)) = true) : badIx (some_.map V.str ++ z :: r) ks = some some_.length := by
  have e : fbw (some_.map V.str ++ z :: r) [] 0 = some some_.length := by
    rw [fbw_pre some_ [] _ 0 ok nd fun _ _ => rfl, List.nil_append, Nat.zero_add]
    show (if (!isWd z || inV z (some_.map V.str)) = true then some some_.length else _) = _
    rw [if_pos bad]
  unfold badIx fewL
  rw [e]
  dsimp only
  rw [List.take_left' (by rw [List.length_map])]
  have s : strange (some_.map V.str) ks = none := by
    unfold strange
    rw [List.findIdx?_eq_none_iff]
    intro v hv
    obtain ⟨x, mx, rfl⟩ := List.mem_map.mp hv
    rw [inV_strs, decide_eq_true (sub x mx)]
    rfl
  rw [s]
theorem strange_at {some_ ks : List Str} {z : Str} {r : List V} (sub : ∀ x ∈ some_, x ∈ ks) (nz : z ∉ ks) : strange (some_.map V.str ++ .str z :: r) ks = some some_.length := by
  unfold strange
  rw [List.findIdx?_append]
  have s : (some_.map V.str).findIdx? (fun x => !inV x (ks.map V.str)) = none := by
    rw [List.findIdx?_eq_none_iff]
    intro v hv
    obtain ⟨x, mx, rfl⟩ := List.mem_map.mp hv
    rw [inV_strs, decide_eq_true (sub x mx)]
    rfl
  rw [s, List.findIdx?_cons, inV_strs, decide_eq_false nz]
  simp
/-- words that are known, then a word that is none of these, and two more -/
theorem bad_word {some_ ks : List Str} {z y : Str} (ok : ∀ x ∈ some_, okS x = true) (nd : some_.Nodup) (sub : ∀ x ∈ some_, x ∈ ks) (oz : okS z = true) (oy : okS y = true) (nz : z ∉ some_) (ny : y ∉ some_) (yz : y ≠ z) (nk : z ∉ ks) : badIx (some_.map V.str ++ [.str z, .str y, .non]) ks = some some_.length := by
  have e : fbw (some_.map V.str ++ [.str z, .str y, .non]) [] 0 = some (some_.length + 2) := by
    have h1 : ∀ x ∈ some_ ++ [z, y], okS x = true := fun x m => by
      rcases List.mem_append.mp m with m | m
      · exact ok x m
      · simp only [List.mem_cons, List.mem_nil_iff, or_false] at m
        rcases m with rfl | rfl <;> assumption
    have h2 : (some_ ++ [z, y]).Nodup := List.nodup_append.mpr ⟨nd, by simp [yz.symm], fun a ma b mb q => by
      simp only [List.mem_cons, List.mem_nil_iff, or_false] at mb
      rcases mb with rfl | rfl
      · exact nz (q ▸ ma)
      · exact ny (q ▸ ma)⟩
    have q := fbw_pre (some_ ++ [z, y]) [] [.non] 0 h1 h2 fun _ _ => rfl
    rw [List.map_append, List.append_assoc, List.nil_append, Nat.zero_add, List.length_append] at q
    exact q
  unfold badIx fewL
  rw [e]
  dsimp only
  have tk : (some_.map V.str ++ [V.str z, V.str y, V.non]).take (some_.length + 2) = some_.map V.str ++ [V.str z, V.str y] := by
    have h := List.take_length_add_append (l₁ := some_.map V.str) (l₂ := [V.str z, .str y, .non]) 2
    rw [List.length_map] at h
    rw [h]
    rfl
  rw [tk, strange_at sub nk]
theorem bad_last {some_ ks : List Str} {z : Str} (ok : ∀ x ∈ some_, okS x = true) (nd : some_.Nodup) (sub : ∀ x ∈ some_, x ∈ ks) (oz : okS z = true) (nz : z ∉ some_) (nk : z ∉ ks) : badIx (some_.map V.str ++ [.str z]) ks = some some_.length := by
  have e : fbw (some_.map V.str ++ [.str z]) [] 0 = none := by
    rw [fbw_pre some_ [] _ 0 ok nd fun _ _ => rfl, List.nil_append]
    show (if (!isWd (.str z) || inV (.str z) (some_.map V.str)) = true then _ else none) = _
    rw [show isWd (.str z) = true from oz, inV_strs, decide_eq_false nz, if_neg (by simp)]
  unfold badIx fewL
  rw [e]
  dsimp only
  rw [strange_at sub nk]
/-! ### promises where nothing is being shown -/
structure FnOkG (P : Program) (w : World) (K : PySem.W.Frag) (mg : Str → Option Value) (base : Heap) (CX : CXT) (k : Nat) (f : Addr) (fd : FuncData) (ps : List Str) (sp : Sp) : Prop where
  len : ∀ vs H Q E, sp vs H Q E → vs.length = ps.length
  run : ∀ (A : Around) (outer : List Env) (s : Shared) (H : Hp) (args : Args) (us : List Value) (vs : List V) (Q : VK) (E : XK), A.guards = some [] → Room k A → Env0 P w K mg base A outer s H → BindsTo s fd args (ps.zip us) → Vals vs us → sp vs H Q E →
    codeAny (model P w) A (.call (.ref f) args) (CR CX outer P w H s Q E) s
theorem okG {P : Program} {w : World} {K : PySem.W.Frag} {mg : Str → Option Value} {base : Heap} {x qual : Str} {params : Arguments} {body : List Stmt} {scope : Scope} {dvs : List V} {kws : List (Str × V)} {f c : Addr} {fd : FuncData} {CX : CXT} {N ps : List Str} {k : Nat} {sp : Sp}
    (F : FunD K x qual params body scope dvs kws f fd) (hcode : codeOf K f = some (.ref c)) (S : FnScope N ps scope) (len : ∀ vs H Q E, sp vs H Q E → vs.length = ps.length)
    (hbody : ∀ (A : Around) (outer : List Env) (s : Shared) (H : Hp) (vs : List V) (Q : VK) (E : XK), A.guards = some [] → Room k (A.deeper (envOfC qual scope s.heap.objs.size f (.ref c))) → sp vs H Q E →
      ∃ t, PSs (cxOf CX P w K mg base N qual scope f (.ref c) A outer s H E) body t ∧ t { nx := fun _ H' => Q .non H', rt := Q } (L2.start N vs) H) : FnOkG P w K mg base CX (k + 1) f fd ps sp := by
  obtain ⟨oc, od, dV, kV, doc, pm, an, cdv, ct, osl, rfl, lk, hcd, _, _⟩ := F.ex
  have ec : cdv = .ref c := by
    unfold codeOf at hcode
    rw [lk] at hcode
    exact Option.some.inj hcode
  subst ec
  refine ⟨len, fun A outer s H args us vs Q E hG hr e0 hb r hsp => ?_⟩
  exact run_ofS lk hcd S hr e0 hb r (len _ _ _ _ hsp) fun hr' => hbody A outer s H vs Q E hG hr' hsp
theorem pe_callG {X : Cx} {CX : CXT} {k : Nat} {f : Addr} {fd : FuncData} {ps : List Str} {sp : Sp} {E : XK} {x : Str} {p pos : Pos} {e : Expr} {es : List Expr} {t : TA} (hG : X.A.guards = some []) (F : FnOkG X.prog X.w X.K X.mg X.base CX k f fd ps sp) (hr : Room k X.A) (hg : Gl X x) (hm : X.mg x = some (.ref f)) (hk : PySem.W.keepIn X.K (.ref f) = true) (hb : Binds X.K fd ps []) (hx : Passes CX X E)
    (ha : PA X (e :: es) t) (dbg : (x == ("__debug__" : Str)) = false := by decide) (stars : starEach (e :: es) X.env = (false, eval e X.env) :: starEach es X.env := by rfl) (plain : (backTo pos (starEach es X.env)).any (·.1) = false := by rfl) :
    PE X (.Call (.Name x p) (e :: es) [] pos) (tCall sp [] E t) := ⟨fun pins s σ H Q I h => wpAny_Call_Name_kw (ld_glob I hg hm (PySem.W.callWith_K (h₀ := X.base) I.ok.mod.kin hk (thn (ha.run pos pins s σ H _ I h) fun us s1 ⟨vs, H1, J, rel, want⟩ => ⟨J.kIn, by
  have want : sp vs H1 Q E := by
    rw [← List.append_nil vs]
    exact want
  have many : us.length = ps.length := rel.length.symm.trans (F.len _ _ _ _ want)
  have bound := hb s1 us J.kIn (by rw [List.append_nil]; exact many)
  rw [List.append_nil] at bound
  refine wpAny_call (codeAny_mono (F.run X.A X.stack s1 H1 ⟨us, []⟩ us vs Q E hG hr J.env0 bound rel want) fun r s' z => ?_)
  match r, z with
  | .error y, z => exact hx pins σ H1 s1 y s' J z
  | .ok (.ret y), z => exact J.after z
  | .ok .next, z => exact z.elim
  | .ok .brk, z => exact z.elim
  | .ok .cont, z => exact z.elim⟩) stars plain) dbg)⟩
end TH

/-! A28: _law_met(lambda: ..), what is found -/
namespace TH
open PySem PySem.Spec PyProof.Rows L2 LamV LamX XK0
open C8 (pss_cut tCut)
abbrev sRefused : Stmt := top 50
abbrev lamR : Str := ("_law_refused" : Str) ++ ".<locals>." ++ "<lambda>"
theorem pe_met {X : Cx} {T : List (Addr × Str)} {g c Pt CN CB : Addr} {fd : FuncData} {k : Nat} {q : Str} {params : Arguments} {body : Expr} {scope : Scope} {t : XK → TE} {p lpos pos : Pos} (M : MetC X.K X.mg CN CB) (F : FnP X.K "_law_met" sMet g fd) (hm : X.mg "_law_met" = some (.ref g)) (hk : PySem.W.keepIn X.K (.ref g) = true)
    (TB : TabB X.base X.mg c Pt) (hcode : X.env.code = .ref c) (hq : X.env.qual ++ "<lambda>" = q) (hmT : (Pt, q) ∈ T) (hu : ∀ p ∈ T, p.1 = Pt → p.2 = q) (hr : Room (k + 2) X.A) (hg : Gl X "_law_met") (L : LamS X.env.scope scope) (hdef : defaultsOf params X.env = ([], []))
    (hbind : ∀ (q : Str) (cl : List (Str × Addr)) (pm cv ctv : Value), bindArgs (PySem.W.kla_fn "<lambda>" q params body scope cl pm cv ctv) ⟨[], []⟩ = pure [])
    (hbody : ∀ (A : Around) (outer : List Env) (s : Shared) (H : Hp) (E : XK) (f c' : Addr), Room k (A.deeper (lamEnv X scope s.heap.objs.size f c')) → PE (lamCx X A outer s H E scope f c') body (t E)) :
    PE X (.Call (.Name "_law_met" p) [.Lambda params body scope lpos] [] pos) (tLam T (TTmet CN CB) t) := by
  have hb := L2.FunD.bindsA (ps := ["_law_ask"]) F (fun _ _ _ _ _ _ us hl => match us, hl with | [_], _ => rfl)
  obtain ⟨oc, od, dV, kV, doc, pm, an, cdv, ct, osl, rfl, lk, hcd, hD, hK⟩ := F.ex
  have bd : L2.Binds X.K (PySem.W.fnOf "_law_met" "_law_met" (defArgs sMet) (defBody sMet) (defScope sMet) dV kV doc pm an cdv ct) ["_law_ask"] [] := fun s us _ hl => by
    rw [List.append_nil] at hl ⊢
    exact hb s us hl
  subst hq
  exact pe_lamcall hg hm hk lk hcd bd scMet rfl (.inl rfl) (met_gives M) TB hcode hmT hu hr L hdef hbind hbody
theorem lamN {T : List (Addr × Str)} {CN CB : Addr} {t : XK → TE} {σ : L2.St} {H : Hp} {Q : VK} {v : V} (hT : Tabs T H) (ht : ∀ E H1 Q', ExtN H H1 → Tabs T H1 → Rz E H1 CN [("entry", v)] → t E σ H1 Q')
    (hQ : ∀ p H', ExtN H H' → Tabs T H' → NewP H p → H' p = some (.lst [.str "entry", v]) → Q (.ref p) H') : tLam T (TTmet CN CB) t σ H Q := by
  refine ⟨hT, fun H1 x1 t1 => ht _ H1 _ x1 t1 fun H2 dd x2 nd => ⟨dd, v, rfl, .inl ⟨rfl, upd_same, fun p np => ?_⟩⟩⟩
  have x3 : Ex H1 (upd (upd H2 dd (.xd [("entry", v)])) p (.lst [.str "entry", v])) := (x2.trans (Ex.new nd)).trans (Ex.new np)
  refine hQ p _ (x1.trans x3.extN) (x3.tabs t1) (fun o e n => ?_) upd_same
  rw [(x2.trans (Ex.new nd)) _ _ (x1 _ _ e n)] at np
  cases np
theorem lamB {T : List (Addr × Str)} {CN CB : Addr} {t : XK → TE} {σ : L2.St} {H : Hp} {Q : VK} {v : V} (hT : Tabs T H) (ht : ∀ E H1 Q', ExtN H H1 → Tabs T H1 → Rz E H1 CB [("index", v)] → t E σ H1 Q')
    (hQ : ∀ p H', ExtN H H' → Tabs T H' → NewP H p → H' p = some (.lst [.str "names", v]) → Q (.ref p) H') : tLam T (TTmet CN CB) t σ H Q := by
  refine ⟨hT, fun H1 x1 t1 => ht _ H1 _ x1 t1 fun H2 dd x2 nd => ⟨dd, v, rfl, .inr ⟨rfl, upd_same, fun p np => ?_⟩⟩⟩
  have x3 : Ex H1 (upd (upd H2 dd (.xd [("index", v)])) p (.lst [.str "names", v])) := (x2.trans (Ex.new nd)).trans (Ex.new np)
  refine hQ p _ (x1.trans x3.extN) (x3.tabs t1) (fun o e n => ?_) upd_same
  rw [(x2.trans (Ex.new nd)) _ _ (x1 _ _ e n)] at np
  cases np
/-- k things found so far, each the list [x, v] -/
structure Fs (T : List (Addr × Str)) (H2 H : Hp) (fl : Addr) (k : Nat) (x : Str) (v : V) : Prop where
  ex : ExtN H2 H
  new : NewP H2 fl
  tabs : Tabs T H
  all : ∃ ps : List Addr, ps.length = k ∧ H fl = some (.lst (ps.map V.ref)) ∧ ∀ p ∈ ps, H p = some (.lst [.str x, v])
theorem Fs.first {T : List (Addr × Str)} {H2 H : Hp} {fl p : Addr} {x : Str} {v : V} (e : ExtN H2 H) (t : Tabs T H) (hp : H p = some (.lst [.str x, v])) (nf : H fl = none) : Fs T H2 (upd H fl (.lst [.ref p])) fl 1 x v :=
  ⟨e.trans (Ex.new nf).extN, (fun o e2 n => by rw [e _ _ e2 n] at nf; cases nf), (Ex.new nf).tabs t, [p], rfl, upd_same, fun q m => by rw [List.mem_singleton.mp m]; exact (Ex.new nf) _ _ hp⟩
theorem Fs.lst {T : List (Addr × Str)} {H2 H : Hp} {fl : Addr} {k : Nat} {x : Str} {v : V} (F : Fs T H2 H fl k x v) : ∃ xs, H fl = some (.lst xs) ∧ xs.length = k := by
  obtain ⟨ps, l, e, _⟩ := F.all
  exact ⟨_, e, by rw [List.length_map, l]⟩
/-- one more -/
theorem Fs.app {T : List (Addr × Str)} {H2 H H' : Hp} {fl p : Addr} {k : Nat} {x : Str} {v : V} {xs : List V} (F : Fs T H2 H fl k x v) (e : ExtN H H') (t : Tabs T H') (np : NewP H p) (hp : H' p = some (.lst [.str x, v])) (hx : H' fl = some (.lst xs)) : Fs T H2 (upd H' fl (.lst (xs ++ [.ref p]))) fl (k + 1) x v := by
  obtain ⟨ps, l, hf, all⟩ := F.all
  have ef := e _ _ hf fun _ z => nomatch z
  rw [ef] at hx
  cases hx
  have pf : p ≠ fl := np.off hf fun _ z => nomatch z
  refine ⟨fun b o eb n => ?_, F.new, fun q hq => ?_, ps ++ [p], by rw [List.length_append, l]; rfl, by rw [upd_same, List.map_append]; rfl, fun q m => ?_⟩
  · refine (upd_ne fun z => ?_).trans (e _ _ (F.ex _ _ eb n) n)
    exact F.new o (z ▸ eb) n
  · obtain ⟨rs, h1, h2, h3⟩ := t q hq
    refine ⟨rs, (upd_ne fun z => by rw [z, ef] at h1; cases h1).trans h1, h2, fun pos cv hc => ?_⟩
    obtain ⟨c, e1, e2⟩ := h3 pos cv hc
    exact ⟨c, e1, (upd_ne fun z => by rw [z, ef] at e2; cases e2).trans e2⟩
  · rcases List.mem_append.mp m with m | m
    · have hq := e _ _ (all q m) fun _ z => nomatch z
      refine (upd_ne fun z => ?_).trans hq
      rw [z, ef] at hq
      have z2 : ps.map V.ref = [.str x, v] := HO.lst.inj (Option.some.inj hq)
      cases ps with
      | nil => cases z2
      | cons a r => cases z2
    · rw [List.mem_singleton.mp m]
      exact (upd_ne pf).trans hp
/-! ### what is shown -/
def entD (od : PyData) : PyData := .list [.str "entry", od]
def Showy (d : PyData) : Prop := d.showable = true ∧ d.depth ≤ 40 ∧ d.shown.length ≤ sizeLine
theorem shown_ok {sp l : Addr} {H : Hp} {v : V} {od : PyData} (h : Odd sp l H (fun x => x = "none" ∨ x = "E" ∨ x ∈ deedN) v od) : Showy (.list (List.replicate 5 (entD od))) := by
  have len : ∀ d : PyData, d.shown.length ≤ 1000 → d.shown.length ≤ sizeLine := fun d h => by rw [sizeLine_eq]; omega
  cases h with
  | non => exact ⟨by decide +kernel, by decide +kernel, len _ (by decide +kernel)⟩
  | int => exact ⟨by decide +kernel, by decide +kernel, len _ (by decide +kernel)⟩
  | str x h =>
    rcases h with rfl | rfl | h
    · exact ⟨by decide +kernel, by decide +kernel, len _ (by decide +kernel)⟩
    · exact ⟨by decide +kernel, by decide +kernel, len _ (by decide +kernel)⟩
    · simp only [deedN, List.mem_cons, List.mem_nil_iff, or_false] at h
      rcases h with rfl | rfl
      · exact ⟨by decide +kernel, by decide +kernel, len _ (by decide +kernel)⟩
      · exact ⟨by decide +kernel, by decide +kernel, len _ (by decide +kernel)⟩
  | lst a h n => exact ⟨by decide +kernel, by decide +kernel, len _ (by decide +kernel)⟩
  | dct a h => exact ⟨by decide +kernel, by decide +kernel, len _ (by decide +kernel)⟩
theorem paired_rep {α β : Type} {R : α → β → Prop} {b : β} : ∀ {l : List α} {k : Nat}, l.length = k → (∀ a ∈ l, R a b) → Paired R l (List.replicate k b)
  | [], 0, _, _ => .nil
  | a :: r, k + 1, h, q => .cons (q a List.mem_cons_self) (paired_rep (by simpa using h) fun x m => q x (List.mem_cons_of_mem _ m))
  | a :: r, 0, h, _ => by cases h
  | [], k + 1, h, _ => by cases h
theorem ent_rd {H : Hp} {p : Addr} {v : V} {od : PyData} (hp : H p = some (.lst [.str "entry", v])) (r : RdD H 2 v od) : RdD H 3 (.ref p) (entD od) := ⟨p, _, rfl, hp, .cons rfl (.cons r .nil)⟩
def numD (j : Int) : PyData := .list [.str "names", .int j]
theorem dp_rep {K : PySem.W.Frag} {H : Hp} {d : PyData} : ∀ {ps : List Addr} {k : Nat}, ps.length = k → (∀ p ∈ ps, Dp K H (.ref p) d) → DpAll K H (ps.map V.ref) (List.replicate k d)
  | [], 0, _, _ => .nil
  | a :: r, k + 1, h, q => .cons (q a List.mem_cons_self) (dp_rep (by simpa using h) fun x m => q x (List.mem_cons_of_mem _ m))
  | a :: r, 0, h, _ => by cases h
  | [], k + 1, h, _ => by cases h
theorem num_dp {K : PySem.W.Frag} {H : Hp} {p : Addr} {j : Int} (hp : H p = some (.lst [.str "names", .int j])) : Dp K H (.ref p) (numD j) := .lst (.inl (.inl hp)) (.cons (.str _) (.cons (.int _) .nil))
theorem num_ok4 (j : Int) : SeqAt.shaped (.list (List.replicate 4 (numD j))) = true := by
  have h : PyData.canLay0 (.str "names") = true := by decide +kernel
  unfold SeqAt.shaped
  have e2 : PyData.depth (.list (List.replicate 4 (numD j))) = 2 := rfl
  rw [e2]
  have e1 : PyData.canLay0 (.list (List.replicate 4 (numD j))) = true := by
    show (((PyData.canLay0 (.str "names")) && (true && true)) && (((PyData.canLay0 (.str "names")) && (true && true)) && (((PyData.canLay0 (.str "names")) && (true && true)) && (((PyData.canLay0 (.str "names")) && (true && true)) && true)))) = true
    rw [h]
    rfl
  rw [e1]
  decide
theorem num_ok2 : SeqAt.shaped (.list (List.replicate 2 (numD 0))) = true := by decide +kernel
end TH

/-! A28B: plainly, of right parts and the thing of them -/
namespace TH
open PySem PySem.Spec PyProof.Rows L2 LamV LamX XK0
theorem valN_ok : ∀ x ∈ valN, okS x = true ∧ PyData.canLay0 (.str x) = true := by
  intro x m
  simp only [valN, List.mem_cons, List.mem_nil_iff, or_false] at m
  rcases m with rfl | rfl | rfl | rfl <;> exact ⟨by decide +kernel, by decide +kernel⟩
theorem nameN_ok : ∀ x ∈ deedN ++ entN, okS x = true ∧ PyData.canLay0 (.str x) = true := by
  intro x m
  simp only [deedN, entN, List.mem_cons, List.mem_nil_iff, or_false, List.cons_append, List.nil_append] at m
  rcases m with rfl | rfl | rfl | rfl | rfl <;> exact ⟨by decide +kernel, by decide +kernel⟩
theorem apart : ∀ x ∈ deedN, x ∉ entN := by decide +kernel
namespace ThD.Good
variable {d : ThD} (g : d.Good)
include g
theorem vsub : ∀ v ∈ d.vals, v ∈ valN := fun v m => by
  obtain ⟨k, _, _, e⟩ := g.vals
  rw [e] at m
  exact List.mem_of_mem_take m
theorem vnd : d.vals.Nodup := by
  obtain ⟨k, _, _, e⟩ := g.vals
  rw [e]
  exact (List.take_sublist _ valN).nodup (by decide)
theorem vlen : d.vals.length ≤ 4 ∧ 2 ≤ d.vals.length := by
  obtain ⟨k, h1, h2, e⟩ := g.vals
  have : (valN.take k).length = k := by rw [List.length_take]; exact Nat.min_eq_left h2
  rw [e, this]
  exact ⟨h2, h1⟩
theorem dsub : ∀ x ∈ d.deeds.map (·.1), x ∈ deedN := fun v m => by
  obtain ⟨k, _, e⟩ := g.dn
  rw [e] at m
  exact List.mem_of_mem_take m
theorem esub : ∀ x ∈ d.ents.map (·.1), x ∈ entN := fun v m => by
  obtain ⟨k, _, _, e⟩ := g.en
  rw [e] at m
  exact List.mem_of_mem_take m
theorem dnd : (d.deeds.map (·.1)).Nodup := by
  obtain ⟨k, _, e⟩ := g.dn
  rw [e]
  exact (List.take_sublist _ deedN).nodup (by decide)
theorem end_ : (d.ents.map (·.1)).Nodup := by
  obtain ⟨k, _, _, e⟩ := g.en
  rw [e]
  exact (List.take_sublist _ entN).nodup (by decide)
theorem dlen : d.deeds.length ≤ 2 := by
  obtain ⟨k, h, e⟩ := g.dn
  have := congrArg List.length e
  rw [List.length_map, List.length_take] at this
  omega
theorem elen : d.ents.length ≤ 3 := by
  obtain ⟨k, _, h, e⟩ := g.en
  have := congrArg List.length e
  rw [List.length_map, List.length_take] at this
  omega
theorem has_e : ("e" : Str) ∈ d.ents.map (·.1) := by
  obtain ⟨k, h1, _, e⟩ := g.en
  rw [e]
  obtain ⟨j, rfl⟩ : ∃ j, k = j + 1 := ⟨k - 1, by omega⟩
  exact List.mem_cons_self
theorem nsub : ∀ x ∈ d.names, x ∈ deedN ++ entN := fun x m => by
  unfold ThD.names at m
  rcases List.mem_append.mp m with m | m
  · exact List.mem_append_left _ (g.dsub x m)
  · exact List.mem_append_right _ (g.esub x m)
theorem nlen : d.names.length ≤ 5 := by
  unfold ThD.names
  rw [List.length_append, List.length_map, List.length_map]
  have := g.dlen
  have := g.elen
  omega
theorem nnd : d.names.Nodup := List.nodup_append.mpr ⟨g.dnd, g.end_, fun a ma b mb e => apart a (g.dsub a ma) (e ▸ g.esub b mb)⟩
theorem fit : d.Fit where
  vne := fun z => by have := g.vlen.2; rw [z] at this; simp at this
  vok := fun x m => (valN_ok x (g.vsub x m)).1
  vnd := g.vnd
  vln := by have := g.vlen.1; omega
  st := g.start
  dln := by have := g.dlen; omega
  eln := by have := g.elen; omega
  dnd := g.dnd
  end_ := g.end_
  dok := fun l m => ⟨(nameN_ok _ (List.mem_append_left _ (g.dsub _ (List.mem_map_of_mem m)))).1, by
    obtain ⟨h1, h2⟩ := g.dl l m
    have hl : l.2.length = d.vals.length := by rw [← h1, List.length_map]
    refine ⟨fun q mq => ⟨h1 ▸ List.mem_map_of_mem mq, h2 q mq⟩, h1 ▸ g.vnd, ?_, fun _ => hl⟩
    have := g.vlen.1
    omega⟩
  eok := fun l m => ⟨(nameN_ok _ (List.mem_append_right _ (g.esub _ (List.mem_map_of_mem m)))).1, fun z => apart _ (g.dsub _ z) (g.esub _ (List.mem_map_of_mem m)), by
    obtain ⟨h1, h2, h3⟩ := g.el l m
    refine ⟨fun q mq => ⟨h2 q mq, h3 q mq⟩, h1, ?_, fun z => nomatch z⟩
    have z := h1.length_le_of_subset (l₂ := d.vals) fun x mx => by
      obtain ⟨q, mq, rfl⟩ := List.mem_map.mp mx
      exact h2 q mq
    rw [List.length_map] at z
    have := g.vlen.1
    omega⟩
theorem ok : d.Ok where
  few := by have := g.vlen.1; omega
  start := g.start
  txt := fun v m => (valN_ok v (g.vsub v m)).2
  deeds := fun n l h v mv => by
    obtain ⟨p, mp, _, rfl⟩ := look_some h
    obtain ⟨h1, h2⟩ := g.dl p mp
    rw [← h1] at mv
    obtain ⟨q, mq, rfl⟩ := List.mem_map.mp mv
    exact ⟨q.2, h2 q mq, lookL_mem (h1 ▸ g.vnd) mq⟩
  ents := fun n l h v x e => by
    obtain ⟨p, mp, _, rfl⟩ := look_some h
    obtain ⟨h1, h2, h3⟩ := g.el p mp
    obtain ⟨q, mq, hq⟩ := List.mem_map.mp (lookL_keys e)
    have := lookL_mem h1 mq
    rw [hq, e] at this
    cases this
    exact h3 q mq
end ThD.Good
/-! ### the thing of right parts -/
theorem ord_names {d d' : ThD} (h : IsOrd d d') : d'.names.Perm d.names := by
  obtain ⟨ns, ms, p1, s1, p2, s2, rfl⟩ := h
  unfold ThD.names ordD
  dsimp only
  rw [List.map_map, List.map_map]
  have e : ∀ (vals : List Str) (lds : Lds) (l : List Str), l.map ((fun x : Str × Ld => x.1) ∘ fun n => (n, ordL vals ((look lds n).getD []))) = l := fun vals lds l => by
    induction l with
    | nil => rfl
    | cons a r ih => rw [List.map_cons, ih]; rfl
  rw [e, e]
  exact p1.append p2
theorem look_no {ls : Lds} {n : Str} (h : n ∉ ls.map (·.1)) : look ls n = none := by
  cases q : look ls n with
  | none => rfl
  | some l =>
    obtain ⟨p, m, e, _⟩ := look_some q
    exact absurd (e ▸ List.mem_map_of_mem m) h
theorem ord_ents {d d' : ThD} (g : d.Good) (h : IsOrd d d') (n : Str) : look d'.ents n = (look d.ents n).map (ordL d.vals) := by
  obtain ⟨ns, ms, p1, s1, p2, s2, rfl⟩ := h
  exact look_ordD g.end_ p2 n
theorem ord_deeds {d d' : ThD} (g : d.Good) (h : IsOrd d d') (n : Str) : look d'.deeds n = (look d.deeds n).map (ordL d.vals) := by
  obtain ⟨ns, ms, p1, s1, p2, s2, rfl⟩ := h
  exact look_ordD g.dnd p1 n
theorem ord_vals {d d' : ThD} (h : IsOrd d d') : d'.vals = d.vals ∧ d'.start = d.start := by
  obtain ⟨ns, ms, p1, s1, p2, s2, rfl⟩ := h
  exact ⟨rfl, rfl⟩
theorem ord_ok {d d' : ThD} (g : d.Good) (h : IsOrd d d') : d'.Ok := by
  obtain ⟨ev, es⟩ := ord_vals h
  have k := g.ok
  refine ⟨by rw [ev]; exact k.few, by rw [ev, es]; exact k.start, by rw [ev]; exact k.txt, fun n l hl v mv => ?_, fun n l hl v x e => ?_⟩
  · rw [ord_deeds g h] at hl
    obtain ⟨l0, e0, rfl⟩ := Option.map_eq_some_iff.mp hl
    rw [ev] at mv ⊢
    obtain ⟨p, mp, _, e2⟩ := look_some e0
    obtain ⟨y, my, ey⟩ := k.deeds n l0 e0 v mv
    refine ⟨y, my, ?_⟩
    rw [ordL_look g.vnd fun q mq => ?_]
    · exact ey
    · rw [← e2] at mq
      exact ((g.fit.dok p mp).2.1 q mq).1
  · rw [ord_ents g h] at hl
    obtain ⟨l0, e0, rfl⟩ := Option.map_eq_some_iff.mp hl
    obtain ⟨p, mp, _, e2⟩ := look_some e0
    rw [ev]
    rw [ordL_look g.vnd fun q mq => ?_] at e
    · exact k.ents n l0 e0 v x e
    · rw [← e2] at mq
      exact ((g.fit.eok p mp).2.2.1 q mq).1
theorem ord_e {d d' : ThD} (g : d.Good) (h : IsOrd d d') : (look d'.ents "e").isSome = true := by
  rw [ord_ents g h, Option.isSome_map]
  exact look_mem g.has_e
/-- an odd word is no entry -/
theorem odd_no {d d' : ThD} (g : d.Good) (h : IsOrd d d') {x : Str} (hx : x = "none" ∨ x = "E" ∨ x ∈ deedN) : look d'.ents x = none := by
  rw [ord_ents g h, look_no fun m => ?_]
  · rfl
  · have m := g.esub x m
    rcases hx with rfl | rfl | hx
    · exact absurd m (by decide +kernel)
    · exact absurd m (by decide +kernel)
    · exact apart x hx m
end TH

/-! A29: _law_refused -/
namespace TH
open PySem PySem.Spec PyProof.Rows L2 LamV LamX XK0
open C8 (pss_cut tCut)
/-- no list, no tuple -/
def NoL (H : Hp) (v : V) : Prop := v = .non ∨ v = .int 5 ∨ v = .str "e" ∨ ∃ a, v = .ref a ∧ H a = some (.dK [])
theorem NoL.exN {H H' : Hp} {v : V} (x : ExtN H H') (h : NoL H v) : NoL H' v := by
  rcases h with h | h | h | ⟨a, h, e⟩
  · exact .inl h
  · exact .inr (.inl h)
  · exact .inr (.inr (.inl h))
  · exact .inr (.inr (.inr ⟨a, h, x _ _ e fun _ z => nomatch z⟩))
theorem NoL.kd {K : PySem.W.Frag} {H : Hp} {v : V} (h : NoL H v) : ∃ T, Kd K H v T ∧ isLt T = false := by
  rcases h with rfl | rfl | rfl | ⟨a, rfl, e⟩
  · exact ⟨"NoneType", ⟨by decide, .base .non, fun x z => nomatch z⟩, by decide +kernel⟩
  · exact ⟨"int", ⟨by decide, .base (.int 5), fun x z => nomatch z⟩, by decide +kernel⟩
  · exact ⟨"str", str_kd (by decide +kernel), by decide +kernel⟩
  · exact ⟨"dict", ⟨by decide, .base (.dK e), fun x z => nomatch z⟩, by decide +kernel⟩
def POdd (x : Str) : Prop := x = "none" ∨ x = "E" ∨ x ∈ deedN
def spRefused (K : PySem.W.Frag) (C : Addr) (T : List (Addr × Str)) : Sp := fun vs H Q _ => ∃ (sp l t pt : Addr) (n : Nat) (d d' : ThD), vs = [.ref sp, .ref t, .ref pt] ∧ Spr H sp l n ∧ n + 100 < 1000000 ∧ IsTh H C t d' ∧ IsPtS sp l H pt d ∧ d.Good ∧ IsOrd d d' ∧ Tabs T H ∧
  ∀ (H' : Hp) (m : Nat), m ≤ n + 20 → ExSN sp l H H' → Spr H' sp l m → Tabs T H' → Q (.bl true) H'
/-- behind the draws -/
def RMid (sp l t pt : Addr) (n : Nat) (d : ThD) (T : List (Addr × Str)) (H : Hp) (σ : L2.St) (H2 : Hp) : Prop := ∃ (nh bl sl : Addr) (nl odd z : V) (od dz : PyData) (som : List Str) (m : Nat),
  σ = [some (.ref sp), some (.ref t), some (.ref pt), some (.ref nh), none, some (.ref bl), some nl, some odd, some (.ref sl), none] ∧ ExSN sp l H H2 ∧ Spr H2 sp l m ∧ m ≤ n + 20 ∧ Tabs T H2 ∧ Odd sp l H2 POdd odd od ∧ NoL H2 nl ∧ H2 sl = some (.lst (som.map V.str)) ∧ H2 bl = some (.lst (som.map V.str ++ z :: [.str "e", .non])) ∧
  (∀ x ∈ som, x ∈ d.names) ∧ som.Nodup ∧ ("e" : Str) ∉ som ∧ som.length ≤ 2 ∧ Odd sp l H2 (fun x => x = "none" ∨ x = "E" ∨ x ∈ som) z dz
/-- the strings of a list that are not x (x a constant) -/
theorem lessC_go {K : PySem.W.Frag} {i : Nat} {tn : TE} {σ : L2.St} {H : Hp} {Q : VK} {x : Str} {ys : List Str} (li : i < σ.length) (len : ys.length ≤ 100) (hn : ∀ Q, (∀ p, H p = some (.lst (ys.map V.str)) → Q (V.ref p) H) → tn σ H Q)
    (hQ : ∀ (q : Addr) (H' : Hp), Ex H H' → H q = none → H' q = some (.lst ((ys.filter fun y => !decide (y = x)).map V.str)) → Q (.ref q) H') : tLc (iList K tn) (gName i) (tTest (tOp rNe (tVar i) (tC (.str x)))) (tVar i) [i] σ H Q := by
  refine hn _ fun p hp => ⟨p, rfl, ⟨_, .inl (.inl hp)⟩, fun D nD => ?_⟩
  refine lc_list (K := K) (xs := ys.map V.str) (fun n H2 => Ex H H2 ∧ H2 D = some (.lst (((ys.take n).filter fun y => !decide (y = x)).map V.str))) ⟨Ex.new nD, upd_same⟩ (fun n H2 _ h => .inl (.inl (h.1 _ _ hp))) (fun n v H2 hv h => ?_) fun H2 h => ?_
  · obtain ⟨x2, hD⟩ := h
    rw [List.getElem?_map] at hv
    obtain ⟨w, ew, rfl⟩ := Option.map_eq_some_iff.mp hv
    have ai : (((wipe σ [i]).set i (some (V.str w))))[i]? = some (some (V.str w)) := List.getElem?_set_self (by rw [wipe_length]; exact li)
    refine ⟨?_, .str w, ai, rfl, _, rfl, ?_⟩
    · show ((σ.set i none).set i (some (V.str w))).set i none = σ.set i none
      rw [List.set_set, List.set_set]
    rw [List.take_add_one, ew, Option.toList_some, List.filter_append]
    by_cases q : w = x
    · rw [show (!decide (V.str w = V.str x)) = false by rw [decide_eq_true (congrArg V.str q)]; rfl]
      refine ⟨x2, ?_⟩
      rw [List.filter_cons_of_neg (by simpa using q), List.filter_nil, List.append_nil]
      exact hD
    · rw [show (!decide (V.str w = V.str x)) = true by rw [decide_eq_false (fun z => q (V.str.inj z))]; rfl]
      have ln : ((ys.take n).filter fun y => !decide (y = x)).length ≤ ys.length := Nat.le_trans (List.length_filter_le _ _) (by rw [List.length_take]; exact Nat.min_le_right _ _)
      refine ⟨.str w, ai, _, hD, by rw [sizeLine_eq, List.length_map]; omega, fun b o e => (upd_ne fun z => by rw [z, nD] at e; cases e).trans (x2 _ _ e), ?_⟩
      rw [upd_same, List.filter_cons_of_pos (by simpa using q), List.filter_nil, List.map_append]
      rfl
  · obtain ⟨x2, hD⟩ := h
    rw [List.length_map, List.take_length] at hD
    exact hQ D H2 x2 nD hD
section
variable {P : Program} {w : World} {K : PySem.W.Frag} {mg : Str → Option Value} {base : Heap} {f C CN CB c Pt gm : Addr} {fd fdm : FuncData} {T : List (Addr × Str)}
theorem scRefused : FnScope ["_law_spring_here", "_law_thing_here", "_law_parts", "_law_names_here", "_law_found", "_law_bent", "_law_no_list", "_law_odd", "_law_some", "_law_name"] ["_law_spring_here", "_law_thing_here", "_law_parts"] (defScope sRefused) := ⟨rfl, rfl, rfl, by decide +kernel, rfl, by decide +kernel, by decide +kernel⟩
def rTupOf (K : PySem.W.Frag) : List V → Hp → VK → Prop := fun xs H Q => ∃ p ys, xs = [.ref p] ∧ ((SqL K H p ys ∧ ∀ l, H l = none → Q (.ref l) (upd H l (.tup ys))) ∨ (SqT K H p ys ∧ Q (.ref p) H))
theorem ok_refused (F : FnP K "_law_refused" sRefused f fd) (hcode : codeOf K f = some (.ref c)) (TB : TabB base mg c Pt) (hm : (Pt, lamR) ∈ T) (hT : ∀ p ∈ T, p.1 = Pt → p.2 = lamR) (TC : ThC K C) (M : MetC K mg CN CB) (FMt : FnP K "_law_met" sMet gm fdm) (gMt : mg "_law_met" = some (.ref gm)) (kMt : PySem.W.keepIn K (.ref gm) = true)
    (FT : Has P w K mg base "_law_take" 1 ["_law_spring_here", "_law_many"] spTake) (FO : Has P w K mg base "_law_one" 2 ["_law_spring_here", "_law_things"] spOne) (FM : Has P w K mg base "_law_mix" 2 ["_law_spring_here", "_law_things"] (spMix K)) (FN : Has P w K mg base "_law_names" 1 ["_law_parts"] spNames)
    (F1 : HasX P w K mg base "first_open" 4 ["thing", "entry", "names"] (spF3X K C CN CB allNames)) (F2 : HasX P w K mg base "shut_ring" 4 ["thing", "entry", "names"] (spF3X K C CN CB lessNames)) (F3 : HasX P w K mg base "is_shut_ring" 4 ["thing", "entry", "names", "pair"] (spF4X K C CN CB lessNames)) (F4 : HasX P w K mg base "helpers_of" 5 ["thing", "entry"] (spF2X K C CN)) (F5 : HasX P w K mg base "idle_lots" 4 ["thing", "entry"] (spF2X K C CN))
    (gl : mg "list" = none) (gn : mg "len" = none) (gr : mg "repr" = none) (gt : mg "tuple" = none) (hS : (K.lookup sysModules).isSome = true) :
    FnOkG P w K mg base CX0 8 f fd ["_law_spring_here", "_law_thing_here", "_law_parts"] (spRefused K C T) := by
  refine okG F hcode scRefused (fun vs H Q E h => ?_) (fun A outer s H vs Q E hG hr h => ?_)
  · obtain ⟨sp, l, t, pt, n, d, d', rfl, _⟩ := h
    rfl
  · have hu := hu_of hr
    refine ⟨_, PSs.nox (pss_cons (ps_asg (pe_tup (pa_cons (pe_has FO hr (by decide) rfl (pa_cons (pv 0) (pa_cons (pe_op op_cat (pe_lst (pa_cons pe_non (pa_cons pe_int (pa_cons pe_str (pa_cons pe_str (pa_cons (pe_lst (pa_cons pe_str pa_nil)) (pa_cons pe_dnewK pa_nil))))))) (pe_callTy (call_listD rfl) rfl gl boot_list (pa_cons (pe_ix ix_tup (pv 2) pe_int (fun _ _ => rfl)) pa_nil))) pa_nil))) (pa_cons (pe_has FM hr (by decide) rfl (pa_cons (pv 0) (pa_cons (pe_has FN hr (by decide) rfl (pa_cons (pv 2) pa_nil)) pa_nil))) pa_nil))) (pg_tup rfl (pgs_cons (pg_name (i := 7) scRefused.nd rfl (.inr rfl)) (pgs_cons (pg_name (i := 3) scRefused.nd rfl (.inl rfl)) pgs_nil))))
      (pss_cons (ps_set (i := 8) scRefused.nd rfl (.inr rfl) (pe_slice sl_list (pe_lc (te := tVar 9) (tt := tTest (tOp rNe (tVar 9) (tC (.str "e")))) (own := [("_law_name", 9)]) rfl scRefused.nd (pi_list (pv 3)) (blkOk_by (by kernel_rfl)) (fun s H C cl fp => pg_name (i := 9) scRefused.nd rfl (.inl rfl) (.inr rfl)) (fun s H C cl fp => pts_one (pt_cmpR op_ne (pv 9) pe_str (nomark _))) (fun s H C cl fp => pv 9)) po_none (po_some (pe_has FT hr (by decide) rfl (pa_cons (pv 0) (pa_cons pe_int pa_nil))))))
      (pss_cons (ps_set (i := 5) scRefused.nd rfl (.inr rfl) (pe_op op_cat (pe_op op_cat (pv 8) (pe_lst (pa_cons (pe_has FO hr (by decide) rfl (pa_cons (pv 0) (pa_cons (pe_op op_cat (pe_lst (pa_cons pe_non (pa_cons pe_int (pa_cons pe_str (pa_cons pe_str (pa_cons (pe_lst (pa_cons pe_str pa_nil)) pa_nil)))))) (pe_slice sl_list (pv 8) po_none (po_some pe_int))) pa_nil))) pa_nil))) (pe_lst (pa_cons pe_str (pa_cons pe_non pa_nil)))))
      (pss_cut (ps_set (i := 6) scRefused.nd rfl (.inr rfl) (pe_has FO hr (by decide) rfl (pa_cons (pv 0) (pa_cons (pe_lst (pa_cons pe_non (pa_cons pe_int (pa_cons pe_str (pa_cons pe_dnewK pa_nil))))) pa_nil))))
      (pss_cons (ps_set (i := 4) scRefused.nd rfl (.inl rfl) (pe_lst (pa_cons (pe_met M FMt gMt kMt TB rfl rfl hm hT hr rfl (lamS_by (by kernel_rfl)) rfl (fun _ _ _ _ _ => rfl) (fun A outer s H E f c' hr2 => pe_hasX (E := E) F1 hr2 (by decide) rfl (takes_of rfl rfl rfl rfl) (fun _ _ _ _ z => z) (pa_cons (pv 1) (pa_cons (pv 7) (pa_cons (pv 6) pa_nil))))) pa_nil)))
      (pss_cons (ps_expr (pe_bm PySem.F.plainAttrs_list PySem.F.slot_list_append PySem.F.type_list_append mt_append (pv 4) (pa_cons (pe_met M FMt gMt kMt TB rfl rfl hm hT hr rfl (lamS_by (by kernel_rfl)) rfl (fun _ _ _ _ _ => rfl) (fun A outer s H E f c' hr2 => pe_hasX (E := E) F2 hr2 (by decide) rfl (takes_of rfl rfl rfl rfl) (fun _ _ _ _ z => z) (pa_cons (pv 1) (pa_cons (pv 7) (pa_cons (pv 6) pa_nil))))) pa_nil)))
      (pss_cons (ps_expr (pe_bm PySem.F.plainAttrs_list PySem.F.slot_list_append PySem.F.type_list_append mt_append (pv 4) (pa_cons (pe_met M FMt gMt kMt TB rfl rfl hm hT hr rfl (lamS_by (by kernel_rfl)) rfl (fun _ _ _ _ _ => rfl) (fun A outer s H E f c' hr2 => pe_hasX (E := E) F3 hr2 (by decide) rfl (takes_of rfl rfl rfl rfl) (fun _ _ _ _ z => z) (pa_cons (pv 1) (pa_cons (pv 7) (pa_cons (pv 6) (pa_cons pe_non pa_nil)))))) pa_nil)))
      (pss_cons (ps_expr (pe_bm PySem.F.plainAttrs_list PySem.F.slot_list_append PySem.F.type_list_append mt_append (pv 4) (pa_cons (pe_met M FMt gMt kMt TB rfl rfl hm hT hr rfl (lamS_by (by kernel_rfl)) rfl (fun _ _ _ _ _ => rfl) (fun A outer s H E f c' hr2 => pe_hasX (E := E) F4 hr2 (by decide) rfl (takes_of rfl rfl rfl rfl) (fun _ _ _ _ z => z) (pa_cons (pv 1) (pa_cons (pv 7) pa_nil)))) pa_nil)))
      (pss_cons (ps_expr (pe_bm PySem.F.plainAttrs_list PySem.F.slot_list_append PySem.F.type_list_append mt_append (pv 4) (pa_cons (pe_met M FMt gMt kMt TB rfl rfl hm hT hr rfl (lamS_by (by kernel_rfl)) rfl (fun _ _ _ _ _ => rfl) (fun A outer s H E f c' hr2 => pe_hasX (E := E) F5 hr2 (by decide) rfl (takes_of rfl rfl rfl rfl) (fun _ _ _ _ z => z) (pa_cons (pv 1) (pa_cons (pv 7) pa_nil)))) pa_nil)))
      (pss_cons (ps_if (pt_cmpR op_ne (pe_callB (call_reprD hG hr.units hS) rfl gr PyProof.Rows.boot_repr (pa_cons (pv 4) pa_nil)) (pe_callB (call_reprD hG hr.units hS) rfl gr PyProof.Rows.boot_repr (pa_cons (pe_op op_rep (pe_lst (pa_cons (pe_lst (pa_cons pe_str (pa_cons (pv 7) pa_nil))) pa_nil)) pe_int) pa_nil)) (nomark _)) (pss_one (ps_ret pe_bl)) pss_nil)
      (pss_cons (ps_set (i := 4) scRefused.nd rfl (.inl rfl) (pe_lst (pa_cons (pe_met M FMt gMt kMt TB rfl rfl hm hT hr rfl (lamS_by (by kernel_rfl)) rfl (fun _ _ _ _ _ => rfl) (fun A outer s H E f c' hr2 => pe_hasX (E := E) F1 hr2 (by decide) rfl (takes_of rfl rfl rfl rfl) (fun _ _ _ _ z => z) (pa_cons (pv 1) (pa_cons pe_str (pa_cons (pv 5) pa_nil))))) pa_nil)))
      (pss_cons (ps_expr (pe_bm PySem.F.plainAttrs_list PySem.F.slot_list_append PySem.F.type_list_append mt_append (pv 4) (pa_cons (pe_met M FMt gMt kMt TB rfl rfl hm hT hr rfl (lamS_by (by kernel_rfl)) rfl (fun _ _ _ _ _ => rfl) (fun A outer s H E f c' hr2 => pe_hasX (E := E) F2 hr2 (by decide) rfl (takes_of rfl rfl rfl rfl) (fun _ _ _ _ z => z) (pa_cons (pv 1) (pa_cons pe_str (pa_cons (pv 5) pa_nil))))) pa_nil)))
      (pss_cons (ps_expr (pe_bm PySem.F.plainAttrs_list PySem.F.slot_list_append PySem.F.type_list_append mt_append (pv 4) (pa_cons (pe_met (t := fun E => tCall (spF4X K C CN CB lessNames) [] E (tCons (tVar 1) (tCons (tC (.str "e")) (tCons (tCB (rTupOf K) (tCons (tVar 5) tNil)) (tCons (tC .non) tNil))))) M FMt gMt kMt TB rfl rfl hm hT hr rfl (lamS_by (by kernel_rfl)) rfl (fun _ _ _ _ _ => rfl) (fun A outer s H E f c' hr2 => pe_hasX (E := E) F3 hr2 (by decide) rfl (takes_of rfl rfl rfl rfl) (fun _ _ _ _ z => z) (pa_cons (pv 1) (pa_cons pe_str (pa_cons (pe_callTy call_tuple_of rfl gt boot_tuple (pa_cons (pv 5) pa_nil)) (pa_cons pe_non pa_nil)))))) pa_nil)))
      (pss_cons (ps_expr (pe_bm PySem.F.plainAttrs_list PySem.F.slot_list_append PySem.F.type_list_append mt_append (pv 4) (pa_cons (pe_met M FMt gMt kMt TB rfl rfl hm hT hr rfl (lamS_by (by kernel_rfl)) rfl (fun _ _ _ _ _ => rfl) (fun A outer s H E f c' hr2 => pe_hasX (E := E) F2 hr2 (by decide) rfl (takes_of rfl rfl rfl rfl) (fun _ _ _ _ z => z) (pa_cons (pv 1) (pa_cons pe_str (pa_cons (pe_op op_cat (pv 8) (pe_lst (pa_cons pe_str pa_nil))) pa_nil))))) pa_nil)))
      (pss_cons (ps_if (pt_cmpR (op_neD hr.units) (pv 4) (pe_op op_rep (pe_lst (pa_cons (pe_lst (pa_cons pe_str (pa_cons (pe_callB call_len rfl gn boot_len (pa_cons (pv 8) pa_nil)) pa_nil))) pa_nil)) pe_int) (nomark _)) (pss_one (ps_ret pe_bl)) pss_nil)
      (pss_cons (ps_set (i := 4) scRefused.nd rfl (.inl rfl) (pe_lst (pa_cons (pe_met M FMt gMt kMt TB rfl rfl hm hT hr rfl (lamS_by (by kernel_rfl)) rfl (fun _ _ _ _ _ => rfl) (fun A outer s H E f c' hr2 => pe_hasX (E := E) F1 hr2 (by decide) rfl (takes_of rfl rfl rfl rfl) (fun _ _ _ _ z => z) (pa_cons (pv 1) (pa_cons pe_str (pa_cons (pv 6) pa_nil))))) pa_nil)))
      (pss_cons (ps_expr (pe_bm PySem.F.plainAttrs_list PySem.F.slot_list_append PySem.F.type_list_append mt_append (pv 4) (pa_cons (pe_met M FMt gMt kMt TB rfl rfl hm hT hr rfl (lamS_by (by kernel_rfl)) rfl (fun _ _ _ _ _ => rfl) (fun A outer s H E f c' hr2 => pe_hasX (E := E) F2 hr2 (by decide) rfl (takes_of rfl rfl rfl rfl) (fun _ _ _ _ z => z) (pa_cons (pv 1) (pa_cons pe_str (pa_cons (pv 6) pa_nil))))) pa_nil)))
      (pss_one (ps_ret (pe_cmpR (op_eqD hr.units) (pv 4) (pe_op op_rep (pe_lst (pa_cons (pe_lst (pa_cons pe_str (pa_cons pe_int pa_nil))) pa_nil)) pe_int) (nomark _))))))))))))))))))))), ?_⟩
    obtain ⟨sp, l, t, pt, n, d, d', rfl, S, hn, th, ip, gd, io, tabs, hQ⟩ := h
    obtain ⟨vl, dd, de, e1, e2, e2n, e3, e4⟩ := id ip
    obtain ⟨ks, k1, kp⟩ := id e3
    have kk := DD.keys kp fun _ _ r => r.1
    have kd : (ks.map fun kv => kV kv.1) = (d.deeds.map (·.1)).map V.str := by rw [kk, List.map_map]; rfl
    -- odd
    refine ⟨.ref sp, rfl, by show 1 ≤ sizeLine; decide, fun el nel => fun ed ned => ⟨by show 6 ≤ sizeLine; decide, fun a1 na1 => ?_⟩⟩
    have x1 : Ex H (upd (upd (upd H el (.lst [.str "e"])) ed (.dK [])) a1 (.lst [.non, .int 5, .str "none", .str "E", .ref el, .ref ed])) := ((Ex.new nel).trans (Ex.new ned)).trans (Ex.new na1)
    have hel : upd (upd (upd H el (.lst [.str "e"])) ed (.dK [])) a1 (.lst [.non, .int 5, .str "none", .str "E", .ref el, .ref ed]) el = some (.lst [.str "e"]) := (Ex.new na1) _ _ ((Ex.new ned) _ _ upd_same)
    have hed : upd (upd (upd H el (.lst [.str "e"])) ed (.dK [])) a1 (.lst [.non, .int 5, .str "none", .str "E", .ref el, .ref ed]) ed = some (.dK []) := (Ex.new na1) _ _ upd_same
    have ha1 : upd (upd (upd H el (.lst [.str "e"])) ed (.dK [])) a1 (.lst [.non, .int 5, .str "none", .str "E", .ref el, .ref ed]) a1 = some (.lst [.non, .int 5, .str "none", .str "E", .ref el, .ref ed]) := upd_same
    have eo := S.off nel
    generalize upd (upd (upd H el (.lst [.str "e"])) ed (.dK [])) a1 (.lst [.non, .int 5, .str "none", .str "E", .ref el, .ref ed]) = H1 at x1 hel hed ha1 ⊢
    refine ⟨.ref pt, rfl, pt, _, 2, .ref dd, rfl, rfl, .inl (.inl (x1 _ _ e1)), rfl, dd, ks, rfl, .inl (x1 _ _ k1), fun a2 na2 => ?_⟩
    rw [kd]
    have kl : (d.deeds.map (·.1)).length ≤ 2 := by rw [List.length_map]; exact gd.dlen
    refine ⟨a1, a2, _, _, rfl, rfl, (Ex.new na2) _ _ ha1, upd_same, ?_, fun a3 na3 => ?_⟩
    · rw [List.length_map, sizeLine_eq]
      show 6 + (d.deeds.map (·.1)).length ≤ _
      omega
    have x3 : Ex H1 (upd (upd H1 a2 (.lst ((d.deeds.map (·.1)).map V.str))) a3 (.lst ([V.non, .int 5, .str "none", .str "E", .ref el, .ref ed] ++ (d.deeds.map (·.1)).map V.str))) := (Ex.new na2).trans (Ex.new na3)
    have S3 := S.ex (x1.trans x3)
    have a3o : a3 ≠ sp ∧ a3 ≠ l := (S.ex (x1.trans (Ex.new na2))).off na3
    have ha3 : upd (upd H1 a2 (.lst ((d.deeds.map (·.1)).map V.str))) a3 (.lst ([V.non, .int 5, .str "none", .str "E", .ref el, .ref ed] ++ (d.deeds.map (·.1)).map V.str)) a3 = some (.lst ([V.non, .int 5, .str "none", .str "E", .ref el, .ref ed] ++ (d.deeds.map (·.1)).map V.str)) := upd_same
    have hel3 := x3 _ _ hel
    have hed3 := x3 _ _ hed
    have x13 := x1.trans x3
    generalize upd (upd H1 a2 (.lst ((d.deeds.map (·.1)).map V.str))) a3 (.lst ([V.non, .int 5, .str "none", .str "E", .ref el, .ref ed] ++ (d.deeds.map (·.1)).map V.str)) = H3 at x3 S3 ha3 hel3 hed3 x13 ⊢
    refine ⟨sp, l, a3, n, _, rfl, S3, by omega, a3o.1, a3o.2, ha3, by simp, ?_, fun odd H4 my x4 S4 => ?_⟩
    · rw [List.length_append, List.length_map]
      show 6 + (d.deeds.map (·.1)).length ≤ _
      omega
    have ho : ∃ od, Odd sp l H4 POdd odd od := by
      have hel4 := x4 _ _ eo.1 eo.2 hel3
      have hed4 := x4.non S3 hed3 fun _ z => nomatch z
      rcases List.mem_append.mp my with my | my
      · simp only [List.mem_cons, List.mem_nil_iff, or_false] at my
        rcases my with rfl | rfl | rfl | rfl | rfl | rfl
        · exact ⟨_, .non⟩
        · exact ⟨_, .int⟩
        · exact ⟨_, .str _ (.inl rfl)⟩
        · exact ⟨_, .str _ (.inr (.inl rfl))⟩
        · exact ⟨_, .lst _ hel4 eo⟩
        · exact ⟨_, .dct _ hed4⟩
      · obtain ⟨x, mx, rfl⟩ := List.mem_map.mp my
        exact ⟨_, .str _ (.inr (.inr (gd.dsub x mx)))⟩
    obtain ⟨od, ho⟩ := ho
    have y4 : ExS sp l H H4 := x13.exS.trans x4
    clear my hel hed ha1 na1 na2 na3 nel ned ha3 x1 x3
    -- the names
    refine ⟨.ref sp, rfl, .ref pt, rfl, pt, d, rfl, (ip.sn y4.sn S).pt, by have := gd.nlen; omega, fun nl0 ys H5 x5 nnl hnl pm so => ?_⟩
    have S5 := S4.ex x5
    have nlo := S4.off nnl
    refine ⟨sp, l, nl0, n + 1, ys.map V.str, rfl, S5, ?_, nlo.1, nlo.2, .inl (.inl (.inl hnl)), ?_, fun q zs H6 x6 S6 nq hq pz => ?_⟩
    · rw [List.length_map, pm.length_eq]; have := gd.nlen; omega
    · rw [List.length_map, pm.length_eq]; have := gd.nlen; omega
    obtain ⟨zs, rfl, pz2⟩ := perm_strs pz
    rw [List.length_map, pm.length_eq] at S6
    have zn : zs.Perm d.names := pz2.trans pm
    have qo := S5.off nq
    refine ⟨by show 2 ≤ sizeLine; decide, fun tp ntp => ?_⟩
    have y6 : ExS sp l H4 (upd H6 tp (.tup [odd, .ref q])) := (x5.exS.trans x6).trans (Ex.new ntp).exS
    have hq6 : upd H6 tp (.tup [odd, .ref q]) q = some (.lst (zs.map V.str)) := (Ex.new ntp) _ _ hq
    have S6' : Spr (upd H6 tp (.tup [odd, .ref q])) sp l (n + 1 + d.names.length) := S6.new ntp
    have htp : upd H6 tp (.tup [odd, .ref q]) tp = some (.tup [odd, .ref q]) := upd_same
    generalize upd H6 tp (.tup [odd, .ref q]) = H7 at y6 hq6 S6' htp ⊢
    have ho7 := ho.sn y6.sn S4
    refine ⟨tp, [odd, .ref q], rfl, .inl (.inl htp), rfl, odd, [.ref q], rfl, .ref q, [], rfl, rfl, ?_⟩
    -- some
    have dl := gd.nlen
    have zl : zs.length = d.names.length := zn.length_eq
    show tSl (rSlL K) (tLc (iList K (tVar 3)) (gName 9) (tTest (tOp rNe (tVar 9) (tC (.str "e")))) (tVar 9) [9]) tNoPart (tPart (tCall spTake [] E0 (tCons (tVar 0) (tCons (tC (.int 3)) tNil)))) [some (.ref sp), some (.ref t), some (.ref pt), some (.ref q), none, none, none, some odd, none, none] H7 _
    show tLc (iList K (tVar 3)) (gName 9) (tTest (tOp rNe (tVar 9) (tC (.str "e")))) (tVar 9) [9] [some (.ref sp), some (.ref t), some (.ref pt), some (.ref q), none, none, none, some odd, none, none] H7 _
    refine lessC_go (x := "e") (ys := zs) (by simp) (by omega) (fun Q hq' => ⟨.ref q, rfl, hq' q hq6⟩) fun r H8 x8 nr hr8 => ?_
    have S8 := S6'.ex x8
    have ro := S6'.off nr
    refine ⟨.ref sp, rfl, sp, l, 3, n + 1 + d.names.length, rfl, S8, by omega, by omega, by omega, fun k H9 hk x9 S9 => ⟨k, rfl, r, _, rfl, .inl (.inl (x9 _ _ ro.1 ro.2 hr8)), fun sl nsl => ?_⟩⟩
    rw [cut_take, ← List.map_take]
    have slo := S9.off nsl
    have esub : ∀ x ∈ (zs.filter fun (y : Str) => !decide (y = ("e" : Str))).take k, x ∈ d.names ∧ x ≠ ("e" : Str) := fun x m => by
      have m2 := List.mem_filter.mp (List.mem_of_mem_take m)
      exact ⟨zn.mem_iff.mp m2.1, by simpa using m2.2⟩
    have snd : ((zs.filter fun (y : Str) => !decide (y = ("e" : Str))).take k).Nodup := (List.take_sublist _ _).nodup ((List.filter_sublist (l := zs)).nodup (zn.nodup_iff.mpr gd.nnd))
    have slen : ((zs.filter fun (y : Str) => !decide (y = ("e" : Str))).take k).length ≤ 2 := by rw [List.length_take]; have := Nat.min_le_left k (zs.filter fun (y : Str) => !decide (y = ("e" : Str))).length; omega
    generalize (zs.filter fun (y : Str) => !decide (y = ("e" : Str))).take k = som at esub snd slen ⊢
    have y9 : ExS sp l H7 (upd H9 sl (.lst (som.map V.str))) := (x8.exS.trans x9).trans (Ex.new nsl).exS
    have hsl : upd H9 sl (.lst (som.map V.str)) sl = some (.lst (som.map V.str)) := upd_same
    have SA : Spr (upd H9 sl (.lst (som.map V.str))) sp l (n + 1 + d.names.length + 1) := S9.new nsl
    generalize upd H9 sl (.lst (som.map V.str)) = HA at y9 hsl SA ⊢
    have hoA := ho7.sn y9.sn S6'
    have yA : ExS sp l H HA := (y4.trans y6).trans y9
    clear hr8 x8 nr S8 x9 S9 nsl y9
    -- bent
    refine ⟨.ref sl, rfl, .ref sp, rfl, by show 1 ≤ sizeLine; decide, fun el2 nel => ⟨by show 5 ≤ sizeLine; decide, fun b1 nb1 => ?_⟩⟩
    have elo := SA.off nel
    have xB : Ex HA (upd (upd HA el2 (.lst [.str "e"])) b1 (.lst [.non, .int 5, .str "none", .str "E", .ref el2])) := (Ex.new nel).trans (Ex.new nb1)
    have helB : upd (upd HA el2 (.lst [.str "e"])) b1 (.lst [.non, .int 5, .str "none", .str "E", .ref el2]) el2 = some (.lst [.str "e"]) := (Ex.new nb1) _ _ upd_same
    have hb1 : upd (upd HA el2 (.lst [.str "e"])) b1 (.lst [.non, .int 5, .str "none", .str "E", .ref el2]) b1 = some (.lst [.non, .int 5, .str "none", .str "E", .ref el2]) := upd_same
    generalize upd (upd HA el2 (.lst [.str "e"])) b1 (.lst [.non, .int 5, .str "none", .str "E", .ref el2]) = HB at xB helB hb1 ⊢
    refine ⟨.ref sl, rfl, 1, rfl, sl, _, rfl, .inl (.inl (xB _ _ hsl)), fun b2 nb2 => ?_⟩
    rw [show cutV (som.map V.str) none (some 1) = (som.take 1).map V.str by rw [show (1 : Int) = ((1 : Nat) : Int) from rfl, cut_take, List.map_take]]
    have t1 : (som.take 1).length ≤ 1 := by rw [List.length_take]; exact Nat.min_le_left _ _
    refine ⟨b1, b2, _, _, rfl, rfl, (Ex.new nb2) _ _ hb1, upd_same, ?_, fun b3 nb3 => ?_⟩
    · rw [List.length_map, sizeLine_eq]
      show 5 + (som.take 1).length ≤ _
      omega
    have xC : Ex HB (upd (upd HB b2 (.lst ((som.take 1).map V.str))) b3 (.lst ([V.non, .int 5, .str "none", .str "E", .ref el2] ++ (som.take 1).map V.str))) := (Ex.new nb2).trans (Ex.new nb3)
    have hb3 : upd (upd HB b2 (.lst ((som.take 1).map V.str))) b3 (.lst ([V.non, .int 5, .str "none", .str "E", .ref el2] ++ (som.take 1).map V.str)) b3 = some (.lst ([V.non, .int 5, .str "none", .str "E", .ref el2] ++ (som.take 1).map V.str)) := upd_same
    have b3o := (SA.ex (xB.trans (Ex.new nb2))).off nb3
    have xAC := xB.trans xC
    have helC := xC _ _ helB
    generalize upd (upd HB b2 (.lst ((som.take 1).map V.str))) b3 (.lst ([V.non, .int 5, .str "none", .str "E", .ref el2] ++ (som.take 1).map V.str)) = HC at xC hb3 xAC helC ⊢
    have SC := SA.ex xAC
    refine ⟨sp, l, b3, n + 1 + d.names.length + 1, _, rfl, SC, by omega, b3o.1, b3o.2, hb3, by simp, ?_, fun z HD my xD SD => ?_⟩
    · rw [List.length_append, List.length_map]
      show 5 + (som.take 1).length ≤ _
      omega
    have hz : ∃ dz, Odd sp l HD (fun x => x = "none" ∨ x = "E" ∨ x ∈ som) z dz := by
      have hel4 := xD _ _ elo.1 elo.2 helC
      rcases List.mem_append.mp my with my | my
      · simp only [List.mem_cons, List.mem_nil_iff, or_false] at my
        rcases my with rfl | rfl | rfl | rfl | rfl
        · exact ⟨_, .non⟩
        · exact ⟨_, .int⟩
        · exact ⟨_, .str _ (.inl rfl)⟩
        · exact ⟨_, .str _ (.inr (.inl rfl))⟩
        · exact ⟨_, .lst _ hel4 elo⟩
      · obtain ⟨x, mx, rfl⟩ := List.mem_map.mp my
        exact ⟨_, .str _ (.inr (.inr (List.mem_of_mem_take mx)))⟩
    obtain ⟨dz, hz⟩ := hz
    have yD : ExS sp l HA HD := xAC.exS.trans xD
    have hslD := yD _ _ slo.1 slo.2 hsl
    clear my hb3 hb1 helB helC nb1 nb2 nb3 xB xC
    refine ⟨by show 1 ≤ sizeLine; decide, fun b4 nb4 => ?_⟩
    refine ⟨sl, b4, _, _, rfl, rfl, (Ex.new nb4) _ _ hslD, upd_same, ?_, fun b5 nb5 => ?_⟩
    · rw [List.length_map, sizeLine_eq]
      show som.length + 1 ≤ _
      omega
    refine ⟨by show 2 ≤ sizeLine; decide, fun b6 nb6 => ?_⟩
    refine ⟨b5, b6, _, _, rfl, rfl, (Ex.new nb6) _ _ upd_same, upd_same, ?_, fun bl nbl => ?_⟩
    · rw [List.length_append, List.length_map, sizeLine_eq]
      show som.length + 1 + 2 ≤ _
      omega
    rw [List.append_assoc, show ([z] ++ [V.str "e", V.non] : List V) = z :: [.str "e", .non] from rfl]
    have xE : Ex HD (upd (upd (upd (upd HD b4 (.lst [z])) b5 (.lst (som.map V.str ++ [z]))) b6 (.lst [.str "e", .non])) bl (.lst (som.map V.str ++ z :: [.str "e", .non]))) := (((Ex.new nb4).trans (Ex.new nb5)).trans (Ex.new nb6)).trans (Ex.new nbl)
    have hbl : upd (upd (upd (upd HD b4 (.lst [z])) b5 (.lst (som.map V.str ++ [z]))) b6 (.lst [.str "e", .non])) bl (.lst (som.map V.str ++ z :: [.str "e", .non])) bl = some (.lst (som.map V.str ++ z :: [.str "e", .non])) := upd_same
    have blo := (SD.ex (((Ex.new nb4).trans (Ex.new nb5)).trans (Ex.new nb6))).off nbl
    generalize upd (upd (upd (upd HD b4 (.lst [z])) b5 (.lst (som.map V.str ++ [z]))) b6 (.lst [.str "e", .non])) bl (.lst (som.map V.str ++ z :: [.str "e", .non])) = HE at xE hbl ⊢
    have SE := SD.ex xE
    have hzE := hz.sn xE.sn SD
    have hoE := hoA.sn (yD.trans xE.exS).sn SA
    have hslE := xE _ _ hslD
    have yE : ExS sp l H HE := yA.trans (yD.trans xE.exS)
    -- no list
    refine ⟨RMid sp l t pt n d T H, ?_, fun σ' H' h => ?_⟩
    · refine ⟨.ref sp, rfl, fun ed2 ned2 => ⟨by show 4 ≤ sizeLine; decide, fun b7 nb7 => ?_⟩⟩
      have xF : Ex HE (upd (upd HE ed2 (.dK [])) b7 (.lst [.non, .int 5, .str "e", .ref ed2])) := (Ex.new ned2).trans (Ex.new nb7)
      have hed2 : upd (upd HE ed2 (.dK [])) b7 (.lst [.non, .int 5, .str "e", .ref ed2]) ed2 = some (.dK []) := (Ex.new nb7) _ _ upd_same
      have b7o := (SE.ex (Ex.new ned2)).off nb7
      have SF := SE.ex xF
      refine ⟨sp, l, b7, n + 1 + d.names.length + 1 + 1, _, rfl, SF, by omega, b7o.1, b7o.2, upd_same, by simp, by show 4 ≤ 1000; decide, fun nl HG my xG SG => ?_⟩
      have yG : ExS sp l HE HG := xF.exS.trans xG
      refine ⟨q, bl, sl, nl, odd, z, od, dz, som, _, rfl, (yE.trans yG).sn, SG, by omega, Tabs.exS (yE.trans yG) S tabs, hoE.sn yG.sn SE, ?_, yG _ _ slo.1 slo.2 hslE, yG _ _ blo.1 blo.2 hbl, fun x m => (esub x m).1, snd, fun m => (esub _ m).2 rfl, slen, hzE.sn yG.sn SE⟩
      simp only [List.mem_cons, List.mem_nil_iff, or_false] at my
      rcases my with rfl | rfl | rfl | rfl
      · exact .inl rfl
      · exact .inr (.inl rfl)
      · exact .inr (.inr (.inl rfl))
      · exact .inr (.inr (.inr ⟨_, rfl, xG.non SF hed2 fun _ z => nomatch z⟩))
    obtain ⟨nh, bl, sl, nl, odd, z, od, dz, som, m, rfl, x2, S2, hm2, t2, ho, hnl, hsl, hbl, sub, snd, ne, slen, hz⟩ := h
    have thG : IsTh H' C t d' := th.sn x2 S
    have nl5 : d'.names.length < 60 := by rw [(ord_names io).length_eq]; have := gd.nlen; omega
    have oks : ∀ x ∈ som, okS x = true := fun x mx => (nameN_ok x (gd.nsub x (sub x mx))).1
    have okE : okS "e" = true := by decide +kernel
    have kdO : ∀ H1, ExtN H' H1 → ∃ T, Kd K H1 odd T := fun H1 x1 => (ho.sn (exN_sn x1) S2).kd fun x hx => by
      rcases hx with rfl | rfl | hx
      · decide +kernel
      · decide +kernel
      · have := okS_len (nameN_ok x (List.mem_append_left _ hx)).1; omega
    have noO : NoEnt d' odd := by
      rcases ho.wd with q | ⟨x, rfl, hx, ok⟩
      · exact .inl q
      · exact .inr ⟨x, rfl, ok, odd_no gd io hx⟩
    have kdZ : ∀ H1, ExtN H' H1 → ∀ x ∈ som.map V.str ++ z :: [.str "e", .non], ∃ T, Kd K H1 x T := fun H1 x1 v mv => by
      have s8 : ∀ x ∈ som, x.length ≤ 1000 := fun x mx => by have := okS_len (oks x mx); omega
      rcases List.mem_append.mp mv with mv | mv
      · obtain ⟨x, mx, rfl⟩ := List.mem_map.mp mv
        exact ⟨_, str_kd (s8 x mx)⟩
      · simp only [List.mem_cons, List.mem_nil_iff, or_false] at mv
        rcases mv with rfl | rfl | rfl
        · refine (hz.sn (exN_sn x1) S2).kd fun x hx => ?_
          rcases hx with rfl | rfl | hx
          · decide +kernel
          · decide +kernel
          · exact s8 x hx
        · exact ⟨_, str_kd (by decide +kernel)⟩
        · exact ⟨"NoneType", by decide, .base .non, fun x z => nomatch z⟩
    have noneN : ∀ ks : List Str, (∀ x ∈ ks, x ∈ d.names) → ("none" : Str) ∉ ks := fun ks hk mk => absurd (gd.nsub _ (hk _ mk)) (by decide +kernel)
    have badB : ∀ ks : List Str, (∀ x ∈ som, x ∈ ks) → (∀ x ∈ ks, x ∈ d.names) → badIx (som.map V.str ++ z :: [.str "e", .non]) ks = some som.length := fun ks h1 h2 => by
      have at_ : (!isWd z || inV z (som.map V.str)) = true → badIx (som.map V.str ++ z :: [.str "e", .non]) ks = some som.length := bad_at oks snd h1
      cases hz with
      | str x hx =>
        rcases hx with rfl | rfl | hx
        · exact bad_word oks snd h1 (by decide +kernel) okE (fun mx => absurd (gd.nsub _ (sub _ mx)) (by decide +kernel)) ne (by decide +kernel) (noneN ks h2)
        · exact at_ (by rw [show isWd (.str "E") = false by decide +kernel]; rfl)
        · exact at_ (by rw [inV_strs, decide_eq_true hx, Bool.or_true])
      | _ => exact at_ rfl
    have memA : ∀ x, x ∈ allNames d' "e" ↔ x ∈ d.names := fun x => (ord_names io).mem_iff
    have memL : ∀ x, x ∈ lessNames d' "e" ↔ x ∈ d.names ∧ x ≠ "e" := fun x => by
      unfold lessNames
      rw [List.mem_filter, (ord_names io).mem_iff]
      simp
    have bnA : ∀ H1, ExtN H' H1 → BadNm K H1 (.ref bl) (allNames d' "e") som.length := fun H1 x1 => .inr ⟨bl, _, rfl, .inl (.inl (.inl (x1 _ _ hbl fun _ z => nomatch z))), by rw [List.length_append, List.length_map]; show som.length + 3 ≤ 60; omega, kdZ H1 x1, fun ks hk => badB ks (fun x mx => (hk x).mpr ((memA x).mpr (sub x mx))) fun x mx => (memA x).mp ((hk x).mp mx)⟩
    have bnL : ∀ H1 a, ExtN H' H1 → Sq K H1 a (som.map V.str ++ z :: [.str "e", .non]) → BadNm K H1 (.ref a) (lessNames d' "e") som.length := fun H1 a x1 sq => .inr ⟨a, _, rfl, sq, by rw [List.length_append, List.length_map]; show som.length + 3 ≤ 60; omega, kdZ H1 x1, fun ks hk => badB ks (fun x mx => (hk x).mpr ((memL x).mpr ⟨sub x mx, fun q => ne (q ▸ mx)⟩)) fun x mx => ((memL x).mp ((hk x).mp mx)).1⟩
    show tLam T (TTmet CN CB) (fun E => tCall (spF3X K C CN CB allNames) [] E (tCons (tVar 1) (tCons (tVar 7) (tCons (tVar 6) tNil)))) [some (.ref sp), some (.ref t), some (.ref pt), some (.ref nh), none, some (.ref bl), some nl, some odd, some (.ref sl), none] H' _
    refine lamN (v := odd) t2 (fun E H1 Q' y1 t1 rz => ?_) fun p H1 y1 t1 np hp => ?_
    · obtain ⟨T', kd⟩ := kdO H1 y1
      exact ⟨.ref t, rfl, odd, rfl, nl, rfl, t, d', odd, nl, T', rfl, thG.exN y1, nl5, kd, .inl ⟨noO, rz⟩⟩
    refine ⟨by show 1 ≤ sizeLine; decide, fun fl nfl => ?_⟩
    have F1 := Fs.first (x := "entry") y1 t1 hp nfl
    generalize upd H1 fl (.lst [.ref p]) = G1 at F1 ⊢
    clear hp np t1 y1 nfl
    obtain ⟨xs, hx, hxl⟩ := F1.lst
    refine ⟨.ref fl, rfl, .inl ⟨rfl, xs, .inl (.inl hx)⟩, ?_⟩
    show tLam T (TTmet CN CB) (fun E => tCall (spF3X K C CN CB lessNames) [] E (tCons (tVar 1) (tCons (tVar 7) (tCons (tVar 6) tNil)))) [some (.ref sp), some (.ref t), some (.ref pt), some (.ref nh), some (.ref fl), some (.ref bl), some nl, some odd, some (.ref sl), none] G1 _
    refine lamN (v := odd) F1.tabs (fun E H1 Q' y1 t1 rz => ?_) fun p H1 y1 t1 np hp => ?_
    · obtain ⟨T', kd⟩ := kdO H1 (F1.ex.trans y1)
      exact ⟨.ref t, rfl, odd, rfl, nl, rfl, t, d', odd, nl, T', rfl, thG.exN (F1.ex.trans y1), nl5, kd, .inl ⟨noO, rz⟩⟩
    have hx1 := y1 _ _ hx fun _ z => nomatch z
    refine ⟨fl, xs, .ref p, rfl, rfl, hx1, by rw [sizeLine_eq]; omega, ?_⟩
    have F2 := F1.app y1 t1 np hp hx1
    generalize upd H1 fl (.lst (xs ++ [.ref p])) = G2 at F2 ⊢
    clear hx1 hp np t1 y1 hxl hx xs
    obtain ⟨xs, hx, hxl⟩ := F2.lst
    refine ⟨.ref fl, rfl, .inl ⟨rfl, xs, .inl (.inl hx)⟩, ?_⟩
    show tLam T (TTmet CN CB) (fun E => tCall (spF4X K C CN CB lessNames) [] E (tCons (tVar 1) (tCons (tVar 7) (tCons (tVar 6) (tCons (tC .non) tNil))))) [some (.ref sp), some (.ref t), some (.ref pt), some (.ref nh), some (.ref fl), some (.ref bl), some nl, some odd, some (.ref sl), none] G2 _
    refine lamN (v := odd) F2.tabs (fun E H1 Q' y1 t1 rz => ?_) fun p H1 y1 t1 np hp => ?_
    · obtain ⟨T', kd⟩ := kdO H1 (F2.ex.trans y1)
      exact ⟨.ref t, rfl, odd, rfl, nl, rfl, t, d', odd, nl, .non, T', rfl, thG.exN (F2.ex.trans y1), nl5, kd, .inl ⟨noO, rz⟩⟩
    have hx1 := y1 _ _ hx fun _ z => nomatch z
    refine ⟨fl, xs, .ref p, rfl, rfl, hx1, by rw [sizeLine_eq]; omega, ?_⟩
    have F3 := F2.app y1 t1 np hp hx1
    generalize upd H1 fl (.lst (xs ++ [.ref p])) = G3 at F3 ⊢
    clear hx1 hp np t1 y1 hxl hx xs
    obtain ⟨xs, hx, hxl⟩ := F3.lst
    refine ⟨.ref fl, rfl, .inl ⟨rfl, xs, .inl (.inl hx)⟩, ?_⟩
    show tLam T (TTmet CN CB) (fun E => tCall (spF2X K C CN) [] E (tCons (tVar 1) (tCons (tVar 7) tNil))) [some (.ref sp), some (.ref t), some (.ref pt), some (.ref nh), some (.ref fl), some (.ref bl), some nl, some odd, some (.ref sl), none] G3 _
    refine lamN (v := odd) F3.tabs (fun E H1 Q' y1 t1 rz => ?_) fun p H1 y1 t1 np hp => ?_
    · obtain ⟨T', kd⟩ := kdO H1 (F3.ex.trans y1)
      exact ⟨.ref t, rfl, odd, rfl, t, d', odd, T', rfl, thG.exN (F3.ex.trans y1), kd, noO, rz⟩
    have hx1 := y1 _ _ hx fun _ z => nomatch z
    refine ⟨fl, xs, .ref p, rfl, rfl, hx1, by rw [sizeLine_eq]; omega, ?_⟩
    have F4 := F3.app y1 t1 np hp hx1
    generalize upd H1 fl (.lst (xs ++ [.ref p])) = G4 at F4 ⊢
    clear hx1 hp np t1 y1 hxl hx xs
    obtain ⟨xs, hx, hxl⟩ := F4.lst
    refine ⟨.ref fl, rfl, .inl ⟨rfl, xs, .inl (.inl hx)⟩, ?_⟩
    show tLam T (TTmet CN CB) (fun E => tCall (spF2X K C CN) [] E (tCons (tVar 1) (tCons (tVar 7) tNil))) [some (.ref sp), some (.ref t), some (.ref pt), some (.ref nh), some (.ref fl), some (.ref bl), some nl, some odd, some (.ref sl), none] G4 _
    refine lamN (v := odd) F4.tabs (fun E H1 Q' y1 t1 rz => ?_) fun p H1 y1 t1 np hp => ?_
    · obtain ⟨T', kd⟩ := kdO H1 (F4.ex.trans y1)
      exact ⟨.ref t, rfl, odd, rfl, t, d', odd, T', rfl, thG.exN (F4.ex.trans y1), kd, noO, rz⟩
    have hx1 := y1 _ _ hx fun _ z => nomatch z
    refine ⟨fl, xs, .ref p, rfl, rfl, hx1, by rw [sizeLine_eq]; omega, ?_⟩
    have F5 := F4.app y1 t1 np hp hx1
    generalize upd H1 fl (.lst (xs ++ [.ref p])) = G5 at F5 ⊢
    clear hx1 hp np t1 y1 hxl hx xs
    obtain ⟨ps, pl, hf, all⟩ := F5.all
    have sh := shown_ok ho
    have rd1 : RdD G5 4 (.ref fl) (.list (List.replicate 5 (entD od))) := ⟨fl, _, rfl, hf, paired_rep (by rw [List.length_map, pl]) fun v mv => by
      obtain ⟨q, mq, rfl⟩ := List.mem_map.mp mv
      exact ent_rd (all q mq) (ho.sn (exN_sn F5.ex) S2).rd⟩
    refine ⟨.ref fl, rfl, fl, 4, _, rfl, rd1, sh.1, sh.2.1, sh.2.2, odd, rfl, by show 2 ≤ sizeLine; decide, fun i1 ni1 => ⟨by show 1 ≤ sizeLine; decide, fun i2 ni2 => ⟨i2, 5, [.ref i1], rfl, rfl, upd_same, by decide, by decide, by show 1 * 5 ≤ sizeLine; decide, fun i3 ni3 => ?_⟩⟩⟩
    have yX : Ex G5 (upd (upd (upd G5 i1 (.lst [.str "entry", odd])) i2 (.lst [.ref i1])) i3 (.lst (List.replicate (5 : Int).toNat [V.ref i1]).flatten)) := ((Ex.new ni1).trans (Ex.new ni2)).trans (Ex.new ni3)
    have hi1 : upd (upd (upd G5 i1 (.lst [.str "entry", odd])) i2 (.lst [.ref i1])) i3 (.lst (List.replicate (5 : Int).toNat [V.ref i1]).flatten) i1 = some (.lst [.str "entry", odd]) := (Ex.new ni3) _ _ ((Ex.new ni2) _ _ upd_same)
    have hi3 : upd (upd (upd G5 i1 (.lst [.str "entry", odd])) i2 (.lst [.ref i1])) i3 (.lst (List.replicate (5 : Int).toNat [V.ref i1]).flatten) i3 = some (.lst [.ref i1, .ref i1, .ref i1, .ref i1, .ref i1]) := upd_same
    generalize upd (upd (upd G5 i1 (.lst [.str "entry", odd])) i2 (.lst [.ref i1])) i3 (.lst (List.replicate (5 : Int).toNat [V.ref i1]).flatten) = G6 at yX hi1 hi3 ⊢
    have ex6 : ExtN H' G6 := F5.ex.trans yX.extN
    have rdo6 := (ho.sn (exN_sn ex6) S2).rd
    have rd2 : RdD G6 4 (.ref i3) (.list (List.replicate 5 (entD od))) := ⟨i3, _, rfl, hi3, .cons (ent_rd hi1 rdo6) (.cons (ent_rd hi1 rdo6) (.cons (ent_rd hi1 rdo6) (.cons (ent_rd hi1 rdo6) (.cons (ent_rd hi1 rdo6) .nil))))⟩
    refine ⟨i3, 4, _, rfl, rd2, sh.1, sh.2.1, sh.2.2, rfl, false, congrArg V.bl (by simp), ?_⟩
    have t6 := yX.tabs F5.tabs
    clear rd1 rd2 hi1 hi3 rdo6 sh hf all pl ps yX F5 F4 F3 F2 F1 ni1 ni2 ni3
    show tLam T (TTmet CN CB) (fun E => tCall (spF3X K C CN CB allNames) [] E (tCons (tVar 1) (tCons (tC (.str "e")) (tCons (tVar 5) tNil)))) [some (.ref sp), some (.ref t), some (.ref pt), some (.ref nh), some (.ref fl), some (.ref bl), some nl, some odd, some (.ref sl), none] G6 _
    refine lamB (v := .int som.length) t6 (fun E H1 Q' y1 t1 rz => ?_) fun p H1 y1 t1 np hp => ?_
    · exact ⟨.ref t, rfl, .ref bl, rfl, t, d', .str "e", .ref bl, "str", rfl, thG.exN (ex6.trans y1), nl5, str_kd (by decide +kernel), .inr ⟨"e", som.length, rfl, okE, ord_e gd io, rz, bnA _ (ex6.trans y1)⟩⟩
    refine ⟨by show 1 ≤ sizeLine; decide, fun gl2 nfl => ?_⟩
    have F1 := Fs.first (x := "names") y1 t1 hp nfl
    generalize upd H1 gl2 (.lst [.ref p]) = K1 at F1 ⊢
    clear hp np t1 y1 nfl
    obtain ⟨xs, hx, hxl⟩ := F1.lst
    refine ⟨.ref gl2, rfl, .inl ⟨rfl, xs, .inl (.inl hx)⟩, ?_⟩
    show tLam T (TTmet CN CB) (fun E => tCall (spF3X K C CN CB lessNames) [] E (tCons (tVar 1) (tCons (tC (.str "e")) (tCons (tVar 5) tNil)))) [some (.ref sp), some (.ref t), some (.ref pt), some (.ref nh), some (.ref gl2), some (.ref bl), some nl, some odd, some (.ref sl), none] K1 _
    refine lamB (v := .int som.length) F1.tabs (fun E H1 Q' y1 t1 rz => ?_) fun p H1 y1 t1 np hp => ?_
    · exact ⟨.ref t, rfl, .ref bl, rfl, t, d', .str "e", .ref bl, "str", rfl, thG.exN (ex6.trans (F1.ex.trans y1)), nl5, str_kd (by decide +kernel), .inr ⟨"e", som.length, rfl, okE, ord_e gd io, rz, bnL _ bl (ex6.trans (F1.ex.trans y1)) (.inl (.inl (.inl ((ex6.trans (F1.ex.trans y1)) _ _ hbl fun _ z => nomatch z))))⟩⟩
    have hx1 := y1 _ _ hx fun _ z => nomatch z
    refine ⟨gl2, xs, .ref p, rfl, rfl, hx1, by rw [sizeLine_eq]; omega, ?_⟩
    have F2 := F1.app y1 t1 np hp hx1
    generalize upd H1 gl2 (.lst (xs ++ [.ref p])) = K2 at F2 ⊢
    clear hx1 hp np t1 y1 hxl hx xs
    obtain ⟨xs, hx, hxl⟩ := F2.lst
    refine ⟨.ref gl2, rfl, .inl ⟨rfl, xs, .inl (.inl hx)⟩, ?_⟩
    show tLam T (TTmet CN CB) (fun E => tCall (spF4X K C CN CB lessNames) [] E (tCons (tVar 1) (tCons (tC (.str "e")) (tCons (tCB (rTupOf K) (tCons (tVar 5) tNil)) (tCons (tC .non) tNil))))) [some (.ref sp), some (.ref t), some (.ref pt), some (.ref nh), some (.ref gl2), some (.ref bl), some nl, some odd, some (.ref sl), none] K2 _
    refine lamB (v := .int som.length) F2.tabs (fun E H1 Q' y1 t1 rz => ?_) fun p H1 y1 t1 np hp => ?_
    · exact ⟨.ref t, rfl, .ref bl, rfl, bl, _, rfl, .inl ⟨.inl (.inl ((ex6.trans (F2.ex.trans y1)) _ _ hbl fun _ z => nomatch z)), fun tp ntp => ⟨t, d', .str "e", .ref tp, .non, "str", rfl, thG.exN ((ex6.trans (F2.ex.trans y1)).trans (Ex.new ntp).extN), nl5, str_kd (by decide +kernel), .inr ⟨"e", som.length, rfl, okE, ord_e gd io, rz.ex (Ex.new ntp), bnL _ tp ((ex6.trans (F2.ex.trans y1)).trans (Ex.new ntp).extN) (.inr (.inl (.inl upd_same)))⟩⟩⟩⟩
    have hx1 := y1 _ _ hx fun _ z => nomatch z
    refine ⟨gl2, xs, .ref p, rfl, rfl, hx1, by rw [sizeLine_eq]; omega, ?_⟩
    have F3 := F2.app y1 t1 np hp hx1
    generalize upd H1 gl2 (.lst (xs ++ [.ref p])) = K3 at F3 ⊢
    clear hx1 hp np t1 y1 hxl hx xs
    obtain ⟨xs, hx, hxl⟩ := F3.lst
    refine ⟨.ref gl2, rfl, .inl ⟨rfl, xs, .inl (.inl hx)⟩, ?_⟩
    show tLam T (TTmet CN CB) (fun E => tCall (spF3X K C CN CB lessNames) [] E (tCons (tVar 1) (tCons (tC (.str "e")) (tCons (tOp rCat (tVar 8) (tLst (tCons (tC (.str "e")) tNil))) tNil)))) [some (.ref sp), some (.ref t), some (.ref pt), some (.ref nh), some (.ref gl2), some (.ref bl), some nl, some odd, some (.ref sl), none] K3 _
    refine lamB (v := .int som.length) F3.tabs (fun E H1 Q' y1 t1 rz => ?_) fun p H1 y1 t1 np hp => ?_
    · refine ⟨.ref t, rfl, .ref sl, rfl, by show 1 ≤ sizeLine; decide, fun q1 nq1 => ⟨sl, q1, _, _, rfl, rfl, (Ex.new nq1) _ _ ((ex6.trans (F3.ex.trans y1)) _ _ hsl fun _ z => nomatch z), upd_same, by rw [List.length_map, sizeLine_eq]; show som.length + 1 ≤ _; omega, fun q2 nq2 => ?_⟩⟩
      have yq := (Ex.new (o := .lst [.str "e"]) nq1).trans (Ex.new (o := .lst (som.map V.str ++ [.str "e"])) nq2)
      refine ⟨t, d', .str "e", .ref q2, "str", rfl, thG.exN ((ex6.trans (F3.ex.trans y1)).trans yq.extN), nl5, str_kd (by decide +kernel), .inr ⟨"e", som.length, rfl, okE, ord_e gd io, rz.ex yq, .inr ⟨q2, _, rfl, .inl (.inl (.inl upd_same)), by rw [List.length_append, List.length_map]; show som.length + 1 ≤ 60; omega, fun v mv => ?_, fun ks hk => bad_last oks snd (fun x mx => (hk x).mpr ((memL x).mpr ⟨sub x mx, fun q => ne (q ▸ mx)⟩)) okE ne fun mk => ((memL _).mp ((hk _).mp mk)).2 rfl⟩⟩⟩
      rcases List.mem_append.mp mv with mv | mv
      · obtain ⟨x, mx, rfl⟩ := List.mem_map.mp mv
        exact ⟨_, str_kd (by have := okS_len (oks x mx); omega)⟩
      · rw [List.mem_singleton.mp mv]
        exact ⟨_, str_kd (by decide +kernel)⟩
    have hx1 := y1 _ _ hx fun _ z => nomatch z
    refine ⟨gl2, xs, .ref p, rfl, rfl, hx1, by rw [sizeLine_eq]; omega, ?_⟩
    have F4 := F3.app y1 t1 np hp hx1
    generalize upd H1 gl2 (.lst (xs ++ [.ref p])) = K4 at F4 ⊢
    clear hx1 hp np t1 y1 hxl hx xs
    obtain ⟨ps, pl, hf, all⟩ := F4.all
    have hsl4 : K4 sl = some (.lst (som.map V.str)) := (ex6.trans F4.ex) _ _ hsl fun _ z => nomatch z
    refine ⟨.ref gl2, rfl, .ref sl, rfl, .ref sl, som.length, rfl, .inl ⟨_, .inl (.inl hsl4), by rw [List.length_map]⟩, by show 2 ≤ sizeLine; decide, fun i1 ni1 => ⟨by show 1 ≤ sizeLine; decide, fun i2 ni2 => ⟨i2, 4, [.ref i1], rfl, rfl, upd_same, by decide, by decide, by show 1 * 4 ≤ sizeLine; decide, fun i3 ni3 => ?_⟩⟩⟩
    have yX : Ex K4 (upd (upd (upd K4 i1 (.lst [.str "names", .int (som.length : Nat)])) i2 (.lst [.ref i1])) i3 (.lst (List.replicate (4 : Int).toNat [V.ref i1]).flatten)) := ((Ex.new ni1).trans (Ex.new ni2)).trans (Ex.new ni3)
    have hi1 : upd (upd (upd K4 i1 (.lst [.str "names", .int (som.length : Nat)])) i2 (.lst [.ref i1])) i3 (.lst (List.replicate (4 : Int).toNat [V.ref i1]).flatten) i1 = some (.lst [.str "names", .int (som.length : Nat)]) := (Ex.new ni3) _ _ ((Ex.new ni2) _ _ upd_same)
    have hi3 : upd (upd (upd K4 i1 (.lst [.str "names", .int (som.length : Nat)])) i2 (.lst [.ref i1])) i3 (.lst (List.replicate (4 : Int).toNat [V.ref i1]).flatten) i3 = some (.lst ([i1, i1, i1, i1].map V.ref)) := upd_same
    generalize upd (upd (upd K4 i1 (.lst [.str "names", .int (som.length : Nat)])) i2 (.lst [.ref i1])) i3 (.lst (List.replicate (4 : Int).toNat [V.ref i1]).flatten) = K5 at yX hi1 hi3 ⊢
    refine ⟨_, _, .lst (.inl (.inl (yX _ _ hf))) (dp_rep pl fun q mq => num_dp (yX _ _ (all q mq))), .lst (.inl (.inl hi3)) (dp_rep (k := 4) rfl fun q mq => ?_), num_ok4 _, num_ok4 _, false, congrArg V.bl (by rw [SeqAt.eqv_refl _ (SeqAt.canLay_of_shaped (num_ok4 _))]; rfl), ?_⟩
    · simp only [List.mem_cons, List.mem_nil_iff, or_false, or_self] at mq
      rw [mq]
      exact num_dp hi1
    have ex7 : ExtN H' K5 := (ex6.trans F4.ex).trans yX.extN
    have t7 := yX.tabs F4.tabs
    clear hi1 hi3 hf all pl ps yX F4 F3 F2 F1 ni1 ni2 ni3 hsl4
    show tLam T (TTmet CN CB) (fun E => tCall (spF3X K C CN CB allNames) [] E (tCons (tVar 1) (tCons (tC (.str "e")) (tCons (tVar 6) tNil)))) [some (.ref sp), some (.ref t), some (.ref pt), some (.ref nh), some (.ref gl2), some (.ref bl), some nl, some odd, some (.ref sl), none] K5 _
    refine lamB (v := .int (0 : Nat)) t7 (fun E H1 Q' y1 t1 rz => ?_) fun p H1 y1 t1 np hp => ?_
    · obtain ⟨T', kd, nlt⟩ := (hnl.exN (ex7.trans y1)).kd (K := K)
      exact ⟨.ref t, rfl, nl, rfl, t, d', .str "e", nl, "str", rfl, thG.exN (ex7.trans y1), nl5, str_kd (by decide +kernel), .inr ⟨"e", 0, rfl, okE, ord_e gd io, rz, .inl ⟨T', kd, nlt, rfl⟩⟩⟩
    refine ⟨by show 1 ≤ sizeLine; decide, fun gl3 nfl => ?_⟩
    have F1 := Fs.first (x := "names") y1 t1 hp nfl
    generalize upd H1 gl3 (.lst [.ref p]) = L1 at F1 ⊢
    clear hp np t1 y1 nfl
    obtain ⟨xs, hx, hxl⟩ := F1.lst
    refine ⟨.ref gl3, rfl, .inl ⟨rfl, xs, .inl (.inl hx)⟩, ?_⟩
    show tLam T (TTmet CN CB) (fun E => tCall (spF3X K C CN CB lessNames) [] E (tCons (tVar 1) (tCons (tC (.str "e")) (tCons (tVar 6) tNil)))) [some (.ref sp), some (.ref t), some (.ref pt), some (.ref nh), some (.ref gl3), some (.ref bl), some nl, some odd, some (.ref sl), none] L1 _
    refine lamB (v := .int (0 : Nat)) F1.tabs (fun E H1 Q' y1 t1 rz => ?_) fun p H1 y1 t1 np hp => ?_
    · obtain ⟨T', kd, nlt⟩ := (hnl.exN (ex7.trans (F1.ex.trans y1))).kd (K := K)
      exact ⟨.ref t, rfl, nl, rfl, t, d', .str "e", nl, "str", rfl, thG.exN (ex7.trans (F1.ex.trans y1)), nl5, str_kd (by decide +kernel), .inr ⟨"e", 0, rfl, okE, ord_e gd io, rz, .inl ⟨T', kd, nlt, rfl⟩⟩⟩
    have hx1 := y1 _ _ hx fun _ z => nomatch z
    refine ⟨gl3, xs, .ref p, rfl, rfl, hx1, by rw [sizeLine_eq]; omega, ?_⟩
    have F2 := F1.app y1 t1 np hp hx1
    generalize upd H1 gl3 (.lst (xs ++ [.ref p])) = L2' at F2 ⊢
    clear hx1 hp np t1 y1 hxl hx xs
    obtain ⟨ps, pl, hf, all⟩ := F2.all
    refine ⟨.ref gl3, rfl, by show 2 ≤ sizeLine; decide, fun i1 ni1 => ⟨by show 1 ≤ sizeLine; decide, fun i2 ni2 => ⟨i2, 2, [.ref i1], rfl, rfl, upd_same, by decide, by decide, by show 1 * 2 ≤ sizeLine; decide, fun i3 ni3 => ?_⟩⟩⟩
    have yX : Ex L2' (upd (upd (upd L2' i1 (.lst [.str "names", .int 0])) i2 (.lst [.ref i1])) i3 (.lst (List.replicate (2 : Int).toNat [V.ref i1]).flatten)) := ((Ex.new ni1).trans (Ex.new ni2)).trans (Ex.new ni3)
    have hi1 : upd (upd (upd L2' i1 (.lst [.str "names", .int 0])) i2 (.lst [.ref i1])) i3 (.lst (List.replicate (2 : Int).toNat [V.ref i1]).flatten) i1 = some (.lst [.str "names", .int 0]) := (Ex.new ni3) _ _ ((Ex.new ni2) _ _ upd_same)
    have hi3 : upd (upd (upd L2' i1 (.lst [.str "names", .int 0])) i2 (.lst [.ref i1])) i3 (.lst (List.replicate (2 : Int).toNat [V.ref i1]).flatten) i3 = some (.lst ([i1, i1].map V.ref)) := upd_same
    generalize upd (upd (upd L2' i1 (.lst [.str "names", .int 0])) i2 (.lst [.ref i1])) i3 (.lst (List.replicate (2 : Int).toNat [V.ref i1]).flatten) = L3 at yX hi1 hi3 ⊢
    refine ⟨_, _, .lst (.inl (.inl (yX _ _ hf))) (dp_rep pl fun q mq => num_dp (yX _ _ (all q mq))), .lst (.inl (.inl hi3)) (dp_rep (k := 2) (d := numD 0) rfl fun q mq => ?_), num_ok2, num_ok2, ?_⟩
    · simp only [List.mem_cons, List.mem_nil_iff, or_false, or_self] at mq
      rw [mq]
      exact num_dp hi1
    have ex8 : ExtN H' L3 := (ex7.trans F2.ex).trans yX.extN
    show Q (.bl (PyData.eqv (.list (List.replicate 2 (numD 0))) (.list (List.replicate 2 (numD 0))))) L3
    rw [SeqAt.eqv_refl _ (SeqAt.canLay_of_shaped num_ok2)]
    exact hQ L3 m hm2 (x2.trans (exN_sn ex8)) (S2.exN ex8) (yX.tabs F2.tabs)
end
end TH

/-! A30: law -/
namespace TH
open PySem PySem.Spec PyProof.Rows L2 LamV LamX XK0
open C8 (pss_cut tCut)
abbrev sLaw : Stmt := top 51
theorem wStep_rin {d : ThD} {ys : List Str} {w : Str} : ∀ {ns : List Str} {st : Fnd × List Str}, (∀ n ∈ ns, n ∈ ys) → RIn ys st.1 → RIn ys (wStep d ns st w).1 := by
  unfold wStep
  intro ns
  induction ns with
  | nil => exact fun _ h => h
  | cons n r ih => exact fun hn h => ih (fun m mm => hn m (List.mem_cons_of_mem _ mm)) (nStep_rin (hn n List.mem_cons_self) h)
theorem Run.rin {d : ThD} {ys : List Str} {f a : Fnd} {ws : List Str} (r : Run d ys f ws a) (h : RIn ys f) : RIn ys a := by
  induction r with
  | nil f => exact h
  | @step f ws f' n _ ih =>
    refine ih ?_
    unfold tier
    have : ∀ {ws : List Str} {st : Fnd × List Str}, RIn ys st.1 → RIn ys (ws.foldl (wStep d ys) st).1 := by
      intro ws
      induction ws with
      | nil => exact fun h => h
      | cons w r ih => exact fun h => ih (wStep_rin (fun m mm => mm) h)
    exact this h
theorem Run.ok {d : ThD} (k : d.Ok) {ns : List Str} {f a : Fnd} {ws : List Str} (r : Run d ns f ws a) : FOk d f → (∀ w ∈ ws, w ∈ f.map (·.1)) → FOk d a := by
  induction r with
  | nil f => exact fun h _ => h
  | step n _ ih =>
    intro h hw
    obtain ⟨h1, h2⟩ := tier_ok k (ns := ns) h hw
    exact ih h1 h2
theorem firstIn_rin {l : Ld} {f : Fnd} {ys row : List Str} (h : RIn ys f) (e : firstIn l f = some row) : ∀ n ∈ row, n ∈ ys := by
  unfold firstIn at e
  obtain ⟨p, ep, rfl⟩ := Option.map_eq_some_iff.mp e
  exact h p (List.mem_of_find?_eq_some ep)
theorem Tabs.putL {H : Hp} {p : Addr} {xs : List V} {o : HO} {T : List (Addr × Str)} (h : H p = some (.lst xs)) (t : Tabs T H) : Tabs T (upd H p o) := fun q hq => by
  obtain ⟨rs, h1, h2, h3⟩ := t q hq
  refine ⟨rs, (upd_ne fun z => by rw [z, h] at h1; cases h1).trans h1, h2, fun pos cv hc => ?_⟩
  obtain ⟨c, e1, e2⟩ := h3 pos cv hc
  exact ⟨c, e1, (upd_ne fun z => by rw [z, h] at e2; cases e2).trans e2⟩
theorem extN_put {H H' : Hp} {p : Addr} {o : HO} (x : ExtN H H') (n : NewP H p) : ExtN H (upd H' p o) := fun b u e nt => (upd_ne fun z => n u (by rw [← z]; exact e) nt).trans (x _ _ e nt)
/-- as okG, whatever the code object is -/
theorem okGa {P : Program} {w : World} {K : PySem.W.Frag} {mg : Str → Option Value} {base : Heap} {x qual : Str} {params : Arguments} {body : List Stmt} {scope : Scope} {dvs : List V} {kws : List (Str × V)} {f : Addr} {fd : FuncData} {CX : CXT} {N ps : List Str} {k : Nat} {sp : Sp}
    (F : FunD K x qual params body scope dvs kws f fd) (S : FnScope N ps scope) (len : ∀ vs H Q E, sp vs H Q E → vs.length = ps.length)
    (hbody : ∀ (cdv : Value) (A : Around) (outer : List Env) (s : Shared) (H : Hp) (vs : List V) (Q : VK) (E : XK), A.guards = some [] → Room k (A.deeper (envOfC qual scope s.heap.objs.size f cdv)) → sp vs H Q E →
      ∃ t, PSs (cxOf CX P w K mg base N qual scope f cdv A outer s H E) body t ∧ t { nx := fun _ H' => Q .non H', rt := Q } (L2.start N vs) H) : FnOkG P w K mg base CX (k + 1) f fd ps sp := by
  obtain ⟨oc, od, dV, kV, doc, pm, an, cdv, ct, osl, rfl, lk, hcd, _, _⟩ := F.ex
  refine ⟨len, fun A outer s H args us vs Q E hG hr e0 hb r hsp => ?_⟩
  exact run_ofS lk hcd S hr e0 hb r (len _ _ _ _ hsp) fun hr' => hbody cdv A outer s H vs Q E hG hr' hsp
def spLaw (K : PySem.W.Frag) (T : List (Addr × Str)) : Sp := fun vs H Q _ => ∃ (a : Addr) (ns : List Int), vs = [.ref a] ∧ SqL K H a (ns.map V.int) ∧ ns.length ≤ 63 ∧ Tabs T H ∧ ∀ H', Q (.bl true) H'
def LwO (sp l : Addr) (T : List (Addr × Str)) (a : Addr) (i : Nat) (σ : L2.St) (H : Hp) : Prop := ∃ (o2 o3 o4 o5 o6 o7 o8 : Option V) (m : Nat), σ = [some (.ref a), some (.ref sp), o2, o3, o4, o5, o6, o7, o8] ∧ m ≤ 200 * i ∧ Spr H sp l m ∧ Tabs T H
def LwI (C sp l : Addr) (T : List (Addr × Str)) (a pt t : Addr) (d d' : ThD) (b i : Nat) (σ : L2.St) (H : Hp) : Prop := ∃ (o2 o5 o6 o7 o8 : Option V) (m : Nat), σ = [some (.ref a), some (.ref sp), o2, some (.ref pt), some (.ref t), o5, o6, o7, o8] ∧ m ≤ b + 10 * i ∧ Spr H sp l m ∧ Tabs T H ∧ IsTh H C t d' ∧ IsPtS sp l H pt d
section
variable {P : Program} {w : World} {K : PySem.W.Frag} {mg : Str → Option Value} {base : Heap} {f C CN CB c gR : Addr} {fd fdR : FuncData} {T : List (Addr × Str)}
theorem scLaw : FnScope ["_law_script", "_law_spring_here", "_law_turn", "_law_parts", "_law_thing_here", "_law_k", "_law_names_here", "_law_entry", "_law_told"] ["_law_script"] (defScope sLaw) := ⟨rfl, rfl, rfl, by decide +kernel, rfl, by decide +kernel, by decide +kernel⟩
/-- both tell the same -/
theorem same_told {K : PySem.W.Frag} {H : Hp} {row : List Str} {p q : Addr} (hp : H p = some (.lst (row.map V.str))) (hq : H q = some (.lst (row.map V.str))) (lay : ∀ n ∈ row, PyData.canLay0 (.str n) = true) : ∃ d e, Dp K H (.ref p) d ∧ Dp K H (.ref q) e ∧ SeqAt.shaped d = true ∧ SeqAt.shaped e = true ∧ PyData.eqv d e = true :=
  ⟨.list (row.map PyData.str), .list (row.map PyData.str), .lst (.inl (.inl hp)) (dp_strs _), .lst (.inl (.inl hq)) (dp_strs _), shaped_strs lay, shaped_strs lay, SeqAt.eqv_refl _ (SeqAt.canLay_of_shaped (shaped_strs lay))⟩
theorem ok_law (F : FnP K "law" sLaw f fd) (FS : Has P w K mg base "_law_spring" 1 ["_law_script"] (spSpring K)) (FT : Has P w K mg base "_law_thing" 3 ["_law_spring_here", "_law_most", "_law_many"] spThing) (FMd : Has P w K mg base "_law_made" 6 ["_law_parts"] (spMade K C))
    (FM : Has P w K mg base "_law_mix" 2 ["_law_spring_here", "_law_things"] (spMix K)) (FN : Has P w K mg base "_law_names" 1 ["_law_parts"] spNames) (FO : Has P w K mg base "_law_one" 2 ["_law_spring_here", "_law_things"] spOne) (FF : Has P w K mg base "first_open" 4 ["thing", "entry", "names"] (spFirstOpen K C T)) (FLF : Has P w K mg base "_law_first" 2 ["_law_parts", "_law_entry", "_law_names_here"] (spLawFirst K))
    (FR : FnOkG P w K mg base CX0 8 gR fdR ["_law_spring_here", "_law_thing_here", "_law_parts"] (spRefused K C T)) (gR' : mg "_law_refused" = some (.ref gR)) (kR : PySem.W.keepIn K (.ref gR) = true) (bR : Binds K fdR ["_law_spring_here", "_law_thing_here", "_law_parts"] [])
    (gl : mg "list" = none) (gn : mg "len" = none) (gt : mg "tuple" = none) (gr : mg "range" = none) : FnOkG P w K mg base CX0 9 f fd ["_law_script"] (spLaw K T) := by
  refine okGa F scLaw (fun vs H Q E h => ?_) (fun cdv A outer s H vs Q E hG hr h => ?_)
  · obtain ⟨a, ns, rfl, _⟩ := h
    rfl
  · have hu := hu_of hr
    refine ⟨_, PSs.nox (pss_cons (ps_set (i := 1) scLaw.nd rfl (.inl rfl) (pe_has FS hr (by decide) rfl (pa_cons (pv 0) pa_nil)))
      (pss_cons (ps_for PassesOwn.never rfl (pi_range1 rfl gr (pa_cons pe_int pa_nil)) (pg_name (i := 2) scLaw.nd rfl (.inl rfl))
        (pss_cons (ps_set (i := 3) scLaw.nd rfl (.inl rfl) (pe_has FT hr (by decide) rfl (pa_cons (pv 1) (pa_cons pe_int (pa_cons pe_int pa_nil)))))
        (pss_cons (ps_set (i := 4) scLaw.nd rfl (.inl rfl) (pe_has FMd hr (by decide) rfl (pa_cons (pv 3) pa_nil)))
        (pss_cons (ps_for PassesOwn.never rfl (pi_range1 rfl gr (pa_cons pe_int pa_nil)) (pg_name (i := 5) scLaw.nd rfl (.inl rfl))
          (pss_cons (ps_set (i := 6) scLaw.nd rfl (.inl rfl) (pe_has FM hr (by decide) rfl (pa_cons (pv 1) (pa_cons (pe_has FN hr (by decide) rfl (pa_cons (pv 3) pa_nil)) pa_nil))))
          (pss_cons (ps_set (i := 6) scLaw.nd rfl (.inl rfl) (pe_slice sl_list (pv 6) po_none (po_some (pe_has FO hr (by decide) rfl (pa_cons (pv 1) (pa_cons (pe_lst (pa_cons pe_int (pa_cons pe_int (pa_cons pe_int (pa_cons (pe_callB call_len rfl gn boot_len (pa_cons (pv 6) pa_nil)) (pa_cons (pe_callB call_len rfl gn boot_len (pa_cons (pv 6) pa_nil)) pa_nil)))))) pa_nil))))))
          (pss_cons (ps_set (i := 7) scLaw.nd rfl (.inl rfl) (pe_has FO hr (by decide) rfl (pa_cons (pv 1) (pa_cons (pe_callTy (call_listD rfl) rfl gl boot_list (pa_cons (pe_ix ix_tup (pv 3) pe_int (fun _ _ => rfl)) pa_nil)) pa_nil))))
          (pss_cons (ps_set (i := 8) scLaw.nd rfl (.inl rfl) (pe_has FF hr (by decide) rfl (pa_cons (pv 4) (pa_cons (pv 7) (pa_cons (pe_has FO hr (by decide) rfl (pa_cons (pv 1) (pa_cons (pe_lst (pa_cons (pv 6) (pa_cons (pe_callTy call_tuple_of rfl gt boot_tuple (pa_cons (pv 6) pa_nil)) pa_nil))) pa_nil))) pa_nil)))))
          (pss_cons (ps_if (pt_cmpR (op_neD hr.units) (pv 8) (pe_has FLF hr (by decide) rfl (pa_cons (pv 3) (pa_cons (pv 7) (pa_cons (pv 6) pa_nil)))) (nomark _)) (pss_one (ps_ret pe_bl)) pss_nil)
          (pss_one (ps_if (pt_cmp (pc_notN (pv 8)))
            (pss_cons (ps_expr (pe_bm PySem.F.plainAttrs_list PySem.F.slot_list_append PySem.F.type_list_append mt_append (pv 8) (pa_cons pe_str pa_nil)))
            (pss_one (ps_if (pt_cmpR (op_neD hr.units) (pe_has FF hr (by decide) rfl (pa_cons (pv 4) (pa_cons (pv 7) (pa_cons (pv 6) pa_nil)))) (pe_has FLF hr (by decide) rfl (pa_cons (pv 3) (pa_cons (pv 7) (pa_cons (pv 6) pa_nil)))) (nomark _)) (pss_one (ps_ret pe_bl)) pss_nil))) pss_nil))))))))
        (pss_one (ps_if (pt_not (pt_val (pe_callG hG FR hr rfl gR' kR bR pass0 (pa_cons (pv 1) (pa_cons (pv 4) (pa_cons (pv 3) pa_nil)))))) (pss_one (ps_ret pe_bl)) pss_nil))))))
      (pss_one (ps_ret pe_bl)))), ?_⟩
    obtain ⟨a, ns, rfl, sn, len, tabs, hQ⟩ := h
    refine ⟨.ref a, rfl, a, ns, rfl, sn, by rw [sizeLine_eq]; omega, fun sp l H1 x1 nsp nl S1 => ?_⟩
    refine ⟨5, rfl, by decide, by decide, for_range (n := 5) (LwO sp l T a) ⟨none, none, none, none, none, none, none, 0, rfl, Nat.le_refl _, S1, x1.tabs tabs⟩ (fun i σ H2 hi h => ?_) fun σ H2 h => hQ H2⟩
    obtain ⟨o2, o3, o4, o5, o6, o7, o8, m, rfl, hm, S, tb⟩ := h
    have hi : i < 5 := hi
    refine ⟨.ref sp, rfl, sp, l, m, 4, 3, rfl, S, by omega, by decide, by decide, by decide, by decide, fun pt d m2 H3 gd hm2 x3 S3 npt ip => ?_⟩
    refine ⟨.ref pt, rfl, pt, d, rfl, ip.pt, gd.fit, fun t H4 d' x4 nt th io => ?_⟩
    have S4 := S3.ex x4
    have tb4 := x4.tabs (Tabs.exS x3 S tb)
    have ip4 := ip.sn x4.sn S3
    refine ⟨5, rfl, by decide, by decide, for_range (n := 5) (LwI C sp l T a pt t d d' m2) ⟨_, _, _, _, _, m2, rfl, by omega, S4, tb4, th, ip4⟩ (fun j σ H5 hj h => ?_) fun σ H5 h => ?_⟩
    · obtain ⟨p2, p5, p6, p7, p8, m3, rfl, hm3, S5, tb5, th5, ip5⟩ := h
      have hj : j < 5 := hj
      have nlen := gd.nlen
      clear tb4 ip4 S4 th x4 nt
      refine ⟨.ref sp, rfl, .ref pt, rfl, pt, d, rfl, ip5.pt, by omega, fun nl0 ys H6 x6 nnl hnl pm so => ?_⟩
      have S6 := S5.ex x6
      have nlo := S5.off nnl
      refine ⟨sp, l, nl0, m3, ys.map V.str, rfl, S6, ?_, nlo.1, nlo.2, .inl (.inl (.inl hnl)), ?_, fun q zs H7 x7 S7 nq hq pz => ?_⟩
      · rw [List.length_map, pm.length_eq]; omega
      · rw [List.length_map, pm.length_eq]; omega
      obtain ⟨zs, rfl, pz2⟩ := perm_strs pz
      rw [List.length_map, pm.length_eq] at S7
      have zn : zs.Perm d.names := pz2.trans pm
      have qo := S6.off nq
      have y7 : ExS sp l H5 H7 := x6.exS.trans x7
      -- the first few
      refine ⟨.ref q, rfl, .ref sp, rfl, .ref q, rfl, .ref q, zs.length, rfl, .inl ⟨_, .inl (.inl hq), by rw [List.length_map]⟩, .ref q, rfl, .ref q, zs.length, rfl, .inl ⟨_, .inl (.inl hq), by rw [List.length_map]⟩, by show 5 ≤ sizeLine; decide, fun b1 nb1 => ?_⟩
      have b1o := S7.off nb1
      have xb1 : Ex H7 (upd H7 b1 (.lst [.int 0, .int 1, .int 2, .int zs.length, .int zs.length])) := Ex.new nb1
      refine ⟨sp, l, b1, m3 + d.names.length, _, rfl, S7.ex xb1, by omega, b1o.1, b1o.2, upd_same, by simp, by show 5 ≤ 1000; decide, fun y H9 my x9 S9 => ?_⟩
      obtain ⟨k, rfl⟩ : ∃ k : Nat, y = .int k := by
        simp only [List.mem_cons, List.mem_nil_iff, or_false] at my
        rcases my with rfl | rfl | rfl | rfl | rfl
        · exact ⟨0, rfl⟩
        · exact ⟨1, rfl⟩
        · exact ⟨2, rfl⟩
        · exact ⟨zs.length, rfl⟩
        · exact ⟨zs.length, rfl⟩
      have y9 : ExS sp l H5 H9 := (y7.trans xb1.exS).trans x9
      have hq9 : H9 q = some (.lst (zs.map V.str)) := x9 _ _ qo.1 qo.2 (xb1 _ _ hq)
      refine ⟨k, rfl, q, _, rfl, .inl (.inl hq9), fun nl nnl2 => ?_⟩
      rw [cut_take, ← List.map_take]
      have nlo2 := S9.off nnl2
      have yA : ExS sp l H5 (upd H9 nl (.lst ((zs.take k).map V.str))) := y9.trans (Ex.new nnl2).exS
      have hnlA : upd H9 nl (.lst ((zs.take k).map V.str)) nl = some (.lst ((zs.take k).map V.str)) := upd_same
      have SA : Spr (upd H9 nl (.lst ((zs.take k).map V.str))) sp l (m3 + d.names.length + 1) := S9.new nnl2
      generalize upd H9 nl (.lst ((zs.take k).map V.str)) = HA at yA hnlA SA ⊢
      have xsub : ∀ x ∈ zs.take k, x ∈ d.names := fun x mx => zn.mem_iff.mp (List.mem_of_mem_take mx)
      have xnd : (zs.take k).Nodup := (List.take_sublist _ zs).nodup (zn.nodup_iff.mpr gd.nnd)
      have xlen : (zs.take k).length ≤ 5 := by rw [List.length_take]; have := zn.length_eq; have := Nat.min_le_right k zs.length; omega
      generalize zs.take k = xs at xsub xnd xlen hnlA ⊢
      clear my hq9 hq nb1 xb1 x9 S9 nnl2 y9 y7 x7 x6 hnl S6 S7 nnl nq pz pz2 zn nlo qo b1o
      -- the entry
      obtain ⟨vl, dd, de, e1, e2, e2n, e3, ⟨es, n1, np⟩⟩ := ip5.sn yA.sn S5
      have ek := DD.keys np fun _ _ r => r.1
      have ek2 : (es.map fun kv => kV kv.1) = (d.ents.map (·.1)).map V.str := by rw [ek, List.map_map]; rfl
      refine ⟨.ref sp, rfl, .ref pt, rfl, pt, _, 3, .ref de, rfl, rfl, .inl (.inl e1), rfl, de, es, rfl, .inl n1, fun b2 nb2 => ?_⟩
      rw [ek2]
      have b2o := SA.off nb2
      have elen : (d.ents.map (·.1)).length ≤ 3 := by rw [List.length_map]; exact gd.elen
      refine ⟨sp, l, b2, m3 + d.names.length + 1, _, rfl, SA.new nb2, by omega, b2o.1, b2o.2, upd_same, ?_, by rw [List.length_map]; omega, fun y HB my xB SB => ?_⟩
      · intro z
        have z2 : d.ents.map (·.1) = [] := List.map_eq_nil_iff.mp z
        have := gd.has_e
        rw [z2] at this
        cases this
      obtain ⟨x, mx, rfl⟩ := List.mem_map.mp my
      have yB : ExS sp l HA HB := (Ex.new nb2).exS.trans xB
      have hnlB := yB _ _ nlo2.1 nlo2.2 hnlA
      have y5B := yA.trans yB
      clear my nb2 b2o xB ek ek2 e1 e2 e3 n1 np
      -- a list or a tuple
      refine ⟨.ref t, rfl, .str x, rfl, .ref sp, rfl, .ref nl, rfl, .ref nl, rfl, nl, _, rfl, .inl ⟨.inl (.inl hnlB), fun tp ntp => ?_⟩⟩
      refine ⟨by show 2 ≤ sizeLine; decide, fun b3 nb3 => ?_⟩
      have xC : Ex HB (upd (upd HB tp (.tup (xs.map V.str))) b3 (.lst [.ref nl, .ref tp])) := (Ex.new ntp).trans (Ex.new nb3)
      have htpC : upd (upd HB tp (.tup (xs.map V.str))) b3 (.lst [.ref nl, .ref tp]) tp = some (.tup (xs.map V.str)) := (Ex.new nb3) _ _ upd_same
      have b3o := (SB.new ntp).off nb3
      have SC := SB.ex xC
      refine ⟨sp, l, b3, m3 + d.names.length + 1 + 1, _, rfl, SC, by omega, b3o.1, b3o.2, upd_same, by simp, by show 2 ≤ 1000; decide, fun y HD my xD SD => ?_⟩
      have yD : ExS sp l HB HD := xC.exS.trans xD
      have hnlD := yD _ _ nlo2.1 nlo2.2 hnlB
      obtain ⟨aa, rfl, sq⟩ : ∃ aa, y = .ref aa ∧ Sq K HD aa (xs.map V.str) := by
        simp only [List.mem_cons, List.mem_nil_iff, or_false] at my
        rcases my with rfl | rfl
        · exact ⟨_, rfl, .inl (.inl (.inl hnlD))⟩
        · exact ⟨_, rfl, .inr (.inl (.inl (xD.non SC htpC fun _ z => nomatch z)))⟩
      have y5D := y5B.trans yD
      clear my htpC b3o SC xD nb3 ntp xC
      have thD := th5.sn y5D.sn S5
      have ipD := ip5.sn y5D.sn S5
      have tbD := Tabs.exS y5D S5 tb5
      -- what is known of the entry
      obtain ⟨l0, el0⟩ := Option.isSome_iff_exists.mp (look_mem mx)
      have el1 : look d'.ents x = some (ordL d.vals l0) := by rw [ord_ents gd io, el0]; rfl
      have okx : okS x = true := (nameN_ok x (List.mem_append_right _ (gd.esub x mx))).1
      have lsub : ∀ q ∈ l0, q.1 ∈ d.vals := by
        obtain ⟨p, mp, _, rfl⟩ := look_some el0
        exact (gd.el p mp).2.1
      have hfi : ∀ f, firstIn (ordL d.vals l0) f = firstIn l0 f := fun f => firstIn_congr (ordL_look gd.vnd lsub) f
      have nmo : ∀ y ∈ xs, okS y = true ∧ PyData.canLay0 (.str y) = true := fun y my => nameN_ok y (gd.nsub y (xsub y my))
      have own : d.Own xs := fun y my => names_look (xsub y my)
      have nl' : d'.names.length < 60 := by rw [(ord_names io).length_eq]; omega
      have sub' : ∀ y ∈ xs, y ∈ d'.names := fun y my => (ord_names io).mem_iff.mpr (xsub y my)
      have go : ∀ {ys f}, Run d' ys [(d'.start, [])] [d'.start] f → Run d ys [(d.start, [])] [d.start] f := fun r => by
        have r2 := Run.led (ord_led gd.fit io) r
        rw [(ord_vals io).2] at r2
        exact r2
      refine ⟨t, aa, d', x, xs, ordL d.vals l0, rfl, thD, ord_ok gd io, okx, el1, sq, by omega, nl', fun y my => (nmo y my).1, xnd, sub', tbD, fun ys f pm so run => ?_⟩
      have run := go run
      have rinf : RIn ys f := run.rin fun p mp n mn => by rw [List.mem_singleton.mp mp] at mn; cases mn
      have layf : ∀ {row}, firstIn l0 f = some row → ∀ n ∈ row, PyData.canLay0 (.str n) = true := fun e n mn => (nmo n (pm.mem_iff.mp (firstIn_rin rinf e n mn))).2
      have fin : ∀ {HH : Hp} {v : V}, ExtN HD HH → Tabs T HH → LwI C sp l T a pt t d d' m2 (j + 1) [some (.ref a), some (.ref sp), p2, some (.ref pt), some (.ref t), some (.int (0 + (j : Nat))), some (.ref nl), some (.str x), some v] HH := fun xh th => ⟨_, _, _, _, _, _, rfl, by omega, SD.exN xh, th, thD.exN xh, ipD.sn (exN_sn xh) SD⟩
      refine ⟨fun HE xE tE en => ?_, fun row p HE xE tE es np hp => ?_⟩
      · rw [hfi] at en
        refine ⟨.non, rfl, .ref pt, rfl, .str x, rfl, .ref nl, rfl, pt, nl, d, x, xs, ys, l0, f, rfl, (ipD.sn (exN_sn xE) SD).pt, gd.ok, el0, .inl (.inl (xE _ _ hnlD fun _ z => nomatch z)), by omega, own, fun n mn => (nmo n mn).2, pm, so, run, (fun HF xF _ => ?_), fun row p HF xF np hp e => ?_⟩
        · refine ⟨.none, .none, .non, .non, rfl, rfl, false, rfl, ?_⟩
          exact ⟨.non, rfl, false, rfl, fin (xE.trans xF.extN) (xF.tabs tE)⟩
        · rw [en] at e; cases e
      · rw [hfi] at es
        refine ⟨.ref p, rfl, .ref pt, rfl, .str x, rfl, .ref nl, rfl, pt, nl, d, x, xs, ys, l0, f, rfl, (ipD.sn (exN_sn xE) SD).pt, gd.ok, el0, .inl (.inl (xE _ _ hnlD fun _ z => nomatch z)), by omega, own, fun n mn => (nmo n mn).2, pm, so, run, (fun HF xF e => ?_), fun row2 p2' HF xF np2 hp2 e => ?_⟩
        · rw [es] at e; cases e
        have er : row2 = row := by rw [es] at e; exact (Option.some.inj e).symm
        subst er
        obtain ⟨D1, D2, q1, q2, q3, q4, q5⟩ := same_told (K := K) (xF _ _ hp) hp2 (layf es)
        refine ⟨D1, D2, q1, q2, q3, q4, false, congrArg V.bl (by rw [q5]; rfl), ?_⟩
        have rl : row2.length ≤ 10 := by
          obtain ⟨p', ep, hp'⟩ := Option.map_eq_some_iff.mp (show (f.find? fun p => (lookL l0 p.1).isSome).map (·.2) = some row2 from es)
          have fok : FOk d f := run.ok gd.ok ⟨by simp, fun q hq => by rw [List.mem_singleton.mp hq]; exact gd.start, fun q hq => by rw [List.mem_singleton.mp hq]; exact Nat.zero_le _⟩ fun w hw => hw
          have := fok.row p' (List.mem_of_find?_eq_some ep)
          have := fok.len
          have := gd.vlen.1
          rw [hp'] at *
          omega
        have hpF := xF _ _ hp
        refine ⟨.ref p, rfl, true, rfl, .ref p, rfl, .inl ⟨rfl, _, .inl (.inl hpF)⟩, p, _, .str "late", rfl, rfl, hpF, by rw [sizeLine_eq, List.length_map]; omega, ?_⟩
        have xG : ExtN HD (upd HF p (.lst (row2.map V.str ++ [.str "late"]))) := extN_put (xE.trans xF.extN) np
        have tG : Tabs T (upd HF p (.lst (row2.map V.str ++ [.str "late"]))) := Tabs.putL hpF (xF.tabs tE)
        generalize upd HF p (.lst (row2.map V.str ++ [.str "late"])) = HG at xG tG ⊢
        refine ⟨.ref t, rfl, .str x, rfl, .ref nl, rfl, t, nl, d', x, xs, ordL d.vals l0, rfl, thD.exN xG, ord_ok gd io, okx, el1, .inl (.inl (.inl (xG _ _ hnlD fun _ z => nomatch z))), by omega, nl', fun y my => (nmo y my).1, xnd, sub', tG, fun ys2 f2 pm2 so2 run2 => ?_⟩
        have eys : ys2 = ys := sorted_one so2 so (pm2.trans pm.symm)
        subst eys
        have ef : f2 = f := (go run2).one run
        subst ef
        refine ⟨fun HI xI tI en => ?_, fun row3 p3 HI xI tI es3 np3 hp3 => ?_⟩
        · rw [hfi, es] at en; cases en
        have er3 : row3 = row2 := by rw [hfi, es] at es3; exact (Option.some.inj es3).symm
        subst er3
        refine ⟨.ref pt, rfl, .str x, rfl, .ref nl, rfl, pt, nl, d, x, xs, ys2, l0, f2, rfl, (ipD.sn (exN_sn (xG.trans xI)) SD).pt, gd.ok, el0, .inl (.inl ((xG.trans xI) _ _ hnlD fun _ z => nomatch z)), by omega, own, fun n mn => (nmo n mn).2, pm, so, run, (fun HJ xJ e => ?_), fun row4 p4 HJ xJ np4 hp4 e => ?_⟩
        · rw [es] at e; cases e
        have er4 : row4 = row3 := by rw [es] at e; exact (Option.some.inj e).symm
        subst er4
        obtain ⟨D1, D2, q1, q2, q3, q4, q5⟩ := same_told (K := K) (xJ _ _ hp3) hp4 (layf es)
        refine ⟨D1, D2, q1, q2, q3, q4, false, congrArg V.bl (by rw [q5]; rfl), ?_⟩
        exact fin ((xG.trans xI).trans xJ.extN) (xJ.tabs tI)
    · obtain ⟨p2, p5, p6, p7, p8, m3, rfl, hm3, S5, tb5, th5, ip5⟩ := h
      refine ⟨.ref sp, rfl, .ref t, rfl, .ref pt, rfl, sp, l, t, pt, m3, d, d', rfl, S5, by omega, th5, ip5, gd, io, tb5, fun H6 m4 hm4 x6 S6 t6 => ⟨true, rfl, ?_⟩⟩
      exact ⟨_, _, _, _, _, _, _, m4, rfl, by omega, S6, t6⟩
end
end TH

/-! GX: what a law's head tells, over lists of facts, defs, makers of lambdas, own exceptions (of no row) -/
namespace GX
open PySem PySem.Spec PyProof.Rows L2 LamX LamV XK0
/-! ### what is asked of a class, as a test of the head's part -/
def tailV : List Value := [.type "ValueError", .type "Exception", .type "BaseException", .type "object"]
def oexB (K : PySem.W.Frag) (C : Addr) : Bool := match K.lookup C with
  | some ⟨.type t, _, .cls cd, sl⟩ => decide (t = "type") && (!cd.hasDel && (cd.hasDict && ((match cd.mro with
      | .ref C' :: bm => decide (C' = C) && PySem.HandSPX.refsVE bm
      | _ => false) && (match sl.toList with
      | [_, _, _, _, some (.builtin n), _] => decide (n = "ValueError.__new__")
      | _ => false))))
  | _ => false
theorem oexB_ok {K : PySem.W.Frag} {C : Addr} (h : oexB K C = true) : ∃ nm q N bs bm sn sub ab col dd k0 k1 k2 k3 k5, K.lookup C = some (excClassObj nm q C N bs bm true sn sub ab col dd k0 k1 k2 k3 k5 "ValueError.__new__") ∧ PySem.HandSPX.refsVE bm = true := by
  unfold oexB at h
  split at h
  · rename_i t dd cd sl ho
    obtain ⟨nm, bs, mro, ns, qn, hd, sn, sub, ab, col, del⟩ := cd
    simp only [Bool.and_eq_true, decide_eq_true_eq, Bool.not_eq_true'] at h
    obtain ⟨rfl, h1, h2, h3, h4⟩ := h
    subst h1 h2
    split at h3
    · rename_i C' bm
      simp only [Bool.and_eq_true, decide_eq_true_eq] at h3
      obtain ⟨rfl, h3⟩ := h3
      split at h4
      · rename_i k0 k1 k2 k3 n k5 hs
        have hn : n = "ValueError.__new__" := of_decide_eq_true h4
        subst hn
        have hsl : sl = #[k0, k1, k2, k3, some (.builtin "ValueError.__new__"), k5] := by
          obtain ⟨l⟩ := sl
          simp only at hs
          rw [hs]
        subst hsl
        exact ⟨nm, qn, ns, bs, bm, sn, sub, ab, col, dd, k0, k1, k2, k3, k5, ho, h3⟩
      · cases h4
    · cases h3
  · cases h
def eqV' (a b : Option (Option Value)) : Bool := decide (a = b)
/-- the class by its name: right beneath TaskError (or it itself), as it stands behind the top -/
def clsB (K : PySem.W.Frag) (up : List Value) (x : Str) (fs : List Str) : Bool :=
  let C := He.ga K x
  He.eqO (PySem.W.nsIn K mainGlobals x) (some (some (.ref C))) && (oexB K C && (He.eqO (PySem.W.findIn K (.ref C) "__setattr__") (some (some (.builtin "object.__setattr__"))) && (xfB K C && (He.eqO (PySem.W.findIn K (.ref C) "__class__") (some (some (.builtin "object.__class__"))) &&
    (PySem.W.keepIn K (.ref C) && (decide (PySem.W.typeIn K (.ref C) = some (.type "type")) && ((PySem.W.clsIn K C).any (fun cd => decide (cd.mro = .ref C :: up)) && fs.all fun f => He.eqO (PySem.W.findIn K (.ref C) f) (some none))))))))
structure ClsF (K : PySem.W.Frag) (mg : Str → Option Value) (up : List Value) (x : Str) (fs : List Str) : Prop where
  gl : mg x = some (.ref (He.ga K x))
  ox : OexC K (He.ga K x)
  xf : XfC K (He.ga K x)
  ha : PySem.W.findIn K (.ref (He.ga K x)) "__class__" = some (some (.builtin "object.__class__"))
  mro : ∃ cd, PySem.W.clsIn K (He.ga K x) = some cd ∧ cd.mro = .ref (He.ga K x) :: up
  no : ∀ f ∈ fs, PySem.W.findIn K (.ref (He.ga K x)) f = some none
theorem any_ok {α : Type} {o : Option α} {p : α → Bool} (h : o.any p = true) : ∃ a, o = some a ∧ p a = true := by
  cases o with
  | none => cases h
  | some a => exact ⟨a, rfl, h⟩
theorem clsB_ok {K : PySem.W.Frag} {mg : Str → Option Value} {h : Heap} {up : List Value} {x : Str} {fs : List Str} (X : K.In h) (G : h.Ns mainGlobals mg) (c : clsB K up x fs = true) : ClsF K mg up x fs := by
  unfold clsB at c
  obtain ⟨c1, c⟩ := He.ba c
  obtain ⟨c2, c⟩ := He.ba c
  obtain ⟨c3, c⟩ := He.ba c
  obtain ⟨c4, c⟩ := He.ba c
  obtain ⟨c5, c⟩ := He.ba c
  obtain ⟨c6, c⟩ := He.ba c
  obtain ⟨c7, c⟩ := He.ba c
  obtain ⟨c8, c9⟩ := He.ba c
  have XF := xfB_ok c4
  obtain ⟨cd, hc, hm⟩ := any_ok c8
  exact ⟨PySem.W.mg_of X G (He.eqO_ok c1), ⟨oexB_ok c2, He.eqO_ok c3, XF.exC, of_decide_eq_true c7, c6⟩, XF, He.eqO_ok c5, ⟨cd, hc, of_decide_eq_true hm⟩, fun f hf => He.eqO_ok (List.all_eq_true.mp c9 f hf)⟩
def initB (K : PySem.W.Frag) (x : Str) : Bool := He.eqO (PySem.W.findIn K (.ref (He.ga K x)) "__init__") (some (some (.ref (He.fAd K (x, some "__init__"))))) && decide (PySem.W.typeIn K (.ref (He.fAd K (x, some "__init__"))) = some (.type "function"))
section
variable {K : PySem.W.Frag} {mg : Str → Option Value} {fd : FuncData}
theorem vals_app {vs zs : List V} {us ws : List Value} (a : Vals vs us) (b : Vals zs ws) : Vals (vs ++ zs) (us ++ ws) := a.append b
theorem vals_rev : ∀ {vs : List V} {us : List Value}, Vals vs us → Vals vs.reverse us.reverse
  | _, _, .nil => .nil
  | _, _, .cons r t => by
    rw [List.reverse_cons, List.reverse_cons]
    exact (vals_rev t).append (.cons r .nil)
theorem ec1_of {x f qual : Str} {params : Arguments} {scope : Scope} {up : List Value} {fs : List Str} {p1 p2 p3 p4 : Pos} (c : ClsF K mg up x fs) (hf : f ∈ fs) (hi : initB K x = true)
    (F : FunD K "__init__" qual params [.Assign [.Attribute (.Name "self" p1) f p2] (.Name f p3) p4] scope [] [] (He.fAd K (x, some "__init__")) fd) (S : FnScope ["self", f] ["self", f] scope) (hd : (f == ("__debug__" : Str)) = false) (hc : (f == ("__classdict__" : Str)) = false)
    (b1 : ∀ (kV doc pm : Value) (an : Option Addr) (cdv ct : Value) (us ws : List Value), us.length = 2 → ws.length = ([] : List Str).length → bindArgs (PySem.W.fnOf "__init__" qual params [.Assign [.Attribute (.Name "self" p1) f p2] (.Name f p3) p4] scope .none kV doc pm an cdv ct) ⟨us, ([] : List Str).zip ws⟩ = pure ((["self", f] : List Str).zip us))
    (b2 : ∀ (kV doc pm : Value) (an : Option Addr) (cdv ct : Value) (us ws : List Value), us.length = 1 → ws.length = [f].length → bindArgs (PySem.W.fnOf "__init__" qual params [.Assign [.Attribute (.Name "self" p1) f p2] (.Name f p3) p4] scope .none kV doc pm an cdv ct) ⟨us, [f].zip ws⟩ = pure ((["self", f] : List Str).zip (us ++ ws))) : Ec1 K mg x f (He.ga K x) := by
  obtain ⟨i1, i2⟩ := He.ba hi
  exact ⟨c.ox, c.gl, c.no f hf, _, fd, He.eqO_ok i1, of_decide_eq_true i2, fun P w base => ok_init1 F S hd hc, kbn_of F 2 [] (fun us ws => us) (fun a _ => a) b1, kbn_of F 1 [f] (fun us ws => us ++ ws) (fun a b => a.append b) b2⟩
theorem ec2_of {x f g qual : Str} {params : Arguments} {scope : Scope} {up : List Value} {fs : List Str} {p1 p2 p3 p4 q1 q2 q3 q4 : Pos} (c : ClsF K mg up x fs) (hf : f ∈ fs) (hg : g ∈ fs) (hi : initB K x = true)
    (F : FunD K "__init__" qual params [.Assign [.Attribute (.Name "self" p1) f p2] (.Name f p3) p4, .Assign [.Attribute (.Name "self" q1) g q2] (.Name g q3) q4] scope [] [] (He.fAd K (x, some "__init__")) fd) (S : FnScope ["self", f, g] ["self", f, g] scope)
    (hd : (f == ("__debug__" : Str)) = false) (hc : (f == ("__classdict__" : Str)) = false) (hd2 : (g == ("__debug__" : Str)) = false) (hc2 : (g == ("__classdict__" : Str)) = false)
    (b1 : ∀ (kV doc pm : Value) (an : Option Addr) (cdv ct : Value) (us ws : List Value), us.length = 3 → ws.length = ([] : List Str).length → bindArgs (PySem.W.fnOf "__init__" qual params [.Assign [.Attribute (.Name "self" p1) f p2] (.Name f p3) p4, .Assign [.Attribute (.Name "self" q1) g q2] (.Name g q3) q4] scope .none kV doc pm an cdv ct) ⟨us, ([] : List Str).zip ws⟩ = pure ((["self", f, g] : List Str).zip us))
    (b2 : ∀ (kV doc pm : Value) (an : Option Addr) (cdv ct : Value) (us ws : List Value), us.length = 1 → ws.length = [g, f].length → bindArgs (PySem.W.fnOf "__init__" qual params [.Assign [.Attribute (.Name "self" p1) f p2] (.Name f p3) p4, .Assign [.Attribute (.Name "self" q1) g q2] (.Name g q3) q4] scope .none kV doc pm an cdv ct) ⟨us, [g, f].zip ws⟩ = pure ((["self", f, g] : List Str).zip (us ++ ws.reverse))) : Ec2 K mg x f g (He.ga K x) := by
  obtain ⟨i1, i2⟩ := He.ba hi
  exact ⟨c.ox, c.gl, c.no f hf, c.no g hg, _, fd, He.eqO_ok i1, of_decide_eq_true i2, fun P w base => ok_init2 F S hd hc hd2 hc2, kbn_of F 3 [] (fun us ws => us) (fun a _ => a) b1, kbn_of F 1 [g, f] (fun us ws => us ++ ws.reverse) (fun a b => a.append (vals_rev b)) b2⟩
abbrev UpT (K : PySem.W.Frag) : List Value := .ref (He.ga K "TaskError") :: tailV
end
/-! ### the head's part: the module's names, the classes' dicts, the functions, their code -/
def as1 (g : Addr → Option Obj) : List Addr := match g mainGlobals with
  | some ⟨_, _, .dict es _, _⟩ => es.toList.flatMap fun e => He.refV e.val
  | _ => []
def as2 (g : Addr → Option Obj) : List Addr := (as1 g).flatMap fun a => match g a with
  | some ⟨_, _, .cls cd, _⟩ => [cd.ns]
  | some ⟨_, _, .func fd, _⟩ => He.refV fd.code
  | _ => []
def as3 (g : Addr → Option Obj) : List Addr := (as2 g).flatMap fun a => match g a with
  | some ⟨_, _, .dict es _, _⟩ => es.toList.flatMap fun e => (match e.val with
    | .ref b => (match g b with
      | some ⟨_, _, .func _, _⟩ => [b]
      | _ => [])
    | _ => [])
  | _ => []
def as4 (g : Addr → Option Obj) : List Addr := (as3 g).flatMap fun a => match g a with
  | some ⟨_, _, .func fd, _⟩ => He.refV fd.code
  | _ => []
def asX (g : Addr → Option Obj) : List Addr := mainGlobals :: sysModules :: (as1 g ++ (as2 g ++ (as3 g ++ as4 g)))
def nodB : List Addr → Bool
  | [] => true
  | a :: r => !r.contains a && nodB r
theorem nodB_ok : ∀ {l : List Addr}, nodB l = true → l.Nodup
  | [], _ => List.nodup_nil
  | a :: r, h => by
    obtain ⟨h1, h2⟩ := He.ba h
    refine List.nodup_cons.mpr ⟨fun z => ?_, nodB_ok h2⟩
    rw [Bool.not_eq_true'] at h1
    have : r.contains a = true := List.contains_iff_mem.mpr z
    rw [h1] at this
    cases this
def codeHdB (o : Obj) (c P : Addr) : Bool := match o with
  | ⟨.type t, _, .fields vs, _⟩ => decide (t = "code") && ((match (vs[11]? : Option Value) with
      | some (.ref Q) => decide (Q = P)
      | _ => false) && ((match vs.getD 18 .none with
      | .str _ _ => true
      | _ => false) && ((match vs.getD 7 .none with
      | .int _ _ => true
      | _ => false) && ((match vs.getD 9 .none with
      | .bool _ => true
      | _ => false) && ((match vs.getD 10 .none with
      | .int _ _ => true
      | _ => false) && !decide (c = P))))))
  | _ => false
theorem codeHdB_ok {h : Heap} {o : Obj} {c P : Addr} (e : h.get? c = some o) (b : codeHdB o c P = true) : PySem.W.CodeHd h c P := by
  unfold codeHdB at b
  split at b
  · rename_i t dd vs sl
    obtain ⟨b1, b⟩ := He.ba b
    obtain ⟨b2, b⟩ := He.ba b
    obtain ⟨b3, b⟩ := He.ba b
    obtain ⟨b4, b⟩ := He.ba b
    obtain ⟨b5, b⟩ := He.ba b
    obtain ⟨b6, b7⟩ := He.ba b
    have ht : t = "code" := of_decide_eq_true b1
    subst ht
    split at b2
    · rename_i Q hq
      have hQ : Q = P := of_decide_eq_true b2
      subst hQ
      split at b3
      · rename_i file tf h18
        split at b4
        · rename_i fl tg h7
          split at b5
          · rename_i inF h9
            split at b6
            · rename_i tx tt h10
              refine ⟨_, vs, file, tf, fl, tg, inF, tx, tt, e, rfl, rfl, hq, ?_, h18, h7, h9, h10, ?_⟩
              · rw [Array.getD_eq_getD_getElem?, hq]
                rfl
              · simpa using b7
            · cases b6
          · cases b5
        · cases b4
      · cases b3
    · cases b2
  · cases b
def tabOf (K : PySem.W.Frag) (x : Str) : Addr × Addr := match codeOf K (He.ga K x) with
  | some (.ref c) => (match K.lookup c with
    | some ⟨_, _, .fields vs, _⟩ => (match (vs[11]? : Option Value) with
      | some (.ref P) => (c, P)
      | _ => (0, 0))
    | _ => (0, 0))
  | _ => (0, 0)
def isRef (o : Option Value) (c : Addr) : Bool := match o with
  | some (.ref d) => decide (d = c)
  | _ => false
theorem isRef_ok {o : Option Value} {c : Addr} (h : isRef o c = true) : o = some (.ref c) := by
  unfold isRef at h
  split at h
  · rename_i d
    have e : d = c := of_decide_eq_true h
    rw [e]
  · cases h
def emptyB (o : Option Obj) : Bool := match o with
  | some ⟨.none, none, .fields vs, sl⟩ => vs.isEmpty && sl.isEmpty
  | _ => false
theorem emptyB_ok {o : Option Obj} (h : emptyB o = true) : o = some { cls := .none, data := .fields #[] } := by
  unfold emptyB at h
  split at h
  · rename_i vs sl
    obtain ⟨h1, h2⟩ := He.ba h
    rw [Array.isEmpty_iff.mp h1, Array.isEmpty_iff.mp h2]
  · cases h
def tabB (K : PySem.W.Frag) (g : Addr → Option Obj) (x : Str) : Bool := isRef (codeOf K (He.ga K x)) (tabOf K x).1 && ((match K.lookup (tabOf K x).1 with
  | some o => codeHdB o (tabOf K x).1 (tabOf K x).2
  | none => false) && ((K.lookup (tabOf K x).2).isNone && emptyB (g (tabOf K x).2)))
structure TabH (K : PySem.W.Frag) (h : Heap) (x : Str) : Prop where
  co : codeOf K (He.ga K x) = some (.ref (tabOf K x).1)
  hd : PySem.W.CodeHd h (tabOf K x).1 (tabOf K x).2
  no : K.lookup (tabOf K x).2 = none
  em : h.get? (tabOf K x).2 = some { cls := .none, data := .fields #[] }
theorem tabB_ok {K : PySem.W.Frag} {h : Heap} {x : Str} (X : K.In h) (b : tabB K h.get? x = true) : TabH K h x := by
  obtain ⟨b1, b⟩ := He.ba b
  obtain ⟨b2, b⟩ := He.ba b
  obtain ⟨b3, b4⟩ := He.ba b
  split at b2
  · rename_i o ho
    exact ⟨isRef_ok b1, codeHdB_ok (X _ _ ho) b2, Option.isNone_iff_eq_none.mp b3, emptyB_ok b4⟩
  · cases b2
section
variable (fa : List He.Fa) (fn : List He.DefD) (mk : List Str) (nms : List (Str × List Str))
def clsAll (K : PySem.W.Frag) : Bool := clsB K tailV "TaskError" [] && (nms.all (fun p => clsB K (UpT K) p.1 p.2 && initB K p.1) && (K.lookup sysModules).isSome)
def obsX (g : Addr → Option Obj) (K : PySem.W.Frag) : Bool × He.AlD := (clsAll nms K && (mk.all (fun x => tabB K g x) && nodB (mk.map fun x => (tabOf K x).2)), He.obsD fa fn K)
structure SayX (h : Heap) (K : PySem.W.Frag) : Prop where
  inh : K.In h
  cls : clsAll nms K = true
  tab : ∀ x ∈ mk, TabH K h x
  nod : (mk.map fun x => (tabOf K x).2).Nodup
  say : He.SaysD fa fn K
def hkX : PySem.W.Hook where
  α := Bool × He.AlD
  obs := fun s => obsX fa fn mk nms s.heap.get? (He.frG s.heap.get? (asX s.heap.get?))
  val := fun _ => (true, He.valD fn)
  says := fun _ h => ∃ K, SayX fa fn mk nms h K
  of := fun _ s e => by
    have e1 := congrArg Prod.fst e
    have e2 := congrArg Prod.snd e
    obtain ⟨c1, c2⟩ := He.ba e1
    obtain ⟨c2, c3⟩ := He.ba c2
    exact ⟨_, He.frG_in, c1, fun x hx => tabB_ok He.frG_in (List.all_eq_true.mp c2 x hx), nodB_ok c3, e2⟩
  keeps := fun _ h h' ⟨K, s⟩ k => ⟨K, PySem.W.Frag.In.keeps s.inh k, s.cls, fun x hx => ⟨(s.tab x hx).co, (s.tab x hx).hd.keeps k, (s.tab x hx).no, k _ _ (s.tab x hx).em⟩, s.nod, s.say⟩
def obX (s : PySem.W.SharedT) : Bool × He.AlD := obsX fa fn mk nms (HandSHeadRun.getT s) (He.frG (HandSHeadRun.getT s) (asX (HandSHeadRun.getT s)))
theorem obX_eq (s : PySem.W.SharedT) : obX fa fn mk nms s = (hkX fa fn mk nms).obs s.abs := by
  have e : HandSHeadRun.getT s = s.abs.heap.get? := funext (HandSHeadRun.getT_eq s)
  unfold obX
  rw [e]
  rfl
end
section
variable {fa : List He.Fa} {fn : List He.DefD} {mk : List Str} {nms : List (Str × List Str)} {h : Heap} {K : PySem.W.Frag} {mg : Str → Option Value}
theorem SayX.fact (s : SayX fa fn mk nms h K) {f : He.Fa} (hf : f ∈ fa) : f.ok K = true := by
  obtain ⟨i, hi⟩ := List.mem_iff_getElem?.mp hf
  exact s.say.fact i hi
theorem SayX.fd (s : SayX fa fn mk nms h K) {d : He.DefD} (hd : d ∈ fn) : ∃ fd, FunD K d.name d.qual d.params d.body d.scope (d.dvs K) (d.kws K) (He.fAd K d.at_) fd := by
  obtain ⟨i, hi⟩ := List.mem_iff_getElem?.mp hd
  exact s.say.def_ i hi
theorem SayX.glo (s : SayX fa fn mk nms h K) (G : h.Ns mainGlobals mg) {x : Str} (hf : He.Fa.glo x ∈ fa) : mg x = some (.ref (He.ga K x)) := He.glo_ok s.inh G (s.fact hf)
theorem SayX.free (s : SayX fa fn mk nms h K) (G : h.Ns mainGlobals mg) {x : Str} (hf : He.Fa.free x ∈ fa) : mg x = none := He.free_ok s.inh G (s.fact hf)
theorem SayX.te (s : SayX fa fn mk nms h K) (G : h.Ns mainGlobals mg) : ClsF K mg tailV "TaskError" [] := clsB_ok s.inh G (He.ba s.cls).1
theorem SayX.exc (s : SayX fa fn mk nms h K) (G : h.Ns mainGlobals mg) {p : Str × List Str} (hp : p ∈ nms) : ClsF K mg (UpT K) p.1 p.2 ∧ initB K p.1 = true := by
  have z := List.all_eq_true.mp (He.ba (He.ba s.cls).2).1 p hp
  exact ⟨clsB_ok s.inh G (He.ba z).1, (He.ba z).2⟩
theorem SayX.sm (s : SayX fa fn mk nms h K) : (K.lookup sysModules).isSome = true := (He.ba (He.ba s.cls).2).2
end
/-- a def's parameters, bound by place -/
theorem binds0 {K : PySem.W.Frag} {x qual : Str} {params : Arguments} {body : List Stmt} {scope : Scope} {f : Addr} {fd : FuncData} {ps : List Str} (F : FunD K x qual params body scope [] [] f fd)
    (h : ∀ (kV doc pm : Value) (an : Option Addr) (cdv ct : Value) (us : List Value), us.length = ps.length → bindArgs (PySem.W.fnOf x qual params body scope .none kV doc pm an cdv ct) ⟨us, []⟩ = pure (ps.zip us)) : Binds K fd ps [] := by
  obtain ⟨oc, od, dV, kV, doc, pm, an, cdv, ct, osl, rfl, lk, hcd, hD, hK⟩ := F.ex
  rcases hD with ⟨_, rfl⟩ | ⟨e, _⟩
  · exact fun s us _ hl => by
      rw [List.append_nil] at hl ⊢
      exact .of_eq (h kV doc pm an cdv ct us hl)
  · exact absurd rfl e
end GX


/-! the facts of the law's head (printed by genend.py) -/
namespace K35
open PySem PySem.Spec PyProof.Rows L2 LamX LamV XK0
def fD (x : Str) (t : Nat) : He.DefD := ⟨(x, none), x, x, defArgs (TH.top t), defBody (TH.top t), defScope (TH.top t), [], []⟩
def mD (x m q : Str) (t j : Nat) : He.DefD := ⟨(x, some m), m, q, defArgs (inClass (TH.top t) j), defBody (inClass (TH.top t) j), defScope (inClass (TH.top t) j), [], []⟩
def fnF : List He.DefD := [fD "is_list" 3, fD "is_pair" 4, fD "is_word" 5, fD "first_bad_word" 6, fD "is_lead" 16, fD "first_wrong" 17, fD "ordered" 18, fD "lots_of" 21, fD "check_entry" 23, fD "names_of" 24, fD "checked_names" 25, fD "led_to" 26, fD "rows_from" 27, fD "first_open" 28, fD "shut_rows" 29, fD "uses_within" 30, fD "shut_pieces" 31, fD "ring_along" 32, fD "shut_ring" 33, fD "goes_along" 34, fD "is_shut_ring" 35, fD "is_within" 36, fD "idle_lots" 37, fD "helpers_of" 38, fD "_law_spring" 40, fD "_law_take" 41, fD "_law_one" 42, fD "_law_mix" 43, fD "_law_thing" 44, fD "_law_made" 45, fD "_law_names" 46, fD "_law_led" 47, fD "_law_first" 48, fD "_law_met" 49, fD "_law_refused" 50, fD "law" 51]
def fnI : List He.DefD := [mD "NoEntryName" "__init__" "NoEntryName.__init__" 13 0, mD "BadNames" "__init__" "BadNames.__init__" 14 0, mD "Thing" "__init__" "Thing.__init__" 19 0, mD "Thing" "start" "Thing.start" 19 2, mD "Thing" "deeds" "Thing.deeds" 19 3, mD "Thing" "entries" "Thing.entries" 19 4]
def fn : List He.DefD := fnF ++ fnI
def fa : List He.Fa := [.glo "is_list", .glo "is_pair", .glo "is_word", .glo "first_bad_word", .glo "is_lead", .glo "first_wrong", .glo "ordered", .glo "lots_of", .glo "check_entry", .glo "names_of", .glo "checked_names", .glo "led_to", .glo "rows_from", .glo "first_open", .glo "shut_rows", .glo "uses_within", .glo "shut_pieces", .glo "ring_along", .glo "shut_ring", .glo "goes_along", .glo "is_shut_ring", .glo "is_within", .glo "idle_lots", .glo "helpers_of", .glo "_law_spring", .glo "_law_take", .glo "_law_one", .glo "_law_mix", .glo "_law_thing", .glo "_law_made", .glo "_law_names", .glo "_law_led", .glo "_law_first", .glo "_law_met", .glo "_law_refused", .glo "law", .free "isinstance", .free "list", .free "tuple", .free "str", .free "len", .free "all", .free "enumerate", .free "sorted", .free "dict", .free "range", .free "repr", .free "int", .free "abs", .str "LETTERS" "abcdefghijklmnopqrstuvwxyz", .glo "Thing", .cls "Thing", .mkr "Thing", .noat "Thing" "kept_values", .noat "Thing" "kept_start", .noat "Thing" "kept_deeds", .noat "Thing" "kept_entries", .meth "Thing" "start", .meth "Thing" "deeds", .meth "Thing" "entries", .exm "NoEntryName" "NoEntryName" true, .exm "NoEntryName" "BadNames" false, .exm "BadNames" "NoEntryName" false, .exm "BadNames" "BadNames" true]
def mk : List Str := ["first_open", "_law_refused"]
def nms : List (Str × List Str) := [("NoEntryName", ["entry"]), ("BadNames", ["index"])]
abbrev hk : PySem.W.Hook := GX.hkX fa fn mk nms
end K35

namespace K35
open PySem PySem.Spec PyProof.Rows L2 LamX LamV XK0 TH
theorem law_all {P : Program} {w : World} {h base : Heap} {K : PySem.W.Frag} {mg : Str → Option Value} (S : GX.SayX fa fn mk nms h K) (G : h.Ns mainGlobals mg) {T : List (Addr × Str)} {c1 P1 c2 P2 : Addr} (t1 : codeOf K (He.fAd K ("first_open", none)) = some (.ref c1)) (t2 : codeOf K (He.fAd K ("_law_refused", none)) = some (.ref c2))
    (TB1 : TabB base mg c1 P1) (TB2 : TabB base mg c2 P2) (m1 : (P1, TH.lamQ) ∈ T) (u1 : ∀ p ∈ T, p.1 = P1 → p.2 = TH.lamQ) (m2 : (P2, TH.lamR) ∈ T) (u2 : ∀ p ∈ T, p.1 = P2 → p.2 = TH.lamR) :
    ∃ fd, FnP K "law" (TH.top 51) (He.fAd K ("law", none)) fd ∧ FnOkG P w K mg base CX0 9 (He.fAd K ("law", none)) fd ["_law_script"] (TH.spLaw K T) := by
  have fr : ∀ x, x ∈ (["isinstance", "list", "tuple", "str", "len", "all", "enumerate", "sorted", "dict", "range", "repr", "int", "abs"] : List Str) → mg x = none := fun x hx => by
    simp only [List.mem_cons, List.mem_nil_iff, or_false] at hx
    rcases hx with rfl | rfl | rfl | rfl | rfl | rfl | rfl | rfl | rfl | rfl | rfl | rfl | rfl <;> exact S.free G (by simp [fa])
  obtain ⟨tL, gL⟩ := He.str_ok S.inh G (S.fact (f := .str "LETTERS" "abcdefghijklmnopqrstuvwxyz") (by simp [fa]))
  let C : Addr := He.ga K "Thing"
  let CN : Addr := He.ga K "NoEntryName"
  let CB : Addr := He.ga K "BadNames"
  have TC : ThC K C := ⟨He.cls_ok (S.fact (f := .cls "Thing") (by simp [fa])), He.noat_ok (S.fact (f := .noat "Thing" "kept_values") (by simp [fa])), He.noat_ok (S.fact (f := .noat "Thing" "kept_start") (by simp [fa])), He.noat_ok (S.fact (f := .noat "Thing" "kept_deeds") (by simp [fa])), He.noat_ok (S.fact (f := .noat "Thing" "kept_entries") (by simp [fa]))⟩
  obtain ⟨xN, iN⟩ := S.exc G (p := ("NoEntryName", ["entry"])) (by simp [nms])
  obtain ⟨xB, iB⟩ := S.exc G (p := ("BadNames", ["index"])) (by simp [nms])
  obtain ⟨dN, hN⟩ := S.fd (d := mD "NoEntryName" "__init__" "NoEntryName.__init__" 13 0) (by simp [fn, fnI])
  obtain ⟨dB, hB⟩ := S.fd (d := mD "BadNames" "__init__" "BadNames.__init__" 14 0) (by simp [fn, fnI])
  have EN : Ec1 K mg "NoEntryName" "entry" CN := GX.ec1_of xN (by simp) iN hN ⟨rfl, rfl, rfl, by decide +kernel, rfl, by decide +kernel, by decide +kernel⟩ (by decide) (by decide) (fun _ _ _ _ _ _ us ws hl _ => match us, hl with | [_, _], _ => rfl) (fun _ _ _ _ _ _ us ws hl hw => match us, hl, ws, hw with | [_], _, [_], _ => rfl)
  have EB : Ec1 K mg "BadNames" "index" CB := GX.ec1_of xB (by simp) iB hB ⟨rfl, rfl, rfl, by decide +kernel, rfl, by decide +kernel, by decide +kernel⟩ (by decide) (by decide) (fun _ _ _ _ _ _ us ws hl _ => match us, hl with | [_, _], _ => rfl) (fun _ _ _ _ _ _ us ws hl hw => match us, hl, ws, hw with | [_], _, [_], _ => rfl)
  have MC : MetC K mg CN CB := ⟨xN.gl, xB.gl, xN.xf, xB.xf, xN.no _ (by simp), xB.no _ (by simp), He.exm_ok (S.fact (f := .exm "NoEntryName" "NoEntryName" true) (by simp [fa])), He.exm_ok (S.fact (f := .exm "BadNames" "NoEntryName" false) (by simp [fa])), He.exm_ok (S.fact (f := .exm "BadNames" "BadNames" true) (by simp [fa]))⟩
  obtain ⟨dil, hil⟩ := S.fd (d := fD "is_list" 3) (by simp [fn, fnF])
  have Hil : Has P w K mg base "is_list" 1 ["thing"] (spIsList K) := ⟨_, dil, S.glo G (by simp [fa]), hil.kp, GX.binds0 hil (fun _ _ _ _ _ _ us hl => match us, hl with | [_], _ => rfl), ok_is_list hil (fr "isinstance" (by simp)) (fr "list" (by simp)) (fr "tuple" (by simp))⟩
  obtain ⟨diw, hiw⟩ := S.fd (d := fD "is_word" 5) (by simp [fn, fnF])
  have Hiw : Has P w K mg base "is_word" 1 ["thing"] (spIsWord K) := ⟨_, diw, S.glo G (by simp [fa]), hiw.kp, GX.binds0 hiw (fun _ _ _ _ _ _ us hl => match us, hl with | [_], _ => rfl), ok_is_word hiw (fr "isinstance" (by simp)) (fr "str" (by simp)) (fr "len" (by simp)) (fr "all" (by simp)) gL⟩
  obtain ⟨dfb, hfb⟩ := S.fd (d := fD "first_bad_word" 6) (by simp [fn, fnF])
  have Hfb : Has P w K mg base "first_bad_word" 2 ["things", "barred"] (spFirstBad K) := ⟨_, dfb, S.glo G (by simp [fa]), hfb.kp, GX.binds0 hfb (fun _ _ _ _ _ _ us hl => match us, hl with | [_, _], _ => rfl), ok_first_bad hfb Hil Hiw (fr "list" (by simp)) (fr "enumerate" (by simp))⟩
  obtain ⟨dno, hno⟩ := S.fd (d := fD "names_of" 24) (by simp [fn, fnF])
  have Hno : Has P w K mg base "names_of" 1 ["thing"] (spNamesOf C) := ⟨_, dno, S.glo G (by simp [fa]), hno.kp, GX.binds0 hno (fun _ _ _ _ _ _ us hl => match us, hl with | [_], _ => rfl), ok_names_of hno TC (fr "sorted" (by simp))⟩
  obtain ⟨dlt, hlt⟩ := S.fd (d := fD "led_to" 26) (by simp [fn, fnF])
  have Hlt : Has P w K mg base "led_to" 1 ["thing", "worth", "name"] (spLedTo C) := ⟨_, dlt, S.glo G (by simp [fa]), hlt.kp, GX.binds0 hlt (fun _ _ _ _ _ _ us hl => match us, hl with | [_, _, _], _ => rfl), ok_led_to hlt TC⟩
  obtain ⟨drf, hrf⟩ := S.fd (d := fD "rows_from" 27) (by simp [fn, fnF])
  have Hrf : Has P w K mg base "rows_from" 2 ["thing", "begin", "names", "is_let"] (spRowsFrom P w K mg base C) := ⟨_, drf, S.glo G (by simp [fa]), hrf.kp, GX.binds0 hrf (fun _ _ _ _ _ _ us hl => match us, hl with | [_, _, _, _], _ => rfl), ok_rows_from hrf Hlt⟩
  obtain ⟨dce, hce⟩ := S.fd (d := fD "check_entry" 23) (by simp [fn, fnF])
  have Hce : Has P w K mg base "check_entry" 2 ["thing", "entry"] (spCheckEntry K C) := ⟨_, dce, S.glo G (by simp [fa]), hce.kp, GX.binds0 hce (fun _ _ _ _ _ _ us hl => match us, hl with | [_, _], _ => rfl), ok_check_entry hce TC Hiw⟩
  obtain ⟨dcn, hcn⟩ := S.fd (d := fD "checked_names" 25) (by simp [fn, fnF])
  have Hcn : Has P w K mg base "checked_names" 3 ["names", "known"] (spCheckedNames K) := ⟨_, dcn, S.glo G (by simp [fa]), hcn.kp, GX.binds0 hcn (fun _ _ _ _ _ _ us hl => match us, hl with | [_, _], _ => rfl), ok_checked_names hcn Hfb (fr "list" (by simp)) (fr "enumerate" (by simp))⟩
  obtain ⟨dfo, hfo⟩ := S.fd (d := fD "first_open" 28) (by simp [fn, fnF])
  have Hfo : Has P w K mg base "first_open" 4 ["thing", "entry", "names"] (spFirstOpen K C T) := ⟨_, dfo, S.glo G (by simp [fa]), hfo.kp, GX.binds0 hfo (fun _ _ _ _ _ _ us hl => match us, hl with | [_, _, _], _ => rfl), ok_first_open hfo t1 TB1 m1 u1 TC Hce Hcn Hno Hrf (fr "sorted" (by simp)) (fr "list" (by simp))⟩
  have HceX : HasX P w K mg base "check_entry" 3 ["thing", "entry"] (spCheckEntryX K C CN) := ⟨_, dce, S.glo G (by simp [fa]), hce.kp, GX.binds0 hce (fun _ _ _ _ _ _ us hl => match us, hl with | [_, _], _ => rfl), ok_check_entryX hce TC EN Hiw⟩
  have HcnX : HasX P w K mg base "checked_names" 3 ["names", "known"] (spCNX K CB) := ⟨_, dcn, S.glo G (by simp [fa]), hcn.kp, GX.binds0 hcn (fun _ _ _ _ _ _ us hl => match us, hl with | [_, _], _ => rfl), ok_checked_namesX hcn EB Hfb Hil (fr "list" (by simp)) (fr "enumerate" (by simp))⟩
  obtain ⟨didX, hidX⟩ := S.fd (d := fD "idle_lots" 37) (by simp [fn, fnF])
  have HidX : HasX P w K mg base "idle_lots" 4 ["thing", "entry"] (spF2X K C CN) := ⟨_, didX, S.glo G (by simp [fa]), hidX.kp, GX.binds0 hidX (fun _ _ _ _ _ _ us hl => match us, hl with | [_, _], _ => rfl), ok_idle_lotsX hidX HceX⟩
  obtain ⟨dhpX, hhpX⟩ := S.fd (d := fD "helpers_of" 38) (by simp [fn, fnF])
  have HhpX : HasX P w K mg base "helpers_of" 5 ["thing", "entry"] (spF2X K C CN) := ⟨_, dhpX, S.glo G (by simp [fa]), hhpX.kp, GX.binds0 hhpX (fun _ _ _ _ _ _ us hl => match us, hl with | [_, _], _ => rfl), ok_helpers_ofX hhpX HidX⟩
  have HfoX : HasX P w K mg base "first_open" 4 ["thing", "entry", "names"] (spF3X K C CN CB allNames) := ⟨_, dfo, S.glo G (by simp [fa]), hfo.kp, GX.binds0 hfo (fun _ _ _ _ _ _ us hl => match us, hl with | [_, _, _], _ => rfl), ok_first_openX hfo HceX HcnX Hno (fr "sorted" (by simp))⟩
  obtain ⟨dsrX, hsrX⟩ := S.fd (d := fD "shut_ring" 33) (by simp [fn, fnF])
  have HsrX : HasX P w K mg base "shut_ring" 4 ["thing", "entry", "names"] (spF3X K C CN CB lessNames) := ⟨_, dsrX, S.glo G (by simp [fa]), hsrX.kp, GX.binds0 hsrX (fun _ _ _ _ _ _ us hl => match us, hl with | [_, _, _], _ => rfl), ok_shut_ringX hsrX HceX HcnX Hno⟩
  obtain ⟨disX, hisX⟩ := S.fd (d := fD "is_shut_ring" 35) (by simp [fn, fnF])
  have HisX : HasX P w K mg base "is_shut_ring" 4 ["thing", "entry", "names", "pair"] (spF4X K C CN CB lessNames) := ⟨_, disX, S.glo G (by simp [fa]), hisX.kp, GX.binds0 hisX (fun _ _ _ _ _ _ us hl => match us, hl with | [_, _, _, _], _ => rfl), ok_is_shut_ringX hisX HceX HcnX Hno⟩
  obtain ⟨dld, hld⟩ := S.fd (d := fD "is_lead" 16) (by simp [fn, fnF])
  have Hld : Has P w K mg base "is_lead" 2 ["thing", "known", "is_whole"] (spIsLead K) := ⟨_, dld, S.glo G (by simp [fa]), hld.kp, GX.binds0 hld (fun _ _ _ _ _ _ us hl => match us, hl with | [_, _, _], _ => rfl), ok_is_lead hld Hiw (fr "isinstance" (by simp)) (fr "dict" (by simp)) (fr "len" (by simp))⟩
  obtain ⟨dfw, hfw⟩ := S.fd (d := fD "first_wrong" 17) (by simp [fn, fnF])
  have Hfw : Has P w K mg base "first_wrong" 3 ["leads", "known", "barred", "is_whole"] (spFirstWrong K) := ⟨_, dfw, S.glo G (by simp [fa]), hfw.kp, GX.binds0 hfw (fun _ _ _ _ _ _ us hl => match us, hl with | [_, _, _, _], _ => rfl), ok_first_wrong hfw Hiw Hld (fr "isinstance" (by simp)) (fr "dict" (by simp))⟩
  obtain ⟨dod, hod⟩ := S.fd (d := fD "ordered" 18) (by simp [fn, fnF])
  have Hod : Has P w K mg base "ordered" 1 ["leads", "known"] (spOrdered K) := ⟨_, dod, S.glo G (by simp [fa]), hod.kp, GX.binds0 hod (fun _ _ _ _ _ _ us hl => match us, hl with | [_, _], _ => rfl), ok_ordered hod (fr "sorted" (by simp))⟩
  obtain ⟨dI, hI⟩ := S.fd (d := mD "Thing" "__init__" "Thing.__init__" 19 0) (by simp [fn, fnI])
  have bI : Binds K dI ["self", "values", "start", "deeds", "entries"] [] := GX.binds0 hI (fun _ _ _ _ _ _ us hl => match us, hl with | [_, _, _, _, _], _ => rfl)
  have OI : FnOk P w K mg base CX0 4 (He.fAd K ("Thing", some "__init__")) dI ["self", "values", "start", "deeds", "entries"] (spInit K C) := ok_init hI TC Hfb Hiw Hfw Hod (fr "len" (by simp)) (fr "tuple" (by simp)) (fr "list" (by simp))
  obtain ⟨dsp, hsp⟩ := S.fd (d := fD "_law_spring" 40) (by simp [fn, fnF])
  have Hsp : Has P w K mg base "_law_spring" 1 ["_law_script"] (spSpring K) := ⟨_, dsp, S.glo G (by simp [fa]), hsp.kp, GX.binds0 hsp (fun _ _ _ _ _ _ us hl => match us, hl with | [_], _ => rfl), ok_spring hsp (fr "list" (by simp))⟩
  obtain ⟨dtk, htk⟩ := S.fd (d := fD "_law_take" 41) (by simp [fn, fnF])
  have Htk : Has P w K mg base "_law_take" 1 ["_law_spring_here", "_law_many"] (spTake) := ⟨_, dtk, S.glo G (by simp [fa]), htk.kp, GX.binds0 htk (fun _ _ _ _ _ _ us hl => match us, hl with | [_, _], _ => rfl), ok_take htk (fr "int" (by simp)) (fr "abs" (by simp))⟩
  obtain ⟨don, hon⟩ := S.fd (d := fD "_law_one" 42) (by simp [fn, fnF])
  have Hon : Has P w K mg base "_law_one" 2 ["_law_spring_here", "_law_things"] (spOne) := ⟨_, don, S.glo G (by simp [fa]), hon.kp, GX.binds0 hon (fun _ _ _ _ _ _ us hl => match us, hl with | [_, _], _ => rfl), ok_one hon Htk (fr "len" (by simp))⟩
  obtain ⟨dmx, hmx⟩ := S.fd (d := fD "_law_mix" 43) (by simp [fn, fnF])
  have Hmx : Has P w K mg base "_law_mix" 2 ["_law_spring_here", "_law_things"] (spMix K) := ⟨_, dmx, S.glo G (by simp [fa]), hmx.kp, GX.binds0 hmx (fun _ _ _ _ _ _ us hl => match us, hl with | [_, _], _ => rfl), ok_mix hmx Htk (fr "len" (by simp)) (fr "list" (by simp)) (fr "range" (by simp))⟩
  obtain ⟨dth, hth⟩ := S.fd (d := fD "_law_thing" 44) (by simp [fn, fnF])
  have Hth : Has P w K mg base "_law_thing" 3 ["_law_spring_here", "_law_most", "_law_many"] (spThing) := ⟨_, dth, S.glo G (by simp [fa]), hth.kp, GX.binds0 hth (fun _ _ _ _ _ _ us hl => match us, hl with | [_, _, _], _ => rfl), ok_thing hth Htk Hon Hmx (fr "len" (by simp)) (fr "dict" (by simp))⟩
  obtain ⟨dmd, hmd⟩ := S.fd (d := fD "_law_made" 45) (by simp [fn, fnF])
  have Hmd : Has P w K mg base "_law_made" 6 ["_law_parts"] (spMade K C) := ⟨_, dmd, S.glo G (by simp [fa]), hmd.kp, GX.binds0 hmd (fun _ _ _ _ _ _ us hl => match us, hl with | [_], _ => rfl), ok_made hmd (He.mkr_ok (S.fact (f := .mkr "Thing") (by simp [fa]))) (S.glo G (by simp [fa])) bI OI⟩
  obtain ⟨dnm, hnm⟩ := S.fd (d := fD "_law_names" 46) (by simp [fn, fnF])
  have Hnm : Has P w K mg base "_law_names" 1 ["_law_parts"] (spNames) := ⟨_, dnm, S.glo G (by simp [fa]), hnm.kp, GX.binds0 hnm (fun _ _ _ _ _ _ us hl => match us, hl with | [_], _ => rfl), ok_names hnm (fr "sorted" (by simp)) (fr "list" (by simp))⟩
  obtain ⟨dle, hle⟩ := S.fd (d := fD "_law_led" 47) (by simp [fn, fnF])
  have Hle : Has P w K mg base "_law_led" 1 ["_law_parts", "_law_worth", "_law_name"] (spLed) := ⟨_, dle, S.glo G (by simp [fa]), hle.kp, GX.binds0 hle (fun _ _ _ _ _ _ us hl => match us, hl with | [_, _, _], _ => rfl), ok_led hle⟩
  obtain ⟨dlf, hlf⟩ := S.fd (d := fD "_law_first" 48) (by simp [fn, fnF])
  have Hlf : Has P w K mg base "_law_first" 2 ["_law_parts", "_law_entry", "_law_names_here"] (spLawFirst K) := ⟨_, dlf, S.glo G (by simp [fa]), hlf.kp, GX.binds0 hlf (fun _ _ _ _ _ _ us hl => match us, hl with | [_, _, _], _ => rfl), ok_law_first hlf Hle (fr "sorted" (by simp)) (fr "list" (by simp))⟩
  obtain ⟨dmt, hmt⟩ := S.fd (d := fD "_law_met" 49) (by simp [fn, fnF])
  obtain ⟨dre, hre⟩ := S.fd (d := fD "_law_refused" 50) (by simp [fn, fnF])
  obtain ⟨dla, hla⟩ := S.fd (d := fD "law" 51) (by simp [fn, fnF])
  have OR := ok_refused (P := P) (w := w) (base := base) hre t2 TB2 m2 u2 TC MC hmt (S.glo G (by simp [fa])) hmt.kp Htk Hon Hmx Hnm HfoX HsrX HisX HhpX HidX (fr "list" (by simp)) (fr "len" (by simp)) (fr "repr" (by simp)) (fr "tuple" (by simp)) S.sm
  have OL := ok_law (P := P) (w := w) (base := base) hla Hsp Hth Hmd Hmx Hnm Hon Hfo Hlf OR (S.glo G (by simp [fa])) hre.kp (GX.binds0 hre (fun _ _ _ _ _ _ us hl => match us, hl with | [_, _, _], _ => rfl)) (fr "list" (by simp)) (fr "len" (by simp)) (fr "tuple" (by simp)) (fr "range" (by simp))
  exact ⟨dla, hla, OL⟩
end K35

/-! the head's looks, kernel runs (printed by genend.py) -/
namespace K35
open PySem PySem.W PySem.Calls PyProof.Rows
abbrev R : OpenRow := OpenLaw.row PySem.Challenge.rw_meettasks_k35_first_opened
abbrev qv : Program := view R.prog [51]
def n0 : List PySem.Str := [(PySem.Str.ofString "_wall"), (PySem.Str.ofString "is_list"), (PySem.Str.ofString "is_pair"), (PySem.Str.ofString "is_word"), (PySem.Str.ofString "first_bad_word"), (PySem.Str.ofString "TaskError"), (PySem.Str.ofString "BadValues"), (PySem.Str.ofString "BadStart"), (PySem.Str.ofString "BadDeeds"), (PySem.Str.ofString "BadEntries"), (PySem.Str.ofString "NoEntryName"), (PySem.Str.ofString "BadNames"), (PySem.Str.ofString "is_lead"), (PySem.Str.ofString "first_wrong"), (PySem.Str.ofString "ordered"), (PySem.Str.ofString "Thing"), (PySem.Str.ofString "lots_of"), (PySem.Str.ofString "check_entry"), (PySem.Str.ofString "names_of"), (PySem.Str.ofString "checked_names"), (PySem.Str.ofString "led_to"), (PySem.Str.ofString "rows_from"), (PySem.Str.ofString "first_open"), (PySem.Str.ofString "shut_rows"), (PySem.Str.ofString "uses_within")]
def n1 : List PySem.Str := [(PySem.Str.ofString "shut_pieces"), (PySem.Str.ofString "ring_along"), (PySem.Str.ofString "shut_ring"), (PySem.Str.ofString "goes_along"), (PySem.Str.ofString "is_shut_ring"), (PySem.Str.ofString "is_within"), (PySem.Str.ofString "idle_lots"), (PySem.Str.ofString "helpers_of"), (PySem.Str.ofString "_law_spring"), (PySem.Str.ofString "_law_take"), (PySem.Str.ofString "_law_one"), (PySem.Str.ofString "_law_mix"), (PySem.Str.ofString "_law_thing"), (PySem.Str.ofString "_law_made"), (PySem.Str.ofString "_law_names"), (PySem.Str.ofString "_law_led"), (PySem.Str.ofString "_law_first"), (PySem.Str.ofString "_law_met"), (PySem.Str.ofString "_law_refused"), (PySem.Str.ofString "LETTERS")]
def names : List PySem.Str := n0 ++ n1
noncomputable abbrev Zs (w : World) (os : OsState) : SharedT := K35H.Sz w os
noncomputable abbrev KZ (w : World) (os : OsState) : Frag := He.frG (HandSHeadRun.getT (Zs w os)) (GX.asX (HandSHeadRun.getT (Zs w os)))
theorem zLooks (w : World) (os : OsState) : HandSHeadRun.looksF R.prog (boot_heap w.params) (Zs w os).abs = true := by kernel_rfl
theorem zSeen (w : World) (os : OsState) : HandSHeadRun.seenQ qv names (importedModules R.prog.main.body) (fun s => xlAt qv [] s && recOk R.toRowW.records s) (Zs w os).abs = openGood qv names := by kernel_rfl
theorem zFa (w : World) (os : OsState) : (fa.all fun f => f.ok (KZ w os)) = true := by kernel_rfl
theorem zFF (w : World) (os : OsState) : ((fnF.all fun d => d.ok (KZ w os)), fnF.map fun d => He.fnW (KZ w os) d.at_) = (true, fnF.map He.DefD.val) := by kernel_rfl
theorem zFI (w : World) (os : OsState) : ((fnI.all fun d => d.ok (KZ w os)), fnI.map fun d => He.fnW (KZ w os) d.at_) = (true, fnI.map He.DefD.val) := by kernel_rfl
theorem zTb (w : World) (os : OsState) : (mk.all (fun x => GX.tabB (KZ w os) (HandSHeadRun.getT (Zs w os)) x) && GX.nodB (mk.map fun x => (GX.tabOf (KZ w os) x).2)) = true := by kernel_rfl
theorem zCl (w : World) (os : OsState) : GX.clsAll nms (KZ w os) = true := by kernel_rfl
theorem zOb (w : World) (os : OsState) : hk.obs (Zs w os).abs = (true, He.valD fn) := by
  rw [← GX.obX_eq]
  have a := zFF w os
  have b := zFI w os
  simp only [Prod.mk.injEq] at a b
  have dd : He.obsD fa fn (KZ w os) = He.valD fn := by
    unfold He.obsD He.valD
    rw [show fn = fnF ++ fnI from rfl, List.map_append, List.map_append, a.2, b.2, List.all_append, zFa, a.1, b.1]
    rfl
  show GX.obsX fa fn mk nms _ (KZ w os) = _
  unfold GX.obsX
  rw [dd, zCl, zTb]
  rfl
end K35

open PySem PySem.W PySem.Calls PyProof.Rows
theorem PySem.Challenge.cw_meettasks_k35_first_opened_holds : PySem.Challenge.rw_meettasks_k35_first_opened.Holds := by
  w_on; o_law
  refine HG.head (r := OpenLaw.row PySem.Challenge.rw_meettasks_k35_first_opened) (q := view (OpenLaw.row PySem.Challenge.rw_meettasks_k35_first_opened).prog [51]) (H := K35.hk) (loose := K35.names) (d := HandSHeadRun.topDef (OpenLaw.row PySem.Challenge.rw_meettasks_k35_first_opened).prog 51) (kwd := [])
    (by kernel_rfl) (fun s => by kernel_rfl) K35H.top K35.zLooks K35.zSeen K35.zOb (by kernel_rfl) (by kernel_rfl) (by kernel_rfl) (by rfl) (by first | assumption | decide +kernel) (by decide +kernel) ⟨rfl, rfl, rfl, rfl, rfl, by decide +kernel⟩ ?hw ?hc
  case hw => w_witness2
  case hc =>
    refine LamX.walk_ofG (l := PySem.Challenge.rw_meettasks_k35_first_opened) (n := 63) (CX := L2.CX0) rfl (by decide) (by kernel_rfl) ?F (fun _ _ _ _ z => z)
    intro w mg fa h Y G hmg0
    obtain ⟨K, S⟩ := Y
    have hmg : mg ("law" : PySem.Str) = some (.ref fa) := by
      have e : (HandSHeadRun.topDef (OpenLaw.row PySem.Challenge.rw_meettasks_k35_first_opened).prog 51).name = ("law" : PySem.Str) := by kernel_rfl
      rw [← e]
      exact hmg0
    have gl : mg ("law" : PySem.Str) = some (.ref (He.ga K "law")) := S.glo G (by simp [K35.fa])
    have efa : He.ga K "law" = fa := by
      rw [gl] at hmg
      exact Value.ref.inj (Option.some.inj hmg)
    subst efa
    have ta := S.tab "first_open" (by simp [K35.mk])
    have tb := S.tab "_law_refused" (by simp [K35.mk])
    have nd := S.nod
    simp only [K35.mk, List.map_cons, List.map_nil, List.nodup_cons, List.mem_cons, List.mem_nil_iff, or_false, not_or] at nd
    refine ⟨K, [GX.tabOf K "first_open", GX.tabOf K "_law_refused"], S.inh, fun p hp => ?_, fun p hp => ?_, fun p hp => ?_, fun base hK hg TB s H a ns hl hT hS e0 => ?_⟩
    · simp only [List.mem_cons, List.mem_nil_iff, or_false] at hp
      rcases hp with rfl | rfl
      · exact ta.em
      · exact tb.em
    · simp only [List.mem_cons, List.mem_nil_iff, or_false] at hp
      rcases hp with rfl | rfl
      · exact ta.no
      · exact tb.no
    · simp only [List.mem_cons, List.mem_nil_iff, or_false] at hp
      rcases hp with rfl | rfl
      · exact ta.hd
      · exact tb.hd
    · have hu1 : ∀ p ∈ [((GX.tabOf K "first_open").2, TH.lamQ), ((GX.tabOf K "_law_refused").2, TH.lamR)], p.1 = (GX.tabOf K "first_open").2 → p.2 = TH.lamQ := fun p hp e => by
        simp only [List.mem_cons, List.mem_nil_iff, or_false] at hp
        rcases hp with rfl | rfl
        · rfl
        · exact absurd e.symm nd.1
      have hu2 : ∀ p ∈ [((GX.tabOf K "first_open").2, TH.lamQ), ((GX.tabOf K "_law_refused").2, TH.lamR)], p.1 = (GX.tabOf K "_law_refused").2 → p.2 = TH.lamR := fun p hp e => by
        simp only [List.mem_cons, List.mem_nil_iff, or_false] at hp
        rcases hp with rfl | rfl
        · exact absurd e nd.1
        · rfl
      obtain ⟨fd, FL, OL⟩ := K35.law_all (P := PySem.Challenge.rw_meettasks_k35_first_opened.prog) (w := w) (base := base) S G (T := [((GX.tabOf K "first_open").2, TH.lamQ), ((GX.tabOf K "_law_refused").2, TH.lamR)]) ta.co tb.co (TB _ (by simp)) (TB _ (by simp)) (by simp) hu1 (by simp) hu2
      have hb := L2.FunD.bindsA (ps := ["_law_script"]) FL (fun _ _ _ _ _ _ us hl => match us, hl with | [_], _ => rfl) s [Value.ref a] rfl
      refine OL.run callerA [] s H ⟨[.ref a], []⟩ [.ref a] [.ref a] _ _ rfl ⟨rfl, by decide, by decide⟩ e0 hb (.cons rfl .nil) ⟨a, ns, rfl, hS, hl, fun p hp => ?_, fun _ => rfl⟩
      simp only [List.mem_cons, List.mem_nil_iff, or_false] at hp
      rcases hp with rfl | rfl
      · exact LamX.TabS.nil (hT _ (by simp))
      · exact LamX.TabS.nil (hT _ (by simp))

