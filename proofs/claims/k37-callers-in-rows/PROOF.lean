import PyProof.Rows.All
import Wide.All
import OpenK.AllK
import Wide.FinOn
import HandS.Head0
import HandS.Head1
import HandS.Head2
import PySem.Challenge.RW_meettasks_k37_callers_in_rows
import HandS.ForMost
import HandS.IsInst
import HandS.TupAny
import HandS.Flow
import HandS.ExcInit
import HandS.ExcIs
import HandS.ExcField
import HandS.ExcValue
import HandS.MakeKw
import HandS.MakeKwOnly
import KE.KExcIs
import HandS.Nested
import HandS.EndTab
import HandS.DeepEq
import PyProof.ReprRoads
import PyProof.ReprDict
import HandS.Words
import HandS.WordsExc
import HandS.WordsList
import HandS.TryMany
import HandS.Walk
import HandS.DictComp
import HandS.Star
import HandS.Conv
import HandS.TryOnly
import HandS.Defaults
import HandS.HeadHook1
import HandS.HeadHook2
import KE.GoesEnum
import KE.KDictSum
import HandS.More
import HandS.Codes
import KE.KDictWalk
import KE.KDictExact
import HandS.Style
set_option Elab.async false
set_option linter.all false
set_option maxRecDepth 100000
set_option maxHeartbeats 0
/-! HG: the top in pieces whose states are written out; each piece is one kernel run. -/
noncomputable section
namespace HG
open PySem PySem.W PySem.Calls PyProof.Rows HandSHeadRun
section
variable (st : SharedT → Thread → Option (SharedT × Thread)) (m0 : Nat) (ann : Option Value)
/-- so many steps, none of them the end -/
def steps : Nat → SharedT → Thread → Option (SharedT × Thread)
  | 0, s, t => some (s, t)
  | k + 1, s, t => bif through t then none else bif stepOk m0 ann t then (match st s t with
      | none => none
      | some x => frS x.1 fun u => steps k u x.2) else none
/-- to the end of a block -/
def block : Nat → SharedT → Thread → Option (Flow × SharedT × Code × Pos)
  | 0, _, _ => none
  | k + 1, s, t => match endAt 1 t with
    | some f => some (f, s, t.code, t.pos)
    | none => bif stepOk m0 ann t then (match st s t with
      | none => none
      | some x => frS x.1 fun u => block k u x.2) else none
end
section
variable {tb : String → Option Builtin} {p : Program} {w : World} {m0 : Nat} {ann : Option Value}
theorem steps_ok {s' : SharedT} {t' : Thread} : ∀ {k : Nat} {s : SharedT} {t : Thread}, steps (stepT (denote tb) p w) m0 ann k s t = some (s', t') → topGo tb p w m0 ann k s.abs t = some (s'.abs, t') := by
  intro k
  induction k with
  | zero =>
    intro s t h
    cases h
    rfl
  | succ k ih =>
    intro s t h
    rw [steps] at h
    rw [topGo]
    cases a : through t <;> rw [a] at h
    · cases b : stepOk m0 ann t <;> rw [b] at h
      · cases h
      · cases c : stepT (denote tb) p w s t with
        | none =>
          rw [c] at h
          cases h
        | some x =>
          obtain ⟨x1, x2⟩ := x
          rw [c] at h
          have h' : frS x1 (fun u => steps (stepT (denote tb) p w) m0 ann k u x2) = some (s', t') := h
          rw [frS_eq] at h'
          have z := ih h'
          simp only [stepT_spec c]
          exact z
    · cases h
theorem block_ok {r : Flow × SharedT × Code × Pos} : ∀ {k : Nat} {s : SharedT} {t : Thread}, block (stepT (denote tb) p w) m0 ann k s t = some r → segRunT tb p w m0 ann 1 k s t = some r := by
  intro k
  induction k with
  | zero =>
    intro s t h
    cases h
  | succ k ih =>
    intro s t h
    rw [block] at h
    rw [segRunT]
    cases a : endAt 1 t with
    | some f =>
      rw [a] at h
      exact h
    | none =>
      rw [a] at h
      have h : (bif stepOk m0 ann t then (match stepT (denote tb) p w s t with
        | none => none
        | some x => frS x.1 fun u => block (stepT (denote tb) p w) m0 ann k u x.2) else none) = some r := h
      cases b : stepOk m0 ann t <;> rw [b] at h
      · cases h
      · cases c : stepT (denote tb) p w s t with
        | none =>
          rw [c] at h
          cases h
        | some x =>
          obtain ⟨x1, x2⟩ := x
          rw [c] at h
          have h' : frS x1 (fun u => block (stepT (denote tb) p w) m0 ann k u x2) = some r := h
          rw [frS_eq] at h'
          exact ih h'
end
def exQ : List Stmt → Env → Sem Flow := PySem.W.Fast.tw12563942051412417395
theorem exQ_eq : @PySem.execs = exQ := PySem.W.Fast.te12563942051412417395
/-- the first steps, from the boot -/
def first (st : SharedT → Thread → Option (SharedT × Thread)) (k : Nat) (p : Program) (w : World) (os : OsState) : Option (SharedT × Thread) := match putAll (boot_heap w.params).objs.toList .nil 0 with
  | none => none
  | some x => frNat x.2 fun n => steps st n (bootAnn w) k (bootT w os (x.1, n)) (topStub p)
abbrev bootS (w : World) (os : OsState) : Shared := ⟨boot_heap w.params, #[], boot_drawn, boot_toks, os⟩
theorem size_boot (w : World) : (boot_heap w.params).objs.size = 11 := by kernel_rfl
theorem ann_boot (w : World) : bootAnn w = some (.ref 6) := by kernel_rfl
abbrev an6 : Option Value := some (.ref 6)
theorem first_ok {k : Nat} {p : Program} {w : World} {os : OsState} {s : SharedT} {t : Thread} (h : first (stepQ (denQ tabQ) p w) k p w os = some (s, t)) : topGo treeTable p w 11 an6 k (bootS w os) (topStub p) = some (s.abs, t) := by
  rw [← stepQ_eq, ← denQ_eq, ← tabQ_eq] at h
  unfold first at h
  cases e : putAll (boot_heap w.params).objs.toList .nil 0 with
  | none =>
    rw [e] at h
    cases h
  | some x =>
    obtain ⟨T, n⟩ := x
    rw [e] at h
    have h : (frNat n fun n => steps (stepT (denote treeTable) p w) n (bootAnn w) k (bootT w os (T, n)) (topStub p)) = some (s, t) := h
    rw [frNat_eq] at h
    have z := steps_ok h
    have hh := putAll_heap e
    have hn : n = 11 := by
      rw [← size_boot w, ← hh]
      exact (absHeap_size T n _).symm
    rw [ann_boot, hn] at z
    subst hn
    have zz : (bootT w os (T, 11)).abs = bootS w os := congrArg (fun y => (⟨y, #[], boot_drawn, boot_toks, os⟩ : Shared)) hh
    rw [zz] at z
    exact z
section
variable {p : Program} {w : World} {env : Env} {q : Pos}
/-- a piece, and what follows -/
theorem piece {k N : Nat} {s s' : SharedT} {r : Shared} {l rest : List Stmt} {c : Code} {a b : Pos} (h : block (stepQ (denQ tabQ) p w) 11 an6 k s ⟨(exQ l env).wrap doneF deadEnd id id, c, a, [topFrame q]⟩ = some (.next, s', c, b))
    (z : topRun treeTable p w 11 an6 N s'.abs (restOf rest env c b [topFrame q]) = some r) : topRun treeTable p w 11 an6 (k + N) s.abs (restOf (l ++ rest) env c a [topFrame q]) = some r := by
  rw [← stepQ_eq, ← denQ_eq, ← tabQ_eq, ← exQ_eq] at h
  exact piece_app (segRun_of (block_ok h)) z
/-- behind the last piece -/
theorem last {k : Nat} {s s' : SharedT} {c : Code} {a : Pos} (h : goF (stepQ (denQ tabQ) p w) 11 an6 k s ⟨doneF .next, c, a, [topFrame q]⟩ = some s') : topRun treeTable p w 11 an6 k s.abs (restOf [] env c a [topFrame q]) = some s'.abs := by
  rw [← stepQ_eq, ← denQ_eq, ← tabQ_eq] at h
  exact goF_ok h
/-- the first steps, the block's begin, and what follows -/
theorem begin_ {k N : Nat} {os : OsState} {s : SharedT} {r : Shared} {b : List Stmt} {c : Code} {a : Pos} (h : first (stepQ (denQ tabQ) p w) k p w os = some (s, ⟨denQ tabQ (.body b env), c, a, [topFrame q]⟩))
    (hb : block (stepQ (denQ tabQ) p w) 11 an6 1 s ⟨(PySem.W.Fast.tw1066825118222455980 b env).wrap (fun _ => doneF .next) deadEnd id id, c, a, [topFrame q]⟩ = some (.next, s, c, a))
    (z : topRun treeTable p w 11 an6 N s.abs (restOf b env c a [topFrame q]) = some r) : topRun treeTable p w 11 an6 (k + (1 + N)) (bootS w os) (topStub p) = some r := by
  have h1 := first_ok h
  rw [← denQ_eq, ← tabQ_eq] at h1
  rw [← stepQ_eq, ← denQ_eq, ← tabQ_eq, ← PySem.W.Fast.te1066825118222455980] at hb
  exact go_top h1 (piece_block (segRun_of (block_ok hb)) z)
end
/-- what the top leaves, of a written state -/
theorem left {p q : Program} {loose : List PySem.Str} {Xt : Shared → Bool} {α : Type} {Yf : Shared → α} {Ya : World → α} {N M n k : Nat} {T : Params → BT} {life : Life} {d : Drawn} (e : opening p = plainProg p.main.scope.names) (hN : Nat.ble 600 N = true) (f : ∀ s, fenceModules? p s = some s)
    (run : ∀ (w : World) (os : OsState), topRun treeTable p w 11 an6 M (bootS w os) (topStub p) = some (SharedT.abs ⟨T w.params, n, life, #[], d, k, os⟩)) (le : Nat.ble M N = true)
    (l1 : ∀ (w : World) (os : OsState), looksF p (boot_heap w.params) (SharedT.abs ⟨T w.params, n, life, #[], d, k, os⟩) = true)
    (l2 : ∀ (w : World) (os : OsState), seenQ q loose (importedModules p.main.body) Xt (SharedT.abs ⟨T w.params, n, life, #[], d, k, os⟩) = openGood q loose)
    (l3 : ∀ (w : World) (os : OsState), Yf (SharedT.abs ⟨T w.params, n, life, #[], d, k, os⟩) = Ya w) : LeftO p q loose Xt Yf Ya N true := by
  refine LeftO.of_pieces (H₀ := boot_heap) (H₁ := fun P => absHeap (T P) n life) (gs₀ := #[]) (gs₁ := #[]) (d₀ := boot_drawn) (d₁ := d) (k₀ := boot_toks) (k₁ := k) (m₀ := 11) (ann := an6) (M := M) (boot_open e hN f) (fun w => ?_) run le fun w => funext fun os => ?_
  · have a := size_boot w
    have b := ann_boot w
    unfold bootAnn at b
    rw [a, b, boot_ns]
    rfl
  · have a := l1 w os
    have b := l2 w os
    rw [← seenQ_eq] at b
    exact Prod.ext a (Prod.ext b (l3 w os))
end HG

end
/-! HF: a law by a head in written-out pieces. -/
noncomputable section
namespace HG
open PySem PySem.W PySem.Calls PyProof.Rows HandSHeadRun
theorem head {r : OpenRow} {q : Program} {H : Hook} {M n k : Nat} {T : Params → BT} {life : Life} {dr : Drawn} {loose : List PySem.Str} {d : DefRec} {kwd : List (PySem.Str × PySem.Expr)}
    (e : opening r.prog = plainProg r.prog.main.scope.names) (f : ∀ s, fenceModules? r.prog s = some s)
    (run : ∀ (w : World) (os : OsState), topRun treeTable r.prog w 11 an6 M (bootS w os) (topStub r.prog) = some (SharedT.abs ⟨T w.params, n, life, #[], dr, k, os⟩))
    (l1 : ∀ (w : World) (os : OsState), looksF r.prog (boot_heap w.params) (SharedT.abs ⟨T w.params, n, life, #[], dr, k, os⟩) = true)
    (l2 : ∀ (w : World) (os : OsState), seenQ q loose (importedModules r.prog.main.body) (fun s => xlAt q [] s && recOk r.toRowW.records s) (SharedT.abs ⟨T w.params, n, life, #[], dr, k, os⟩) = openGood q loose)
    (l3 : ∀ (w : World) (os : OsState), H.obs (SharedT.abs ⟨T w.params, n, life, #[], dr, k, os⟩) = H.val w)
    (h1 : defOf q r.name = some (d, kwd)) (h2 : r.prog.theDef r.name = some (d.params, d.body, d.scope)) (h3 : kwWritten? d.params.kwonlyargs d.params.kw_defaults = some kwd)
    (h4 : (!r.writes || r.records.isEmpty) = true) (h5 : r.wellSaid = true) (h6 : (chainsOk q && opensWell r.prog && (frees r.toRowW && r.within.isEmpty)) = true) (h7 : r.prog.bare) (h8 : r.toRowW.promised)
    (call : WalkO q loose (XL q []) H.says r.toRowW d kwd fun f vs => PySem.call f vs) : r.Holds := by
  have L : LeftO r.prog q loose (fun s => xlAt q [] s && recOk r.toRowW.records s) H.obs H.val (M + 600) true :=
    left (M := M) e (Nat.ble_eq_true_of_le (Nat.le_add_left 600 M)) f run (Nat.ble_eq_true_of_le (Nat.le_add_right M 600)) l1 l2 l3
  exact holds_open (XP := XL q []) (YP := H.says) L H.of H.keeps (fun s z => xl_of s (Bool.and_eq_true_iff.mp z).1) XL.keeps h1 h2 h3 (fun s z => recFacts_of (Bool.and_eq_true_iff.mp z).2) h4 h5 h6 h7 h8 call
end HG

end
noncomputable section
namespace K37H
open PySem PySem.W PySem.Calls PyProof.Rows HandSHeadRun
abbrev Pg : Program := (OpenLaw.row PySem.Challenge.rw_meettasks_k37_callers_in_rows).prog
abbrev S : String → PySem.Str := PySem.Str.ofString
abbrev N : Obj → BT → BT → BT := BT.node
abbrev e : BT := BT.nil
abbrev E (P : Params) (x : String) (t : Nat) (v : Value) : DictEntry := ⟨PySem.PyData.keyHash P (S x), .str (S x) t, v⟩
def dT (i : Nat) : DefRec := topDef Pg i
def dM (i j : Nat) : DefRec := match Pg.main.body[i]? with
  | some (.ClassDef _ _ _ b _ _ _ _ _ _ _) => (match b[j]? with
    | some (.FunctionDef n a c _ _ _ sc _ _ ps) => ⟨n, a, c, sc, ps⟩
    | _ => topDef Pg i)
  | _ => topDef Pg i
def o0 (P : Params) : Obj := ⟨(.type "tuple"), none, (.seq #[] 0), #[]⟩
def o1 (P : Params) : Obj := ⟨.none, none, (.fields #[]), #[]⟩
def o2 (P : Params) : Obj := ⟨(.type "code"), none, (.fields #[(.str (S "<module>") 182), (.str (S "<module>") 183), (.str (S "/claim/cut.py") 184), (.int 1 0), (.int 0 0), (.int 0 0), (.int 0 0), (.int 0 0), (.ref 11), (.bool false), (.int 181 0), (.ref 12), .none, .none, .none, .none, (.int 185 0), (.int 1 0), (.str (S "/claim/cut.py") 186)]), #[]⟩
def o3 (P : Params) : Obj := ⟨(.type "frame"), none, .plain, #[(some (.ref 13)), (some (.ref 3)), (some (.ref 3)), none, (some (.str (S "__main__") 164)), none, (some (.ref 0))]⟩
def Ta (P : Params) : BT := (N (boot_o_0 P) (N (boot_o_1 P) (N (boot_o_3 P) (N (boot_o_7 P) e e) (N (o0 P) e e)) (N (boot_o_5 P) (N (boot_o_9 P) e e) (N (o2 P) e e))) (N (boot_o_2 P) (N (boot_o_4 P) (N (boot_o_8 P) e e) (N (o1 P) e e)) (N (boot_o_6 P) (N (boot_o_10 P) e e) (N (o3 P) e e))))
def Sa (w : World) (os : OsState) : SharedT := ⟨Ta w.params, 15, ⟨[], [], [], 0, [], [], false, #[], [], 0, false, false, false, 0, [2000, 10, 10], false, 0, true, [], [], 0, false⟩, #[], ⟨0, 0, 0, 0⟩, 187, os⟩
def posa : Pos := ⟨0, 0, 0, 0⟩
def Tb (P : Params) : BT := (N (boot_o_0 P) (N (boot_o_1 P) (N (boot_o_3 P) (N (boot_o_7 P) e e) (N (o0 P) e e)) (N (boot_o_5 P) (N (boot_o_9 P) e e) (N (o2 P) e e))) (N (boot_o_2 P) (N (boot_o_4 P) (N (boot_o_8 P) e e) (N (o1 P) e e)) (N (boot_o_6 P) (N (boot_o_10 P) e e) (N (o3 P) e e))))
def Sb (w : World) (os : OsState) : SharedT := ⟨Tb w.params, 15, ⟨[], [], [], 0, [], [], false, #[], [], 0, false, false, false, 0, [2000, 10, 10], false, 0, true, [], [], 0, false⟩, #[], ⟨0, 0, 0, 0⟩, 187, os⟩
def posb : Pos := ⟨0, 0, 0, 0⟩
def o4 (P : Params) : Obj := ⟨(.type "dict"), none, (.dict #[E P "__name__" 165 (.str (S "law_meettasks_k37_callers_in_rows") 699), E P "__doc__" 166 .none, E P "__package__" 167 .none, E P "__loader__" 168 (.builtin "__main__.__loader__#opaque"), E P "__spec__" 169 .none, E P "__annotations__" 170 (.ref 6), E P "__builtins__" 171 (.ref 4), E P "__file__" 173 (.str (S "/claim/cut.py") 172), E P "__cached__" 174 .none, E P "_wall" 193 (.ref 21), E P "LETTERS" 197 (.str (S "abcdefghijklmnopqrstuvwxyz") 196), E P "is_integer" 204 (.ref 28), E P "is_natural" 211 (.ref 35), E P "is_positive" 218 (.ref 42), E P "is_list" 225 (.ref 49), E P "is_pair" 232 (.ref 56), E P "is_word" 238 (.ref 61), E P "first_bad_word" 249 (.ref 68), E P "TaskError" 269 (.ref 78), E P "BadValues" 294 (.ref 98), E P "BadStart" 319 (.ref 117), E P "BadDeeds" 344 (.ref 136), E P "BadEntries" 369 (.ref 155), E P "BadNumber" 394 (.ref 174), E P "BadCalls" 419 (.ref 193), E P "UnlikeNames" 435 (.ref 205), E P "is_lead" 447 (.ref 214), E P "first_wrong" 458 (.ref 221), E P "ordered" 464 (.ref 226), E P "Thing" 536 (.ref 274), E P "names_of" 545 (.ref 285), E P "led_to" 554 (.ref 292), E P "rows_from" 570 (.ref 299), E P "check_number" 579 (.ref 306), E P "first_state" 585 (.ref 311), E P "is_waiting" 591 (.ref 316), E P "is_call" 601 (.ref 323), E P "served" 615 (.ref 330), E P "called" 630 (.ref 337), E P "gone_on" 644 (.ref 344), E P "calls_let" 650 (.ref 349), E P "parting_from" 671 (.ref 356), E P "calls_that_part" 680 (.ref 363), E P "lots_by_first" 686 (.ref 368), E P "like_values" 692 (.ref 373), E P "least_thing" 698 (.ref 378), E P "_law_spring" 707 (.ref 385), E P "_law_take" 718 (.ref 392), E P "_law_one" 726 (.ref 399), E P "_law_mix" 732 (.ref 404), E P "_law_thing" 738 (.ref 409), E P "_law_made" 745 (.ref 416), E P "_law_names" 752 (.ref 423), E P "_law_led" 761 (.ref 430), E P "_law_after" 767 (.ref 435), E P "_law_begin" 773 (.ref 440), E P "_law_waits" 779 (.ref 445), E P "_law_calls" 785 (.ref 450), E P "_law_parting" 807 (.ref 457), E P "_law_met" 815 (.ref 464), E P "_law_refused" 821 (.ref 469), E P "law" 827 (.ref 474)] 62), #[]⟩
def o5 (P : Params) : Obj := ⟨.none, none, (.fields #[(.int 1 0), (.int 0 0), (.ref 20), (.int 6 0), (.int 0 0), (.ref 27), (.int 8 0), (.int 0 0), (.ref 34), (.int 10 0), (.int 0 0), (.ref 41), (.int 12 0), (.int 0 0), (.ref 48), (.int 14 0), (.int 0 0), (.ref 55), (.int 16 0), (.int 0 0), (.ref 60), (.int 18 0), (.int 0 0), (.ref 67), (.int 28 0), (.int 0 0), (.ref 74), (.int 30 0), (.int 0 0), (.ref 87), (.int 34 0), (.int 0 0), (.ref 106), (.int 38 0), (.int 0 0), (.ref 125), (.int 42 0), (.int 0 0), (.ref 144), (.int 46 0), (.int 0 0), (.ref 163), (.int 50 0), (.int 0 0), (.ref 182), (.int 54 0), (.int 0 0), (.ref 201), (.int 57 0), (.int 0 0), (.ref 213), (.int 64 0), (.int 0 0), (.ref 220), (.int 71 0), (.int 0 0), (.ref 225), (.int 73 0), (.int 0 0), (.ref 232), (.int 107 0), (.int 0 0), (.ref 284), (.int 109 0), (.int 0 0), (.ref 291), (.int 113 0), (.int 0 0), (.ref 298), (.int 126 0), (.int 0 0), (.ref 305), (.int 129 0), (.int 0 0), (.ref 310), (.int 131 0), (.int 0 0), (.ref 315), (.int 133 0), (.int 0 0), (.ref 322), (.int 137 0), (.int 0 0), (.ref 329), (.int 148 0), (.int 0 0), (.ref 336), (.int 156 0), (.int 0 0), (.ref 343), (.int 167 0), (.int 0 0), (.ref 348), (.int 173 0), (.int 0 0), (.ref 355), (.int 188 0), (.int 0 0), (.ref 362), (.int 193 0), (.int 0 0), (.ref 367), (.int 202 0), (.int 0 0), (.ref 372), (.int 205 0), (.int 0 0), (.ref 377), (.int 219 0), (.int 0 0), (.ref 384), (.int 221 0), (.int 0 0), (.ref 391), (.int 233 0), (.int 0 0), (.ref 398), (.int 235 0), (.int 0 0), (.ref 403), (.int 238 0), (.int 0 0), (.ref 408), (.int 246 0), (.int 0 0), (.ref 415), (.int 248 0), (.int 0 0), (.ref 422), (.int 250 0), (.int 0 0), (.ref 429), (.int 252 0), (.int 0 0), (.ref 434), (.int 267 0), (.int 0 0), (.ref 439), (.int 269 0), (.int 0 0), (.ref 444), (.int 271 0), (.int 0 0), (.ref 449), (.int 276 0), (.int 0 0), (.ref 456), (.int 292 0), (.int 0 0), (.ref 463), (.int 300 0), (.int 0 0), (.ref 468), (.int 311 0), (.int 0 0), (.ref 473)]), #[]⟩
def o6 (P : Params) : Obj := ⟨(.type "tuple"), none, (.seq #[] 0), #[]⟩
def o7 (P : Params) : Obj := ⟨.none, none, (.fields #[]), #[]⟩
def o8 (P : Params) : Obj := ⟨(.type "tuple"), none, (.seq #[(.str (S "k") 190)] 0), #[]⟩
def o9 (P : Params) : Obj := ⟨(.type "tuple"), none, (.seq #[] 0), #[]⟩
def o10 (P : Params) : Obj := ⟨.none, none, (.func ⟨(S "_wall"), (S "_wall"), (dT 0).params, .stmts (dT 0).body, (dT 0).scope, 0, [], .none, .none, .none, .none, none, .none, .none, 0⟩), #[]⟩
def o11 (P : Params) : Obj := ⟨(.type "code"), none, (.fields #[(.str (S "_wall") 187), (.str (S "_wall") 188), (.str (S "/claim/cut.py") 189), (.int 1 0), (.int 1 0), (.int 0 0), (.int 0 0), (.int 3 0), (.ref 15), (.bool true), (.int 181 0), (.ref 16), .none, (.ref 17), (.ref 18), (.ref 19), (.int 191 0), (.int 1 0), (.str (S "/claim/cut.py") 192)]), #[]⟩
def o12 (P : Params) : Obj := ⟨(.type "function"), none, (.func ⟨(S "_wall"), (S "_wall"), (dT 0).params, .stmts (dT 0).body, (dT 0).scope, 3, [], .none, .none, .none, (.str (S "__main__") 164), none, (.ref 20), .none, 0⟩), #[]⟩
def o13 (P : Params) : Obj := ⟨(.type "tuple"), none, (.seq #[] 0), #[]⟩
def o14 (P : Params) : Obj := ⟨.none, none, (.fields #[]), #[]⟩
def o15 (P : Params) : Obj := ⟨(.type "tuple"), none, (.seq #[(.str (S "thing") 201)] 0), #[]⟩
def o16 (P : Params) : Obj := ⟨(.type "tuple"), none, (.seq #[] 0), #[]⟩
def o17 (P : Params) : Obj := ⟨.none, none, (.func ⟨(S "is_integer"), (S "is_integer"), (dT 3).params, .stmts (dT 3).body, (dT 3).scope, 0, [], .none, .none, .none, .none, none, .none, .none, 0⟩), #[]⟩
def o18 (P : Params) : Obj := ⟨(.type "code"), none, (.fields #[(.str (S "is_integer") 198), (.str (S "is_integer") 199), (.str (S "/claim/cut.py") 200), (.int 6 0), (.int 1 0), (.int 0 0), (.int 0 0), (.int 3 0), (.ref 22), (.bool true), (.int 181 0), (.ref 23), .none, (.ref 24), (.ref 25), (.ref 26), (.int 202 0), (.int 6 0), (.str (S "/claim/cut.py") 203)]), #[]⟩
def o19 (P : Params) : Obj := ⟨(.type "function"), none, (.func ⟨(S "is_integer"), (S "is_integer"), (dT 3).params, .stmts (dT 3).body, (dT 3).scope, 3, [], .none, .none, .none, (.str (S "meettasks.basics") 194), none, (.ref 27), .none, 0⟩), #[]⟩
def o20 (P : Params) : Obj := ⟨(.type "tuple"), none, (.seq #[] 0), #[]⟩
def o21 (P : Params) : Obj := ⟨.none, none, (.fields #[]), #[]⟩
def o22 (P : Params) : Obj := ⟨(.type "tuple"), none, (.seq #[(.str (S "thing") 208)] 0), #[]⟩
def o23 (P : Params) : Obj := ⟨(.type "tuple"), none, (.seq #[] 0), #[]⟩
def o24 (P : Params) : Obj := ⟨.none, none, (.func ⟨(S "is_natural"), (S "is_natural"), (dT 4).params, .stmts (dT 4).body, (dT 4).scope, 0, [], .none, .none, .none, .none, none, .none, .none, 0⟩), #[]⟩
def o25 (P : Params) : Obj := ⟨(.type "code"), none, (.fields #[(.str (S "is_natural") 205), (.str (S "is_natural") 206), (.str (S "/claim/cut.py") 207), (.int 8 0), (.int 1 0), (.int 0 0), (.int 0 0), (.int 3 0), (.ref 29), (.bool true), (.int 181 0), (.ref 30), .none, (.ref 31), (.ref 32), (.ref 33), (.int 209 0), (.int 8 0), (.str (S "/claim/cut.py") 210)]), #[]⟩
def o26 (P : Params) : Obj := ⟨(.type "function"), none, (.func ⟨(S "is_natural"), (S "is_natural"), (dT 4).params, .stmts (dT 4).body, (dT 4).scope, 3, [], .none, .none, .none, (.str (S "meettasks.basics") 194), none, (.ref 34), .none, 0⟩), #[]⟩
def o27 (P : Params) : Obj := ⟨(.type "tuple"), none, (.seq #[] 0), #[]⟩
def o28 (P : Params) : Obj := ⟨.none, none, (.fields #[]), #[]⟩
def o29 (P : Params) : Obj := ⟨(.type "tuple"), none, (.seq #[(.str (S "thing") 215)] 0), #[]⟩
def o30 (P : Params) : Obj := ⟨(.type "tuple"), none, (.seq #[] 0), #[]⟩
def o31 (P : Params) : Obj := ⟨.none, none, (.func ⟨(S "is_positive"), (S "is_positive"), (dT 5).params, .stmts (dT 5).body, (dT 5).scope, 0, [], .none, .none, .none, .none, none, .none, .none, 0⟩), #[]⟩
def o32 (P : Params) : Obj := ⟨(.type "code"), none, (.fields #[(.str (S "is_positive") 212), (.str (S "is_positive") 213), (.str (S "/claim/cut.py") 214), (.int 10 0), (.int 1 0), (.int 0 0), (.int 0 0), (.int 3 0), (.ref 36), (.bool true), (.int 181 0), (.ref 37), .none, (.ref 38), (.ref 39), (.ref 40), (.int 216 0), (.int 10 0), (.str (S "/claim/cut.py") 217)]), #[]⟩
def o33 (P : Params) : Obj := ⟨(.type "function"), none, (.func ⟨(S "is_positive"), (S "is_positive"), (dT 5).params, .stmts (dT 5).body, (dT 5).scope, 3, [], .none, .none, .none, (.str (S "meettasks.basics") 194), none, (.ref 41), .none, 0⟩), #[]⟩
def o34 (P : Params) : Obj := ⟨(.type "tuple"), none, (.seq #[] 0), #[]⟩
def o35 (P : Params) : Obj := ⟨.none, none, (.fields #[]), #[]⟩
def o36 (P : Params) : Obj := ⟨(.type "tuple"), none, (.seq #[(.str (S "thing") 222)] 0), #[]⟩
def o37 (P : Params) : Obj := ⟨(.type "tuple"), none, (.seq #[] 0), #[]⟩
def o38 (P : Params) : Obj := ⟨.none, none, (.func ⟨(S "is_list"), (S "is_list"), (dT 6).params, .stmts (dT 6).body, (dT 6).scope, 0, [], .none, .none, .none, .none, none, .none, .none, 0⟩), #[]⟩
def o39 (P : Params) : Obj := ⟨(.type "code"), none, (.fields #[(.str (S "is_list") 219), (.str (S "is_list") 220), (.str (S "/claim/cut.py") 221), (.int 12 0), (.int 1 0), (.int 0 0), (.int 0 0), (.int 3 0), (.ref 43), (.bool true), (.int 181 0), (.ref 44), .none, (.ref 45), (.ref 46), (.ref 47), (.int 223 0), (.int 12 0), (.str (S "/claim/cut.py") 224)]), #[]⟩
def o40 (P : Params) : Obj := ⟨(.type "function"), none, (.func ⟨(S "is_list"), (S "is_list"), (dT 6).params, .stmts (dT 6).body, (dT 6).scope, 3, [], .none, .none, .none, (.str (S "meettasks.basics") 194), none, (.ref 48), .none, 0⟩), #[]⟩
def o41 (P : Params) : Obj := ⟨(.type "tuple"), none, (.seq #[] 0), #[]⟩
def o42 (P : Params) : Obj := ⟨.none, none, (.fields #[]), #[]⟩
def o43 (P : Params) : Obj := ⟨(.type "tuple"), none, (.seq #[(.str (S "thing") 229)] 0), #[]⟩
def o44 (P : Params) : Obj := ⟨(.type "tuple"), none, (.seq #[] 0), #[]⟩
def o45 (P : Params) : Obj := ⟨.none, none, (.func ⟨(S "is_pair"), (S "is_pair"), (dT 7).params, .stmts (dT 7).body, (dT 7).scope, 0, [], .none, .none, .none, .none, none, .none, .none, 0⟩), #[]⟩
def o46 (P : Params) : Obj := ⟨(.type "code"), none, (.fields #[(.str (S "is_pair") 226), (.str (S "is_pair") 227), (.str (S "/claim/cut.py") 228), (.int 14 0), (.int 1 0), (.int 0 0), (.int 0 0), (.int 3 0), (.ref 50), (.bool true), (.int 181 0), (.ref 51), .none, (.ref 52), (.ref 53), (.ref 54), (.int 230 0), (.int 14 0), (.str (S "/claim/cut.py") 231)]), #[]⟩
def o47 (P : Params) : Obj := ⟨(.type "function"), none, (.func ⟨(S "is_pair"), (S "is_pair"), (dT 7).params, .stmts (dT 7).body, (dT 7).scope, 3, [], .none, .none, .none, (.str (S "meettasks.basics") 194), none, (.ref 55), .none, 0⟩), #[]⟩
def o48 (P : Params) : Obj := ⟨(.type "tuple"), none, (.seq #[] 0), #[]⟩
def o49 (P : Params) : Obj := ⟨.none, none, (.fields #[]), #[]⟩
def o50 (P : Params) : Obj := ⟨.none, none, (.func ⟨(S "is_word"), (S "is_word"), (dT 8).params, .stmts (dT 8).body, (dT 8).scope, 0, [], .none, .none, .none, .none, none, .none, .none, 0⟩), #[]⟩
def o51 (P : Params) : Obj := ⟨(.type "code"), none, (.fields #[(.str (S "is_word") 233), (.str (S "is_word") 234), (.str (S "/claim/cut.py") 235), (.int 16 0), (.int 1 0), (.int 0 0), (.int 0 0), (.int 3 0), (.ref 57), (.bool true), (.int 181 0), (.ref 58), .none, .none, .none, (.ref 59), (.int 236 0), (.int 16 0), (.str (S "/claim/cut.py") 237)]), #[]⟩
def o52 (P : Params) : Obj := ⟨(.type "function"), none, (.func ⟨(S "is_word"), (S "is_word"), (dT 8).params, .stmts (dT 8).body, (dT 8).scope, 3, [], .none, .none, .none, (.str (S "meettasks.basics") 194), none, (.ref 60), .none, 0⟩), #[]⟩
def o53 (P : Params) : Obj := ⟨(.type "tuple"), none, (.seq #[] 0), #[]⟩
def o54 (P : Params) : Obj := ⟨.none, none, (.fields #[]), #[]⟩
def o55 (P : Params) : Obj := ⟨(.type "tuple"), none, (.seq #[(.str (S "things") 242), (.str (S "barred") 243), (.str (S "met") 244), (.str (S "index") 245), (.str (S "thing") 246)] 0), #[]⟩
def o56 (P : Params) : Obj := ⟨(.type "tuple"), none, (.seq #[] 0), #[]⟩
def o57 (P : Params) : Obj := ⟨.none, none, (.func ⟨(S "first_bad_word"), (S "first_bad_word"), (dT 9).params, .stmts (dT 9).body, (dT 9).scope, 0, [], .none, .none, .none, .none, none, .none, .none, 0⟩), #[]⟩
def o58 (P : Params) : Obj := ⟨(.type "code"), none, (.fields #[(.str (S "first_bad_word") 239), (.str (S "first_bad_word") 240), (.str (S "/claim/cut.py") 241), (.int 18 0), (.int 2 0), (.int 0 0), (.int 0 0), (.int 3 0), (.ref 62), (.bool true), (.int 181 0), (.ref 63), .none, (.ref 64), (.ref 65), (.ref 66), (.int 247 0), (.int 18 0), (.str (S "/claim/cut.py") 248)]), #[]⟩
def o59 (P : Params) : Obj := ⟨(.type "function"), none, (.func ⟨(S "first_bad_word"), (S "first_bad_word"), (dT 9).params, .stmts (dT 9).body, (dT 9).scope, 3, [], .none, .none, .none, (.str (S "meettasks.basics") 194), none, (.ref 67), .none, 0⟩), #[]⟩
def o60 (P : Params) : Obj := ⟨(.type "tuple"), none, (.seq #[(.type "ValueError")] 0), #[]⟩
def o61 (P : Params) : Obj := ⟨(.type "builtin_function_or_method"), none, (.fields #[(.builtin "type.__prepare__"), (.type "type")]), #[]⟩
def o62 (P : Params) : Obj := ⟨(.type "dict"), none, (.dict #[E P "__module__" 259 (.str (S "meettasks.errors") 250), E P "__qualname__" 261 (.str (S "TaskError") 260), E P "__firstlineno__" 263 (.int 28 262), E P "__static_attributes__" 264 (.ref 76)] 4), #[]⟩
def o63 (P : Params) : Obj := ⟨(.type "tuple"), none, (.seq #[] 0), #[]⟩
def o64 (P : Params) : Obj := ⟨.none, none, (.fields #[]), #[]⟩
def o65 (P : Params) : Obj := ⟨(.type "code"), none, (.fields #[(.str (S "TaskError") 254), (.str (S "TaskError") 255), (.str (S "/claim/cut.py") 256), (.int 28 0), (.int 0 0), (.int 0 0), (.int 0 0), (.int 0 0), (.ref 72), (.bool false), (.int 181 0), (.ref 73), .none, .none, .none, .none, (.int 257 0), (.int 28 0), (.str (S "/claim/cut.py") 258)]), #[]⟩
def o66 (P : Params) : Obj := ⟨(.type "frame"), none, .plain, #[(some (.ref 74)), (some (.ref 3)), (some (.ref 71)), none, (some (.str (S "meettasks.errors") 250)), none, (some (.ref 0))]⟩
def o67 (P : Params) : Obj := ⟨(.type "tuple"), none, (.seq #[] 0), #[]⟩
def o68 (P : Params) : Obj := ⟨(.type "dict"), none, (.dict #[E P "__module__" 259 (.str (S "meettasks.errors") 250), E P "__firstlineno__" 263 (.int 28 262), E P "__static_attributes__" 264 (.ref 76), E P "__weakref__" 266 (.ref 79), E P "__doc__" 267 .none] 3), #[]⟩
def o69 (P : Params) : Obj := ⟨(.type "type"), none, (.cls ⟨(S "TaskError"), [(.type "ValueError")], [(.ref 78), (.type "ValueError"), (.type "Exception"), (.type "BaseException"), (.type "object")], 77, (S "TaskError"), true, [], [(.ref 98), (.ref 117), (.ref 136), (.ref 155), (.ref 174), (.ref 193), (.ref 205)], false, none, false⟩), #[(some (.ref 69)), none, (some (.str (S "TaskError") 252)), (some (.str (S "TaskError") 260)), (some (.builtin "ValueError.__new__")), (some (.bool true))]⟩
def o70 (P : Params) : Obj := ⟨(.type "getset_descriptor"), none, (.fields #[(.str (S "__weakref__") 265), (.ref 78), (.builtin "ExceptionGroup.__weakref__"), .none]), #[]⟩
def o71 (P : Params) : Obj := ⟨(.type "super"), none, (.fields #[(.ref 78), (.ref 78), (.ref 78)]), #[]⟩
def o72 (P : Params) : Obj := ⟨(.type "builtin_function_or_method"), none, (.fields #[(.builtin "object.__init_subclass__"), (.ref 78)]), #[]⟩
def o73 (P : Params) : Obj := ⟨(.type "tuple"), none, (.seq #[(.ref 78)] 0), #[]⟩
def o74 (P : Params) : Obj := ⟨(.type "builtin_function_or_method"), none, (.fields #[(.builtin "type.__prepare__"), (.type "type")]), #[]⟩
def o75 (P : Params) : Obj := ⟨(.type "dict"), none, (.dict #[E P "__module__" 277 (.str (S "meettasks.errors") 250), E P "__qualname__" 279 (.str (S "BadValues") 278), E P "__firstlineno__" 281 (.int 30 280), E P "__init__" 289 (.ref 95), E P "__static_attributes__" 291 (.ref 96)] 5), #[]⟩
def o76 (P : Params) : Obj := ⟨(.type "tuple"), none, (.seq #[] 0), #[]⟩
def o77 (P : Params) : Obj := ⟨.none, none, (.fields #[(.int 32 0), (.int 4 0), (.ref 94)]), #[]⟩
def o78 (P : Params) : Obj := ⟨(.type "code"), none, (.fields #[(.str (S "BadValues") 272), (.str (S "BadValues") 273), (.str (S "/claim/cut.py") 274), (.int 30 0), (.int 0 0), (.int 0 0), (.int 0 0), (.int 0 0), (.ref 85), (.bool false), (.int 181 0), (.ref 86), .none, .none, .none, .none, (.int 275 0), (.int 30 0), (.str (S "/claim/cut.py") 276)]), #[]⟩
def o79 (P : Params) : Obj := ⟨(.type "frame"), none, .plain, #[(some (.ref 87)), (some (.ref 3)), (some (.ref 84)), none, (some (.str (S "meettasks.errors") 250)), none, (some (.ref 0))]⟩
def o80 (P : Params) : Obj := ⟨(.type "tuple"), none, (.seq #[] 0), #[]⟩
def o81 (P : Params) : Obj := ⟨.none, none, (.fields #[]), #[]⟩
def o82 (P : Params) : Obj := ⟨(.type "tuple"), none, (.seq #[(.str (S "self") 285), (.str (S "index") 286)] 0), #[]⟩
def o83 (P : Params) : Obj := ⟨(.type "tuple"), none, (.seq #[] 0), #[]⟩
def o84 (P : Params) : Obj := ⟨.none, none, (.func ⟨(S "__init__"), (S "BadValues.__init__"), (dM 12 0).params, .stmts (dM 12 0).body, (dM 12 0).scope, 0, [], .none, .none, .none, .none, none, .none, .none, 0⟩), #[]⟩
def o85 (P : Params) : Obj := ⟨(.type "code"), none, (.fields #[(.str (S "__init__") 282), (.str (S "BadValues.__init__") 283), (.str (S "/claim/cut.py") 284), (.int 32 0), (.int 2 0), (.int 0 0), (.int 0 0), (.int 3 0), (.ref 89), (.bool true), (.int 181 0), (.ref 90), .none, (.ref 91), (.ref 92), (.ref 93), (.int 287 0), (.int 32 0), (.str (S "/claim/cut.py") 288)]), #[]⟩
def o86 (P : Params) : Obj := ⟨(.type "function"), none, (.func ⟨(S "__init__"), (S "BadValues.__init__"), (dM 12 0).params, .stmts (dM 12 0).body, (dM 12 0).scope, 3, [], .none, .none, .none, (.str (S "meettasks.errors") 250), none, (.ref 94), .none, 0⟩), #[]⟩
def o87 (P : Params) : Obj := ⟨(.type "tuple"), none, (.seq #[(.str (S "index") 290)] 0), #[]⟩
def o88 (P : Params) : Obj := ⟨(.type "dict"), none, (.dict #[E P "__module__" 277 (.str (S "meettasks.errors") 250), E P "__firstlineno__" 281 (.int 30 280), E P "__init__" 289 (.ref 95), E P "__static_attributes__" 291 (.ref 96), E P "__doc__" 292 .none] 2), #[]⟩
def o89 (P : Params) : Obj := ⟨(.type "type"), none, (.cls ⟨(S "BadValues"), [(.ref 78)], [(.ref 98), (.ref 78), (.type "ValueError"), (.type "Exception"), (.type "BaseException"), (.type "object")], 97, (S "BadValues"), true, [], [], false, none, false⟩), #[(some (.ref 82)), none, (some (.str (S "BadValues") 270)), (some (.str (S "BadValues") 278)), (some (.builtin "ValueError.__new__")), (some (.bool true))]⟩
def o90 (P : Params) : Obj := ⟨(.type "super"), none, (.fields #[(.ref 98), (.ref 98), (.ref 98)]), #[]⟩
def o91 (P : Params) : Obj := ⟨(.type "builtin_function_or_method"), none, (.fields #[(.builtin "object.__init_subclass__"), (.ref 98)]), #[]⟩
def o92 (P : Params) : Obj := ⟨(.type "tuple"), none, (.seq #[(.ref 78)] 0), #[]⟩
def o93 (P : Params) : Obj := ⟨(.type "builtin_function_or_method"), none, (.fields #[(.builtin "type.__prepare__"), (.type "type")]), #[]⟩
def o94 (P : Params) : Obj := ⟨(.type "dict"), none, (.dict #[E P "__module__" 302 (.str (S "meettasks.errors") 250), E P "__qualname__" 304 (.str (S "BadStart") 303), E P "__firstlineno__" 306 (.int 34 305), E P "__init__" 314 (.ref 114), E P "__static_attributes__" 316 (.ref 115)] 5), #[]⟩
def o95 (P : Params) : Obj := ⟨(.type "tuple"), none, (.seq #[] 0), #[]⟩
def o96 (P : Params) : Obj := ⟨.none, none, (.fields #[(.int 36 0), (.int 4 0), (.ref 113)]), #[]⟩
def o97 (P : Params) : Obj := ⟨(.type "code"), none, (.fields #[(.str (S "BadStart") 297), (.str (S "BadStart") 298), (.str (S "/claim/cut.py") 299), (.int 34 0), (.int 0 0), (.int 0 0), (.int 0 0), (.int 0 0), (.ref 104), (.bool false), (.int 181 0), (.ref 105), .none, .none, .none, .none, (.int 300 0), (.int 34 0), (.str (S "/claim/cut.py") 301)]), #[]⟩
def o98 (P : Params) : Obj := ⟨(.type "frame"), none, .plain, #[(some (.ref 106)), (some (.ref 3)), (some (.ref 103)), none, (some (.str (S "meettasks.errors") 250)), none, (some (.ref 0))]⟩
def o99 (P : Params) : Obj := ⟨(.type "tuple"), none, (.seq #[] 0), #[]⟩
def o100 (P : Params) : Obj := ⟨.none, none, (.fields #[]), #[]⟩
def o101 (P : Params) : Obj := ⟨(.type "tuple"), none, (.seq #[(.str (S "self") 310), (.str (S "thing") 311)] 0), #[]⟩
def o102 (P : Params) : Obj := ⟨(.type "tuple"), none, (.seq #[] 0), #[]⟩
def o103 (P : Params) : Obj := ⟨.none, none, (.func ⟨(S "__init__"), (S "BadStart.__init__"), (dM 13 0).params, .stmts (dM 13 0).body, (dM 13 0).scope, 0, [], .none, .none, .none, .none, none, .none, .none, 0⟩), #[]⟩
def o104 (P : Params) : Obj := ⟨(.type "code"), none, (.fields #[(.str (S "__init__") 307), (.str (S "BadStart.__init__") 308), (.str (S "/claim/cut.py") 309), (.int 36 0), (.int 2 0), (.int 0 0), (.int 0 0), (.int 3 0), (.ref 108), (.bool true), (.int 181 0), (.ref 109), .none, (.ref 110), (.ref 111), (.ref 112), (.int 312 0), (.int 36 0), (.str (S "/claim/cut.py") 313)]), #[]⟩
def o105 (P : Params) : Obj := ⟨(.type "function"), none, (.func ⟨(S "__init__"), (S "BadStart.__init__"), (dM 13 0).params, .stmts (dM 13 0).body, (dM 13 0).scope, 3, [], .none, .none, .none, (.str (S "meettasks.errors") 250), none, (.ref 113), .none, 0⟩), #[]⟩
def o106 (P : Params) : Obj := ⟨(.type "tuple"), none, (.seq #[(.str (S "thing") 315)] 0), #[]⟩
def o107 (P : Params) : Obj := ⟨(.type "dict"), none, (.dict #[E P "__module__" 302 (.str (S "meettasks.errors") 250), E P "__firstlineno__" 306 (.int 34 305), E P "__init__" 314 (.ref 114), E P "__static_attributes__" 316 (.ref 115), E P "__doc__" 317 .none] 2), #[]⟩
def o108 (P : Params) : Obj := ⟨(.type "type"), none, (.cls ⟨(S "BadStart"), [(.ref 78)], [(.ref 117), (.ref 78), (.type "ValueError"), (.type "Exception"), (.type "BaseException"), (.type "object")], 116, (S "BadStart"), true, [], [], false, none, false⟩), #[(some (.ref 101)), none, (some (.str (S "BadStart") 295)), (some (.str (S "BadStart") 303)), (some (.builtin "ValueError.__new__")), (some (.bool true))]⟩
def o109 (P : Params) : Obj := ⟨(.type "super"), none, (.fields #[(.ref 117), (.ref 117), (.ref 117)]), #[]⟩
def o110 (P : Params) : Obj := ⟨(.type "builtin_function_or_method"), none, (.fields #[(.builtin "object.__init_subclass__"), (.ref 117)]), #[]⟩
def o111 (P : Params) : Obj := ⟨(.type "tuple"), none, (.seq #[(.ref 78)] 0), #[]⟩
def o112 (P : Params) : Obj := ⟨(.type "builtin_function_or_method"), none, (.fields #[(.builtin "type.__prepare__"), (.type "type")]), #[]⟩
def o113 (P : Params) : Obj := ⟨(.type "dict"), none, (.dict #[E P "__module__" 327 (.str (S "meettasks.errors") 250), E P "__qualname__" 329 (.str (S "BadDeeds") 328), E P "__firstlineno__" 331 (.int 38 330), E P "__init__" 339 (.ref 133), E P "__static_attributes__" 341 (.ref 134)] 5), #[]⟩
def o114 (P : Params) : Obj := ⟨(.type "tuple"), none, (.seq #[] 0), #[]⟩
def o115 (P : Params) : Obj := ⟨.none, none, (.fields #[(.int 40 0), (.int 4 0), (.ref 132)]), #[]⟩
def o116 (P : Params) : Obj := ⟨(.type "code"), none, (.fields #[(.str (S "BadDeeds") 322), (.str (S "BadDeeds") 323), (.str (S "/claim/cut.py") 324), (.int 38 0), (.int 0 0), (.int 0 0), (.int 0 0), (.int 0 0), (.ref 123), (.bool false), (.int 181 0), (.ref 124), .none, .none, .none, .none, (.int 325 0), (.int 38 0), (.str (S "/claim/cut.py") 326)]), #[]⟩
def o117 (P : Params) : Obj := ⟨(.type "frame"), none, .plain, #[(some (.ref 125)), (some (.ref 3)), (some (.ref 122)), none, (some (.str (S "meettasks.errors") 250)), none, (some (.ref 0))]⟩
def o118 (P : Params) : Obj := ⟨(.type "tuple"), none, (.seq #[] 0), #[]⟩
def o119 (P : Params) : Obj := ⟨.none, none, (.fields #[]), #[]⟩
def o120 (P : Params) : Obj := ⟨(.type "tuple"), none, (.seq #[(.str (S "self") 335), (.str (S "name") 336)] 0), #[]⟩
def o121 (P : Params) : Obj := ⟨(.type "tuple"), none, (.seq #[] 0), #[]⟩
def o122 (P : Params) : Obj := ⟨.none, none, (.func ⟨(S "__init__"), (S "BadDeeds.__init__"), (dM 14 0).params, .stmts (dM 14 0).body, (dM 14 0).scope, 0, [], .none, .none, .none, .none, none, .none, .none, 0⟩), #[]⟩
def o123 (P : Params) : Obj := ⟨(.type "code"), none, (.fields #[(.str (S "__init__") 332), (.str (S "BadDeeds.__init__") 333), (.str (S "/claim/cut.py") 334), (.int 40 0), (.int 2 0), (.int 0 0), (.int 0 0), (.int 3 0), (.ref 127), (.bool true), (.int 181 0), (.ref 128), .none, (.ref 129), (.ref 130), (.ref 131), (.int 337 0), (.int 40 0), (.str (S "/claim/cut.py") 338)]), #[]⟩
def o124 (P : Params) : Obj := ⟨(.type "function"), none, (.func ⟨(S "__init__"), (S "BadDeeds.__init__"), (dM 14 0).params, .stmts (dM 14 0).body, (dM 14 0).scope, 3, [], .none, .none, .none, (.str (S "meettasks.errors") 250), none, (.ref 132), .none, 0⟩), #[]⟩
def o125 (P : Params) : Obj := ⟨(.type "tuple"), none, (.seq #[(.str (S "name") 340)] 0), #[]⟩
def o126 (P : Params) : Obj := ⟨(.type "dict"), none, (.dict #[E P "__module__" 327 (.str (S "meettasks.errors") 250), E P "__firstlineno__" 331 (.int 38 330), E P "__init__" 339 (.ref 133), E P "__static_attributes__" 341 (.ref 134), E P "__doc__" 342 .none] 2), #[]⟩
def o127 (P : Params) : Obj := ⟨(.type "type"), none, (.cls ⟨(S "BadDeeds"), [(.ref 78)], [(.ref 136), (.ref 78), (.type "ValueError"), (.type "Exception"), (.type "BaseException"), (.type "object")], 135, (S "BadDeeds"), true, [], [], false, none, false⟩), #[(some (.ref 120)), none, (some (.str (S "BadDeeds") 320)), (some (.str (S "BadDeeds") 328)), (some (.builtin "ValueError.__new__")), (some (.bool true))]⟩
def o128 (P : Params) : Obj := ⟨(.type "super"), none, (.fields #[(.ref 136), (.ref 136), (.ref 136)]), #[]⟩
def o129 (P : Params) : Obj := ⟨(.type "builtin_function_or_method"), none, (.fields #[(.builtin "object.__init_subclass__"), (.ref 136)]), #[]⟩
def o130 (P : Params) : Obj := ⟨(.type "tuple"), none, (.seq #[(.ref 78)] 0), #[]⟩
def o131 (P : Params) : Obj := ⟨(.type "builtin_function_or_method"), none, (.fields #[(.builtin "type.__prepare__"), (.type "type")]), #[]⟩
def o132 (P : Params) : Obj := ⟨(.type "dict"), none, (.dict #[E P "__module__" 352 (.str (S "meettasks.errors") 250), E P "__qualname__" 354 (.str (S "BadEntries") 353), E P "__firstlineno__" 356 (.int 42 355), E P "__init__" 364 (.ref 152), E P "__static_attributes__" 366 (.ref 153)] 5), #[]⟩
def o133 (P : Params) : Obj := ⟨(.type "tuple"), none, (.seq #[] 0), #[]⟩
def o134 (P : Params) : Obj := ⟨.none, none, (.fields #[(.int 44 0), (.int 4 0), (.ref 151)]), #[]⟩
def o135 (P : Params) : Obj := ⟨(.type "code"), none, (.fields #[(.str (S "BadEntries") 347), (.str (S "BadEntries") 348), (.str (S "/claim/cut.py") 349), (.int 42 0), (.int 0 0), (.int 0 0), (.int 0 0), (.int 0 0), (.ref 142), (.bool false), (.int 181 0), (.ref 143), .none, .none, .none, .none, (.int 350 0), (.int 42 0), (.str (S "/claim/cut.py") 351)]), #[]⟩
def o136 (P : Params) : Obj := ⟨(.type "frame"), none, .plain, #[(some (.ref 144)), (some (.ref 3)), (some (.ref 141)), none, (some (.str (S "meettasks.errors") 250)), none, (some (.ref 0))]⟩
def o137 (P : Params) : Obj := ⟨(.type "tuple"), none, (.seq #[] 0), #[]⟩
def o138 (P : Params) : Obj := ⟨.none, none, (.fields #[]), #[]⟩
def o139 (P : Params) : Obj := ⟨(.type "tuple"), none, (.seq #[(.str (S "self") 360), (.str (S "name") 361)] 0), #[]⟩
def o140 (P : Params) : Obj := ⟨(.type "tuple"), none, (.seq #[] 0), #[]⟩
def o141 (P : Params) : Obj := ⟨.none, none, (.func ⟨(S "__init__"), (S "BadEntries.__init__"), (dM 15 0).params, .stmts (dM 15 0).body, (dM 15 0).scope, 0, [], .none, .none, .none, .none, none, .none, .none, 0⟩), #[]⟩
def o142 (P : Params) : Obj := ⟨(.type "code"), none, (.fields #[(.str (S "__init__") 357), (.str (S "BadEntries.__init__") 358), (.str (S "/claim/cut.py") 359), (.int 44 0), (.int 2 0), (.int 0 0), (.int 0 0), (.int 3 0), (.ref 146), (.bool true), (.int 181 0), (.ref 147), .none, (.ref 148), (.ref 149), (.ref 150), (.int 362 0), (.int 44 0), (.str (S "/claim/cut.py") 363)]), #[]⟩
def o143 (P : Params) : Obj := ⟨(.type "function"), none, (.func ⟨(S "__init__"), (S "BadEntries.__init__"), (dM 15 0).params, .stmts (dM 15 0).body, (dM 15 0).scope, 3, [], .none, .none, .none, (.str (S "meettasks.errors") 250), none, (.ref 151), .none, 0⟩), #[]⟩
def o144 (P : Params) : Obj := ⟨(.type "tuple"), none, (.seq #[(.str (S "name") 365)] 0), #[]⟩
def o145 (P : Params) : Obj := ⟨(.type "dict"), none, (.dict #[E P "__module__" 352 (.str (S "meettasks.errors") 250), E P "__firstlineno__" 356 (.int 42 355), E P "__init__" 364 (.ref 152), E P "__static_attributes__" 366 (.ref 153), E P "__doc__" 367 .none] 2), #[]⟩
def o146 (P : Params) : Obj := ⟨(.type "type"), none, (.cls ⟨(S "BadEntries"), [(.ref 78)], [(.ref 155), (.ref 78), (.type "ValueError"), (.type "Exception"), (.type "BaseException"), (.type "object")], 154, (S "BadEntries"), true, [], [], false, none, false⟩), #[(some (.ref 139)), none, (some (.str (S "BadEntries") 345)), (some (.str (S "BadEntries") 353)), (some (.builtin "ValueError.__new__")), (some (.bool true))]⟩
def o147 (P : Params) : Obj := ⟨(.type "super"), none, (.fields #[(.ref 155), (.ref 155), (.ref 155)]), #[]⟩
def o148 (P : Params) : Obj := ⟨(.type "builtin_function_or_method"), none, (.fields #[(.builtin "object.__init_subclass__"), (.ref 155)]), #[]⟩
def o149 (P : Params) : Obj := ⟨(.type "tuple"), none, (.seq #[(.ref 78)] 0), #[]⟩
def o150 (P : Params) : Obj := ⟨(.type "builtin_function_or_method"), none, (.fields #[(.builtin "type.__prepare__"), (.type "type")]), #[]⟩
def o151 (P : Params) : Obj := ⟨(.type "dict"), none, (.dict #[E P "__module__" 377 (.str (S "meettasks.errors") 250), E P "__qualname__" 379 (.str (S "BadNumber") 378), E P "__firstlineno__" 381 (.int 46 380), E P "__init__" 389 (.ref 171), E P "__static_attributes__" 391 (.ref 172)] 5), #[]⟩
def o152 (P : Params) : Obj := ⟨(.type "tuple"), none, (.seq #[] 0), #[]⟩
def o153 (P : Params) : Obj := ⟨.none, none, (.fields #[(.int 48 0), (.int 4 0), (.ref 170)]), #[]⟩
def o154 (P : Params) : Obj := ⟨(.type "code"), none, (.fields #[(.str (S "BadNumber") 372), (.str (S "BadNumber") 373), (.str (S "/claim/cut.py") 374), (.int 46 0), (.int 0 0), (.int 0 0), (.int 0 0), (.int 0 0), (.ref 161), (.bool false), (.int 181 0), (.ref 162), .none, .none, .none, .none, (.int 375 0), (.int 46 0), (.str (S "/claim/cut.py") 376)]), #[]⟩
def o155 (P : Params) : Obj := ⟨(.type "frame"), none, .plain, #[(some (.ref 163)), (some (.ref 3)), (some (.ref 160)), none, (some (.str (S "meettasks.errors") 250)), none, (some (.ref 0))]⟩
def o156 (P : Params) : Obj := ⟨(.type "tuple"), none, (.seq #[] 0), #[]⟩
def o157 (P : Params) : Obj := ⟨.none, none, (.fields #[]), #[]⟩
def o158 (P : Params) : Obj := ⟨(.type "tuple"), none, (.seq #[(.str (S "self") 385), (.str (S "number") 386)] 0), #[]⟩
def o159 (P : Params) : Obj := ⟨(.type "tuple"), none, (.seq #[] 0), #[]⟩
def o160 (P : Params) : Obj := ⟨.none, none, (.func ⟨(S "__init__"), (S "BadNumber.__init__"), (dM 16 0).params, .stmts (dM 16 0).body, (dM 16 0).scope, 0, [], .none, .none, .none, .none, none, .none, .none, 0⟩), #[]⟩
def o161 (P : Params) : Obj := ⟨(.type "code"), none, (.fields #[(.str (S "__init__") 382), (.str (S "BadNumber.__init__") 383), (.str (S "/claim/cut.py") 384), (.int 48 0), (.int 2 0), (.int 0 0), (.int 0 0), (.int 3 0), (.ref 165), (.bool true), (.int 181 0), (.ref 166), .none, (.ref 167), (.ref 168), (.ref 169), (.int 387 0), (.int 48 0), (.str (S "/claim/cut.py") 388)]), #[]⟩
def o162 (P : Params) : Obj := ⟨(.type "function"), none, (.func ⟨(S "__init__"), (S "BadNumber.__init__"), (dM 16 0).params, .stmts (dM 16 0).body, (dM 16 0).scope, 3, [], .none, .none, .none, (.str (S "meettasks.errors") 250), none, (.ref 170), .none, 0⟩), #[]⟩
def o163 (P : Params) : Obj := ⟨(.type "tuple"), none, (.seq #[(.str (S "number") 390)] 0), #[]⟩
def o164 (P : Params) : Obj := ⟨(.type "dict"), none, (.dict #[E P "__module__" 377 (.str (S "meettasks.errors") 250), E P "__firstlineno__" 381 (.int 46 380), E P "__init__" 389 (.ref 171), E P "__static_attributes__" 391 (.ref 172), E P "__doc__" 392 .none] 2), #[]⟩
def o165 (P : Params) : Obj := ⟨(.type "type"), none, (.cls ⟨(S "BadNumber"), [(.ref 78)], [(.ref 174), (.ref 78), (.type "ValueError"), (.type "Exception"), (.type "BaseException"), (.type "object")], 173, (S "BadNumber"), true, [], [], false, none, false⟩), #[(some (.ref 158)), none, (some (.str (S "BadNumber") 370)), (some (.str (S "BadNumber") 378)), (some (.builtin "ValueError.__new__")), (some (.bool true))]⟩
def o166 (P : Params) : Obj := ⟨(.type "super"), none, (.fields #[(.ref 174), (.ref 174), (.ref 174)]), #[]⟩
def o167 (P : Params) : Obj := ⟨(.type "builtin_function_or_method"), none, (.fields #[(.builtin "object.__init_subclass__"), (.ref 174)]), #[]⟩
def o168 (P : Params) : Obj := ⟨(.type "tuple"), none, (.seq #[(.ref 78)] 0), #[]⟩
def o169 (P : Params) : Obj := ⟨(.type "builtin_function_or_method"), none, (.fields #[(.builtin "type.__prepare__"), (.type "type")]), #[]⟩
def o170 (P : Params) : Obj := ⟨(.type "dict"), none, (.dict #[E P "__module__" 402 (.str (S "meettasks.errors") 250), E P "__qualname__" 404 (.str (S "BadCalls") 403), E P "__firstlineno__" 406 (.int 50 405), E P "__init__" 414 (.ref 190), E P "__static_attributes__" 416 (.ref 191)] 5), #[]⟩
def o171 (P : Params) : Obj := ⟨(.type "tuple"), none, (.seq #[] 0), #[]⟩
def o172 (P : Params) : Obj := ⟨.none, none, (.fields #[(.int 52 0), (.int 4 0), (.ref 189)]), #[]⟩
def o173 (P : Params) : Obj := ⟨(.type "code"), none, (.fields #[(.str (S "BadCalls") 397), (.str (S "BadCalls") 398), (.str (S "/claim/cut.py") 399), (.int 50 0), (.int 0 0), (.int 0 0), (.int 0 0), (.int 0 0), (.ref 180), (.bool false), (.int 181 0), (.ref 181), .none, .none, .none, .none, (.int 400 0), (.int 50 0), (.str (S "/claim/cut.py") 401)]), #[]⟩
def o174 (P : Params) : Obj := ⟨(.type "frame"), none, .plain, #[(some (.ref 182)), (some (.ref 3)), (some (.ref 179)), none, (some (.str (S "meettasks.errors") 250)), none, (some (.ref 0))]⟩
def o175 (P : Params) : Obj := ⟨(.type "tuple"), none, (.seq #[] 0), #[]⟩
def o176 (P : Params) : Obj := ⟨.none, none, (.fields #[]), #[]⟩
def o177 (P : Params) : Obj := ⟨(.type "tuple"), none, (.seq #[(.str (S "self") 410), (.str (S "index") 411)] 0), #[]⟩
def o178 (P : Params) : Obj := ⟨(.type "tuple"), none, (.seq #[] 0), #[]⟩
def o179 (P : Params) : Obj := ⟨.none, none, (.func ⟨(S "__init__"), (S "BadCalls.__init__"), (dM 17 0).params, .stmts (dM 17 0).body, (dM 17 0).scope, 0, [], .none, .none, .none, .none, none, .none, .none, 0⟩), #[]⟩
def o180 (P : Params) : Obj := ⟨(.type "code"), none, (.fields #[(.str (S "__init__") 407), (.str (S "BadCalls.__init__") 408), (.str (S "/claim/cut.py") 409), (.int 52 0), (.int 2 0), (.int 0 0), (.int 0 0), (.int 3 0), (.ref 184), (.bool true), (.int 181 0), (.ref 185), .none, (.ref 186), (.ref 187), (.ref 188), (.int 412 0), (.int 52 0), (.str (S "/claim/cut.py") 413)]), #[]⟩
def o181 (P : Params) : Obj := ⟨(.type "function"), none, (.func ⟨(S "__init__"), (S "BadCalls.__init__"), (dM 17 0).params, .stmts (dM 17 0).body, (dM 17 0).scope, 3, [], .none, .none, .none, (.str (S "meettasks.errors") 250), none, (.ref 189), .none, 0⟩), #[]⟩
def o182 (P : Params) : Obj := ⟨(.type "tuple"), none, (.seq #[(.str (S "index") 415)] 0), #[]⟩
def o183 (P : Params) : Obj := ⟨(.type "dict"), none, (.dict #[E P "__module__" 402 (.str (S "meettasks.errors") 250), E P "__firstlineno__" 406 (.int 50 405), E P "__init__" 414 (.ref 190), E P "__static_attributes__" 416 (.ref 191), E P "__doc__" 417 .none] 2), #[]⟩
def o184 (P : Params) : Obj := ⟨(.type "type"), none, (.cls ⟨(S "BadCalls"), [(.ref 78)], [(.ref 193), (.ref 78), (.type "ValueError"), (.type "Exception"), (.type "BaseException"), (.type "object")], 192, (S "BadCalls"), true, [], [], false, none, false⟩), #[(some (.ref 177)), none, (some (.str (S "BadCalls") 395)), (some (.str (S "BadCalls") 403)), (some (.builtin "ValueError.__new__")), (some (.bool true))]⟩
def o185 (P : Params) : Obj := ⟨(.type "super"), none, (.fields #[(.ref 193), (.ref 193), (.ref 193)]), #[]⟩
def o186 (P : Params) : Obj := ⟨(.type "builtin_function_or_method"), none, (.fields #[(.builtin "object.__init_subclass__"), (.ref 193)]), #[]⟩
def o187 (P : Params) : Obj := ⟨(.type "tuple"), none, (.seq #[(.ref 78)] 0), #[]⟩
def o188 (P : Params) : Obj := ⟨(.type "builtin_function_or_method"), none, (.fields #[(.builtin "type.__prepare__"), (.type "type")]), #[]⟩
def o189 (P : Params) : Obj := ⟨(.type "dict"), none, (.dict #[E P "__module__" 427 (.str (S "meettasks.errors") 250), E P "__qualname__" 429 (.str (S "UnlikeNames") 428), E P "__firstlineno__" 431 (.int 54 430), E P "__static_attributes__" 432 (.ref 203)] 4), #[]⟩
def o190 (P : Params) : Obj := ⟨(.type "tuple"), none, (.seq #[] 0), #[]⟩
def o191 (P : Params) : Obj := ⟨.none, none, (.fields #[]), #[]⟩
def o192 (P : Params) : Obj := ⟨(.type "code"), none, (.fields #[(.str (S "UnlikeNames") 422), (.str (S "UnlikeNames") 423), (.str (S "/claim/cut.py") 424), (.int 54 0), (.int 0 0), (.int 0 0), (.int 0 0), (.int 0 0), (.ref 199), (.bool false), (.int 181 0), (.ref 200), .none, .none, .none, .none, (.int 425 0), (.int 54 0), (.str (S "/claim/cut.py") 426)]), #[]⟩
def o193 (P : Params) : Obj := ⟨(.type "frame"), none, .plain, #[(some (.ref 201)), (some (.ref 3)), (some (.ref 198)), none, (some (.str (S "meettasks.errors") 250)), none, (some (.ref 0))]⟩
def o194 (P : Params) : Obj := ⟨(.type "tuple"), none, (.seq #[] 0), #[]⟩
def o195 (P : Params) : Obj := ⟨(.type "dict"), none, (.dict #[E P "__module__" 427 (.str (S "meettasks.errors") 250), E P "__firstlineno__" 431 (.int 54 430), E P "__static_attributes__" 432 (.ref 203), E P "__doc__" 433 .none] 2), #[]⟩
def o196 (P : Params) : Obj := ⟨(.type "type"), none, (.cls ⟨(S "UnlikeNames"), [(.ref 78)], [(.ref 205), (.ref 78), (.type "ValueError"), (.type "Exception"), (.type "BaseException"), (.type "object")], 204, (S "UnlikeNames"), true, [], [], false, none, false⟩), #[(some (.ref 196)), none, (some (.str (S "UnlikeNames") 420)), (some (.str (S "UnlikeNames") 428)), (some (.builtin "ValueError.__new__")), (some (.bool true))]⟩
def o197 (P : Params) : Obj := ⟨(.type "super"), none, (.fields #[(.ref 205), (.ref 205), (.ref 205)]), #[]⟩
def o198 (P : Params) : Obj := ⟨(.type "builtin_function_or_method"), none, (.fields #[(.builtin "object.__init_subclass__"), (.ref 205)]), #[]⟩
def o199 (P : Params) : Obj := ⟨(.type "tuple"), none, (.seq #[] 0), #[]⟩
def o200 (P : Params) : Obj := ⟨.none, none, (.fields #[]), #[]⟩
def o201 (P : Params) : Obj := ⟨(.type "tuple"), none, (.seq #[(.str (S "thing") 441), (.str (S "known") 442), (.str (S "is_whole") 443), (.str (S "value") 444)] 0), #[]⟩
def o202 (P : Params) : Obj := ⟨(.type "tuple"), none, (.seq #[] 0), #[]⟩
def o203 (P : Params) : Obj := ⟨.none, none, (.func ⟨(S "is_lead"), (S "is_lead"), (dT 20).params, .stmts (dT 20).body, (dT 20).scope, 0, [], .none, .none, .none, .none, none, .none, .none, 0⟩), #[]⟩
def o204 (P : Params) : Obj := ⟨(.type "code"), none, (.fields #[(.str (S "is_lead") 438), (.str (S "is_lead") 439), (.str (S "/claim/cut.py") 440), (.int 57 0), (.int 3 0), (.int 0 0), (.int 0 0), (.int 3 0), (.ref 208), (.bool true), (.int 181 0), (.ref 209), .none, (.ref 210), (.ref 211), (.ref 212), (.int 445 0), (.int 57 0), (.str (S "/claim/cut.py") 446)]), #[]⟩
def o205 (P : Params) : Obj := ⟨(.type "function"), none, (.func ⟨(S "is_lead"), (S "is_lead"), (dT 20).params, .stmts (dT 20).body, (dT 20).scope, 3, [], .none, .none, .none, (.str (S "meettasks.things") 436), none, (.ref 213), .none, 0⟩), #[]⟩
def o206 (P : Params) : Obj := ⟨(.type "tuple"), none, (.seq #[] 0), #[]⟩
def o207 (P : Params) : Obj := ⟨.none, none, (.fields #[]), #[]⟩
def o208 (P : Params) : Obj := ⟨(.type "tuple"), none, (.seq #[(.str (S "leads") 451), (.str (S "known") 452), (.str (S "barred") 453), (.str (S "is_whole") 454), (.str (S "name") 455)] 0), #[]⟩
def o209 (P : Params) : Obj := ⟨(.type "tuple"), none, (.seq #[] 0), #[]⟩
def o210 (P : Params) : Obj := ⟨.none, none, (.func ⟨(S "first_wrong"), (S "first_wrong"), (dT 21).params, .stmts (dT 21).body, (dT 21).scope, 0, [], .none, .none, .none, .none, none, .none, .none, 0⟩), #[]⟩
def o211 (P : Params) : Obj := ⟨(.type "code"), none, (.fields #[(.str (S "first_wrong") 448), (.str (S "first_wrong") 449), (.str (S "/claim/cut.py") 450), (.int 64 0), (.int 4 0), (.int 0 0), (.int 0 0), (.int 3 0), (.ref 215), (.bool true), (.int 181 0), (.ref 216), .none, (.ref 217), (.ref 218), (.ref 219), (.int 456 0), (.int 64 0), (.str (S "/claim/cut.py") 457)]), #[]⟩
def o212 (P : Params) : Obj := ⟨(.type "function"), none, (.func ⟨(S "first_wrong"), (S "first_wrong"), (dT 21).params, .stmts (dT 21).body, (dT 21).scope, 3, [], .none, .none, .none, (.str (S "meettasks.things") 436), none, (.ref 220), .none, 0⟩), #[]⟩
def o213 (P : Params) : Obj := ⟨(.type "tuple"), none, (.seq #[] 0), #[]⟩
def o214 (P : Params) : Obj := ⟨.none, none, (.fields #[]), #[]⟩
def o215 (P : Params) : Obj := ⟨.none, none, (.func ⟨(S "ordered"), (S "ordered"), (dT 22).params, .stmts (dT 22).body, (dT 22).scope, 0, [], .none, .none, .none, .none, none, .none, .none, 0⟩), #[]⟩
def o216 (P : Params) : Obj := ⟨(.type "code"), none, (.fields #[(.str (S "ordered") 459), (.str (S "ordered") 460), (.str (S "/claim/cut.py") 461), (.int 71 0), (.int 2 0), (.int 0 0), (.int 0 0), (.int 3 0), (.ref 222), (.bool true), (.int 181 0), (.ref 223), .none, .none, .none, (.ref 224), (.int 462 0), (.int 71 0), (.str (S "/claim/cut.py") 463)]), #[]⟩
def o217 (P : Params) : Obj := ⟨(.type "function"), none, (.func ⟨(S "ordered"), (S "ordered"), (dT 22).params, .stmts (dT 22).body, (dT 22).scope, 3, [], .none, .none, .none, (.str (S "meettasks.things") 436), none, (.ref 225), .none, 0⟩), #[]⟩
def o218 (P : Params) : Obj := ⟨(.type "tuple"), none, (.seq #[] 0), #[]⟩
def o219 (P : Params) : Obj := ⟨(.type "builtin_function_or_method"), none, (.fields #[(.builtin "type.__prepare__"), (.type "type")]), #[]⟩
def o220 (P : Params) : Obj := ⟨(.type "dict"), none, (.dict #[E P "__module__" 472 (.str (S "meettasks.things") 436), E P "__qualname__" 474 (.str (S "Thing") 473), E P "__firstlineno__" 476 (.int 73 475), E P "__init__" 489 (.ref 240), E P "worths" 496 (.ref 247), E P "start" 503 (.ref 254), E P "deeds" 509 (.ref 259), E P "entries" 515 (.ref 264), E P "__eq__" 523 (.ref 271), E P "__static_attributes__" 528 (.ref 272)] 10), #[]⟩
def o221 (P : Params) : Obj := ⟨(.type "tuple"), none, (.seq #[] 0), #[]⟩
def o222 (P : Params) : Obj := ⟨.none, none, (.fields #[(.int 75 0), (.int 4 0), (.ref 239), (.int 90 0), (.int 4 0), (.ref 246), (.int 93 0), (.int 4 0), (.ref 253), (.int 96 0), (.int 4 0), (.ref 258), (.int 99 0), (.int 4 0), (.ref 263), (.int 102 0), (.int 4 0), (.ref 270)]), #[]⟩
def o223 (P : Params) : Obj := ⟨(.type "code"), none, (.fields #[(.str (S "Thing") 467), (.str (S "Thing") 468), (.str (S "/claim/cut.py") 469), (.int 73 0), (.int 0 0), (.int 0 0), (.int 0 0), (.int 0 0), (.ref 230), (.bool false), (.int 181 0), (.ref 231), .none, .none, .none, .none, (.int 470 0), (.int 73 0), (.str (S "/claim/cut.py") 471)]), #[]⟩
def o224 (P : Params) : Obj := ⟨(.type "frame"), none, .plain, #[(some (.ref 232)), (some (.ref 3)), (some (.ref 229)), none, (some (.str (S "meettasks.things") 436)), none, (some (.ref 0))]⟩
def o225 (P : Params) : Obj := ⟨(.type "tuple"), none, (.seq #[] 0), #[]⟩
def o226 (P : Params) : Obj := ⟨.none, none, (.fields #[]), #[]⟩
def o227 (P : Params) : Obj := ⟨(.type "tuple"), none, (.seq #[(.str (S "self") 480), (.str (S "values") 481), (.str (S "start") 482), (.str (S "deeds") 483), (.str (S "entries") 484), (.str (S "index") 485), (.str (S "wrong") 486)] 0), #[]⟩
def o228 (P : Params) : Obj := ⟨(.type "tuple"), none, (.seq #[] 0), #[]⟩
def o229 (P : Params) : Obj := ⟨.none, none, (.func ⟨(S "__init__"), (S "Thing.__init__"), (dM 23 0).params, .stmts (dM 23 0).body, (dM 23 0).scope, 0, [], .none, .none, .none, .none, none, .none, .none, 0⟩), #[]⟩
def o230 (P : Params) : Obj := ⟨(.type "code"), none, (.fields #[(.str (S "__init__") 477), (.str (S "Thing.__init__") 478), (.str (S "/claim/cut.py") 479), (.int 75 0), (.int 5 0), (.int 0 0), (.int 0 0), (.int 3 0), (.ref 234), (.bool true), (.int 181 0), (.ref 235), .none, (.ref 236), (.ref 237), (.ref 238), (.int 487 0), (.int 75 0), (.str (S "/claim/cut.py") 488)]), #[]⟩
def o231 (P : Params) : Obj := ⟨(.type "function"), none, (.func ⟨(S "__init__"), (S "Thing.__init__"), (dM 23 0).params, .stmts (dM 23 0).body, (dM 23 0).scope, 3, [], .none, .none, .none, (.str (S "meettasks.things") 436), none, (.ref 239), .none, 0⟩), #[]⟩
def o232 (P : Params) : Obj := ⟨(.type "tuple"), none, (.seq #[] 0), #[]⟩
def o233 (P : Params) : Obj := ⟨.none, none, (.fields #[]), #[]⟩
def o234 (P : Params) : Obj := ⟨(.type "tuple"), none, (.seq #[(.str (S "self") 493)] 0), #[]⟩
def o235 (P : Params) : Obj := ⟨(.type "tuple"), none, (.seq #[] 0), #[]⟩
def o236 (P : Params) : Obj := ⟨.none, none, (.func ⟨(S "worths"), (S "Thing.worths"), (dM 23 1).params, .stmts (dM 23 1).body, (dM 23 1).scope, 0, [], .none, .none, .none, .none, none, .none, .none, 0⟩), #[]⟩
def o237 (P : Params) : Obj := ⟨(.type "code"), none, (.fields #[(.str (S "worths") 490), (.str (S "Thing.worths") 491), (.str (S "/claim/cut.py") 492), (.int 90 0), (.int 1 0), (.int 0 0), (.int 0 0), (.int 3 0), (.ref 241), (.bool true), (.int 181 0), (.ref 242), .none, (.ref 243), (.ref 244), (.ref 245), (.int 494 0), (.int 90 0), (.str (S "/claim/cut.py") 495)]), #[]⟩
def o238 (P : Params) : Obj := ⟨(.type "function"), none, (.func ⟨(S "worths"), (S "Thing.worths"), (dM 23 1).params, .stmts (dM 23 1).body, (dM 23 1).scope, 3, [], .none, .none, .none, (.str (S "meettasks.things") 436), none, (.ref 246), .none, 0⟩), #[]⟩
def o239 (P : Params) : Obj := ⟨(.type "tuple"), none, (.seq #[] 0), #[]⟩
def o240 (P : Params) : Obj := ⟨.none, none, (.fields #[]), #[]⟩
def o241 (P : Params) : Obj := ⟨(.type "tuple"), none, (.seq #[(.str (S "self") 500)] 0), #[]⟩
def o242 (P : Params) : Obj := ⟨(.type "tuple"), none, (.seq #[] 0), #[]⟩
def o243 (P : Params) : Obj := ⟨.none, none, (.func ⟨(S "start"), (S "Thing.start"), (dM 23 2).params, .stmts (dM 23 2).body, (dM 23 2).scope, 0, [], .none, .none, .none, .none, none, .none, .none, 0⟩), #[]⟩
def o244 (P : Params) : Obj := ⟨(.type "code"), none, (.fields #[(.str (S "start") 497), (.str (S "Thing.start") 498), (.str (S "/claim/cut.py") 499), (.int 93 0), (.int 1 0), (.int 0 0), (.int 0 0), (.int 3 0), (.ref 248), (.bool true), (.int 181 0), (.ref 249), .none, (.ref 250), (.ref 251), (.ref 252), (.int 501 0), (.int 93 0), (.str (S "/claim/cut.py") 502)]), #[]⟩
def o245 (P : Params) : Obj := ⟨(.type "function"), none, (.func ⟨(S "start"), (S "Thing.start"), (dM 23 2).params, .stmts (dM 23 2).body, (dM 23 2).scope, 3, [], .none, .none, .none, (.str (S "meettasks.things") 436), none, (.ref 253), .none, 0⟩), #[]⟩
def o246 (P : Params) : Obj := ⟨(.type "tuple"), none, (.seq #[] 0), #[]⟩
def o247 (P : Params) : Obj := ⟨.none, none, (.fields #[]), #[]⟩
def o248 (P : Params) : Obj := ⟨.none, none, (.func ⟨(S "deeds"), (S "Thing.deeds"), (dM 23 3).params, .stmts (dM 23 3).body, (dM 23 3).scope, 0, [], .none, .none, .none, .none, none, .none, .none, 0⟩), #[]⟩
def o249 (P : Params) : Obj := ⟨(.type "code"), none, (.fields #[(.str (S "deeds") 504), (.str (S "Thing.deeds") 505), (.str (S "/claim/cut.py") 506), (.int 96 0), (.int 1 0), (.int 0 0), (.int 0 0), (.int 3 0), (.ref 255), (.bool true), (.int 181 0), (.ref 256), .none, .none, .none, (.ref 257), (.int 507 0), (.int 96 0), (.str (S "/claim/cut.py") 508)]), #[]⟩
def o250 (P : Params) : Obj := ⟨(.type "function"), none, (.func ⟨(S "deeds"), (S "Thing.deeds"), (dM 23 3).params, .stmts (dM 23 3).body, (dM 23 3).scope, 3, [], .none, .none, .none, (.str (S "meettasks.things") 436), none, (.ref 258), .none, 0⟩), #[]⟩
def o251 (P : Params) : Obj := ⟨(.type "tuple"), none, (.seq #[] 0), #[]⟩
def o252 (P : Params) : Obj := ⟨.none, none, (.fields #[]), #[]⟩
def o253 (P : Params) : Obj := ⟨.none, none, (.func ⟨(S "entries"), (S "Thing.entries"), (dM 23 4).params, .stmts (dM 23 4).body, (dM 23 4).scope, 0, [], .none, .none, .none, .none, none, .none, .none, 0⟩), #[]⟩
def o254 (P : Params) : Obj := ⟨(.type "code"), none, (.fields #[(.str (S "entries") 510), (.str (S "Thing.entries") 511), (.str (S "/claim/cut.py") 512), (.int 99 0), (.int 1 0), (.int 0 0), (.int 0 0), (.int 3 0), (.ref 260), (.bool true), (.int 181 0), (.ref 261), .none, .none, .none, (.ref 262), (.int 513 0), (.int 99 0), (.str (S "/claim/cut.py") 514)]), #[]⟩
def o255 (P : Params) : Obj := ⟨(.type "function"), none, (.func ⟨(S "entries"), (S "Thing.entries"), (dM 23 4).params, .stmts (dM 23 4).body, (dM 23 4).scope, 3, [], .none, .none, .none, (.str (S "meettasks.things") 436), none, (.ref 263), .none, 0⟩), #[]⟩
def o256 (P : Params) : Obj := ⟨(.type "tuple"), none, (.seq #[] 0), #[]⟩
def o257 (P : Params) : Obj := ⟨.none, none, (.fields #[]), #[]⟩
def o258 (P : Params) : Obj := ⟨(.type "tuple"), none, (.seq #[(.str (S "self") 519), (.str (S "other") 520)] 0), #[]⟩
def o259 (P : Params) : Obj := ⟨(.type "tuple"), none, (.seq #[] 0), #[]⟩
def o260 (P : Params) : Obj := ⟨.none, none, (.func ⟨(S "__eq__"), (S "Thing.__eq__"), (dM 23 5).params, .stmts (dM 23 5).body, (dM 23 5).scope, 0, [], .none, .none, .none, .none, none, .none, .none, 0⟩), #[]⟩
def o261 (P : Params) : Obj := ⟨(.type "code"), none, (.fields #[(.str (S "__eq__") 516), (.str (S "Thing.__eq__") 517), (.str (S "/claim/cut.py") 518), (.int 102 0), (.int 2 0), (.int 0 0), (.int 0 0), (.int 3 0), (.ref 265), (.bool true), (.int 181 0), (.ref 266), .none, (.ref 267), (.ref 268), (.ref 269), (.int 521 0), (.int 102 0), (.str (S "/claim/cut.py") 522)]), #[]⟩
def o262 (P : Params) : Obj := ⟨(.type "function"), none, (.func ⟨(S "__eq__"), (S "Thing.__eq__"), (dM 23 5).params, .stmts (dM 23 5).body, (dM 23 5).scope, 3, [], .none, .none, .none, (.str (S "meettasks.things") 436), none, (.ref 270), .none, 0⟩), #[]⟩
def o263 (P : Params) : Obj := ⟨(.type "tuple"), none, (.seq #[(.str (S "kept_deeds") 524), (.str (S "kept_entries") 525), (.str (S "kept_start") 526), (.str (S "kept_values") 527)] 0), #[]⟩
def o264 (P : Params) : Obj := ⟨(.type "dict"), none, (.dict #[E P "__module__" 472 (.str (S "meettasks.things") 436), E P "__firstlineno__" 476 (.int 73 475), E P "__init__" 489 (.ref 240), E P "worths" 496 (.ref 247), E P "start" 503 (.ref 254), E P "deeds" 509 (.ref 259), E P "entries" 515 (.ref 264), E P "__eq__" 523 (.ref 271), E P "__static_attributes__" 528 (.ref 272), E P "__dict__" 530 (.ref 275), E P "__weakref__" 532 (.ref 276), E P "__doc__" 533 .none, E P "__hash__" 534 .none] 5), #[]⟩
def o265 (P : Params) : Obj := ⟨(.type "type"), none, (.cls ⟨(S "Thing"), [(.type "object")], [(.ref 274), (.type "object")], 273, (S "Thing"), true, [], [], false, none, false⟩), #[none, none, (some (.str (S "Thing") 465)), (some (.str (S "Thing") 473)), (some (.builtin "object.__new__")), (some (.bool true))]⟩
def o266 (P : Params) : Obj := ⟨(.type "getset_descriptor"), none, (.fields #[(.str (S "__dict__") 529), (.ref 274), (.builtin "function.__dict__"), (.builtin "function.__dict__#set")]), #[]⟩
def o267 (P : Params) : Obj := ⟨(.type "getset_descriptor"), none, (.fields #[(.str (S "__weakref__") 531), (.ref 274), (.builtin "ExceptionGroup.__weakref__"), .none]), #[]⟩
def o268 (P : Params) : Obj := ⟨(.type "super"), none, (.fields #[(.ref 274), (.ref 274), (.ref 274)]), #[]⟩
def o269 (P : Params) : Obj := ⟨(.type "builtin_function_or_method"), none, (.fields #[(.builtin "object.__init_subclass__"), (.ref 274)]), #[]⟩
def o270 (P : Params) : Obj := ⟨(.type "tuple"), none, (.seq #[] 0), #[]⟩
def o271 (P : Params) : Obj := ⟨.none, none, (.fields #[]), #[]⟩
def o272 (P : Params) : Obj := ⟨(.type "tuple"), none, (.seq #[(.str (S "thing") 542)] 0), #[]⟩
def o273 (P : Params) : Obj := ⟨(.type "tuple"), none, (.seq #[] 0), #[]⟩
def o274 (P : Params) : Obj := ⟨.none, none, (.func ⟨(S "names_of"), (S "names_of"), (dT 25).params, .stmts (dT 25).body, (dT 25).scope, 0, [], .none, .none, .none, .none, none, .none, .none, 0⟩), #[]⟩
def o275 (P : Params) : Obj := ⟨(.type "code"), none, (.fields #[(.str (S "names_of") 539), (.str (S "names_of") 540), (.str (S "/claim/cut.py") 541), (.int 107 0), (.int 1 0), (.int 0 0), (.int 0 0), (.int 3 0), (.ref 279), (.bool true), (.int 181 0), (.ref 280), .none, (.ref 281), (.ref 282), (.ref 283), (.int 543 0), (.int 107 0), (.str (S "/claim/cut.py") 544)]), #[]⟩
def o276 (P : Params) : Obj := ⟨(.type "function"), none, (.func ⟨(S "names_of"), (S "names_of"), (dT 25).params, .stmts (dT 25).body, (dT 25).scope, 3, [], .none, .none, .none, (.str (S "meettasks.uses") 537), none, (.ref 284), .none, 0⟩), #[]⟩
def o277 (P : Params) : Obj := ⟨(.type "tuple"), none, (.seq #[] 0), #[]⟩
def o278 (P : Params) : Obj := ⟨.none, none, (.fields #[]), #[]⟩
def o279 (P : Params) : Obj := ⟨(.type "tuple"), none, (.seq #[(.str (S "thing") 549), (.str (S "worth") 550), (.str (S "name") 551)] 0), #[]⟩
def o280 (P : Params) : Obj := ⟨(.type "tuple"), none, (.seq #[] 0), #[]⟩
def o281 (P : Params) : Obj := ⟨.none, none, (.func ⟨(S "led_to"), (S "led_to"), (dT 26).params, .stmts (dT 26).body, (dT 26).scope, 0, [], .none, .none, .none, .none, none, .none, .none, 0⟩), #[]⟩
def o282 (P : Params) : Obj := ⟨(.type "code"), none, (.fields #[(.str (S "led_to") 546), (.str (S "led_to") 547), (.str (S "/claim/cut.py") 548), (.int 109 0), (.int 3 0), (.int 0 0), (.int 0 0), (.int 3 0), (.ref 286), (.bool true), (.int 181 0), (.ref 287), .none, (.ref 288), (.ref 289), (.ref 290), (.int 552 0), (.int 109 0), (.str (S "/claim/cut.py") 553)]), #[]⟩
def o283 (P : Params) : Obj := ⟨(.type "function"), none, (.func ⟨(S "led_to"), (S "led_to"), (dT 26).params, .stmts (dT 26).body, (dT 26).scope, 3, [], .none, .none, .none, (.str (S "meettasks.uses") 537), none, (.ref 291), .none, 0⟩), #[]⟩
def o284 (P : Params) : Obj := ⟨(.type "tuple"), none, (.seq #[] 0), #[]⟩
def o285 (P : Params) : Obj := ⟨.none, none, (.fields #[]), #[]⟩
def o286 (P : Params) : Obj := ⟨(.type "tuple"), none, (.seq #[(.str (S "thing") 558), (.str (S "begin") 559), (.str (S "names") 560), (.str (S "is_let") 561), (.str (S "found") 562), (.str (S "waiting") 563), (.str (S "later") 564), (.str (S "worth") 565), (.str (S "name") 566), (.str (S "goal") 567)] 0), #[]⟩
def o287 (P : Params) : Obj := ⟨(.type "tuple"), none, (.seq #[] 0), #[]⟩
def o288 (P : Params) : Obj := ⟨.none, none, (.func ⟨(S "rows_from"), (S "rows_from"), (dT 27).params, .stmts (dT 27).body, (dT 27).scope, 0, [], .none, .none, .none, .none, none, .none, .none, 0⟩), #[]⟩
def o289 (P : Params) : Obj := ⟨(.type "code"), none, (.fields #[(.str (S "rows_from") 555), (.str (S "rows_from") 556), (.str (S "/claim/cut.py") 557), (.int 113 0), (.int 4 0), (.int 0 0), (.int 0 0), (.int 3 0), (.ref 293), (.bool true), (.int 181 0), (.ref 294), .none, (.ref 295), (.ref 296), (.ref 297), (.int 568 0), (.int 113 0), (.str (S "/claim/cut.py") 569)]), #[]⟩
def o290 (P : Params) : Obj := ⟨(.type "function"), none, (.func ⟨(S "rows_from"), (S "rows_from"), (dT 27).params, .stmts (dT 27).body, (dT 27).scope, 3, [], .none, .none, .none, (.str (S "meettasks.uses") 537), none, (.ref 298), .none, 0⟩), #[]⟩
def o291 (P : Params) : Obj := ⟨(.type "tuple"), none, (.seq #[] 0), #[]⟩
def o292 (P : Params) : Obj := ⟨.none, none, (.fields #[]), #[]⟩
def o293 (P : Params) : Obj := ⟨(.type "tuple"), none, (.seq #[(.str (S "callers") 576)] 0), #[]⟩
def o294 (P : Params) : Obj := ⟨(.type "tuple"), none, (.seq #[] 0), #[]⟩
def o295 (P : Params) : Obj := ⟨.none, none, (.func ⟨(S "check_number"), (S "check_number"), (dT 29).params, .stmts (dT 29).body, (dT 29).scope, 0, [], .none, .none, .none, .none, none, .none, .none, 0⟩), #[]⟩
def o296 (P : Params) : Obj := ⟨(.type "code"), none, (.fields #[(.str (S "check_number") 573), (.str (S "check_number") 574), (.str (S "/claim/cut.py") 575), (.int 126 0), (.int 1 0), (.int 0 0), (.int 0 0), (.int 3 0), (.ref 300), (.bool true), (.int 181 0), (.ref 301), .none, (.ref 302), (.ref 303), (.ref 304), (.int 577 0), (.int 126 0), (.str (S "/claim/cut.py") 578)]), #[]⟩
def o297 (P : Params) : Obj := ⟨(.type "function"), none, (.func ⟨(S "check_number"), (S "check_number"), (dT 29).params, .stmts (dT 29).body, (dT 29).scope, 3, [], .none, .none, .none, (.str (S "meettasks.callrows") 571), none, (.ref 305), .none, 0⟩), #[]⟩
def o298 (P : Params) : Obj := ⟨(.type "tuple"), none, (.seq #[] 0), #[]⟩
def o299 (P : Params) : Obj := ⟨.none, none, (.fields #[]), #[]⟩
def o300 (P : Params) : Obj := ⟨.none, none, (.func ⟨(S "first_state"), (S "first_state"), (dT 30).params, .stmts (dT 30).body, (dT 30).scope, 0, [], .none, .none, .none, .none, none, .none, .none, 0⟩), #[]⟩
def o301 (P : Params) : Obj := ⟨(.type "code"), none, (.fields #[(.str (S "first_state") 580), (.str (S "first_state") 581), (.str (S "/claim/cut.py") 582), (.int 129 0), (.int 2 0), (.int 0 0), (.int 0 0), (.int 3 0), (.ref 307), (.bool true), (.int 181 0), (.ref 308), .none, .none, .none, (.ref 309), (.int 583 0), (.int 129 0), (.str (S "/claim/cut.py") 584)]), #[]⟩
def o302 (P : Params) : Obj := ⟨(.type "function"), none, (.func ⟨(S "first_state"), (S "first_state"), (dT 30).params, .stmts (dT 30).body, (dT 30).scope, 3, [], .none, .none, .none, (.str (S "meettasks.callrows") 571), none, (.ref 310), .none, 0⟩), #[]⟩
def o303 (P : Params) : Obj := ⟨(.type "tuple"), none, (.seq #[] 0), #[]⟩
def o304 (P : Params) : Obj := ⟨.none, none, (.fields #[]), #[]⟩
def o305 (P : Params) : Obj := ⟨.none, none, (.func ⟨(S "is_waiting"), (S "is_waiting"), (dT 31).params, .stmts (dT 31).body, (dT 31).scope, 0, [], .none, .none, .none, .none, none, .none, .none, 0⟩), #[]⟩
def o306 (P : Params) : Obj := ⟨(.type "code"), none, (.fields #[(.str (S "is_waiting") 586), (.str (S "is_waiting") 587), (.str (S "/claim/cut.py") 588), (.int 131 0), (.int 2 0), (.int 0 0), (.int 0 0), (.int 3 0), (.ref 312), (.bool true), (.int 181 0), (.ref 313), .none, .none, .none, (.ref 314), (.int 589 0), (.int 131 0), (.str (S "/claim/cut.py") 590)]), #[]⟩
def o307 (P : Params) : Obj := ⟨(.type "function"), none, (.func ⟨(S "is_waiting"), (S "is_waiting"), (dT 31).params, .stmts (dT 31).body, (dT 31).scope, 3, [], .none, .none, .none, (.str (S "meettasks.callrows") 571), none, (.ref 315), .none, 0⟩), #[]⟩
def o308 (P : Params) : Obj := ⟨(.type "tuple"), none, (.seq #[] 0), #[]⟩
def o309 (P : Params) : Obj := ⟨.none, none, (.fields #[]), #[]⟩
def o310 (P : Params) : Obj := ⟨(.type "tuple"), none, (.seq #[(.str (S "thing") 595), (.str (S "callers") 596), (.str (S "state") 597), (.str (S "call") 598)] 0), #[]⟩
def o311 (P : Params) : Obj := ⟨(.type "tuple"), none, (.seq #[] 0), #[]⟩
def o312 (P : Params) : Obj := ⟨.none, none, (.func ⟨(S "is_call"), (S "is_call"), (dT 32).params, .stmts (dT 32).body, (dT 32).scope, 0, [], .none, .none, .none, .none, none, .none, .none, 0⟩), #[]⟩
def o313 (P : Params) : Obj := ⟨(.type "code"), none, (.fields #[(.str (S "is_call") 592), (.str (S "is_call") 593), (.str (S "/claim/cut.py") 594), (.int 133 0), (.int 4 0), (.int 0 0), (.int 0 0), (.int 3 0), (.ref 317), (.bool true), (.int 181 0), (.ref 318), .none, (.ref 319), (.ref 320), (.ref 321), (.int 599 0), (.int 133 0), (.str (S "/claim/cut.py") 600)]), #[]⟩
def o314 (P : Params) : Obj := ⟨(.type "function"), none, (.func ⟨(S "is_call"), (S "is_call"), (dT 32).params, .stmts (dT 32).body, (dT 32).scope, 3, [], .none, .none, .none, (.str (S "meettasks.callrows") 571), none, (.ref 322), .none, 0⟩), #[]⟩
def o315 (P : Params) : Obj := ⟨(.type "tuple"), none, (.seq #[] 0), #[]⟩
def o316 (P : Params) : Obj := ⟨.none, none, (.fields #[]), #[]⟩
def o317 (P : Params) : Obj := ⟨(.type "tuple"), none, (.seq #[(.str (S "thing") 605), (.str (S "state") 606), (.str (S "worth") 607), (.str (S "waiting") 608), (.str (S "gone") 609), (.str (S "again") 610), (.str (S "number") 611), (.str (S "entry") 612)] 0), #[]⟩
def o318 (P : Params) : Obj := ⟨(.type "tuple"), none, (.seq #[] 0), #[]⟩
def o319 (P : Params) : Obj := ⟨.none, none, (.func ⟨(S "served"), (S "served"), (dT 33).params, .stmts (dT 33).body, (dT 33).scope, 0, [], .none, .none, .none, .none, none, .none, .none, 0⟩), #[]⟩
def o320 (P : Params) : Obj := ⟨(.type "code"), none, (.fields #[(.str (S "served") 602), (.str (S "served") 603), (.str (S "/claim/cut.py") 604), (.int 137 0), (.int 2 0), (.int 0 0), (.int 0 0), (.int 3 0), (.ref 324), (.bool true), (.int 181 0), (.ref 325), .none, (.ref 326), (.ref 327), (.ref 328), (.int 613 0), (.int 137 0), (.str (S "/claim/cut.py") 614)]), #[]⟩
def o321 (P : Params) : Obj := ⟨(.type "function"), none, (.func ⟨(S "served"), (S "served"), (dT 33).params, .stmts (dT 33).body, (dT 33).scope, 3, [], .none, .none, .none, (.str (S "meettasks.callrows") 571), none, (.ref 329), .none, 0⟩), #[]⟩
def o322 (P : Params) : Obj := ⟨(.type "tuple"), none, (.seq #[] 0), #[]⟩
def o323 (P : Params) : Obj := ⟨.none, none, (.fields #[]), #[]⟩
def o324 (P : Params) : Obj := ⟨(.type "tuple"), none, (.seq #[(.str (S "thing") 619), (.str (S "state") 620), (.str (S "call") 621), (.str (S "caller") 622), (.str (S "name") 623), (.str (S "goal") 624), (.str (S "later") 625), (.str (S "gone") 626), (.str (S "number") 627)] 0), #[]⟩
def o325 (P : Params) : Obj := ⟨(.type "tuple"), none, (.seq #[] 0), #[]⟩
def o326 (P : Params) : Obj := ⟨.none, none, (.func ⟨(S "called"), (S "called"), (dT 34).params, .stmts (dT 34).body, (dT 34).scope, 0, [], .none, .none, .none, .none, none, .none, .none, 0⟩), #[]⟩
def o327 (P : Params) : Obj := ⟨(.type "code"), none, (.fields #[(.str (S "called") 616), (.str (S "called") 617), (.str (S "/claim/cut.py") 618), (.int 148 0), (.int 3 0), (.int 0 0), (.int 0 0), (.int 3 0), (.ref 331), (.bool true), (.int 181 0), (.ref 332), .none, (.ref 333), (.ref 334), (.ref 335), (.int 628 0), (.int 148 0), (.str (S "/claim/cut.py") 629)]), #[]⟩
def o328 (P : Params) : Obj := ⟨(.type "function"), none, (.func ⟨(S "called"), (S "called"), (dT 34).params, .stmts (dT 34).body, (dT 34).scope, 3, [], .none, .none, .none, (.str (S "meettasks.callrows") 571), none, (.ref 336), .none, 0⟩), #[]⟩
def o329 (P : Params) : Obj := ⟨(.type "tuple"), none, (.seq #[] 0), #[]⟩
def o330 (P : Params) : Obj := ⟨.none, none, (.fields #[]), #[]⟩
def o331 (P : Params) : Obj := ⟨(.type "tuple"), none, (.seq #[(.str (S "thing") 634), (.str (S "callers") 635), (.str (S "calls") 636), (.str (S "state") 637), (.str (S "found") 638), (.str (S "index") 639), (.str (S "call") 640), (.str (S "gone") 641)] 0), #[]⟩
def o332 (P : Params) : Obj := ⟨(.type "tuple"), none, (.seq #[] 0), #[]⟩
def o333 (P : Params) : Obj := ⟨.none, none, (.func ⟨(S "gone_on"), (S "gone_on"), (dT 35).params, .stmts (dT 35).body, (dT 35).scope, 0, [], .none, .none, .none, .none, none, .none, .none, 0⟩), #[]⟩
def o334 (P : Params) : Obj := ⟨(.type "code"), none, (.fields #[(.str (S "gone_on") 631), (.str (S "gone_on") 632), (.str (S "/claim/cut.py") 633), (.int 156 0), (.int 3 0), (.int 0 0), (.int 0 0), (.int 3 0), (.ref 338), (.bool true), (.int 181 0), (.ref 339), .none, (.ref 340), (.ref 341), (.ref 342), (.int 642 0), (.int 156 0), (.str (S "/claim/cut.py") 643)]), #[]⟩
def o335 (P : Params) : Obj := ⟨(.type "function"), none, (.func ⟨(S "gone_on"), (S "gone_on"), (dT 35).params, .stmts (dT 35).body, (dT 35).scope, 3, [], .none, .none, .none, (.str (S "meettasks.callrows") 571), none, (.ref 343), .none, 0⟩), #[]⟩
def o336 (P : Params) : Obj := ⟨(.type "tuple"), none, (.seq #[] 0), #[]⟩
def o337 (P : Params) : Obj := ⟨.none, none, (.fields #[]), #[]⟩
def o338 (P : Params) : Obj := ⟨.none, none, (.func ⟨(S "calls_let"), (S "calls_let"), (dT 36).params, .stmts (dT 36).body, (dT 36).scope, 0, [], .none, .none, .none, .none, none, .none, .none, 0⟩), #[]⟩
def o339 (P : Params) : Obj := ⟨(.type "code"), none, (.fields #[(.str (S "calls_let") 645), (.str (S "calls_let") 646), (.str (S "/claim/cut.py") 647), (.int 167 0), (.int 3 0), (.int 0 0), (.int 0 0), (.int 3 0), (.ref 345), (.bool true), (.int 181 0), (.ref 346), .none, .none, .none, (.ref 347), (.int 648 0), (.int 167 0), (.str (S "/claim/cut.py") 649)]), #[]⟩
def o340 (P : Params) : Obj := ⟨(.type "function"), none, (.func ⟨(S "calls_let"), (S "calls_let"), (dT 36).params, .stmts (dT 36).body, (dT 36).scope, 3, [], .none, .none, .none, (.str (S "meettasks.callrows") 571), none, (.ref 348), .none, 0⟩), #[]⟩
def o341 (P : Params) : Obj := ⟨(.type "tuple"), none, (.seq #[] 0), #[]⟩
def o342 (P : Params) : Obj := ⟨.none, none, (.fields #[]), #[]⟩
def o343 (P : Params) : Obj := ⟨(.type "tuple"), none, (.seq #[(.str (S "one") 654), (.str (S "other") 655), (.str (S "callers") 656), (.str (S "first") 657), (.str (S "second") 658), (.str (S "begin") 659), (.str (S "met") 660), (.str (S "waiting") 661), (.str (S "later") 662), (.str (S "mine") 663), (.str (S "theirs") 664), (.str (S "way") 665), (.str (S "call") 666), (.str (S "here") 667), (.str (S "there") 668)] 0), #[]⟩
def o344 (P : Params) : Obj := ⟨(.type "tuple"), none, (.seq #[] 0), #[]⟩
def o345 (P : Params) : Obj := ⟨.none, none, (.func ⟨(S "parting_from"), (S "parting_from"), (dT 37).params, .stmts (dT 37).body, (dT 37).scope, 0, [], .none, .none, .none, .none, none, .none, .none, 0⟩), #[]⟩
def o346 (P : Params) : Obj := ⟨(.type "code"), none, (.fields #[(.str (S "parting_from") 651), (.str (S "parting_from") 652), (.str (S "/claim/cut.py") 653), (.int 173 0), (.int 5 0), (.int 0 0), (.int 0 0), (.int 3 0), (.ref 350), (.bool true), (.int 181 0), (.ref 351), .none, (.ref 352), (.ref 353), (.ref 354), (.int 669 0), (.int 173 0), (.str (S "/claim/cut.py") 670)]), #[]⟩
def o347 (P : Params) : Obj := ⟨(.type "function"), none, (.func ⟨(S "parting_from"), (S "parting_from"), (dT 37).params, .stmts (dT 37).body, (dT 37).scope, 3, [], .none, .none, .none, (.str (S "meettasks.callrows") 571), none, (.ref 355), .none, 0⟩), #[]⟩
def o348 (P : Params) : Obj := ⟨(.type "tuple"), none, (.seq #[] 0), #[]⟩
def o349 (P : Params) : Obj := ⟨.none, none, (.fields #[]), #[]⟩
def o350 (P : Params) : Obj := ⟨(.type "tuple"), none, (.seq #[(.str (S "one") 675), (.str (S "other") 676), (.str (S "callers") 677)] 0), #[]⟩
def o351 (P : Params) : Obj := ⟨(.type "tuple"), none, (.seq #[] 0), #[]⟩
def o352 (P : Params) : Obj := ⟨.none, none, (.func ⟨(S "calls_that_part"), (S "calls_that_part"), (dT 38).params, .stmts (dT 38).body, (dT 38).scope, 0, [], .none, .none, .none, .none, none, .none, .none, 0⟩), #[]⟩
def o353 (P : Params) : Obj := ⟨(.type "code"), none, (.fields #[(.str (S "calls_that_part") 672), (.str (S "calls_that_part") 673), (.str (S "/claim/cut.py") 674), (.int 188 0), (.int 3 0), (.int 0 0), (.int 0 0), (.int 3 0), (.ref 357), (.bool true), (.int 181 0), (.ref 358), .none, (.ref 359), (.ref 360), (.ref 361), (.int 678 0), (.int 188 0), (.str (S "/claim/cut.py") 679)]), #[]⟩
def o354 (P : Params) : Obj := ⟨(.type "function"), none, (.func ⟨(S "calls_that_part"), (S "calls_that_part"), (dT 38).params, .stmts (dT 38).body, (dT 38).scope, 3, [], .none, .none, .none, (.str (S "meettasks.callrows") 571), none, (.ref 362), .none, 0⟩), #[]⟩
def o355 (P : Params) : Obj := ⟨(.type "tuple"), none, (.seq #[] 0), #[]⟩
def o356 (P : Params) : Obj := ⟨.none, none, (.fields #[]), #[]⟩
def o357 (P : Params) : Obj := ⟨.none, none, (.func ⟨(S "lots_by_first"), (S "lots_by_first"), (dT 39).params, .stmts (dT 39).body, (dT 39).scope, 0, [], .none, .none, .none, .none, none, .none, .none, 0⟩), #[]⟩
def o358 (P : Params) : Obj := ⟨(.type "code"), none, (.fields #[(.str (S "lots_by_first") 681), (.str (S "lots_by_first") 682), (.str (S "/claim/cut.py") 683), (.int 193 0), (.int 2 0), (.int 0 0), (.int 0 0), (.int 3 0), (.ref 364), (.bool true), (.int 181 0), (.ref 365), .none, .none, .none, (.ref 366), (.int 684 0), (.int 193 0), (.str (S "/claim/cut.py") 685)]), #[]⟩
def o359 (P : Params) : Obj := ⟨(.type "function"), none, (.func ⟨(S "lots_by_first"), (S "lots_by_first"), (dT 39).params, .stmts (dT 39).body, (dT 39).scope, 3, [], .none, .none, .none, (.str (S "meettasks.callrows") 571), none, (.ref 367), .none, 0⟩), #[]⟩
def o360 (P : Params) : Obj := ⟨(.type "tuple"), none, (.seq #[] 0), #[]⟩
def o361 (P : Params) : Obj := ⟨.none, none, (.fields #[]), #[]⟩
def o362 (P : Params) : Obj := ⟨.none, none, (.func ⟨(S "like_values"), (S "like_values"), (dT 40).params, .stmts (dT 40).body, (dT 40).scope, 0, [], .none, .none, .none, .none, none, .none, .none, 0⟩), #[]⟩
def o363 (P : Params) : Obj := ⟨(.type "code"), none, (.fields #[(.str (S "like_values") 687), (.str (S "like_values") 688), (.str (S "/claim/cut.py") 689), (.int 202 0), (.int 2 0), (.int 0 0), (.int 0 0), (.int 3 0), (.ref 369), (.bool true), (.int 181 0), (.ref 370), .none, .none, .none, (.ref 371), (.int 690 0), (.int 202 0), (.str (S "/claim/cut.py") 691)]), #[]⟩
def o364 (P : Params) : Obj := ⟨(.type "function"), none, (.func ⟨(S "like_values"), (S "like_values"), (dT 40).params, .stmts (dT 40).body, (dT 40).scope, 3, [], .none, .none, .none, (.str (S "meettasks.callrows") 571), none, (.ref 372), .none, 0⟩), #[]⟩
def o365 (P : Params) : Obj := ⟨(.type "tuple"), none, (.seq #[] 0), #[]⟩
def o366 (P : Params) : Obj := ⟨.none, none, (.fields #[]), #[]⟩
def o367 (P : Params) : Obj := ⟨.none, none, (.func ⟨(S "least_thing"), (S "least_thing"), (dT 41).params, .stmts (dT 41).body, (dT 41).scope, 0, [], .none, .none, .none, .none, none, .none, .none, 0⟩), #[]⟩
def o368 (P : Params) : Obj := ⟨(.type "code"), none, (.fields #[(.str (S "least_thing") 693), (.str (S "least_thing") 694), (.str (S "/claim/cut.py") 695), (.int 205 0), (.int 2 0), (.int 0 0), (.int 0 0), (.int 3 0), (.ref 374), (.bool true), (.int 181 0), (.ref 375), .none, .none, .none, (.ref 376), (.int 696 0), (.int 205 0), (.str (S "/claim/cut.py") 697)]), #[]⟩
def o369 (P : Params) : Obj := ⟨(.type "function"), none, (.func ⟨(S "least_thing"), (S "least_thing"), (dT 41).params, .stmts (dT 41).body, (dT 41).scope, 3, [], .none, .none, .none, (.str (S "meettasks.callrows") 571), none, (.ref 377), .none, 0⟩), #[]⟩
def o370 (P : Params) : Obj := ⟨(.type "tuple"), none, (.seq #[] 0), #[]⟩
def o371 (P : Params) : Obj := ⟨.none, none, (.fields #[]), #[]⟩
def o372 (P : Params) : Obj := ⟨(.type "tuple"), none, (.seq #[(.str (S "_law_script") 704)] 0), #[]⟩
def o373 (P : Params) : Obj := ⟨(.type "tuple"), none, (.seq #[] 0), #[]⟩
def o374 (P : Params) : Obj := ⟨.none, none, (.func ⟨(S "_law_spring"), (S "_law_spring"), (dT 43).params, .stmts (dT 43).body, (dT 43).scope, 0, [], .none, .none, .none, .none, none, .none, .none, 0⟩), #[]⟩
def o375 (P : Params) : Obj := ⟨(.type "code"), none, (.fields #[(.str (S "_law_spring") 701), (.str (S "_law_spring") 702), (.str (S "/claim/cut.py") 703), (.int 219 0), (.int 1 0), (.int 0 0), (.int 0 0), (.int 3 0), (.ref 379), (.bool true), (.int 181 0), (.ref 380), .none, (.ref 381), (.ref 382), (.ref 383), (.int 705 0), (.int 219 0), (.str (S "/claim/cut.py") 706)]), #[]⟩
def o376 (P : Params) : Obj := ⟨(.type "function"), none, (.func ⟨(S "_law_spring"), (S "_law_spring"), (dT 43).params, .stmts (dT 43).body, (dT 43).scope, 3, [], .none, .none, .none, (.str (S "law_meettasks_k37_callers_in_rows") 699), none, (.ref 384), .none, 0⟩), #[]⟩
def o377 (P : Params) : Obj := ⟨(.type "tuple"), none, (.seq #[] 0), #[]⟩
def o378 (P : Params) : Obj := ⟨.none, none, (.fields #[]), #[]⟩
def o379 (P : Params) : Obj := ⟨(.type "tuple"), none, (.seq #[(.str (S "_law_spring_here") 711), (.str (S "_law_many") 712), (.str (S "_law_cell") 713), (.str (S "_law_digit") 714), (.str (S "_law_mixed") 715)] 0), #[]⟩
def o380 (P : Params) : Obj := ⟨(.type "tuple"), none, (.seq #[] 0), #[]⟩
def o381 (P : Params) : Obj := ⟨.none, none, (.func ⟨(S "_law_take"), (S "_law_take"), (dT 44).params, .stmts (dT 44).body, (dT 44).scope, 0, [], .none, .none, .none, .none, none, .none, .none, 0⟩), #[]⟩
def o382 (P : Params) : Obj := ⟨(.type "code"), none, (.fields #[(.str (S "_law_take") 708), (.str (S "_law_take") 709), (.str (S "/claim/cut.py") 710), (.int 221 0), (.int 2 0), (.int 0 0), (.int 0 0), (.int 3 0), (.ref 386), (.bool true), (.int 181 0), (.ref 387), .none, (.ref 388), (.ref 389), (.ref 390), (.int 716 0), (.int 221 0), (.str (S "/claim/cut.py") 717)]), #[]⟩
def o383 (P : Params) : Obj := ⟨(.type "function"), none, (.func ⟨(S "_law_take"), (S "_law_take"), (dT 44).params, .stmts (dT 44).body, (dT 44).scope, 3, [], .none, .none, .none, (.str (S "law_meettasks_k37_callers_in_rows") 699), none, (.ref 391), .none, 0⟩), #[]⟩
def o384 (P : Params) : Obj := ⟨(.type "tuple"), none, (.seq #[] 0), #[]⟩
def o385 (P : Params) : Obj := ⟨.none, none, (.fields #[]), #[]⟩
def o386 (P : Params) : Obj := ⟨(.type "tuple"), none, (.seq #[(.str (S "_law_spring_here") 722), (.str (S "_law_things") 723)] 0), #[]⟩
def o387 (P : Params) : Obj := ⟨(.type "tuple"), none, (.seq #[] 0), #[]⟩
def o388 (P : Params) : Obj := ⟨.none, none, (.func ⟨(S "_law_one"), (S "_law_one"), (dT 45).params, .stmts (dT 45).body, (dT 45).scope, 0, [], .none, .none, .none, .none, none, .none, .none, 0⟩), #[]⟩
def o389 (P : Params) : Obj := ⟨(.type "code"), none, (.fields #[(.str (S "_law_one") 719), (.str (S "_law_one") 720), (.str (S "/claim/cut.py") 721), (.int 233 0), (.int 2 0), (.int 0 0), (.int 0 0), (.int 3 0), (.ref 393), (.bool true), (.int 181 0), (.ref 394), .none, (.ref 395), (.ref 396), (.ref 397), (.int 724 0), (.int 233 0), (.str (S "/claim/cut.py") 725)]), #[]⟩
def o390 (P : Params) : Obj := ⟨(.type "function"), none, (.func ⟨(S "_law_one"), (S "_law_one"), (dT 45).params, .stmts (dT 45).body, (dT 45).scope, 3, [], .none, .none, .none, (.str (S "law_meettasks_k37_callers_in_rows") 699), none, (.ref 398), .none, 0⟩), #[]⟩
def o391 (P : Params) : Obj := ⟨(.type "tuple"), none, (.seq #[] 0), #[]⟩
def o392 (P : Params) : Obj := ⟨.none, none, (.fields #[]), #[]⟩
def o393 (P : Params) : Obj := ⟨.none, none, (.func ⟨(S "_law_mix"), (S "_law_mix"), (dT 46).params, .stmts (dT 46).body, (dT 46).scope, 0, [], .none, .none, .none, .none, none, .none, .none, 0⟩), #[]⟩
def o394 (P : Params) : Obj := ⟨(.type "code"), none, (.fields #[(.str (S "_law_mix") 727), (.str (S "_law_mix") 728), (.str (S "/claim/cut.py") 729), (.int 235 0), (.int 2 0), (.int 0 0), (.int 0 0), (.int 3 0), (.ref 400), (.bool true), (.int 181 0), (.ref 401), .none, .none, .none, (.ref 402), (.int 730 0), (.int 235 0), (.str (S "/claim/cut.py") 731)]), #[]⟩
def o395 (P : Params) : Obj := ⟨(.type "function"), none, (.func ⟨(S "_law_mix"), (S "_law_mix"), (dT 46).params, .stmts (dT 46).body, (dT 46).scope, 3, [], .none, .none, .none, (.str (S "law_meettasks_k37_callers_in_rows") 699), none, (.ref 403), .none, 0⟩), #[]⟩
def o396 (P : Params) : Obj := ⟨(.type "tuple"), none, (.seq #[] 0), #[]⟩
def o397 (P : Params) : Obj := ⟨.none, none, (.fields #[]), #[]⟩
def o398 (P : Params) : Obj := ⟨.none, none, (.func ⟨(S "_law_thing"), (S "_law_thing"), (dT 47).params, .stmts (dT 47).body, (dT 47).scope, 0, [], .none, .none, .none, .none, none, .none, .none, 0⟩), #[]⟩
def o399 (P : Params) : Obj := ⟨(.type "code"), none, (.fields #[(.str (S "_law_thing") 733), (.str (S "_law_thing") 734), (.str (S "/claim/cut.py") 735), (.int 238 0), (.int 3 0), (.int 0 0), (.int 0 0), (.int 3 0), (.ref 405), (.bool true), (.int 181 0), (.ref 406), .none, .none, .none, (.ref 407), (.int 736 0), (.int 238 0), (.str (S "/claim/cut.py") 737)]), #[]⟩
def o400 (P : Params) : Obj := ⟨(.type "function"), none, (.func ⟨(S "_law_thing"), (S "_law_thing"), (dT 47).params, .stmts (dT 47).body, (dT 47).scope, 3, [], .none, .none, .none, (.str (S "law_meettasks_k37_callers_in_rows") 699), none, (.ref 408), .none, 0⟩), #[]⟩
def o401 (P : Params) : Obj := ⟨(.type "tuple"), none, (.seq #[] 0), #[]⟩
def o402 (P : Params) : Obj := ⟨.none, none, (.fields #[]), #[]⟩
def o403 (P : Params) : Obj := ⟨(.type "tuple"), none, (.seq #[(.str (S "_law_parts") 742)] 0), #[]⟩
def o404 (P : Params) : Obj := ⟨(.type "tuple"), none, (.seq #[] 0), #[]⟩
def o405 (P : Params) : Obj := ⟨.none, none, (.func ⟨(S "_law_made"), (S "_law_made"), (dT 48).params, .stmts (dT 48).body, (dT 48).scope, 0, [], .none, .none, .none, .none, none, .none, .none, 0⟩), #[]⟩
def o406 (P : Params) : Obj := ⟨(.type "code"), none, (.fields #[(.str (S "_law_made") 739), (.str (S "_law_made") 740), (.str (S "/claim/cut.py") 741), (.int 246 0), (.int 1 0), (.int 0 0), (.int 0 0), (.int 3 0), (.ref 410), (.bool true), (.int 181 0), (.ref 411), .none, (.ref 412), (.ref 413), (.ref 414), (.int 743 0), (.int 246 0), (.str (S "/claim/cut.py") 744)]), #[]⟩
def o407 (P : Params) : Obj := ⟨(.type "function"), none, (.func ⟨(S "_law_made"), (S "_law_made"), (dT 48).params, .stmts (dT 48).body, (dT 48).scope, 3, [], .none, .none, .none, (.str (S "law_meettasks_k37_callers_in_rows") 699), none, (.ref 415), .none, 0⟩), #[]⟩
def o408 (P : Params) : Obj := ⟨(.type "tuple"), none, (.seq #[] 0), #[]⟩
def o409 (P : Params) : Obj := ⟨.none, none, (.fields #[]), #[]⟩
def o410 (P : Params) : Obj := ⟨(.type "tuple"), none, (.seq #[(.str (S "_law_parts") 749)] 0), #[]⟩
def o411 (P : Params) : Obj := ⟨(.type "tuple"), none, (.seq #[] 0), #[]⟩
def o412 (P : Params) : Obj := ⟨.none, none, (.func ⟨(S "_law_names"), (S "_law_names"), (dT 49).params, .stmts (dT 49).body, (dT 49).scope, 0, [], .none, .none, .none, .none, none, .none, .none, 0⟩), #[]⟩
def o413 (P : Params) : Obj := ⟨(.type "code"), none, (.fields #[(.str (S "_law_names") 746), (.str (S "_law_names") 747), (.str (S "/claim/cut.py") 748), (.int 248 0), (.int 1 0), (.int 0 0), (.int 0 0), (.int 3 0), (.ref 417), (.bool true), (.int 181 0), (.ref 418), .none, (.ref 419), (.ref 420), (.ref 421), (.int 750 0), (.int 248 0), (.str (S "/claim/cut.py") 751)]), #[]⟩
def o414 (P : Params) : Obj := ⟨(.type "function"), none, (.func ⟨(S "_law_names"), (S "_law_names"), (dT 49).params, .stmts (dT 49).body, (dT 49).scope, 3, [], .none, .none, .none, (.str (S "law_meettasks_k37_callers_in_rows") 699), none, (.ref 422), .none, 0⟩), #[]⟩
def o415 (P : Params) : Obj := ⟨(.type "tuple"), none, (.seq #[] 0), #[]⟩
def o416 (P : Params) : Obj := ⟨.none, none, (.fields #[]), #[]⟩
def o417 (P : Params) : Obj := ⟨(.type "tuple"), none, (.seq #[(.str (S "_law_parts") 756), (.str (S "_law_worth") 757), (.str (S "_law_name") 758)] 0), #[]⟩
def o418 (P : Params) : Obj := ⟨(.type "tuple"), none, (.seq #[] 0), #[]⟩
def o419 (P : Params) : Obj := ⟨.none, none, (.func ⟨(S "_law_led"), (S "_law_led"), (dT 50).params, .stmts (dT 50).body, (dT 50).scope, 0, [], .none, .none, .none, .none, none, .none, .none, 0⟩), #[]⟩
def o420 (P : Params) : Obj := ⟨(.type "code"), none, (.fields #[(.str (S "_law_led") 753), (.str (S "_law_led") 754), (.str (S "/claim/cut.py") 755), (.int 250 0), (.int 3 0), (.int 0 0), (.int 0 0), (.int 3 0), (.ref 424), (.bool true), (.int 181 0), (.ref 425), .none, (.ref 426), (.ref 427), (.ref 428), (.int 759 0), (.int 250 0), (.str (S "/claim/cut.py") 760)]), #[]⟩
def o421 (P : Params) : Obj := ⟨(.type "function"), none, (.func ⟨(S "_law_led"), (S "_law_led"), (dT 50).params, .stmts (dT 50).body, (dT 50).scope, 3, [], .none, .none, .none, (.str (S "law_meettasks_k37_callers_in_rows") 699), none, (.ref 429), .none, 0⟩), #[]⟩
def o422 (P : Params) : Obj := ⟨(.type "tuple"), none, (.seq #[] 0), #[]⟩
def o423 (P : Params) : Obj := ⟨.none, none, (.fields #[]), #[]⟩
def o424 (P : Params) : Obj := ⟨.none, none, (.func ⟨(S "_law_after"), (S "_law_after"), (dT 51).params, .stmts (dT 51).body, (dT 51).scope, 0, [], .none, .none, .none, .none, none, .none, .none, 0⟩), #[]⟩
def o425 (P : Params) : Obj := ⟨(.type "code"), none, (.fields #[(.str (S "_law_after") 762), (.str (S "_law_after") 763), (.str (S "/claim/cut.py") 764), (.int 252 0), (.int 3 0), (.int 0 0), (.int 0 0), (.int 3 0), (.ref 431), (.bool true), (.int 181 0), (.ref 432), .none, .none, .none, (.ref 433), (.int 765 0), (.int 252 0), (.str (S "/claim/cut.py") 766)]), #[]⟩
def o426 (P : Params) : Obj := ⟨(.type "function"), none, (.func ⟨(S "_law_after"), (S "_law_after"), (dT 51).params, .stmts (dT 51).body, (dT 51).scope, 3, [], .none, .none, .none, (.str (S "law_meettasks_k37_callers_in_rows") 699), none, (.ref 434), .none, 0⟩), #[]⟩
def o427 (P : Params) : Obj := ⟨(.type "tuple"), none, (.seq #[] 0), #[]⟩
def o428 (P : Params) : Obj := ⟨.none, none, (.fields #[]), #[]⟩
def o429 (P : Params) : Obj := ⟨.none, none, (.func ⟨(S "_law_begin"), (S "_law_begin"), (dT 52).params, .stmts (dT 52).body, (dT 52).scope, 0, [], .none, .none, .none, .none, none, .none, .none, 0⟩), #[]⟩
def o430 (P : Params) : Obj := ⟨(.type "code"), none, (.fields #[(.str (S "_law_begin") 768), (.str (S "_law_begin") 769), (.str (S "/claim/cut.py") 770), (.int 267 0), (.int 2 0), (.int 0 0), (.int 0 0), (.int 3 0), (.ref 436), (.bool true), (.int 181 0), (.ref 437), .none, .none, .none, (.ref 438), (.int 771 0), (.int 267 0), (.str (S "/claim/cut.py") 772)]), #[]⟩
def o431 (P : Params) : Obj := ⟨(.type "function"), none, (.func ⟨(S "_law_begin"), (S "_law_begin"), (dT 52).params, .stmts (dT 52).body, (dT 52).scope, 3, [], .none, .none, .none, (.str (S "law_meettasks_k37_callers_in_rows") 699), none, (.ref 439), .none, 0⟩), #[]⟩
def o432 (P : Params) : Obj := ⟨(.type "tuple"), none, (.seq #[] 0), #[]⟩
def o433 (P : Params) : Obj := ⟨.none, none, (.fields #[]), #[]⟩
def o434 (P : Params) : Obj := ⟨.none, none, (.func ⟨(S "_law_waits"), (S "_law_waits"), (dT 53).params, .stmts (dT 53).body, (dT 53).scope, 0, [], .none, .none, .none, .none, none, .none, .none, 0⟩), #[]⟩
def o435 (P : Params) : Obj := ⟨(.type "code"), none, (.fields #[(.str (S "_law_waits") 774), (.str (S "_law_waits") 775), (.str (S "/claim/cut.py") 776), (.int 269 0), (.int 2 0), (.int 0 0), (.int 0 0), (.int 3 0), (.ref 441), (.bool true), (.int 181 0), (.ref 442), .none, .none, .none, (.ref 443), (.int 777 0), (.int 269 0), (.str (S "/claim/cut.py") 778)]), #[]⟩
def o436 (P : Params) : Obj := ⟨(.type "function"), none, (.func ⟨(S "_law_waits"), (S "_law_waits"), (dT 53).params, .stmts (dT 53).body, (dT 53).scope, 3, [], .none, .none, .none, (.str (S "law_meettasks_k37_callers_in_rows") 699), none, (.ref 444), .none, 0⟩), #[]⟩
def o437 (P : Params) : Obj := ⟨(.type "tuple"), none, (.seq #[] 0), #[]⟩
def o438 (P : Params) : Obj := ⟨.none, none, (.fields #[]), #[]⟩
def o439 (P : Params) : Obj := ⟨.none, none, (.func ⟨(S "_law_calls"), (S "_law_calls"), (dT 54).params, .stmts (dT 54).body, (dT 54).scope, 0, [], .none, .none, .none, .none, none, .none, .none, 0⟩), #[]⟩
def o440 (P : Params) : Obj := ⟨(.type "code"), none, (.fields #[(.str (S "_law_calls") 780), (.str (S "_law_calls") 781), (.str (S "/claim/cut.py") 782), (.int 271 0), (.int 3 0), (.int 0 0), (.int 0 0), (.int 3 0), (.ref 446), (.bool true), (.int 181 0), (.ref 447), .none, .none, .none, (.ref 448), (.int 783 0), (.int 271 0), (.str (S "/claim/cut.py") 784)]), #[]⟩
def o441 (P : Params) : Obj := ⟨(.type "function"), none, (.func ⟨(S "_law_calls"), (S "_law_calls"), (dT 54).params, .stmts (dT 54).body, (dT 54).scope, 3, [], .none, .none, .none, (.str (S "law_meettasks_k37_callers_in_rows") 699), none, (.ref 449), .none, 0⟩), #[]⟩
def o442 (P : Params) : Obj := ⟨(.type "tuple"), none, (.seq #[] 0), #[]⟩
def o443 (P : Params) : Obj := ⟨.none, none, (.fields #[]), #[]⟩
def o444 (P : Params) : Obj := ⟨(.type "tuple"), none, (.seq #[(.str (S "_law_one_here") 789), (.str (S "_law_other") 790), (.str (S "_law_callers") 791), (.str (S "_law_first") 792), (.str (S "_law_second") 793), (.str (S "_law_begin_here") 794), (.str (S "_law_met_here") 795), (.str (S "_law_tier") 796), (.str (S "_law_later") 797), (.str (S "_law_mine") 798), (.str (S "_law_theirs") 799), (.str (S "_law_row") 800), (.str (S "_law_call") 801), (.str (S "_law_here") 802), (.str (S "_law_there") 803), (.str (S "_law_both") 804)] 0), #[]⟩
def o445 (P : Params) : Obj := ⟨(.type "tuple"), none, (.seq #[] 0), #[]⟩
def o446 (P : Params) : Obj := ⟨.none, none, (.func ⟨(S "_law_parting"), (S "_law_parting"), (dT 55).params, .stmts (dT 55).body, (dT 55).scope, 0, [], .none, .none, .none, .none, none, .none, .none, 0⟩), #[]⟩
def o447 (P : Params) : Obj := ⟨(.type "code"), none, (.fields #[(.str (S "_law_parting") 786), (.str (S "_law_parting") 787), (.str (S "/claim/cut.py") 788), (.int 276 0), (.int 5 0), (.int 0 0), (.int 0 0), (.int 3 0), (.ref 451), (.bool true), (.int 181 0), (.ref 452), .none, (.ref 453), (.ref 454), (.ref 455), (.int 805 0), (.int 276 0), (.str (S "/claim/cut.py") 806)]), #[]⟩
def o448 (P : Params) : Obj := ⟨(.type "function"), none, (.func ⟨(S "_law_parting"), (S "_law_parting"), (dT 55).params, .stmts (dT 55).body, (dT 55).scope, 3, [], .none, .none, .none, (.str (S "law_meettasks_k37_callers_in_rows") 699), none, (.ref 456), .none, 0⟩), #[]⟩
def o449 (P : Params) : Obj := ⟨(.type "tuple"), none, (.seq #[] 0), #[]⟩
def o450 (P : Params) : Obj := ⟨.none, none, (.fields #[]), #[]⟩
def o451 (P : Params) : Obj := ⟨(.type "tuple"), none, (.seq #[(.str (S "_law_ask") 811), (.str (S "e") 812)] 0), #[]⟩
def o452 (P : Params) : Obj := ⟨(.type "tuple"), none, (.seq #[] 0), #[]⟩
def o453 (P : Params) : Obj := ⟨.none, none, (.func ⟨(S "_law_met"), (S "_law_met"), (dT 56).params, .stmts (dT 56).body, (dT 56).scope, 0, [], .none, .none, .none, .none, none, .none, .none, 0⟩), #[]⟩
def o454 (P : Params) : Obj := ⟨(.type "code"), none, (.fields #[(.str (S "_law_met") 808), (.str (S "_law_met") 809), (.str (S "/claim/cut.py") 810), (.int 292 0), (.int 1 0), (.int 0 0), (.int 0 0), (.int 3 0), (.ref 458), (.bool true), (.int 181 0), (.ref 459), .none, (.ref 460), (.ref 461), (.ref 462), (.int 813 0), (.int 292 0), (.str (S "/claim/cut.py") 814)]), #[]⟩
def o455 (P : Params) : Obj := ⟨(.type "function"), none, (.func ⟨(S "_law_met"), (S "_law_met"), (dT 56).params, .stmts (dT 56).body, (dT 56).scope, 3, [], .none, .none, .none, (.str (S "law_meettasks_k37_callers_in_rows") 699), none, (.ref 463), .none, 0⟩), #[]⟩
def o456 (P : Params) : Obj := ⟨(.type "tuple"), none, (.seq #[] 0), #[]⟩
def o457 (P : Params) : Obj := ⟨.none, none, (.fields #[]), #[]⟩
def o458 (P : Params) : Obj := ⟨.none, none, (.func ⟨(S "_law_refused"), (S "_law_refused"), (dT 57).params, .stmts (dT 57).body, (dT 57).scope, 0, [], .none, .none, .none, .none, none, .none, .none, 0⟩), #[]⟩
def o459 (P : Params) : Obj := ⟨(.type "code"), none, (.fields #[(.str (S "_law_refused") 816), (.str (S "_law_refused") 817), (.str (S "/claim/cut.py") 818), (.int 300 0), (.int 6 0), (.int 0 0), (.int 0 0), (.int 3 0), (.ref 465), (.bool true), (.int 181 0), (.ref 466), .none, .none, .none, (.ref 467), (.int 819 0), (.int 300 0), (.str (S "/claim/cut.py") 820)]), #[]⟩
def o460 (P : Params) : Obj := ⟨(.type "function"), none, (.func ⟨(S "_law_refused"), (S "_law_refused"), (dT 57).params, .stmts (dT 57).body, (dT 57).scope, 3, [], .none, .none, .none, (.str (S "law_meettasks_k37_callers_in_rows") 699), none, (.ref 468), .none, 0⟩), #[]⟩
def o461 (P : Params) : Obj := ⟨(.type "tuple"), none, (.seq #[] 0), #[]⟩
def o462 (P : Params) : Obj := ⟨.none, none, (.fields #[]), #[]⟩
def o463 (P : Params) : Obj := ⟨.none, none, (.func ⟨(S "law"), (S "law"), (dT 58).params, .stmts (dT 58).body, (dT 58).scope, 0, [], .none, .none, .none, .none, none, .none, .none, 0⟩), #[]⟩
def o464 (P : Params) : Obj := ⟨(.type "code"), none, (.fields #[(.str (S "law") 822), (.str (S "law") 823), (.str (S "/claim/cut.py") 824), (.int 311 0), (.int 1 0), (.int 0 0), (.int 0 0), (.int 3 0), (.ref 470), (.bool true), (.int 181 0), (.ref 471), .none, .none, .none, (.ref 472), (.int 825 0), (.int 311 0), (.str (S "/claim/cut.py") 826)]), #[]⟩
def o465 (P : Params) : Obj := ⟨(.type "function"), none, (.func ⟨(S "law"), (S "law"), (dT 58).params, .stmts (dT 58).body, (dT 58).scope, 3, [], .none, .none, .none, (.str (S "law_meettasks_k37_callers_in_rows") 699), none, (.ref 473), .none, 0⟩), #[]⟩
def T1 (P : Params) : BT := (N (boot_o_0 P) (N (boot_o_1 P) (N (o4 P) (N (boot_o_7 P) (N (o6 P) (N (o22 P) (N (o54 P) (N (o118 P) (N (o246 P) e e) (N (o374 P) e e)) (N (o182 P) (N (o310 P) e e) (N (o438 P) e e))) (N (o86 P) (N (o150 P) (N (o278 P) e e) (N (o406 P) e e)) (N (o214 P) (N (o342 P) e e) e))) (N (o38 P) (N (o70 P) (N (o134 P) (N (o262 P) e e) (N (o390 P) e e)) (N (o198 P) (N (o326 P) e e) (N (o454 P) e e))) (N (o102 P) (N (o166 P) (N (o294 P) e e) (N (o422 P) e e)) (N (o230 P) (N (o358 P) e e) e)))) (N (o14 P) (N (o30 P) (N (o62 P) (N (o126 P) (N (o254 P) e e) (N (o382 P) e e)) (N (o190 P) (N (o318 P) e e) (N (o446 P) e e))) (N (o94 P) (N (o158 P) (N (o286 P) e e) (N (o414 P) e e)) (N (o222 P) (N (o350 P) e e) e))) (N (o46 P) (N (o78 P) (N (o142 P) (N (o270 P) e e) (N (o398 P) e e)) (N (o206 P) (N (o334 P) e e) (N (o462 P) e e))) (N (o110 P) (N (o174 P) (N (o302 P) e e) (N (o430 P) e e)) (N (o238 P) (N (o366 P) e e) e))))) (N (o0 P) (N (o10 P) (N (o26 P) (N (o58 P) (N (o122 P) (N (o250 P) e e) (N (o378 P) e e)) (N (o186 P) (N (o314 P) e e) (N (o442 P) e e))) (N (o90 P) (N (o154 P) (N (o282 P) e e) (N (o410 P) e e)) (N (o218 P) (N (o346 P) e e) e))) (N (o42 P) (N (o74 P) (N (o138 P) (N (o266 P) e e) (N (o394 P) e e)) (N (o202 P) (N (o330 P) e e) (N (o458 P) e e))) (N (o106 P) (N (o170 P) (N (o298 P) e e) (N (o426 P) e e)) (N (o234 P) (N (o362 P) e e) e)))) (N (o18 P) (N (o34 P) (N (o66 P) (N (o130 P) (N (o258 P) e e) (N (o386 P) e e)) (N (o194 P) (N (o322 P) e e) (N (o450 P) e e))) (N (o98 P) (N (o162 P) (N (o290 P) e e) (N (o418 P) e e)) (N (o226 P) (N (o354 P) e e) e))) (N (o50 P) (N (o82 P) (N (o146 P) (N (o274 P) e e) (N (o402 P) e e)) (N (o210 P) (N (o338 P) e e) e)) (N (o114 P) (N (o178 P) (N (o306 P) e e) (N (o434 P) e e)) (N (o242 P) (N (o370 P) e e) e)))))) (N (boot_o_5 P) (N (boot_o_9 P) (N (o8 P) (N (o24 P) (N (o56 P) (N (o120 P) (N (o248 P) e e) (N (o376 P) e e)) (N (o184 P) (N (o312 P) e e) (N (o440 P) e e))) (N (o88 P) (N (o152 P) (N (o280 P) e e) (N (o408 P) e e)) (N (o216 P) (N (o344 P) e e) e))) (N (o40 P) (N (o72 P) (N (o136 P) (N (o264 P) e e) (N (o392 P) e e)) (N (o200 P) (N (o328 P) e e) (N (o456 P) e e))) (N (o104 P) (N (o168 P) (N (o296 P) e e) (N (o424 P) e e)) (N (o232 P) (N (o360 P) e e) e)))) (N (o16 P) (N (o32 P) (N (o64 P) (N (o128 P) (N (o256 P) e e) (N (o384 P) e e)) (N (o192 P) (N (o320 P) e e) (N (o448 P) e e))) (N (o96 P) (N (o160 P) (N (o288 P) e e) (N (o416 P) e e)) (N (o224 P) (N (o352 P) e e) e))) (N (o48 P) (N (o80 P) (N (o144 P) (N (o272 P) e e) (N (o400 P) e e)) (N (o208 P) (N (o336 P) e e) (N (o464 P) e e))) (N (o112 P) (N (o176 P) (N (o304 P) e e) (N (o432 P) e e)) (N (o240 P) (N (o368 P) e e) e))))) (N (o2 P) (N (o12 P) (N (o28 P) (N (o60 P) (N (o124 P) (N (o252 P) e e) (N (o380 P) e e)) (N (o188 P) (N (o316 P) e e) (N (o444 P) e e))) (N (o92 P) (N (o156 P) (N (o284 P) e e) (N (o412 P) e e)) (N (o220 P) (N (o348 P) e e) e))) (N (o44 P) (N (o76 P) (N (o140 P) (N (o268 P) e e) (N (o396 P) e e)) (N (o204 P) (N (o332 P) e e) (N (o460 P) e e))) (N (o108 P) (N (o172 P) (N (o300 P) e e) (N (o428 P) e e)) (N (o236 P) (N (o364 P) e e) e)))) (N (o20 P) (N (o36 P) (N (o68 P) (N (o132 P) (N (o260 P) e e) (N (o388 P) e e)) (N (o196 P) (N (o324 P) e e) (N (o452 P) e e))) (N (o100 P) (N (o164 P) (N (o292 P) e e) (N (o420 P) e e)) (N (o228 P) (N (o356 P) e e) e))) (N (o52 P) (N (o84 P) (N (o148 P) (N (o276 P) e e) (N (o404 P) e e)) (N (o212 P) (N (o340 P) e e) e)) (N (o116 P) (N (o180 P) (N (o308 P) e e) (N (o436 P) e e)) (N (o244 P) (N (o372 P) e e) e))))))) (N (boot_o_2 P) (N (boot_o_4 P) (N (boot_o_8 P) (N (o7 P) (N (o23 P) (N (o55 P) (N (o119 P) (N (o247 P) e e) (N (o375 P) e e)) (N (o183 P) (N (o311 P) e e) (N (o439 P) e e))) (N (o87 P) (N (o151 P) (N (o279 P) e e) (N (o407 P) e e)) (N (o215 P) (N (o343 P) e e) e))) (N (o39 P) (N (o71 P) (N (o135 P) (N (o263 P) e e) (N (o391 P) e e)) (N (o199 P) (N (o327 P) e e) (N (o455 P) e e))) (N (o103 P) (N (o167 P) (N (o295 P) e e) (N (o423 P) e e)) (N (o231 P) (N (o359 P) e e) e)))) (N (o15 P) (N (o31 P) (N (o63 P) (N (o127 P) (N (o255 P) e e) (N (o383 P) e e)) (N (o191 P) (N (o319 P) e e) (N (o447 P) e e))) (N (o95 P) (N (o159 P) (N (o287 P) e e) (N (o415 P) e e)) (N (o223 P) (N (o351 P) e e) e))) (N (o47 P) (N (o79 P) (N (o143 P) (N (o271 P) e e) (N (o399 P) e e)) (N (o207 P) (N (o335 P) e e) (N (o463 P) e e))) (N (o111 P) (N (o175 P) (N (o303 P) e e) (N (o431 P) e e)) (N (o239 P) (N (o367 P) e e) e))))) (N (o5 P) (N (o11 P) (N (o27 P) (N (o59 P) (N (o123 P) (N (o251 P) e e) (N (o379 P) e e)) (N (o187 P) (N (o315 P) e e) (N (o443 P) e e))) (N (o91 P) (N (o155 P) (N (o283 P) e e) (N (o411 P) e e)) (N (o219 P) (N (o347 P) e e) e))) (N (o43 P) (N (o75 P) (N (o139 P) (N (o267 P) e e) (N (o395 P) e e)) (N (o203 P) (N (o331 P) e e) (N (o459 P) e e))) (N (o107 P) (N (o171 P) (N (o299 P) e e) (N (o427 P) e e)) (N (o235 P) (N (o363 P) e e) e)))) (N (o19 P) (N (o35 P) (N (o67 P) (N (o131 P) (N (o259 P) e e) (N (o387 P) e e)) (N (o195 P) (N (o323 P) e e) (N (o451 P) e e))) (N (o99 P) (N (o163 P) (N (o291 P) e e) (N (o419 P) e e)) (N (o227 P) (N (o355 P) e e) e))) (N (o51 P) (N (o83 P) (N (o147 P) (N (o275 P) e e) (N (o403 P) e e)) (N (o211 P) (N (o339 P) e e) e)) (N (o115 P) (N (o179 P) (N (o307 P) e e) (N (o435 P) e e)) (N (o243 P) (N (o371 P) e e) e)))))) (N (boot_o_6 P) (N (boot_o_10 P) (N (o9 P) (N (o25 P) (N (o57 P) (N (o121 P) (N (o249 P) e e) (N (o377 P) e e)) (N (o185 P) (N (o313 P) e e) (N (o441 P) e e))) (N (o89 P) (N (o153 P) (N (o281 P) e e) (N (o409 P) e e)) (N (o217 P) (N (o345 P) e e) e))) (N (o41 P) (N (o73 P) (N (o137 P) (N (o265 P) e e) (N (o393 P) e e)) (N (o201 P) (N (o329 P) e e) (N (o457 P) e e))) (N (o105 P) (N (o169 P) (N (o297 P) e e) (N (o425 P) e e)) (N (o233 P) (N (o361 P) e e) e)))) (N (o17 P) (N (o33 P) (N (o65 P) (N (o129 P) (N (o257 P) e e) (N (o385 P) e e)) (N (o193 P) (N (o321 P) e e) (N (o449 P) e e))) (N (o97 P) (N (o161 P) (N (o289 P) e e) (N (o417 P) e e)) (N (o225 P) (N (o353 P) e e) e))) (N (o49 P) (N (o81 P) (N (o145 P) (N (o273 P) e e) (N (o401 P) e e)) (N (o209 P) (N (o337 P) e e) (N (o465 P) e e))) (N (o113 P) (N (o177 P) (N (o305 P) e e) (N (o433 P) e e)) (N (o241 P) (N (o369 P) e e) e))))) (N (o3 P) (N (o13 P) (N (o29 P) (N (o61 P) (N (o125 P) (N (o253 P) e e) (N (o381 P) e e)) (N (o189 P) (N (o317 P) e e) (N (o445 P) e e))) (N (o93 P) (N (o157 P) (N (o285 P) e e) (N (o413 P) e e)) (N (o221 P) (N (o349 P) e e) e))) (N (o45 P) (N (o77 P) (N (o141 P) (N (o269 P) e e) (N (o397 P) e e)) (N (o205 P) (N (o333 P) e e) (N (o461 P) e e))) (N (o109 P) (N (o173 P) (N (o301 P) e e) (N (o429 P) e e)) (N (o237 P) (N (o365 P) e e) e)))) (N (o21 P) (N (o37 P) (N (o69 P) (N (o133 P) (N (o261 P) e e) (N (o389 P) e e)) (N (o197 P) (N (o325 P) e e) (N (o453 P) e e))) (N (o101 P) (N (o165 P) (N (o293 P) e e) (N (o421 P) e e)) (N (o229 P) (N (o357 P) e e) e))) (N (o53 P) (N (o85 P) (N (o149 P) (N (o277 P) e e) (N (o405 P) e e)) (N (o213 P) (N (o341 P) e e) e)) (N (o117 P) (N (o181 P) (N (o309 P) e e) (N (o437 P) e e)) (N (o245 P) (N (o373 P) e e) e))))))))
def S1 (w : World) (os : OsState) : SharedT := ⟨T1 w.params, 475, ⟨[], [], [], 0, [], [], false, #[], [], 0, false, false, false, 0, [2000, 10, 10], false, 0, true, [], [], 0, false⟩, #[], ⟨0, 0, 0, 0⟩, 828, os⟩
def pos1 : Pos := ⟨311, 0, 335, 88⟩
def Tz (P : Params) : BT := (N (boot_o_0 P) (N (boot_o_1 P) (N (o4 P) (N (boot_o_7 P) (N (o6 P) (N (o22 P) (N (o54 P) (N (o118 P) (N (o246 P) e e) (N (o374 P) e e)) (N (o182 P) (N (o310 P) e e) (N (o438 P) e e))) (N (o86 P) (N (o150 P) (N (o278 P) e e) (N (o406 P) e e)) (N (o214 P) (N (o342 P) e e) e))) (N (o38 P) (N (o70 P) (N (o134 P) (N (o262 P) e e) (N (o390 P) e e)) (N (o198 P) (N (o326 P) e e) (N (o454 P) e e))) (N (o102 P) (N (o166 P) (N (o294 P) e e) (N (o422 P) e e)) (N (o230 P) (N (o358 P) e e) e)))) (N (o14 P) (N (o30 P) (N (o62 P) (N (o126 P) (N (o254 P) e e) (N (o382 P) e e)) (N (o190 P) (N (o318 P) e e) (N (o446 P) e e))) (N (o94 P) (N (o158 P) (N (o286 P) e e) (N (o414 P) e e)) (N (o222 P) (N (o350 P) e e) e))) (N (o46 P) (N (o78 P) (N (o142 P) (N (o270 P) e e) (N (o398 P) e e)) (N (o206 P) (N (o334 P) e e) (N (o462 P) e e))) (N (o110 P) (N (o174 P) (N (o302 P) e e) (N (o430 P) e e)) (N (o238 P) (N (o366 P) e e) e))))) (N (o0 P) (N (o10 P) (N (o26 P) (N (o58 P) (N (o122 P) (N (o250 P) e e) (N (o378 P) e e)) (N (o186 P) (N (o314 P) e e) (N (o442 P) e e))) (N (o90 P) (N (o154 P) (N (o282 P) e e) (N (o410 P) e e)) (N (o218 P) (N (o346 P) e e) e))) (N (o42 P) (N (o74 P) (N (o138 P) (N (o266 P) e e) (N (o394 P) e e)) (N (o202 P) (N (o330 P) e e) (N (o458 P) e e))) (N (o106 P) (N (o170 P) (N (o298 P) e e) (N (o426 P) e e)) (N (o234 P) (N (o362 P) e e) e)))) (N (o18 P) (N (o34 P) (N (o66 P) (N (o130 P) (N (o258 P) e e) (N (o386 P) e e)) (N (o194 P) (N (o322 P) e e) (N (o450 P) e e))) (N (o98 P) (N (o162 P) (N (o290 P) e e) (N (o418 P) e e)) (N (o226 P) (N (o354 P) e e) e))) (N (o50 P) (N (o82 P) (N (o146 P) (N (o274 P) e e) (N (o402 P) e e)) (N (o210 P) (N (o338 P) e e) e)) (N (o114 P) (N (o178 P) (N (o306 P) e e) (N (o434 P) e e)) (N (o242 P) (N (o370 P) e e) e)))))) (N (boot_o_5 P) (N (boot_o_9 P) (N (o8 P) (N (o24 P) (N (o56 P) (N (o120 P) (N (o248 P) e e) (N (o376 P) e e)) (N (o184 P) (N (o312 P) e e) (N (o440 P) e e))) (N (o88 P) (N (o152 P) (N (o280 P) e e) (N (o408 P) e e)) (N (o216 P) (N (o344 P) e e) e))) (N (o40 P) (N (o72 P) (N (o136 P) (N (o264 P) e e) (N (o392 P) e e)) (N (o200 P) (N (o328 P) e e) (N (o456 P) e e))) (N (o104 P) (N (o168 P) (N (o296 P) e e) (N (o424 P) e e)) (N (o232 P) (N (o360 P) e e) e)))) (N (o16 P) (N (o32 P) (N (o64 P) (N (o128 P) (N (o256 P) e e) (N (o384 P) e e)) (N (o192 P) (N (o320 P) e e) (N (o448 P) e e))) (N (o96 P) (N (o160 P) (N (o288 P) e e) (N (o416 P) e e)) (N (o224 P) (N (o352 P) e e) e))) (N (o48 P) (N (o80 P) (N (o144 P) (N (o272 P) e e) (N (o400 P) e e)) (N (o208 P) (N (o336 P) e e) (N (o464 P) e e))) (N (o112 P) (N (o176 P) (N (o304 P) e e) (N (o432 P) e e)) (N (o240 P) (N (o368 P) e e) e))))) (N (o2 P) (N (o12 P) (N (o28 P) (N (o60 P) (N (o124 P) (N (o252 P) e e) (N (o380 P) e e)) (N (o188 P) (N (o316 P) e e) (N (o444 P) e e))) (N (o92 P) (N (o156 P) (N (o284 P) e e) (N (o412 P) e e)) (N (o220 P) (N (o348 P) e e) e))) (N (o44 P) (N (o76 P) (N (o140 P) (N (o268 P) e e) (N (o396 P) e e)) (N (o204 P) (N (o332 P) e e) (N (o460 P) e e))) (N (o108 P) (N (o172 P) (N (o300 P) e e) (N (o428 P) e e)) (N (o236 P) (N (o364 P) e e) e)))) (N (o20 P) (N (o36 P) (N (o68 P) (N (o132 P) (N (o260 P) e e) (N (o388 P) e e)) (N (o196 P) (N (o324 P) e e) (N (o452 P) e e))) (N (o100 P) (N (o164 P) (N (o292 P) e e) (N (o420 P) e e)) (N (o228 P) (N (o356 P) e e) e))) (N (o52 P) (N (o84 P) (N (o148 P) (N (o276 P) e e) (N (o404 P) e e)) (N (o212 P) (N (o340 P) e e) e)) (N (o116 P) (N (o180 P) (N (o308 P) e e) (N (o436 P) e e)) (N (o244 P) (N (o372 P) e e) e))))))) (N (boot_o_2 P) (N (boot_o_4 P) (N (boot_o_8 P) (N (o7 P) (N (o23 P) (N (o55 P) (N (o119 P) (N (o247 P) e e) (N (o375 P) e e)) (N (o183 P) (N (o311 P) e e) (N (o439 P) e e))) (N (o87 P) (N (o151 P) (N (o279 P) e e) (N (o407 P) e e)) (N (o215 P) (N (o343 P) e e) e))) (N (o39 P) (N (o71 P) (N (o135 P) (N (o263 P) e e) (N (o391 P) e e)) (N (o199 P) (N (o327 P) e e) (N (o455 P) e e))) (N (o103 P) (N (o167 P) (N (o295 P) e e) (N (o423 P) e e)) (N (o231 P) (N (o359 P) e e) e)))) (N (o15 P) (N (o31 P) (N (o63 P) (N (o127 P) (N (o255 P) e e) (N (o383 P) e e)) (N (o191 P) (N (o319 P) e e) (N (o447 P) e e))) (N (o95 P) (N (o159 P) (N (o287 P) e e) (N (o415 P) e e)) (N (o223 P) (N (o351 P) e e) e))) (N (o47 P) (N (o79 P) (N (o143 P) (N (o271 P) e e) (N (o399 P) e e)) (N (o207 P) (N (o335 P) e e) (N (o463 P) e e))) (N (o111 P) (N (o175 P) (N (o303 P) e e) (N (o431 P) e e)) (N (o239 P) (N (o367 P) e e) e))))) (N (o5 P) (N (o11 P) (N (o27 P) (N (o59 P) (N (o123 P) (N (o251 P) e e) (N (o379 P) e e)) (N (o187 P) (N (o315 P) e e) (N (o443 P) e e))) (N (o91 P) (N (o155 P) (N (o283 P) e e) (N (o411 P) e e)) (N (o219 P) (N (o347 P) e e) e))) (N (o43 P) (N (o75 P) (N (o139 P) (N (o267 P) e e) (N (o395 P) e e)) (N (o203 P) (N (o331 P) e e) (N (o459 P) e e))) (N (o107 P) (N (o171 P) (N (o299 P) e e) (N (o427 P) e e)) (N (o235 P) (N (o363 P) e e) e)))) (N (o19 P) (N (o35 P) (N (o67 P) (N (o131 P) (N (o259 P) e e) (N (o387 P) e e)) (N (o195 P) (N (o323 P) e e) (N (o451 P) e e))) (N (o99 P) (N (o163 P) (N (o291 P) e e) (N (o419 P) e e)) (N (o227 P) (N (o355 P) e e) e))) (N (o51 P) (N (o83 P) (N (o147 P) (N (o275 P) e e) (N (o403 P) e e)) (N (o211 P) (N (o339 P) e e) e)) (N (o115 P) (N (o179 P) (N (o307 P) e e) (N (o435 P) e e)) (N (o243 P) (N (o371 P) e e) e)))))) (N (boot_o_6 P) (N (boot_o_10 P) (N (o9 P) (N (o25 P) (N (o57 P) (N (o121 P) (N (o249 P) e e) (N (o377 P) e e)) (N (o185 P) (N (o313 P) e e) (N (o441 P) e e))) (N (o89 P) (N (o153 P) (N (o281 P) e e) (N (o409 P) e e)) (N (o217 P) (N (o345 P) e e) e))) (N (o41 P) (N (o73 P) (N (o137 P) (N (o265 P) e e) (N (o393 P) e e)) (N (o201 P) (N (o329 P) e e) (N (o457 P) e e))) (N (o105 P) (N (o169 P) (N (o297 P) e e) (N (o425 P) e e)) (N (o233 P) (N (o361 P) e e) e)))) (N (o17 P) (N (o33 P) (N (o65 P) (N (o129 P) (N (o257 P) e e) (N (o385 P) e e)) (N (o193 P) (N (o321 P) e e) (N (o449 P) e e))) (N (o97 P) (N (o161 P) (N (o289 P) e e) (N (o417 P) e e)) (N (o225 P) (N (o353 P) e e) e))) (N (o49 P) (N (o81 P) (N (o145 P) (N (o273 P) e e) (N (o401 P) e e)) (N (o209 P) (N (o337 P) e e) (N (o465 P) e e))) (N (o113 P) (N (o177 P) (N (o305 P) e e) (N (o433 P) e e)) (N (o241 P) (N (o369 P) e e) e))))) (N (o3 P) (N (o13 P) (N (o29 P) (N (o61 P) (N (o125 P) (N (o253 P) e e) (N (o381 P) e e)) (N (o189 P) (N (o317 P) e e) (N (o445 P) e e))) (N (o93 P) (N (o157 P) (N (o285 P) e e) (N (o413 P) e e)) (N (o221 P) (N (o349 P) e e) e))) (N (o45 P) (N (o77 P) (N (o141 P) (N (o269 P) e e) (N (o397 P) e e)) (N (o205 P) (N (o333 P) e e) (N (o461 P) e e))) (N (o109 P) (N (o173 P) (N (o301 P) e e) (N (o429 P) e e)) (N (o237 P) (N (o365 P) e e) e)))) (N (o21 P) (N (o37 P) (N (o69 P) (N (o133 P) (N (o261 P) e e) (N (o389 P) e e)) (N (o197 P) (N (o325 P) e e) (N (o453 P) e e))) (N (o101 P) (N (o165 P) (N (o293 P) e e) (N (o421 P) e e)) (N (o229 P) (N (o357 P) e e) e))) (N (o53 P) (N (o85 P) (N (o149 P) (N (o277 P) e e) (N (o405 P) e e)) (N (o213 P) (N (o341 P) e e) e)) (N (o117 P) (N (o181 P) (N (o309 P) e e) (N (o437 P) e e)) (N (o245 P) (N (o373 P) e e) e))))))))
def Sz (w : World) (os : OsState) : SharedT := ⟨Tz w.params, 475, ⟨[], [], [], 0, [], [], false, #[], [], 0, false, false, false, 0, [2000, 10, 10], false, 0, true, [], [], 0, false⟩, #[], ⟨0, 0, 0, 0⟩, 828, os⟩
def posz : Pos := ⟨311, 0, 335, 88⟩
abbrev bd : List Stmt := behindTheImports Pg
def env : Env := { scope := Pg.main.scope, locals := mainNs, globals := mainNs, cells := [], code := (.ref 13), frame := some 14 }
abbrev cE : Code := .body bd env
abbrev qf : Pos := ⟨0, 0, 0, 0⟩
abbrev cut (a b : Nat) : List Stmt := (bd.drop a).take (b - a)
end K37H

end
noncomputable section
namespace K37H
open PySem PySem.W PySem.Calls PyProof.Rows HandSHeadRun HG
theorem g0 (w : World) (os : OsState) : first (stepQ (denQ tabQ) Pg w) 12 Pg w os = some (Sa w os, ⟨denQ tabQ cE, cE, posa, [topFrame qf]⟩) := by kernel_rfl
theorem gb (w : World) (os : OsState) : block (stepQ (denQ tabQ) Pg w) 11 an6 1 (Sa w os) ⟨(PySem.W.Fast.tw1066825118222455980 bd env).wrap (fun _ => doneF .next) deadEnd id id, cE, posa, [topFrame qf]⟩ = some (.next, Sa w os, cE, posa) := by kernel_rfl
theorem g1 (w : World) (os : OsState) : block (stepQ (denQ tabQ) Pg w) 11 an6 3604 (Sa w os) ⟨(exQ (cut 0 59) env).wrap doneF deadEnd id id, cE, posa, [topFrame qf]⟩ = some (.next, S1 w os, cE, pos1) := by kernel_rfl
theorem gz (w : World) (os : OsState) : goF (stepQ (denQ tabQ) Pg w) 11 an6 2 (S1 w os) ⟨doneF .next, cE, pos1, [topFrame qf]⟩ = some (Sz w os) := by kernel_rfl
theorem body_cut : bd = cut 0 59 ++ [] := by kernel_rfl
theorem top (w : World) (os : OsState) : topRun treeTable Pg w 11 an6 3619 (bootS w os) (topStub Pg) = some (Sz w os).abs := by
  refine begin_ (g0 w os) (gb w os) (N := 3606) ?_
  have z : topRun treeTable Pg w 11 an6 (3604 + 2) (Sa w os).abs (restOf (cut 0 59 ++ []) env cE posa [topFrame qf]) = some (Sz w os).abs := piece (g1 w os) (last (gz w os))
  rw [← body_cut] at z
  exact z
end K37H

end
/-! E1: a class over ValueError with an own __init__ is called, with keywords too (at the model's level). -/
namespace XMake
open PySem
/-- at C stands such a class, its line of ancestors behind itself is bm -/
def At (h : Heap) (C : Addr) (bm : List Value) : Prop := ∃ nm q N bs dct sn sub ab col dd a0 a1 a2 a3 a5, h.get? C = some (excClassObj nm q C N bs bm dct sn sub ab col dd a0 a1 a2 a3 a5 "ValueError.__new__")
/-- the built-in classes among bm are ValueError's -/
def Over (bm : List Value) : Prop := ∀ T : String, bm.contains (.type T) = [Value.type "ValueError", .type "Exception", .type "BaseException", .type "object"].contains (.type T)
theorem Over.has {bm : List Value} (o : Over bm) (C : Addr) (T : String) (b : Bool) (e : [Value.type "ValueError", .type "Exception", .type "BaseException", .type "object"].contains (.type T) = b) : (Value.ref C :: bm).contains (.type T) = b := by
  have z : (Value.type T == Value.ref C) = false := rfl
  rw [List.contains_cons, z, Bool.false_or]
  exact (o T).trans e
abbrev vf := PySem.F.excBase_ValueError
/-- the heap with a tuple of the arguments and the bare exception behind it -/
abbrev made (h : Heap) (C : Addr) (us : List Value) : Heap := (h.push (W.kdv_tup us)).push (HandSPX.excO C h.objs.size)
section
variable {P : Program} {w : World} {A : Around} {C : Addr} {bm us : List Value} {kw : List (Str × Value)} {h : Heap} {g : Array GenState} {d : Drawn} {t : Nat} {os : OsState}
theorem let_by {M : Model} {E : Value → Shared → Prop} {Q : Unit → Shared → Prop} (c : At h C bm) (o : Over bm) (k : Q () ⟨h, g, d, t, os⟩) : wpAny M A (checkBuiltinCall "ValueError.__new__" ⟨.ref C :: us, kw⟩) Q E ⟨h, g, d, t, os⟩ := by
  obtain ⟨nm, q, N, bs, dct, sn, sub, ab, col, dd, a0, a1, a2, a3, a5, c⟩ := c
  have v := o.has C "ValueError" true rfl
  have star := vf.noStar
  unfold checkBuiltinCall
  simp only [vf.newRow, vf.newSplit, vf.newKind]
  repeat
    first
      | (refine wpAny_isSubtype_exc c ?_
         rw [v])
      | refine wpAny_staticBase_exc c ?_
      | refine wpAny_madeBy_exc c ?_
      | refine wpAny_loadPart_at c ?_
      | simp only [if_false, Bool.false_eq_true, bne_self_eq_false]
      | wp_step
  exact k
theorem new {R : Result → Shared → Prop} (c : At h C bm) (o : Over bm) (l : us.length ≤ sizeLine) (k : R (.ok (.ret (.ref (h.objs.size + 1)))) ⟨made h C us, g, d, t, os⟩) :
    codeAny (model P w) A (.builtin "ValueError.__new__" ⟨.ref C :: us, kw⟩) R ⟨h, g, d, t, os⟩ := by
  obtain ⟨nm, q, N, bs, dct, sn, sub, ab, col, dd, a0, a1, a2, a3, a5, c⟩ := c
  have v := o.has C "ValueError" true rfl
  have v1 := o.has C "AttributeError" false (by decide)
  have v2 := o.has C "NameError" false (by decide)
  have ends := vf.ends
  refine codeAny_builtinAt vf.entry (wpAt_bind ?_)
  refine wpAt_bind (wpAt_stack fun _ _ => wpAt_of_wpAny ?_)
  wp_walk
  refine wpAt_of_wpAny ?_
  rw [vf.owner]
  repeat
    first
      | (with_reducible refine wpAny_isSubtype_exc c ?_
         first
           | rw [v]
           | rw [v1]
           | rw [v2])
      | with_reducible refine wpAny_madeHere_exc vf.canon c ?_
      | with_reducible refine wpAny_loadPart_at c ?_
      | wp_step
  show R (.ok (.ret (.ref (Heap.push h _).objs.size))) _
  rw [Heap.size_push]
  exact k
theorem At.on {h' : Heap} (c : At h C bm) (k : ∀ b o, h.get? b = some o → h'.get? b = some o) : At h' C bm := by
  obtain ⟨nm, q, N, bs, dct, sn, sub, ab, col, dd, a0, a1, a2, a3, a5, c⟩ := c
  exact ⟨nm, q, N, bs, dct, sn, sub, ab, col, dd, a0, a1, a2, a3, a5, k _ _ c⟩
theorem made_keeps (b : Addr) (o : Obj) (e : h.get? b = some o) : (made h C us).get? b = some o := by
  unfold made
  exact Heap.get?_push_of_some _ (Heap.get?_push_of_some _ e)
theorem made_here : (made h C us).get? (h.objs.size + 1) = some (HandSPX.excO C h.objs.size) := by
  unfold made
  heap_get
/-- type.__call__ of the class: made, then its __init__, at f -/
theorem by_type {E : Value → Shared → Prop} {Q : Fin → Shared → Prop} {f : Addr} (c : At h C bm) (o : Over bm) (l : us.length ≤ sizeLine)
    (i : W.Looks (model P w) h (typeLookup (.ref C) "__init__") (some (.ref f))) (b : ∀ x, W.Looks (model P w) h (bindSpecial (.ref f) x) (.ref f, [x]))
    (k : codeAny (model P w) A (.call (.ref f) ⟨.ref (h.objs.size + 1) :: us, kw⟩) (fun r s' => match r with
      | .error e => E e s'
      | .ok (.ret v) => v = .none ∧ Q (.done (.ret (.ref (h.objs.size + 1)))) s'
      | .ok _ => False) ⟨made h C us, g, d, t, os⟩) :
    wpAny (model P w) A (Builtin.«type.__call__» ⟨.ref C :: us, kw⟩) Q E ⟨h, g, d, t, os⟩ := by
  have c' := c
  obtain ⟨nm, q, N, bs, dct, sn, sub, ab, col, dd, a0, a1, a2, a3, a5, z⟩ := c'
  have z2 := made_keeps (C := C) (us := us) _ _ z
  have self := made_here (h := h) (C := C) (us := us)
  have own : (Value.ref C :: bm).contains (.ref C) = true := List.contains_iff_mem.mpr List.mem_cons_self
  have i2 := i.keeps (made_keeps (C := C) (us := us))
  have b2 := (b (.ref (h.objs.size + 1))).keeps (made_keeps (C := C) (us := us))
  repeat
    first
      | with_reducible refine wpAny_madeBy_exc z ?_
      | with_reducible refine wpAny_loadPart_at z ?_
      | wp_step
  refine codeAny_call_builtin_code (Code.quiet_builtin _ vf.quiet) (let_by c o (new c o l ?_))
  show wpAny _ _ _ _ _ _
  unfold isInstance
  repeat
    first
      | (with_reducible refine wpAny_isSubtype_exc z2 ?_
         rw [own])
      | with_reducible refine wpAny_loadPart_at self ?_
      | wp_step
  refine i2.at (wpAny_holding (wpAny_bind (b2.at (wpAny_bind (wpAny_call (codeAny_mono k fun r s' y => ?_))))))
  match r, y with
  | .error e, y => exact y
  | .ok (.ret v), y =>
    obtain ⟨rfl, y⟩ := y
    first
      | exact wpAny_pure (wpAny_pure y)
      | (wp_walk; exact y)
  | .ok .next, y => exact y.elim
  | .ok .brk, y => exact y.elim
  | .ok .cont, y => exact y.elim
/-- the class is called -/
theorem called {R : Result → Shared → Prop} {f : Addr} (c : At h C bm) (o : Over bm) (l : us.length ≤ sizeLine)
    (i : W.Looks (model P w) h (typeLookup (.ref C) "__init__") (some (.ref f))) (b : ∀ x, W.Looks (model P w) h (bindSpecial (.ref f) x) (.ref f, [x]))
    (k : codeAny (model P w) (A.under (.builtin "type.__call__" ⟨.ref C :: us, kw⟩)) (.call (.ref f) ⟨.ref (h.objs.size + 1) :: us, kw⟩) (W.InitBack (h.objs.size + 1) R) ⟨made h C us, g, d, t, os⟩) :
    codeAny (model P w) A (.call (.ref C) ⟨us, kw⟩) R ⟨h, g, d, t, os⟩ := by
  have c' := c
  obtain ⟨nm, q, N, bs, dct, sn, sub, ab, col, dd, a0, a1, a2, a3, a5, z⟩ := c'
  have t1 := tc_bind (.ref C)
  have t2 := tc_lookup
  have ty : (⟨h, g, d, t, os⟩ : Shared).TypeIs (.ref C) "type" := ⟨_, z, rfl⟩
  apply codeAny_of_tree
  show wpAny (model P w) _ (callAny (.ref C) _) _ _ _
  repeat
    any_goals
      first
        | with_reducible refine wpAny_loadPart_at z ?_
        | assumption
        | wp_step
  refine ⟨rfl, codeAny_call_builtin_at (Code.quiet_builtin _ (by decide +kernel)) entry_typeCall (wpAny_check_type_call_sub z (by_type c o l i b (codeAny_mono k fun r s' y => ?_)))⟩
  match r, y with
  | .error e, y => exact y
  | .ok (.ret v), y => exact y
  | .ok .next, y => exact y
  | .ok .brk, y => exact y
  | .ok .cont, y => exact y
end
end XMake

namespace L2
open PySem PySem.Spec PyProof.Rows
/-- C(.., k = v, ..), C an exception class of one's own with its own __init__: the new exception is a value -/
def tMkX (C : Addr) (n m : Nat) (sp : Sp) (gV : List V → List V → List V) (t tk : TA) : TE := fun σ H Q => t σ H fun vs H1 => tk σ H1 fun zs H2 => vs.length = n ∧ n ≤ 1000 ∧ zs.length = m ∧
  ∀ a, H2 a = none → sp (gV (.ref a :: vs) zs) (upd H2 a (exo a C none)) (fun v H3 => v = .non ∧ Q (.ref a) H3) (fun _ _ _ => False)
section
variable {X : Cx} {CX : CXT} {k n : Nat} {f C : Addr} {fd : FuncData} {ps ks : List Str} {sp : Sp} {x : Str} {p pos : Pos} {e : Expr} {es : List Expr} {kws : List Keyword} {t tk : TA} {g : List Value → List Value → List Value} {gV : List V → List V → List V}
/-- what is known of the class and of its __init__ -/
structure MkX (X : Cx) (CX : CXT) (k : Nat) (C f : Addr) (fd : FuncData) (ps : List Str) (sp : Sp) : Prop where
  cls : OexC X.K C
  ini : PySem.W.findIn X.K (.ref C) "__init__" = some (some (.ref f))
  fun_ : PySem.W.typeIn X.K (.ref f) = some (.type "function")
  ok : FnOk X.prog X.w X.K X.mg X.base CX k f fd ps sp
  room : Room (k + 1) X.A
  pass : Passes CX X (fun _ _ _ => False)
theorem MkX.run {pins : List (Addr × Obj)} {σ : St} {H : Hp} {s : Shared} {Q : VK} {us ws : List Value} {vs zs : List V} (M : MkX X CX k C f fd ps sp) (B : KBn X.K fd ps (n + 1) ks g gV)
    (I : Inv X pins σ H s) (r : Vals vs us) (rz : Vals zs ws) (l1 : vs.length = n) (l0 : n ≤ 1000) (l2 : zs.length = ks.length)
    (go : ∀ a, H a = none → sp (gV (.ref a :: vs) zs) (upd H a (exo a C none)) (fun v H2 => v = .non ∧ Q (.ref a) H2) (fun _ _ _ => False)) :
    wpAny (model X.prog X.w) X.A (call (.ref C) us (ks.zip ws)) (EP X pins σ Q) X.xe s := by
  obtain ⟨hp, gs, dr, tk, os⟩ := s
  obtain ⟨nm, q, N, bs, bm, sn, sub, ab, col, dd, a0, a1, a2, a3, a5, lk, anc⟩ := M.cls.cls
  have at_ : XMake.At hp C bm := ⟨nm, q, N, bs, true, sn, sub, ab, col, dd, a0, a1, a2, a3, a5, I.kIn _ _ lk⟩
  have over : XMake.Over bm := fun T => PySem.HandSPX.refsVE_contains T bm anc
  have few : us.length ≤ sizeLine := by
    have z := r.length
    rw [sizeLine_eq]
    omega
  -- the new exception's address
  obtain ⟨a, ea⟩ : ∃ a, a = hp.objs.size + 1 := ⟨_, rfl⟩
  have le : hp.objs.size ≤ a := by omega
  have free : H a = none := I.hok.fresh le
  have here : (XMake.made hp C us).get? a = some (PySem.HandSPX.excO C hp.objs.size) := by
    rw [ea]
    exact XMake.made_here
  have J : Inv X pins σ (upd H a (exo a C none)) ⟨XMake.made hp C us, gs, dr, tk, os⟩ := I.laid (t' := tk) (h' := XMake.made hp C us) XMake.made_keeps le (exo_ok here)
  have num : (Value.ref a :: us).length = n + 1 := by
    have z := r.length
    simp only [List.length_cons]
    omega
  have bound := B.to ⟨XMake.made hp C us, gs, dr, tk, os⟩ (Value.ref a :: us) ws J.kIn num (rz.length.symm.trans l2)
  have init := M.ok.run _ X.stack _ _ ⟨Value.ref a :: us, ks.zip ws⟩ (g (Value.ref a :: us) ws) _ _ (fun _ _ _ => False) (M.room.make C us (ks.zip ws)) (J.env0.make C us (ks.zip ws)) bound (B.rel (show Vals (V.ref a :: vs) (Value.ref a :: us) from .cons rfl r) rz) (go a free)
  refine wpAny_call (XMake.called at_ over few (PySem.W.looks_findIn I.kIn M.ini) (fun z => PySem.W.bind_fn I.kIn z M.fun_) ?_)
  rw [← ea]
  refine codeAny_mono init fun r s' z => ?_
  match r, z with
  | .error u, z => exact M.pass pins σ _ _ u s' J z
  | .ok (.ret u), z =>
    obtain ⟨v, H', L, rv, ev, y⟩ := J.after z
    rw [ev] at rv
    exact ⟨rv, .ref a, H', L, rfl, y⟩
  | .ok .next, z => exact z.elim
  | .ok .brk, z => exact z.elim
  | .ok .cont, z => exact z.elim
/-- C(e, ..) -/
theorem pe_mkX (T : OexC X.K C) (iC : PySem.W.findIn X.K (.ref C) "__init__" = some (some (.ref f))) (tI : PySem.W.typeIn X.K (.ref f) = some (.type "function"))
    (F : FnOk X.prog X.w X.K X.mg X.base CX k f fd ps sp) (hr : Room (k + 1) X.A) (hb : KBn X.K fd ps (n + 1) [] g gV) (hx : Passes CX X (fun _ _ _ => False)) (hg : Gl X x) (hm : X.mg x = some (.ref C)) (ha : PA X (e :: es) t)
    (dbg : (x == ("__debug__" : Str)) = false := by decide) (stars : starEach (e :: es) X.env = (false, eval e X.env) :: starEach es X.env := by rfl) (plain : (backTo pos (starEach es X.env)).any (·.1) = false := by rfl) :
    PE X (.Call (.Name x p) (e :: es) [] pos) (tMkX C n 0 sp gV t tNil) := ⟨fun pins s σ H Q I h => wpAny_Call_Name_kw (ld_glob I hg hm (PySem.W.callWith_K (h₀ := X.base) I.ok.mod.kin T.kC (thn (ha.run pos pins s σ H _ I h) fun us s1 ⟨vs, H1, I1, r1, l1, l0, _, q1⟩ =>
      ⟨I1.kIn, MkX.run (ks := []) (ws := []) (zs := []) ⟨T, iC, tI, F, hr, hx⟩ hb I1 r1 .nil l1 l0 rfl q1⟩) stars plain) dbg)⟩
/-- C(k = v, ..) -/
theorem pe_mkXK (T : OexC X.K C) (iC : PySem.W.findIn X.K (.ref C) "__init__" = some (some (.ref f))) (tI : PySem.W.typeIn X.K (.ref f) = some (.type "function"))
    (F : FnOk X.prog X.w X.K X.mg X.base CX k f fd ps sp) (hr : Room (k + 1) X.A) (hb : KBn X.K fd ps 1 ks g gV) (hx : Passes CX X (fun _ _ _ => False)) (hg : Gl X x) (hm : X.mg x = some (.ref C)) (hkw : PK X kws tk)
    (named : (backToKw pos (keywordEach kws X.env)).all (·.1.isSome) = true := by rfl) (names : (backToKw pos (keywordEach kws X.env)).filterMap (·.1) = ks := by rfl) (dbg : (x == ("__debug__" : Str)) = false := by decide)
    (plain : ((backTo pos (starEach [] X.env)).any (·.1) || (backToKw pos (keywordEach kws X.env)).any (·.1.isNone)) = false := by rfl) :
    PE X (.Call (.Name x p) [] kws pos) (tMkX C 0 ks.length sp gV tNil tk) := ⟨fun pins s σ H Q I h => wpAny_Call_Name_kw (ld_glob I hg hm (PySem.W.callWith_KW0 (h₀ := X.base) I.ok.mod.kin T.kC named (thn (hkw.run pos pins s σ H _ I h) fun ws s2 ⟨zs, H2, I2, rz, l1, l0, l2, q2⟩ =>
      ⟨I2.kIn, by
        rw [names]
        exact MkX.run (us := []) (vs := []) (n := 0) ⟨T, iC, tI, F, hr, hx⟩ hb I2 .nil rz rfl l0 l2 q2⟩) plain) dbg)⟩
end
/-! ### reading a field, isinstance -/
/-- e.f of an exception that is a value -/
def tXv (K : PySem.W.Frag) (f : Str) (te : TE) : TE := fun σ H Q => te σ H fun x H1 => ∃ (a C d : Addr) (fs : List (Str × V)) (v : V), x = .ref a ∧ H1 a = some (exo a C (some d)) ∧ H1 d = some (exd d fs) ∧ XfC K C ∧ PySem.W.findIn K (.ref C) f = some none ∧ fs.lookup f = some v ∧ Q v H1
theorem pe_xv {X : Cx} {e : Expr} {te : TE} {pos : Pos} {n : Str} (he : PE X e te) (base : attributeBase e n X.env (eval e X.env) = eval e X.env := by rfl) : PE X (.Attribute e n pos) (tXv X.K n te) := ⟨fun pins s σ H Q I h => attr_of base (thn (he.run pins s σ H _ I h) fun u s1 hh => by
  obtain ⟨x, H1, J, rx, a, C, d, fs, v, rfl, ea, ed, T, no, lf, q⟩ := hh
  obtain ⟨m, hm, rel⟩ := exd_at J.hok ed
  obtain ⟨od, at_, look⟩ := lookIn_ns hm
  obtain ⟨y, hy, ry⟩ := RelO.some_of (v := v) (o := m n) (lf ▸ rel n)
  obtain ⟨_, ho⟩ := exo_at J.hok ea
  have rx : u = Value.ref a := rx
  subst rx
  have own : PySem.W.InstAt s1.heap a _ C (some od) := ⟨ho, rfl, rfl, at_⟩
  exact HandSPX.exc_get J.kIn own T.ga T.gg T.exC (PySem.W.findObj_own T.hdC no rfl ((look n).trans (by rw [hy]))) (handed_of ry) ⟨v, H1, J.tok _, ry, q⟩)⟩
end L2

namespace L2
open PySem PySem.Spec PyProof.Rows
/-- an exception that is a value: of the class D -/
def IsX (H : Hp) (a D : Addr) : Prop := H a = some (exo a D none) ∨ ∃ d fs, H a = some (exo a D (some d)) ∧ H d = some (exd d fs)
def rIsX (K : PySem.W.Frag) : List V → Hp → VK → Prop := fun xs H Q => ∃ (a D : Addr) (c : V) (cv : Value) (b : Bool), xs = [.ref a, c] ∧ IsX H a D ∧ ExcC K D ∧ (∀ u, RelV c u → u = cv) ∧ PySem.W.kitOne K (.ref D) cv = some b ∧ Q (.bl b) H
theorem ExcC.kit {K : PySem.W.Frag} {D x : Addr} {ox : Obj} {od : Option Obj} (C : ExcC K D) : PySem.W.KitX K (.ref x) (.ref D) fun h => PySem.W.InstAt h x ox D od := by
  obtain ⟨cd, hc, _⟩ := PySem.W.any_some C.hd
  exact PySem.W.kitx_exc (by rw [hc]; rfl) C.hg C.hk C.hs C.ha C.hn C.ht C.hm
/-- such an exception stands in memory as an instance of its class -/
theorem IsX.inst {P : Program} {w : World} {H : Hp} {h : Heap} {a D : Addr} (k : HOk P w H h) (x : IsX H a D) : ∃ ox od, PySem.W.InstAt h a ox D od := by
  rcases x with x | ⟨d, fs, x, y⟩
  · obtain ⟨_, e⟩ := exo_at k x
    exact ⟨_, none, e, rfl, rfl, trivial⟩
  · obtain ⟨_, e⟩ := exo_at k x
    obtain ⟨m, n, _⟩ := exd_at k y
    obtain ⟨od, z, _⟩ := lookIn_ns n
    exact ⟨_, some od, e, rfl, rfl, z⟩
theorem call_isX {X : Cx} : CallR X (.builtin "isinstance") (rIsX X.K) := fun pins s σ H xs us Q I rel ⟨a, D, c, cv, b, ex, x, C, one, ans, q⟩ => by
  subst ex
  obtain ⟨u, v, rfl, ru, rv⟩ := vals2 rel
  have ru : u = Value.ref a := ru
  have ev := one v rv
  subst ru ev
  obtain ⟨ox, od, J⟩ := x.inst I.hok
  exact PySem.W.kia_one C.kit I.kIn J ans (fun z => nomatch z) fun tt => ⟨.bl b, H, I.kept (t' := tt) fun _ _ z => z, rfl, q⟩
/-- C(), no __init__ of its own -/
def tMk0 (C : Addr) : TE := fun σ H Q => ∀ a, H a = none → Q (.ref a) (upd H a (exo a C none))
theorem pe_mk0 {X : Cx} {C : Addr} {bmB : List Value} {B newId initId : String} {x : Str} {p pos : Pos} (F : ExcBaseFacts B newId initId bmB) (q : PySem.W.excIn X.K C bmB newId = true) (gC : X.mg x = some (.ref C)) (kC : PySem.W.keepIn X.K (.ref C) = true) (hg : Gl X x)
    (dbg : (x == ("__debug__" : Str)) = false := by decide) : PE X (.Call (.Name x p) [] [] pos) (tMk0 C) := ⟨fun pins s σ H Q I h => by
  refine wpAny_Call_Name_kw (ld_glob I hg gC (PySem.W.callWith_K0 I.kIn kC ?_) dbg)
  obtain ⟨bm, N, nm, qn, bs, dct, sn, sub, ab, col, dd, a0, a1, a2, a3, a5, mN, c1, c2, c3, T⟩ := exc_obj I.kIn q
  obtain ⟨hp, gs, dr, t, os⟩ := s
  refine wpAny_call_exc_subT F T c1 c2 c3 (fun h' e m => ?_) (Nat.zero_le sizeLine)
  have free : H e = none := I.hok.gone m.new
  obtain ⟨_, here, _, _⟩ := m.there
  exact ⟨.ref e, _, I.laidN (t' := t) m.keeps m.new free (exo_ok here), rfl, h e free⟩⟩
end L2

namespace LamV
open PySem PySem.Spec PyProof.Rows L2 LamX NdefX
/-- the words of a lambda that captures nothing -/
structure LF where
  qual : Str
  params : Arguments
  body : Expr
  scope : Scope
/-- the object at f is the lambda F with the code object c -/
def LamO (f c : Addr) (F : LF) : HO := .ext fun h => ∃ (pm ctv : Value), h.get? f = some (PySem.W.kla_obj "<lambda>" F.qual F.params F.body F.scope [] pm c ctv)
theorem lamO_at {P : Program} {w : World} {H : Hp} {h : Heap} {f c : Addr} {F : LF} (hok : HOk P w H h) (e : H f = some (LamO f c F)) : ∃ (pm ctv : Value), h.get? f = some (PySem.W.kla_obj "<lambda>" F.qual F.params F.body F.scope [] pm c ctv) := by
  obtain ⟨z, _, _⟩ := hok f _ e
  exact z
def IsLam (H : Hp) (f : Addr) (F : LF) : Prop := ∃ c, H f = some (LamO f c F) ∧ H c = some (CodeO c F.qual)
section
variable {X : Cx} {pins : List (Addr × Obj)} {σ : L2.St} {H : Hp} {s : Shared}
theorem clo_none {cells : List (Str × Addr)} {names : List (Str × NameKind)} (h : ∀ y ∈ names, y.2 ≠ .free) : cloFrom cells names [] = [] := by
  cases e : cloFrom cells names [] with
  | nil => rfl
  | cons p l =>
    have m : (p.1, p.2) ∈ cloFrom cells names [] := e ▸ List.mem_cons_self
    rcases cloFrom_mem m with z | ⟨z, _⟩
    · exact nomatch z
    · exact (h _ z rfl).elim
/-- the abstract heap with one more code object c in the table P -/
noncomputable abbrev more (H : Hp) (P : Addr) (ps : Array Value) (pos : Pos) (c : Addr) (q : Str) : Hp := upd (upd H P (.tbl (ps ++ #[rawInt pos.line, rawInt pos.col, .ref c]))) c (CodeO c q)
theorem more_ext {P c : Addr} {ps : Array Value} {pos : Pos} {q : Str} (hP : H P = some (.tbl ps)) (free : H c = none) : ExtN H (more H P ps pos c q) := by
  intro b o e n
  have ne : b ≠ P := by
    rintro rfl
    exact n ps (Option.some.inj (e.symm.trans hP))
  exact (upd_ne (ne_of_none e free)).trans ((upd_ne ne).trans e)
theorem more_tabs {T : List (Addr × Str)} {P c : Addr} {ps : Array Value} {pos : Pos} {q : Str} (t : Tabs T H) (only : ∀ p ∈ T, p.1 = P → p.2 = q) (hP : H P = some (.tbl ps)) (free : H c = none) : Tabs T (more H P ps pos c q) := by
  have ext := more_ext (pos := pos) (q := q) hP free
  rintro ⟨A, r⟩ m
  obtain ⟨rs, e, ok, tells⟩ := t _ m
  by_cases z : A = P
  · subst z
    cases e.symm.trans hP
    have eq : r = q := only _ m rfl
    subst eq
    have l : (ps ++ #[rawInt pos.line, rawInt pos.col, .ref c]).toList = ps.toList ++ [rawInt pos.line, rawInt pos.col, .ref c] := by rw [Array.toList_append]
    refine ⟨_, (upd_ne (ne_of_none hP free)).trans upd_same, l ▸ TriplesOk_snoc _ _ _ _ ok, fun p' cv y => ?_⟩
    rw [l] at y
    rcases among_app _ ok y with y | y
    · obtain ⟨d, d1, d2⟩ := tells p' cv y
      exact ⟨d, d1, ext _ _ d2 codeO_ne⟩
    · exact ⟨c, y, upd_same⟩
  · refine ⟨rs, (upd_ne (ne_of_none e free)).trans ((upd_ne z).trans e), ok, fun p' cv y => ?_⟩
    obtain ⟨d, d1, d2⟩ := tells p' cv y
    exact ⟨d, d1, ext _ _ d2 codeO_ne⟩
/-- the function object is laid down -/
theorem lam_laid {F : LF} {c : Addr} {tk : Nat} {pm ctv : Value} {H0 : Hp} {T : List (Addr × Str)} (J : Inv X pins σ H s) (ext : ExtN H0 H) (t : Tabs T H) (hc : H c = some (CodeO c F.qual)) :
    ∃ H1, Inv X pins σ H1 { s with heap := s.heap.push (PySem.W.kla_obj "<lambda>" F.qual F.params F.body F.scope [] pm c ctv), toks := tk } ∧ ExtN H0 H1 ∧ Tabs T H1 ∧ IsLam H1 s.heap.objs.size F := by
  have free : H s.heap.objs.size = none := J.hok.fresh (Nat.le_refl _)
  have at_ : (s.heap.push (PySem.W.kla_obj "<lambda>" F.qual F.params F.body F.scope [] pm c ctv)).get? s.heap.objs.size = some _ := Heap.get?_push_size s.heap rfl
  have keep : ∀ b o, H b = some o → upd H s.heap.objs.size (LamO s.heap.objs.size c F) b = some o := fun b o e => (upd_ne (ne_of_none e free)).trans e
  refine ⟨upd H s.heap.objs.size (LamO s.heap.objs.size c F), J.laid (fun b u e => Heap.get?_push_of_some _ e) (Nat.le_refl _) ⟨⟨pm, ctv, at_⟩, ⟨_, at_⟩, ?_⟩, fun b o e n => keep b o (ext b o e n), t.ext keep, c, upd_same, keep _ _ hc⟩
  rintro _ _ ⟨p, u, z⟩ st
  exact ⟨p, u, st _ z⟩
theorem lam_makeV {T : List (Addr × Str)} {c P : Addr} {params : Arguments} {body : Expr} {scope : Scope} {pos : Pos} {E : Value → Shared → Prop} {Q : Value → Shared → Prop} (I : Inv X pins σ H s) (TB : TabB X.base X.mg c P) (own : X.env.code = .ref c)
    (hm : (P, X.env.qual ++ "<lambda>") ∈ T) (only : ∀ p ∈ T, p.1 = P → p.2 = X.env.qual ++ "<lambda>") (t : Tabs T H) (hdef : defaultsOf params X.env = ([], [])) (hfree : ∀ y ∈ scope.names, y.2 ≠ .free)
    (h : ∀ (f : Addr) (H1 : Hp) (s' : Shared), Inv X pins σ H1 s' → ExtN H H1 → Tabs T H1 → H f = none → IsLam H1 f ⟨X.env.qual ++ "<lambda>", params, body, scope⟩ → Q (.ref f) s') :
    wpAny (model X.prog X.w) X.A (eval (.Lambda params body scope pos) X.env) Q E s := by
  obtain ⟨ps, eP, ok, tells⟩ := t _ hm
  have clo : closureFor scope X.env = pure [] := (closure_ok (scope := scope) (env := X.env) fun y m z => (hfree y m z).elim).trans (congrArg pure (clo_none hfree))
  have glob := I.mod.glob.keeps I.bk
  have code := TB.code.keeps I.bk
  have rows : s.heap.get? P = some { cls := .none, data := .fields ps } := I.hok P _ eP
  refine PySem.W.kla_eval hdef ?_
  cases am : codeAmong pos ps.toList with
  | some cv =>
    obtain ⟨d, rfl, d2⟩ := tells pos cv am
    refine PySem.W.kla_makeFunctionHit (mg := X.mg) (c := c) (P := P) (ps := ps) clo I.ok.glob glob own code rows ok am (TB.bm.keeps I.bk) fun ctv h' tk keep _ => ?_
    have J : Inv X pins σ H { s with heap := h', toks := tk } := I.kept keep
    obtain ⟨H1, J1, e1, t1, l1⟩ := lam_laid (F := ⟨X.env.qual ++ "<lambda>", params, body, scope⟩) (tk := tk) (pm := (X.mg "__name__").getD .none) (ctv := ctv) J (ExtN.refl H) t d2
    exact h _ H1 _ J1 e1 t1 (J.hok.fresh (Nat.le_refl _)) l1
  | none =>
    refine PySem.W.kla_makeFunction (mg := X.mg) (c := c) (P := P) (ps := ps) clo I.ok.glob glob own code rows ok am TB.gP (TB.bm.keeps I.bk) fun d ctv h' tk keep ge lt rec grew => ?_
    obtain ⟨d', oc, vs, tok, ed, r1, r2, r3⟩ := rec
    cases ed
    have free : H d = none := I.hok.fresh ge
    have J := inv_table (t' := tk) (more := #[rawInt pos.line, rawInt pos.col, .ref d]) I eP (fun b o n e => keep b o n e) grew ge ⟨oc, vs, tok, r1, r2, r3⟩
    obtain ⟨H1, J1, e1, t1, l1⟩ := lam_laid (F := ⟨X.env.qual ++ "<lambda>", params, body, scope⟩) (tk := tk) (pm := (X.mg "__name__").getD .none) (ctv := ctv) J (more_ext eP free) (more_tabs t only eP free) upd_same
    exact h _ H1 _ J1 e1 t1 (I.hok.fresh (Nat.le_trans ge (Nat.le_of_lt lt))) l1
end
/-- the reading of a lambda as a value -/
def tLamV (T : List (Addr × Str)) (F : LF) : TE := fun σ H Q => Tabs T H ∧ ∀ (f : Addr) (H1 : Hp), ExtN H H1 → Tabs T H1 → H f = none → IsLam H1 f F → Q (.ref f) H1
theorem pe_lamV {X : Cx} {T : List (Addr × Str)} {c P : Addr} {params : Arguments} {body : Expr} {scope : Scope} {pos : Pos} {q : Str} (TB : TabB X.base X.mg c P) (hcode : X.env.code = .ref c) (hq : X.env.qual ++ "<lambda>" = q)
    (hm : (P, q) ∈ T) (hu : ∀ p ∈ T, p.1 = P → p.2 = q) (hdef : defaultsOf params X.env = ([], [])) (hfree : ∀ y ∈ scope.names, y.2 ≠ .free) : PE X (.Lambda params body scope pos) (tLamV T ⟨q, params, body, scope⟩) := by
  subst hq
  refine ⟨fun pins s σ H Q I h => ?_⟩
  obtain ⟨hT, h⟩ := h
  exact lam_makeV I TB hcode hm hu hT hdef hfree fun f H1 s' I1 e1 e2 e3 e4 => ⟨.ref f, H1, I1, rfl, h f H1 e1 e2 e3 e4⟩
/-! ### its promise -/
structure LOk (P : Program) (w : World) (K : PySem.W.Frag) (mg : Str → Option Value) (base : Heap) (CX : CXT) (k : Nat) (F : LF) (sp : Sp) : Prop where
  run : ∀ (f : Addr) (A : Around) (outer : List Env) (s : Shared) (H : Hp) (us : List Value) (vs : List V) (Q : VK) (E : XK), Room k A → Env0 P w K mg base A outer s H → IsLam H f F → Vals vs us → sp vs H Q E →
    codeAny (model P w) A (.call (.ref f) ⟨us, []⟩) (CR CX outer P w H s Q E) s
abbrev nfOf (F : LF) (c : Addr) : NF := ⟨"<lambda>", F.qual, F.params, [], F.scope, [], c⟩
theorem lok_of {CX : CXT} {P : Program} {w : World} {K : PySem.W.Frag} {mg : Str → Option Value} {base : Heap} {ps : List Str} {F : LF} {k : Nat} {sp : Sp} (S : NScope ps ps [] F.scope)
    (bind : ∀ (pm cv ctv : Value) (us : List Value), us.length = ps.length → bindArgs (PySem.W.kla_fn "<lambda>" F.qual F.params F.body F.scope [] pm cv ctv) ⟨us, []⟩ = pure (ps.zip us)) (len : ∀ vs H Q E, sp vs H Q E → vs.length = ps.length)
    (hbody : ∀ (f c : Addr) (A : Around) (outer : List Env) (s : Shared) (H : Hp) (vs : List V) (Q : VK) (E : XK), Room k (A.deeper (envF (nfOf F c) f s.heap.objs.size)) → sp vs H Q E →
      ∃ t, PE (ncx CX P w K mg base ps (nfOf F c) f A outer s H E) F.body t ∧ t (startF ps vs []) H Q) : LOk P w K mg base CX (k + 1) F sp := ⟨fun f A outer s H us vs Q E room e0 ⟨c, isF, isC⟩ rel want => by
  have many := len _ _ _ _ want
  obtain ⟨pm, ctv, obj⟩ := lamO_at e0.hok isF
  obtain ⟨t, pe, rd⟩ := hbody f c A outer s H vs Q E (room.deeper _) want
  have nl : s.heap.NoLimit := e0.mod.nolimit.keeps fun b o z => (e0.bs b o z).1
  have cells : CellsAt (nfOf F c).cl [] [] s.heap H := ⟨rfl, fun _ _ z => (nomatch (show (none : Option Addr) = some _ from z)), fun _ _ _ z => (nomatch (show (none : Option Addr) = some _ from z)), fun _ _ z => by simp at z⟩
  refine PySem.W.kla_callFunE room.depth obj rfl S.co S.gen rfl (codeO_at e0.hok isC) ?_
  rw [bind pm (.ref c) ctv us (rel.length.symm.trans many)]
  refine wpAny_pure (wpAny_newFunctionEnv S.nocell (fun y m => S.par y.1 (List.of_mem_zip m).1) (fun g space but => ⟨nl.fresh _ but, ?_⟩) S.kind)
  have J : Inv (ncx CX P w K mg base ps (nfOf F c) f A outer s H E) [] (startF ps vs []) H { s with heap := g, toks := s.toks + (ps.zip us).length } :=
    inv_startN S room.hd e0 many rel cells space fun b o z => but.extBut b o (Nat.ne_of_lt (Heap.lt_size z)) (Heap.get?_push_of_some _ z)
  show codeAny (model P w) _ (.expr F.body _) _ _
  refine PySem.W.kla_codeExpr (wpAny_mono (pe.run [] _ _ H Q J rd) ?_ fun _ _ z => z)
  rintro v s' ⟨x, H', L, rx, q⟩
  exact ⟨x, H', L.os, L.bare, L.base, L.hok, rx, q⟩⟩
/-! ### a call of a name that holds a lambda -/
def tLCall (i : Nat) (LK : LF → Sp → Prop) (E : XK) (ta : TA) : TE := fun σ H Q => ∃ (f : Addr) (F : LF) (sp : Sp), σ[i]? = some (some (.ref f)) ∧ IsLam H f F ∧ LK F sp ∧ ta σ H fun vs H1 => IsLam H1 f F ∧ sp vs H1 Q E
theorem IsLam.fn {X : Cx} {pins : List (Addr × Obj)} {σ : L2.St} {H : Hp} {s : Shared} {f : Addr} {F : LF} (l : IsLam H f F) (J : Inv X pins σ H s) : PySem.W.FnAt f s.heap := by
  obtain ⟨c, isF, _⟩ := l
  obtain ⟨pm, ctv, z⟩ := lamO_at J.hok isF
  exact ⟨_, _, _, _, z⟩
theorem pe_lcall {X : Cx} {CX : CXT} {k i : Nat} {x : Str} {e : Expr} {es : List Expr} {ta : TA} {p pos : Pos} {LK : LF → Sp → Prop} {E : XK} (hL : ∀ F sp, LK F sp → LOk X.prog X.w X.K X.mg X.base CX k F sp) (hr : Room k X.A) (hx : Passes CX X E)
    (hN : X.N[i]? = some x) (hv : Vis X.env.scope x) (ha : PA X (e :: es) ta) (hd : (x == ("__debug__" : Str)) = false := by decide) (hcd : (x == ("__classdict__" : Str)) = false := by decide)
    (stars : starEach (e :: es) X.env = (false, eval e X.env) :: starEach es X.env := by rfl) (plain : (backTo pos (starEach es X.env)).any (·.1) = false := by rfl) :
    PE X (.Call (.Name x p) (e :: es) [] pos) (tLCall i LK E ta) := ⟨fun pins s σ H Q I ⟨f, F, sp, at_, lam, ok, h⟩ => by
  refine wpAny_Call_Name_kw (thn ((pe_var (pos := p) (i := i) hN hv hd hcd).run pins s σ H (fun v H1 => v = .ref f ∧ H1 = H) I ⟨.ref f, at_, rfl, rfl⟩) ?_)
  rintro u s1 ⟨v, H1, J, ru, ev, eH⟩
  rw [ev] at ru
  rw [eH] at J
  have ru : u = Value.ref f := ru
  subst ru
  refine PySem.W.callWith_F (lam.fn J) (thn (ha.run pos pins s1 σ H _ J h) ?_) stars plain
  rintro us s2 ⟨vs, H2, L, rel, lam2, want⟩
  refine ⟨lam2.fn L, wpAny_call (codeAny_mono ((hL F sp ok).run f X.A X.stack s2 H2 us vs Q E hr L.env0 lam2 rel want) fun r s' z => ?_)⟩
  match r, z with
  | .error y, z => exact hx pins σ H2 s2 y s' L z
  | .ok (.ret y), z => exact L.after z
  | .ok .next, z => exact z.elim
  | .ok .brk, z => exact z.elim
  | .ok .cont, z => exact z.elim⟩
end LamV

namespace L2
open PySem PySem.Spec PyProof.Rows
def keyD : Key → PyData
  | .inl i => .int i
  | .inr x => .str x
/-- the value v, read through H, is the datum d; nesting below n -/
def RdD (H : Hp) : Nat → V → PyData → Prop
  | 0 => fun _ _ => False
  | n + 1 => fun v d => match d with
    | .none => v = .non
    | .bool b => v = .bl b
    | .int i => v = .int i
    | .str x => v = .str x
    | .list xs => ∃ a ys, v = .ref a ∧ H a = some (.lst ys) ∧ Paired (RdD H n) ys xs
    | .tuple xs => ∃ a ys, v = .ref a ∧ H a = some (.tup ys) ∧ Paired (RdD H n) ys xs
    | .dict kvs => ∃ a ks, v = .ref a ∧ H a = some (.dK ks) ∧ Paired (fun (p : Key × V) (q : PyData × PyData) => q.1 = keyD p.1 ∧ RdD H n p.2 q.2) ks kvs
theorem RdD.ext {H H' : Hp} (e : ∀ b o, H b = some o → (∃ xs, o = .lst xs) ∨ (∃ xs, o = .tup xs) ∨ (∃ xs, o = .dK xs) → H' b = some o) : ∀ {n : Nat} {v : V} {d : PyData}, RdD H n v d → RdD H' n v d
  | 0, _, _, h => h.elim
  | n + 1, v, d, h => by
    cases d with
    | none => exact h
    | bool b => exact h
    | int i => exact h
    | str x => exact h
    | list xs =>
      obtain ⟨a, ys, h1, h2, h3⟩ := h
      exact ⟨a, ys, h1, e _ _ h2 (.inl ⟨_, rfl⟩), Paired.mapP h3 fun _ _ z => RdD.ext e z⟩
    | tuple xs =>
      obtain ⟨a, ys, h1, h2, h3⟩ := h
      exact ⟨a, ys, h1, e _ _ h2 (.inr (.inl ⟨_, rfl⟩)), Paired.mapP h3 fun _ _ z => RdD.ext e z⟩
    | dict kvs =>
      obtain ⟨a, ys, h1, h2, h3⟩ := h
      exact ⟨a, ys, h1, e _ _ h2 (.inr (.inr ⟨_, rfl⟩)), Paired.mapP h3 fun _ _ z => ⟨z.1, RdD.ext e z.2⟩⟩
section
variable {P : Program} {w : World} {H : Hp} {h : Heap}
theorem reads_all {F : V → PyData → Prop} (ih : ∀ v d u, F v d → RelV v u → ∃ as, Reads h u d as ∧ sysModules ∉ as) : ∀ {ys : List V} {xs : List PyData} {us : List Value}, Paired F ys xs → Vals ys us → ∃ as, ReadsAll h us xs as ∧ sysModules ∉ as
  | _, _, _, .nil, .nil => ⟨[], .nil, by simp⟩
  | _, _, _, .cons f t, .cons r q => by
    obtain ⟨a1, r1, n1⟩ := ih _ _ _ f r
    obtain ⟨a2, r2, n2⟩ := reads_all ih t q
    exact ⟨a1 ++ a2, .cons r1 r2, fun z => (List.mem_append.mp z).elim n1 n2⟩
theorem reads_keys {F : V → PyData → Prop} : ∀ {ks : List (Key × V)} {vs : List (Key × Value)} {es : List DictEntry} {kvs : List (PyData × PyData)}, KV ks vs → Pairs (mixKind P w) es vs → Paired (fun (p : Key × V) (q : PyData × PyData) => q.1 = keyD p.1 ∧ F p.2 q.2) ks kvs →
    ReadsAll h (es.map (·.key)) (kvs.map (·.1)) [] ∧ Vals (ks.map (·.2)) (es.map (·.val)) ∧ Paired F (ks.map (·.2)) (kvs.map (·.2))
  | _, _, _, _, .nil, .nil, .nil => ⟨.nil, .nil, .nil⟩
  | _, _, _, _, .cons (a := p) (b := q) r t, .cons (e := e) h1 h2 t2, .cons (b := z) f t3 => by
    obtain ⟨i1, i2, i3⟩ := reads_keys t t2 t3
    obtain ⟨r1, r2⟩ := r
    obtain ⟨f1, f2⟩ := f
    have hk : Reads h e.key z.1 [] := by
      rw [f1, r1]
      have h1' : keyIs q.1 e.key = true := h1
      rcases keyIs_shape h1' with ⟨i, t, e1, e2⟩ | ⟨x, t, e1, e2⟩
      · rw [e1, e2]; exact .int i t
      · rw [e1, e2]; exact .str x t
    refine ⟨.cons (as := []) (bs := []) hk i1, .cons ?_ i2, .cons f2 i3⟩
    show RelV p.2 e.val
    rw [h2]; exact r2
theorem rdD_reads (hok : HOk P w H h) (hs : H sysModules = none) : ∀ (n : Nat) (v : V) (d : PyData) (u : Value), RdD H n v d → RelV v u → ∃ as, Reads h u d as ∧ sysModules ∉ as
  | 0, _, _, _, r, _ => r.elim
  | n + 1, v, d, u, r, rv => by
    have ne : ∀ {a : Addr} {o : HO}, H a = some o → sysModules ≠ a := fun {a o} e z => by
      rw [← z, hs] at e
      cases e
    cases d with
    | none =>
      have r' : v = .non := r
      subst r'
      obtain rfl : u = Value.none := rv
      exact ⟨[], .none, by simp⟩
    | bool b =>
      have r' : v = .bl b := r
      subst r'
      obtain rfl : u = Value.bool b := rv
      exact ⟨[], .bool b, by simp⟩
    | int i =>
      have r' : v = .int i := r
      subst r'
      obtain ⟨t, rfl⟩ := rv
      exact ⟨[], .int i t, by simp⟩
    | str x =>
      have r' : v = .str x := r
      subst r'
      obtain ⟨t, rfl⟩ := rv
      exact ⟨[], .str x t, by simp⟩
    | list xs =>
      obtain ⟨a, ys, rfl, h2, h3⟩ := r
      obtain rfl : u = Value.ref a := rv
      obtain ⟨_, its, m, rr, e⟩ := hok a _ h2
      obtain ⟨as, q1, q2⟩ := reads_all (fun v d u => rdD_reads hok hs n v d u) h3 rr
      exact ⟨a :: as, .list e rfl rfl (by simpa using q1), fun z => (List.mem_cons.mp z).elim (ne h2) q2⟩
    | tuple xs =>
      obtain ⟨a, ys, rfl, h2, h3⟩ := r
      obtain rfl : u = Value.ref a := rv
      obtain ⟨_, its, rr, o, e, ec, m, ed⟩ := hok a _ h2
      obtain ⟨as, q1, q2⟩ := reads_all (fun v d u => rdD_reads hok hs n v d u) h3 rr
      exact ⟨as, .tuple e ec ed (by simpa using q1), q2⟩
    | dict kvs =>
      obtain ⟨a, ks, rfl, h2, h3⟩ := r
      obtain rfl : u = Value.ref a := rv
      obtain ⟨_, _, vs, rr, o, es, ep, e, ex, ed, _, pr, _⟩ := hok a _ h2
      obtain ⟨k1, k2, k3⟩ := reads_keys (h := h) rr pr h3
      obtain ⟨as, q1, q2⟩ := reads_all (fun v d u => rdD_reads hok hs n v d u) k3 k2
      exact ⟨a :: [] ++ as, .dict e ex.1 ed k1 q1, fun z => (List.mem_cons.mp z).elim (ne h2) q2⟩
end
/-- repr of a list, tuple, dict -/
def rRepr : List V → Hp → VK → Prop := fun xs H Q => ∃ (a : Addr) (n : Nat) (d : PyData), xs = [.ref a] ∧ RdD H n (.ref a) d ∧ d.showable = true ∧ d.depth ≤ 40 ∧ d.shown.length ≤ sizeLine ∧ Q (.str d.shown) H
theorem call_reprD {X : Cx} (hG : X.A.guards = some []) (hu : X.A.units + 64 < cLine) (hS : (X.K.lookup sysModules).isSome = true) : CallR X (.builtin "repr") rRepr := by
  intro pins s σ H xs us Q I r h
  obtain ⟨a, n, d, rfl, hd, hs, hdp, hsz, q⟩ := h
  obtain ⟨u1, rfl, r1⟩ := vals1 r
  obtain rfl : u1 = Value.ref a := r1
  obtain ⟨o, ho⟩ := Option.isSome_iff_exists.mp hS
  have hn : H sysModules = none := (I.bs _ _ (I.ok.mod.kin _ _ ho)).2
  obtain ⟨as, hr, hm⟩ := rdD_reads I.hok hn n (.ref a) d (.ref a) hd rfl
  exact repr_of_reads' hr hs (fun _ => hm) hG (by omega) (fun _ _ z => z) (fun h' u tk hk => ⟨.str d.shown, H, I.kept (t' := tk) hk, ⟨u, rfl⟩, q⟩) hsz
end L2

/-! the law's call, asked at the caller's own surroundings: what is tracked at its begin, and what its end leaves -/
namespace LamX
open PySem PySem.Spec PyProof.Rows L2
abbrev noRows : Obj := { cls := .none, data := .fields #[] }
abbrev scrO (us : List Value) : Obj := { cls := .type "list", data := .seq us.toArray }
/-- the begin: the script at a; ts: code objects with their tables, which are empty -/
structure Beg (K : PySem.W.Frag) (mg mb : Str → Option Value) (ts : List (Addr × Addr)) (s : Shared) (a : Addr) (us : List Value) (ns : List Int) : Prop where
  frag : K.In s.heap
  glob : s.heap.Ns mainGlobals mg
  blt : s.heap.Ns builtinsNs mb
  bltW : ∀ x : Str, x ≠ "__name__" → mb x = bootBuiltins x
  lim : s.heap.NoLimit
  gens : s.gens = #[]
  rows : ∀ p, p ∈ ts → s.heap.get? p.2 = some noRows
  out : ∀ p, p ∈ ts → K.lookup p.2 = none
  code : ∀ p, p ∈ ts → PySem.W.CodeHd s.heap p.1 p.2
  bmod : ∃ (m : Addr) (o : Obj), mg "__builtins__" = some (.ref m) ∧ m ≠ builtinsNs ∧ s.heap.get? m = some o ∧ o.cls = .type "module" ∧ o.dict = some builtinsNs ∧ o.data = .plain
  scr : s.heap.get? a = some (scrO us)
  nums : IntsAre us ns
  few : ns.length ≤ sizeLine
/-- what is tracked at the begin -/
noncomputable def begH (K : PySem.W.Frag) (ts : List (Addr × Addr)) (a : Addr) (us : List Value) (ns : List Int) : Hp := fun b =>
  match decide (b ∈ ts.map Prod.snd), decide (b = a), K.lookup a with
  | true, _, _ => some (.tbl #[])
  | false, true, none => some (.frz (scrO us) (.lst (ns.map V.int)))
  | false, true, some _ => none
  | false, false, _ => none
section
variable {K : PySem.W.Frag} {mg mb : Str → Option Value} {ts : List (Addr × Addr)} {s : Shared} {a : Addr} {us : List Value} {ns : List Int}
theorem begH_ways (b : Addr) : (b ∈ ts.map Prod.snd ∧ begH K ts a us ns b = some (.tbl #[])) ∨ (b ∉ ts.map Prod.snd ∧ b = a ∧ K.lookup a = none ∧ begH K ts a us ns b = some (.frz (scrO us) (.lst (ns.map V.int)))) ∨
    (b ∉ ts.map Prod.snd ∧ begH K ts a us ns b = none ∧ (b = a → K.lookup a ≠ none)) := by
  unfold begH
  by_cases m : b ∈ ts.map Prod.snd
  · exact .inl ⟨m, by rw [decide_eq_true m]⟩
  · rw [decide_eq_false m]
    by_cases q : b = a
    · rw [decide_eq_true q]
      cases k : K.lookup a with
      | none => exact .inr (.inl ⟨m, q, rfl, rfl⟩)
      | some o => exact .inr (.inr ⟨m, rfl, fun _ z => by cases z⟩)
    · rw [decide_eq_false q]
      exact .inr (.inr ⟨m, rfl, fun z => absurd z q⟩)
theorem snd_mem {p : Addr × Addr} (h : p ∈ ts) : p.2 ∈ ts.map Prod.snd := List.mem_map_of_mem h
theorem begH_tab {p : Addr × Addr} (h : p ∈ ts) : begH K ts a us ns p.2 = some (.tbl #[]) := by
  unfold begH
  rw [decide_eq_true (snd_mem h)]
namespace Beg
variable (B : Beg K mg mb ts s a us ns)
include B
theorem at_tab {b : Addr} (h : b ∈ ts.map Prod.snd) : s.heap.get? b = some noRows := by
  obtain ⟨p, m, rfl⟩ := List.mem_map.mp h
  exact B.rows p m
theorem no_tab : a ∉ ts.map Prod.snd := fun z => by
  have q := (B.at_tab z).symm.trans B.scr
  cases q
/-- neither a list nor a table without rows: it is not tracked -/
theorem loose {b : Addr} {o : Obj} (e : s.heap.get? b = some o) (h : match o.data with
    | .seq _ _ => False
    | .fields vs => vs ≠ #[]
    | _ => True) : begH K ts a us ns b = none := by
  rcases begH_ways (K := K) (ts := ts) (a := a) (us := us) (ns := ns) b with ⟨m, _⟩ | ⟨_, q, _, _⟩ | ⟨_, z, _⟩
  · cases (B.at_tab m).symm.trans e
    exact absurd rfl h
  · subst q
    cases B.scr.symm.trans e
    exact h.elim
  · exact z
noncomputable abbrev base (_ : Beg K mg mb ts s a us ns) : Heap := hidT s.heap (begH K ts a us ns)
theorem seen {b : Addr} {o : Obj} (e : s.heap.get? b = some o) (h : match o.data with
    | .seq _ _ => False
    | .fields vs => vs ≠ #[]
    | _ => True) : B.base.get? b = some o := hidT_get e (B.loose e h)
theorem space {b : Addr} {m : Str → Option Value} (z : s.heap.Ns b m) : B.base.Ns b m := by
  obtain ⟨o, es, ep, e, d, r⟩ := z
  exact ⟨o, es, ep, B.seen e (by rw [d]; trivial), d, r⟩
theorem kin : K.In B.base := fun b o e => by
  refine hidT_get (B.frag b o e) ?_
  rcases begH_ways (K := K) (ts := ts) (a := a) (us := us) (ns := ns) b with ⟨m, _⟩ | ⟨_, q, k, _⟩ | ⟨_, z, _⟩
  · obtain ⟨p, hp, rfl⟩ := List.mem_map.mp m
    rw [B.out p hp] at e
    cases e
  · rw [q, k] at e
    cases e
  · exact z
theorem module_ : L2.Mod K mg B.base where
  kin := B.kin
  glob := B.space B.glob
  blt := ⟨mb, B.space B.blt, B.bltW⟩
  nolimit := by
    obtain ⟨mc, z, q⟩ := B.lim
    exact ⟨mc, B.space z, q⟩
theorem table {p : Addr × Addr} (hp : p ∈ ts) : TabB B.base mg p.1 p.2 where
  code := by
    obtain ⟨o, vs, c1, c2, c3, c4, c5, c6, c7, e, d1, d2, d3, d4⟩ := B.code p hp
    refine ⟨o, vs, c1, c2, c3, c4, c5, c6, c7, B.seen e ?_, d1, d2, d3, d4⟩
    rw [d2]
    intro z
    rw [z] at d3
    cases d3
  bm := by
    obtain ⟨m, o, e1, e2, e3, e4, e5, e6⟩ := B.bmod
    refine ⟨m, o, e1, e2, fun z => ?_, fun z => ?_, B.seen e3 (by rw [e6]; trivial), e4, e5, e6⟩
    · obtain ⟨u, es, ep, g1, g2, _⟩ := B.glob
      rw [z, g1] at e3
      rw [Option.some.inj e3, e6] at g2
      cases g2
    · rw [z, B.rows p hp] at e3
      rw [← Option.some.inj e3] at e6
      cases e6
  gP := fun z => by
    obtain ⟨u, es, ep, g1, g2, _⟩ := B.glob
    rw [z, B.rows p hp] at g1
    rw [← Option.some.inj g1] at g2
    cases g2
theorem fine {P : Program} {w : World} : HOk P w (begH K ts a us ns) s.heap := fun b o e => by
  rcases begH_ways (K := K) (ts := ts) (a := a) (us := us) (ns := ns) b with ⟨m, q⟩ | ⟨_, q1, _, q⟩ | ⟨_, q, _⟩
  · cases q.symm.trans e
    exact B.at_tab m
  · cases q.symm.trans e
    subst q1
    exact ⟨B.scr, by rw [List.length_map]; exact B.few, us, _, vals_ints B.nums, B.scr⟩
  · cases q.symm.trans e
theorem script : SqL K (begH K ts a us ns) a (ns.map V.int) := by
  rcases begH_ways (K := K) (ts := ts) (a := a) (us := us) (ns := ns) a with ⟨m, _⟩ | ⟨_, _, _, q⟩ | ⟨_, _, q⟩
  · exact absurd m B.no_tab
  · exact .inl (.inr ⟨_, q⟩)
  · cases k : K.lookup a with
    | none => exact absurd k (q rfl)
    | some o =>
      cases (B.frag a o k).symm.trans B.scr
      exact .inr ⟨_, us.toArray, _, k, rfl, rfl, rfl, by rw [List.size_toArray, B.nums.length]; exact B.few, vals_ints B.nums⟩
theorem env {P : Program} {w : World} : Env0 P w K mg B.base callerA [] s (begH K ts a us ns) where
  frames := rfl
  mod := B.module_
  bs := fun _ _ e => of_hidT e
  bsz := Nat.le_of_eq (hidT_size s.heap _)
  funs := trivial
  frf := fun b m => nomatch m
  hok := B.fine
  bare := .of_eq B.gens
/-- behind the call -/
theorem left {P : Program} {w : World} {H : Hp} {s' : Shared} (u : Un [] [] (begH K ts a us ns) H s.heap s'.heap) (k : HOk P w H s'.heap) : OldK s.heap s'.heap := by
  have tb : ∀ {b : Addr}, b ∈ ts.map Prod.snd → ∃ vs : Array Value, s'.heap.get? b = some { cls := .none, data := .fields vs } := fun {b} m => by
    obtain ⟨p, hp, rfl⟩ := List.mem_map.mp m
    obtain ⟨vs, q⟩ := u.tbls p.2 #[] (begH_tab hp)
    exact ⟨_, k p.2 _ q⟩
  have nt : ∀ {b : Addr} {o : Obj}, b ∉ ts.map Prod.snd → s.heap.get? b = some o → s'.heap.get? b = some o := fun {b o} n e => by
    rcases begH_ways (K := K) (ts := ts) (a := a) (us := us) (ns := ns) b with ⟨m, _⟩ | ⟨_, q1, _, q⟩ | ⟨_, q, _⟩
    · exact absurd m n
    · subst q1
      cases B.scr.symm.trans e
      exact (k b _ (u.frzs b _ _ q)).1
    · exact u.keep b o e q List.not_mem_nil List.not_mem_nil
  constructor
  · intro b o e
    by_cases m : b ∈ ts.map Prod.snd
    · obtain ⟨vs, q⟩ := tb m
      obtain ⟨p, hp, rfl⟩ := List.mem_map.mp m
      cases (B.rows p hp).symm.trans e
      exact .inr (.inl ⟨((B.code p hp).tab (B.rows p hp)).isCodeTable, rfl, #[], vs, rfl, by rw [Array.empty_append]; exact q⟩)
    · exact .inl (nt m e)
  · intro b o e
    by_cases m : b ∈ ts.map Prod.snd
    · obtain ⟨vs, q⟩ := tb m
      exact ⟨_, q⟩
    · exact ⟨o, nt m e⟩
end Beg
end
/-- what is asked of a law: its call at the caller's own surroundings, whatever is tracked besides the script and the tables -/
def AskG (l : PySem.W.OpenLaw) (CX : CXT) (n : Nat) (w : World) (mg : Str → Option Value) (fa : Addr) (K : PySem.W.Frag) (ts : List (Addr × Addr)) : Prop := ∀ b : Heap, K.In b → b.Ns mainGlobals mg → (∀ p, p ∈ ts → TabB b mg p.1 p.2) →
  ∀ (s : Shared) (H : Hp) (a : Addr) (ns : List Int), ns.length ≤ n → (∀ p, p ∈ ts → H p.2 = some (.tbl #[])) → SqL K H a (ns.map V.int) → Env0 l.prog w K mg b callerA [] s H →
    codeAny (model l.prog w) callerA (.call (.ref fa) ⟨[.ref a], []⟩) (CR CX [] l.prog w H s (fun v _ => v = .bl true) fun _ _ _ => False) s
theorem walk_ofG {l : PySem.W.OpenLaw} {n : Nat} {q : Program} {loose : List Str} {XP : (Str → Option Value) → Heap → Prop} {YP : World → Heap → Prop} {d : DefRec} {CX : CXT} (h1 : l.most = some n) (h2 : n ≤ sizeLine) (h3 : d.params.defaults = [])
    (F : ∀ (w : World) (mg : Str → Option Value) (fa : Addr) (h : Heap), YP w h → h.Ns mainGlobals mg → mg d.name = some (.ref fa) → ∃ (K : PySem.W.Frag) (ts : List (Addr × Addr)),
      K.In h ∧ (∀ p, p ∈ ts → h.get? p.2 = some noRows) ∧ (∀ p, p ∈ ts → K.lookup p.2 = none) ∧ (∀ p, p ∈ ts → PySem.W.CodeHd h p.1 p.2) ∧ AskG l CX n w mg fa K ts)
    (h4 : ∀ (H : Hp) (s : Shared) (e : Value) (s' : Shared), CX [] H s (fun _ _ _ => False) e s' → False) : PySem.W.WalkO q loose XP YP l.row.toRowW d [] fun f vs => PySem.call f vs := by
  refine Att.attach_callB h1 h3 fun w _ s mg mb fa _ _ _ _ a us ns G Y _ _ _ m scr nums few _ gens => ?_
  obtain ⟨K, ts, k1, k2, k3, k4, ask⟩ := F w mg fa _ Y G.T.g m
  have B : Beg K mg mb ts s a us ns := ⟨k1, G.T.g, G.T.b, G.T.builtins, G.T.nolimit, gens, k2, k3, k4, G.T.bmain, scr, nums, Nat.le_trans few h2⟩
  refine codeAny_mono (ask B.base B.kin (B.space B.glob) (fun p hp => B.table hp) s _ a ns few (fun p hp => begH_tab hp) B.script B.env) fun r s' z => ?_
  match r, z with
  | .error e, z => exact (h4 _ _ e s' z).elim
  | .ok (.ret v), z =>
    obtain ⟨x, H, o1, o2, u, k, rx, ex⟩ := z
    have ex : x = .bl true := ex
    subst ex
    have rx : v = Value.bool true := rx
    subst rx
    exact ⟨rfl, B.left u k, o1, o2⟩
  | .ok .next, z => exact z.elim
  | .ok .brk, z => exact z.elim
  | .ok .cont, z => exact z.elim
end LamX

namespace XK0
open PySem PySem.Spec PyProof.Rows L2
theorem upd3 {H : Hp} {a d : Addr} {o1 o2 o3 : HO} (h : d ≠ a) : upd (upd (upd H a o1) d o2) a o3 = upd (upd H d o2) a o3 := by
  funext b
  by_cases e : b = a
  · rw [e, upd_same, upd_same]
  · rw [upd_ne e, upd_ne e]
    by_cases e2 : b = d
    · rw [e2, upd_same, upd_same]
    · rw [upd_ne e2, upd_ne e2, upd_ne e]
/-- the promise of an __init__ that keeps one thing -/
def spI1 (K : PySem.W.Frag) (f : Str) : Sp := fun vs H Q _ => ∃ (a C : Addr) (y : V), vs = [.ref a, y] ∧ OexC K C ∧ PySem.W.findIn K (.ref C) f = some none ∧ H a = some (exo a C none) ∧ ∀ d, H d = none → d ≠ a → Q .non (upd (upd H d (exd d [(f, y)])) a (exo a C (some d)))
def spI2 (K : PySem.W.Frag) (f g : Str) : Sp := fun vs H Q _ => ∃ (a C : Addr) (y z : V), vs = [.ref a, y, z] ∧ OexC K C ∧ PySem.W.findIn K (.ref C) f = some none ∧ PySem.W.findIn K (.ref C) g = some none ∧ H a = some (exo a C none) ∧
  ∀ d, H d = none → d ≠ a → Q .non (upd (upd H d (exd d [(g, z), (f, y)])) a (exo a C (some d)))
section
variable {P : Program} {w : World} {K : PySem.W.Frag} {mg : Str → Option Value} {base : Heap} {fI : Addr} {fd : FuncData} {params : Arguments} {body : List Stmt} {scope : Scope} {qual f g : Str} {p1 p2 p3 p4 q1 q2 q3 q4 : Pos}
theorem vis_par {N P : List Str} {sc : Scope} (S : FnScope N P sc) {x : Str} (h : x ∈ P) : Vis sc x := (S.par x h).elim (fun z => .inl z) (fun z => .inr (.inl z))
theorem ok_init1 (F : FunD K "__init__" qual params [.Assign [.Attribute (.Name "self" p1) f p2] (.Name f p3) p4] scope [] [] fI fd) (S : FnScope ["self", f] ["self", f] scope) (hd : (f == ("__debug__" : Str)) = false) (hc : (f == ("__classdict__" : Str)) = false) :
    FnOk P w K mg base CX0 1 fI fd ["self", f] (spI1 K f) := by
  refine F.ok S (fun vs H Q E h => ?_) (fun cdv A outer s H vs Q E hr h => ⟨_, PSs.nox (pss_one (ps_ost (pe_var (i := 0) rfl (vis_par S List.mem_cons_self)) (pe_var (i := 1) rfl (vis_par S (List.mem_cons_of_mem _ List.mem_cons_self)) hd hc))), ?_⟩)
  · obtain ⟨a, C, y, rfl, _⟩ := h
    rfl
  · obtain ⟨a, C, y, rfl, T, hno, ha, q⟩ := h
    exact ⟨y, rfl, .ref a, rfl, a, C, rfl, T, hno, .inl ⟨ha, fun dx n ne => q dx n ne⟩⟩
theorem ok_init2 (F : FunD K "__init__" qual params [.Assign [.Attribute (.Name "self" p1) f p2] (.Name f p3) p4, .Assign [.Attribute (.Name "self" q1) g q2] (.Name g q3) q4] scope [] [] fI fd) (S : FnScope ["self", f, g] ["self", f, g] scope)
    (hd : (f == ("__debug__" : Str)) = false) (hc : (f == ("__classdict__" : Str)) = false) (hd2 : (g == ("__debug__" : Str)) = false) (hc2 : (g == ("__classdict__" : Str)) = false) :
    FnOk P w K mg base CX0 1 fI fd ["self", f, g] (spI2 K f g) := by
  refine F.ok S (fun vs H Q E h => ?_) (fun cdv A outer s H vs Q E hr h => ⟨_, PSs.nox (pss_cons (ps_ost (pe_var (i := 0) rfl (vis_par S List.mem_cons_self)) (pe_var (i := 1) rfl (vis_par S (List.mem_cons_of_mem _ List.mem_cons_self)) hd hc))
    (pss_one (ps_ost (pe_var (i := 0) rfl (vis_par S List.mem_cons_self)) (pe_var (i := 2) rfl (vis_par S (List.mem_cons_of_mem _ (List.mem_cons_of_mem _ List.mem_cons_self))) hd2 hc2)))), ?_⟩)
  · obtain ⟨a, C, y, z, rfl, _⟩ := h
    rfl
  · obtain ⟨a, C, y, z, rfl, T, hno, hno2, ha, q⟩ := h
    refine ⟨y, rfl, .ref a, rfl, a, C, rfl, T, hno, .inl ⟨ha, fun dx n ne => ?_⟩⟩
    refine ⟨z, rfl, .ref a, rfl, a, C, rfl, T, hno2, .inr ⟨dx, [(f, y)], upd_same, ?_, by show 1 ≤ 900; omega, ?_⟩⟩
    · rw [upd_ne ne, upd_same]
    · have e : upd (upd (upd H dx (exd dx [(f, y)])) a (exo a C (some dx))) dx (exd dx [(g, z), (f, y)]) = upd (upd H dx (exd dx [(g, z), (f, y)])) a (exo a C (some dx)) := by
        funext b
        by_cases e1 : b = dx
        · rw [e1, upd_same, upd_ne ne, upd_same]
        · rw [upd_ne e1]
          by_cases e2 : b = a
          · rw [e2, upd_same, upd_same]
          · rw [upd_ne e2, upd_ne e1, upd_ne e2, upd_ne e1]
      rw [e]
      exact q dx n ne
end
theorem kbn_of {K : PySem.W.Frag} {x qual : Str} {params : Arguments} {body : List Stmt} {scope : Scope} {f : Addr} {fd : FuncData} {ps : List Str} (F : FunD K x qual params body scope [] [] f fd) (n : Nat) (ks : List Str) (g : {α : Type} → List α → List α → List α)
    (hrel : ∀ {vs zs : List V} {us ws : List Value}, Vals vs us → Vals zs ws → Vals (g vs zs) (g us ws))
    (h : ∀ (kV doc pm : Value) (an : Option Addr) (cdv ct : Value) (us ws : List Value), us.length = n → ws.length = ks.length → bindArgs (PySem.W.fnOf x qual params body scope .none kV doc pm an cdv ct) ⟨us, ks.zip ws⟩ = pure (ps.zip (g us ws))) : KBn K fd ps n ks g g := by
  obtain ⟨oc, od, dV, kV, doc, pm, an, cdv, ct, osl, rfl, lk, hcd, hD, hK⟩ := F.ex
  rcases hD with ⟨_, rfl⟩ | ⟨e, _⟩
  · exact ⟨fun s us ws X l1 l2 => .of_eq (h kV doc pm an cdv ct us ws l1 l2), fun r1 r2 => hrel r1 r2⟩
  · exact absurd rfl e
/-! ### a class of one field, of two -/
structure Ec1 (K : PySem.W.Frag) (mg : Str → Option Value) (x f : Str) (C : Addr) : Prop where
  ox : OexC K C
  gl : mg x = some (.ref C)
  no : PySem.W.findIn K (.ref C) f = some none
  ini : ∃ (fI : Addr) (fd : FuncData), PySem.W.findIn K (.ref C) "__init__" = some (some (.ref fI)) ∧ PySem.W.typeIn K (.ref fI) = some (.type "function") ∧
    (∀ (P : Program) (w : World) (base : Heap), FnOk P w K mg base CX0 1 fI fd ["self", f] (spI1 K f)) ∧ KBn K fd ["self", f] 2 [] (fun us ws => us) (fun us ws => us) ∧ KBn K fd ["self", f] 1 [f] (fun us ws => us ++ ws) (fun us ws => us ++ ws)
structure Ec2 (K : PySem.W.Frag) (mg : Str → Option Value) (x f g : Str) (C : Addr) : Prop where
  ox : OexC K C
  gl : mg x = some (.ref C)
  no : PySem.W.findIn K (.ref C) f = some none
  no2 : PySem.W.findIn K (.ref C) g = some none
  ini : ∃ (fI : Addr) (fd : FuncData), PySem.W.findIn K (.ref C) "__init__" = some (some (.ref fI)) ∧ PySem.W.typeIn K (.ref fI) = some (.type "function") ∧
    (∀ (P : Program) (w : World) (base : Heap), FnOk P w K mg base CX0 1 fI fd ["self", f, g] (spI2 K f g)) ∧ KBn K fd ["self", f, g] 3 [] (fun us ws => us) (fun us ws => us) ∧ KBn K fd ["self", f, g] 1 [g, f] (fun us ws => us ++ ws.reverse) (fun us ws => us ++ ws.reverse)
/-- the reading of a new error -/
def tNew (C : Addr) (fs : List (Str × V)) (Q : VK) (H : Hp) : Prop := ∀ a d, H a = none → H d = none → d ≠ a → Q (.ref a) (upd (upd H d (exd d fs)) a (exo a C (some d)))
section
variable {X : Cx} {x f g : Str} {C : Addr} {e1 e2 : Expr} {t1 t2 : TE} {p pos kp1 kp2 : Pos}
theorem fresh_of {H : Hp} {a d : Addr} {o : HO} (h : upd H a o d = none) : H d = none ∧ d ≠ a := by
  by_cases e : d = a
  · rw [e, upd_same] at h
    cases h
  · rw [upd_ne e] at h
    exact ⟨h, e⟩
def Mo (t : TE) : Prop := ∀ (σ : L2.St) (H : Hp) (Q Q' : VK), (∀ v H', Q v H' → Q' v H') → t σ H Q → t σ H Q'
theorem mo_var (i : Nat) : Mo (tVar i) := fun σ H Q Q' k ⟨v, e, h⟩ => ⟨v, e, k _ _ h⟩
theorem new1_ok {K : PySem.W.Frag} {mg : Str → Option Value} (E : Ec1 K mg x f C) {Q : VK} {H : Hp} {y : V} (h : tNew C [(f, y)] Q H) {a : Addr} (ha : H a = none) : spI1 K f [.ref a, y] (upd H a (exo a C none)) (fun v H2 => v = .non ∧ Q (.ref a) H2) (fun _ _ _ => False) := by
  refine ⟨a, C, y, rfl, E.ox, E.no, upd_same, fun d hd hne => ⟨rfl, ?_⟩⟩
  rw [upd3 hne]
  exact h a d ha (fresh_of hd).1 hne
theorem new2_ok {K : PySem.W.Frag} {mg : Str → Option Value} (E : Ec2 K mg x f g C) {Q : VK} {H : Hp} {y z : V} (h : tNew C [(g, z), (f, y)] Q H) {a : Addr} (ha : H a = none) : spI2 K f g [.ref a, y, z] (upd H a (exo a C none)) (fun v H2 => v = .non ∧ Q (.ref a) H2) (fun _ _ _ => False) := by
  refine ⟨a, C, y, z, rfl, E.ox, E.no, E.no2, upd_same, fun d hd hne => ⟨rfl, ?_⟩⟩
  rw [upd3 hne]
  exact h a d ha (fresh_of hd).1 hne
theorem pe_new1 (E : Ec1 X.K X.mg x f C) (hr : Room 2 X.A) (hg : Gl X x) (h1 : PE X e1 t1) (m1 : Mo t1) (hdb : (x == ("__debug__" : Str)) = false := by decide)
    (he : starEach [e1] X.env = (false, eval e1 X.env) :: starEach [] X.env := by rfl) : PE X (.Call (.Name x p) [e1] [] pos) (fun σ H Q => t1 σ H fun y H1 => tNew C [(f, y)] Q H1) := by
  obtain ⟨fI, fd, i1, i2, i3, i4, _⟩ := E.ini
  have q := pe_mkX (p := p) (pos := pos) (X := X) E.ox i1 i2 (i3 X.prog X.w X.base) hr i4 pass0 hg E.gl (pa_cons h1 pa_nil he) hdb he rfl
  refine ⟨fun pins s σ H Q I h => q.run pins s σ H Q I (m1 _ _ _ _ (fun y H1 h => ?_) h)⟩
  exact ⟨rfl, by omega, rfl, fun a ha => new1_ok E h ha⟩
theorem pe_new1K (E : Ec1 X.K X.mg x f C) (hr : Room 2 X.A) (hg : Gl X x) (h1 : PE X e1 t1) (m1 : Mo t1) (hdb : (x == ("__debug__" : Str)) = false := by decide)
    (hall : (backToKw pos (keywordEach [⟨some f, e1, kp1⟩] X.env)).all (·.1.isSome) = true := by rfl) (hks : (backToKw pos (keywordEach [⟨some f, e1, kp1⟩] X.env)).filterMap (·.1) = [f] := by rfl)
    (hpl : ((backTo pos (starEach [] X.env)).any (·.1) || (backToKw pos (keywordEach [⟨some f, e1, kp1⟩] X.env)).any (·.1.isNone)) = false := by rfl) :
    PE X (.Call (.Name x p) [] [⟨some f, e1, kp1⟩] pos) (fun σ H Q => t1 σ H fun y H1 => tNew C [(f, y)] Q H1) := by
  obtain ⟨fI, fd, i1, i2, i3, _, i5⟩ := E.ini
  have q := pe_mkXK (p := p) (pos := pos) (X := X) E.ox i1 i2 (i3 X.prog X.w X.base) hr i5 pass0 hg E.gl (pk_cons (nm := some f) (kpos := kp1) h1 pk_nil) hall hks hdb hpl
  refine ⟨fun pins s σ H Q I h => q.run pins s σ H Q I (m1 _ _ _ _ (fun y H1 h => ?_) h)⟩
  exact ⟨rfl, by omega, rfl, fun a ha => new1_ok E h ha⟩
theorem pe_new2 (E : Ec2 X.K X.mg x f g C) (hr : Room 2 X.A) (hg : Gl X x) (h1 : PE X e1 t1) (m1 : Mo t1) (h2 : PE X e2 t2) (m2 : Mo t2) (hdb : (x == ("__debug__" : Str)) = false := by decide)
    (he : starEach [e1, e2] X.env = (false, eval e1 X.env) :: starEach [e2] X.env := by rfl) (he2 : starEach [e2] X.env = (false, eval e2 X.env) :: starEach [] X.env := by rfl) (hpl : (backTo pos (starEach [e2] X.env)).any (·.1) = false := by rfl) :
    PE X (.Call (.Name x p) [e1, e2] [] pos) (fun σ H Q => t1 σ H fun y H1 => t2 σ H1 fun z H2 => tNew C [(g, z), (f, y)] Q H2) := by
  obtain ⟨fI, fd, i1, i2, i3, i4, _⟩ := E.ini
  have q := pe_mkX (p := p) (pos := pos) (X := X) E.ox i1 i2 (i3 X.prog X.w X.base) hr i4 pass0 hg E.gl (pa_cons h1 (pa_cons h2 pa_nil he2) he) hdb he hpl
  refine ⟨fun pins s σ H Q I h => q.run pins s σ H Q I (m1 _ _ _ _ (fun y H1 h => m2 _ _ _ _ (fun z H2 h => ?_) h) h)⟩
  exact ⟨rfl, by omega, rfl, fun a ha => new2_ok E h ha⟩
/-- C(g = e2, f = e1) -/
theorem pe_new2K (E : Ec2 X.K X.mg x f g C) (hr : Room 2 X.A) (hg : Gl X x) (h1 : PE X e1 t1) (m1 : Mo t1) (h2 : PE X e2 t2) (m2 : Mo t2) (hdb : (x == ("__debug__" : Str)) = false := by decide)
    (hall : (backToKw pos (keywordEach [⟨some g, e2, kp1⟩, ⟨some f, e1, kp2⟩] X.env)).all (·.1.isSome) = true := by rfl) (hks : (backToKw pos (keywordEach [⟨some g, e2, kp1⟩, ⟨some f, e1, kp2⟩] X.env)).filterMap (·.1) = [g, f] := by rfl)
    (hpl : ((backTo pos (starEach [] X.env)).any (·.1) || (backToKw pos (keywordEach [⟨some g, e2, kp1⟩, ⟨some f, e1, kp2⟩] X.env)).any (·.1.isNone)) = false := by rfl) :
    PE X (.Call (.Name x p) [] [⟨some g, e2, kp1⟩, ⟨some f, e1, kp2⟩] pos) (fun σ H Q => t2 σ H fun z H1 => t1 σ H1 fun y H2 => tNew C [(g, z), (f, y)] Q H2) := by
  obtain ⟨fI, fd, i1, i2, i3, _, i5⟩ := E.ini
  have q := pe_mkXK (p := p) (pos := pos) (X := X) E.ox i1 i2 (i3 X.prog X.w X.base) hr i5 pass0 hg E.gl (pk_cons (nm := some g) (kpos := kp1) h2 (pk_cons (nm := some f) (kpos := kp2) h1 pk_nil)) hall hks hdb hpl
  refine ⟨fun pins s σ H Q I h => q.run pins s σ H Q I (m2 _ _ _ _ (fun z H1 h => m1 _ _ _ _ (fun y H2 h => ?_) h) h)⟩
  exact ⟨rfl, by omega, rfl, fun a ha => new2_ok E h ha⟩
end
end XK0

namespace XK0
open PySem PySem.Spec PyProof.Rows L2 LamX LamV
/-- a made pair of errors, the look at their fields, and what is due -/
structure It where
  C : Addr
  fs : List (Str × V)
  due : List V
  ns : List Str
/-- a lambda that tells the named fields of its argument in a list -/
structure Lm (F : LF) (ns : List Str) : Prop where
  sc : NdefX.NScope ["_law_e"] ["_law_e"] [] F.scope
  bd : ∀ (pm cv ctv : Value) (us : List Value), us.length = 1 → bindArgs (PySem.W.kla_fn "<lambda>" F.qual F.params F.body F.scope [] pm cv ctv) ⟨us, []⟩ = pure ((["_law_e"] : List Str).zip us)
  sh : (∃ (f : Str) (p1 p2 p3 : Pos), ns = [f] ∧ F.body = .List [.Attribute (.Name "_law_e" p1) f p2] p3) ∨ ∃ (f g : Str) (p1 p2 p3 p4 p5 : Pos), ns = [f, g] ∧ F.body = .List [.Attribute (.Name "_law_e" p1) f p2, .Attribute (.Name "_law_e" p3) g p4] p5
def Item (L : Addr) (H : Hp) (i : It) (v : V) : Prop := ∃ t m1 d1 m2 d2 f dl, v = .ref t ∧ H t = some (.tup [.ref m1, .ref m2, .ref f, .ref dl]) ∧ H m1 = some (exo m1 i.C (some d1)) ∧ H d1 = some (exd d1 i.fs) ∧
  H m2 = some (exo m2 i.C (some d2)) ∧ H d2 = some (exd d2 i.fs) ∧ (∃ F, Lm F i.ns ∧ IsLam H f F) ∧ H dl = some (.lst i.due) ∧ dl ≠ L
/-- all but tables and the list at L stays -/
def Kp (L : Addr) (H H' : Hp) : Prop := ∀ b o, H b = some o → (∀ ps, o ≠ .tbl ps) → b ≠ L → H' b = some o
theorem Kp.refl {L : Addr} {H : Hp} : Kp L H H := fun _ _ h _ _ => h
theorem Kp.trans {L : Addr} {H H1 H2 : Hp} (a : Kp L H H1) (b : Kp L H1 H2) : Kp L H H2 := fun c o h n m => b c o (a c o h n m) n m
theorem Kp.new {L a : Addr} {H : Hp} {o : HO} (h : H a = none) : Kp L H (upd H a o) := fun b u e _ _ => by rw [upd_ne (ne_of_none e h)]; exact e
theorem Kp.extN {L : Addr} {H H' : Hp} (h : ExtN H H') : Kp L H H' := fun b o e n _ => h b o e n
theorem exd_tbl {e : Addr} {fs : List (Str × V)} (ps : Array Value) : exd e fs ≠ .tbl ps := fun z => by
  have z' : HO.ext _ = HO.tbl ps := z
  cases z'
theorem lamO_tbl {f c : Addr} {F : LF} (ps : Array Value) : LamO f c F ≠ .tbl ps := fun z => by
  have z' : HO.ext _ = HO.tbl ps := z
  cases z'
theorem not_at {H : Hp} {b L : Addr} {o : HO} {xs : List V} (hL : H L = some (.lst xs)) (h : H b = some o) (n : o ≠ .lst xs) : b ≠ L := fun z => by
  rw [z, hL] at h
  exact n (Option.some.inj h).symm
theorem exo_lst {e C : Addr} {d : Option Addr} (xs : List V) : exo e C d ≠ .lst xs := fun z => by
  have z' : HO.ext _ = HO.lst xs := z
  cases z'
theorem exd_lst {e : Addr} {fs : List (Str × V)} (ps : List V) : exd e fs ≠ .lst ps := fun z => by
  have z' : HO.ext _ = HO.lst ps := z
  cases z'
theorem lamO_lst {f c : Addr} {F : LF} (ps : List V) : LamO f c F ≠ .lst ps := fun z => by
  have z' : HO.ext _ = HO.lst ps := z
  cases z'
theorem codeO_lst {c : Addr} {q : Str} (ps : List V) : CodeO c q ≠ .lst ps := fun z => by
  have z' : HO.ext _ = HO.lst ps := z
  cases z'
theorem isLam_kp {L f : Addr} {H H' : Hp} {F : LF} {xs : List V} (hL : H L = some (.lst xs)) (k : Kp L H H') (h : IsLam H f F) : IsLam H' f F := by
  obtain ⟨c, h1, h2⟩ := h
  exact ⟨c, k _ _ h1 (fun ps => lamO_tbl ps) (not_at hL h1 (lamO_lst _)), k _ _ h2 (fun ps => codeO_ne ps) (not_at hL h2 (codeO_lst _))⟩
theorem Item.kp {L : Addr} {H H' : Hp} {i : It} {v : V} {xs : List V} (hL : H L = some (.lst xs)) (k : Kp L H H') (h : Item L H i v) : Item L H' i v := by
  obtain ⟨t, m1, d1, m2, d2, f, dl, rfl, h1, h2, h3, h4, h5, ⟨F, h6a, h6⟩, h7, h8⟩ := h
  exact ⟨t, m1, d1, m2, d2, f, dl, rfl, k _ _ h1 (fun _ z => nomatch z) (not_at hL h1 (fun z => nomatch z)), k _ _ h2 (fun _ => exo_tbl) (not_at hL h2 (exo_lst _)), k _ _ h3 exd_tbl (not_at hL h3 (exd_lst _)),
    k _ _ h4 (fun _ => exo_tbl) (not_at hL h4 (exo_lst _)), k _ _ h5 exd_tbl (not_at hL h5 (exd_lst _)), ⟨F, h6a, isLam_kp hL k h6⟩, k _ _ h7 (fun _ z => nomatch z) h8, h8⟩
/-- the state: the list at L holds these items -/
structure MS (T : List (Addr × Str)) (L : Addr) (its : List It) (H : Hp) : Prop where
  tab : Tabs T H
  lst : ∃ vs, H L = some (.lst vs) ∧ Paired (Item L H) its vs
theorem Paired.snoc {α β : Type} {F : α → β → Prop} : ∀ {l₁ : List α} {l₂ : List β} {a : α} {b : β}, Paired F l₁ l₂ → F a b → Paired F (l₁ ++ [a]) (l₂ ++ [b])
  | _, _, _, _, .nil, h => .cons h .nil
  | _, _, _, _, .cons r t, h => .cons r (Paired.snoc t h)
theorem Tabs.keep {T : List (Addr × Str)} {H H' : Hp} (t : Tabs T H) (k : ∀ b o, H b = some o → (∀ xs, o ≠ .lst xs) → H' b = some o) : Tabs T H' := fun p hp => by
  obtain ⟨ps, h1, h2, h3⟩ := t p hp
  refine ⟨ps, k _ _ h1 (fun _ z => nomatch z), h2, fun pos cv hc => ?_⟩
  obtain ⟨c, e1, e2⟩ := h3 pos cv hc
  exact ⟨c, e1, k _ _ e2 (fun _ => codeO_lst _)⟩
section
variable {K : PySem.W.Frag} {T : List (Addr × Str)} {L C : Addr} {fs : List (Str × V)} {due : List V} {ns : List Str} {F : LF} {its : List It} {A B tD tL : TE} {σ : L2.St} {H : Hp} {D : Ends}
theorem new_kp {a d : Addr} (ha : H a = none) (hd : H d = none) (hne : d ≠ a) : Kp L H (upd (upd H d (exd d fs)) a (exo a C (some d))) :=
  (Kp.new hd).trans (Kp.new (by rw [upd_ne hne.symm]; exact ha))
theorem new_ext {a d : Addr} (ha : H a = none) (hd : H d = none) : ∀ b o, H b = some o → upd (upd H d (exd d fs)) a (exo a C (some d)) b = some o := fun b o e => by
  rw [upd_ne (ne_of_none e ha), upd_ne (ne_of_none e hd)]
  exact e
/-- found.append((C(..), C(..), lambda e: .., [..])) -/
theorem line (hF : Lm F ns) (hL : tL = tVar 2) (hs : σ[2]? = some (some (.ref L))) (ms : MS T L its H) (hn : its.length < 1000) (hA : ∀ H Q, tNew C fs Q H → A σ H Q) (hB : ∀ H Q, tNew C fs Q H → B σ H Q) (hD : ∀ H Q, (∀ p, H p = none → Q (.ref p) (upd H p (.lst due))) → tD σ H Q)
    (k : ∀ H', MS T L (its ++ [⟨C, fs, due, ns⟩]) H' → Kp L H H' → D.nx σ H') : tDrop (tBM K "list" rAppend tL (tCons (tTup (tCons A (tCons B (tCons (tLamV T F) (tCons tD tNil))))) tNil)) D σ H := by
  subst hL
  obtain ⟨tab, vs, hl, hp⟩ := ms
  have hlen : vs.length = its.length := (Paired.length hp).symm
  refine ⟨.ref L, hs, .inl ⟨rfl, vs, .inl (.inl hl)⟩, ?_⟩
  refine hA _ _ fun m1 d1 a1 b1 c1 => ?_
  have e1 := new_ext (C := C) (fs := fs) a1 b1
  have k1 : Kp L H _ := new_kp (C := C) (fs := fs) a1 b1 c1
  have g1 : upd (upd H d1 (exd d1 fs)) m1 (exo m1 C (some d1)) m1 = some (exo m1 C (some d1)) := upd_same
  have g1d : upd (upd H d1 (exd d1 fs)) m1 (exo m1 C (some d1)) d1 = some (exd d1 fs) := by rw [upd_ne c1, upd_same]
  generalize upd (upd H d1 (exd d1 fs)) m1 (exo m1 C (some d1)) = H1 at e1 k1 g1 g1d ⊢
  refine hB _ _ fun m2 d2 a2 b2 c2 => ?_
  have e2 := new_ext (C := C) (fs := fs) a2 b2
  have k2 : Kp L H1 _ := new_kp (C := C) (fs := fs) a2 b2 c2
  have g2 : upd (upd H1 d2 (exd d2 fs)) m2 (exo m2 C (some d2)) m2 = some (exo m2 C (some d2)) := upd_same
  have g2d : upd (upd H1 d2 (exd d2 fs)) m2 (exo m2 C (some d2)) d2 = some (exd d2 fs) := by rw [upd_ne c2, upd_same]
  generalize upd (upd H1 d2 (exd d2 fs)) m2 (exo m2 C (some d2)) = H2 at e2 k2 g2 g2d ⊢
  refine ⟨tab.ext fun b o e => e2 b o (e1 b o e), fun f H3 x3 t3 f3 l3 => ?_⟩
  refine hD _ _ fun dl a4 => ?_
  have k3 : Kp L H2 H3 := .extN x3
  have k4 : Kp L H3 (upd H3 dl (.lst due)) := .new a4
  have hl3 : H3 L = some (.lst vs) := x3 _ _ (e2 _ _ (e1 _ _ hl)) (fun _ z => nomatch z)
  have hdl : dl ≠ L := fun z => by rw [z, hl3] at a4; cases a4
  have g4 : upd H3 dl (.lst due) dl = some (.lst due) := upd_same
  have e4 : ∀ b o, H3 b = some o → upd H3 dl (.lst due) b = some o := fun b o e => by rw [upd_ne (ne_of_none e a4)]; exact e
  generalize upd H3 dl (.lst due) = H4 at k4 g4 e4 ⊢
  refine ⟨by rw [sizeLine_eq]; show 4 ≤ _; omega, fun t a5 => ?_⟩
  have k5 : Kp L H4 (upd H4 t (.tup [.ref m1, .ref m2, .ref f, .ref dl])) := .new a5
  have g5 : upd H4 t (.tup [.ref m1, .ref m2, .ref f, .ref dl]) t = some (.tup [.ref m1, .ref m2, .ref f, .ref dl]) := upd_same
  have e5 : ∀ b o, H4 b = some o → upd H4 t (.tup [.ref m1, .ref m2, .ref f, .ref dl]) b = some o := fun b o e => by rw [upd_ne (ne_of_none e a5)]; exact e
  generalize upd H4 t (.tup [.ref m1, .ref m2, .ref f, .ref dl]) = H5 at k5 g5 e5 ⊢
  have hl5 : H5 L = some (.lst vs) := e5 _ _ (e4 _ _ hl3)
  refine ⟨L, vs, .ref t, rfl, rfl, hl5, by rw [sizeLine_eq]; omega, ?_⟩
  have k6 : Kp L H5 (upd H5 L (.lst (vs ++ [.ref t]))) := fun b o e _ n => by rw [upd_ne n]; exact e
  have t6 : Tabs T (upd H5 L (.lst (vs ++ [.ref t]))) := Tabs.keep (t3.ext fun b o e => e5 _ _ (e4 _ _ e)) fun b o e n => by rw [upd_ne (not_at hl5 e (n _))]; exact e
  have all : Kp L H (upd H5 L (.lst (vs ++ [.ref t]))) := ((((k1.trans k2).trans k3).trans k4).trans k5).trans k6
  have hl1 : H1 L = some (.lst vs) := e1 _ _ hl
  have hl2 : H2 L = some (.lst vs) := e2 _ _ hl1
  have hl4 : H4 L = some (.lst vs) := e4 _ _ hl3
  have kk : Kp L H2 (upd H5 L (.lst (vs ++ [.ref t]))) := ((k3.trans k4).trans k5).trans k6
  have kk1 : Kp L H1 (upd H5 L (.lst (vs ++ [.ref t]))) := k2.trans kk
  refine k _ ⟨t6, vs ++ [.ref t], upd_same, Paired.snoc (Paired.mapP hp fun i v z => Item.kp hl all z) ?_⟩ all
  refine ⟨t, m1, d1, m2, d2, f, dl, rfl, k6 _ _ g5 (fun _ z => nomatch z) (not_at hl5 g5 (fun z => nomatch z)), kk1 _ _ g1 (fun _ => exo_tbl) (not_at hl1 g1 (exo_lst _)), kk1 _ _ g1d exd_tbl (not_at hl1 g1d (exd_lst _)),
    kk _ _ g2 (fun _ => exo_tbl) (not_at hl2 g2 (exo_lst _)), kk _ _ g2d exd_tbl (not_at hl2 g2d (exd_lst _)), ⟨F, hF, isLam_kp hl3 ((k4.trans k5).trans k6) l3⟩, (k5.trans k6) _ _ g4 (fun _ z => nomatch z) hdl, hdl⟩
end
end XK0

namespace XK0
open PySem PySem.Spec PyProof.Rows L2 LamX LamV
/-- one line of a maker: what it adds, of x and y -/
def LineOk (X : Cx) (T : List (Addr × Str)) (st : Stmt) (it : V → V → It) : Prop := ∃ t, PS X st t ∧ ∀ (L : Addr) (x y : V) (its : List It) (σ : L2.St) (H : Hp) (D : Ends), σ[0]? = some (some x) → σ[1]? = some (some y) → σ[2]? = some (some (.ref L)) →
  MS T L its H → its.length < 1000 → (∀ H', MS T L (its ++ [it x y]) H' → Kp L H H' → D.nx σ H') → t D σ H
/-- where the maker stands: its table -/
structure Mkr (X : Cx) (T : List (Addr × Str)) (q : Str) : Prop where
  rm : Room 2 X.A
  nn : X.N = (["_law_x", "_law_y", "_law_found"] : List Str)
  vx : Vis X.env.scope "_law_x"
  vy : Vis X.env.scope "_law_y"
  vf : Vis X.env.scope "_law_found"
  tb : ∃ c P, TabB X.base X.mg c P ∧ X.env.code = .ref c ∧ (P, q) ∈ T ∧ ∀ p ∈ T, p.1 = P → p.2 = q
  qu : X.env.qual ++ "<lambda>" = q
section
variable {X : Cx} {T : List (Addr × Str)} {q cx f g : Str} {C : Addr} {params : Arguments} {body : Expr} {scope : Scope} {p1 p2 p3 p4 p5 p6 p7 p8 p9 p10 p11 p12 p13 p14 p15 p16 p17 p18 p19 : Pos} {k : Nat}
theorem line1_ok (M : Mkr X T q) (E : Ec1 X.K X.mg cx f C) (hg : Gl X cx) (hF : Lm ⟨q, params, body, scope⟩ [f]) (hdef : defaultsOf params X.env = ([], [])) (hfree : ∀ y ∈ scope.names, y.2 ≠ .free) (hdb : (cx == ("__debug__" : Str)) = false)
    (hline : (p2.endLine == p14.line) = true) :
    LineOk X T (.Expr (.Call (.Attribute (.Name "_law_found" p1) "append" p2) [.Tuple [.Call (.Name cx p3) [.Name "_law_x" p4] [] p5, .Call (.Name cx p6) [] [⟨some f, .Name "_law_x" p7, p8⟩] p9, .Lambda params body scope p10, .List [.Name "_law_x" p11] p12] k p13] [] p14) p15)
      (fun x y => ⟨C, [(f, x)], [x], [f]⟩) := by
  obtain ⟨c, P, TB, hc, hm, hu⟩ := M.tb
  have vX : ∀ p, PE X (.Name "_law_x" p) (tVar 0) := fun p => pe_var (by rw [M.nn]; rfl) M.vx
  have vF : ∀ p, PE X (.Name "_law_found" p) (tVar 2) := fun p => pe_var (by rw [M.nn]; rfl) M.vf
  refine ⟨_, ps_expr (pe_bm PySem.F.plainAttrs_list PySem.F.slot_list_append PySem.F.type_list_append mt_append (vF p1) (pa_cons (pe_tup (pa_cons (pe_new1 E M.rm hg (vX p4) (mo_var 0) hdb) (pa_cons (pe_new1K E M.rm hg (vX p7) (mo_var 0) hdb)
    (pa_cons (pe_lamV TB hc M.qu hm hu hdef hfree) (pa_cons (pe_lst (pa_cons (vX p11) pa_nil)) pa_nil))))) pa_nil) rfl rfl hline), ?_⟩
  intro L x y its σ H D hx hy hL ms hn kk
  exact line hF rfl hL ms hn (fun H Q h => ⟨x, hx, h⟩) (fun H Q h => ⟨x, hx, h⟩) (fun H Q h => ⟨x, hx, by rw [sizeLine_eq]; show 1 ≤ _; omega, fun p hp => h p hp⟩) kk
theorem line2_ok (M : Mkr X T q) (E : Ec2 X.K X.mg cx f g C) (hg : Gl X cx) (hF : Lm ⟨q, params, body, scope⟩ [f, g]) (hdef : defaultsOf params X.env = ([], [])) (hfree : ∀ y ∈ scope.names, y.2 ≠ .free) (hdb : (cx == ("__debug__" : Str)) = false)
    (hline : (p2.endLine == p14.line) = true) :
    LineOk X T (.Expr (.Call (.Attribute (.Name "_law_found" p1) "append" p2) [.Tuple [.Call (.Name cx p3) [.Name "_law_x" p4, .Name "_law_y" p16] [] p5, .Call (.Name cx p6) [] [⟨some g, .Name "_law_y" p7, p8⟩, ⟨some f, .Name "_law_x" p17, p18⟩] p9, .Lambda params body scope p10, .List [.Name "_law_x" p11, .Name "_law_y" p19] p12] k p13] [] p14) p15)
      (fun x y => ⟨C, [(g, y), (f, x)], [x, y], [f, g]⟩) := by
  obtain ⟨c, P, TB, hc, hm, hu⟩ := M.tb
  have vX : ∀ p, PE X (.Name "_law_x" p) (tVar 0) := fun p => pe_var (by rw [M.nn]; rfl) M.vx
  have vY : ∀ p, PE X (.Name "_law_y" p) (tVar 1) := fun p => pe_var (by rw [M.nn]; rfl) M.vy
  have vF : ∀ p, PE X (.Name "_law_found" p) (tVar 2) := fun p => pe_var (by rw [M.nn]; rfl) M.vf
  refine ⟨_, ps_expr (pe_bm PySem.F.plainAttrs_list PySem.F.slot_list_append PySem.F.type_list_append mt_append (vF p1) (pa_cons (pe_tup (pa_cons (pe_new2 E M.rm hg (vX p4) (mo_var 0) (vY p16) (mo_var 1) hdb) (pa_cons (pe_new2K E M.rm hg (vX p17) (mo_var 0) (vY p7) (mo_var 1) hdb)
    (pa_cons (pe_lamV TB hc M.qu hm hu hdef hfree) (pa_cons (pe_lst (pa_cons (vX p11) (pa_cons (vY p19) pa_nil))) pa_nil))))) pa_nil) rfl rfl hline), ?_⟩
  intro L x y its σ H D hx hy hL ms hn kk
  exact line hF rfl hL ms hn (fun H Q h => ⟨x, hx, y, hy, h⟩) (fun H Q h => ⟨y, hy, x, hx, h⟩) (fun H Q h => ⟨x, hx, y, hy, by rw [sizeLine_eq]; show 2 ≤ _; omega, fun p hp => h p hp⟩) kk
/-- lines one behind another, then the rest -/
theorem block_ok {rest : List Stmt} {tr : TS} (hr : PSs X rest tr) : ∀ {sts : List Stmt} {itf : List (V → V → It)}, Paired (LineOk X T) sts itf → ∃ t, PSs X (sts ++ rest) t ∧ ∀ (L : Addr) (x y : V) (its : List It) (σ : L2.St) (H : Hp) (D : Ends),
    σ[0]? = some (some x) → σ[1]? = some (some y) → σ[2]? = some (some (.ref L)) → MS T L its H → its.length + itf.length < 1000 → (∀ H', MS T L (its ++ itf.map (fun i => i x y)) H' → Kp L H H' → tr D σ H') → t D σ H
  | _, _, .nil => ⟨tr, hr, fun L x y its σ H D _ _ _ ms _ k => k H (by simpa using ms) Kp.refl⟩
  | _, _, .cons (b := i) (l₂ := r) h t => by
    obtain ⟨t1, p1, q1⟩ := h
    obtain ⟨t2, p2, q2⟩ := block_ok hr t
    refine ⟨tSeq t1 t2, pss_cons p1 p2, fun L x y its σ H D hx hy hL ms hn k => ?_⟩
    refine q1 L x y its σ H _ hx hy hL ms (by simp at hn; omega) fun H1 ms1 k1 => ?_
    refine q2 L x y _ σ H1 D hx hy hL ms1 (by simp at hn ⊢; omega) fun H2 ms2 k2 => k H2 (by simpa using ms2) (k1.trans k2)
end
/-- what a maker promises -/
def spMade (T : List (Addr × Str)) (itf : List (V → V → It)) : Sp := fun vs H Q _ => ∃ x y, vs = [x, y] ∧ Tabs T H ∧ ∀ L H', H L = none → MS T L (itf.map fun i => i x y) H' → Kp L H H' → Q (.ref L) H'
def codeOf (K : PySem.W.Frag) (f : Addr) : Option Value := match K.lookup f with
  | some ⟨_, _, .func fd, _⟩ => some fd.code
  | _ => none
theorem made_ok {P : Program} {w : World} {K : PySem.W.Frag} {mg : Str → Option Value} {base : Heap} {x : Str} {params : Arguments} {body sts : List Stmt} {scope : Scope} {f c Pt : Addr} {fd : FuncData} {T : List (Addr × Str)} {itf : List (V → V → It)} {p1 p2 p3 p4 p5 : Pos}
    (F : FunD K x x params body scope [] [] f fd) (hcode : codeOf K f = some (.ref c)) (TB : TabB base mg c Pt) (hm : (Pt, x ++ ".<locals>." ++ "<lambda>") ∈ T) (hu : ∀ p ∈ T, p.1 = Pt → p.2 = x ++ ".<locals>." ++ "<lambda>")
    (S : FnScope ["_law_x", "_law_y", "_law_found"] ["_law_x", "_law_y"] scope) (vf : scope.names.lookup ("_law_found" : Str) = some NameKind.local)
    (hb : body = .Assign [.Name "_law_found" p1] (.List [] p2) p3 :: (sts ++ [.Return (some (.Name "_law_found" p4)) p5])) (hn : itf.length < 900)
    (hl : ∀ X : Cx, X.K = K → X.mg = mg → X.env.scope = scope → Mkr X T (x ++ ".<locals>." ++ "<lambda>") → Paired (LineOk X T) sts itf) :
    FnOk P w K mg base CX0 3 f fd ["_law_x", "_law_y"] (spMade T itf) := by
  obtain ⟨oc, od, dV, kV, doc, pm, an, cdv, ct, osl, rfl, lk, hcd, _, _⟩ := F.ex
  have ec : cdv = .ref c := by
    unfold codeOf at hcode
    rw [lk] at hcode
    exact Option.some.inj hcode
  subst ec
  refine fn_of lk hcd S (fun vs H Q E h => ?_) fun A outer s H vs Q E hr h => ?_
  · obtain ⟨x, y, rfl, _⟩ := h
    rfl
  · subst hb
    obtain ⟨vx, vy, rfl, hT, hQ⟩ := h
    have M : Mkr (cxOf CX0 P w K mg base ["_law_x", "_law_y", "_law_found"] x scope f (.ref c) A outer s H E).nox T (x ++ ".<locals>." ++ "<lambda>") :=
      ⟨hr, rfl, vis_par S List.mem_cons_self, vis_par S (List.mem_cons_of_mem _ List.mem_cons_self), .inl vf, ⟨c, Pt, TB, rfl, hm, hu⟩, rfl⟩
    obtain ⟨t, ht, hq⟩ := block_ok (pss_one (ps_ret (pos := p5) (pe_var (pos := p4) (i := 2) (X := (cxOf CX0 P w K mg base ["_law_x", "_law_y", "_law_found"] x scope f (.ref c) A outer s H E).nox) rfl (.inl vf)))) (hl _ rfl rfl rfl M)
    refine ⟨_, PSs.nox (pss_cons (ps_set (i := 2) S.nd rfl (.inl vf) (pe_lst pa_nil)) ht), ?_⟩
    refine ⟨Nat.zero_le _, fun L hL => ?_⟩
    refine hq L vx vy [] _ _ _ rfl rfl rfl ⟨hT.ext fun b o e => by rw [upd_ne (ne_of_none e hL)]; exact e, [], upd_same, .nil⟩ (by simpa using (by omega : itf.length < 1000)) fun H' ms k => ?_
    refine ⟨.ref L, rfl, hQ L H' hL (by simpa using ms) ((Kp.new hL).trans k)⟩
end XK0

/-! E11: several clauses «except x as n»; raise C(e); what never comes; a def that may raise, by its name -/
namespace XK0
open PySem PySem.Spec PyProof.Rows L2 LamX LamV
abbrev Suit := Addr → Value → Option Addr → TS
/-- the clauses in turn: what each wishes, with the name in slot i -/
def wTurn (K : PySem.W.Frag) (i : Nat) (Wo : WX) (D : Ends) : List (Value × Suit) → WX
  | [] => Wo
  | q :: r => wAs K q.1 i q.2 (wTurn K i Wo D r) D
/-- clauses of one name n, with their suites -/
inductive Clauses (X : Cx) (n : Str) : List ExceptHandler → List (Value × Suit) → Prop
  | nil : Clauses X n [] []
  | cons {x : Str} {c : Value} {ts : Suit} {b0 : Stmt} {su : List Stmt} {p1 p2 : Pos} {hs : List ExceptHandler} {l : List (Value × Suit)} (nm : Names X x c)
      (go : ∀ (a : Addr) (oe : Obj) (cls : Value) (d : Option Addr) (pn : List (Addr × Obj)), Zc cls d oe → (∃ vs, oe.data = .fields vs) → PSs (X.suite a ((a, oe) :: pn)) (b0 :: su) (ts a cls d)) (r : Clauses X n hs l) :
      Clauses X n (.ExceptHandler (some (.Name x p1)) (some n) (b0 :: su) p2 :: hs) ((c, ts) :: l)
section
variable {X : Cx} {n : Str} {i : Nat} {Wo : WX}
/-- a caught exception, in the air over the frames; sI: the state without it -/
structure Air (X : Cx) (pins : List (Addr × Obj)) (σ : L2.St) (H : Hp) (sI : Shared) (B : Heap) (a : Addr) (cls : Value) (d : Option Addr) (s3 : Shared) : Prop where
  inv : Inv X pins σ H sI
  fly : HandSPX.FlyingZ B (X.env :: X.outer) a (Zc cls d) s3.heap
  nb : ∀ b o, sI.heap.get? b = some o → b ∉ frs X.stack → B.get? b = some o
  up : sI.heap.UpToSlots s3.heap
  na : H a = none
  os : s3.os = sI.os
  bare : AllBare s3.gens
theorem Air.on {pins : List (Addr × Obj)} {σ : L2.St} {H : Hp} {sI s3 : Shared} {B : Heap} {a : Addr} {cls : Value} {d : Option Addr} (A : Air X pins σ H sI B a cls d s3) : Inv X pins σ H s3 := A.inv.landed A.nb A.fly.1 A.up A.os A.bare
theorem Air.to {pins : List (Addr × Obj)} {σ : L2.St} {H : Hp} {sI s3 : Shared} {B : Heap} {a : Addr} {cls : Value} {d : Option Addr} (A : Air X pins σ H sI B a cls d s3) {h4 : Heap} (f : HandSPX.FlyingZ B (X.env :: X.outer) a (Zc cls d) h4) (u : s3.heap.UpToSlots h4) :
    Air X pins σ H sI B a cls d { s3 with heap := h4 } := ⟨A.inv, f, A.nb, A.up.trans u, A.na, A.os, A.bare⟩
/-- the exception as a pinned object -/
theorem Air.pin {pins : List (Addr × Obj)} {σ : L2.St} {H : Hp} {sI s3 : Shared} {B : Heap} {a : Addr} {cls : Value} {d : Option Addr} (A : Air X pins σ H sI B a cls d s3) (hf : X.env.frame = some X.env.locals) :
    ∃ oe, s3.heap.get? a = some oe ∧ Zc cls d oe ∧ (∃ vs, oe.data = .fields vs) ∧ Inv (X.suite a ((a, oe) :: (X.pn ++ pins))) [] σ H s3 := by
  obtain ⟨oe, vs, at_, z, dat⟩ := A.fly.there
  have off : a ∉ frs (X.env :: X.outer) := fun m => by
    obtain ⟨_, o2, at2, no⟩ := A.fly.2.2.1.mem m
    cases at_.symm.trans at2
    exact no _ dat
  have mem : ∀ e ∈ X.env :: X.outer, ∀ b, e.frame = some b → b ∈ frs (X.env :: X.outer) := fun e m b q => List.mem_filterMap.mpr ⟨e, m, q⟩
  refine ⟨oe, at_, z, ⟨vs, dat⟩, A.on.suite at_ dat A.na (fun y => ?_) fun m => ?_⟩
  · subst y
    exact off (mem _ List.mem_cons_self _ hf)
  · obtain ⟨e, m1, q⟩ := List.mem_filterMap.mp m
    exact off (mem e (List.mem_cons_of_mem _ m1) a q)
theorem clauses_go {pins : List (Addr × Obj)} {σ : L2.St} {H : Hp} {sI : Shared} {B : Heap} {a : Addr} {cls : Value} {d : Option Addr} {D : Ends} (hs : X.stack = X.env :: X.outer) (hf : X.env.frame = some X.env.locals) (nd : X.N.Nodup) (at_ : X.N[i]? = some n) (lc : X.env.kindOf n = some .local) (tk : Takes X Wo) :
    ∀ {hds : List ExceptHandler} {l : List (Value × Suit)}, Clauses X n hds l → ∀ s3, Air X pins σ H sI B a cls d s3 → wTurn X.K i Wo D l cls d σ H → wpAny (model X.prog X.w) X.A (handleBy (.ref a) X.env hds) (SP X pins D) X.xe s3 := by
  intro hds l C
  induction C with
  | nil =>
    intro s3 A want
    refine wpAny_handleBy_nil ?_
    have fly := A.fly
    obtain ⟨_, _, _, oe, vs, T, oT, ts, e1, z, dat, e2, _⟩ := fly
    have go : wpAny (model X.prog X.w) X.A (setFlight (.ref a) X.env.frame) (fun _ s4 => wpAny (model X.prog X.w) X.A (throw (.ref a) : Sem Flow) (SP X pins D) X.xe s4) X.xe s3 := by
      rw [hf]
      refine HandSPX.setFlight_upZ A.fly fun h4 held up => wpAny_throw (tk _ _ ⟨a, B, sI, pins, σ, H, cls, d, rfl, A.inv, A.nb, A.up.trans up, .inr (.inr ?_), A.na, A.os, A.bare, want⟩)
      rw [hs]
      exact held
    unfold PySem.passOn
    refine wpAny_bind (wpAny_field e1 dat e2 ?_)
    have ne : ¬ ((Value.ref T == Value.none) = true) := by simp
    rw [if_neg ne]
    first
      | exact wpAny_bind go
      | exact wpAny_bind (wpAny_pure (wpAny_bind go))
  | @cons x c ts b0 su p1 p2 hs2 l2 nm go r ih =>
    intro s3 A want
    obtain ⟨b, isB, yes, no⟩ := want
    obtain ⟨oe, here, z, dat, S⟩ := A.pin hf
    have ty : PySem.W.Looks (model X.prog X.w) s3.heap (typeOf (.ref a)) cls := fun _ _ _ _ k q => wpAny_typeOf_ref (k _ _ here) (by rw [z.1]; exact q)
    have one := PySem.W.exm_one (M := model X.prog X.w) A.on.kIn ty isB
    have named : ∀ {Q : Value → Shared → Prop} {E : Value → Shared → Prop}, Q c s3 → wpAny (model X.prog X.w) (X.A.mark (some (.ref a))) (eval (.Name x p1) X.env) Q E s3 := by
      intro Q E q
      obtain ⟨g, db, m | ⟨m, v, nn⟩⟩ := nm
      · exact ld_glob (X := X.suite a ((a, oe) :: (X.pn ++ pins))) S g m q db
      · exact ld_blt (X := X.suite a ((a, oe) :: (X.pn ++ pins))) S g m v q nn db
    refine wpAny_handleBy_cons (codeAny_handlers_test (named (one.here ?_))) (fun q => by cases q)
    cases b with
    | false => exact ih s3 A (no rfl)
    | true =>
      refine codeAny_handlers_suite_as (HandSPX.lands_againZ A.fly fun h4 f4 u4 => ?_)
      have A4 := A.to f4 u4
      obtain ⟨oe4, here4, z4, dat4, S4⟩ := A4.pin hf
      refine store_ok (X := X.suite a ((a, oe4) :: (X.pn ++ pins))) (v := .ref a) S4 nd at_ (.inl lc) rfl (fun s5 S5 => ?_) (.inr lc)
      refine wpAny_mono ((go a oe4 cls d (X.pn ++ pins) z4 dat4).run [] s5 _ H _ S5 (yes rfl a A.na)) (fun f s6 y => ?_) fun _ _ y => y.elim
      have off : ∀ {τ : L2.St} {G : Hp} {R : Shared → Prop}, Inv (X.suite a ((a, oe4) :: (X.pn ++ pins))) [] τ G s6 → (∀ s7, Inv X pins (τ.set i none) G s7 → R s7) → wpAny (model X.prog X.w) X.A (do bindName X.env n .none; unbindBehindTheSuite X.env n p2) (fun _ s7 => R s7) X.xe s6 :=
        fun I q => gone_ok (I.unsuite A.inv.ok) nd at_ lc q
      match f, y with
      | .next, ⟨τ, G, I, q⟩ => exact off I fun s7 J => ⟨_, _, J, q⟩
      | .brk, ⟨τ, G, I, q⟩ => exact off I fun s7 J => ⟨_, _, J, q⟩
      | .cont, ⟨τ, G, I, q⟩ => exact off I fun s7 J => ⟨_, _, J, q⟩
      | .ret u, ⟨v, τ, G, I, rv, q⟩ => exact off I fun s7 J => ⟨_, _, _, J, rv, q⟩
/-- try: body, except x as n: .., except y as n: .. -/
theorem ps_tryAs {h0 : ExceptHandler} {hds : List ExceptHandler} {l : List (Value × Suit)} {body : List Stmt} {tb : WX → TS} {pos : Pos} (hs : X.stack = X.env :: X.outer) (hf : X.env.frame = some X.env.locals) (nd : X.N.Nodup) (at_ : X.N[i]? = some n) (lc : X.env.kindOf n = some .local) (tk : Takes X Wo)
    (hb : ∀ (W : WX) (pn : List (Addr × Obj)) (xe : Value → Shared → Prop), Takes (X.tr pn xe) W → PassesOwn (model X.prog X.w) X.A X.env xe → PSs (X.tr pn xe) body (tb W)) (C : Clauses X n (h0 :: hds) l) :
    PS X (.Try body (h0 :: hds) [] [] pos) (fun D σ H => tb (wTurn X.K i Wo D l) D σ H) := by
  refine ⟨fun pins s σ H D I want => wpAny_Try_except ?_⟩
  have fr : X.A.frames = some (X.env :: X.outer) := I.ok.frames.trans (congrArg some hs)
  let xe : Value → Shared → Prop := fun e s1 => wpAny (model X.prog X.w) X.A (noteFrame e X.env) (fun _ s2 => wpAny (model X.prog X.w) X.A (setFlight e none) (fun _ s3 => wpAny (model X.prog X.w) X.A (handleBy e X.env (h0 :: hds)) (SP X pins D) X.xe s3) X.xe s2) X.xe s1
  have takes : Takes (X.tr (X.pn ++ pins) xe) (wTurn X.K i Wo D l) := by
    rintro u s' ⟨a, B, sI, pins', τ, G, cls, d, rfl, J, nb, up, sky, na, os, ag, w⟩
    have sky : Sky B (X.env :: X.outer) a (Zc cls d) X.env.locals s'.heap := hs ▸ sky
    exact Sky.land Zc.steady fr hf sky fun h3 f3 u3 => clauses_go hs hf nd at_ lc tk C _ ⟨J.ofTry I.ok, f3, nb, up.trans u3, na, os, ag⟩ w
  refine wpAny_mono ((hb _ (X.pn ++ pins) xe takes PassesOwn.looking).run [] s σ H D (I.toTry xe) want) (fun f s1 y => ?_) fun _ _ y => y
  match f, y with
  | .next, ⟨τ, G, J, q⟩ => exact wpAny_execs_nil ⟨τ, G, J.ofTry I.ok, q⟩
  | .brk, ⟨τ, G, J, q⟩ => exact ⟨τ, G, J.ofTry I.ok, q⟩
  | .cont, ⟨τ, G, J, q⟩ => exact ⟨τ, G, J.ofTry I.ok, q⟩
  | .ret u, ⟨v, τ, G, J, rv, q⟩ => exact ⟨v, τ, G, J.ofTry I.ok, rv, q⟩
end
/-! ### what never comes -/
theorem ps_dead {X : Cx} {st : Stmt} : PS X st (fun _ _ _ => False) := ⟨fun _ _ _ _ _ _ h => h.elim⟩
theorem pss_dead {X : Cx} {sts : List Stmt} : PSs X sts (fun _ _ _ => False) := ⟨fun _ _ _ _ _ _ h => h.elim⟩
theorem pe_dead {X : Cx} {e : Expr} : PE X e (fun _ _ _ => False) := ⟨fun _ _ _ _ _ _ h => h.elim⟩
/-! ### raise C(e) -/
theorem del_new {H : Hp} {a d : Addr} {o o1 o2 o3 : HO} (ha : H a = none) (ne : d ≠ a) : upd (L2.del (upd (upd (upd H a o1) d o2) a o3) a) d o = upd H d o := by
  funext b
  by_cases e : b = d
  · rw [e, upd_same, upd_same]
  · rw [upd_ne e, upd_ne e]
    unfold L2.del
    by_cases e2 : b = a
    · rw [if_pos e2, e2, ha]
    · rw [if_neg e2, upd_ne e2, upd_ne e, upd_ne e2]
theorem ps_raise1 {X : Cx} {x f : Str} {C : Addr} {W : WX} {e : Expr} {t : TE} {p pos pos2 : Pos} (E : Ec1 X.K X.mg x f C) (hc : X.calm = true) (hr : Room 2 X.A) (tk : Takes X W) (hg : Gl X x) (h : PE X e t) (hdb : (x == ("__debug__" : Str)) = false := by decide)
    (he : starEach [e] X.env = (false, eval e X.env) :: starEach [] X.env := by rfl) : PS X (.Raise (some (.Call (.Name x p) [e] [] pos)) none pos2) (fun D σ H => tMkO C (spI1 X.K f) [] (tCons t tNil) σ H fun cls d H' => W cls d σ H') := by
  obtain ⟨fI, fd, i1, i2, i3, ⟨b1, b2⟩, _⟩ := E.ini
  have bd : Binds X.K fd ["self", f] [] := fun s us kin hl => by
    have z := b1 s us [] kin (by simpa using hl) rfl
    simpa using z
  exact ps_raise (pos := pos2) hc tk (pmk_oex (p := p) (pos := pos) E.ox i1 i2 (i3 X.prog X.w X.base) hr bd .nil pass0 hg E.gl (pa_cons h pa_nil he) hdb he rfl)
theorem mk1_ok {K : PySem.W.Frag} {mg : Str → Option Value} {x f : Str} {C : Addr} (E : Ec1 K mg x f C) {Q : XK} {H1 : Hp} {y : V} (k : ∀ d, H1 d = none → Q (.ref C) (some d) (upd H1 d (.xd [(f, y)]))) :
    [y].length ≤ 1000 ∧ ∀ a, H1 a = none → spI1 K f (.ref a :: ([y] ++ [])) (upd H1 a (exo a C none)) (fun v H2 => v = .non ∧ ∃ (d : Addr) (fs : List (Str × V)), H2 a = some (exo a C (some d)) ∧ H2 d = some (exd d fs) ∧ H1 d = none ∧ Q (.ref C) (some d) (upd (L2.del H2 a) d (.xd fs))) (fun _ _ _ => False) := by
  refine ⟨by show 1 ≤ 1000; decide, fun a ha => ⟨a, C, y, rfl, E.ox, E.no, upd_same, fun d hd ne => ⟨rfl, d, [(f, y)], upd_same, (upd_ne ne).trans upd_same, (fresh_of hd).1, ?_⟩⟩⟩
  rw [del_new ha ne]
  exact k d (fresh_of hd).1
/-! ### a def that may raise, by the module's name -/
def HasX (P : Program) (w : World) (K : PySem.W.Frag) (mg : Str → Option Value) (base : Heap) (x : Str) (k : Nat) (ps : List Str) (sp : Sp) : Prop := ∃ f fd, mg x = some (.ref f) ∧ PySem.W.keepIn K (.ref f) = true ∧ Binds K fd ps [] ∧ FnOk P w K mg base (L2.CX P w) k f fd ps sp
theorem pe_hasX {X : Cx} {k j : Nat} {x : Str} {ps : List Str} {sp : Sp} {W : WX} {E : XK} {p pos : Pos} {e : Expr} {es : List Expr} {t : TA} (F : HasX X.prog X.w X.K X.mg X.base x k ps sp) (hr : Room j X.A) (le : k ≤ j) (hg : Gl X x) (tk : Takes X W) (hW : ∀ cls d σ H, E cls d H → W cls d σ H) (ha : PA X (e :: es) t) (dbg : (x == ("__debug__" : Str)) = false := by decide)
    (stars : starEach (e :: es) X.env = (false, eval e X.env) :: starEach es X.env := by rfl) (plain : (backTo pos (starEach es X.env)).any (·.1) = false := by rfl) : PE X (.Call (.Name x p) (e :: es) [] pos) (tCall sp [] E t) := by
  obtain ⟨f, fd, gf, kf, bf, F⟩ := F
  exact pe_call F (hr.mono le) hg gf kf bf .nil (passes_call tk hW) ha dbg stars plain
end XK0

/-! A1: is_list, is_word, first_bad_word -/
namespace TH
open PySem PySem.Spec PyProof.Rows L2
def top (i : Nat) : Stmt := PySem.Challenge.pw_meettasks_k37_callers_in_rows.main.body.getD i (.Pass ⟨0, 0, 0, 0⟩)
abbrev FnP (K : PySem.W.Frag) (x : Str) (st : Stmt) (f : Addr) (fd : FuncData) : Prop := FunD K x x (defArgs st) (defBody st) (defScope st) [] [] f fd
/-- nothing that was there is changed -/
def Ex (H H' : Hp) : Prop := ∀ b o, H b = some o → H' b = some o
theorem Ex.refl {H : Hp} : Ex H H := fun _ _ h => h
theorem Ex.trans {H H1 H2 : Hp} (a : Ex H H1) (b : Ex H1 H2) : Ex H H2 := fun c o h => b c o (a c o h)
theorem Ex.new {H : Hp} {a : Addr} {o : HO} (h : H a = none) : Ex H (upd H a o) := fun b u e => (upd_ne (ne_of_none e h)).trans e
theorem Ex.none {H H' : Hp} (x : Ex H H') {p : Addr} (h : H' p = none) : H p = none := by
  cases q : H p with
  | none => rfl
  | some o => rw [x _ _ q] at h; cases h
theorem Ex.sqL {K : PySem.W.Frag} {H H' : Hp} {a : Addr} {xs : List V} (k : Ex H H') (h : SqL K H a xs) : SqL K H' a xs := h.imp (Or.imp (k _ _) fun ⟨o, z⟩ => ⟨o, k _ _ z⟩) id
theorem Ex.sqT {K : PySem.W.Frag} {H H' : Hp} {a : Addr} {xs : List V} (k : Ex H H') (h : SqT K H a xs) : SqT K H' a xs := h.imp (Or.imp (k _ _) fun ⟨o, z⟩ => ⟨o, k _ _ z⟩) id
/-- a def that keeps a promise, by the module's name -/
def Has (P : Program) (w : World) (K : PySem.W.Frag) (mg : Str → Option Value) (base : Heap) (x : Str) (k : Nat) (ps : List Str) (sp : Sp) : Prop := ∃ f fd, mg x = some (.ref f) ∧ PySem.W.keepIn K (.ref f) = true ∧ Binds K fd ps [] ∧ FnOk P w K mg base CX0 k f fd ps sp
theorem pe_has {X : Cx} {k j : Nat} {x : Str} {ps : List Str} {sp : Sp} {p pos : Pos} {e : Expr} {es : List Expr} {t : TA} (F : Has X.prog X.w X.K X.mg X.base x k ps sp) (hr : Room j X.A) (le : k ≤ j) (hg : Gl X x) (ha : PA X (e :: es) t) (dbg : (x == ("__debug__" : Str)) = false := by decide)
    (stars : starEach (e :: es) X.env = (false, eval e X.env) :: starEach es X.env := by rfl) (plain : (backTo pos (starEach es X.env)).any (·.1) = false := by rfl) : PE X (.Call (.Name x p) (e :: es) [] pos) (tCall sp [] E0 t) := by
  obtain ⟨f, fd, gf, kf, bf, F⟩ := F
  exact pe_call F (hr.mono le) hg gf kf bf .nil pass0 ha dbg stars plain
/-! ### kinds of values -/
def tys : List String := ["NoneType", "bool", "int", "str", "list", "tuple", "dict"]
/-- the kind of a value -/
def Kd (K : PySem.W.Frag) (H : Hp) (v : V) (T : String) : Prop := T ∈ tys ∧ TyX K H v (.type T) ∧ ∀ x, v = .str x → x.length ≤ 1000
theorem tyx_ex {K : PySem.W.Frag} {H H' : Hp} {v : V} {t : Value} (x : Ex H H') (h : TyX K H v t) : TyX K H' v t := by
  cases h with
  | base h =>
    refine .base ?_
    cases h with
    | non => exact .non
    | bl b => exact .bl b
    | int i => exact .int i
    | str z => exact .str z
    | flt z => exact .flt z
    | lst e => exact .lst (x _ _ e)
    | frz e => exact .frz (x _ _ e)
    | tup e => exact .tup (x _ _ e)
    | dK e => exact .dK (x _ _ e)
    | dT e => exact .dT (x _ _ e)
    | ins e cl ha hn htk hm => exact .ins (x _ _ e) cl ha hn htk hm
  | byt b => exact .byt b
  | set e => exact .set (x _ _ e)
  | kList e c => exact .kList e c
  | kTuple e c => exact .kTuple e c
  | kDict e c => exact .kDict e c
  | fTuple e => exact .fTuple (x _ _ e)
  | fDict e => exact .fDict (x _ _ e)
theorem Kd.ex {K : PySem.W.Frag} {H H' : Hp} {v : V} {T : String} (x : Ex H H') (h : Kd K H v T) : Kd K H' v T := ⟨h.1, tyx_ex x h.2.1, h.2.2⟩
theorem Kd.str {K : PySem.W.Frag} {H : Hp} {v : V} (h : Kd K H v "str") : ∃ x, v = .str x ∧ x.length ≤ 1000 := by
  obtain ⟨_, h, l⟩ := h
  generalize e : Value.type "str" = t at h
  cases h with
  | base h => cases h <;> first | exact ⟨_, rfl, l _ rfl⟩ | (exfalso; simp at e)
  | _ => exfalso; simp at e
def isLt (T : String) : Bool := decide (T = "list") || decide (T = "tuple")
theorem kit_lt {K : PySem.W.Frag} {T : String} (h : T ∈ tys) : PySem.W.kitAny K (.type T) [.type "list", .type "tuple"] = some (isLt T) := by
  have key : ∀ a b c : Bool, ∀ S : String, kitB S "list" = some a → kitB S "tuple" = some b → isLt S = c → (a || b) = c → PySem.W.kitAny K (.type S) [.type "list", .type "tuple"] = some (isLt S) := by
    intro a b c S h1 h2 h3 h4
    unfold PySem.W.kitAny
    rw [kit_ty h1]
    cases a with
    | true => rw [h3, ← h4]; rfl
    | false =>
      show PySem.W.kitAny K (.type S) [.type "tuple"] = _
      unfold PySem.W.kitAny
      rw [kit_ty h2]
      cases b with
      | true => rw [h3, ← h4]; rfl
      | false => rw [h3, ← h4]; rfl
  simp only [tys, List.mem_cons, List.mem_nil_iff, or_false] at h
  rcases h with rfl | rfl | rfl | rfl | rfl | rfl | rfl
  · exact key false false false _ (by decide +kernel) (by decide +kernel) (by decide +kernel) rfl
  · exact key false false false _ (by decide +kernel) (by decide +kernel) (by decide +kernel) rfl
  · exact key false false false _ (by decide +kernel) (by decide +kernel) (by decide +kernel) rfl
  · exact key false false false _ (by decide +kernel) (by decide +kernel) (by decide +kernel) rfl
  · exact key true false true _ (by decide +kernel) (by decide +kernel) (by decide +kernel) rfl
  · exact key false true true _ (by decide +kernel) (by decide +kernel) (by decide +kernel) rfl
  · exact key false false false _ (by decide +kernel) (by decide +kernel) (by decide +kernel) rfl
theorem kit_str {K : PySem.W.Frag} {T : String} (h : T ∈ tys) : PySem.W.kitOne K (.type T) (.type "str") = some (decide (T = "str")) := by
  simp only [tys, List.mem_cons, List.mem_nil_iff, or_false] at h
  rcases h with rfl | rfl | rfl | rfl | rfl | rfl | rfl <;> exact kit_ty (by decide +kernel)
/-! ### is_list -/
abbrev sIsList : Stmt := top 6
abbrev sIsWord : Stmt := top 8
abbrev sFirstBad : Stmt := top 9
def spIsList (K : PySem.W.Frag) : Sp := fun vs H Q _ => ∃ v T, vs = [v] ∧ Kd K H v T ∧ ∀ H', Ex H H' → Q (.bl (isLt T)) H'
section
variable {P : Program} {w : World} {K : PySem.W.Frag} {mg : Str → Option Value} {base : Heap} {f : Addr} {fd : FuncData}
theorem scIsList : FnScope ["thing"] ["thing"] (defScope sIsList) := ⟨rfl, rfl, rfl, by decide +kernel, rfl, by decide +kernel, by decide +kernel⟩
theorem ok_is_list (F : FnP K "is_list" sIsList f fd) (gi : mg "isinstance" = none) (gl : mg "list" = none) (gt : mg "tuple" = none) : FnOk P w K mg base CX0 1 f fd ["thing"] (spIsList K) := by
  refine F.ok scIsList (fun vs H Q E h => ?_) (fun cdv A outer s H vs Q E hr h => ?_)
  · obtain ⟨v, T, rfl, _⟩ := h
    rfl
  · refine ⟨_, PSs.nox (pss_one (ps_ret (pe_callB call_isiT rfl gi boot_isinstance (pa_cons (pv 0) (pa_cons (pe_tup (pa_cons (pe_bltn (v := .ty "list") rfl gl boot_list rfl) (pa_cons (pe_bltn (v := .ty "tuple") rfl gt boot_tuple rfl) pa_nil))) pa_nil))))), ?_⟩
    obtain ⟨v, T, rfl, ⟨t1, t2, _⟩, hQ⟩ := h
    exact ⟨v, rfl, by show 2 ≤ sizeLine; decide, fun tp htp => ⟨v, tp, _, _, [.type "list", .type "tuple"], _, rfl, upd_same, .cons (.ty "list") (.cons (.ty "tuple") .nil), tyx_ex (Ex.new htp) t2, kit_lt t1, hQ _ (Ex.new htp)⟩⟩
end
end TH

/-! A2: is_word -/
namespace TH
open PySem PySem.Spec PyProof.Rows L2
def letters : Str := "abcdefghijklmnopqrstuvwxyz"
def okS (x : Str) : Bool := decide (1 ≤ x.length) && (decide (x.length ≤ 8) && x.cps.toList.all fun c => decide (c ∈ letters.cps.toList))
/-- a word: one to eight small letters -/
def isWd : V → Bool
  | .str x => okS x
  | _ => false
def spIsWord (K : PySem.W.Frag) : Sp := fun vs H Q _ => ∃ v T, vs = [v] ∧ Kd K H v T ∧ ∀ H', Ex H H' → Q (.bl (isWd v)) H'
theorem isWd_no {K : PySem.W.Frag} {H : Hp} {v : V} {T : String} (h : Kd K H v T) (n : T ≠ "str") : isWd v = false := by
  cases v with
  | str x =>
    obtain ⟨_, t, _⟩ := h
    cases t with
    | base t => cases t; exact absurd rfl n
  | _ => rfl
section
variable {P : Program} {w : World} {K : PySem.W.Frag} {mg : Str → Option Value} {base : Heap} {f : Addr} {fd : FuncData}
theorem scIsWord : FnScope ["thing", "sign"] ["thing"] (defScope sIsWord) := ⟨rfl, rfl, rfl, by decide +kernel, rfl, by decide +kernel, by decide +kernel⟩
theorem ok_is_word {t : Tok} (F : FnP K "is_word" sIsWord f fd) (gi : mg "isinstance" = none) (gs : mg "str" = none) (gn : mg "len" = none) (ga : mg "all" = none) (gL : mg "LETTERS" = some (.str letters t)) : FnOk P w K mg base CX0 1 f fd ["thing"] (spIsWord K) := by
  refine F.ok scIsWord (fun vs H Q E h => ?_) (fun cdv A outer s H vs Q E hr h => ?_)
  · obtain ⟨v, T, rfl, _⟩ := h
    rfl
  · refine ⟨_, PSs.nox (pss_one (ps_ret (pe_and (pe_callB call_isi rfl gi boot_isinstance (pa_cons (pv 0) (pa_cons (pe_bltn (v := .ty "str") rfl gs boot_str rfl) pa_nil)))
      (pe_and (pe_chain op_le op_le pe_int (pe_callB call_len rfl gn boot_len (pa_cons (pv 0) pa_nil)) pe_int)
      (pe_one (pe_callB (cr_all rfl) rfl ga boot_all (pa_cons (pe_lc (own := [("sign", 1)]) rfl scIsWord.nd (pi_str (pv 0)) (blkOk_by (by kernel_rfl)) (fun s H C cl fp => pg_name (i := 1) scIsWord.nd rfl (.inl rfl) (.inr rfl)) (fun s H C cl fp => pts_nil)
        (fun s H C cl fp => pe_cmpR op_in_sign (pv 1) (pe_glob (v := .str letters) rfl gL ⟨_, rfl⟩) (by with_unfolding_all rfl))) pa_nil))))))), ?_⟩
    obtain ⟨v, T, rfl, k, hQ⟩ := h
    refine ⟨v, rfl, v, .ty "str", _, _, _, rfl, .ty "str", k.2.1, kit_str k.1, _, rfl, ?_⟩
    by_cases hT : T = "str"
    · subst hT
      obtain ⟨x, rfl, hl⟩ := k.str
      rw [if_pos (by simp)]
      refine ⟨.str x, rfl, .str x, x.length, rfl, ⟨by rw [sizeLine_eq]; omega, rfl⟩, 1, x.length, rfl, rfl, _, rfl, ?_⟩
      by_cases h1 : (1 : Int) ≤ x.length
      · rw [if_pos (decide_eq_true h1)]
        refine ⟨x.length, 8, rfl, rfl, _, rfl, ?_⟩
        by_cases h8 : (x.length : Int) ≤ 8
        · rw [if_pos (decide_eq_true h8)]
          refine ⟨.str x, rfl, x, rfl, fun D hD => ?_⟩
          have ext : ∀ l : List V, Ex H (upd H D (.lst l)) := fun l => Ex.new hD
          refine lc_it walk_str (fun n H2 => H2 = upd H D (.lst ((x.cps.toList.take n).map fun c => V.bl (decide (c ∈ letters.cps.toList))))) rfl (fun _ _ _ _ => trivial) (fun n v H2 H3 hn e y => ?_) fun H2 e => ?_
          · obtain ⟨rfl, c, hc, rfl⟩ := y
            subst e
            refine ⟨rfl, .str ⟨#[c]⟩, rfl, c, letters, rfl, rfl, _, upd_same, ?_, ?_⟩
            · have e1 : x.cps.toList.length = x.length := Array.length_toList
              rw [sizeLine_eq, List.length_map, List.length_take, e1]
              have := Nat.min_le_right n x.length
              omega
            · rw [upd_upd]
              have hc' : x.cps.toList[n]? = some c := by simpa using hc
              rw [List.take_add_one, hc', List.map_append]
              rfl
          · subst e
            have et : x.cps.toList.take x.cps.size = x.cps.toList := List.take_of_length_le (by simp)
            refine ⟨D, x.cps.toList.map fun c => decide (c ∈ letters.cps.toList), rfl, .inl (.inl ?_), ?_⟩
            · rw [upd_same, et, List.map_map]
              rfl
            · have q := hQ _ (ext ((x.cps.toList.take x.cps.size).map fun c => V.bl (decide (c ∈ letters.cps.toList))))
              have e2 : isWd (.str x) = (x.cps.toList.map fun c => decide (c ∈ letters.cps.toList)).all id := by
                show okS x = _
                unfold okS
                rw [decide_eq_true (show 1 ≤ x.length by omega), decide_eq_true (show x.length ≤ 8 by omega), List.all_map]
                rfl
              rw [e2] at q
              exact q
        · rw [if_neg (by simpa using h8)]
          have q := hQ _ Ex.refl
          rw [show isWd (.str x) = false by
            show okS x = false
            unfold okS
            rw [decide_eq_false (show ¬ x.length ≤ 8 by omega)]
            simp] at q
          exact q
      · rw [if_neg (by simpa using h1)]
        refine ⟨_, rfl, ?_⟩
        have q := hQ _ Ex.refl
        rw [show isWd (.str x) = false by
          show okS x = false
          unfold okS
          rw [decide_eq_false (show ¬ 1 ≤ x.length by omega)]
          rfl] at q
        exact q
    · rw [if_neg (by simpa using hT)]
      have q := hQ _ Ex.refl
      rw [isWd_no k hT] at q
      exact q
end
end TH

/-! A3: enumerate over a tuple -/
namespace TH
open PySem PySem.Spec PyProof.Rows L2
abbrev enO (it : Addr) : Obj := { cls := .type "enumerate", data := .fields #[.none, .bool false, .ref it, rawInt 0, .none, .none] }
set_option maxHeartbeats 8000000 in
theorem enum_made {v : Value} {o : Obj} {G : Heap → Prop} (B : Begins v o G) :
    Meets (Builtin.«enumerate.__new__» ⟨[.type "enumerate", v], []⟩) (fun _ R s => G s.heap ∧ R (.ok (.ret (.ref (s.heap.push o).objs.size))) { s with heap := (s.heap.push o).push (enO s.heap.objs.size) }) :=
  .of_wp fun prog w A R s ⟨g1, g2⟩ => by
    obtain ⟨hp, g, d, tk, os⟩ := s
    have sb := sub_enumerate
    have begun : ∀ {A' : Around} {E : Value → Shared → Prop} {Q : Value → Shared → Prop}, Q (.ref hp.objs.size) ⟨hp.push o, g, d, tk, os⟩ → wpAny (model prog w) A' (pyIter v) Q E ⟨hp, g, d, tk, os⟩ := fun q => B.iter prog w _ _ _ _ g1 q
    wp_walk using begun
    refine wpAny_stack_any fun st => wpAny_pure ?_
    split
    · rename_i c _ _ _ _ _
      cases (c == Value.type "enumerate") <;> (wp_walk using begun; exact ⟨_, rfl, g2⟩)
    · wp_walk using begun
      exact ⟨_, rfl, g2⟩
theorem enum_call {prog : Program} {w : World} {A : Around} {E : Value → Shared → Prop} {s : Shared} {v : Value} {o : Obj} {G : Heap → Prop} {Q : Value → Shared → Prop} (B : Begins v o G) (g1 : G s.heap)
    (q : Q (.ref (s.heap.objs.size + 1)) { s with heap := (s.heap.push o).push (enO s.heap.objs.size) }) : wpAny (model prog w) A (call (.type "enumerate") [v]) Q E s := by
  refine callType_new F.called_enumerate (by decide) (F.typeCall_enumerate_1 _) (F.newCall_enumerate_1 _) (fun x => F.args_object_init_2 x _) F.entry_enumerate_new (enum_made B) ⟨g1, ?_⟩
  have sz : (s.heap.push o).objs.size = s.heap.objs.size + 1 := Heap.size_push ..
  have new := Heap.get?_push_size (s.heap.push o) (o := enO s.heap.objs.size) rfl
  show _ ∧ _
  rw [sz] at new ⊢
  exact ⟨⟨_, new, rfl⟩, q⟩
/-- the tuple at a, each item in a new pair -/
def ItE (K : PySem.W.Frag) (a : Addr) : It :=
  ⟨fun i H => ∃ (xs : List V) (x : V), SqT K H a xs ∧ xs[i]? = some x, fun i H v H' => ∃ T x, v = .ref T ∧ H T = none ∧ H' = upd H T (.tup [.int (i : Nat), x]) ∧ ∀ xs, SqT K H a xs → xs[i]? = some x, fun i H => ∃ xs : List V, SqT K H a xs ∧ xs.length = i⟩
theorem walk_enumT {K : PySem.W.Frag} {a : Addr} {xs : List V} : Walk (ItE K a) xs.length (fun H => SqT K H a xs) (YPair (fun i => some (.int (i : Nat))) (fun i => xs[i]?)) where
  goes := fun i H hi h => ⟨xs, xs[i], h, List.getElem?_eq_getElem hi⟩
  stops := fun H h => ⟨xs, h, rfl⟩
  yields := fun i H v H' _ h ⟨T, x, e1, e2, e3, e4⟩ => ⟨T, _, x, e1, e2, e3, rfl, e4 xs h⟩
/-- how the two new objects stand at turn i -/
def EnSt (a e it : Addr) (i : Nat) (h : Heap) : Prop := (∃ old, IsEnum h e it ((i : Nat) : Int) old) ∧ h.IsTupleIter it a i ∧ e ≠ it ∧ a ≠ it ∧ e ≠ a
theorem turn_enumT {P : Program} {w : World} {K : PySem.W.Frag} {elts : List Expr} {kk : Nat} {tpos : Pos} (a e it : Addr) : Turn P w K (.Tuple elts kk tpos) (ItE K a) [e, it] e (EnSt a e it) where
  mem := List.mem_cons_self
  obj := fun i h ⟨⟨old, he⟩, ⟨o, ho, _, hd⟩, _⟩ b hb => by
    rcases List.mem_cons.mp hb with z | z
    · subst z
      exact ⟨_, he, fun v q => nomatch q⟩
    · rw [List.mem_singleton.mp z]
      exact ⟨o, ho, fun v q => by rw [hd] at q; cases q⟩
  keep := fun i h h' ⟨⟨old, he⟩, hi, hne⟩ k => ⟨⟨old, k e List.mem_cons_self _ he⟩, hi.at fun o q => k it (by simp) o q, hne⟩
  item := by
    intro X hP hw hK hc i pins s σ H E I hf st ⟨xs, x, sq, hx⟩
    subst hP hw hK
    obtain ⟨⟨old, he⟩, hit, ne, na, nea⟩ := st
    obtain ⟨its, rel, tp, _⟩ := I.tuple sq
    obtain ⟨u, hu, ru⟩ := rel.get hx
    have lte : e < s.heap.objs.size := Heap.lt_size he
    have lti : it < s.heap.objs.size := by
      obtain ⟨_, q, _⟩ := hit
      exact Heap.lt_size q
    have lt : i < its.toArray.size := by
      obtain ⟨z, _⟩ := List.getElem?_eq_some_iff.mp hu
      simpa using z
    refine wpAny_pyNext_enum_itemC (Draws.tuple (show X.A.in1.handled = none from I.ok.hd hc) it a na its.toArray) he ⟨hit, tp⟩ lt ne (by simp [ne, nea]) fun y h1 tk py out st1 new sz keep => ?_
    have ey : y = u := Option.some.inj (py.symm.trans (by simpa using hu))
    subst ey
    refine ⟨_, rfl, wpAny_letOwnedTupleGo_enum (s := { s with heap := h1, toks := tk + 1 }) out fun h2 he2 sb => ?_⟩
    have new2 : h2.get? s.heap.objs.size = some { cls := .type "tuple", data := .seq #[.int i tk, y] } := (sb.2 _ (Nat.ne_of_gt lte)).trans new
    have ok : ObjOk X.prog X.w (upd H s.heap.objs.size (.tup [.int (i : Nat), x])) h2 s.heap.objs.size (.tup [.int (i : Nat), x]) := ⟨by show 2 ≤ sizeLine; decide, [.int i tk, y], .cons ⟨_, rfl⟩ (.cons ru .nil), _, new2, rfl, _, rfl⟩
    have J : Inv X pins σ (upd H s.heap.objs.size (.tup [.int (i : Nat), x])) { s with heap := h2, toks := tk + 1 } :=
      I.turnedNew (ch := [e, it]) (fun b ob hb q => (sb.2 b fun z => hb (by simp [z])).trans (keep b ob (fun z => hb (by simp [z])) (fun z => hb (by simp [z])) q)) hf (Nat.le_refl _) ok
    refine ⟨.ref s.heap.objs.size, _, J, rfl, ⟨_, x, rfl, I.hok.fresh (Nat.le_refl _), rfl, fun ys z => by rw [I.tuple_inj z sq]; exact hx⟩, ⟨⟨y, ?_⟩, st1.1.at fun o q => (sb.2 it (Ne.symm ne)).trans q, ne, na, nea⟩, fun b hb => ?_⟩
    · rw [show ((i + 1 : Nat) : Int) = (i : Int) + 1 by omega]
      exact he2
    · have lb : b < s.heap.objs.size := by
        rcases List.mem_cons.mp hb with z | z
        · rw [z]; exact lte
        · rw [List.mem_singleton.mp z]; exact lti
      exact (upd_ne (Nat.ne_of_lt lb)).trans (hf b hb).1
  done := by
    intro X hP hw hK hc i pins s σ H E I hf st ⟨xs, sq, le⟩
    subst hP hw hK le
    obtain ⟨⟨old, he⟩, hit, ne, na, nea⟩ := st
    obtain ⟨its, rel, tp, _⟩ := I.tuple sq
    have en : its.toArray.size = xs.length := by
      rw [List.size_toArray]
      exact rel.length.symm
    obtain ⟨f0, f1, _, f3, f4, f5⟩ := hf it (by simp)
    exact wpAny_pyNext_enum_endD (Draws.tuple (show X.A.in1.handled = none from I.ok.hd hc) it a na its.toArray) he ⟨en ▸ hit, tp⟩ fun h1 eb => ⟨rfl, I.turned (t' := s.toks) (fun b o nb q => eb b o nb q) f0 f1 f3 f4 f5⟩
  self := fun A i s Q E ⟨⟨_, he⟩, _⟩ h => wpAny_pyIter_enum he h
/-- a sequence: a list or a tuple -/
def Sq (K : PySem.W.Frag) (H : Hp) (a : Addr) (xs : List V) : Prop := SqL K H a xs ∨ SqT K H a xs
/-- a walk in numbered pairs over xs, which goes as long as what stood at its begin stands -/
def EnW (H : Hp) (xs : List V) (J : It) : Prop := ∃ G, Walk J xs.length G (YPair (fun i => some (.int (i : Nat))) (fun i => xs[i]?)) ∧ ∀ H', Ex H H' → G H'
def iEnumT (K : PySem.W.Frag) (ta : TA) : TI := fun σ H R => ta σ H fun vs H1 => ∃ (a : Addr) (xs : List V) (H0 : Hp), vs = [.ref a] ∧ Ex H0 H1 ∧ Sq K H0 a xs ∧ ∀ J, EnW H0 xs J → R J H1
/-- enumerate of a list or a tuple -/
theorem pi_enumT {X : Cx} {e : Expr} {ta : TA} {p pos tpos : Pos} {elts : List Expr} {kk : Nat} (hg : Gl X "enumerate") (hm : X.mg "enumerate" = none) (ha : PA X [e] ta) (stars : starEach [e] X.env = [(false, eval e X.env)] := by rfl) :
    PI X (.Tuple elts kk tpos) (.Call (.Name "enumerate" p) [e] [] pos) (iEnumT X.K ta) := ⟨fun pins s σ H R I h => Call_ (ld_blt I hg hm boot_enumerate (PyProof.Rows.callWith_type1 (thn (ha.run pos pins s σ H _ I h) fun us s1 ⟨vs, H1, J, rel, a, xs, H0, ev, x0, sq, q⟩ => by
  subst ev
  cases rel with
  | cons r rr =>
    cases rr
    cases r
    have far : ∀ b, b ∈ [s1.heap.objs.size + 1, s1.heap.objs.size] → s1.heap.objs.size ≤ b := fun b m => by
      rcases List.mem_cons.mp m with z | z
      · rw [z]; exact Nat.le_succ _
      · rw [List.mem_singleton.mp z]; exact Nat.le_refl _
    have apart : ∀ b, b ∈ [s1.heap.objs.size + 1, s1.heap.objs.size] → FpOk X pins H1 b := fun b m => J.fpOk (far b m) (J.hok.fresh (far b m))
    rcases sq with sq | sq
    · obtain ⟨its, _, lp, _⟩ := J.list (x0.sqL sq)
      exact call_enumerate_list lp.isList fun h1 en li _ keep => wpAny_pyIter_enum en ⟨s1.heap.objs.size + 1, _, _, _, H1, rfl, J.kept (t' := s1.toks) keep, turn_enum a (s1.heap.objs.size + 1) s1.heap.objs.size, ⟨⟨.none, en⟩, li, Nat.succ_ne_self _⟩, apart, q _ ⟨_, walk_enum, fun H' x => x.sqL sq⟩⟩
    · obtain ⟨its, _, tp, _⟩ := J.tuple (x0.sqT sq)
      have la : a < s1.heap.objs.size := by
        obtain ⟨_, z, _⟩ := tp
        exact Heap.lt_size z
      have tI : (s1.heap.push { cls := .type "tuple_iterator", data := .fields #[.ref a, .int 0 0] }).objs.size = s1.heap.objs.size + 1 := Heap.size_push ..
      have en : IsEnum ((s1.heap.push { cls := .type "tuple_iterator", data := .fields #[.ref a, .int 0 0] }).push (enO s1.heap.objs.size)) (s1.heap.objs.size + 1) s1.heap.objs.size 0 .none := by
        have z := Heap.get?_push_size (s1.heap.push { cls := .type "tuple_iterator", data := .fields #[.ref a, .int 0 0] }) (o := enO s1.heap.objs.size) rfl
        rw [tI] at z
        exact z
      refine enum_call (begins_tuple a its.toArray) tp (wpAny_pyIter_enum en ⟨s1.heap.objs.size + 1, _, _, _, H1, rfl, J.kept (t' := s1.toks) fun b o z => Heap.get?_push_of_some _ (Heap.get?_push_of_some _ z), turn_enumT a (s1.heap.objs.size + 1) s1.heap.objs.size, ⟨⟨.none, en⟩, ⟨_, Heap.get?_push_of_some _ (Heap.get?_push_size _ rfl), rfl, rfl⟩, Nat.succ_ne_self _, Nat.ne_of_lt la, Nat.ne_of_gt (Nat.lt_succ_of_lt la)⟩, apart, q _ ⟨_, walk_enumT, fun H' x => x.sqT sq⟩⟩)) stars rfl))⟩
end TH

/-! A4: first_bad_word -/
namespace TH
open PySem PySem.Spec PyProof.Rows L2
/-- the first that is no word, or was met -/
def fbw : List V → List V → Nat → Option Nat
  | [], _, _ => none
  | x :: r, met, i => if (!isWd x || inV x met) = true then some i else fbw r (met ++ [x]) (i + 1)
def optV : Option Nat → V
  | none => .non
  | some i => .int i
theorem Sq.ex {K : PySem.W.Frag} {H H' : Hp} {a : Addr} {xs : List V} (k : Ex H H') (h : Sq K H a xs) : Sq K H' a xs := h.imp k.sqL k.sqT
theorem sqL_kd {K : PySem.W.Frag} {H : Hp} {a : Addr} {xs : List V} (h : SqL K H a xs) : Kd K H (.ref a) "list" := by
  refine ⟨by decide, ?_, fun x z => nomatch z⟩
  rcases h with (h | ⟨o, h⟩) | ⟨o, its, n, hk, hc, _⟩
  · exact .base (.lst h)
  · exact .base (.frz h)
  · exact .kList hk hc
theorem sqT_kd {K : PySem.W.Frag} {H : Hp} {a : Addr} {xs : List V} (h : SqT K H a xs) : Kd K H (.ref a) "tuple" := by
  refine ⟨by decide, ?_, fun x z => nomatch z⟩
  rcases h with (h | ⟨o, h⟩) | ⟨o, its, n, hk, hc, _⟩
  · exact .base (.tup h)
  · exact .fTuple h
  · exact .kTuple hk hc
def spFirstBad (K : PySem.W.Frag) : Sp := fun vs H Q _ => ∃ (v : V) (b : Addr), vs = [v, .ref b] ∧ H b = some (.lst []) ∧
  ((∃ T, Kd K H v T ∧ isLt T = false ∧ ∀ H', Ex H H' → Q (.int 0) H') ∨
   ∃ (a : Addr) (xs : List V), v = .ref a ∧ Sq K H a xs ∧ xs.length ≤ 1000 ∧ (∀ x ∈ xs, ∃ T, Kd K H x T) ∧ ∀ H', Ex H H' → Q (optV (fbw xs [] 0)) H')
theorem isWd_str {v : V} (h : isWd v = true) : ∃ x, v = .str x := by
  cases v with
  | str x => exact ⟨x, rfl⟩
  | _ => cases h
theorem fbw_step {xs : List V} {i : Nat} {x : V} {met : List V} (h : xs[i]? = some x) : fbw (xs.drop i) met i = if (!isWd x || inV x met) = true then some i else fbw (xs.drop (i + 1)) (met ++ [x]) (i + 1) := by
  obtain ⟨lt, e⟩ := List.getElem?_eq_some_iff.mp h
  rw [List.drop_eq_getElem_cons lt, e]
  rfl
section
variable {P : Program} {w : World} {K : PySem.W.Frag} {mg : Str → Option Value} {base : Heap} {f : Addr} {fd : FuncData}
theorem scFirstBad : FnScope ["things", "barred", "met", "index", "thing"] ["things", "barred"] (defScope sFirstBad) := ⟨rfl, rfl, rfl, by decide +kernel, rfl, by decide +kernel, by decide +kernel⟩
theorem ok_first_bad (F : FnP K "first_bad_word" sFirstBad f fd) (FL : Has P w K mg base "is_list" 1 ["thing"] (spIsList K)) (FW : Has P w K mg base "is_word" 1 ["thing"] (spIsWord K)) (gl : mg "list" = none) (ge : mg "enumerate" = none) : FnOk P w K mg base CX0 2 f fd ["things", "barred"] (spFirstBad K) := by
  refine F.ok scFirstBad (fun vs H Q E h => ?_) (fun cdv A outer s H vs Q E hr h => ?_)
  · obtain ⟨v, b, rfl, _⟩ := h
    rfl
  · refine ⟨_, PSs.nox (pss_cons (ps_if (pt_not (pt_val (pe_has FL hr (by decide) rfl (pa_cons (pv 0) pa_nil)))) (pss_one (ps_ret pe_int)) pss_nil)
      (pss_cons (ps_set (i := 2) scFirstBad.nd rfl (.inl rfl) (pe_callTy call_list_of rfl gl boot_list (pa_cons (pv 1) pa_nil)))
      (pss_cons (ps_for PassesOwn.never rfl (pi_enumT rfl ge (pa_cons (pv 0) pa_nil)) (pg_tup rfl (pgs_cons (pg_name (i := 3) scFirstBad.nd rfl (.inl rfl)) (pgs_cons (pg_name (i := 4) scFirstBad.nd rfl (.inl rfl)) pgs_nil)))
        (pss_cons (ps_if (PW.pt (pw_or (pt_not (pt_val (pe_has FW hr (by decide) rfl (pa_cons (pv 4) pa_nil)))) (pw_or1 (pt_cmpR op_in_seq (pv 4) (pv 2) (by with_unfolding_all rfl))))) (pss_one (ps_ret (pv 3))) pss_nil)
        (pss_one (ps_expr (pe_bm PySem.F.plainAttrs_list PySem.F.slot_list_append PySem.F.type_list_append mt_append (pv 2) (pa_cons (pv 4) pa_nil))))))
      (pss_one (ps_ret pe_non))))), ?_⟩
    obtain ⟨v, b, rfl, hb, h⟩ := h
    rcases h with ⟨T, k, nl, hQ⟩ | ⟨a, xs, rfl, sq, len, kinds, hQ⟩
    · refine ⟨v, rfl, v, T, rfl, k, fun H1 x1 => ⟨_, rfl, ?_⟩⟩
      rw [nl]
      exact hQ H1 x1
    · obtain ⟨T, kT, lT⟩ : ∃ T, Kd K H (.ref a) T ∧ isLt T = true := by
        rcases sq with sq | sq
        · exact ⟨_, sqL_kd sq, rfl⟩
        · exact ⟨_, sqT_kd sq, rfl⟩
      refine ⟨.ref a, rfl, .ref a, T, rfl, kT, fun H1 x1 => ⟨_, rfl, ?_⟩⟩
      rw [lT]
      refine ⟨.ref b, rfl, b, [], rfl, .inl (.inl (.inl (x1 _ _ hb))), fun m nm => ?_⟩
      have x2 : Ex H (upd H1 m (.lst [])) := x1.trans (Ex.new nm)
      have nmH : H m = none := x1.none nm
      refine ⟨.ref a, rfl, a, xs, H, rfl, x2, sq, fun J ⟨G, W, gs⟩ => for_it W (fun i σ H2 => ∃ (met : List V) (o3 o4 : Option V), σ = [some (.ref a), some (.ref b), some (.ref m), o3, o4] ∧ Ex H H2 ∧ H2 m = some (.lst met) ∧ met.length = i ∧ (∀ y ∈ met, ∃ x, y = .str x) ∧ fbw xs [] 0 = fbw (xs.drop i) met i)
        ⟨[], none, none, rfl, x2, upd_same, rfl, (fun y h => by cases h), rfl⟩ (fun i σ H2 _ ⟨_, _, _, _, x, _⟩ => gs H2 x) (fun i v σ H2 H3 hi h y => ?_) fun σ H2 h => ?_⟩
      · obtain ⟨met, o3, o4, rfl, x3, hm, ln, ws, eq⟩ := h
        obtain ⟨t, u, x, rfl, nt, rfl, eu, ex⟩ := y
        cases eu
        have xt : Ex H2 (upd H2 t (.tup [.int (i : Nat), x])) := Ex.new nt
        obtain ⟨Tx, kx⟩ := kinds x (List.mem_of_getElem? ex)
        refine ⟨t, _, rfl, .inl (.inl upd_same), rfl, .int i, [x], rfl, x, [], rfl, rfl, ?_⟩
        refine ⟨x, rfl, x, Tx, rfl, kx.ex (x3.trans xt), fun H4 x4 => ⟨_, rfl, ?_⟩⟩
        have x5 := (x3.trans xt).trans x4
        have hm4 : H4 m = some (.lst met) := x4 _ _ (xt _ _ hm)
        rw [fbw_step ex] at eq
        cases wd : isWd x with
        | false =>
          rw [wd] at eq
          refine ⟨.int i, rfl, ?_⟩
          have q := hQ H4 x5
          rw [eq] at q
          exact q
        | true =>
          rw [wd] at eq
          obtain ⟨z, rfl⟩ := isWd_str wd
          refine ⟨.str z, rfl, .ref m, rfl, m, met, rfl, .inl (.inl (.inl hm4)), rfl, List.all_eq_true.mpr fun y hy => ?_, _, rfl, ?_⟩
          · obtain ⟨x, rfl⟩ := ws y hy
            rfl
          · cases iv : inV (.str z) met with
            | true =>
              rw [iv] at eq
              refine ⟨.int i, rfl, ?_⟩
              have q := hQ H4 x5
              rw [eq] at q
              exact q
            | false =>
              rw [iv, if_neg (by simp)] at eq
              refine ⟨.ref m, rfl, .inl ⟨rfl, met, .inl (.inl hm4)⟩, .str z, rfl, m, met, .str z, rfl, rfl, hm4, by rw [sizeLine_eq]; omega, ?_⟩
              refine ⟨met ++ [.str z], _, _, rfl, fun b o e => ?_, upd_same, by simp [ln], fun y hy => ?_, eq⟩
              · have nb : b ≠ m := fun q => by rw [q, nmH] at e; cases e
                exact (upd_ne nb).trans (x5 _ _ e)
              · rcases List.mem_append.mp hy with z | z
                · exact ws y z
                · exact ⟨_, List.mem_singleton.mp z⟩
      · obtain ⟨met, o3, o4, rfl, x3, hm, ln, ws, eq⟩ := h
        have q := hQ H2 x3
        rw [eq, List.drop_length] at q
        exact q
end
end TH

/-! A5: [*d, ..]; a Thing in memory; names_of, led_to -/
namespace TH
open PySem PySem.Spec PyProof.Rows L2
def tStarD (te : TE) (t : TA) : TA := fun σ H Q => te σ H fun x H1 => ∃ (d : Addr) (kvs : List (Key × V)), x = .ref d ∧ Rd H1 d (.dK kvs) ∧ t σ H1 fun ys H2 => Q ((kvs.map fun kv => kV kv.1) ++ ys) H2
theorem pa_starD {X : Cx} {e : Expr} {es : List Expr} {te : TE} {t : TA} {p : Pos} (hc : X.calm = true) (he : PE X e te) (hr : PA X es t) (stars : starEach (.Starred e p :: es) X.env = (true, eval e X.env) :: starEach es X.env := by rfl) :
    PA X (.Starred e p :: es) (tStarD te t) := ⟨fun pos pins s σ H Q I h => PySem.W.items_star (thn (he.run pins s σ H _ I h) fun v s1 ⟨y, H1, J, ry, d, kvs, ey, rd, q⟩ => by
  subst ey
  have ry : v = Value.ref d := ry
  subst ry
  obtain ⟨z, lo, vs, rel, dd⟩ := dk_rd J.hok rd
  obtain ⟨ep, at_⟩ := dd.dictAt
  have ek : (kvs.map fun kv => kV kv.1) = vs.map fun p => kV p.1 := by
    have e := congrArg (List.map kV) rel.keys
    simp only [List.map_map] at e
    exact e
  unfold PySem.W.StarOf notIterableAtAll
  refine wpAny_bind (wpAny_specialOf dd.typeIs PySem.F.slot_dict_iter.lookup (wpAny_pure ⟨rfl, ?_⟩))
  refine PySem.W.kdu_collect (PySem.W.kdl_dict (knd := mixKind X.prog X.w) (kvs := vs) (ep := ep) lo) (J.ok.hd hc) at_ (by rw [← rel.length]; exact z) fun h1 tk acc keep its => ?_
  have vals : Vals (vs.map fun p => kV p.1) acc.toList := keys_at (by rw [Array.length_toList]; exact its.1) fun j v e => its.2 j v (by rw [← Array.getElem?_toList]; exact e)
  exact thn (hr.run pos pins _ σ H1 _ (J.kept (t' := tk) keep) q) fun ws s3 ⟨us, H3, L, r3, q3⟩ => ⟨_, H3, L, (ek ▸ vals).append r3, q3⟩) stars⟩
/-! ### a Thing -/
abbrev Ld := List (Str × Str)
abbrev Lds := List (Str × Ld)
structure ThD where
  vals : List Str
  start : Str
  deeds : Lds
  ents : Lds
def ldV (l : Ld) : List (Key × V) := l.map fun p => (Sum.inr p.1, V.str p.2)
/-- a dict of dicts at a -/
def DD (H : Hp) (a : Addr) (ls : Lds) : Prop := ∃ kvs : List (Key × V), H a = some (.dK kvs) ∧ Paired (fun (l : Str × Ld) (kv : Key × V) => kv.1 = Sum.inr l.1 ∧ ∃ b, kv.2 = .ref b ∧ H b = some (.dK (ldV l.2))) ls kvs
theorem DD.ex {H H' : Hp} {a : Addr} {ls : Lds} (x : Ex H H') (h : DD H a ls) : DD H' a ls := by
  obtain ⟨kvs, e, p⟩ := h
  exact ⟨kvs, x _ _ e, Paired.mapP p fun _ _ ⟨e1, b, e2, e3⟩ => ⟨e1, b, e2, x _ _ e3⟩⟩
theorem DD.keys {ls : Lds} {kvs : List (Key × V)} {R : Str × Ld → Key × V → Prop} (p : Paired R ls kvs) (h : ∀ l kv, R l kv → kv.1 = Sum.inr l.1) : kvs.map (fun kv => kV kv.1) = ls.map fun l => V.str l.1 := by
  induction p with
  | nil => rfl
  | cons r _ ih => rw [List.map_cons, List.map_cons, ih, h _ _ r]; rfl
def look (ls : Lds) (n : Str) : Option Ld := (ls.find? fun l => decide (l.1 = n)).map (·.2)
def lookL (l : Ld) (n : Str) : Option Str := (l.find? fun p => decide (p.1 = n)).map (·.2)
theorem lookL_val (l : Ld) (n : Str) : valV (ldV l) (Sum.inr n) = (lookL l n).map V.str := by
  induction l with
  | nil => rfl
  | cons p l ih =>
    by_cases e : p.1 = n
    · rw [show ldV (p :: l) = (Sum.inr p.1, V.str p.2) :: ldV l from rfl, valV_pos (congrArg Sum.inr e)]
      unfold lookL
      rw [List.find?_cons, decide_eq_true e]
      rfl
    · rw [show ldV (p :: l) = (Sum.inr p.1, V.str p.2) :: ldV l from rfl, valV_neg (fun z => e (Sum.inr.inj z)), ih]
      unfold lookL
      rw [List.find?_cons, decide_eq_false e]
theorem look_val {H : Hp} {ls : Lds} {kvs : List (Key × V)} (p : Paired (fun (l : Str × Ld) (kv : Key × V) => kv.1 = Sum.inr l.1 ∧ ∃ b, kv.2 = .ref b ∧ H b = some (.dK (ldV l.2))) ls kvs) (n : Str) :
    (look ls n = none ∧ valV kvs (Sum.inr n) = none) ∨ ∃ l b, look ls n = some l ∧ valV kvs (Sum.inr n) = some (.ref b) ∧ H b = some (.dK (ldV l)) := by
  induction p with
  | nil => exact .inl ⟨rfl, rfl⟩
  | @cons l kv ls kvs r _ ih =>
    obtain ⟨e1, b, e2, e3⟩ := r
    by_cases e : l.1 = n
    · refine .inr ⟨l.2, b, ?_, ?_, e3⟩
      · unfold look
        rw [List.find?_cons, decide_eq_true e]
        rfl
      · rw [valV_pos (e1.trans (congrArg Sum.inr e)), e2]
    · have n1 : look (l :: ls) n = look ls n := by
        unfold look
        rw [List.find?_cons, decide_eq_false e]
      have n2 : valV (kv :: kvs) (Sum.inr n) = valV kvs (Sum.inr n) := valV_neg fun z => e (Sum.inr.inj (e1.symm.trans z))
      rw [n1, n2]
      exact ih
/-- the object t is the Thing d of the class C -/
def IsTh (H : Hp) (C t : Addr) (d : ThD) : Prop := ∃ dx vt dd de, H t = some (.ins C dx [("kept_values", .ref vt), ("kept_start", .str d.start), ("kept_deeds", .ref dd), ("kept_entries", .ref de)]) ∧ H vt = some (.tup (d.vals.map V.str)) ∧ DD H dd d.deeds ∧ DD H de d.ents
theorem IsTh.ex {H H' : Hp} {C t : Addr} {d : ThD} (x : Ex H H') (h : IsTh H C t d) : IsTh H' C t d := by
  obtain ⟨dx, vt, dd, de, e1, e2, e3, e4⟩ := h
  exact ⟨dx, vt, dd, de, x _ _ e1, x _ _ e2, e3.ex x, e4.ex x⟩
/-- what the class says of its fields -/
structure ThC (K : PySem.W.Frag) (C : Addr) : Prop where
  cls : Cls K C
  vals : NoAttr K C "kept_values"
  start : NoAttr K C "kept_start"
  deeds : NoAttr K C "kept_deeds"
  ents : NoAttr K C "kept_entries"
end TH

/-! A6: names_of, led_to -/
namespace TH
open PySem PySem.Spec PyProof.Rows L2
abbrev sNamesOf : Stmt := top 25
abbrev sLedTo : Stmt := top 26
def ThD.names (d : ThD) : List Str := d.deeds.map (·.1) ++ d.ents.map (·.1)
def spNamesOf (C : Addr) : Sp := fun vs H Q _ => ∃ (t : Addr) (d : ThD), vs = [.ref t] ∧ IsTh H C t d ∧ d.names.length < 64 ∧ ∀ (p : Addr) (ys : List Str) (H' : Hp), Ex H H' → H p = none → H' p = some (.lst (ys.map V.str)) → ys.Perm d.names → sortedS ys = true → Q (.ref p) H'
/-- where a use leads: what the deed says, or the entry, if it is open -/
def ThD.led (d : ThD) (v n : Str) : Option Str := match look d.deeds n with
  | some l => lookL l v
  | none => match look d.ents n with
    | some l => lookL l v
    | none => none
def optS : Option Str → V
  | none => .non
  | some x => .str x
def spLedTo (C : Addr) : Sp := fun vs H Q _ => ∃ (t : Addr) (d : ThD) (v n : Str), vs = [.ref t, .str v, .str n] ∧ IsTh H C t d ∧ ((∃ l, look d.deeds n = some l ∧ (lookL l v).isSome = true) ∨ (look d.deeds n = none ∧ (look d.ents n).isSome = true)) ∧ Q (optS (d.led v n)) H
section
variable {P : Program} {w : World} {K : PySem.W.Frag} {mg : Str → Option Value} {base : Heap} {f C : Addr} {fd : FuncData}
theorem scNamesOf : FnScope ["thing"] ["thing"] (defScope sNamesOf) := ⟨rfl, rfl, rfl, by decide +kernel, rfl, by decide +kernel, by decide +kernel⟩
theorem ok_names_of (F : FnP K "names_of" sNamesOf f fd) (T : ThC K C) (gs : mg "sorted" = none) : FnOk P w K mg base CX0 1 f fd ["thing"] (spNamesOf C) := by
  refine F.ok scNamesOf (fun vs H Q E h => ?_) (fun cdv A outer s H vs Q E hr h => ?_)
  · obtain ⟨t, d, rfl, _⟩ := h
    rfl
  · refine ⟨_, PSs.nox (pss_one (ps_ret (pe_callB cr_sortedS rfl gs boot_sorted (pa_cons (pe_lst (pa_starD rfl (pe_fld (pv 0) rfl) (pa_starD rfl (pe_fld (pv 0) rfl) pa_nil))) pa_nil)))), ?_⟩
    obtain ⟨t, d, rfl, th, len, hQ⟩ := h
    obtain ⟨dx, vt, dd, de, e1, e2, ⟨ks, k1, kp⟩, ⟨es, m1, mp⟩⟩ := th
    have kk := DD.keys kp fun _ _ r => r.1
    have mk := DD.keys mp fun _ _ r => r.1
    have all : (ks.map fun kv => kV kv.1) ++ ((es.map fun kv => kV kv.1) ++ []) = d.names.map V.str := by
      rw [kk, mk, List.append_nil]
      unfold ThD.names
      rw [List.map_append, List.map_map, List.map_map]
      rfl
    refine ⟨.ref t, rfl, t, C, dx, _, .ref dd, rfl, e1, T.cls, T.deeds, rfl, dd, ks, rfl, .inl k1, .ref t, rfl, t, C, dx, _, .ref de, rfl, e1, T.cls, T.ents, rfl, de, es, rfl, .inl m1, ?_⟩
    unfold tNil
    dsimp only
    rw [all]
    refine ⟨by rw [sizeLine_eq, List.length_map]; omega, fun l hl => ?_⟩
    have x1 : Ex H (upd H l (.lst (d.names.map V.str))) := Ex.new hl
    exact ⟨l, d.names, rfl, .inl (.inl upd_same), len, fun ys p pm so np => hQ p ys _ (x1.trans (Ex.new np)) (x1.none np) upd_same pm so⟩
theorem scLedTo : FnScope ["thing", "worth", "name"] ["thing", "worth", "name"] (defScope sLedTo) := ⟨rfl, rfl, rfl, by decide +kernel, rfl, by decide +kernel, by decide +kernel⟩
theorem ok_led_to (F : FnP K "led_to" sLedTo f fd) (T : ThC K C) : FnOk P w K mg base CX0 1 f fd ["thing", "worth", "name"] (spLedTo C) := by
  refine F.ok scLedTo (fun vs H Q E h => ?_) (fun cdv A outer s H vs Q E hr h => ?_)
  · obtain ⟨t, d, v, n, rfl, _⟩ := h
    rfl
  · have hu := hu_of hr
    refine ⟨_, PSs.nox (pss_cons (ps_if (pt_cmp (pc_din hu (pv 2) (pe_fld (pv 0) rfl))) (pss_one (ps_ret (pe_dget hu (pe_dget hu (pe_fld (pv 0) rfl) (pv 2) (fun _ _ => rfl)) (pv 1) (fun _ _ => rfl)))) pss_nil)
      (pss_one (ps_ret (pe_dget1 hu (pe_dget hu (pe_fld (pv 0) rfl) (pv 2) (fun _ _ => rfl)) (pv 1) ⟨rfl, rfl, rfl, rfl⟩)))), ?_⟩
    obtain ⟨t, d, v, n, rfl, th, way, hQ⟩ := h
    obtain ⟨dx, vt, dd, de, e1, e2, ⟨ks, k1, kp⟩, ⟨es, m1, mp⟩⟩ := th
    refine ⟨.str n, rfl, .ref t, rfl, t, C, dx, _, .ref dd, rfl, e1, T.cls, T.deeds, rfl, dd, _, rfl, DGet.k (k := Sum.inr n) k1, _, rfl, ?_⟩
    unfold ThD.led at hQ
    rcases look_val kp n with ⟨a1, a2⟩ | ⟨l, b, a1, a2, a3⟩
    · rw [a1] at hQ
      dsimp only at hQ
      rw [a2]
      rcases way with ⟨l, z, _⟩ | ⟨_, so⟩
      · rw [a1] at z; cases z
      · rcases look_val mp n with ⟨b1, b2⟩ | ⟨l, b, b1, b2, b3⟩
        · rw [b1] at so; cases so
        · rw [b1] at hQ
          dsimp only at hQ
          refine ⟨.ref t, rfl, t, C, dx, _, .ref de, rfl, e1, T.cls, T.ents, rfl, .str n, rfl, de, .ref b, rfl, b2 ▸ DGet.k (k := Sum.inr n) m1, b, rfl, .inl ⟨_, .inl b3⟩, .str v, rfl, _, DGet.k (k := Sum.inr v) b3, ?_⟩
          rw [lookL_val]
          cases q : lookL l v with
          | none => rw [q] at hQ; exact hQ
          | some x => rw [q] at hQ; exact hQ
    · rw [a1] at hQ
      dsimp only at hQ
      rw [a2]
      rcases way with ⟨l', z, so⟩ | ⟨z, _⟩
      · rw [a1] at z
        cases z
        obtain ⟨x, ex⟩ := Option.isSome_iff_exists.mp so
        have q : valV (ldV l) (Sum.inr v) = some (.str x) := by rw [lookL_val, ex]; rfl
        refine ⟨.ref t, rfl, t, C, dx, _, .ref dd, rfl, e1, T.cls, T.deeds, rfl, .str n, rfl, dd, .ref b, rfl, a2 ▸ DGet.k (k := Sum.inr n) k1, .str v, rfl, b, .str x, rfl, q ▸ DGet.k (k := Sum.inr v) a3, ?_⟩
        rw [ex] at hQ
        exact hQ
      · rw [a1] at z; cases z
end
end TH

/-! A7: the rows, plainly -/
namespace TH
open PySem PySem.Spec PyProof.Rows L2
abbrev Fnd := List (Str × List Str)
def rowOf (f : Fnd) (v : Str) : Option (List Str) := (f.find? fun p => decide (p.1 = v)).map (·.2)
def nStep (d : ThD) (w : Str) (st : Fnd × List Str) (n : Str) : Fnd × List Str := match d.led w n with
  | none => st
  | some g => match rowOf st.1 g with
    | some _ => st
    | none => (st.1 ++ [(g, (rowOf st.1 w).getD [] ++ [n])], st.2 ++ [g])
def wStep (d : ThD) (ns : List Str) (st : Fnd × List Str) (w : Str) : Fnd × List Str := ns.foldl (nStep d w) st
def tier (d : ThD) (ns : List Str) (f : Fnd) (ws : List Str) : Fnd × List Str := ws.foldl (wStep d ns) (f, [])
inductive Run (d : ThD) (ns : List Str) : Fnd → List Str → Fnd → Prop where
  | nil (f : Fnd) : Run d ns f [] f
  | step {f : Fnd} {ws : List Str} {f' : Fnd} (h : ws ≠ []) (r : Run d ns (tier d ns f ws).1 (tier d ns f ws).2 f') : Run d ns f ws f'
/-- a right Thing -/
structure ThD.Ok (d : ThD) : Prop where
  few : d.vals.length ≤ 10
  start : d.start ∈ d.vals
  txt : ∀ v ∈ d.vals, PyData.canLay0 (.str v) = true
  deeds : ∀ n l, look d.deeds n = some l → ∀ v ∈ d.vals, ∃ g ∈ d.vals, lookL l v = some g
  ents : ∀ n l, look d.ents n = some l → ∀ v g, lookL l v = some g → g ∈ d.vals
/-- all names are the Thing's -/
def ThD.Own (d : ThD) (ns : List Str) : Prop := ∀ n ∈ ns, (look d.deeds n).isSome = true ∨ (look d.ents n).isSome = true
theorem ThD.Ok.led {d : ThD} (k : d.Ok) {v n g : Str} (hv : v ∈ d.vals) (h : d.led v n = some g) : g ∈ d.vals := by
  unfold ThD.led at h
  cases q : look d.deeds n with
  | some l =>
    rw [q] at h
    obtain ⟨g', m, e⟩ := k.deeds n l q v hv
    have h : lookL l v = some g := h
    rw [e] at h
    cases h
    exact m
  | none =>
    rw [q] at h
    cases q2 : look d.ents n with
    | some l =>
      rw [q2] at h
      exact k.ents n l q2 v g h
    | none =>
      rw [q2] at h
      cases h
/-- what holds of the rows found -/
structure FOk (d : ThD) (f : Fnd) : Prop where
  nd : (f.map (·.1)).Nodup
  sub : ∀ p ∈ f, p.1 ∈ d.vals
  row : ∀ p ∈ f, p.2.length ≤ f.length
theorem rowOf_some {f : Fnd} {v : Str} {r : List Str} (h : rowOf f v = some r) : (v, r) ∈ f := by
  unfold rowOf at h
  obtain ⟨p, e, rfl⟩ := Option.map_eq_some_iff.mp h
  have z := List.find?_some e
  have m := List.mem_of_find?_eq_some e
  simp only [decide_eq_true_eq] at z
  rw [← z]
  exact m
theorem rowOf_none {f : Fnd} {v : Str} (h : rowOf f v = none) : v ∉ f.map (·.1) := by
  intro m
  obtain ⟨p, hp, rfl⟩ := List.mem_map.mp m
  unfold rowOf at h
  have z := List.find?_eq_none.mp (Option.map_eq_none_iff.mp h) p hp
  simp at z
theorem rowOf_mem {f : Fnd} {v : Str} (h : v ∈ f.map (·.1)) : ∃ r, rowOf f v = some r := by
  cases q : rowOf f v with
  | some r => exact ⟨r, rfl⟩
  | none => exact absurd h (rowOf_none q)
theorem FOk.has {d : ThD} {f : Fnd} (k : FOk d f) {v : Str} (h : v ∈ f.map (·.1)) : v ∈ d.vals := by
  obtain ⟨p, hp, rfl⟩ := List.mem_map.mp h
  exact k.sub p hp
theorem FOk.len {d : ThD} {f : Fnd} (k : FOk d f) : f.length ≤ d.vals.length := by
  have z := k.nd.length_le_of_subset (l₂ := d.vals) fun v m => by
    obtain ⟨p, hp, rfl⟩ := List.mem_map.mp m
    exact k.sub p hp
  simpa using z
/-- one step keeps it -/
theorem nStep_ok {d : ThD} (k : d.Ok) {w : Str} {st : Fnd × List Str} {n : Str} (h : FOk d st.1) (hw : w ∈ st.1.map (·.1)) (hl : ∀ g ∈ st.2, g ∈ st.1.map (·.1)) :
    FOk d (nStep d w st n).1 ∧ (∀ v ∈ st.1.map (·.1), v ∈ (nStep d w st n).1.map (·.1)) ∧ (∀ g ∈ (nStep d w st n).2, g ∈ (nStep d w st n).1.map (·.1)) ∧ (nStep d w st n).1.length - st.1.length = (nStep d w st n).2.length - st.2.length ∧ st.1.length ≤ (nStep d w st n).1.length ∧ st.2.length ≤ (nStep d w st n).2.length := by
  have same : FOk d st.1 ∧ (∀ v ∈ st.1.map (·.1), v ∈ st.1.map (·.1)) ∧ (∀ g ∈ st.2, g ∈ st.1.map (·.1)) ∧ st.1.length - st.1.length = st.2.length - st.2.length ∧ st.1.length ≤ st.1.length ∧ st.2.length ≤ st.2.length := ⟨h, fun _ m => m, hl, by omega, Nat.le_refl _, Nat.le_refl _⟩
  unfold nStep
  cases q : d.led w n with
  | none => exact same
  | some g =>
    dsimp only
    cases q2 : rowOf st.1 g with
    | some r => exact same
    | none =>
      have wv : w ∈ d.vals := by
        obtain ⟨p, hp, rfl⟩ := List.mem_map.mp hw
        exact h.sub p hp
      have gv := k.led wv q
      have ng := rowOf_none q2
      obtain ⟨r, er⟩ := rowOf_mem hw
      have lr := h.row _ (rowOf_some er)
      refine ⟨⟨?_, fun p hp => ?_, fun p hp => ?_⟩, fun v m => ?_, fun x m => ?_, ?_, ?_, ?_⟩
      · rw [List.map_append]
        refine List.nodup_append.mpr ⟨h.nd, by simp, fun a ha b hb => ?_⟩
        rw [List.map_cons, List.map_nil, List.mem_singleton] at hb
        rw [hb]
        exact fun z => ng ((show a = g from z) ▸ ha)
      · rcases List.mem_append.mp hp with z | z
        · exact h.sub p z
        · rw [List.mem_singleton.mp z]; exact gv
      · rw [List.length_append]
        rcases List.mem_append.mp hp with z | z
        · have := h.row p z
          omega
        · rw [List.mem_singleton.mp z, er]
          simp only [Option.getD_some, List.length_append, List.length_cons, List.length_nil]
          have : r.length ≤ st.1.length := lr
          omega
      · rw [List.map_append]
        exact List.mem_append_left _ m
      · rw [List.map_append]
        rcases List.mem_append.mp m with z | z
        · exact List.mem_append_left _ (hl x z)
        · rw [List.mem_singleton.mp z]
          exact List.mem_append_right _ (by simp)
      · simp only [List.length_append, List.length_cons, List.length_nil]
        omega
      · simp only [List.length_append]
        omega
      · simp only [List.length_append]
        omega
end TH

/-! A8: rows_from -/
namespace TH
open PySem PySem.Spec PyProof.Rows L2 LamV
abbrev sRowsFrom : Stmt := top 27
/-- rows as a dict of tuples at a -/
def FD (K : PySem.W.Frag) (H : Hp) (a : Addr) (f : Fnd) : Prop := ∃ kvs : List (Key × V), H a = some (.dK kvs) ∧ Paired (fun (p : Str × List Str) (kv : Key × V) => kv.1 = Sum.inr p.1 ∧ ∃ b, kv.2 = .ref b ∧ SqT K H b (p.2.map V.str)) f kvs
/-- a lambda that is always True -/
def LTrue (P : Program) (w : World) (K : PySem.W.Frag) (mg : Str → Option Value) (base : Heap) (F : LF) : Prop := LOk P w K mg base CX0 1 F fun vs H Q _ => ∃ v, vs = [v] ∧ Q (.bl true) H
theorem IsLam.ex {H H' : Hp} {f : Addr} {F : LF} (x : Ex H H') (h : IsLam H f F) : IsLam H' f F := by
  obtain ⟨c, e1, e2⟩ := h
  exact ⟨c, x _ _ e1, x _ _ e2⟩
def spRowsFrom (P : Program) (w : World) (K : PySem.W.Frag) (mg : Str → Option Value) (base : Heap) (C : Addr) : Sp := fun vs H Q _ => ∃ (t : Addr) (d : ThD) (b : Str) (nl : Addr) (ns : List Str) (fl : Addr) (F : LF), vs = [.ref t, .str b, .ref nl, .ref fl] ∧ IsTh H C t d ∧ d.Ok ∧ b ∈ d.vals ∧ SqL K H nl (ns.map V.str) ∧ ns.length ≤ 60 ∧ d.Own ns ∧ IsLam H fl F ∧ LTrue P w K mg base F ∧
  ∀ (p : Addr) (H' : Hp) (f : Fnd), Ex H H' → H p = none → FD K H' p f → FOk d f → Run d ns [(b, [])] [b] f → Q (.ref p) H'
theorem ne_new {H : Hp} {p q : Addr} {o : HO} (h : upd H p o q = none) : q ≠ p := fun z => by
  rw [z, upd_same] at h
  cases h
theorem FD.ex {K : PySem.W.Frag} {H H' : Hp} {a : Addr} {f : Fnd} (x : Ex H H') (h : FD K H a f) : FD K H' a f := by
  obtain ⟨kvs, e, p⟩ := h
  exact ⟨kvs, x _ _ e, Paired.mapP p fun _ _ ⟨e1, b, e2, e3⟩ => ⟨e1, b, e2, x.sqT e3⟩⟩
theorem dp_strs {K : PySem.W.Frag} {H : Hp} : ∀ ws : List Str, DpAll K H (ws.map V.str) (ws.map PyData.str)
  | [] => .nil
  | w :: r => .cons (.str w) (dp_strs r)
theorem lay_strs : ∀ {ws : List Str}, (∀ w ∈ ws, PyData.canLay0 (.str w) = true) → PyData.canLayAll0 (ws.map PyData.str) = true ∧ PyData.depthAll (ws.map PyData.str) = 0
  | [], _ => ⟨rfl, rfl⟩
  | w :: r, h => by
    obtain ⟨a, b⟩ := lay_strs (ws := r) fun v m => h v (List.mem_cons_of_mem _ m)
    have c := h w List.mem_cons_self
    refine ⟨?_, ?_⟩
    · show (PyData.canLay0 (.str w) && PyData.canLayAll0 (r.map PyData.str)) = true
      rw [c, a]
      rfl
    · show max (PyData.depth (.str w)) (PyData.depthAll (r.map PyData.str)) = 0
      rw [b]
      rfl
theorem shaped_strs {ws : List Str} (h : ∀ w ∈ ws, PyData.canLay0 (.str w) = true) : SeqAt.shaped (.list (ws.map PyData.str)) = true := by
  obtain ⟨a, b⟩ := lay_strs h
  have e1 : PyData.canLay0 (.list (ws.map PyData.str)) = PyData.canLayAll0 (ws.map PyData.str) := by unfold PyData.canLay0; rfl
  have e2 : PyData.depth (.list (ws.map PyData.str)) = PyData.depthAll (ws.map PyData.str) + 1 := by unfold PyData.depth; rfl
  unfold SeqAt.shaped
  rw [e1, a, e2, b]
  decide
theorem eqv_nil (ws : List Str) : PyData.eqv (.list (ws.map PyData.str)) (.list []) = decide (ws = []) := by
  cases ws with
  | nil => rfl
  | cons w r => rfl
/-- what holds at each turn of the while -/
def RInv (K : PySem.W.Frag) (H : Hp) (d : ThD) (ns : List Str) (t nl fl p : Addr) (b : Str) (m : Nat) (σ : L2.St) (H2 : Hp) : Prop := ∃ (fnd : Fnd) (ws : List Str) (wl : Addr) (o6 o7 o8 o9 : Option V), σ = [some (.ref t), some (.str b), some (.ref nl), some (.ref fl), some (.ref p), some (.ref wl), o6, o7, o8, o9] ∧ Ex H H2 ∧ FD K H2 p fnd ∧ FOk d fnd ∧ H2 wl = some (.lst (ws.map V.str)) ∧ H wl = none ∧ wl ≠ p ∧ (∀ g ∈ ws, g ∈ fnd.map (·.1)) ∧ ws.length ≤ 10 ∧
  m = 2 * (d.vals.length - fnd.length) + (if ws = [] then 0 else 1) ∧ ∀ f', Run d ns fnd ws f' → Run d ns [(b, [])] [b] f'
theorem opR_imp {X : Cx} {g : Value → Value → Sem Value} {r r' : R2} (h : OpR X g r) (i : ∀ x y H Q, r' x y H Q → r x y H Q) : OpR X g r' := fun pins s σ H x y v u Q I a c q => h pins s σ H x y v u Q I a c (i x y H Q q)
def rCatN (K : PySem.W.Frag) : R2 := fun x y H Q => ∃ a b xs ys, x = .ref a ∧ y = .ref b ∧ SqT K H a xs ∧ SqT K H b ys ∧ xs.length + ys.length ≤ sizeLine ∧ ∀ r H', Ex H H' → SqT K H' r (xs ++ ys) → Q (.ref r) H'
theorem op_catN {X : Cx} : OpR X (binaryOp .Add) (rCatN X.K) := opR_imp op_catA fun x y H Q ⟨a, b, xs, ys, e1, e2, s1, s2, l, q⟩ => ⟨a, b, xs, ys, e1, e2, s1, s2, l, fun z => q b H Ex.refl (by rw [z]; exact s2), fun _ z => q a H Ex.refl (by rw [z, List.append_nil]; exact s1), fun _ _ p np => q p _ (Ex.new np) (.inl (.inl upd_same))⟩
/-- a tuple stands where something else is written -/
theorem sqT_put {K : PySem.W.Frag} {H : Hp} {p a : Addr} {u o : HO} {xs : List V} (hp : H p = some u) (n1 : ∀ ys, u ≠ .tup ys) (n2 : ∀ ob v, u ≠ .frz ob v) (h : SqT K H a xs) : SqT K (upd H p o) a xs := by
  rcases h with (h | ⟨ob, h⟩) | h
  · exact .inl (.inl ((upd_ne fun z => n1 xs (Option.some.inj ((z ▸ hp).symm.trans h))).trans h))
  · exact .inl (.inr ⟨ob, (upd_ne fun z => n2 ob _ (Option.some.inj ((z ▸ hp).symm.trans h))).trans h⟩)
  · exact .inr h
theorem row_val {R : Str × List Str → Key × V → Prop} {f : Fnd} {kvs : List (Key × V)} (p : Paired R f kvs) (h1 : ∀ a kv, R a kv → kv.1 = Sum.inr a.1) (v : Str) : (rowOf f v = none ∧ valV kvs (Sum.inr v) = none) ∨ ∃ r kv, rowOf f v = some r ∧ valV kvs (Sum.inr v) = some kv.2 ∧ R (v, r) kv := by
  induction p with
  | nil => exact .inl ⟨rfl, rfl⟩
  | @cons a kv f kvs r _ ih =>
    by_cases e : a.1 = v
    · refine .inr ⟨a.2, kv, ?_, valV_pos ((h1 _ _ r).trans (congrArg Sum.inr e)), by rw [← e]; exact r⟩
      unfold rowOf
      rw [List.find?_cons, decide_eq_true e]
      rfl
    · have q1 : rowOf (a :: f) v = rowOf f v := by
        unfold rowOf
        rw [List.find?_cons, decide_eq_false e]
      have q2 : valV (kv :: kvs) (Sum.inr v) = valV kvs (Sum.inr v) := valV_neg fun z => e (Sum.inr.inj ((h1 _ _ r).symm.trans z))
      rw [q1, q2]
      exact ih
theorem paired_snoc {α β : Type} {R : α → β → Prop} {l : List α} {r : List β} {a : α} {b : β} (p : Paired R l r) (h : R a b) : Paired R (l ++ [a]) (r ++ [b]) := by
  induction p with
  | nil => exact .cons h .nil
  | cons x _ ih => exact .cons x ih
/-- the state within the two loops -/
structure StI (K : PySem.W.Frag) (H : Hp) (d : ThD) (t nl fl p wl ll : Addr) (b : Str) (fnd : Fnd) (ws : List Str) (st : Fnd × List Str) (o7 o8 o9 : Option V) (σ : L2.St) (H4 : Hp) : Prop where
  sl : σ = [some (.ref t), some (.str b), some (.ref nl), some (.ref fl), some (.ref p), some (.ref wl), some (.ref ll), o7, o8, o9]
  ex : Ex H H4
  wt : H4 wl = some (.lst (ws.map V.str))
  fd : FD K H4 p st.1
  ok : FOk d st.1
  lt : H4 ll = some (.lst (st.2.map V.str))
  old : ∀ v ∈ fnd.map (·.1), v ∈ st.1.map (·.1)
  new : ∀ g ∈ st.2, g ∈ st.1.map (·.1)
  len : st.1.length = fnd.length + st.2.length
section
variable {P : Program} {w : World} {K : PySem.W.Frag} {mg : Str → Option Value} {base : Heap} {f C : Addr} {fd : FuncData}
theorem scRowsFrom : FnScope ["thing", "begin", "names", "is_let", "found", "waiting", "later", "worth", "name", "goal"] ["thing", "begin", "names", "is_let"] (defScope sRowsFrom) := ⟨rfl, rfl, rfl, by decide +kernel, rfl, by decide +kernel, by decide +kernel⟩
theorem ok_rows_from (F : FnP K "rows_from" sRowsFrom f fd) (FL : Has P w K mg base "led_to" 1 ["thing", "worth", "name"] (spLedTo C)) : FnOk P w K mg base CX0 2 f fd ["thing", "begin", "names", "is_let"] (spRowsFrom P w K mg base C) := by
  refine F.ok scRowsFrom (fun vs H Q E h => ?_) (fun cdv A outer s H vs Q E hr h => ?_)
  · obtain ⟨t, d, b, nl, ns, fl, G, rfl, _⟩ := h
    rfl
  · have hu := hu_of hr
    refine ⟨_, PSs.nox (pss_cons (ps_par (i := 4) (j := 5) rfl scRowsFrom.nd rfl rfl (by decide) rfl rfl (pa_cons (pe_disp (pps_cons (pv 1) (pe_tup pa_nil) pps_nil) rfl rfl (by simp) (by decide)) (pa_cons (pe_lst (pa_cons (pv 1) pa_nil)) pa_nil)) rfl)
      (pss_cons (ps_while PassesOwn.never (pt_cmpR (op_neD hr.units) (pv 5) (pe_lst pa_nil) (nomark _))
        (pss_cons (ps_set (i := 6) scRowsFrom.nd rfl (.inl rfl) (pe_lst pa_nil))
        (pss_cons (ps_for PassesOwn.never rfl (pi_list (pv 5)) (pg_name (i := 7) scRowsFrom.nd rfl (.inl rfl))
          (pss_one (ps_for PassesOwn.never rfl (pi_list (pv 2)) (pg_name (i := 8) scRowsFrom.nd rfl (.inl rfl))
            (pss_cons (ps_set (i := 9) scRowsFrom.nd rfl (.inl rfl) (pe_has FL hr (by decide) rfl (pa_cons (pv 0) (pa_cons (pv 7) (pa_cons (pv 8) pa_nil)))))
            (pss_one (ps_if (PW.pt (pw_and (pt_cmp (pc_notN (pv 9))) (pw_and (pt_cmp (pc_dnotin hu (pv 9) (pv 4))) (pw_and1 (pt_val (pe_lcall (i := 3) (LK := fun F sp => LTrue P w K mg base F ∧ sp = fun vs H Q _ => ∃ v, vs = [v] ∧ Q (.bl true) H) (fun F sp ⟨h, e⟩ => by rw [e]; exact h) hr pass0 rfl (.inl rfl) (pa_cons (pv 9) pa_nil)))))))
              (pss_cons (ps_dput hu (pv 4) (pv 9) (pe_op op_catN (pe_dget hu (pv 4) (pv 7) (fun _ _ => rfl)) (pe_tup (pa_cons (pv 8) pa_nil))) rfl)
              (pss_one (ps_expr (pe_bm PySem.F.plainAttrs_list PySem.F.slot_list_append PySem.F.type_list_append mt_append (pv 6) (pa_cons (pv 9) pa_nil))))) pss_nil))))))
        (pss_one (ps_set (i := 5) scRowsFrom.nd rfl (.inl rfl) (pv 6))))))
      (pss_one (ps_ret (pv 4))))), ?_⟩
    obtain ⟨t, d, b, nl, ns, fl, G, rfl, th, dk, hb, sn, len, own, lam, lt, hQ⟩ := h
    refine fun p np => ⟨.str b, rfl, Nat.zero_le _, fun tp ntp => ⟨?_, [(.inr b, .ref tp)], rfl, by show 1 ≤ 15; decide, ?_⟩⟩
    · exact (upd_ne (ne_new ntp).symm).trans upd_same
    have x0 : Ex H (upd (upd H p (.dK [])) tp (.tup [])) := (Ex.new np).trans (Ex.new ntp)
    have x1 : Ex H (upd (upd (upd H p (.dK [])) tp (.tup [])) p (.dK (mergeK [] [(.inr b, .ref tp)]))) := fun c o e => (upd_ne (fun z => by rw [z, np] at e; cases e)).trans (x0 _ _ e)
    have hp1 : upd (upd (upd H p (.dK [])) tp (.tup [])) p (.dK (mergeK [] [(.inr b, .ref tp)])) p = some (.dK [(.inr b, .ref tp)]) := upd_same
    have ht1 : upd (upd (upd H p (.dK [])) tp (.tup [])) p (.dK (mergeK [] [(.inr b, .ref tp)])) tp = some (.tup []) := (upd_ne (ne_new ntp)).trans upd_same
    generalize upd (upd (upd H p (.dK [])) tp (.tup [])) p (.dK (mergeK [] [(.inr b, .ref tp)])) = Hd at x1 hp1 ht1 ⊢
    refine ⟨.str b, rfl, by show 1 ≤ sizeLine; decide, fun wl nwl => ⟨_, _, rfl, ?_⟩⟩
    have xw : Ex Hd (upd Hd wl (.lst [.str b])) := Ex.new nwl
    refine ⟨RInv K H d ns t nl fl p b, ⟨_, [(b, [])], [b], wl, none, none, none, none, rfl, x1.trans xw, ⟨_, xw _ _ hp1, .cons ⟨rfl, tp, rfl, .inl (.inl (xw _ _ ht1))⟩ .nil⟩, ?_, upd_same, x1.none nwl, (fun z => by rw [z, hp1] at nwl; cases nwl), fun g hg => hg, by show 1 ≤ 10; decide, rfl, fun f' r => r⟩, fun m σ H2 h => ?_⟩
    · exact ⟨by simp, fun q hq => by rw [List.mem_singleton.mp hq]; exact hb, fun q hq => by rw [List.mem_singleton.mp hq]; exact Nat.zero_le _⟩
    obtain ⟨fnd, ws, wl, o6, o7, o8, o9, rfl, x2, hf, fk, hwl, nwl, wlp, wk, wlen, em, back⟩ := h
    refine ⟨.ref wl, rfl, Nat.zero_le _, fun e ne => ⟨.list (ws.map PyData.str), .list [], .lst (.inl (.inl ((Ex.new ne) _ _ hwl))) (dp_strs ws), .lst (.inl (.inl upd_same)) .nil, shaped_strs (fun v m => dk.txt v (fk.has (wk v m))), rfl, _, rfl, ?_⟩⟩
    rw [eqv_nil]
    have xe : Ex H2 (upd H2 e (.lst [])) := Ex.new ne
    have hf2 := hf.ex xe
    have hwl2 := xe _ _ hwl
    have x3 := x2.trans xe
    have pe : e ≠ p := fun z => by
      obtain ⟨_, q, _⟩ := hf
      rw [z, q] at ne
      cases ne
    generalize upd H2 e (.lst []) = H3 at xe hf2 hwl2 x3 ⊢
    cases ws with
    | nil => exact ⟨.ref p, rfl, hQ p H3 fnd x3 np hf2 fk (back _ (.nil _))⟩
    | cons w0 wr =>
      generalize hws : w0 :: wr = ws at *
      have wne : ws ≠ [] := by rw [← hws]; exact fun z => nomatch z
      rw [decide_eq_false wne]
      refine ⟨fun σ' H' => ∃ m', m' < m ∧ RInv K H d ns t nl fl p b m' σ' H', fun σ' H' h => h, Nat.zero_le _, fun ll nll => ?_⟩
      have xl : Ex H3 (upd H3 ll (.lst [])) := Ex.new nll
      have lp : ll ≠ p := fun z => by
        obtain ⟨_, q, _⟩ := hf2
        rw [z, q] at nll
        cases nll
      have lw : ll ≠ wl := fun z => by rw [z, hwl2] at nll; cases nll
      have nlH : H ll = none := x3.none nll
      refine ⟨.ref wl, rfl, wl, rfl, ⟨_, .inl (.inl (xl _ _ hwl2))⟩, for_list (K := K) (xs := ws.map V.str) (fun i σ H4 => ∃ o7 o8 o9, StI K H d t nl fl p wl ll b fnd ws ((ws.take i).foldl (wStep d ns) (fnd, [])) o7 o8 o9 σ H4)
        ⟨_, _, _, rfl, x3.trans xl, xl _ _ hwl2, hf2.ex xl, fk, upd_same, fun v m => m, fun g m => (nomatch m), rfl⟩ (fun i σ H4 _ ⟨_, _, _, h⟩ => .inl (.inl h.wt)) (fun i v σ H4 hv h => ?_) fun σ H4 h => ?_⟩
      · obtain ⟨o7, o8, o9, S⟩ := h
        rw [List.getElem?_map] at hv
        obtain ⟨wd, ew, rfl⟩ := Option.map_eq_some_iff.mp hv
        have et : (ws.take (i + 1)).foldl (wStep d ns) (fnd, []) = wStep d ns ((ws.take i).foldl (wStep d ns) (fnd, [])) wd := by
          rw [List.take_add_one, ew, List.foldl_append]
          rfl
        rw [et]
        generalize (ws.take i).foldl (wStep d ns) (fnd, []) = st at S ⊢
        have wv : wd ∈ st.1.map (·.1) := S.old _ (wk _ (List.mem_of_getElem? ew))
        obtain rfl := S.sl
        refine ⟨.ref nl, rfl, nl, rfl, ⟨_, S.ex.sqL sn⟩, for_list (K := K) (xs := ns.map V.str) (fun j σ H5 => ∃ o8 o9, StI K H d t nl fl p wl ll b fnd ws ((ns.take j).foldl (nStep d wd) st) (some (.str wd)) o8 o9 σ H5)
          ⟨_, _, rfl, S.ex, S.wt, S.fd, S.ok, S.lt, S.old, S.new, S.len⟩ (fun j σ H5 _ ⟨_, _, h⟩ => h.ex.sqL sn) (fun j v σ H5 hv h => ?_) fun σ H5 h => ?_⟩
        · obtain ⟨o8, o9, T⟩ := h
          rw [List.getElem?_map] at hv
          obtain ⟨n, en, rfl⟩ := Option.map_eq_some_iff.mp hv
          have et : (ns.take (j + 1)).foldl (nStep d wd) st = nStep d wd ((ns.take j).foldl (nStep d wd) st) n := by
            rw [List.take_add_one, en, List.foldl_append]
            rfl
          rw [et]
          have wj : wd ∈ ((ns.take j).foldl (nStep d wd) st).1.map (·.1) := T.old _ (wk _ (List.mem_of_getElem? ew))
          generalize (ns.take j).foldl (nStep d wd) st = sj at T wj ⊢
          have ok := nStep_ok dk (n := n) T.ok wj T.new
          obtain ⟨kvs, hp5, pr⟩ := T.fd
          obtain rfl := T.sl
          have mn : n ∈ ns := List.mem_of_getElem? en
          have way : (∃ l, look d.deeds n = some l ∧ (lookL l wd).isSome = true) ∨ (look d.deeds n = none ∧ (look d.ents n).isSome = true) := by
            cases q : look d.deeds n with
            | some l =>
              obtain ⟨g, _, e⟩ := dk.deeds n l q wd (T.ok.has wj)
              exact .inl ⟨l, rfl, by rw [e]; rfl⟩
            | none =>
              rcases own n mn with z | z
              · rw [q] at z; cases z
              · exact .inr ⟨rfl, z⟩
          refine ⟨.ref t, rfl, .str wd, rfl, .str n, rfl, t, d, wd, n, rfl, th.ex T.ex, way, ?_⟩
          have same : nStep d wd sj n = sj → StI K H d t nl fl p wl ll b fnd ws (nStep d wd sj n) (some (.str wd)) (some (.str n)) (some (optS (d.led wd n))) [some (.ref t), some (.str b), some (.ref nl), some (.ref fl), some (.ref p), some (.ref wl), some (.ref ll), some (.str wd), some (.str n), some (optS (d.led wd n))] H5 := fun z => by
            rw [z]
            exact ⟨rfl, T.ex, T.wt, ⟨kvs, hp5, pr⟩, T.ok, T.lt, T.old, T.new, T.len⟩
          cases eg : d.led wd n with
          | none =>
            refine ⟨.non, rfl, ?_⟩
            have z : nStep d wd sj n = sj := by
              unfold nStep
              rw [eg]
            have q := same z
            rw [eg] at q
            exact ⟨false, rfl, _, _, q⟩
          | some g =>
            refine ⟨.str g, rfl, true, rfl, .str g, rfl, .ref p, rfl, p, _, rfl, DGet.k (k := Sum.inr g) hp5, _, rfl, ?_⟩
            rcases row_val pr (fun _ _ r => r.1) g with ⟨r1, r2⟩ | ⟨r, kv, r1, r2, _⟩
            · rw [r2]
              refine ⟨fl, G, _, rfl, IsLam.ex T.ex lam, ⟨lt, rfl⟩, .str g, rfl, IsLam.ex T.ex lam, .str g, rfl, true, rfl, ?_⟩
              obtain ⟨row, q1, q2⟩ | ⟨row, kv, q1, q2, q3, rb, q4, q5⟩ : (∃ row : List Str, False ∧ True) ∨ ∃ (row : List Str) (kv : Key × V), rowOf sj.1 wd = some row ∧ valV kvs (Sum.inr wd) = some kv.2 ∧ kv.1 = Sum.inr wd ∧ ∃ rb, kv.2 = .ref rb ∧ SqT K H5 rb (row.map V.str) := by
                rcases row_val pr (fun _ _ r => r.1) wd with ⟨z, _⟩ | ⟨row, kv, z1, z2, z3, rb, z4, z5⟩
                · obtain ⟨_, z'⟩ := rowOf_mem wj
                  rw [z] at z'
                  cases z'
                · exact .inr ⟨row, kv, z1, z2, z3, rb, z4, z5⟩
              · exact q1.elim
              have rl := T.ok.row _ (rowOf_some q1)
              have sl := T.ok.len
              have vl := dk.few
              have rl' : row.length ≤ sj.1.length := rl
              refine ⟨.ref p, rfl, .str wd, rfl, p, .ref rb, rfl, (q2.trans (congrArg some q4)) ▸ DGet.k (k := Sum.inr wd) hp5, .str n, rfl, by show 1 ≤ sizeLine; decide, fun nt nnt => ?_⟩
              have xn : Ex H5 (upd H5 nt (.tup [.str n])) := Ex.new nnt
              refine ⟨rb, nt, row.map V.str, [.str n], rfl, rfl, xn.sqT q5, .inl (.inl upd_same), by rw [sizeLine_eq, List.length_map]; simp only [List.length_cons, List.length_nil]; omega, fun r6 H6 x6 s6 => ?_⟩
              have x56 := xn.trans x6
              have hp6 := x56 _ _ hp5
              have hl6 := x56 _ _ T.lt
              have hw6 := x56 _ _ T.wt
              have kl : kvs.length = sj.1.length := (Paired.length pr).symm
              refine ⟨.ref p, rfl, .str g, rfl, p, _, rfl, DPut.k (k := Sum.inr g) hp6 (by rw [sizeLine_eq]; omega), ?_⟩
              rw [putK_new _ r2]
              have hl7 : upd H6 p (.dK (kvs ++ [(Sum.inr g, .ref r6)])) ll = some (.lst (sj.2.map V.str)) := (upd_ne lp).trans hl6
              refine ⟨.ref ll, rfl, .inl ⟨rfl, _, .inl (.inl hl7)⟩, .str g, rfl, ll, _, .str g, rfl, rfl, hl7, by rw [sizeLine_eq, List.length_map]; have := T.len; omega, ?_⟩
              have es : nStep d wd sj n = (sj.1 ++ [(g, row ++ [n])], sj.2 ++ [g]) := by
                unfold nStep
                rw [eg]
                dsimp only
                rw [r1, q1]
                rfl
              rw [es] at ok ⊢
              obtain ⟨k1, k2, k3, k4, k5, k6⟩ := ok
              have keep : ∀ (a : Addr) (xs : List V), SqT K H6 a xs → SqT K (upd (upd H6 p (.dK (kvs ++ [(Sum.inr g, .ref r6)]))) ll (.lst (sj.2.map V.str ++ [.str g]))) a xs := fun a xs z => sqT_put hl7 (fun _ z => nomatch z) (fun _ _ z => nomatch z) (sqT_put hp6 (fun _ z => nomatch z) (fun _ _ z => nomatch z) z)
              refine ⟨_, _, rfl, fun c o e => ?_, (upd_ne lw.symm).trans ((upd_ne wlp).trans hw6), ⟨_, (upd_ne lp.symm).trans upd_same, paired_snoc (Paired.mapP pr fun _ _ ⟨e1, c, e2, e3⟩ => ⟨e1, c, e2, keep _ _ (x56.sqT e3)⟩) ⟨rfl, r6, rfl, keep _ _ (by rw [List.map_append]; exact s6)⟩⟩, k1, ?_, fun v m => k2 v (T.old v m), k3, ?_⟩
              · have n1 : c ≠ ll := fun z => by rw [z, nlH] at e; cases e
                have n2 : c ≠ p := fun z => by rw [z, np] at e; cases e
                exact (upd_ne n1).trans ((upd_ne n2).trans (x56 _ _ (T.ex _ _ e)))
              · rw [upd_same, List.map_append]
                rfl
              · have := T.len
                simp only [List.length_append, List.length_cons, List.length_nil]
                omega
            · rw [r2]
              have z : nStep d wd sj n = sj := by
                unfold nStep
                rw [eg]
                dsimp only
                rw [r1]
              have q := same z
              rw [eg] at q
              exact ⟨_, _, q⟩
        · obtain ⟨o8, o9, T⟩ := h
          rw [List.length_map, List.take_length] at T
          exact ⟨_, _, _, T⟩
      · obtain ⟨o7, o8, o9, S⟩ := h
        rw [List.length_map, List.take_length] at S
        obtain ⟨es, x4, w4, f4, k4, l4, s4, g4, n4⟩ := S
        subst es
        refine ⟨.ref ll, rfl, _, ?_, _, _, ll, _, _, _, _, rfl, x4, f4, k4, l4, nlH, lp, g4, ?_, rfl, fun f' r => back f' (.step wne r)⟩
        · have fl1 := k4.len
          rw [em, if_neg wne]
          by_cases z : (ws.foldl (wStep d ns) (fnd, [])).2 = []
          · rw [if_pos z]
            have : (ws.foldl (wStep d ns) (fnd, [])).2.length = 0 := by rw [z]; rfl
            omega
          · rw [if_neg z]
            have : 0 < (ws.foldl (wStep d ns) (fnd, [])).2.length := List.length_pos_iff.mpr z
            omega
        · have fl1 := k4.len
          have := dk.few
          omega
end
end TH

/-! A9: check_entry, checked_names, where they let by -/
namespace TH
open PySem PySem.Spec PyProof.Rows L2
/-- a statement that is never come to -/
theorem ps_dead {X : Cx} {st : Stmt} : PS X st (fun _ _ _ => False) := ⟨fun _ _ _ _ _ _ h => h.elim⟩
def spCheckEntry (K : PySem.W.Frag) (C : Addr) : Sp := fun vs H Q _ => ∃ (t : Addr) (d : ThD) (x : Str), vs = [.ref t, .str x] ∧ IsTh H C t d ∧ okS x = true ∧ (look d.ents x).isSome = true ∧ ∀ H', Ex H H' → Q .non H'
theorem okS_len {x : Str} (h : okS x = true) : x.length ≤ 8 := by
  unfold okS at h
  simp only [Bool.and_eq_true, decide_eq_true_eq] at h
  exact h.2.1
theorem str_kd {K : PySem.W.Frag} {H : Hp} {x : Str} (h : x.length ≤ 1000) : Kd K H (.str x) "str" := ⟨by decide, .base (.str x), fun y e => by cases e; exact h⟩
def spCheckedNames (K : PySem.W.Frag) : Sp := fun vs H Q _ => ∃ (a kl : Addr) (xs ks : List Str), vs = [.ref a, .ref kl] ∧ Sq K H a (xs.map V.str) ∧ SqL K H kl (ks.map V.str) ∧ xs.length ≤ 60 ∧ (∀ x ∈ xs, okS x = true) ∧ xs.Nodup ∧ (∀ x ∈ xs, x ∈ ks) ∧ ∀ (p : Addr) (H' : Hp), Ex H H' → H p = none → H' p = some (.lst (xs.map V.str)) → Q (.ref p) H'
theorem inV_strs (x : Str) (xs : List Str) : inV (.str x) (xs.map V.str) = decide (x ∈ xs) := by
  induction xs with
  | nil => rfl
  | cons y r ih =>
    have e : inV (.str x) ((y :: r).map V.str) = (eqV (.str y) (.str x) || inV (.str x) (r.map V.str)) := rfl
    rw [e, ih]
    have e2 : eqV (.str y) (.str x) = decide (y = x) := by
      show (y == x) = _
      by_cases z : y = x
      · subst z; simp
      · rw [decide_eq_false z]; exact beq_eq_false_iff_ne.mpr z
    rw [e2]
    by_cases z : y = x
    · simp [z]
    · have z' : ¬ x = y := fun q => z q.symm
      simp [z, z']
theorem fbw_none : ∀ (xs met : List Str) (i : Nat), (∀ x ∈ xs, okS x = true) → xs.Nodup → (∀ x ∈ xs, x ∉ met) → fbw (xs.map V.str) (met.map V.str) i = none
  | [], _, _, _, _, _ => rfl
  | x :: r, met, i, h, nd, nm => by
    have e : fbw ((x :: r).map V.str) (met.map V.str) i = if (!isWd (.str x) || inV (.str x) (met.map V.str)) = true then some i else fbw (r.map V.str) (met.map V.str ++ [.str x]) (i + 1) := rfl
    have n1 : isWd (.str x) = true := h x List.mem_cons_self
    rw [e, n1, inV_strs, decide_eq_false (nm x List.mem_cons_self), if_neg (by simp)]
    have q := fbw_none r (met ++ [x]) (i + 1) (fun y m => h y (List.mem_cons_of_mem _ m)) (List.nodup_cons.mp nd).2 fun y m z => by
      rcases List.mem_append.mp z with z | z
      · exact nm y (List.mem_cons_of_mem _ m) z
      · rw [List.mem_singleton.mp z] at m
        exact (List.nodup_cons.mp nd).1 m
    rw [List.map_append] at q
    exact q
section
variable {P : Program} {w : World} {K : PySem.W.Frag} {mg : Str → Option Value} {base : Heap} {f C : Addr} {fd : FuncData}
/-- an expression that is never come to -/
theorem pe_dead {X : Cx} {e : Expr} : PE X e (fun _ _ _ => False) := ⟨fun _ _ _ _ _ _ h => h.elim⟩
end
end TH

/-! A10: first_open, where it lets by -/
namespace TH
open PySem PySem.Spec PyProof.Rows L2 LamV LamX XK0
theorem Ex.extN {H H' : Hp} (x : Ex H H') : ExtN H H' := fun b o e _ => x b o e
theorem Ex.tabs {H H' : Hp} {T : List (Addr × Str)} (x : Ex H H') (t : Tabs T H) : Tabs T H' := t.ext x
theorem extN_lst {H H' : Hp} {a : Addr} {xs : List V} (x : ExtN H H') (h : H a = some (.lst xs)) : H' a = some (.lst xs) := x _ _ h fun _ z => (nomatch z)
theorem extN_sqL {K : PySem.W.Frag} {H H' : Hp} {a : Addr} {xs : List V} (x : ExtN H H') (h : SqL K H a xs) : SqL K H' a xs := h.imp (Or.imp (fun z => x _ _ z fun _ q => (nomatch q)) fun ⟨o, z⟩ => ⟨o, x _ _ z fun _ q => (nomatch q)⟩) id
theorem DD.exN {H H' : Hp} {a : Addr} {ls : Lds} (x : ExtN H H') (h : DD H a ls) : DD H' a ls := by
  obtain ⟨kvs, e, p⟩ := h
  exact ⟨kvs, x _ _ e fun _ q => (nomatch q), Paired.mapP p fun _ _ ⟨e1, b, e2, e3⟩ => ⟨e1, b, e2, x _ _ e3 fun _ q => (nomatch q)⟩⟩
theorem IsTh.exN {H H' : Hp} {C t : Addr} {d : ThD} (x : ExtN H H') (h : IsTh H C t d) : IsTh H' C t d := by
  obtain ⟨dx, vt, dd, de, e1, e2, e3, e4⟩ := h
  exact ⟨dx, vt, dd, de, x _ _ e1 fun _ q => (nomatch q), x _ _ e2 fun _ q => (nomatch q), e3.exN x, e4.exN x⟩
/-- the first row found whose value is led on -/
def firstIn (l : Ld) (f : Fnd) : Option (List Str) := (f.find? fun p => (lookL l p.1).isSome).map (·.2)
/-- nothing but a table stood there -/
def NewP (H : Hp) (p : Addr) : Prop := ∀ o, H p = some o → (∀ ps, o ≠ .tbl ps) → False
abbrev lamQ : Str := ("first_open" : Str) ++ ".<locals>." ++ "<lambda>"
def spFirstOpen (K : PySem.W.Frag) (C : Addr) (T : List (Addr × Str)) : Sp := fun vs H Q _ => ∃ (t a : Addr) (d : ThD) (x : Str) (xs : List Str) (l : Ld), vs = [.ref t, .str x, .ref a] ∧ IsTh H C t d ∧ d.Ok ∧ okS x = true ∧ look d.ents x = some l ∧ Sq K H a (xs.map V.str) ∧ xs.length ≤ 60 ∧ d.names.length < 60 ∧ (∀ y ∈ xs, okS y = true) ∧ xs.Nodup ∧ (∀ y ∈ xs, y ∈ d.names) ∧ Tabs T H ∧
  ∀ (ys : List Str) (f : Fnd), ys.Perm xs → sortedS ys = true → Run d ys [(d.start, [])] [d.start] f →
    (∀ H', ExtN H H' → Tabs T H' → firstIn l f = none → Q .non H') ∧ ∀ (row : List Str) (p : Addr) (H' : Hp), ExtN H H' → Tabs T H' → firstIn l f = some row → NewP H p → H' p = some (.lst (row.map V.str)) → Q (.ref p) H'
theorem look_mem {ls : Lds} {n : Str} (h : n ∈ ls.map (·.1)) : (look ls n).isSome = true := by
  obtain ⟨p, hp, rfl⟩ := List.mem_map.mp h
  unfold look
  rw [Option.isSome_map]
  exact List.find?_isSome.mpr ⟨p, hp, by simp⟩
theorem names_look {d : ThD} {n : Str} (h : n ∈ d.names) : (look d.deeds n).isSome = true ∨ (look d.ents n).isSome = true := by
  unfold ThD.names at h
  rcases List.mem_append.mp h with h | h
  · exact .inl (look_mem h)
  · exact .inr (look_mem h)
theorem paired_get {α β : Type} {R : α → β → Prop} {l : List α} {r : List β} (p : Paired R l r) : ∀ {i : Nat} {y : β}, r[i]? = some y → ∃ x, l[i]? = some x ∧ R x y := by
  induction p with
  | nil => intro i y h; simp at h
  | cons x _ ih =>
    intro i y h
    cases i with
    | zero => simp at h; subst h; exact ⟨_, rfl, x⟩
    | succ i =>
      obtain ⟨z, e, q⟩ := ih (by simpa using h)
      exact ⟨z, by simpa using e, q⟩
theorem firstIn_step {l : Ld} {f : Fnd} {i : Nat} {p : Str × List Str} (h : f[i]? = some p) : firstIn l (f.drop i) = if (lookL l p.1).isSome = true then some p.2 else firstIn l (f.drop (i + 1)) := by
  obtain ⟨lt, e⟩ := List.getElem?_eq_some_iff.mp h
  rw [List.drop_eq_getElem_cons lt, e]
  unfold firstIn
  rw [List.find?_cons]
  cases (lookL l p.1).isSome <;> rfl
theorem lt_true {P : Program} {w : World} {K : PySem.W.Frag} {mg : Str → Option Value} {base : Heap} {q x : Str} {params : Arguments} {scope : Scope} {j : Nat} {pos : Pos} (S : NdefX.NScope [x] [x] [] scope)
    (bd : ∀ (pm cv ctv : Value) (us : List Value), us.length = [x].length → bindArgs (PySem.W.kla_fn "<lambda>" q params (.Constant (.bool true) j pos) scope [] pm cv ctv) ⟨us, []⟩ = pure ([x].zip us)) : LTrue P w K mg base ⟨q, params, .Constant (.bool true) j pos, scope⟩ := by
  refine lok_of (k := 0) (ps := [x]) S bd (fun vs H Q E z => ?_) fun f c A outer s H vs Q E hr z => ?_
  · obtain ⟨v, rfl, _⟩ := z
    rfl
  · obtain ⟨v, rfl, q⟩ := z
    exact ⟨_, pe_bl, q⟩
section
variable {P : Program} {w : World} {K : PySem.W.Frag} {mg : Str → Option Value} {base : Heap} {f C c Pt : Addr} {fd : FuncData} {T : List (Addr × Str)}
end
end TH

/-! A11: _law_spring, _law_take, _law_one -/
namespace TH
open PySem PySem.Spec PyProof.Rows L2 LamV LamX XK0
abbrev sSpring : Stmt := top 43
abbrev sTake : Stmt := top 44
abbrev sOne : Stmt := top 45
/-- the spring: what is left of the script, the cell in use, how many were taken, the mixed number -/
structure Spg (H : Hp) (sp l : Addr) (ns : List Int) (a m : Int) (n : Nat) : Prop where
  hs : H sp = some (.lst [.ref l, .int a, .int n, .int m])
  hl : H l = some (.lst (ns.map V.int))
  ne : sp ≠ l
  a0 : 0 ≤ a
  m0 : 0 ≤ m
  m1 : m < 2147483647
def Spr (H : Hp) (sp l : Addr) (n : Nat) : Prop := ∃ ns a m, Spg H sp l ns a m n
/-- nothing but the spring is changed -/
def ExS (sp l : Addr) (H H' : Hp) : Prop := ∀ b o, b ≠ sp → b ≠ l → H b = some o → H' b = some o
theorem ExS.refl {sp l : Addr} {H : Hp} : ExS sp l H H := fun _ _ _ _ h => h
theorem ExS.trans {sp l : Addr} {H H1 H2 : Hp} (x : ExS sp l H H1) (y : ExS sp l H1 H2) : ExS sp l H H2 := fun b o h1 h2 e => y b o h1 h2 (x b o h1 h2 e)
theorem Ex.exS {sp l : Addr} {H H' : Hp} (x : Ex H H') : ExS sp l H H' := fun b o _ _ e => x b o e
theorem ExS.updS {sp l : Addr} {H : Hp} {o : HO} : ExS sp l H (upd H sp o) := fun _ _ h1 _ e => (upd_ne h1).trans e
theorem ExS.updL {sp l : Addr} {H : Hp} {o : HO} : ExS sp l H (upd H l o) := fun _ _ _ h2 e => (upd_ne h2).trans e
theorem Spg.ex {H H' : Hp} {sp l : Addr} {ns : List Int} {a m : Int} {n : Nat} (x : Ex H H') (h : Spg H sp l ns a m n) : Spg H' sp l ns a m n := ⟨x _ _ h.hs, x _ _ h.hl, h.ne, h.a0, h.m0, h.m1⟩
theorem Spr.ex {H H' : Hp} {sp l : Addr} {n : Nat} (x : Ex H H') : Spr H sp l n → Spr H' sp l n := fun ⟨ns, a, m, h⟩ => ⟨ns, a, m, h.ex x⟩
/-- what is free now was free before -/
theorem ExS.none {sp l p : Addr} {H H' : Hp} {n k : Nat} (x : ExS sp l H H') (s : Spr H' sp l k) (h : H' p = none) : H p = none := by
  obtain ⟨_, _, _, s⟩ := s
  cases q : H p with
  | none => rfl
  | some o =>
    rw [x p o (fun z => by rw [z, s.hs] at h; cases h) (fun z => by rw [z, s.hl] at h; cases h) q] at h
    cases h
theorem dp_ints {K : PySem.W.Frag} {H : Hp} : ∀ ns : List Int, DpAll K H (ns.map V.int) (ns.map PyData.int)
  | [] => .nil
  | i :: r => .cons (.int i) (dp_ints r)
theorem lay_ints : ∀ ns : List Int, PyData.canLayAll0 (ns.map PyData.int) = true ∧ PyData.depthAll (ns.map PyData.int) = 0
  | [] => ⟨rfl, rfl⟩
  | i :: r => by
    obtain ⟨a, b⟩ := lay_ints r
    refine ⟨?_, ?_⟩
    · show (PyData.canLay0 (.int i) && PyData.canLayAll0 (r.map PyData.int)) = true
      rw [a]
      rfl
    · show max (PyData.depth (.int i)) (PyData.depthAll (r.map PyData.int)) = 0
      rw [b]
      rfl
theorem shaped_ints (ns : List Int) : SeqAt.shaped (.list (ns.map PyData.int)) = true := by
  obtain ⟨a, b⟩ := lay_ints ns
  have e1 : PyData.canLay0 (.list (ns.map PyData.int)) = PyData.canLayAll0 (ns.map PyData.int) := by unfold PyData.canLay0; rfl
  have e2 : PyData.depth (.list (ns.map PyData.int)) = PyData.depthAll (ns.map PyData.int) + 1 := by unfold PyData.depth; rfl
  unfold SeqAt.shaped
  rw [e1, a, e2, b]
  decide
theorem eqv_nilI (ns : List Int) : PyData.eqv (.list (ns.map PyData.int)) (.list []) = decide (ns = []) := by
  cases ns with
  | nil => rfl
  | cons w r => rfl
def spTake : Sp := fun vs H Q _ => ∃ (sp l : Addr) (k : Int) (n : Nat), vs = [.ref sp, .int k] ∧ Spr H sp l n ∧ n < 1000000 ∧ 1 ≤ k ∧ k ≤ 1000 ∧ ∀ (d : Nat) (H' : Hp), (d : Int) < k → ExS sp l H H' → Spr H' sp l (n + 1) → Q (.int d) H'
/-- at each turn of the while -/
def TInv (H : Hp) (sp l : Addr) (k : Int) (n c : Nat) (σ : L2.St) (H2 : Hp) : Prop := ∃ (ns : List Int) (a m : Int) (o2 : Option V), σ = [some (.ref sp), some (.int k), o2, none, none] ∧ ExS sp l H H2 ∧ Spg H2 sp l ns a m (n + 1) ∧ c = ns.length
theorem tand_go {t u : TT} {σ : L2.St} {H : Hp} {Q : Bool → Hp → Prop} {N : Hp → Prop} (c e : Bool) (ht : ∀ Q, Q c H → t σ H Q) (hu : ∀ Q, (∀ H1, N H1 → Q e H1) → u σ H Q) (n0 : N H) (h : ∀ H1, N H1 → Q (c && e) H1) : tAnd t u σ H Q := by
  refine ht _ ?_
  cases c with
  | true => exact hu _ h
  | false => exact h H n0
section
variable {P : Program} {w : World} {K : PySem.W.Frag} {mg : Str → Option Value} {base : Heap} {f : Addr} {fd : FuncData}
theorem scTake : FnScope ["_law_spring_here", "_law_many", "_law_cell", "_law_digit", "_law_mixed"] ["_law_spring_here", "_law_many"] (defScope sTake) := ⟨rfl, rfl, rfl, by decide +kernel, rfl, by decide +kernel, by decide +kernel⟩
theorem ok_take (F : FnP K "_law_take" sTake f fd) (gi : mg "int" = none) (ga : mg "abs" = none) : FnOk P w K mg base CX0 1 f fd ["_law_spring_here", "_law_many"] spTake := by
  refine F.ok scTake (fun vs H Q E h => ?_) (fun cdv A outer s H vs Q E hr h => ?_)
  · obtain ⟨sp, l, k, n, rfl, _⟩ := h
    rfl
  · refine ⟨_, PSs.nox (pss_cons (ps_asg (pe_op op_add (pe_ix ix_list (pv 0) pe_int (fun _ _ => rfl)) pe_int) (pg_sub (pv 0) pe_int set_list))
      (pss_cons (ps_while PassesOwn.never (PW.pt (pw_and (pt_cmp (pc_eqI (pe_ix ix_list (pv 0) pe_int (fun _ _ => rfl)) pe_int)) (pw_and1 (pt_cmpR (op_neD hr.units) (pe_ix ix_list (pv 0) pe_int (fun _ _ => rfl)) (pe_lst pa_nil) (nomark _)))))
        (pss_cons (ps_set (i := 2) scTake.nd rfl (.inl rfl) (pe_callB call_abs rfl ga boot_abs (pa_cons (pe_bm PySem.F.plainAttrs_list PySem.F.slot_list_pop PySem.F.type_list_pop mt_popAt (pe_ix ix_list (pv 0) pe_int (fun _ _ => rfl)) (pa_cons pe_int pa_nil)) pa_nil)))
        (pss_cons (ps_asg (pe_op op_mod (pe_callTy call_int1 rfl gi boot_int (pa_cons (pe_op op_add (pe_op op_add (pe_op op_mul (pe_ix ix_list (pv 0) pe_int (fun _ _ => rfl)) pe_int) (pv 2)) pe_int) pa_nil)) pe_int) (pg_sub (pv 0) pe_int set_list))
        (pss_one (ps_asg (pe_ifExp (pt_cmpR op_ge (pv 2) (pe_op op_pow pe_int pe_int) (nomark _)) (pv 2) pe_int) (pg_sub (pv 0) pe_int set_list))))))
      (pss_cons (ps_if (pt_cmpR op_gt (pe_ix ix_list (pv 0) pe_int (fun _ _ => rfl)) pe_int (nomark _))
        (pss_cons (ps_set (i := 3) scTake.nd rfl (.inl rfl) (pe_op op_mod (pe_callTy call_int1 rfl gi boot_int (pa_cons (pe_ix ix_list (pv 0) pe_int (fun _ _ => rfl)) pa_nil)) (pv 1)))
        (pss_cons (ps_asg (pe_op op_fdiv (pe_ix ix_list (pv 0) pe_int (fun _ _ => rfl)) (pv 1)) (pg_sub (pv 0) pe_int set_list))
        (pss_one (ps_ret (pv 3))))) pss_nil)
      (pss_cons (ps_set (i := 4) scTake.nd rfl (.inl rfl) (pe_op op_mod (pe_callTy call_int1 rfl gi boot_int (pa_cons (pe_op op_pow (pe_op op_add (pe_op op_add (pe_ix ix_list (pv 0) pe_int (fun _ _ => rfl)) (pe_op op_mul pe_int (pe_ix ix_list (pv 0) pe_int (fun _ _ => rfl)))) pe_int) pe_int) pa_nil)) pe_int))
      (pss_one (ps_ret (pe_op op_mod (pe_op op_mod (pe_callTy call_int1 rfl gi boot_int (pa_cons (pe_op op_pow (pe_op op_add (pe_op op_add (pe_op op_mul (pv 4) pe_int) (pe_op op_mul pe_int (pe_ix ix_list (pv 0) pe_int (fun _ _ => rfl)))) pe_int) pe_int) pa_nil)) pe_int) (pv 1)))))))), ?_⟩
    obtain ⟨sp, l, k, n, rfl, ⟨ns, a, m, S⟩, hn, k1, k2, hQ⟩ := h
    have kpos : (0 : Int) < k := by omega
    refine ⟨.ref sp, rfl, sp, _, 2, .int n, rfl, rfl, .inl (.inl S.hs), rfl, n, 1, rfl, rfl, .ref sp, rfl, sp, _, 2, 2, rfl, rfl, S.hs, rfl, ?_⟩
    refine ⟨TInv H sp l k n, ⟨_, ns, a, m, none, rfl, ExS.updS, ⟨upd_same, (upd_ne S.ne.symm).trans S.hl, S.ne, S.a0, S.m0, S.m1⟩, rfl⟩, fun c σ H2 h => ?_⟩
    clear S
    obtain ⟨ns, a, m, o2, rfl, x2, S, rfl⟩ := h
    have sq := fun {H' : Hp} (x : Ex H2 H') => (show SqL K H' sp _ from .inl (.inl (x _ _ S.hs)))
    refine tand_go (N := fun H1 => Ex H2 H1) (decide (a = 0)) (!decide (ns = [])) (fun Q q => ⟨.ref sp, rfl, sp, _, 1, .int a, rfl, rfl, sq Ex.refl, rfl, a, 0, rfl, rfl, _, rfl, q⟩) (fun Q q => ?_) Ex.refl fun H1 x1 => ?_
    · refine ⟨.ref sp, rfl, sp, _, 0, .ref l, rfl, rfl, sq Ex.refl, rfl, Nat.zero_le _, fun e ne => ⟨.list (ns.map PyData.int), .list [], .lst (.inl (.inl ((Ex.new ne) _ _ S.hl))) (dp_ints ns), .lst (.inl (.inl upd_same)) .nil, shaped_ints ns, rfl, _, rfl, ?_⟩⟩
      rw [eqv_nilI]
      exact q _ (Ex.new ne)
    have S1 := S.ex x1
    have x3 : ExS sp l H H1 := x2.trans x1.exS
    clear S sq x2 x1
    have sq : SqL K H1 sp _ := .inl (.inl S1.hs)
    by_cases ha : a = 0 ∧ ns ≠ []
    · obtain ⟨ha, hns⟩ := ha
      rw [decide_eq_true ha, decide_eq_false hns]
      cases ns with
      | nil => exact absurd rfl hns
      | cons i r =>
        refine ⟨fun σ' H' => ∃ m', m' < (i :: r).length ∧ TInv H sp l k n m' σ' H', fun σ' H' h => h, .ref sp, rfl, sp, _, 0, .ref l, rfl, rfl, sq, rfl, .inl ⟨rfl, _, .inl (.inl S1.hl)⟩, l, _, 0, 0, .int i, rfl, rfl, S1.hl, by decide, by decide, seqIndex_of (by decide) (by simp), rfl, i, rfl, ?_⟩
        have c0 : (0 : Int) ≤ (if i < 0 then -i else i) := by split <;> omega
        generalize (if i < 0 then -i else i) = c at c0 ⊢
        have x4 : ExS sp l H (upd H1 l (.lst (r.map V.int))) := x3.trans ExS.updL
        have h4 : upd H1 l (.lst (r.map V.int)) sp = some (.lst [.ref l, .int a, .int ((n + 1 : Nat) : Int), .int m]) := (upd_ne S1.ne).trans S1.hs
        have l4 : upd H1 l (.lst (r.map V.int)) l = some (.lst (r.map V.int)) := upd_same
        rw [show ((i :: r).map V.int).eraseIdx 0 = r.map V.int from rfl]
        generalize upd H1 l (.lst (r.map V.int)) = H4 at x4 h4 l4 ⊢
        refine ⟨.ref sp, rfl, sp, _, 3, .int m, rfl, rfl, .inl (.inl h4), rfl, m, 8191, rfl, rfl, .inr (by decide), .int c, rfl, _, _, rfl, rfl, _, _, rfl, rfl, .inl ⟨_, rfl, _, _, rfl, rfl, (by decide : (0 : Int) < 2147483647), ?_⟩⟩
        have b1 : 0 ≤ (m * 8191 + c + 3) % 2147483647 := Int.emod_nonneg _ (by decide)
        have b2 : (m * 8191 + c + 3) % 2147483647 < 2147483647 := Int.emod_lt_of_pos _ (by decide)
        refine ⟨.ref sp, rfl, sp, _, 3, 3, rfl, rfl, h4, rfl, ?_⟩
        refine ⟨.int c, rfl, 10, 18, rfl, rfl, ⟨by decide, by decide, by decide⟩, _, _, rfl, rfl, _, rfl, ?_⟩
        show (if _ = true then _ else _)
        split
        · exact ⟨.int c, rfl, .ref sp, rfl, sp, _, 1, 1, rfl, rfl, upd_same, rfl, r.length, Nat.lt_succ_self _, r, c, (m * 8191 + c + 3) % 2147483647, _, rfl, (x4.trans ExS.updS).trans ExS.updS, ⟨upd_same, (upd_ne S1.ne.symm).trans ((upd_ne S1.ne.symm).trans l4), S1.ne, c0, b1, b2⟩, rfl⟩
        · exact ⟨.ref sp, rfl, sp, _, 1, 1, rfl, rfl, upd_same, rfl, r.length, Nat.lt_succ_self _, r, 0, (m * 8191 + c + 3) % 2147483647, _, rfl, (x4.trans ExS.updS).trans ExS.updS, ⟨upd_same, (upd_ne S1.ne.symm).trans ((upd_ne S1.ne.symm).trans l4), S1.ne, Int.le_refl 0, b1, b2⟩, rfl⟩
    · rw [show (decide (a = 0) && !decide (ns = [])) = false from by
        by_cases z : a = 0
        · by_cases y : ns = []
          · rw [y]; simp
          · exact absurd ⟨z, y⟩ ha
        · rw [decide_eq_false z]; rfl, if_neg Bool.false_ne_true]
      refine ⟨.ref sp, rfl, sp, _, 1, .int a, rfl, rfl, sq, rfl, a, 0, rfl, rfl, _, rfl, ?_⟩
      by_cases hi : 0 < a
      · show (if decide (0 < a) = true then _ else _)
        rw [if_pos (decide_eq_true hi)]
        refine ⟨.ref sp, rfl, sp, _, 1, .int a, rfl, rfl, sq, rfl, .inl ⟨a, rfl, .int k, rfl, a, k, rfl, rfl, kpos, ?_⟩⟩
        refine ⟨.ref sp, rfl, sp, _, 1, .int a, rfl, rfl, sq, rfl, .int k, rfl, a, k, rfl, rfl, ⟨kpos, by omega⟩, ?_⟩
        refine ⟨.ref sp, rfl, sp, _, 1, 1, rfl, rfl, S1.hs, rfl, .int (a % k), rfl, ?_⟩
        have b1 : 0 ≤ a % k := Int.emod_nonneg _ (by omega)
        rw [show a % k = ((a % k).toNat : Int) from (Int.toNat_of_nonneg b1).symm]
        exact hQ _ _ (by rw [Int.toNat_of_nonneg b1]; exact Int.emod_lt_of_pos _ kpos) (x3.trans ExS.updS) ⟨ns, a / k, m, upd_same, (upd_ne S1.ne.symm).trans S1.hl, S1.ne, Int.ediv_nonneg S1.a0 (by omega), S1.m0, S1.m1⟩
      · show (if decide (0 < a) = true then _ else _)
        rw [if_neg (show ¬ (decide (0 < a) = true) from by simpa using hi)]
        have m0 := S1.m0
        have m1 := S1.m1
        refine ⟨.ref sp, rfl, sp, _, 3, .int m, rfl, rfl, sq, rfl, .ref sp, rfl, sp, _, 2, .int ((n + 1 : Nat) : Int), rfl, rfl, sq, rfl, 7919, _, rfl, rfl, .inl (by decide), m, _, rfl, rfl, _, _, rfl, rfl, _, 5, rfl, rfl, ⟨by decide, by decide, by omega⟩, .inl ⟨_, rfl, _, _, rfl, rfl, (by decide : (0 : Int) < 2147483629), ?_⟩⟩
        have b1 : 0 ≤ (m + 7919 * ((n + 1 : Nat) : Int) + 104729) ^ (5 : Int).toNat % 2147483629 := Int.emod_nonneg _ (by decide)
        have b2 : (m + 7919 * ((n + 1 : Nat) : Int) + 104729) ^ (5 : Int).toNat % 2147483629 < 2147483629 := Int.emod_lt_of_pos _ (by decide)
        have bb : ∀ y : Int, 0 ≤ y → y < 2147483629 → (y * 48271 + 30011 * ((n + 1 : Nat) : Int) + 29).natAbs < 2 ^ 64 := fun y _ _ => by omega
        have bc := bb _ b1 b2
        refine ⟨_, rfl, (m + 7919 * ((n + 1 : Nat) : Int) + 104729) ^ (5 : Int).toNat % 2147483629, 48271, rfl, rfl, .inr (by decide), .ref sp, rfl, sp, _, 2, .int ((n + 1 : Nat) : Int), rfl, rfl, sq, rfl, 30011, _, rfl, rfl, .inl (by decide), _, _, rfl, rfl, _, _, rfl, rfl, _, 3, rfl, rfl, ⟨by decide, by decide, bc⟩, .inl ⟨_, rfl, _, _, rfl, rfl, (by decide : (0 : Int) < 1000000007), .int k, rfl, _, k, rfl, rfl, kpos, ?_⟩⟩
        have fin : ∀ z : Int, Q (.int (z % k)) H1 := fun z => by
          have b3 : 0 ≤ z % k := Int.emod_nonneg _ (by omega)
          rw [show z % k = ((z % k).toNat : Int) from (Int.toNat_of_nonneg b3).symm]
          exact hQ _ _ (by rw [Int.toNat_of_nonneg b3]; exact Int.emod_lt_of_pos _ kpos) x3 ⟨ns, a, m, S1⟩
        exact fin _
end
end TH

/-! A12: _law_spring, _law_one, _law_mix -/
namespace TH
open PySem PySem.Spec PyProof.Rows L2 LamV LamX XK0
abbrev sMix : Stmt := top 46
theorem at_nat {xs : List V} {k : Nat} {y : V} (h : xs[k]? = some y) : atI xs (k : Int) = some y := by
  obtain ⟨lt, _⟩ := List.getElem?_eq_some_iff.mp h
  unfold atI ixN
  rw [if_pos (Int.natCast_nonneg k), if_pos (by omega), Option.bind_some, Int.toNat_natCast]
  exact h
def spSpring (K : PySem.W.Frag) : Sp := fun vs H Q _ => ∃ (a : Addr) (ns : List Int), vs = [.ref a] ∧ SqL K H a (ns.map V.int) ∧ ns.length ≤ sizeLine ∧ ∀ (sp l : Addr) (H' : Hp), Ex H H' → H sp = none → H l = none → Spr H' sp l 0 → Q (.ref sp) H'
def spOne : Sp := fun vs H Q _ => ∃ (sp l t : Addr) (n : Nat) (xs : List V), vs = [.ref sp, .ref t] ∧ Spr H sp l n ∧ n < 1000000 ∧ t ≠ sp ∧ t ≠ l ∧ H t = some (.lst xs) ∧ xs ≠ [] ∧ xs.length ≤ 1000 ∧ ∀ (y : V) (H' : Hp), y ∈ xs → ExS sp l H H' → Spr H' sp l (n + 1) → Q y H'
section
variable {P : Program} {w : World} {K : PySem.W.Frag} {mg : Str → Option Value} {base : Heap} {f : Addr} {fd : FuncData}
theorem scSpring : FnScope ["_law_script"] ["_law_script"] (defScope sSpring) := ⟨rfl, rfl, rfl, by decide +kernel, rfl, by decide +kernel, by decide +kernel⟩
theorem ok_spring (F : FnP K "_law_spring" sSpring f fd) (gl : mg "list" = none) : FnOk P w K mg base CX0 1 f fd ["_law_script"] (spSpring K) := by
  refine F.ok scSpring (fun vs H Q E h => ?_) (fun cdv A outer s H vs Q E hr h => ?_)
  · obtain ⟨a, ns, rfl, _⟩ := h
    rfl
  · refine ⟨_, PSs.nox (pss_one (ps_ret (pe_lst (pa_cons (pe_callTy call_list_of rfl gl boot_list (pa_cons (pv 0) pa_nil)) (pa_cons pe_int (pa_cons pe_int (pa_cons pe_int pa_nil))))))), ?_⟩
    obtain ⟨a, ns, rfl, sq, len, hQ⟩ := h
    refine ⟨.ref a, rfl, a, _, rfl, .inl sq, fun l nl => ⟨by show 4 ≤ sizeLine; decide, fun sp nsp => ?_⟩⟩
    have x1 : Ex H (upd H l (.lst (ns.map V.int))) := Ex.new nl
    refine hQ sp l _ (x1.trans (Ex.new nsp)) (x1.none nsp) nl ⟨ns, 0, 17, upd_same, (Ex.new nsp) _ _ upd_same, ?_, by decide, by decide, by decide⟩
    exact fun z => by rw [z, upd_same] at nsp; cases nsp
theorem scOne : FnScope ["_law_spring_here", "_law_things"] ["_law_spring_here", "_law_things"] (defScope sOne) := ⟨rfl, rfl, rfl, by decide +kernel, rfl, by decide +kernel, by decide +kernel⟩
theorem ok_one (F : FnP K "_law_one" sOne f fd) (FT : Has P w K mg base "_law_take" 1 ["_law_spring_here", "_law_many"] spTake) (gn : mg "len" = none) : FnOk P w K mg base CX0 2 f fd ["_law_spring_here", "_law_things"] spOne := by
  refine F.ok scOne (fun vs H Q E h => ?_) (fun cdv A outer s H vs Q E hr h => ?_)
  · obtain ⟨sp, l, t, n, xs, rfl, _⟩ := h
    rfl
  · refine ⟨_, PSs.nox (pss_one (ps_ret (pe_ix ix_list (pv 1) (pe_has FT hr (by decide) rfl (pa_cons (pv 0) (pa_cons (pe_callB call_len rfl gn boot_len (pa_cons (pv 1) pa_nil)) pa_nil))) (fun _ _ => rfl)))), ?_⟩
    obtain ⟨sp, l, t, n, xs, rfl, S, hn, t1, t2, ht, ne, len, hQ⟩ := h
    have pos : 0 < xs.length := List.length_pos_iff.mpr ne
    refine ⟨.ref t, rfl, .ref sp, rfl, .ref t, rfl, .ref t, xs.length, rfl, .inl ⟨xs, .inl (.inl ht), rfl⟩, sp, l, xs.length, n, rfl, S, hn, by omega, by omega, fun d H' hd x S' => ?_⟩
    have lt : d < xs.length := by omega
    exact ⟨t, xs, d, xs[d], rfl, rfl, .inl (.inl (x _ _ t1 t2 ht)), at_nat (List.getElem?_eq_getElem lt), hQ _ _ (List.getElem_mem lt) x S'⟩
end
end TH

/-! A13: _law_mix -/
namespace TH
open PySem PySem.Spec PyProof.Rows L2 LamV LamX XK0
theorem erase_perm {α : Type} : ∀ {l : List α} {i : Nat} {y : α}, l[i]? = some y → (y :: l.eraseIdx i).Perm l
  | [], _, _, h => by simp at h
  | x :: r, 0, y, h => by
    simp at h
    subst h
    exact List.Perm.refl _
  | x :: r, i + 1, y, h => by
    have ih := erase_perm (l := r) (i := i) (y := y) (by simpa using h)
    exact (List.Perm.swap x y _).trans (ih.cons x)
def spMix (K : PySem.W.Frag) : Sp := fun vs H Q _ => ∃ (sp l t : Addr) (n : Nat) (xs : List V), vs = [.ref sp, .ref t] ∧ Spr H sp l n ∧ n + xs.length < 1000000 ∧ t ≠ sp ∧ t ≠ l ∧ Sq K H t xs ∧ xs.length ≤ 1000 ∧
  ∀ (q : Addr) (ys : List V) (H' : Hp), ExS sp l H H' → Spr H' sp l (n + xs.length) → H q = none → H' q = some (.lst ys) → ys.Perm xs → Q (.ref q) H'
/-- at each turn -/
def MInv (H : Hp) (sp l lf D : Addr) (n : Nat) (xs : List V) (i : Nat) (H2 : Hp) : Prop := ∃ left acc, ExS sp l H H2 ∧ Spr H2 sp l (n + i) ∧ H2 lf = some (.lst left) ∧ H2 D = some (.lst acc) ∧ (acc ++ left).Perm xs ∧ acc.length = i
section
variable {P : Program} {w : World} {K : PySem.W.Frag} {mg : Str → Option Value} {base : Heap} {f : Addr} {fd : FuncData}
theorem scMix : FnScope ["_law_spring_here", "_law_things", "_law_left", "_law_k"] ["_law_spring_here", "_law_things"] (defScope sMix) := ⟨rfl, rfl, rfl, by decide +kernel, rfl, by decide +kernel, by decide +kernel⟩
theorem ok_mix (F : FnP K "_law_mix" sMix f fd) (FT : Has P w K mg base "_law_take" 1 ["_law_spring_here", "_law_many"] spTake) (gn : mg "len" = none) (gl : mg "list" = none) (gr : mg "range" = none) : FnOk P w K mg base CX0 2 f fd ["_law_spring_here", "_law_things"] (spMix K) := by
  refine F.ok scMix (fun vs H Q E h => ?_) (fun cdv A outer s H vs Q E hr h => ?_)
  · obtain ⟨sp, l, t, n, xs, rfl, _⟩ := h
    rfl
  · refine ⟨_, PSs.nox (pss_cons (ps_set (i := 2) scMix.nd rfl (.inr rfl) (pe_callTy call_list_of rfl gl boot_list (pa_cons (pv 1) pa_nil)))
      (pss_one (ps_ret (pe_lc (te := tBM K "list" rPopAt (tVar 2) (tCons (tCall spTake [] E0 (tCons (tVar 0) (tCons (tCB (rLen K) (tCons (tVar 2) tNil)) tNil))) tNil)) (own := [("_law_k", 3)]) rfl scMix.nd (pi_range1 rfl gr (pa_cons (pe_callB call_len rfl gn boot_len (pa_cons (pv 2) pa_nil)) pa_nil)) (blkOk_by (by kernel_rfl)) (fun s H C cl fp => pg_name (i := 3) scMix.nd rfl (.inl rfl) (.inr rfl)) (fun s H C cl fp => pts_nil)
        (fun s H C cl fp => pe_bm PySem.F.plainAttrs_list PySem.F.slot_list_pop PySem.F.type_list_pop mt_popAt (pv 2) (pa_cons (pe_has FT hr (by decide) rfl (pa_cons (pv 0) (pa_cons (pe_callB call_len rfl gn boot_len (pa_cons (pv 2) pa_nil)) pa_nil))) pa_nil)))))), ?_⟩
    obtain ⟨sp, l, t, n, xs, rfl, S, hn, t1, t2, sq, len, hQ⟩ := h
    refine ⟨.ref t, rfl, t, xs, rfl, sq, fun lf nlf => ?_⟩
    refine ⟨.ref lf, rfl, .ref lf, xs.length, rfl, .inl ⟨xs, .inl (.inl upd_same), rfl⟩, xs.length, rfl, by omega, by omega, fun D nD => ?_⟩
    have x1 : Ex H (upd H lf (.lst xs)) := Ex.new nlf
    have x2 : Ex (upd H lf (.lst xs)) (upd (upd H lf (.lst xs)) D (.lst [])) := Ex.new nD
    have nDH : H D = none := x1.none nD
    have Dl : lf ≠ D := fun z => by rw [← z, upd_same] at nD; cases nD
    obtain ⟨ns, a, m, S0⟩ := S
    have l1 : lf ≠ sp := fun z => by rw [z, S0.hs] at nlf; cases nlf
    have l2 : lf ≠ l := fun z => by rw [z, S0.hl] at nlf; cases nlf
    have d1 : D ≠ sp := fun z => by rw [z, S0.hs] at nDH; cases nDH
    have d2 : D ≠ l := fun z => by rw [z, S0.hl] at nDH; cases nDH
    refine lc_range (MInv H sp l lf D n xs) ⟨xs, [], (x1.trans x2).exS, ⟨ns, a, m, S0.ex (x1.trans x2)⟩, x2 _ _ upd_same, upd_same, .refl _, rfl⟩ (fun i H2 hi h => ?_) fun H2 h => ?_
    · obtain ⟨left, acc, x3, S3, h3, h4, pm, la⟩ := h
      have ln : acc.length + left.length = xs.length := by rw [← pm.length_eq, List.length_append]
      refine ⟨rfl, .ref lf, rfl, .inl ⟨rfl, _, .inl (.inl h3)⟩, .ref sp, rfl, .ref lf, rfl, .ref lf, left.length, rfl, .inl ⟨left, .inl (.inl h3), rfl⟩, sp, l, left.length, n + i, rfl, S3, by omega, by omega, by omega, fun d H4 hd x4 S4 => ?_⟩
      have lt : d < left.length := by omega
      have g3 := x4 _ _ l1 l2 h3
      have g4 := x4 _ _ d1 d2 h4
      refine ⟨lf, left, d, d, left[d], rfl, rfl, g3, by omega, by omega, seqIndex_of (by omega) (by omega), List.getElem?_eq_getElem lt, acc, (upd_ne Dl.symm).trans g4, by rw [sizeLine_eq]; omega, ?_⟩
      obtain ⟨ns, a, m, S4⟩ := S4
      refine ⟨left.eraseIdx d, acc ++ [left[d]], ?_, ⟨ns, a, m, (upd_ne d1.symm).trans ((upd_ne l1.symm).trans S4.hs), (upd_ne d2.symm).trans ((upd_ne l2.symm).trans S4.hl), S4.ne, S4.a0, S4.m0, S4.m1⟩, (upd_ne Dl).trans upd_same, upd_same, ?_, by rw [List.length_append, la]; rfl⟩
      · intro b o b1 b2 e
        have bl : b ≠ lf := fun z => by rw [z, nlf] at e; cases e
        have bd : b ≠ D := fun z => by rw [z, nDH] at e; cases e
        exact (upd_ne bd).trans ((upd_ne bl).trans (x4 _ _ b1 b2 (x3 _ _ b1 b2 e)))
      · rw [List.append_assoc]
        exact ((erase_perm (List.getElem?_eq_getElem lt)).append_left acc).trans pm
    · obtain ⟨left, acc, x3, S3, h3, h4, pm, la⟩ := h
      have ln : acc.length + left.length = xs.length := by rw [← pm.length_eq, List.length_append]
      have e : left = [] := List.length_eq_zero_iff.mp (by simp at la; omega)
      subst e
      rw [List.append_nil] at pm
      exact hQ D acc H2 x3 S3 nDH h4 pm
end
end TH

/-! A14: the parts; _law_names, _law_led -/
namespace TH
open PySem PySem.Spec PyProof.Rows L2 LamV LamX XK0
abbrev sNames : Stmt := top 49
abbrev sLed : Stmt := top 50
/-- the parts that a thing is made of -/
def IsPt (H : Hp) (pt : Addr) (d : ThD) : Prop := ∃ vl dd de, H pt = some (.tup [.ref vl, .str d.start, .ref dd, .ref de]) ∧ H vl = some (.lst (d.vals.map V.str)) ∧ DD H dd d.deeds ∧ DD H de d.ents
theorem IsPt.exN {H H' : Hp} {pt : Addr} {d : ThD} (x : ExtN H H') (h : IsPt H pt d) : IsPt H' pt d := by
  obtain ⟨vl, dd, de, e1, e2, e3, e4⟩ := h
  exact ⟨vl, dd, de, x _ _ e1 fun _ q => (nomatch q), x _ _ e2 fun _ q => (nomatch q), e3.exN x, e4.exN x⟩
theorem IsPt.ex {H H' : Hp} {pt : Addr} {d : ThD} (x : Ex H H') (h : IsPt H pt d) : IsPt H' pt d := h.exN x.extN
def spNames : Sp := fun vs H Q _ => ∃ (pt : Addr) (d : ThD), vs = [.ref pt] ∧ IsPt H pt d ∧ d.names.length < 64 ∧ ∀ (p : Addr) (ys : List Str) (H' : Hp), Ex H H' → H p = none → H' p = some (.lst (ys.map V.str)) → ys.Perm d.names → sortedS ys = true → Q (.ref p) H'
def spLed : Sp := fun vs H Q _ => ∃ (pt : Addr) (d : ThD) (v n : Str), vs = [.ref pt, .str v, .str n] ∧ IsPt H pt d ∧ ((∃ l, look d.deeds n = some l ∧ (lookL l v).isSome = true) ∨ (look d.deeds n = none ∧ (look d.ents n).isSome = true)) ∧ Q (optS (d.led v n)) H
section
variable {P : Program} {w : World} {K : PySem.W.Frag} {mg : Str → Option Value} {base : Heap} {f : Addr} {fd : FuncData}
theorem scNames : FnScope ["_law_parts"] ["_law_parts"] (defScope sNames) := ⟨rfl, rfl, rfl, by decide +kernel, rfl, by decide +kernel, by decide +kernel⟩
theorem ok_names (F : FnP K "_law_names" sNames f fd) (gs : mg "sorted" = none) (gl : mg "list" = none) : FnOk P w K mg base CX0 1 f fd ["_law_parts"] spNames := by
  refine F.ok scNames (fun vs H Q E h => ?_) (fun cdv A outer s H vs Q E hr h => ?_)
  · obtain ⟨t, d, rfl, _⟩ := h
    rfl
  · refine ⟨_, PSs.nox (pss_one (ps_ret (pe_callB cr_sortedS rfl gs boot_sorted (pa_cons (pe_op op_cat (pe_callTy (call_listD rfl) rfl gl boot_list (pa_cons (pe_ix ix_tup (pv 0) pe_int (fun _ _ => rfl)) pa_nil)) (pe_callTy (call_listD rfl) rfl gl boot_list (pa_cons (pe_ix ix_tup (pv 0) pe_int (fun _ _ => rfl)) pa_nil))) pa_nil)))), ?_⟩
    obtain ⟨t, d, rfl, th, len, hQ⟩ := h
    obtain ⟨vl, dd, de, e1, e2, ⟨ks, k1, kp⟩, ⟨es, m1, mp⟩⟩ := th
    have kk := DD.keys kp fun _ _ r => r.1
    have mk := DD.keys mp fun _ _ r => r.1
    have all : (ks.map fun kv => kV kv.1) ++ (es.map fun kv => kV kv.1) = d.names.map V.str := by
      rw [kk, mk]
      unfold ThD.names
      rw [List.map_append, List.map_map, List.map_map]
      rfl
    refine ⟨.ref t, rfl, t, _, 2, .ref dd, rfl, rfl, .inl (.inl e1), rfl, dd, ks, rfl, .inl k1, fun p np => ?_⟩
    have x1 : Ex H (upd H p (.lst (ks.map fun kv => kV kv.1))) := Ex.new np
    have h1 : upd H p (.lst (ks.map fun kv => kV kv.1)) p = _ := upd_same
    generalize upd H p (.lst (ks.map fun kv => kV kv.1)) = H1 at x1 h1 ⊢
    refine ⟨.ref t, rfl, t, _, 3, .ref de, rfl, rfl, .inl (.inl (x1 _ _ e1)), rfl, de, es, rfl, .inl (x1 _ _ m1), fun q nq => ?_⟩
    have x2 : Ex H1 (upd H1 q (.lst (es.map fun kv => kV kv.1))) := Ex.new nq
    have h2 : upd H1 q (.lst (es.map fun kv => kV kv.1)) q = _ := upd_same
    generalize upd H1 q (.lst (es.map fun kv => kV kv.1)) = H2 at x2 h2 ⊢
    refine ⟨p, q, _, _, rfl, rfl, x2 _ _ h1, h2, ?_, fun r nr => ?_⟩
    · rw [← List.length_append, all, List.length_map, sizeLine_eq]; omega
    rw [all]
    have x3 : Ex H (upd H2 r (.lst (d.names.map V.str))) := (x1.trans x2).trans (Ex.new nr)
    exact ⟨r, d.names, rfl, .inl (.inl upd_same), len, fun ys p pm so np => hQ p ys _ (x3.trans (Ex.new np)) (x3.none np) upd_same pm so⟩
theorem scLed : FnScope ["_law_parts", "_law_worth", "_law_name"] ["_law_parts", "_law_worth", "_law_name"] (defScope sLed) := ⟨rfl, rfl, rfl, by decide +kernel, rfl, by decide +kernel, by decide +kernel⟩
theorem ok_led (F : FnP K "_law_led" sLed f fd) : FnOk P w K mg base CX0 1 f fd ["_law_parts", "_law_worth", "_law_name"] spLed := by
  refine F.ok scLed (fun vs H Q E h => ?_) (fun cdv A outer s H vs Q E hr h => ?_)
  · obtain ⟨t, d, v, n, rfl, _⟩ := h
    rfl
  · have hu := hu_of hr
    refine ⟨_, PSs.nox (pss_one (ps_ret (pe_ifExp (pt_cmp (pc_din hu (pv 2) (pe_ix ix_tup (pv 0) pe_int (fun _ _ => rfl)))) (pe_dget hu (pe_dget hu (pe_ix ix_tup (pv 0) pe_int (fun _ _ => rfl)) (pv 2) (fun _ _ => rfl)) (pv 1) (fun _ _ => rfl))
      (pe_dget1 hu (pe_dget hu (pe_ix ix_tup (pv 0) pe_int (fun _ _ => rfl)) (pv 2) (fun _ _ => rfl)) (pv 1) ⟨rfl, rfl, rfl, rfl⟩)))), ?_⟩
    obtain ⟨t, d, v, n, rfl, th, way, hQ⟩ := h
    obtain ⟨vl, dd, de, e1, e2, ⟨ks, k1, kp⟩, ⟨es, m1, mp⟩⟩ := th
    refine ⟨.str n, rfl, .ref t, rfl, t, _, 2, .ref dd, rfl, rfl, .inl (.inl e1), rfl, dd, _, rfl, DGet.k (k := Sum.inr n) k1, _, rfl, ?_⟩
    unfold ThD.led at hQ
    rcases look_val kp n with ⟨a1, a2⟩ | ⟨l, b, a1, a2, a3⟩
    · rw [a1] at hQ
      dsimp only at hQ
      rw [a2]
      rcases way with ⟨l, z, _⟩ | ⟨_, so⟩
      · rw [a1] at z; cases z
      · rcases look_val mp n with ⟨b1, b2⟩ | ⟨l, b, b1, b2, b3⟩
        · rw [b1] at so; cases so
        · rw [b1] at hQ
          dsimp only at hQ
          refine ⟨.ref t, rfl, t, _, 3, .ref de, rfl, rfl, .inl (.inl e1), rfl, .str n, rfl, de, .ref b, rfl, b2 ▸ DGet.k (k := Sum.inr n) m1, b, rfl, .inl ⟨_, .inl b3⟩, .str v, rfl, _, DGet.k (k := Sum.inr v) b3, ?_⟩
          rw [lookL_val]
          cases q : lookL l v with
          | none => rw [q] at hQ; exact hQ
          | some x => rw [q] at hQ; exact hQ
    · rw [a1] at hQ
      dsimp only at hQ
      rw [a2]
      rcases way with ⟨l', z, so⟩ | ⟨z, _⟩
      · rw [a1] at z
        cases z
        obtain ⟨x, ex⟩ := Option.isSome_iff_exists.mp so
        have q : valV (ldV l) (Sum.inr v) = some (.str x) := by rw [lookL_val, ex]; rfl
        refine ⟨.ref t, rfl, t, _, 2, .ref dd, rfl, rfl, .inl (.inl e1), rfl, .str n, rfl, dd, .ref b, rfl, a2 ▸ DGet.k (k := Sum.inr n) k1, .str v, rfl, b, .str x, rfl, q ▸ DGet.k (k := Sum.inr v) a3, ?_⟩
        rw [ex] at hQ
        exact hQ
      · rw [a1] at z; cases z
end
end TH

/-! A15: _law_thing -/
namespace TH
open PySem PySem.Spec PyProof.Rows L2 LamV LamX XK0
abbrev sThing : Stmt := top 47
def rDictP (K : PySem.W.Frag) : List V → Hp → VK → Prop := fun xs H Q => ∃ (a : Addr) (ps : List Addr) (kvs : List (Key × V)), xs = [.ref a] ∧ SqL K H a (ps.map V.ref) ∧ Paired (fun p kv => SqT K H p [kV kv.1, kv.2]) ps kvs ∧ ∀ p, H p = none → Q (.ref p) (upd H p (.dK (mergeK [] kvs)))
theorem call_dictPK {X : Cx} (hc : X.calm = true) : CallR X (.type "dict") (rDictP X.K) := call_dictP hc
theorem cut_take (xs : List V) (k : Nat) : cutV xs none (some (k : Int)) = xs.take k := by
  unfold cutV
  rw [HT.sIx_none, HT.sIx_nat, List.drop_zero, Nat.sub_zero]
  by_cases h : k ≤ xs.length
  · rw [Nat.min_eq_left h]
  · rw [Nat.min_eq_right (by omega), List.take_of_length_le (Nat.le_refl _), List.take_of_length_le (by omega)]
/-- what is no list stands while only the spring is changed -/
theorem ExS.non {sp l b : Addr} {H H' : Hp} {n : Nat} {o : HO} (x : ExS sp l H H') (s : Spr H sp l n) (h : H b = some o) (no : ∀ xs, o ≠ .lst xs) : H' b = some o := by
  obtain ⟨ns, a, m, s⟩ := s
  exact x b o (fun z => by rw [z, s.hs] at h; exact no _ (Option.some.inj h).symm) (fun z => by rw [z, s.hl] at h; exact no _ (Option.some.inj h).symm) h
theorem Spr.new {H : Hp} {sp l p : Addr} {n : Nat} {o : HO} (s : Spr H sp l n) (h : H p = none) : Spr (upd H p o) sp l n := s.ex (Ex.new h)
theorem Spr.off {H : Hp} {sp l p : Addr} {n : Nat} (s : Spr H sp l n) (h : H p = none) : p ≠ sp ∧ p ≠ l := by
  obtain ⟨ns, a, m, s⟩ := s
  exact ⟨fun z => (by rw [z, s.hs] at h; cases h), fun z => (by rw [z, s.hl] at h; cases h)⟩
theorem Spr.put {H : Hp} {sp l p : Addr} {n : Nat} {o : HO} (s : Spr H sp l n) (h : p ≠ sp ∧ p ≠ l) : Spr (upd H p o) sp l n := by
  obtain ⟨ns, a, m, s⟩ := s
  exact ⟨ns, a, m, (upd_ne h.1.symm).trans s.hs, (upd_ne h.2.symm).trans s.hl, s.ne, s.a0, s.m0, s.m1⟩
theorem DD.exS {sp l : Addr} {H H' : Hp} {n : Nat} {a : Addr} {ls : Lds} (x : ExS sp l H H') (s : Spr H sp l n) (h : DD H a ls) : DD H' a ls := by
  obtain ⟨kvs, e, p⟩ := h
  exact ⟨kvs, x.non s e (fun _ z => nomatch z), Paired.mapP p fun _ _ ⟨e1, b, e2, e3⟩ => ⟨e1, b, e2, x.non s e3 (fun _ z => nomatch z)⟩⟩
/-! ### dict([(worth, _law_one(spring, values)) for worth in ks]) -/
theorem putK_fresh {kvs : List (Key × V)} {k : Key} {v : V} (h : k ∉ kvs.map (·.1)) : putK kvs k v = kvs ++ [(k, v)] := by
  refine putK_new _ ?_
  induction kvs with
  | nil => rfl
  | cons p r ih =>
    simp only [List.map_cons, List.mem_cons, not_or] at h
    rw [valV_neg fun z => h.1 z.symm]
    exact ih h.2
theorem merge_nd : ∀ (more kvs : List (Key × V)), ((kvs ++ more).map (·.1)).Nodup → mergeK kvs more = kvs ++ more
  | [], kvs, _ => (List.append_nil _).symm
  | p :: r, kvs, h => by
    show mergeK (putK kvs p.1 p.2) r = _
    have e : p.1 ∉ kvs.map (·.1) := fun z => by
      rw [List.map_append, List.map_cons] at h
      exact (List.nodup_append.mp h).2.2 _ z _ List.mem_cons_self rfl
    rw [putK_fresh e, merge_nd r (kvs ++ [(p.1, p.2)]) (by simpa using h)]
    simp
theorem keys_nd {ld : Ld} (h : (ld.map (·.1)).Nodup) : ((ldV ld).map (·.1)).Nodup := by
  have e : (ldV ld).map (·.1) = (ld.map (·.1)).map Sum.inr := by
    unfold ldV
    rw [List.map_map, List.map_map]
    rfl
  rw [e]
  refine List.pairwise_map.mpr (List.Pairwise.imp (fun z q => z (Sum.inr.inj q)) h)
def tDO (K : PySem.W.Frag) (i : Nat) : TE := tCB (rDictP K) (tCons (tLc (iList K (tVar i)) (gName 8) tYes (tTup (tCons (tVar 8) (tCons (tCall spOne [] E0 (tCons (tVar 0) (tCons (tVar 3) tNil))) tNil))) [8]) tNil)
/-- at each turn: the pairs so far -/
def DOInv (H : Hp) (sp l D : Addr) (n : Nat) (ks vals : List Str) (i : Nat) (H2 : Hp) : Prop := ∃ (ps : List Addr) (ld : Ld), ExS sp l H H2 ∧ Spr H2 sp l (n + i) ∧ H2 D = some (.lst (ps.map V.ref)) ∧ ld.map (·.1) = ks.take i ∧ (∀ q ∈ ld, q.2 ∈ vals) ∧ ps.length = i ∧ Paired (fun p kv => H2 p = some (.tup [kV kv.1, kv.2])) ps (ldV ld)
theorem paired_app {α β : Type} {R : α → β → Prop} : ∀ {l : List α} {r : List β} {a : α} {b : β}, Paired R l r → R a b → Paired R (l ++ [a]) (r ++ [b])
  | _, _, _, _, .nil, h => .cons h .nil
  | _, _, _, _, .cons x q, h => .cons x (paired_app q h)
theorem dictOne_go {K : PySem.W.Frag} {σ : L2.St} {H : Hp} {Q : VK} {sp l va ka : Addr} {n i : Nat} {vals ks : List Str} (len : σ.length = 9) (s0 : σ[0]? = some (some (.ref sp))) (s3 : σ[3]? = some (some (.ref va))) (si : σ[i]? = some (some (.ref ka))) (S : Spr H sp l n) (hn : n + ks.length < 1000000)
    (hv : H va = some (.lst (vals.map V.str))) (v1 : va ≠ sp ∧ va ≠ l) (hk : H ka = some (.lst (ks.map V.str))) (k1 : ka ≠ sp ∧ ka ≠ l) (ne : vals ≠ []) (vl : vals.length ≤ 100) (kl : ks.length ≤ 100) (nd : ks.Nodup)
    (hQ : ∀ (ld : Ld) (p : Addr) (H' : Hp), ld.map (·.1) = ks → (∀ q ∈ ld, q.2 ∈ vals) → ExS sp l H H' → Spr H' sp l (n + ks.length) → H p = none → H' p = some (.dK (ldV ld)) → Q (.ref p) H') : tDO K i σ H Q := by
  refine ⟨.ref ka, si, ka, rfl, ⟨_, .inl (.inl hk)⟩, fun D nD => ?_⟩
  have d1 := S.off nD
  have keepL : ∀ {H2 : Hp} {b : Addr} {xs : List V}, ExS sp l H H2 → H b = some (.lst xs) → b ≠ sp ∧ b ≠ l → H2 b = some (.lst xs) := fun x h q => x _ _ q.1 q.2 h
  refine lc_list (K := K) (xs := ks.map V.str) (DOInv H sp l D n ks vals) ⟨[], [], (Ex.new nD).exS, S.new nD, upd_same, rfl, fun q m => (nomatch m), rfl, .nil⟩ (fun i H2 _ ⟨ps, ld, x, _⟩ => .inl (.inl (keepL x hk k1))) (fun i v H2 hv2 h => ?_) fun H2 h => ?_
  · obtain ⟨ps, ld, x2, S2, hD, lk, lv, pl, pr⟩ := h
    rw [List.getElem?_map] at hv2
    obtain ⟨w, ew, rfl⟩ := Option.map_eq_some_iff.mp hv2
    have ilt : i < ks.length := (List.getElem?_eq_some_iff.mp ew).1
    have a8 : (((wipe σ [8]).set 8 (some (V.str w))))[8]? = some (some (V.str w)) := List.getElem?_set_self (by rw [wipe_length, len]; decide)
    have a0 : (((wipe σ [8]).set 8 (some (V.str w))))[0]? = some (some (V.ref sp)) := by
      rw [List.getElem?_set_ne (by decide)]
      exact (List.getElem?_set_ne (by decide)).trans s0
    have a3 : (((wipe σ [8]).set 8 (some (V.str w))))[3]? = some (some (V.ref va)) := by
      rw [List.getElem?_set_ne (by decide)]
      exact (List.getElem?_set_ne (by decide)).trans s3
    refine ⟨?_, ?_⟩
    · show ((σ.set 8 none).set 8 (some (V.str w))).set 8 none = σ.set 8 none
      rw [List.set_set, List.set_set]
    refine ⟨.str w, a8, .ref sp, a0, .ref va, a3, sp, l, va, n + i, vals.map V.str, rfl, S2, by omega, v1.1, v1.2, keepL x2 hv v1, by simpa using ne, by rw [List.length_map]; omega, fun y H3 my x3 S3 => ?_⟩
    obtain ⟨g, mg, rfl⟩ := List.mem_map.mp my
    refine ⟨by show 2 ≤ sizeLine; decide, fun p np => ?_⟩
    have hD3 : H3 D = some (.lst (ps.map V.ref)) := x3 _ _ d1.1 d1.2 hD
    have pD : p ≠ D := fun z => by rw [z, hD3] at np; cases np
    have p1 := S3.off np
    refine ⟨ps.map V.ref, (upd_ne pD.symm).trans hD3, by rw [sizeLine_eq, List.length_map]; omega, ps ++ [p], ld ++ [(w, g)], ?_, (S3.new np).put d1, ?_, ?_, ?_, ?_, ?_⟩
    · intro b o b1 b2 e
      have bp : b ≠ p := fun z => by rw [z] at e; rw [x3 _ _ p1.1 p1.2 (x2 _ _ p1.1 p1.2 e)] at np; cases np
      have bD : b ≠ D := fun z => by rw [z, nD] at e; cases e
      exact (upd_ne bD).trans ((upd_ne bp).trans (x3 _ _ b1 b2 (x2 _ _ b1 b2 e)))
    · rw [upd_same, List.map_append]
      rfl
    · rw [List.map_append, lk, List.take_add_one, ew]
      rfl
    · intro q hq
      rcases List.mem_append.mp hq with z | z
      · exact lv q z
      · rw [List.mem_singleton.mp z]; exact mg
    · rw [List.length_append, pl]
      rfl
    · unfold ldV
      rw [List.map_append]
      refine paired_app (Paired.mapP pr fun b kv e => ?_) ?_
      · have e3 : H3 b = some (.tup [kV kv.1, kv.2]) := x3.non S2 e fun _ z => nomatch z
        have n1 : b ≠ p := fun z => by rw [z, np] at e3; cases e3
        have n2 : b ≠ D := fun z => by rw [z, hD3] at e3; cases e3
        exact (upd_ne n2).trans ((upd_ne n1).trans e3)
      · exact (upd_ne pD).trans upd_same
  · obtain ⟨ps, ld, x2, S2, hD, lk, lv, pl, pr⟩ := h
    rw [List.length_map] at lk pl S2
    rw [List.take_length] at lk
    have nd2 : (ld.map (·.1)).Nodup := lk ▸ nd
    refine ⟨D, ps, ldV ld, rfl, .inl (.inl hD), Paired.mapP pr fun p kv e => .inl (.inl e), fun p np => ?_⟩
    have em : mergeK [] (ldV ld) = ldV ld := merge_nd _ _ (keys_nd nd2)
    rw [em]
    have p1 := S2.off np
    exact hQ ld p _ lk lv (x2.trans (Ex.new np).exS) (S2.new np) (x2.none (n := 0) S2 np) upd_same
end TH

/-! A16: _law_thing -/
namespace TH
open PySem PySem.Spec PyProof.Rows L2 LamV LamX XK0
def valN : List Str := ["a", "b", "c", "d"]
def deedN : List Str := ["p", "q"]
def entN : List Str := ["e", "g", "h"]
/-- right parts -/
structure ThD.Good (d : ThD) : Prop where
  vals : ∃ k, 2 ≤ k ∧ k ≤ 4 ∧ d.vals = valN.take k
  start : d.start ∈ d.vals
  dn : ∃ k, k ≤ 2 ∧ d.deeds.map (·.1) = deedN.take k
  en : ∃ k, 1 ≤ k ∧ k ≤ 3 ∧ d.ents.map (·.1) = entN.take k
  dl : ∀ p ∈ d.deeds, p.2.map (·.1) = d.vals ∧ ∀ q ∈ p.2, q.2 ∈ d.vals
  el : ∀ p ∈ d.ents, (p.2.map (·.1)).Nodup ∧ (∀ q ∈ p.2, q.1 ∈ d.vals) ∧ ∀ q ∈ p.2, q.2 ∈ d.vals
/-- the parts, their list of values is none of the spring's -/
def IsPtS (sp l : Addr) (H : Hp) (pt : Addr) (d : ThD) : Prop := ∃ vl dd de, H pt = some (.tup [.ref vl, .str d.start, .ref dd, .ref de]) ∧ H vl = some (.lst (d.vals.map V.str)) ∧ (vl ≠ sp ∧ vl ≠ l) ∧ DD H dd d.deeds ∧ DD H de d.ents
theorem IsPtS.pt {sp l : Addr} {H : Hp} {pt : Addr} {d : ThD} (h : IsPtS sp l H pt d) : IsPt H pt d := by
  obtain ⟨vl, dd, de, e1, e2, _, e3, e4⟩ := h
  exact ⟨vl, dd, de, e1, e2, e3, e4⟩
def spThing : Sp := fun vs H Q _ => ∃ (sp l : Addr) (n : Nat) (most many : Int), vs = [.ref sp, .int most, .int many] ∧ Spr H sp l n ∧ n + 200 < 1000000 ∧ 2 ≤ most ∧ most ≤ 4 ∧ 1 ≤ many ∧ many ≤ 3 ∧
  ∀ (pt : Addr) (d : ThD) (m : Nat) (H' : Hp), d.Good → m ≤ n + 100 → ExS sp l H H' → Spr H' sp l m → H pt = none → IsPtS sp l H' pt d → Q (.ref pt) H'
/-- dict([(name, dict([..])) for name in ..]) -/
def tDDs (K : PySem.W.Frag) (tl : TE) : TE := tCB (rDictP K) (tCons (tLc (iList K tl) (gName 4) tYes (tTup (tCons (tVar 4) (tCons (tDO K 3) tNil))) [4]) tNil)
def PR (H : Hp) (lds : Lds) (kvs : List (Key × V)) : Prop := Paired (fun (l : Str × Ld) (kv : Key × V) => kv.1 = Sum.inr l.1 ∧ ∃ b, kv.2 = .ref b ∧ H b = some (.dK (ldV l.2))) lds kvs
theorem PR.keys {H : Hp} {lds : Lds} {kvs : List (Key × V)} (p : PR H lds kvs) : kvs.map (·.1) = (lds.map (·.1)).map Sum.inr := by
  induction p with
  | nil => rfl
  | cons r _ ih =>
    simp only [List.map_cons] at ih ⊢
    rw [ih, r.1]
theorem nd_inr {xs : List Str} (h : xs.Nodup) : (xs.map (Sum.inr : Str → Key)).Nodup := List.pairwise_map.mpr (List.Pairwise.imp (fun z q => z (Sum.inr.inj q)) h)
def DInv (H : Hp) (sp l D : Addr) (n : Nat) (names vals : List Str) (i : Nat) (H2 : Hp) : Prop := ∃ (ps : List Addr) (lds : Lds) (kvs : List (Key × V)), ExS sp l H H2 ∧ Spr H2 sp l (n + i * vals.length) ∧ H2 D = some (.lst (ps.map V.ref)) ∧ ps.length = i ∧ lds.map (·.1) = names.take i ∧
  (∀ p ∈ lds, p.2.map (·.1) = vals ∧ ∀ q ∈ p.2, q.2 ∈ vals) ∧ Paired (fun p kv => H2 p = some (.tup [kV kv.1, kv.2])) ps kvs ∧ PR H2 lds kvs
theorem deeds_go {K : PySem.W.Frag} {tl : TE} {σ : L2.St} {H : Hp} {Q : VK} {sp l va : Addr} {n : Nat} {vals : List Str} (len : σ.length = 9) (s0 : σ[0]? = some (some (.ref sp))) (s3 : σ[3]? = some (some (.ref va))) (S : Spr H sp l n) (hn : n + 100 < 1000000)
    (hv : H va = some (.lst (vals.map V.str))) (v1 : va ≠ sp ∧ va ≠ l) (ne : vals ≠ []) (vl : vals.length ≤ 4) (nd : vals.Nodup)
    (htl : ∀ Q, (∀ k ka H1, k ≤ 2 → ExS sp l H H1 → Spr H1 sp l (n + 1) → H ka = none → H1 ka = some (.lst ((deedN.take k).map V.str)) → Q (V.ref ka) H1) → tl σ H Q)
    (hQ : ∀ (lds : Lds) (p : Addr) (H' : Hp) (k m : Nat), k ≤ 2 → m ≤ n + 9 → lds.map (·.1) = deedN.take k → (∀ p ∈ lds, p.2.map (·.1) = vals ∧ ∀ q ∈ p.2, q.2 ∈ vals) → ExS sp l H H' → Spr H' sp l m → H p = none → DD H' p lds → Q (.ref p) H') : tDDs K tl σ H Q := by
  refine htl _ fun k ka H1 hk x1 S1 nka hka => ?_
  have k1 := S.off nka
  refine ⟨ka, rfl, ⟨_, .inl (.inl hka)⟩, fun D nD => ?_⟩
  have d1 := S1.off nD
  have nDH : H D = none := x1.none (n := 0) S1 nD
  have ndn : (deedN.take k).Nodup := (List.take_sublist k deedN).nodup (by decide)
  have kl : (deedN.take k).length = k := by rw [List.length_take]; exact Nat.min_eq_left hk
  refine lc_list (K := K) (xs := (deedN.take k).map V.str) (DInv H1 sp l D (n + 1) (deedN.take k) vals) ⟨[], [], [], (Ex.new nD).exS, by rw [Nat.zero_mul]; exact S1.new nD, upd_same, rfl, rfl, fun q m => (nomatch m), .nil, .nil⟩ (fun i H2 _ ⟨ps, ld, kvs, x, _⟩ => .inl (.inl (x _ _ k1.1 k1.2 hka))) (fun i v H2 hv2 h => ?_) fun H2 h => ?_
  · obtain ⟨ps, lds, kvs, x2, S2, hD, pl, lk, lv, pr, pr2⟩ := h
    rw [List.getElem?_map] at hv2
    obtain ⟨w, ew, rfl⟩ := Option.map_eq_some_iff.mp hv2
    have ilt : i < k := by
      have := (List.getElem?_eq_some_iff.mp ew).1
      omega
    have bd : i * vals.length ≤ 2 * 4 := Nat.mul_le_mul (by omega) vl
    have a4 : (((wipe σ [4]).set 4 (some (V.str w))))[4]? = some (some (V.str w)) := List.getElem?_set_self (by rw [wipe_length, len]; decide)
    have a0 : (((wipe σ [4]).set 4 (some (V.str w))))[0]? = some (some (V.ref sp)) := by
      rw [List.getElem?_set_ne (by decide)]
      exact (List.getElem?_set_ne (by decide)).trans s0
    have a3 : (((wipe σ [4]).set 4 (some (V.str w))))[3]? = some (some (V.ref va)) := by
      rw [List.getElem?_set_ne (by decide)]
      exact (List.getElem?_set_ne (by decide)).trans s3
    refine ⟨?_, ?_⟩
    · show ((σ.set 4 none).set 4 (some (V.str w))).set 4 none = σ.set 4 none
      rw [List.set_set, List.set_set]
    have hv1 := x1 _ _ v1.1 v1.2 hv
    have hv22 := x2 _ _ v1.1 v1.2 hv1
    refine ⟨.str w, a4, dictOne_go (by rw [List.length_set, wipe_length]; exact len) a0 a3 a3 S2 (by omega) hv22 v1 hv22 v1 ne (by omega) (by omega) nd fun ld b H3 k3 m3 x3 S3 nb hb => ?_⟩
    refine ⟨by show 2 ≤ sizeLine; decide, fun p np => ?_⟩
    have hD3 : H3 D = some (.lst (ps.map V.ref)) := x3 _ _ d1.1 d1.2 hD
    have pD : p ≠ D := fun z => by rw [z, hD3] at np; cases np
    have p1 := S3.off np
    have bp : b ≠ p := fun z => by rw [z, np] at hb; cases hb
    have bD : b ≠ D := fun z => by rw [z, hD3] at hb; cases hb
    refine ⟨ps.map V.ref, (upd_ne pD.symm).trans hD3, by rw [sizeLine_eq, List.length_map]; omega, ps ++ [p], lds ++ [(w, ld)], kvs ++ [(.inr w, .ref b)], ?_, ?_, ?_, by rw [List.length_append, pl]; rfl, ?_, ?_, ?_, ?_⟩
    · intro c o c1 c2 e
      have cp : c ≠ p := fun z => by rw [z] at e; rw [x3 _ _ p1.1 p1.2 (x2 _ _ p1.1 p1.2 e)] at np; cases np
      have cD : c ≠ D := fun z => by rw [z, nD] at e; cases e
      exact (upd_ne cD).trans ((upd_ne cp).trans (x3 _ _ c1 c2 (x2 _ _ c1 c2 e)))
    · rw [Nat.succ_mul, ← Nat.add_assoc]
      exact (S3.new np).put d1
    · rw [upd_same, List.map_append]
      rfl
    · rw [List.map_append, lk, List.take_add_one, ew]
      rfl
    · intro q hq
      rcases List.mem_append.mp hq with z | z
      · exact lv q z
      · rw [List.mem_singleton.mp z]; exact ⟨k3, m3⟩
    · refine paired_app (Paired.mapP pr fun b kv e => ?_) ((upd_ne pD).trans upd_same)
      have e3 : H3 b = some (.tup [kV kv.1, kv.2]) := x3.non S2 e fun _ z => nomatch z
      have n1 : b ≠ p := fun z => by rw [z, np] at e3; cases e3
      have n2 : b ≠ D := fun z => by rw [z, hD3] at e3; cases e3
      exact (upd_ne n2).trans ((upd_ne n1).trans e3)
    · refine paired_app (Paired.mapP pr2 fun l' kv ⟨e1, b', e2, e3⟩ => ⟨e1, b', e2, ?_⟩) ⟨rfl, b, rfl, (upd_ne bD).trans ((upd_ne bp).trans hb)⟩
      have e3 := x3.non S2 e3 fun _ z => nomatch z
      have n1 : b' ≠ p := fun z => by rw [z, np] at e3; cases e3
      have n2 : b' ≠ D := fun z => by rw [z, hD3] at e3; cases e3
      exact (upd_ne n2).trans ((upd_ne n1).trans e3)
  · obtain ⟨ps, lds, kvs, x2, S2, hD, pl, lk, lv, pr, pr2⟩ := h
    rw [List.length_map] at lk pl S2
    rw [List.take_length] at lk
    rw [kl] at S2
    have bd : k * vals.length ≤ 2 * 4 := Nat.mul_le_mul hk vl
    refine ⟨D, ps, kvs, rfl, .inl (.inl hD), Paired.mapP pr fun p kv e => .inl (.inl e), fun p np => ?_⟩
    have em : mergeK [] kvs = kvs := merge_nd _ _ (by rw [List.nil_append, pr2.keys, lk]; exact nd_inr ndn)
    rw [em]
    have p1 := S2.off np
    have x3 : ExS sp l H (upd H2 p (.dK kvs)) := (x1.trans x2).trans (Ex.new np).exS
    refine hQ lds p _ k _ hk (by omega) lk lv x3 (S2.new np) ((x1.trans x2).none (n := 0) S2 np) ⟨kvs, upd_same, Paired.mapP pr2 fun l' kv ⟨e1, b', e2, e3⟩ => ⟨e1, b', e2, ?_⟩⟩
    exact (Ex.new np) _ _ e3
end TH

/-! A17: _law_thing, the def -/
namespace TH
open PySem PySem.Spec PyProof.Rows L2 LamV LamX XK0
theorem perm_strs {ys : List V} {ks : List Str} (h : ys.Perm (ks.map V.str)) : ∃ zs : List Str, ys = zs.map V.str ∧ zs.Perm ks := by
  have e : ∃ zs : List Str, ys = zs.map V.str := by
    have all : ∀ y ∈ ys, ∃ z, y = V.str z := fun y m => by
      obtain ⟨z, _, e⟩ := List.mem_map.mp (h.mem_iff.mp m)
      exact ⟨z, e.symm⟩
    clear h
    induction ys with
    | nil => exact ⟨[], rfl⟩
    | cons y r ih =>
      obtain ⟨z, rfl⟩ := all y List.mem_cons_self
      obtain ⟨zs, rfl⟩ := ih fun y m => all y (List.mem_cons_of_mem _ m)
      exact ⟨z :: zs, rfl⟩
  obtain ⟨zs, rfl⟩ := e
  refine ⟨zs, rfl, ?_⟩
  have := h.filterMap fun v => match v with | .str z => some z | _ => none
  rw [List.filterMap_map, List.filterMap_map] at this
  have id : ∀ l : List Str, l.filterMap ((fun v => match v with | V.str z => some z | _ => none) ∘ V.str) = l := fun l => by
    induction l with
    | nil => rfl
    | cons a r ih => rw [List.filterMap_cons]; simp only [Function.comp]; exact congrArg _ ih
  rwa [id, id] at this
/-- at each turn of the for -/
def EInv (H : Hp) (sp l va dd de na : Addr) (n : Nat) (most many : Int) (names vals : List Str) (i : Nat) (σ : L2.St) (H2 : Hp) : Prop := ∃ (o4 o7 : Option V) (lds : Lds) (kvs : List (Key × V)) (m : Nat), σ = [some (.ref sp), some (.int most), some (.int many), some (.ref va), o4, some (.ref dd), some (.ref de), o7, none] ∧
  ExS sp l H H2 ∧ H2 na = some (.lst (names.map V.str)) ∧ Spr H2 sp l m ∧ m ≤ n + i * 9 ∧ H2 de = some (.dK kvs) ∧ Paired (fun (l : Str × Ld) (kv : Key × V) => kv.1 = Sum.inr l.1 ∧ ∃ b, kv.2 = .ref b ∧ b ≠ de ∧ H2 b = some (.dK (ldV l.2))) lds kvs ∧ lds.map (·.1) = names.take i ∧ ∀ p ∈ lds, (p.2.map (·.1)).Nodup ∧ (∀ q ∈ p.2, q.1 ∈ vals) ∧ ∀ q ∈ p.2, q.2 ∈ vals
section
variable {P : Program} {w : World} {K : PySem.W.Frag} {mg : Str → Option Value} {base : Heap} {f : Addr} {fd : FuncData}
theorem scThing : FnScope ["_law_spring_here", "_law_most", "_law_many", "_law_values", "_law_name", "_law_deeds", "_law_entries", "_law_some", "_law_worth"] ["_law_spring_here", "_law_most", "_law_many"] (defScope sThing) := ⟨rfl, rfl, rfl, by decide +kernel, rfl, by decide +kernel, by decide +kernel⟩
theorem ok_thing (F : FnP K "_law_thing" sThing f fd) (FT : Has P w K mg base "_law_take" 1 ["_law_spring_here", "_law_many"] spTake) (FO : Has P w K mg base "_law_one" 2 ["_law_spring_here", "_law_things"] spOne) (FM : Has P w K mg base "_law_mix" 2 ["_law_spring_here", "_law_things"] (spMix K)) (gn : mg "len" = none) (gd : mg "dict" = none) :
    FnOk P w K mg base CX0 3 f fd ["_law_spring_here", "_law_most", "_law_many"] spThing := by
  refine F.ok scThing (fun vs H Q E h => ?_) (fun cdv A outer s H vs Q E hr h => ?_)
  · obtain ⟨sp, l, n, most, many, rfl, _⟩ := h
    rfl
  · have hu := hu_of hr
    refine ⟨_, PSs.nox (pss_cons (ps_set (i := 3) scThing.nd rfl (.inr rfl) (pe_slice sl_list (pe_lst (pa_cons pe_str (pa_cons pe_str (pa_cons pe_str (pa_cons pe_str pa_nil))))) po_none (po_some (pe_op op_add pe_int (pe_has FT hr (by decide) rfl (pa_cons (pv 0) (pa_cons (pe_op op_sub (pv 1) pe_int) pa_nil)))))))
      (pss_cons (ps_set (i := 5) scThing.nd rfl (.inl rfl) (pe_callTy (call_dictPK rfl) rfl gd boot_dict (pa_cons (pe_lc (te := tTup (tCons (tVar 4) (tCons (tDO K 3) tNil))) (own := [("_law_name", 4)]) rfl scThing.nd (pi_list (pe_slice sl_list (pe_lst (pa_cons pe_str (pa_cons pe_str pa_nil))) po_none (po_some (pe_has FT hr (by decide) rfl (pa_cons (pv 0) (pa_cons pe_int pa_nil)))))) (blkOk_by (by kernel_rfl)) (fun s H C cl fp => pg_name (i := 4) scThing.nd rfl (.inl rfl) (.inr rfl)) (fun s H C cl fp => pts_nil)
          (fun s H C cl fp => pe_tup (pa_cons (pv 4) (pa_cons (pe_callTy (call_dictPK rfl) rfl gd boot_dict (pa_cons (pe_lc (te := tTup (tCons (tVar 8) (tCons (tCall spOne [] E0 (tCons (tVar 0) (tCons (tVar 3) tNil))) tNil))) (own := [("_law_worth", 8)]) rfl scThing.nd (pi_list (pv 3)) (blkOk_by (by kernel_rfl)) (fun s H C cl fp => pg_name (i := 8) scThing.nd rfl (.inl rfl) (.inr rfl)) (fun s H C cl fp => pts_nil)
            (fun s H C cl fp => pe_tup (pa_cons (pv 8) (pa_cons (pe_has FO hr (by decide) rfl (pa_cons (pv 0) (pa_cons (pv 3) pa_nil))) pa_nil)))) pa_nil)) pa_nil)))) pa_nil)))
      (pss_cons (ps_set (i := 6) scThing.nd rfl (.inl rfl) pe_dnewK)
      (pss_cons (ps_for PassesOwn.never rfl (pi_list (pe_slice sl_list (pe_lst (pa_cons pe_str (pa_cons pe_str (pa_cons pe_str pa_nil)))) po_none (po_some (pe_op op_add pe_int (pe_has FT hr (by decide) rfl (pa_cons (pv 0) (pa_cons (pv 2) pa_nil))))))) (pg_name (i := 4) scThing.nd rfl (.inl rfl))
        (pss_cons (ps_set (i := 7) scThing.nd rfl (.inl rfl) (pe_slice sl_list (pe_has FM hr (by decide) rfl (pa_cons (pv 0) (pa_cons (pv 3) pa_nil))) po_none (po_some (pe_has FT hr (by decide) rfl (pa_cons (pv 0) (pa_cons (pe_op op_add (pe_callB call_len rfl gn boot_len (pa_cons (pv 3) pa_nil)) pe_int) pa_nil))))))
        (pss_one (ps_dput hu (pv 6) (pv 4) (pe_callTy (call_dictPK rfl) rfl gd boot_dict (pa_cons (pe_lc (te := tTup (tCons (tVar 8) (tCons (tCall spOne [] E0 (tCons (tVar 0) (tCons (tVar 3) tNil))) tNil))) (own := [("_law_worth", 8)]) rfl scThing.nd (pi_list (pv 7)) (blkOk_by (by kernel_rfl)) (fun s H C cl fp => pg_name (i := 8) scThing.nd rfl (.inl rfl) (.inr rfl)) (fun s H C cl fp => pts_nil)
            (fun s H C cl fp => pe_tup (pa_cons (pv 8) (pa_cons (pe_has FO hr (by decide) rfl (pa_cons (pv 0) (pa_cons (pv 3) pa_nil))) pa_nil)))) pa_nil)) rfl))))
      (pss_one (ps_ret (pe_tup (pa_cons (pv 3) (pa_cons (pe_has FO hr (by decide) rfl (pa_cons (pv 0) (pa_cons (pv 3) pa_nil))) (pa_cons (pv 5) (pa_cons (pv 6) pa_nil)))))))))))
      , ?_⟩
    obtain ⟨sp, l, n, most, many, rfl, S, hn, m1, m2, y1, y2, hQ⟩ := h
    refine ⟨by show 4 ≤ sizeLine; decide, fun a0 na0 => ?_⟩
    have x0 : Ex H (upd H a0 (.lst (valN.map V.str))) := Ex.new na0
    refine ⟨.ref sp, rfl, .int most, rfl, most, 1, rfl, rfl, sp, l, most - 1, n, rfl, S.ex x0, by omega, by omega, by omega, fun k H1 hk x1 S1 => ⟨2, k, rfl, rfl, _, rfl, a0, valN.map V.str, rfl, ?_, fun va nva => ?_⟩⟩
    · exact .inl (.inl (x1 _ _ (S.off na0).1 (S.off na0).2 upd_same))
    have k4 : 2 + k ≤ 4 := by omega
    have ek : (2 : Int) + (k : Int) = ((2 + k : Nat) : Int) := by omega
    have ec : cutV (valN.map V.str) none (some (2 + (k : Int))) = ((valN.take (2 + k)).map V.str) := by rw [ek, cut_take, List.map_take]
    have v1 := S1.off nva
    have x2 : ExS sp l H (upd H1 va (.lst (cutV (valN.map V.str) none (some (2 + (k : Int)))))) := (x0.exS.trans x1).trans (Ex.new nva).exS
    have S2 : Spr (upd H1 va (.lst (cutV (valN.map V.str) none (some (2 + (k : Int)))))) sp l (n + 1) := S1.new nva
    have hva : upd H1 va (.lst (cutV (valN.map V.str) none (some (2 + (k : Int))))) va = some (.lst ((valN.take (2 + k)).map V.str)) := by rw [upd_same, ec]
    generalize upd H1 va (.lst (cutV (valN.map V.str) none (some (2 + (k : Int))))) = H2 at x2 S2 hva ⊢
    have vlen : (valN.take (2 + k)).length = 2 + k := by rw [List.length_take]; exact Nat.min_eq_left k4
    have vnd : (valN.take (2 + k)).Nodup := (List.take_sublist _ valN).nodup (by decide)
    have ev : ∃ j, 2 ≤ j ∧ j ≤ 4 ∧ valN.take (2 + k) = valN.take j := ⟨2 + k, by omega, k4, rfl⟩
    clear x0 na0 ec ek x1 S1 nva
    generalize valN.take (2 + k) = vals at hva vlen vnd ev
    have vne : vals ≠ [] := fun z => by rw [z] at vlen; simp at vlen; omega
    show tDDs K (tSl (rSlL K) (tLst (tCons (tC (.str "p")) (tCons (tC (.str "q")) tNil))) tNoPart (tPart (tCall spTake [] E0 (tCons (tVar 0) (tCons (tC (.int 3)) tNil))))) [some (.ref sp), some (.int most), some (.int many), some (.ref va), none, none, none, none, none] H2 _
    refine deeds_go (σ := [some (.ref sp), some (.int most), some (.int many), some (.ref va), none, none, none, none, none]) (vals := vals) (n := n + 1) rfl rfl rfl S2 (by omega) hva v1 vne (by omega) vnd (fun Q q => ?_) fun lds dd H3 k3 n3 hk3 hn3 lk3 lv3 x3 S3 ndd hdd => ?_
    · refine ⟨by show 2 ≤ sizeLine; decide, fun a1 na1 => ?_⟩
      have x3 : Ex H2 (upd H2 a1 (.lst (deedN.map V.str))) := Ex.new na1
      refine ⟨.ref sp, rfl, sp, l, 3, n + 1, rfl, S2.ex x3, by omega, by omega, by omega, fun j H3 hj x4 S4 => ⟨j, rfl, a1, deedN.map V.str, rfl, ?_, fun ka nka => ?_⟩⟩
      · exact .inl (.inl (x4 _ _ (S2.off na1).1 (S2.off na1).2 upd_same))
      · have x5 := x3.exS.trans x4
        exact q j ka _ (by omega) (x5.trans (Ex.new nka).exS) (S4.new nka) (x5.none (n := 0) S4 nka) (by rw [upd_same, cut_take, List.map_take])
    have d1 : dd ≠ sp ∧ dd ≠ l := S2.off ndd
    intro de nde
    have x4 : Ex H3 (upd H3 de (.dK [])) := Ex.new nde
    have e1 := S3.off nde
    refine ⟨by show 3 ≤ sizeLine; decide, fun a2 na2 => ?_⟩
    have x5 : Ex H3 (upd (upd H3 de (.dK [])) a2 (.lst [V.str "e", V.str "g", V.str "h"])) := x4.trans (Ex.new na2)
    have hde5 : upd (upd H3 de (.dK [])) a2 (.lst [V.str "e", V.str "g", V.str "h"]) de = some (.dK []) := (Ex.new na2) _ _ upd_same
    have a21 := (S3.ex x4).off na2
    have ha2 : upd (upd H3 de (.dK [])) a2 (.lst [V.str "e", V.str "g", V.str "h"]) a2 = some (.lst (entN.map V.str)) := upd_same
    have S5 := S3.ex x5
    generalize upd (upd H3 de (.dK [])) a2 (.lst [V.str "e", V.str "g", V.str "h"]) = H5 at x5 hde5 ha2 S5 ⊢
    refine ⟨.ref sp, rfl, .int many, rfl, sp, l, many, n3, rfl, S5, by omega, by omega, by omega, fun j H6 hj x6 S6 => ⟨1, j, rfl, rfl, _, rfl, a2, entN.map V.str, rfl, .inl (.inl (x6 _ _ a21.1 a21.2 ha2)), fun na nna => ?_⟩⟩
    have j3 : 1 + j ≤ 3 := by omega
    have ej : cutV (entN.map V.str) none (some (1 + (j : Int))) = ((entN.take (1 + j)).map V.str) := by rw [show (1 : Int) + (j : Int) = ((1 + j : Nat) : Int) by omega, cut_take, List.map_take]
    rw [ej]
    have nnd : (entN.take (1 + j)).Nodup := (List.take_sublist _ entN).nodup (by decide)
    have nlen : (entN.take (1 + j)).length = 1 + j := by rw [List.length_take]; exact Nat.min_eq_left j3
    have en : ∃ k, 1 ≤ k ∧ k ≤ 3 ∧ entN.take (1 + j) = entN.take k := ⟨1 + j, by omega, j3, rfl⟩
    generalize entN.take (1 + j) = names at nnd nlen en ⊢
    have hde6 := x6.non S5 hde5 fun _ z => nomatch z
    have n1 := S6.off nna
    have naH : H3 na = none := (x5.exS.trans x6).none (n := 0) S6 nna
    refine ⟨na, rfl, ⟨_, .inl (.inl upd_same)⟩, for_list (K := K) (xs := names.map V.str) (EInv H3 sp l va dd de na (n3 + 1) most many names vals) ⟨none, none, [], [], n3 + 1, rfl, (x5.exS.trans x6).trans (Ex.new nna).exS, upd_same, S6.new nna, by omega, (Ex.new nna) _ _ hde6, .nil, rfl, fun p m => (nomatch m)⟩ (fun i σ H7 _ ⟨_, _, _, _, _, _, _, z, _⟩ => .inl (.inl z)) (fun i v σ H7 hv h => ?_) fun σ H7 h => ?_⟩
    · obtain ⟨o4, o7, elds, kvs, m, rfl, x7, hna, S7, hm, hde, pr, lk, lv⟩ := h
      rw [List.getElem?_map] at hv
      obtain ⟨w, ew, rfl⟩ := Option.map_eq_some_iff.mp hv
      have ilt : i < names.length := (List.getElem?_eq_some_iff.mp ew).1
      have hva3 := x3 _ _ v1.1 v1.2 hva
      have hva7 := x7 _ _ v1.1 v1.2 hva3
      refine ⟨.ref sp, rfl, .ref va, rfl, sp, l, va, m, vals.map V.str, rfl, S7, by rw [List.length_map]; omega, v1.1, v1.2, .inl (.inl (.inl hva7)), by rw [List.length_map]; omega, fun q ys H8 x8 S8 nq hq pm => ?_⟩
      obtain ⟨zs, rfl, pz⟩ := perm_strs pm
      rw [List.length_map] at S8
      have q1 := S7.off nq
      have hva8 := x8 _ _ v1.1 v1.2 hva7
      refine ⟨.ref sp, rfl, .ref va, rfl, .ref va, vals.length, rfl, .inl ⟨_, .inl (.inl hva8), by rw [List.length_map]⟩, vals.length, 1, rfl, rfl, sp, l, (vals.length : Int) + 1, m + vals.length, rfl, S8, by omega, by omega, by omega, fun c H9 hc x9 S9 => ⟨c, rfl, q, _, rfl, .inl (.inl (x9 _ _ q1.1 q1.2 hq)), fun so nso => ?_⟩⟩
      rw [cut_take, ← List.map_take]
      have s1 := S9.off nso
      have xA : ExS sp l H7 (upd H9 so (.lst ((zs.take c).map V.str))) := (x8.trans x9).trans (Ex.new nso).exS
      have hso : upd H9 so (.lst ((zs.take c).map V.str)) so = some (.lst ((zs.take c).map V.str)) := upd_same
      have SA : Spr (upd H9 so (.lst ((zs.take c).map V.str))) sp l (m + vals.length + 1) := S9.new nso
      generalize upd H9 so (.lst ((zs.take c).map V.str)) = HA at xA hso SA ⊢
      have znd : (zs.take c).Nodup := (List.take_sublist _ zs).nodup (pz.nodup_iff.mpr vnd)
      have zlen : (zs.take c).length ≤ vals.length := by rw [List.length_take, pz.length_eq]; exact Nat.min_le_right _ _
      have zsub : ∀ z ∈ zs.take c, z ∈ vals := fun z mz => pz.mem_iff.mp (List.mem_of_mem_take mz)
      refine dictOne_go (σ := [some (.ref sp), some (.int most), some (.int many), some (.ref va), some (.str w), some (.ref dd), some (.ref de), some (.ref so), none]) (i := 7) rfl rfl rfl rfl SA (by omega) (xA _ _ v1.1 v1.2 hva7) v1 hso s1 vne (by omega) (by omega) znd fun ld b HB kB mB xB SB nb hb => ?_
      have x7B := xA.trans xB
      have hdeB := x7B.non S7 hde fun _ z => nomatch z
      have ek : kvs.map (·.1) = (names.take i).map Sum.inr := by rw [PR.keys (H := H7) (Paired.mapP pr fun _ _ ⟨q1, b', q2, _, q3⟩ => ⟨q1, b', q2, q3⟩), lk]
      have fr : (Sum.inr w : Key) ∉ kvs.map (·.1) := fun z => by
        rw [ek] at z
        obtain ⟨u, mu, eu⟩ := List.mem_map.mp z
        cases eu
        have nn := List.nodup_append.mp (show (names.take i ++ names.drop i).Nodup by rw [List.take_append_drop]; exact nnd)
        refine nn.2.2 _ mu _ ?_ rfl
        obtain ⟨lt, e⟩ := List.getElem?_eq_some_iff.mp ew
        rw [List.drop_eq_getElem_cons lt, e]
        exact List.mem_cons_self
      have kvl : kvs.length ≤ 3 := by
        have := congrArg List.length ek
        rw [List.length_map, List.length_map, List.length_take] at this
        omega
      refine ⟨.ref de, rfl, .str w, rfl, de, _, rfl, DPut.k (k := Sum.inr w) hdeB (by rw [sizeLine_eq]; omega), ?_⟩
      rw [putK_fresh fr]
      have deb : b ≠ de := fun z => by rw [z, xA.non S7 hde (fun _ z => nomatch z)] at nb; cases nb
      refine ⟨_, _, elds ++ [(w, ld)], kvs ++ [(.inr w, .ref b)], m + vals.length + 1 + (zs.take c).length, rfl, fun c' o c1 c2 e => ?_, (upd_ne fun z => ?_).trans (x7B _ _ n1.1 n1.2 hna), SB.put e1, by omega, upd_same, ?_, ?_, fun p hp => ?_⟩
      · exact (upd_ne fun z => by rw [z, nde] at e; cases e).trans (x7B _ _ c1 c2 (x7 _ _ c1 c2 e))
      · rw [z, hde] at hna; cases hna
      · refine paired_app (Paired.mapP pr fun l' kv ⟨q1, b', q2, q4, q3⟩ => ⟨q1, b', q2, q4, (upd_ne q4).trans (x7B.non S7 q3 fun _ z => nomatch z)⟩) ⟨rfl, b, rfl, deb, (upd_ne deb).trans hb⟩
      · rw [List.map_append, lk, List.take_add_one, ew]
        rfl
      · rcases List.mem_append.mp hp with z | z
        · exact lv p z
        · rw [List.mem_singleton.mp z]
          refine ⟨by rw [kB]; exact znd, fun q hq => ?_, mB⟩
          exact zsub _ (kB ▸ List.mem_map_of_mem hq)
    · obtain ⟨o4, o7, elds, kvs, m, rfl, x7, hna, S7, hm, hde, pr, lk, lv⟩ := h
      rw [List.length_map] at lk hm
      rw [List.take_length] at lk
      have hva3 := x3 _ _ v1.1 v1.2 hva
      have hva7 := x7 _ _ v1.1 v1.2 hva3
      refine ⟨.ref va, rfl, .ref sp, rfl, .ref va, rfl, sp, l, va, m, vals.map V.str, rfl, S7, by omega, v1.1, v1.2, hva7, by simpa using vne, by rw [List.length_map]; omega, fun y H8 my x8 S8 => ?_⟩
      obtain ⟨st, mst, rfl⟩ := List.mem_map.mp my
      refine ⟨.ref dd, rfl, .ref de, rfl, by show 4 ≤ sizeLine; decide, fun pt npt => ?_⟩
      have x28 : ExS sp l H2 H8 := (x3.trans x7).trans x8
      have xF := Ex.new (o := .tup [.ref va, .str st, .ref dd, .ref de]) npt
      refine hQ pt ⟨vals, st, lds, elds⟩ (m + 1) _ ⟨ev, mst, ⟨k3, hk3, lk3⟩, ?_, lv3, lv⟩ (by omega) ((x2.trans x28).trans xF.exS) (S8.new npt) ((x2.trans x28).none (n := 0) S8 npt) ⟨va, dd, de, upd_same, xF _ _ (x8 _ _ v1.1 v1.2 hva7), v1, ((hdd.exS x7 S3).exS x8 S7).ex xF, DD.ex xF (DD.exS x8 S7 ⟨kvs, hde, Paired.mapP pr fun _ _ ⟨q1, b', q2, _, q3⟩ => ⟨q1, b', q2, q3⟩⟩)⟩
      obtain ⟨k, z1, z2, z3⟩ := en
      exact ⟨k, z1, z2, lk.trans z3⟩
end
end TH

/-! A18: check_entry, checked_names, where they raise -/
namespace TH
open PySem PySem.Spec PyProof.Rows L2 LamV LamX XK0
/-- C with the fields fs is raised, nothing else is changed -/
def Rz (E : XK) (H : Hp) (C : Addr) (fs : List (Str × V)) : Prop := ∀ H1 dd, Ex H H1 → H1 dd = none → E (.ref C) (some dd) (upd H1 dd (.xd fs))
theorem Rz.ex {E : XK} {H H1 : Hp} {C : Addr} {fs : List (Str × V)} (x : Ex H H1) (r : Rz E H C fs) : Rz E H1 C fs := fun H2 dd y n => r H2 dd (x.trans y) n
theorem FunD.okX {K : PySem.W.Frag} {P : Program} {w : World} {mg : Str → Option Value} {base : Heap} {x qual : Str} {st : Stmt} {f : Addr} {fd : FuncData} {N ps : List Str} {k : Nat} {sp : Sp} (F : FunD K x qual (defArgs st) (defBody st) (defScope st) [] [] f fd) (S : FnScope N ps (defScope st)) (len : ∀ vs H Q E, sp vs H Q E → vs.length = ps.length)
    (hbody : ∀ (cdv : Value) (A : Around) (outer : List Env) (s : Shared) (H : Hp) (vs : List V) (Q : VK) (E : XK), Room k (A.deeper (envOfC qual (defScope st) s.heap.objs.size f cdv)) → sp vs H Q E →
      ∃ t, PSs (cxOf (L2.CX P w) P w K mg base N qual (defScope st) f cdv A outer s H E) (defBody st) t ∧ t { nx := fun _ H' => Q .non H', rt := Q } (L2.start N vs) H) : FnOk P w K mg base (L2.CX P w) (k + 1) f fd ps sp := by
  obtain ⟨oc, od, dV, kV, doc, pm, an, cdv, ct, osl, rfl, lk, hcd, _⟩ := F.ex
  exact fn_of lk hcd S len fun A outer s H vs Q E hr hsp => hbody cdv A outer s H vs Q E hr hsp
/-- no entry of the thing -/
def NoEnt (d : ThD) (v : V) : Prop := isWd v = false ∨ ∃ x, v = .str x ∧ okS x = true ∧ look d.ents x = none
def spCheckEntryX (K : PySem.W.Frag) (C CN : Addr) : Sp := fun vs H Q E => ∃ (t : Addr) (d : ThD) (v : V) (T : String), vs = [.ref t, v] ∧ IsTh H C t d ∧ Kd K H v T ∧
  ((NoEnt d v ∧ Rz E H CN [("entry", v)]) ∨ ∃ x, v = .str x ∧ okS x = true ∧ (look d.ents x).isSome = true ∧ ∀ H', Ex H H' → Q .non H')
def fewL (xs : List V) : List V := match fbw xs [] 0 with
  | none => xs
  | some i => xs.take i
def strange (few : List V) (known : List Str) : Option Nat := few.findIdx? fun x => !inV x (known.map V.str)
def badIx (xs : List V) (known : List Str) : Option Nat := match strange (fewL xs) known with
  | some j => some j
  | none => fbw xs [] 0
def spCNX (K : PySem.W.Frag) (CB : Addr) : Sp := fun vs H Q E => ∃ (v : V) (kl : Addr) (ks : List Str) (j : Nat), vs = [v, .ref kl] ∧ SqL K H kl (ks.map V.str) ∧ Rz E H CB [("index", .int j)] ∧
  ((∃ T, Kd K H v T ∧ isLt T = false ∧ j = 0) ∨ ∃ (a : Addr) (xs : List V), v = .ref a ∧ Sq K H a xs ∧ xs.length ≤ 60 ∧ (∀ x ∈ xs, ∃ T, Kd K H x T) ∧ badIx xs ks = some j)
section
variable {P : Program} {w : World} {K : PySem.W.Frag} {mg : Str → Option Value} {base : Heap} {f C CN CB : Addr} {fd : FuncData}
theorem raise_go {X : Cx} {f : Str} {C : Addr} {E : XK} {σ : L2.St} {H : Hp} {t : TE} {y : V} {Q : XK} (Ec : ∃ x, Ec1 X.K X.mg x f C) (h : ∀ Q, Q y H → t σ H Q) (r : ∀ d, H d = none → Q (.ref C) (some d) (upd H d (.xd [(f, y)]))) : tMkO C (spI1 X.K f) [] (tCons t tNil) σ H Q := by
  obtain ⟨x, Ec⟩ := Ec
  refine h _ ?_
  exact mk1_ok Ec r
end
end TH

/-! A19: checked_names, where it raises -/
namespace TH
open PySem PySem.Spec PyProof.Rows L2 LamV LamX XK0
open C8 (pss_cut tCut)
theorem fbw_some : ∀ {xs met : List V} {i j : Nat}, fbw xs met i = some j → i ≤ j ∧ j < i + xs.length ∧ ∀ x ∈ xs.take (j - i), isWd x = true
  | [], _, _, _, h => by cases h
  | x :: r, met, i, j, h => by
    have e : fbw (x :: r) met i = if (!isWd x || inV x met) = true then some i else fbw r (met ++ [x]) (i + 1) := rfl
    rw [e] at h
    by_cases c : (!isWd x || inV x met) = true
    · rw [if_pos c] at h
      cases h
      refine ⟨Nat.le_refl _, by rw [List.length_cons]; omega, fun y m => ?_⟩
      rw [Nat.sub_self] at m
      cases m
    · rw [if_neg c] at h
      obtain ⟨h1, h2, h3⟩ := fbw_some h
      refine ⟨by omega, by rw [List.length_cons]; omega, fun y m => ?_⟩
      rw [show j - i = (j - (i + 1)) + 1 by omega, List.take_succ_cons] at m
      rcases List.mem_cons.mp m with rfl | m
      · cases w : isWd y with
        | true => rfl
        | false => rw [w] at c; exact absurd rfl c
      · exact h3 y m
theorem fbw_all : ∀ {xs met : List V} {i : Nat}, fbw xs met i = none → ∀ x ∈ xs, isWd x = true
  | [], _, _, _, _, m => by cases m
  | x :: r, met, i, h, y, m => by
    have e : fbw (x :: r) met i = if (!isWd x || inV x met) = true then some i else fbw r (met ++ [x]) (i + 1) := rfl
    rw [e] at h
    by_cases c : (!isWd x || inV x met) = true
    · rw [if_pos c] at h
      cases h
    · rw [if_neg c] at h
      rcases List.mem_cons.mp m with rfl | m
      · cases w : isWd y with
        | true => rfl
        | false => rw [w] at c; exact absurd rfl c
      · exact fbw_all h y m
theorem fewL_wd {xs : List V} : ∀ x ∈ fewL xs, isWd x = true := by
  unfold fewL
  cases h : fbw xs [] 0 with
  | none => exact fbw_all h
  | some i => exact (fbw_some h).2.2
theorem fewL_len {xs : List V} : (fewL xs).length ≤ xs.length := by
  unfold fewL
  cases h : fbw xs [] 0 with
  | none => exact Nat.le_refl _
  | some i => simp only [List.length_take]; exact Nat.min_le_right _ _
/-- positions so far -/
def PosOf (p : V → Bool) (few : List V) (n : Nat) (js : List Nat) : Prop := js.head? = (few.take n).findIdx? p ∧ js.length ≤ n
theorem posOf_step {p : V → Bool} {few : List V} {n : Nat} {js : List Nat} {x : V} (h : PosOf p few n js) (e : few[n]? = some x) : PosOf p few (n + 1) (if p x = true then js ++ [n] else js) := by
  obtain ⟨h1, h2⟩ := h
  have lt := (List.getElem?_eq_some_iff.mp e).1
  have tl : (few.take n).length = n := by rw [List.length_take]; exact Nat.min_eq_left (by omega)
  have ef : (few.take (n + 1)).findIdx? p = ((few.take n).findIdx? p).or (if p x = true then some n else none) := by
    rw [List.take_add_one, e, Option.toList_some, List.findIdx?_append, List.findIdx?_singleton, tl]
    cases p x
    · rfl
    · simp
  unfold PosOf
  rw [ef, ← h1]
  cases p x with
  | false => exact ⟨by simp, by simpa using Nat.le_succ_of_le h2⟩
  | true =>
    refine ⟨?_, by simpa using h2⟩
    cases js <;> rfl
theorem map_int (js : List Nat) : (js.map fun (j : Nat) => V.int j) = (js.map fun (j : Nat) => (j : Int)).map V.int := by
  rw [List.map_map]
  rfl
section
variable {P : Program} {w : World} {K : PySem.W.Frag} {mg : Str → Option Value} {base : Heap} {f C CN CB : Addr} {fd : FuncData}
end
end TH

/-! A20: first_open, shut_ring, is_shut_ring, helpers_of, idle_lots, where they raise before anything else -/
namespace TH
open PySem PySem.Spec PyProof.Rows L2 LamV LamX XK0
open C8 (pss_cut tCut)
/-- the names nv are refused with the index j, known being told by ks -/
def BadNm (K : PySem.W.Frag) (H : Hp) (nv : V) (known : List Str) (j : Nat) : Prop := (∃ T, Kd K H nv T ∧ isLt T = false ∧ j = 0) ∨ ∃ (a : Addr) (xs : List V), nv = .ref a ∧ Sq K H a xs ∧ xs.length ≤ 60 ∧ (∀ x ∈ xs, ∃ T, Kd K H x T) ∧ ∀ ks : List Str, (∀ x, x ∈ ks ↔ x ∈ known) → badIx xs ks = some j
theorem BadNm.ex {K : PySem.W.Frag} {H H' : Hp} {nv : V} {known : List Str} {j : Nat} (x : Ex H H') (h : BadNm K H nv known j) : BadNm K H' nv known j := by
  rcases h with ⟨T, kd, nl, e⟩ | ⟨a, xs, e, sq, l, kds, b⟩
  · exact .inl ⟨T, kd.ex x, nl, e⟩
  · exact .inr ⟨a, xs, e, sq.ex x, l, fun y m => (kds y m).imp fun _ z => z.ex x, b⟩
/-- refused: by the entry, or by the names -/
def Rfs (K : PySem.W.Frag) (CN CB : Addr) (E : XK) (H : Hp) (d : ThD) (v nv : V) (known : Str → List Str) : Prop := (NoEnt d v ∧ Rz E H CN [("entry", v)]) ∨ ∃ (x : Str) (j : Nat), v = .str x ∧ okS x = true ∧ (look d.ents x).isSome = true ∧ Rz E H CB [("index", .int j)] ∧ BadNm K H nv (known x) j
def spF3X (K : PySem.W.Frag) (C CN CB : Addr) (known : ThD → Str → List Str) : Sp := fun vs H Q E => ∃ (t : Addr) (d : ThD) (v nv : V) (T : String), vs = [.ref t, v, nv] ∧ IsTh H C t d ∧ d.names.length < 60 ∧ Kd K H v T ∧ Rfs K CN CB E H d v nv (known d)
def spF4X (K : PySem.W.Frag) (C CN CB : Addr) (known : ThD → Str → List Str) : Sp := fun vs H Q E => ∃ (t : Addr) (d : ThD) (v nv p : V) (T : String), vs = [.ref t, v, nv, p] ∧ IsTh H C t d ∧ d.names.length < 60 ∧ Kd K H v T ∧ Rfs K CN CB E H d v nv (known d)
def spF2X (K : PySem.W.Frag) (C CN : Addr) : Sp := fun vs H Q E => ∃ (t : Addr) (d : ThD) (v : V) (T : String), vs = [.ref t, v] ∧ IsTh H C t d ∧ Kd K H v T ∧ NoEnt d v ∧ Rz E H CN [("entry", v)]
def allNames (d : ThD) (_ : Str) : List Str := d.names
def lessNames (d : ThD) (x : Str) : List Str := d.names.filter fun y => !decide (y = x)
section
variable {P : Program} {w : World} {K : PySem.W.Frag} {mg : Str → Option Value} {base : Heap} {f C CN CB : Addr} {fd : FuncData}
/-- the names without the entry -/
theorem less_go {K : PySem.W.Frag} {i : Nat} {tn : TE} {σ : L2.St} {H : Hp} {Q : VK} {x : Str} (Py : List Str → Prop) (hi : i ≠ 1) (sl : σ[1]? = some (some (.str x))) (li : i < σ.length) (hn : ∀ Q, (∀ p H1 (ys : List Str), ys.length ≤ 100 → Py ys → Ex H H1 → H1 p = some (.lst (ys.map V.str)) → Q (V.ref p) H1) → tn σ H Q)
    (hQ : ∀ (q : Addr) (H' : Hp) (ys : List Str), Py ys → Ex H H' → H' q = some (.lst ((ys.filter fun y => !decide (y = x)).map V.str)) → Q (.ref q) H') : tLc (iList K tn) (gName i) (tTest (tOp rNe (tVar i) (tVar 1))) (tVar i) [i] σ H Q := by
  refine hn _ fun p H1 ys len py x1 hp => ⟨p, rfl, ⟨_, .inl (.inl hp)⟩, fun D nD => ?_⟩
  refine lc_list (K := K) (xs := ys.map V.str) (fun n H2 => Ex H1 H2 ∧ H2 D = some (.lst (((ys.take n).filter fun y => !decide (y = x)).map V.str))) ⟨Ex.new nD, upd_same⟩ (fun n H2 _ h => .inl (.inl (h.1 _ _ hp))) (fun n v H2 hv h => ?_) fun H2 h => ?_
  · obtain ⟨x2, hD⟩ := h
    rw [List.getElem?_map] at hv
    obtain ⟨w, ew, rfl⟩ := Option.map_eq_some_iff.mp hv
    have ai : (((wipe σ [i]).set i (some (V.str w))))[i]? = some (some (V.str w)) := List.getElem?_set_self (by rw [wipe_length]; exact li)
    have a1 : (((wipe σ [i]).set i (some (V.str w))))[1]? = some (some (V.str x)) := by
      rw [List.getElem?_set_ne hi]
      exact (List.getElem?_set_ne hi).trans sl
    refine ⟨?_, .str w, ai, .str x, a1, rfl, _, rfl, ?_⟩
    · show ((σ.set i none).set i (some (V.str w))).set i none = σ.set i none
      rw [List.set_set, List.set_set]
    rw [List.take_add_one, ew, Option.toList_some, List.filter_append]
    by_cases q : w = x
    · rw [show (!decide (V.str w = V.str x)) = false by rw [decide_eq_true (congrArg V.str q)]; rfl]
      refine ⟨x2, ?_⟩
      rw [List.filter_cons_of_neg (by simpa using q), List.filter_nil, List.append_nil]
      exact hD
    · rw [show (!decide (V.str w = V.str x)) = true by rw [decide_eq_false (fun z => q (V.str.inj z))]; rfl]
      have ln : ((ys.take n).filter fun y => !decide (y = x)).length ≤ ys.length := Nat.le_trans (List.length_filter_le _ _) (by rw [List.length_take]; exact Nat.min_le_right _ _)
      refine ⟨.str w, ai, _, hD, by rw [sizeLine_eq, List.length_map]; omega, fun b o e => (upd_ne fun z => by rw [z, nD] at e; cases e).trans (x2 _ _ e), ?_⟩
      rw [upd_same, List.filter_cons_of_pos (by simpa using q), List.filter_nil, List.map_append]
      rfl
  · obtain ⟨x2, hD⟩ := h
    rw [List.length_map, List.take_length] at hD
    exact hQ D H2 ys py (x1.trans x2) hD
theorem less_mem {d : ThD} {x : Str} {ys : List Str} (pm : ys.Perm d.names) (z : Str) : z ∈ ys.filter (fun y => !decide (y = x)) ↔ z ∈ lessNames d x := by
  unfold lessNames
  rw [List.mem_filter, List.mem_filter, pm.mem_iff]
theorem bad_go {K : PySem.W.Frag} {CB : Addr} {E : XK} {H H2 : Hp} {Q : VK} {d : ThD} {x : Str} {nv : V} {j : Nat} {ys : List Str} {q : Addr} (x2 : Ex H H2) (rz : Rz E H CB [("index", .int j)]) (bn : BadNm K H nv (lessNames d x) j) (pm : ys.Perm d.names) (hq : H2 q = some (.lst ((ys.filter fun y => !decide (y = x)).map V.str))) : spCNX K CB [nv, .ref q] H2 Q E := by
  refine ⟨nv, q, _, j, rfl, .inl (.inl hq), rz.ex x2, ?_⟩
  rcases bn.ex x2 with z | ⟨a, xs, e, sq, l, kds, b⟩
  · exact .inl z
  · exact .inr ⟨a, xs, e, sq, l, kds, b _ (less_mem pm)⟩
end
end TH

/-! A21: is_lead, first_wrong, where all is right -/
namespace TH
open PySem PySem.Spec PyProof.Rows L2 LamV LamX XK0
open C8 (pss_cut tCut)
abbrev sIsLead : Stmt := top 20
abbrev sFirstWrong : Stmt := top 21
/-- a right lead -/
def LeadOk (vals : List Str) (wh : Bool) (ld : Ld) : Prop := (∀ q ∈ ld, q.1 ∈ vals ∧ q.2 ∈ vals) ∧ (ld.map (·.1)).Nodup ∧ ld.length ≤ 1000 ∧ (wh = true → ld.length = vals.length)
def spIsLead (K : PySem.W.Frag) : Sp := fun vs H Q _ => ∃ (a kt : Addr) (ld : Ld) (vals : List Str) (wh : Bool), vs = [.ref a, .ref kt, .bl wh] ∧ H a = some (.dK (ldV ld)) ∧ SqT K H kt (vals.map V.str) ∧ vals.length ≤ 1000 ∧ (∀ x ∈ vals, okS x = true) ∧ LeadOk vals wh ld ∧ ∀ H', Ex H H' → Q (.bl true) H'
def spFirstWrong (K : PySem.W.Frag) : Sp := fun vs H Q _ => ∃ (a kt bl : Addr) (lds : Lds) (vals bs : List Str) (wh : Bool), vs = [.ref a, .ref kt, .ref bl, .bl wh] ∧ DD H a lds ∧ SqT K H kt (vals.map V.str) ∧ SqL K H bl (bs.map V.str) ∧ vals.length ≤ 1000 ∧ (∀ x ∈ vals, okS x = true) ∧
  (∀ l ∈ lds, okS l.1 = true ∧ l.1 ∉ bs ∧ LeadOk vals wh l.2) ∧ ∀ (p : Addr) (H' : Hp), Ex H H' → H p = none → H' p = some (.lst []) → Q (.ref p) H'
theorem Ex.unlock {H H' : Hp} {a : Addr} {u v : HO} (h : H a = some u) (x : Ex (upd H a v) H') : Ex H (upd H' a u) := fun b o e => by
  by_cases z : b = a
  · subst z
    rw [upd_same]
    exact h.symm.trans e
  · exact (upd_ne z).trans (x _ _ ((upd_ne z).trans e))
/-- what is no such object stands while it is locked -/
theorem lock_ne {H H' : Hp} {a b : Addr} {u v o : HO} (h : H a = some u) (x : Ex (upd H a v) H') (e : H b = some o) (n : o ≠ u) : H' b = some o := x _ _ ((upd_ne fun z => n (by rw [z, h] at e; exact (Option.some.inj e).symm)).trans e)
theorem lock_sqT {K : PySem.W.Frag} {H H' : Hp} {a b : Addr} {kvs : List (Key × V)} {v : HO} {xs : List V} (h : H a = some (.dK kvs)) (x : Ex (upd H a v) H') (e : SqT K H b xs) : SqT K H' b xs := x.sqT (sqT_put h (fun _ z => nomatch z) (fun _ _ z => nomatch z) e)
theorem flat_strs (vals : List Str) : (vals.map V.str).all flatV = true := List.all_eq_true.mpr fun y hy => by
  obtain ⟨q, _, rfl⟩ := List.mem_map.mp hy
  rfl
theorem lookL_mem : ∀ {ld : Ld} {q : Str × Str}, (ld.map (·.1)).Nodup → q ∈ ld → lookL ld q.1 = some q.2
  | p :: r, q, nd, m => by
    rw [List.map_cons, List.nodup_cons] at nd
    unfold lookL
    rw [List.find?_cons]
    rcases List.mem_cons.mp m with rfl | m
    · rw [decide_eq_true rfl]
      rfl
    · have ne : ¬ p.1 = q.1 := fun z => nd.1 (z ▸ List.mem_map_of_mem m)
      rw [decide_eq_false ne]
      exact lookL_mem nd.2 m
section
variable {P : Program} {w : World} {K : PySem.W.Frag} {mg : Str → Option Value} {base : Heap} {f C CN CB : Addr} {fd : FuncData}
theorem scIsLead : FnScope ["thing", "known", "is_whole", "value"] ["thing", "known", "is_whole"] (defScope sIsLead) := ⟨rfl, rfl, rfl, by decide +kernel, rfl, by decide +kernel, by decide +kernel⟩
theorem ok_is_lead (F : FnP K "is_lead" sIsLead f fd) (FW : Has P w K mg base "is_word" 1 ["thing"] (spIsWord K)) (gi : mg "isinstance" = none) (gd : mg "dict" = none) (gn : mg "len" = none) : FnOk P w K mg base CX0 2 f fd ["thing", "known", "is_whole"] (spIsLead K) := by
  refine F.ok scIsLead (fun vs H Q E h => ?_) (fun cdv A outer s H vs Q E hr h => ?_)
  · obtain ⟨a, kt, ld, vals, wh, rfl, _⟩ := h
    rfl
  · have hu := hu_of hr
    refine ⟨_, PSs.nox (pss_cons (ps_if (pt_not (pt_val (pe_callB call_isi rfl gi boot_isinstance (pa_cons (pv 0) (pa_cons (pe_bltn (v := .ty "dict") rfl gd boot_dict rfl) pa_nil))))) (pss_one ps_dead) pss_nil)
      (pss_cons (ps_lock (ps_for PassesOwn.never rfl (pi_keys (pv 0)) (pg_name (i := 3) scIsLead.nd rfl (.inl rfl))
        (pss_one (ps_if (PW.pt (pw_or (pt_not (pt_val (pe_has FW hr (by decide) rfl (pa_cons (pv 3) pa_nil)))) (pw_or (pt_cmpR op_notIn_seq (pv 3) (pv 1) (by with_unfolding_all rfl)) (pw_or (pt_not (pt_val (pe_has FW hr (by decide) rfl (pa_cons (pe_dget hu (pv 0) (pv 3) (fun _ _ => rfl)) pa_nil)))) (pw_or1 (pt_cmpR op_notIn_seq (pe_dget hu (pv 0) (pv 3) (fun _ _ => rfl)) (pv 1) (by with_unfolding_all rfl))))))) (pss_one ps_dead) pss_nil))))
      (pss_one (ps_ret (pe_or (pe_not (pv 2)) (pe_one (pe_cmp (pc_eqI (pe_callB call_lenD rfl gn boot_len (pa_cons (pv 0) pa_nil)) (pe_callB call_len rfl gn boot_len (pa_cons (pv 1) pa_nil))) rfl))))))), ?_⟩
    obtain ⟨a, kt, ld, vals, wh, rfl, ha, sk, vl, vo, ⟨lok, lnd, ll, lw⟩, hQ⟩ := h
    refine ⟨.ref a, rfl, .ref a, .ty "dict", _, _, true, rfl, .ty "dict", .base (.dK ha), kit_ty (by decide +kernel), _, rfl, ?_⟩
    refine ⟨a, _, ha, trivial, fun od => ?_⟩
    have ea : ∀ {H'}, Ex (upd H a (.frz od (.dK (ldV ld)))) H' → H' a = some (.frz od (.dK (ldV ld))) := fun x => x _ _ upd_same
    refine ⟨.ref a, rfl, a, od, rfl, .inl ⟨ldV ld, upd_same, for_it walk_keys (fun i σ H7 => ∃ o3, σ = [some (.ref a), some (.ref kt), some (.bl wh), o3] ∧ Ex (upd H a (.frz od (.dK (ldV ld)))) H7) ⟨_, rfl, Ex.refl⟩ (fun i σ H7 _ ⟨_, _, x⟩ => ea x) (fun i v σ H7 H8 hi h y => ?_) fun σ H7 h => ?_⟩⟩
    · obtain ⟨o3, rfl, x7⟩ := h
      obtain ⟨rfl, k, v2, ek, rfl⟩ := y
      unfold ldV at ek
      rw [List.getElem?_map] at ek
      obtain ⟨q, eq, e2⟩ := Option.map_eq_some_iff.mp ek
      cases e2
      have mq := List.mem_of_getElem? eq
      obtain ⟨q1, q2⟩ := lok q mq
      have o1 := vo _ q1
      have o2 := vo _ q2
      have lv : lookL ld q.1 = some q.2 := lookL_mem lnd mq
      have vv : valV (ldV ld) (Sum.inr q.1) = some (.str q.2) := by rw [lookL_val, lv]; rfl
      have dg : ∀ {H'}, Ex (upd H a (.frz od (.dK (ldV ld)))) H' → DGet H' a (.str q.1) (some (.str q.2)) := fun x => vv ▸ .inl ⟨ldV ld, Sum.inr q.1, .inr ⟨od, ea x⟩, rfl, rfl⟩
      refine ⟨.str q.1, rfl, .str q.1, "str", rfl, str_kd (by have := okS_len o1; omega), fun H8 x8 => ⟨_, rfl, ?_⟩⟩
      have y8 := x7.trans x8
      rw [show isWd (.str q.1) = true from o1]
      refine ⟨.str q.1, rfl, .ref kt, rfl, kt, vals.map V.str, rfl, .inr (lock_sqT ha y8 sk), rfl, flat_strs vals, _, rfl, ?_⟩
      rw [inV_strs, decide_eq_true q1]
      refine ⟨.ref a, rfl, .str q.1, rfl, a, .str q.2, rfl, dg y8, .str q.2, "str", rfl, str_kd (by have := okS_len o2; omega), fun H9 x9 => ⟨_, rfl, ?_⟩⟩
      have y9 := y8.trans x9
      rw [show isWd (.str q.2) = true from o2]
      refine ⟨.ref a, rfl, .str q.1, rfl, a, .str q.2, rfl, dg y9, .ref kt, rfl, kt, vals.map V.str, rfl, .inr (lock_sqT ha y9 sk), rfl, flat_strs vals, _, rfl, ?_⟩
      rw [inV_strs, decide_eq_true q2]
      exact ⟨_, rfl, y9⟩
    · obtain ⟨o3, rfl, x7⟩ := h
      refine ⟨ea x7, ?_⟩
      have xu := Ex.unlock ha x7
      have ea2 : upd H7 a (.dK (ldV ld)) a = some (.dK (ldV ld)) := upd_same
      refine ⟨.bl wh, rfl, wh, rfl, !wh, rfl, ?_⟩
      cases wh with
      | false => exact hQ _ xu
      | true =>
        refine ⟨.ref a, rfl, a, ldV ld, rfl, ea2, .ref kt, rfl, .ref kt, vals.length, rfl, .inr (⟨vals.map V.str, xu.sqT sk, by rw [List.length_map]⟩), _, _, rfl, rfl, ?_⟩
        have e : decide (((ldV ld).length : Int) = (vals.length : Int)) = true := by
          unfold ldV
          rw [List.length_map, lw rfl]
          exact decide_eq_true rfl
        show Q (.bl (decide (((ldV ld).length : Int) = (vals.length : Int)))) _
        rw [e]
        exact hQ _ xu
theorem scFirstWrong : FnScope ["leads", "known", "barred", "is_whole", "name"] ["leads", "known", "barred", "is_whole"] (defScope sFirstWrong) := ⟨rfl, rfl, rfl, by decide +kernel, rfl, by decide +kernel, by decide +kernel⟩
theorem ok_first_wrong (F : FnP K "first_wrong" sFirstWrong f fd) (FW : Has P w K mg base "is_word" 1 ["thing"] (spIsWord K)) (FI : Has P w K mg base "is_lead" 2 ["thing", "known", "is_whole"] (spIsLead K)) (gi : mg "isinstance" = none) (gd : mg "dict" = none) : FnOk P w K mg base CX0 3 f fd ["leads", "known", "barred", "is_whole"] (spFirstWrong K) := by
  refine F.ok scFirstWrong (fun vs H Q E h => ?_) (fun cdv A outer s H vs Q E hr h => ?_)
  · obtain ⟨a, kt, bl, lds, vals, bs, wh, rfl, _⟩ := h
    rfl
  · have hu := hu_of hr
    refine ⟨_, PSs.nox (pss_cons (ps_if (pt_not (pt_val (pe_callB call_isi rfl gi boot_isinstance (pa_cons (pv 0) (pa_cons (pe_bltn (v := .ty "dict") rfl gd boot_dict rfl) pa_nil))))) (pss_one ps_dead) pss_nil)
      (pss_cons (ps_lock (ps_for PassesOwn.never rfl (pi_keys (pv 0)) (pg_name (i := 4) scFirstWrong.nd rfl (.inl rfl))
        (pss_one (ps_if (PW.pt (pw_or (pt_not (pt_val (pe_has FW hr (by decide) rfl (pa_cons (pv 4) pa_nil)))) (pw_or (pt_cmpR op_in_seq (pv 4) (pv 2) (by with_unfolding_all rfl)) (pw_or1 (pt_not (pt_val (pe_has FI hr (by decide) rfl (pa_cons (pe_dget hu (pv 0) (pv 4) (fun _ _ => rfl)) (pa_cons (pv 1) (pa_cons (pv 3) pa_nil)))))))))) (pss_one ps_dead) pss_nil))))
      (pss_one (ps_ret (pe_lst pa_nil))))), ?_⟩
    obtain ⟨a, kt, bl, lds, vals, bs, wh, rfl, ⟨kvs, ha, pr⟩, sk, sb, vl, vo, lok, hQ⟩ := h
    refine ⟨.ref a, rfl, .ref a, .ty "dict", _, _, true, rfl, .ty "dict", .base (.dK ha), kit_ty (by decide +kernel), _, rfl, ?_⟩
    refine ⟨a, _, ha, trivial, fun od => ?_⟩
    have ea : ∀ {H'}, Ex (upd H a (.frz od (.dK kvs))) H' → H' a = some (.frz od (.dK kvs)) := fun x => x _ _ upd_same
    have lockL : ∀ {H'} {b xs}, Ex (upd H a (.frz od (.dK kvs))) H' → SqL K H b xs → SqL K H' b xs := fun x e => by
      refine x.sqL (e.imp (Or.imp (fun z => (upd_ne fun q => ?_).trans z) fun ⟨o, z⟩ => ⟨o, (upd_ne fun q => ?_).trans z⟩) id)
      · rw [q, ha] at z; cases z
      · rw [q, ha] at z; cases z
    refine ⟨.ref a, rfl, a, od, rfl, .inl ⟨kvs, upd_same, for_it walk_keys (fun i σ H7 => ∃ o3, σ = [some (.ref a), some (.ref kt), some (.ref bl), some (.bl wh), o3] ∧ Ex (upd H a (.frz od (.dK kvs))) H7) ⟨_, rfl, Ex.refl⟩ (fun i σ H7 _ ⟨_, _, x⟩ => ea x) (fun i v σ H7 H8 hi h y => ?_) fun σ H7 h => ?_⟩⟩
    · obtain ⟨o3, rfl, x7⟩ := h
      obtain ⟨rfl, k, v2, ek, rfl⟩ := y
      obtain ⟨l, el, r1, b, r2, r3⟩ := paired_get pr ek
      have r1 : k = Sum.inr l.1 := r1
      have r2 : v2 = .ref b := r2
      subst r1 r2
      obtain ⟨o1, nb, lo⟩ := lok l (List.mem_of_getElem? el)
      have vv : ∃ l2 b2, valV kvs (Sum.inr l.1) = some (.ref b2) ∧ H b2 = some (.dK (ldV l2)) ∧ LeadOk vals wh l2 := by
        rcases look_val pr l.1 with ⟨z, _⟩ | ⟨l2, b2, z1, z2, z3⟩
        · have := look_mem (List.mem_map_of_mem (f := (·.1)) (List.mem_of_getElem? el))
          rw [z] at this
          cases this
        · refine ⟨l2, b2, z2, z3, ?_⟩
          unfold look at z1
          obtain ⟨p, e1, e2⟩ := Option.map_eq_some_iff.mp z1
          exact e2 ▸ (lok p (List.mem_of_find?_eq_some e1)).2.2
      obtain ⟨l2, b2, vv, hb2, lo2⟩ := vv
      have ne : HO.dK (ldV l2) ≠ HO.dK kvs := fun z => by
        injection z with z
        have m : ((Sum.inr l.1 : Key), V.ref b) ∈ ldV l2 := z ▸ List.mem_of_getElem? ek
        unfold ldV at m
        obtain ⟨q, _, eq⟩ := List.mem_map.mp m
        have e2 : V.str q.2 = V.ref b := congrArg Prod.snd eq
        cases e2
      refine ⟨.str l.1, rfl, .str l.1, "str", rfl, str_kd (by have := okS_len o1; omega), fun H8 x8 => ⟨_, rfl, ?_⟩⟩
      have y8 := x7.trans x8
      rw [show isWd (.str l.1) = true from o1]
      refine ⟨.str l.1, rfl, .ref bl, rfl, bl, bs.map V.str, rfl, .inl (lockL y8 sb), rfl, flat_strs bs, _, rfl, ?_⟩
      rw [inV_strs, decide_eq_false nb]
      refine ⟨.ref a, rfl, .str l.1, rfl, a, .ref b2, rfl, vv ▸ .inl ⟨kvs, Sum.inr l.1, .inr ⟨od, ea y8⟩, rfl, rfl⟩, .ref kt, rfl, .bl wh, rfl, b2, kt, l2, vals, wh, rfl, lock_ne ha y8 hb2 ne, lock_sqT ha y8 sk, vl, vo, lo2, fun H9 x9 => ⟨_, rfl, ?_⟩⟩
      exact ⟨_, rfl, y8.trans x9⟩
    · obtain ⟨o3, rfl, x7⟩ := h
      refine ⟨ea x7, Nat.zero_le _, fun p np => ?_⟩
      have xu := Ex.unlock ha x7
      exact hQ p _ (xu.trans (Ex.new np)) (xu.none np) upd_same

end
end TH

/-! A22: o.f as a target; dict comprehensions over any walk; ordered -/
namespace TH
open PySem PySem.Spec PyProof.Rows L2 LamV LamX XK0
open C8 (pss_cut tCut)
/-- o.f = .. -/
def gFld (K : PySem.W.Frag) (ta : TE) (f : Str) : TG := fun v σ H Q => ta σ H fun x H1 => ∃ a C dx fs, x = .ref a ∧ H1 a = some (.ins C dx fs) ∧ Cls K C ∧ NoAttr K C f ∧ fs.length < 1000 ∧ Q σ (upd H1 a (.ins C dx (putF f v fs)))
theorem pg_fld {X : Cx} {o : Expr} {f : Str} {pos : Pos} {ta : TE} (ha : PE X o ta)
    (hb : ∀ v, assign (.Attribute o f pos) X.env v = (do
      let ov ← holding [v] (eval o X.env)
      standAt pos.atName
      holding [v, ov] (setAttr ov f v)
      release [v, ov] []) := by intro _; rfl) : PG X (.Attribute o f pos) (gFld X.K ta f) := by
  refine ⟨fun pins s σ H v u Q I r h => ?_⟩
  rw [hb]
  refine wpAny_bind (wpAny_holding (thn (ha.run pins s σ H _ I h) fun ov s1 ⟨x, H1, I1, rx, a, C, dx, fs, ex, ea, c, n, l, q⟩ => ?_))
  subst ex
  obtain rfl : ov = Value.ref a := rx
  refine wpAny_bind (wpAny_standAt (wpAny_bind (wpAny_holding (setattr_ok I1 ea c n l r fun s2 I2 => ?_))))
  exact wpAny_release ⟨σ, _, I2, q⟩
/-- a dict comprehension over any walk -/
theorem dc_it {J : L2.It} {n : Nat} {G : Hp → Prop} {Y : Nat → Hp → V → Hp → Prop} (w : Walk J n G Y) {g : TG} {tt : TT} {tk tv : TE} {vs : List Nat} {σ : L2.St} {H1 : Hp} {D : Addr} {Qd : Hp → Prop} (Pv : Nat → Hp → Prop) (h0 : Pv 0 (upd H1 D (.dK []))) (hG : ∀ i H, i ≤ n → Pv i H → G H)
    (hs : ∀ i x H H', i < n → Pv i H → Y i H x H' → g x (wipe σ vs) H' fun σ2 H2 => wipe σ2 vs = wipe σ vs ∧ tt σ2 H2 fun b H3 =>
      if b = true then tk σ2 H3 fun y H4 => tv σ2 H4 fun z H5 => ∃ kvs k, y = kV k ∧ H5 D = some (.dK kvs) ∧ kvs.length < sizeLine ∧ Pv (i + 1) (upd H5 D (.dK (putK kvs k z))) else Pv (i + 1) H3) (hd : ∀ H, Pv n H → Qd H) :
    ∃ W : Nat → Nat → Hp → Prop, (∃ m, W 0 m (upd H1 D (.dK []))) ∧ ∀ i m H, W i m H →
      (J.stop i H ∧ Qd H) ∨ (J.go i H ∧ ∃ Nx : Hp → Prop, (∀ H', Nx H' → ∃ m', m' < m ∧ W (i + 1) m' H') ∧ ∀ x H', J.yld i H x H' → g x (wipe σ vs) H' fun σ2 H2 => wipe σ2 vs = wipe σ vs ∧ tt σ2 H2 fun b H3 =>
        if b = true then tk σ2 H3 fun y H4 => tv σ2 H4 fun z H5 => ∃ kvs k, y = kV k ∧ H5 D = some (.dK kvs) ∧ kvs.length < sizeLine ∧ Nx (upd H5 D (.dK (putK kvs k z))) else Nx H3) := by
  refine ⟨fun i m H => m = n - i ∧ i ≤ n ∧ Pv i H, ⟨n, by simp, Nat.zero_le _, h0⟩, ?_⟩
  rintro i m H ⟨rfl, hi, p⟩
  have q := hG i H hi p
  by_cases hlt : i < n
  · exact .inr ⟨w.goes i H hlt q, Pv (i + 1), fun H' p' => ⟨n - (i + 1), by omega, rfl, hlt, p'⟩, fun x H' y => hs i x H H' hlt p (w.yields i H x H' hlt q y)⟩
  · have e : i = n := by omega
    subst e
    exact .inl ⟨w.stops H q, hd H p⟩
/-! ### ordered -/
abbrev sOrdered : Stmt := top 22
def ordL (vals : List Str) (l : Ld) : Ld := vals.filterMap fun v => (lookL l v).map fun g => (v, g)
theorem ordL_snoc (vals : List Str) (v : Str) (l : Ld) : ordL (vals ++ [v]) l = ordL vals l ++ (match lookL l v with | some g => [(v, g)] | none => []) := by
  unfold ordL
  rw [List.filterMap_append]
  congr 1
  cases h : lookL l v <;> simp [h]
theorem ordL_keys {vals : List Str} {l : Ld} {v : Str} (h : v ∈ (ordL vals l).map (·.1)) : v ∈ vals := by
  obtain ⟨q, hq, rfl⟩ := List.mem_map.mp h
  unfold ordL at hq
  obtain ⟨u, hu, e⟩ := List.mem_filterMap.mp hq
  obtain ⟨g, _, rfl⟩ := Option.map_eq_some_iff.mp e
  exact hu
theorem ordL_len (vals : List Str) (l : Ld) : (ordL vals l).length ≤ vals.length := List.length_filterMap_le _ _
theorem ldV_keys (l : Ld) : (ldV l).map (·.1) = (l.map (·.1)).map Sum.inr := by
  unfold ldV
  rw [List.map_map, List.map_map]
  rfl
/-- the inner dict -/
def tIN (K : PySem.W.Frag) : TE := tDc (iList K (tVar 1)) (gName 3) (tTest (tDIn (tVar 3) (tDGet (tVar 0) (tVar 2)))) (tVar 3) (tDGet (tDGet (tVar 0) (tVar 2)) (tVar 3)) [3]
theorem take_fresh {α : Type} {xs : List α} {i : Nat} {x : α} (nd : xs.Nodup) (e : xs[i]? = some x) : x ∉ xs.take i := fun m => by
  have nn := List.nodup_append.mp (show (xs.take i ++ xs.drop i).Nodup by rw [List.take_append_drop]; exact nd)
  refine nn.2.2 _ m _ ?_ rfl
  obtain ⟨lt, e⟩ := List.getElem?_eq_some_iff.mp e
  rw [List.drop_eq_getElem_cons lt, e]
  exact List.mem_cons_self
theorem inner_go {K : PySem.W.Frag} {σ : L2.St} {H : Hp} {Q : VK} {a kl b : Addr} {name : Str} {kvs : List (Key × V)} {l : Ld} {vals : List Str} (len : σ.length = 4) (s0 : σ[0]? = some (some (.ref a))) (s1 : σ[1]? = some (some (.ref kl))) (s2 : σ[2]? = some (some (.str name)))
    (ha : H a = some (.dK kvs)) (hv : valV kvs (Sum.inr name) = some (.ref b)) (hb : H b = some (.dK (ldV l))) (hk : SqL K H kl (vals.map V.str)) (nd : vals.Nodup) (vl : vals.length ≤ 1000)
    (hQ : ∀ (p : Addr) (H' : Hp), Ex H H' → H p = none → H' p = some (.dK (ldV (ordL vals l))) → Q (.ref p) H') : tIN K σ H Q := by
  refine ⟨.ref kl, s1, kl, rfl, ⟨_, hk⟩, fun D nD => ?_⟩
  refine dc_it (walk_list (xs := vals.map V.str)) (fun i H2 => Ex H H2 ∧ H2 D = some (.dK (ldV (ordL (vals.take i) l)))) ⟨Ex.new nD, upd_same⟩ (fun i H2 _ h => h.1.sqL hk) (fun i v H2 H3 hi h y => ?_) fun H2 h => ?_
  · obtain ⟨x2, hD⟩ := h
    obtain ⟨rfl, y⟩ := y
    rw [List.getElem?_map] at y
    obtain ⟨w, ew, rfl⟩ := Option.map_eq_some_iff.mp y
    have a3 : (((wipe σ [3]).set 3 (some (V.str w))))[3]? = some (some (V.str w)) := List.getElem?_set_self (by rw [wipe_length, len]; decide)
    have up : ∀ j, j ≠ 3 → (((wipe σ [3]).set 3 (some (V.str w))))[j]? = σ[j]? := fun j hj => by
      rw [List.getElem?_set_ne hj.symm]
      exact List.getElem?_set_ne hj.symm
    have a0 := (up 0 (by decide)).trans s0
    have a2 := (up 2 (by decide)).trans s2
    have g1 : DGet H3 a (.str name) (some (.ref b)) := hv ▸ DGet.k (k := Sum.inr name) (x2 _ _ ha)
    have g2 : DGet H3 b (.str w) (valV (ldV l) (Sum.inr w)) := DGet.k (k := Sum.inr w) (x2 _ _ hb)
    refine ⟨?_, .str w, a3, .ref a, a0, .str name, a2, a, .ref b, rfl, g1, b, _, rfl, g2, _, rfl, ?_⟩
    · show ((σ.set 3 none).set 3 (some (V.str w))).set 3 none = σ.set 3 none
      rw [List.set_set, List.set_set]
    rw [List.take_add_one, ew, Option.toList_some, ordL_snoc]
    rw [lookL_val] at g2 ⊢
    cases q : lookL l w with
    | none => exact ⟨x2, by rw [List.append_nil]; exact hD⟩
    | some g =>
      rw [q] at g2
      have fr : (Sum.inr w : Key) ∉ (ldV (ordL (vals.take i) l)).map (·.1) := fun z => by
        rw [ldV_keys] at z
        obtain ⟨u, mu, eu⟩ := List.mem_map.mp z
        cases eu
        exact take_fresh nd ew (ordL_keys mu)
      have ln : (ldV (ordL (vals.take i) l)).length ≤ vals.length := by
        unfold ldV
        rw [List.length_map]
        exact Nat.le_trans (ordL_len _ _) (by rw [List.length_take]; exact Nat.min_le_right _ _)
      refine ⟨.str w, a3, .ref a, a0, .str name, a2, a, .ref b, rfl, g1, .str w, a3, b, .str g, rfl, g2, _, Sum.inr w, rfl, hD, by rw [sizeLine_eq]; omega, fun c o e => (upd_ne fun z => by rw [z, nD] at e; cases e).trans (x2 _ _ e), ?_⟩
      rw [upd_same, putK_fresh fr]
      unfold ldV
      rw [List.map_append]
      rfl
  · obtain ⟨x2, hD⟩ := h
    rw [List.length_map, List.take_length] at hD
    exact hQ D H2 x2 nD hD
/-- as PR, none of the dicts being N -/
def PRn (N : Addr) (H : Hp) (lds : Lds) (kvs : List (Key × V)) : Prop := Paired (fun (l : Str × Ld) (kv : Key × V) => kv.1 = Sum.inr l.1 ∧ ∃ b, kv.2 = .ref b ∧ b ≠ N ∧ H b = some (.dK (ldV l.2))) lds kvs
theorem PRn.pr {N : Addr} {H : Hp} {lds : Lds} {kvs : List (Key × V)} (p : PRn N H lds kvs) : PR H lds kvs := Paired.mapP p fun _ _ ⟨e1, b, e2, _, e3⟩ => ⟨e1, b, e2, e3⟩
def ordD (vals : List Str) (lds : Lds) (ns : List Str) : Lds := ns.map fun n => (n, ordL vals ((look lds n).getD []))
def spOrdered (K : PySem.W.Frag) : Sp := fun vs H Q _ => ∃ (a kl : Addr) (lds : Lds) (vals : List Str), vs = [.ref a, .ref kl] ∧ DD H a lds ∧ (lds.map (·.1)).Nodup ∧ lds.length < 64 ∧ SqL K H kl (vals.map V.str) ∧ vals.Nodup ∧ vals.length ≤ 1000 ∧
  ∀ (p : Addr) (H' : Hp) (ns : List Str), ns.Perm (lds.map (·.1)) → sortedS ns = true → Ex H H' → H p = none → DD H' p (ordD vals lds ns) → Q (.ref p) H'
section
variable {P : Program} {w : World} {K : PySem.W.Frag} {mg : Str → Option Value} {base : Heap} {f C CN CB : Addr} {fd : FuncData}
theorem scOrdered : FnScope ["leads", "known", "name", "value"] ["leads", "known"] (defScope sOrdered) := ⟨rfl, rfl, rfl, by decide +kernel, rfl, by decide +kernel, by decide +kernel⟩
theorem ok_ordered (F : FnP K "ordered" sOrdered f fd) (gs : mg "sorted" = none) : FnOk P w K mg base CX0 1 f fd ["leads", "known"] (spOrdered K) := by
  refine F.ok scOrdered (fun vs H Q E h => ?_) (fun cdv A outer s H vs Q E hr h => ?_)
  · obtain ⟨a, kl, lds, vals, rfl, _⟩ := h
    rfl
  · have hu := hu_of hr
    refine ⟨_, PSs.nox (pss_one (ps_ret (pe_dc (own := [("name", 2)]) (tk := tVar 2) (tv := tIN K) rfl scOrdered.nd (pi_list (pe_callB (call_sortedD rfl) rfl gs boot_sorted (pa_cons (pv 0) pa_nil))) (blkOk_by (by kernel_rfl)) (fun s H C cl fp => pg_name (i := 2) scOrdered.nd rfl (.inr rfl) (.inl rfl)) (fun s H C cl fp => pts_nil) (fun s H C cl fp => pv 2)
      (fun s H C cl fp => pe_dc (own := [("value", 3)]) (tt := tTest (tDIn (tVar 3) (tDGet (tVar 0) (tVar 2)))) (tk := tVar 3) (tv := tDGet (tDGet (tVar 0) (tVar 2)) (tVar 3)) rfl scOrdered.nd (pi_list (pv 1)) (blkOk_by (by kernel_rfl)) (fun s H C cl fp => pg_name (i := 3) scOrdered.nd rfl (.inl rfl) (.inr rfl))
        (fun s H C cl fp => pts_one (pt_cmp (pc_din hu (pv 3) (pe_dget hu (pv 0) (pv 2) (fun _ _ => rfl))))) (fun s H C cl fp => pv 3) (fun s H C cl fp => pe_dget hu (pe_dget hu (pv 0) (pv 2) (fun _ _ => rfl)) (pv 3) (fun _ _ => rfl)))))), ?_⟩
    obtain ⟨a, kl, lds, vals, rfl, ⟨kvs, ha, pr⟩, knd, kln, sk, nd, vl, hQ⟩ := h
    refine ⟨.ref a, rfl, a, kvs, lds.map (·.1), rfl, .inl ha, PR.keys pr, by rw [List.length_map]; exact kln, fun ns q pm so nq => ?_⟩
    have x1 : Ex H (upd H q (.lst (ns.map V.str))) := Ex.new nq
    have hq : upd H q (.lst (ns.map V.str)) q = some (.lst (ns.map V.str)) := upd_same
    generalize upd H q (.lst (ns.map V.str)) = H1 at x1 hq ⊢
    refine ⟨q, rfl, ⟨_, .inl (.inl hq)⟩, fun D nD => ?_⟩
    have nnd : ns.Nodup := pm.nodup_iff.mpr knd
    have nln : ns.length < 64 := by rw [pm.length_eq, List.length_map]; exact kln
    refine dc_it (walk_list (xs := ns.map V.str)) (fun i H2 => Ex H1 H2 ∧ ∃ ks, H2 D = some (.dK ks) ∧ PRn D H2 (ordD vals lds (ns.take i)) ks) ⟨Ex.new nD, [], upd_same, .nil⟩ (fun i H2 _ h => .inl (.inl (h.1 _ _ hq))) (fun i v H2 H3 hi h y => ?_) fun H2 h => ?_
    · obtain ⟨x2, ks, hD, pk⟩ := h
      obtain ⟨rfl, y⟩ := y
      rw [List.getElem?_map] at y
      obtain ⟨n, en, rfl⟩ := Option.map_eq_some_iff.mp y
      have y2 := x1.trans x2
      have mn : n ∈ lds.map (·.1) := pm.mem_iff.mp (List.mem_of_getElem? en)
      rcases look_val pr n with ⟨z, _⟩ | ⟨l, b, z1, z2, z3⟩
      · have := look_mem mn
        rw [z] at this
        cases this
      · refine ⟨rfl, .str n, rfl, ?_⟩
        refine inner_go (b := b) (l := l) rfl rfl rfl rfl (y2 _ _ ha) z2 (y2 _ _ z3) (y2.sqL sk) nd vl fun p H4 x4 np hp => ?_
        have fr : (Sum.inr n : Key) ∉ ks.map (·.1) := fun z => by
          rw [pk.pr.keys] at z
          obtain ⟨u, mu, eu⟩ := List.mem_map.mp z
          cases eu
          unfold ordD at mu
          rw [List.map_map] at mu
          obtain ⟨u, m2, e2⟩ := List.mem_map.mp mu
          have e2 : u = n := e2
          subst e2
          exact take_fresh nnd en m2
        have kl2 : ks.length < 64 := by
          have e := congrArg List.length pk.pr.keys
          unfold ordD at e
          simp only [List.length_map, List.length_take] at e
          omega
        have pD : p ≠ D := fun z => by rw [z, hD] at np; cases np
        refine ⟨ks, Sum.inr n, rfl, x4 _ _ hD, by rw [sizeLine_eq]; omega, fun c o e => (upd_ne fun z => by rw [z, nD] at e; cases e).trans (x4 _ _ (x2 _ _ e)), _, upd_same, ?_⟩
        rw [putK_fresh fr, List.take_add_one, en, Option.toList_some]
        unfold ordD
        rw [List.map_append]
        refine paired_app (Paired.mapP pk fun l' kv ⟨q1, b', q2, q4, q3⟩ => ⟨q1, b', q2, q4, (upd_ne q4).trans (x4 _ _ q3)⟩) ⟨rfl, p, rfl, pD, (upd_ne pD).trans ?_⟩
        rw [hp]
        show _ = some (HO.dK (ldV (ordL vals ((look lds n).getD []))))
        rw [z1]
        rfl
    · obtain ⟨x2, ks, hD, pk⟩ := h
      rw [List.length_map, List.take_length] at pk
      exact hQ D H2 ns pm so (x1.trans x2) (x1.none nD) ⟨ks, hD, pk.pr⟩
end
end TH

/-! A23: Thing.__init__ of right parts, _law_made -/
namespace TH
open PySem PySem.Spec PyProof.Rows L2 LamV LamX XK0
open C8 (pss_cut tCut)
abbrev sInit : Stmt := inClass (top 23) 0
abbrev sMade : Stmt := top 48
/-- all but p stands -/
def ExA (p : Addr) (H H' : Hp) : Prop := ∀ b o, b ≠ p → H b = some o → H' b = some o
theorem Ex.exA {p : Addr} {H H' : Hp} (x : Ex H H') : ExA p H H' := fun b o _ e => x b o e
theorem ExA.trans {p : Addr} {H H1 H2 : Hp} (x : ExA p H H1) (y : ExA p H1 H2) : ExA p H H2 := fun b o n e => y b o n (x b o n e)
theorem ExA.upd {p : Addr} {H : Hp} {o : HO} : ExA p H (upd H p o) := fun b _ n e => (upd_ne n).trans e
theorem ExA.non {p b : Addr} {H H' : Hp} {o u : HO} (x : ExA p H H') (hp : H p = some u) (h : H b = some o) (n : o ≠ u) : H' b = some o := x b o (fun z => n (by rw [z, hp] at h; exact (Option.some.inj h).symm)) h
theorem ExA.sqL {K : PySem.W.Frag} {p a : Addr} {H H' : Hp} {C dx : Addr} {fs : List (Str × V)} {xs : List V} (x : ExA p H H') (hp : H p = some (.ins C dx fs)) (h : SqL K H a xs) : SqL K H' a xs := h.imp (Or.imp (fun z => x.non hp z fun q => nomatch q) fun ⟨o, z⟩ => ⟨o, x.non hp z fun q => nomatch q⟩) id
theorem ExA.sqT {K : PySem.W.Frag} {p a : Addr} {H H' : Hp} {C dx : Addr} {fs : List (Str × V)} {xs : List V} (x : ExA p H H') (hp : H p = some (.ins C dx fs)) (h : SqT K H a xs) : SqT K H' a xs := h.imp (Or.imp (fun z => x.non hp z fun q => nomatch q) fun ⟨o, z⟩ => ⟨o, x.non hp z fun q => nomatch q⟩) id
theorem DD.exA {p a : Addr} {H H' : Hp} {C dx : Addr} {fs : List (Str × V)} {ls : Lds} (x : ExA p H H') (hp : H p = some (.ins C dx fs)) (h : DD H a ls) : DD H' a ls := by
  obtain ⟨kvs, e, q⟩ := h
  exact ⟨kvs, x.non hp e (fun z => nomatch z), Paired.mapP q fun _ _ ⟨e1, b, e2, e3⟩ => ⟨e1, b, e2, x.non hp e3 fun z => nomatch z⟩⟩
theorem putF_new {f : Str} {v : V} : ∀ {fs : List (Str × V)}, f ∉ fs.map (·.1) → putF f v fs = fs ++ [(f, v)]
  | [], _ => rfl
  | (g, x) :: r, h => by
    simp only [List.map_cons, List.mem_cons, not_or] at h
    show (if g = f then (g, v) :: r else (g, x) :: putF f v r) = _
    rw [if_neg fun z => h.1 z.symm, putF_new h.2]
    rfl
/-- parts that Thing takes -/
structure ThD.Fit (d : ThD) : Prop where
  vne : d.vals ≠ []
  vok : ∀ x ∈ d.vals, okS x = true
  vnd : d.vals.Nodup
  vln : d.vals.length ≤ 60
  st : d.start ∈ d.vals
  dln : d.deeds.length < 60
  eln : d.ents.length < 60
  dnd : (d.deeds.map (·.1)).Nodup
  end_ : (d.ents.map (·.1)).Nodup
  dok : ∀ l ∈ d.deeds, okS l.1 = true ∧ LeadOk d.vals true l.2
  eok : ∀ l ∈ d.ents, okS l.1 = true ∧ l.1 ∉ d.deeds.map (·.1) ∧ LeadOk d.vals false l.2
/-- the thing made of such parts: names in order, values in theirs -/
def IsOrd (d d' : ThD) : Prop := ∃ ns ms, ns.Perm (d.deeds.map (·.1)) ∧ sortedS ns = true ∧ ms.Perm (d.ents.map (·.1)) ∧ sortedS ms = true ∧ d' = ⟨d.vals, d.start, ordD d.vals d.deeds ns, ordD d.vals d.ents ms⟩
def spInit (K : PySem.W.Frag) (C : Addr) : Sp := fun vs H Q _ => ∃ (p dx vl dd de : Addr) (d : ThD), vs = [.ref p, .ref vl, .str d.start, .ref dd, .ref de] ∧ H p = some (.ins C dx []) ∧ SqL K H vl (d.vals.map V.str) ∧ DD H dd d.deeds ∧ DD H de d.ents ∧ d.Fit ∧
  ∀ (H' : Hp) (d' : ThD), ExA p H H' → IsTh H' C p d' → IsOrd d d' → Q .non H'
section
variable {P : Program} {w : World} {K : PySem.W.Frag} {mg : Str → Option Value} {base : Heap} {f C CN CB : Addr} {fd : FuncData}
theorem scInit : FnScope ["self", "values", "start", "deeds", "entries", "index", "wrong"] ["self", "values", "start", "deeds", "entries"] (defScope sInit) := ⟨rfl, rfl, rfl, by decide +kernel, rfl, by decide +kernel, by decide +kernel⟩
def f2 (a b : V) : List (Str × V) := [("kept_values", a), ("kept_start", b)]
def f4 (a b c d : V) : List (Str × V) := [("kept_values", a), ("kept_start", b), ("kept_deeds", c), ("kept_entries", d)]
theorem flds2 (a b : V) : putF "kept_start" b (putF "kept_values" a []) = f2 a b := by
  have n1 : ("kept_start" : Str) ∉ ([("kept_values" : Str)] : List Str) := by decide +kernel
  exact putF_new (fs := [(("kept_values" : Str), a)]) n1
theorem flds4 (a b c d : V) : putF "kept_entries" d (putF "kept_deeds" c (f2 a b)) = f4 a b c d := by
  have n2 : ("kept_deeds" : Str) ∉ ([("kept_values" : Str), "kept_start"] : List Str) := by decide +kernel
  have n3 : ("kept_entries" : Str) ∉ ([("kept_values" : Str), "kept_start", "kept_deeds"] : List Str) := by decide +kernel
  rw [putF_new (f := "kept_deeds") (fs := f2 a b) n2]
  exact putF_new (fs := f2 a b ++ [(("kept_deeds" : Str), c)]) n3
theorem ok_init (F : FunD K "__init__" "Thing.__init__" (defArgs sInit) (defBody sInit) (defScope sInit) [] [] f fd) (T : ThC K C) (FB : Has P w K mg base "first_bad_word" 2 ["things", "barred"] (spFirstBad K)) (FW : Has P w K mg base "is_word" 1 ["thing"] (spIsWord K)) (FR : Has P w K mg base "first_wrong" 3 ["leads", "known", "barred", "is_whole"] (spFirstWrong K)) (FO : Has P w K mg base "ordered" 1 ["leads", "known"] (spOrdered K)) (gn : mg "len" = none) (gt : mg "tuple" = none) (gl : mg "list" = none) :
    FnOk P w K mg base CX0 4 f fd ["self", "values", "start", "deeds", "entries"] (spInit K C) := by
  refine F.ok scInit (fun vs H Q E h => ?_) (fun cdv A outer s H vs Q E hr h => ?_)
  · obtain ⟨p, dx, vl, dd, de, d, rfl, _⟩ := h
    rfl
  · have hu := hu_of hr
    refine ⟨_, PSs.nox (pss_cons (ps_set (i := 5) scInit.nd rfl (.inl rfl) (pe_has FB hr (by decide) rfl (pa_cons (pv 1) (pa_cons (pe_lst pa_nil) pa_nil))))
      (pss_cons (ps_if (PW.pt (pw_or (pt_cmp (pc_notN (pv 5))) (pw_or1 (pt_cmp (pc_eqI (pe_callB call_len rfl gn boot_len (pa_cons (pv 1) pa_nil)) pe_int))))) (pss_one ps_dead) pss_nil)
      (pss_cons (ps_if (PW.pt (pw_or (pt_not (pt_val (pe_has FW hr (by decide) rfl (pa_cons (pv 2) pa_nil)))) (pw_or1 (pt_cmpR op_notIn_seq (pv 2) (pv 1) (by with_unfolding_all rfl))))) (pss_one ps_dead) pss_nil)
      (pss_cons (ps_asg (pe_tup (pa_cons (pe_callTy call_tuple_of rfl gt boot_tuple (pa_cons (pv 1) pa_nil)) (pa_cons (pv 2) pa_nil))) (pg_tup rfl (pgs_cons (pg_fld (pv 0)) (pgs_cons (pg_fld (pv 0)) pgs_nil))))
      (pss_cons (ps_set (i := 6) scInit.nd rfl (.inl rfl) (pe_has FR hr (by decide) rfl (pa_cons (pv 3) (pa_cons (pe_fld (pv 0) rfl) (pa_cons (pe_lst pa_nil) (pa_cons pe_bl pa_nil))))))
      (pss_cons (ps_if (pt_cmpR (op_neD hr.units) (pv 6) (pe_lst pa_nil) (nomark _)) (pss_one ps_dead) pss_nil)
      (pss_cons (ps_set (i := 6) scInit.nd rfl (.inl rfl) (pe_has FR hr (by decide) rfl (pa_cons (pv 4) (pa_cons (pe_fld (pv 0) rfl) (pa_cons (pe_callTy (call_listD rfl) rfl gl boot_list (pa_cons (pv 3) pa_nil)) (pa_cons pe_bl pa_nil))))))
      (pss_cons (ps_if (pt_cmpR (op_neD hr.units) (pv 6) (pe_lst pa_nil) (nomark _)) (pss_one ps_dead) pss_nil)
      (pss_one (ps_asg (pe_tup (pa_cons (pe_has FO hr (by decide) rfl (pa_cons (pv 3) (pa_cons (pv 1) pa_nil))) (pa_cons (pe_has FO hr (by decide) rfl (pa_cons (pv 4) (pa_cons (pv 1) pa_nil))) pa_nil))) (pg_tup rfl (pgs_cons (pg_fld (pv 0)) (pgs_cons (pg_fld (pv 0)) pgs_nil))))))))))))), ?_⟩
    obtain ⟨p, dx, vl, dd, de, d, rfl, hp, sv, hdd, hde, ft, hQ⟩ := h
    refine ⟨.ref vl, rfl, Nat.zero_le _, fun e0 n0 => ?_⟩
    have x0 : Ex H (upd H e0 (.lst [])) := Ex.new n0
    refine ⟨.ref vl, e0, rfl, upd_same, .inr ⟨vl, d.vals.map V.str, rfl, .inl (x0.sqL sv), by rw [List.length_map]; have := ft.vln; omega, fun v m => ?_, fun H1 x1 => ?_⟩⟩
    · obtain ⟨x, mx, rfl⟩ := List.mem_map.mp m
      exact ⟨_, str_kd (by have := okS_len (ft.vok x mx); omega)⟩
    have fn : fbw (d.vals.map V.str) [] 0 = none := fbw_none d.vals [] 0 ft.vok ft.vnd fun _ _ z => nomatch z
    rw [fn]
    have y1 := x0.trans x1
    have vpos : 0 < d.vals.length := List.length_pos_iff.mpr ft.vne
    refine ⟨.non, rfl, _, rfl, .ref vl, rfl, .ref vl, d.vals.length, rfl, .inl ⟨_, y1.sqL sv, by rw [List.length_map]⟩, d.vals.length, 0, rfl, rfl, false, congrArg V.bl (decide_eq_false (by omega)), ?_⟩
    refine ⟨.str d.start, rfl, .str d.start, "str", rfl, str_kd (by have := okS_len (ft.vok _ ft.st); omega), fun H2 x2 => ⟨_, rfl, ?_⟩⟩
    have y2 := y1.trans x2
    rw [show isWd (.str d.start) = true from ft.vok _ ft.st]
    refine ⟨.str d.start, rfl, .ref vl, rfl, vl, _, rfl, .inl (y2.sqL sv), rfl, flat_strs _, _, rfl, ?_⟩
    rw [inV_strs, decide_eq_true ft.st]
    refine ⟨.ref vl, rfl, vl, _, rfl, .inl ⟨y2.sqL sv, fun vt nvt => ⟨.str d.start, rfl, by show 2 ≤ sizeLine; decide, fun tp ntp => ?_⟩⟩⟩
    have y3 : Ex H2 (upd (upd H2 vt (.tup (d.vals.map V.str))) tp (.tup [.ref vt, .str d.start])) := (Ex.new nvt).trans (Ex.new ntp)
    have hvt : upd (upd H2 vt (.tup (d.vals.map V.str))) tp (.tup [.ref vt, .str d.start]) vt = some (.tup (d.vals.map V.str)) := (Ex.new ntp) _ _ upd_same
    have htp : upd (upd H2 vt (.tup (d.vals.map V.str))) tp (.tup [.ref vt, .str d.start]) tp = some (.tup [.ref vt, .str d.start]) := upd_same
    generalize upd (upd H2 vt (.tup (d.vals.map V.str))) tp (.tup [.ref vt, .str d.start]) = H3 at y3 hvt htp ⊢
    have z3 := y2.trans y3
    have hp3 := z3 _ _ hp
    refine ⟨tp, _, rfl, .inl (.inl htp), rfl, .ref vt, _, rfl, .ref p, rfl, p, C, dx, _, rfl, hp3, T.cls, T.vals, by decide, .str d.start, [], rfl, .ref p, rfl, p, C, dx, _, rfl, upd_same, T.cls, T.start, by show 1 < 1000; decide, rfl, ?_⟩
    have xa : ExA p H (upd (upd H3 p (.ins C dx (putF "kept_values" (.ref vt) []))) p (.ins C dx (putF "kept_start" (.str d.start) (putF "kept_values" (.ref vt) [])))) := (z3.exA.trans ExA.upd).trans ExA.upd
    have hp4 : upd (upd H3 p (.ins C dx (putF "kept_values" (.ref vt) []))) p (.ins C dx (putF "kept_start" (.str d.start) (putF "kept_values" (.ref vt) []))) p = _ := upd_same
    have hvt4 : upd (upd H3 p (.ins C dx (putF "kept_values" (.ref vt) []))) p (.ins C dx (putF "kept_start" (.str d.start) (putF "kept_values" (.ref vt) []))) vt = some (.tup (d.vals.map V.str)) := ((ExA.upd (p := p) (H := H3)).trans ExA.upd).non hp3 hvt fun q => nomatch q
    generalize upd (upd H3 p (.ins C dx (putF "kept_values" (.ref vt) []))) p (.ins C dx (putF "kept_start" (.str d.start) (putF "kept_values" (.ref vt) []))) = H4 at xa hp4 hvt4 ⊢
    rw [flds2] at hp4
    have S4 : ∀ {Hx}, Ex H4 Hx → Hx p = some (.ins C dx (f2 (.ref vt) (.str d.start))) ∧ Hx vt = some (.tup (d.vals.map V.str)) ∧ SqL K Hx vl (d.vals.map V.str) ∧ DD Hx dd d.deeds ∧ DD Hx de d.ents := fun x => ⟨x _ _ hp4, x _ _ hvt4, x.sqL (xa.sqL hp sv), (hdd.exA xa hp).ex x, (hde.exA xa hp).ex x⟩
    clear hvt htp hvt4
    refine ⟨.ref dd, rfl, .ref p, rfl, p, C, dx, _, .ref vt, rfl, hp4, T.cls, T.vals, rfl, Nat.zero_le _, fun e1 ne1 => ?_⟩
    have w1 : Ex H4 (upd H4 e1 (.lst [])) := Ex.new ne1
    obtain ⟨a1, a2, a3, a4, a5⟩ := S4 w1
    refine ⟨dd, vt, e1, d.deeds, d.vals, [], true, rfl, a4, .inl (.inl a2), .inl (.inl upd_same), by have := ft.vln; omega, ft.vok, fun l m => ⟨(ft.dok l m).1, fun z => (nomatch z), (ft.dok l m).2⟩, fun q1 H5 x5 nq1 hq1 => ?_⟩
    have w2 := w1.trans x5
    refine ⟨.ref q1, rfl, Nat.zero_le _, fun e2 n2 => ⟨.list [], .list [], .lst (.inl (.inl ((Ex.new n2) _ _ hq1))) .nil, .lst (.inl (.inl upd_same)) .nil, rfl, rfl, false, rfl, ?_⟩⟩
    have w3 := w2.trans (Ex.new (o := .lst []) n2)
    obtain ⟨b1, b2, b3, b4, b5⟩ := S4 w3
    obtain ⟨kvs, hk, pk⟩ := id b4
    have ek := DD.keys pk fun _ _ r => r.1
    refine ⟨.ref de, rfl, .ref p, rfl, p, C, dx, _, .ref vt, rfl, b1, T.cls, T.vals, rfl, .ref dd, rfl, dd, kvs, rfl, .inl hk, fun bl nbl => ?_⟩
    rw [ek, show (d.deeds.map fun l => V.str l.1) = (d.deeds.map (·.1)).map V.str by rw [List.map_map]; rfl]
    have w4 := w3.trans (Ex.new (o := .lst ((d.deeds.map (·.1)).map V.str)) nbl)
    obtain ⟨c1, c2, c3, c4, c5⟩ := S4 w4
    refine ⟨de, vt, bl, d.ents, d.vals, d.deeds.map (·.1), false, rfl, c5, .inl (.inl c2), .inl (.inl upd_same), by have := ft.vln; omega, ft.vok, ft.eok, fun q2 H6 x6 nq2 hq2 => ?_⟩
    have w5 := w4.trans x6
    refine ⟨.ref q2, rfl, Nat.zero_le _, fun e3 n3 => ⟨.list [], .list [], .lst (.inl (.inl ((Ex.new n3) _ _ hq2))) .nil, .lst (.inl (.inl upd_same)) .nil, rfl, rfl, false, rfl, ?_⟩⟩
    have w6 := w5.trans (Ex.new (o := .lst []) n3)
    obtain ⟨d1, d2, d3, d4, d5⟩ := S4 w6
    refine ⟨.ref dd, rfl, .ref vl, rfl, dd, vl, d.deeds, d.vals, rfl, d4, ft.dnd, by have := ft.dln; omega, d3, ft.vnd, by have := ft.vln; omega, fun r1 H7 ns pm so x7 nr1 hr1 => ?_⟩
    have w7 := w6.trans x7
    obtain ⟨g1, g2, g3, g4, g5⟩ := S4 w7
    refine ⟨.ref de, rfl, .ref vl, rfl, de, vl, d.ents, d.vals, rfl, g5, ft.end_, by have := ft.eln; omega, g3, ft.vnd, by have := ft.vln; omega, fun r2 H8 ms pm2 so2 x8 nr2 hr2 => ?_⟩
    refine ⟨by show 2 ≤ sizeLine; decide, fun tq ntq => ?_⟩
    have w8 := (w7.trans x8).trans (Ex.new (o := .tup [.ref r1, .ref r2]) ntq)
    have htq : upd H8 tq (.tup [.ref r1, .ref r2]) tq = some (.tup [.ref r1, .ref r2]) := upd_same
    have hr1' := (hr1.ex x8).ex (Ex.new (o := .tup [.ref r1, .ref r2]) ntq)
    have hr2' := hr2.ex (Ex.new (o := .tup [.ref r1, .ref r2]) ntq)
    obtain ⟨i1, i2, i3, i4, i5⟩ := S4 w8
    generalize upd H8 tq (.tup [.ref r1, .ref r2]) = H9 at w8 htq hr1' hr2' i1 i2 i3 i4 i5 ⊢
    refine ⟨tq, _, rfl, .inl (.inl htq), rfl, .ref r1, _, rfl, .ref p, rfl, p, C, dx, _, rfl, i1, T.cls, T.deeds, by show 2 < 1000; decide, .ref r2, [], rfl, .ref p, rfl, p, C, dx, _, rfl, upd_same, T.cls, T.ents, by show 3 < 1000; decide, rfl, ?_⟩
    have xF : ExA p H9 (upd (upd H9 p (.ins C dx (putF "kept_deeds" (.ref r1) (f2 (.ref vt) (.str d.start))))) p (.ins C dx (putF "kept_entries" (.ref r2) (putF "kept_deeds" (.ref r1) (f2 (.ref vt) (.str d.start)))))) := ExA.upd.trans ExA.upd
    refine hQ _ ⟨d.vals, d.start, ordD d.vals d.deeds ns, ordD d.vals d.ents ms⟩ ((xa.trans w8.exA).trans xF) ⟨dx, vt, r1, r2, ?_, xF.non i1 i2 (fun z => nomatch z), hr1'.exA xF i1, hr2'.exA xF i1⟩ ⟨ns, ms, pm, so, pm2, so2, rfl⟩
    rw [flds4]
    exact upd_same
/-- the thing of the parts -/
def spMade (K : PySem.W.Frag) (C : Addr) : Sp := fun vs H Q _ => ∃ (pt : Addr) (d : ThD), vs = [.ref pt] ∧ IsPt H pt d ∧ d.Fit ∧ ∀ (t : Addr) (H' : Hp) (d' : ThD), Ex H H' → H t = none → IsTh H' C t d' → IsOrd d d' → Q (.ref t) H'
theorem scMade : FnScope ["_law_parts"] ["_law_parts"] (defScope sMade) := ⟨rfl, rfl, rfl, by decide +kernel, rfl, by decide +kernel, by decide +kernel⟩
theorem ok_made {fI : Addr} {fdI : FuncData} (F : FnP K "_law_made" sMade f fd) (M : Mk K C fI) (gT : mg "Thing" = some (.ref C)) (bI : Binds K fdI ["self", "values", "start", "deeds", "entries"] []) (FI : FnOk P w K mg base CX0 4 fI fdI ["self", "values", "start", "deeds", "entries"] (spInit K C)) : FnOk P w K mg base CX0 6 f fd ["_law_parts"] (spMade K C) := by
  refine F.ok scMade (fun vs H Q E h => ?_) (fun cdv A outer s H vs Q E hr h => ?_)
  · obtain ⟨pt, d, rfl, _⟩ := h
    rfl
  · refine ⟨_, PSs.nox (pss_one (ps_ret (pe_make M FI hr rfl gT bI .nil pass0 (pa_cons (pe_ix ix_tup (pv 0) pe_int (fun _ _ => rfl)) (pa_cons (pe_ix ix_tup (pv 0) pe_int (fun _ _ => rfl)) (pa_cons (pe_ix ix_tup (pv 0) pe_int (fun _ _ => rfl)) (pa_cons (pe_ix ix_tup (pv 0) pe_int (fun _ _ => rfl)) pa_nil))))))), ?_⟩
    obtain ⟨pt, d, rfl, ⟨vl, dd, de, e1, e2, e3, e4⟩, ft, hQ⟩ := h
    refine ⟨.ref pt, rfl, pt, _, 0, .ref vl, rfl, rfl, .inl (.inl e1), rfl, .ref pt, rfl, pt, _, 1, .str d.start, rfl, rfl, .inl (.inl e1), rfl, .ref pt, rfl, pt, _, 2, .ref dd, rfl, rfl, .inl (.inl e1), rfl, .ref pt, rfl, pt, _, 3, .ref de, rfl, rfl, .inl (.inl e1), rfl, fun x dx nx ndx ne => ?_⟩
    have x1 : Ex H (upd (upd H dx (.own x)) x (.ins C dx [])) := fun b o e => (upd_ne fun z => by rw [z, nx] at e; cases e).trans ((upd_ne fun z => by rw [z, ndx] at e; cases e).trans e)
    refine ⟨x, dx, vl, dd, de, d, rfl, upd_same, .inl (.inl (x1 _ _ e2)), e3.ex x1, e4.ex x1, ft, fun H' d' xa th io => ⟨rfl, ?_⟩⟩
    exact hQ x H' d' (fun b o e => xa _ _ (fun z => by rw [z, nx] at e; cases e) (x1 _ _ e)) nx th io
end
end TH

/-! A24: plainly: sorted lists are one, a run is one, it ends, and it only appends -/
namespace TH
open PySem PySem.Spec PyProof.Rows L2 LamV LamX XK0
def leS (a b : Str) : Prop := ¬ b.cps.toList < a.cps.toList
theorem leS_trans {a b c : Str} (h1 : leS a b) (h2 : leS b c) : leS a c := by
  have q1 : a.cps.toList ≤ b.cps.toList := List.not_lt.mp h1
  have q2 : b.cps.toList ≤ c.cps.toList := List.not_lt.mp h2
  exact List.not_lt.mpr (List.le_trans q1 q2)
theorem leS_anti {a b : Str} (h1 : leS a b) (h2 : leS b a) : a = b := by
  have q1 : a.cps.toList ≤ b.cps.toList := List.not_lt.mp h1
  have q2 : b.cps.toList ≤ a.cps.toList := List.not_lt.mp h2
  have e : a.cps.toList = b.cps.toList := List.le_antisymm q1 q2
  cases a
  cases b
  exact congrArg _ (Array.toList_inj.mp e)
theorem rising_pw : ∀ {l : List Str} {p : Str}, risingS p l = true → (p :: l).Pairwise leS
  | [], p, _ => by simp
  | x :: r, p, h => by
    have h : (!ltCps x.cps.toList p.cps.toList && risingS x r) = true := h
    rw [Bool.and_eq_true, Bool.not_eq_true', ltCps_eq, decide_eq_false_iff_not] at h
    have ih := rising_pw h.2
    refine List.pairwise_cons.mpr ⟨fun y m => ?_, ih⟩
    rcases List.mem_cons.mp m with rfl | m
    · exact h.1
    · exact leS_trans h.1 ((List.pairwise_cons.mp ih).1 y m)
theorem sorted_pw {l : List Str} (h : sortedS l = true) : l.Pairwise leS := by
  cases l with
  | nil => exact .nil
  | cons x r => exact rising_pw h
/-- two sorted lists of the same are one -/
theorem sorted_one {l m : List Str} (h1 : sortedS l = true) (h2 : sortedS m = true) (p : l.Perm m) : l = m := p.eq_of_pairwise (le := leS) (fun _ _ _ _ => leS_anti) (sorted_pw h1) (sorted_pw h2)
/-! ### a run -/
theorem Run.one {d : ThD} {ns : List Str} {f : Fnd} {ws : List Str} {a b : Fnd} (h : Run d ns f ws a) : Run d ns f ws b → a = b := by
  induction h with
  | nil f =>
    intro q
    generalize e : ([] : List Str) = w at q
    cases q with
    | nil => rfl
    | step n _ => exact absurd e.symm n
  | step n _ ih =>
    intro q
    cases q with
    | nil => exact absurd rfl n
    | step _ q => exact ih q
theorem led_congr {d d' : ThD} (h : ∀ v n, d'.led v n = d.led v n) : (fun ns => tier d' ns) = fun ns => tier d ns := by
  funext ns f ws
  unfold tier wStep nStep
  simp only [h]
theorem Run.led {d d' : ThD} (h : ∀ v n, d'.led v n = d.led v n) {ns : List Str} {f : Fnd} {ws : List Str} {a : Fnd} (r : Run d' ns f ws a) : Run d ns f ws a := by
  induction r with
  | nil f => exact .nil f
  | step n _ ih =>
    rw [show tier d' ns = tier d ns from congrFun (led_congr h) ns] at ih
    exact .step n ih
/-- a tier appends, its new values are the next tier -/
def App (f : Fnd) (st : Fnd × List Str) : Prop := ∃ nw : Fnd, st = (f ++ nw, nw.map (·.1))
theorem nStep_app {d : ThD} {w n : Str} {f : Fnd} {st : Fnd × List Str} (h : App f st) : App f (nStep d w st n) := by
  obtain ⟨nw, rfl⟩ := h
  unfold nStep
  cases d.led w n with
  | none => exact ⟨nw, rfl⟩
  | some g =>
    dsimp only
    cases rowOf (f ++ nw) g with
    | some r => exact ⟨nw, rfl⟩
    | none => exact ⟨nw ++ [(g, (rowOf (f ++ nw) w).getD [] ++ [n])], by simp⟩
theorem wStep_app {d : ThD} {ns : List Str} {w : Str} {f : Fnd} : ∀ {st : Fnd × List Str}, App f st → App f (wStep d ns st w) := by
  unfold wStep
  induction ns with
  | nil => exact fun h => h
  | cons n r ih => exact fun h => ih (nStep_app h)
theorem tier_app {d : ThD} {ns : List Str} {f : Fnd} {ws : List Str} : App f (tier d ns f ws) := by
  unfold tier
  have : ∀ {st : Fnd × List Str}, App f st → App f (ws.foldl (wStep d ns) st) := by
    induction ws with
    | nil => exact fun h => h
    | cons w r ih => exact fun h => ih (wStep_app h)
  exact this ⟨[], by simp⟩
theorem Run.app {d : ThD} {ns : List Str} {f : Fnd} {ws : List Str} {a : Fnd} (r : Run d ns f ws a) : ∃ more, a = f ++ more := by
  induction r with
  | nil f => exact ⟨[], by simp⟩
  | step n _ ih =>
    rename_i f ws f' _
    obtain ⟨m1, e1⟩ := ih
    obtain ⟨nw, e2⟩ := tier_app (d := d) (ns := ns) (f := f) (ws := ws)
    rw [e2] at e1
    exact ⟨nw ++ m1, by rw [e1, List.append_assoc]⟩
/-- what a tier keeps -/
theorem wStep_ok {d : ThD} (k : d.Ok) {ns : List Str} {w : Str} : ∀ {st : Fnd × List Str}, FOk d st.1 → w ∈ st.1.map (·.1) → (∀ g ∈ st.2, g ∈ st.1.map (·.1)) → FOk d (wStep d ns st w).1 ∧ (∀ v ∈ st.1.map (·.1), v ∈ (wStep d ns st w).1.map (·.1)) ∧ ∀ g ∈ (wStep d ns st w).2, g ∈ (wStep d ns st w).1.map (·.1) := by
  unfold wStep
  induction ns with
  | nil => exact fun h _ hl => ⟨h, fun v m => m, hl⟩
  | cons n r ih =>
    intro st h hw hl
    obtain ⟨h1, h2, h3, _⟩ := nStep_ok k (n := n) h hw hl
    obtain ⟨g1, g2, g3⟩ := ih h1 (h2 w hw) h3
    exact ⟨g1, fun v m => g2 v (h2 v m), g3⟩
theorem tier_ok {d : ThD} (k : d.Ok) {ns ws : List Str} {f : Fnd} (h : FOk d f) (hw : ∀ w ∈ ws, w ∈ f.map (·.1)) : FOk d (tier d ns f ws).1 ∧ ∀ g ∈ (tier d ns f ws).2, g ∈ (tier d ns f ws).1.map (·.1) := by
  unfold tier
  have : ∀ {st : Fnd × List Str}, FOk d st.1 → (∀ w ∈ ws, w ∈ st.1.map (·.1)) → (∀ g ∈ st.2, g ∈ st.1.map (·.1)) → FOk d (ws.foldl (wStep d ns) st).1 ∧ ∀ g ∈ (ws.foldl (wStep d ns) st).2, g ∈ (ws.foldl (wStep d ns) st).1.map (·.1) := by
    clear hw
    induction ws with
    | nil => exact fun h _ hl => ⟨h, hl⟩
    | cons w r ih =>
      intro st h hw hl
      obtain ⟨h1, h2, h3⟩ := wStep_ok k (ns := ns) h (hw w List.mem_cons_self) hl
      exact ih h1 (fun v m => h2 v (hw v (List.mem_cons_of_mem _ m))) h3
  exact this h hw fun g m => nomatch m
/-- it ends -/
theorem Run.ends {d : ThD} (k : d.Ok) {ns : List Str} : ∀ (m : Nat) {f : Fnd} {ws : List Str}, FOk d f → (∀ w ∈ ws, w ∈ f.map (·.1)) → 2 * (d.vals.length - f.length) + (if ws = [] then 0 else 1) ≤ m → ∃ a, Run d ns f ws a := by
  intro m
  induction m with
  | zero =>
    intro f ws h hw hm
    by_cases e : ws = []
    · subst e
      exact ⟨f, .nil f⟩
    · rw [if_neg e] at hm
      omega
  | succ m ih =>
    intro f ws h hw hm
    by_cases e : ws = []
    · subst e
      exact ⟨f, .nil f⟩
    · obtain ⟨h1, h2⟩ := tier_ok k (ns := ns) h hw
      obtain ⟨nw, en⟩ := tier_app (d := d) (ns := ns) (f := f) (ws := ws)
      have l1 := h1.len
      have l0 := h.len
      rw [if_neg e] at hm
      obtain ⟨a, r⟩ := ih (f := (tier d ns f ws).1) (ws := (tier d ns f ws).2) h1 h2 (by
        rw [en] at l1 ⊢
        simp only [List.length_append] at l1 ⊢
        by_cases z : nw = []
        · subst z
          simp
          omega
        · have : 0 < nw.length := List.length_pos_iff.mpr z
          have nz : ¬ nw.map (·.1) = [] := by simpa using z
          rw [if_neg nz]
          omega)
      exact ⟨a, .step e r⟩
/-! ### the first that is led on -/
theorem firstIn_app_none {l : Ld} {f g : Fnd} (h : firstIn l f = none) : firstIn l (f ++ g) = firstIn l g := by
  unfold firstIn at *
  rw [List.find?_append, Option.map_eq_none_iff.mp h]
  rfl
theorem firstIn_app_some {l : Ld} {f g : Fnd} {r : List Str} (h : firstIn l f = some r) : firstIn l (f ++ g) = some r := by
  unfold firstIn at *
  obtain ⟨p, e, rfl⟩ := Option.map_eq_some_iff.mp h
  rw [List.find?_append, e]
  rfl
theorem firstIn_congr {l l' : Ld} (h : ∀ v, lookL l' v = lookL l v) (f : Fnd) : firstIn l' f = firstIn l f := by
  unfold firstIn
  simp only [h]
/-! ### ordered leads lead alike -/
theorem lookL_none {l : Ld} {v : Str} (h : v ∉ l.map (·.1)) : lookL l v = none := by
  unfold lookL
  refine Option.map_eq_none_iff.mpr (List.find?_eq_none.mpr fun p m z => h ?_)
  simp only [decide_eq_true_eq] at z
  exact z ▸ List.mem_map_of_mem m
theorem lookL_keys {l : Ld} {v g : Str} (h : lookL l v = some g) : v ∈ l.map (·.1) := by
  unfold lookL at h
  obtain ⟨p, e, _⟩ := Option.map_eq_some_iff.mp h
  have z := List.find?_some e
  simp only [decide_eq_true_eq] at z
  exact z ▸ List.mem_map_of_mem (List.mem_of_find?_eq_some e)
theorem ordL_look {vals : List Str} {l : Ld} (nd : vals.Nodup) (sub : ∀ q ∈ l, q.1 ∈ vals) (v : Str) : lookL (ordL vals l) v = lookL l v := by
  have knd : ((ordL vals l).map (·.1)).Nodup := by
    unfold ordL
    rw [List.map_filterMap]
    have : (vals.filterMap fun x => Option.map (·.1) ((lookL l x).map fun g => (x, g))).Sublist vals := by
      clear nd sub
      induction vals with
      | nil => exact .slnil
      | cons x r ih =>
        cases q : lookL l x with
        | none => rw [List.filterMap_cons_none (by rw [q]; rfl)]; exact ih.cons x
        | some g => rw [List.filterMap_cons_some (b := x) (by rw [q]; rfl)]; exact ih.cons_cons x
    exact this.nodup nd
  cases q : lookL l v with
  | none =>
    refine lookL_none fun m => ?_
    obtain ⟨p, mp, rfl⟩ := List.mem_map.mp m
    unfold ordL at mp
    obtain ⟨u, _, e⟩ := List.mem_filterMap.mp mp
    obtain ⟨g, eg, rfl⟩ := Option.map_eq_some_iff.mp e
    have eg : lookL l u = some g := eg
    have q : lookL l u = none := q
    rw [q] at eg
    cases eg
  | some g =>
    obtain ⟨p, mp, e⟩ := List.mem_map.mp (lookL_keys q)
    have mv : v ∈ vals := e ▸ sub p mp
    exact lookL_mem (ld := ordL vals l) (q := (v, g)) knd (List.mem_filterMap.mpr ⟨v, mv, by rw [q]; rfl⟩)
theorem look_ordD {vals : List Str} {lds : Lds} {ns : List Str} (nd : (lds.map (·.1)).Nodup) (pm : ns.Perm (lds.map (·.1))) (n : Str) : look (ordD vals lds ns) n = (look lds n).map (ordL vals) := by
  by_cases m : n ∈ ns
  · have e : look (ordD vals lds ns) n = some (ordL vals ((look lds n).getD [])) := by
      unfold look ordD
      clear pm
      induction ns with
      | nil => cases m
      | cons x r ih =>
        rw [List.map_cons, List.find?_cons]
        by_cases z : x = n
        · rw [decide_eq_true (show ((x, ordL vals ((look lds x).getD [])) : Str × Ld).1 = n from z)]
          subst z
          rfl
        · rw [decide_eq_false (show ¬ ((x, ordL vals ((look lds x).getD [])) : Str × Ld).1 = n from z)]
          rcases List.mem_cons.mp m with q | q
          · exact absurd q.symm z
          · exact ih q
    rw [e]
    obtain ⟨l, el⟩ := Option.isSome_iff_exists.mp (look_mem (pm.mem_iff.mp m))
    rw [el]
    rfl
  · have e1 : look lds n = none := by
      cases q : look lds n with
      | none => rfl
      | some l =>
        unfold look at q
        obtain ⟨p, ep, _⟩ := Option.map_eq_some_iff.mp q
        have z := List.find?_some ep
        simp only [decide_eq_true_eq] at z
        exact absurd (pm.mem_iff.mpr (z ▸ List.mem_map_of_mem (List.mem_of_find?_eq_some ep))) m
    rw [e1]
    unfold look ordD
    refine Option.map_eq_none_iff.mpr (List.find?_eq_none.mpr fun p mp z => m ?_)
    obtain ⟨u, mu, rfl⟩ := List.mem_map.mp mp
    have z : u = n := by simpa using z
    exact z ▸ mu
theorem look_some {ls : Lds} {n : Str} {l : Ld} (h : look ls n = some l) : ∃ p ∈ ls, p.1 = n ∧ p.2 = l := by
  unfold look at h
  obtain ⟨p, e, h2⟩ := Option.map_eq_some_iff.mp h
  have z := List.find?_some e
  simp only [decide_eq_true_eq] at z
  exact ⟨p, List.mem_of_find?_eq_some e, z, h2⟩
theorem ord_led {d d' : ThD} (ft : d.Fit) (h : IsOrd d d') (v n : Str) : d'.led v n = d.led v n := by
  obtain ⟨ns, ms, p1, s1, p2, s2, rfl⟩ := h
  unfold ThD.led
  dsimp only
  rw [look_ordD ft.dnd p1, look_ordD ft.end_ p2]
  cases q : look d.deeds n with
  | some l =>
    obtain ⟨p, m, e1, rfl⟩ := look_some q
    exact ordL_look ft.vnd (fun q m2 => ((ft.dok p m).2.1 q m2).1) v
  | none =>
    cases q2 : look d.ents n with
    | none => rfl
    | some l =>
      obtain ⟨p, m, e1, rfl⟩ := look_some q2
      exact ordL_look ft.vnd (fun q m2 => ((ft.eok p m).2.2.1 q m2).1) v
end TH

/-! A25: _law_first -/
namespace TH
open PySem PySem.Spec PyProof.Rows L2 LamV LamX XK0
open C8 (pss_cut tCut)
/-- all but lists stands -/
def ExL (H H' : Hp) : Prop := ∀ b o, H b = some o → (∀ xs, o ≠ .lst xs) → H' b = some o
theorem Ex.exL {H H' : Hp} (x : Ex H H') : ExL H H' := fun b o e _ => x b o e
theorem ExL.trans {H H1 H2 : Hp} (x : ExL H H1) (y : ExL H1 H2) : ExL H H2 := fun b o e n => y b o (x b o e n) n
theorem ExL.upd {H : Hp} {p : Addr} {xs : List V} {o : HO} (h : H p = some (.lst xs)) : ExL H (upd H p o) := fun b u e n => (upd_ne fun z => n xs (Option.some.inj ((z ▸ e).symm.trans h))).trans e
theorem ExL.sqT {K : PySem.W.Frag} {H H' : Hp} {a : Addr} {xs : List V} (k : ExL H H') (h : SqT K H a xs) : SqT K H' a xs := h.imp (Or.imp (fun z => k _ _ z fun _ q => nomatch q) fun ⟨o, z⟩ => ⟨o, k _ _ z fun _ q => nomatch q⟩) id
theorem ExL.none {H H' : Hp} {p : Addr} (x : Ex H H') (h : H' p = none) : H p = none := x.none h
/-- a tier: a list of pairs of a row and a value -/
def TR (K : PySem.W.Frag) (H : Hp) (ta : Addr) (cur : Fnd) : Prop := ∃ as : List Addr, H ta = some (.lst (as.map V.ref)) ∧ Paired (fun a (p : Str × List Str) => ∃ r, H a = some (.tup [.ref r, .str p.1]) ∧ SqT K H r (p.2.map V.str)) as cur
theorem TR.exL {K : PySem.W.Frag} {H H' : Hp} {ta : Addr} {cur : Fnd} (x : ExL H H') (h : ∀ xs, H ta = some (.lst xs) → H' ta = some (.lst xs)) (t : TR K H ta cur) : TR K H' ta cur := by
  obtain ⟨as, e, p⟩ := t
  exact ⟨as, h _ e, Paired.mapP p fun _ _ ⟨r, e1, e2⟩ => ⟨r, x _ _ e1 (fun _ z => nomatch z), x.sqT e2⟩⟩
theorem TR.ex {K : PySem.W.Frag} {H H' : Hp} {ta : Addr} {cur : Fnd} (x : Ex H H') (t : TR K H ta cur) : TR K H' ta cur := t.exL x.exL fun _ e => x _ _ e
theorem TR.ne {K : PySem.W.Frag} {H : Hp} {ta p : Addr} {cur : Fnd} (t : TR K H ta cur) (h : H p = none) : ta ≠ p := by
  obtain ⟨as, e, _⟩ := t
  exact fun z => by rw [z, h] at e; cases e
def rowD (p : Str × List Str) : PyData := .tuple [.tuple (p.2.map PyData.str), .str p.1]
theorem dp_tier {K : PySem.W.Frag} {H : Hp} : ∀ {as : List Addr} {cur : Fnd}, Paired (fun a (p : Str × List Str) => ∃ r, H a = some (.tup [.ref r, .str p.1]) ∧ SqT K H r (p.2.map V.str)) as cur → DpAll K H (as.map V.ref) (cur.map rowD)
  | _, _, .nil => .nil
  | _, _, .cons ⟨r, e1, e2⟩ q => .cons (.tup (.inl (.inl e1)) (.cons (.tup e2 (dp_strs _)) (.cons (.str _) .nil))) (dp_tier q)
theorem lay_tier : ∀ {cur : Fnd}, (∀ p ∈ cur, PyData.canLay0 (.str p.1) = true ∧ ∀ n ∈ p.2, PyData.canLay0 (.str n) = true) → PyData.canLayAll0 (cur.map rowD) = true ∧ PyData.depthAll (cur.map rowD) ≤ 3
  | [], _ => ⟨rfl, by decide⟩
  | p :: r, h => by
    obtain ⟨a, b⟩ := lay_tier (cur := r) fun q m => h q (List.mem_cons_of_mem _ m)
    obtain ⟨c1, c2⟩ := h p List.mem_cons_self
    obtain ⟨e1, e2⟩ := lay_strs c2
    refine ⟨?_, ?_⟩
    · show (PyData.canLay0 (rowD p) && PyData.canLayAll0 (r.map rowD)) = true
      rw [a, Bool.and_true]
      show ((PyData.canLay0 (.tuple (p.2.map PyData.str))) && (PyData.canLay0 (.str p.1) && true)) = true
      rw [c1]
      show (PyData.canLayAll0 (p.2.map PyData.str) && _) = true
      rw [e1]
      rfl
    · show max (PyData.depth (rowD p)) (PyData.depthAll (r.map rowD)) ≤ 3
      have z : PyData.depth (rowD p) = max ((PyData.depthAll (p.2.map PyData.str)) + 1) (max 0 0) + 1 := rfl
      rw [z, e2]
      exact Nat.max_le.mpr ⟨by decide, b⟩
theorem shaped_tier {cur : Fnd} (h : ∀ p ∈ cur, PyData.canLay0 (.str p.1) = true ∧ ∀ n ∈ p.2, PyData.canLay0 (.str n) = true) : SeqAt.shaped (.list (cur.map rowD)) = true := by
  obtain ⟨a, b⟩ := lay_tier h
  have e1 : PyData.canLay0 (.list (cur.map rowD)) = PyData.canLayAll0 (cur.map rowD) := by unfold PyData.canLay0; rfl
  have e2 : PyData.depth (.list (cur.map rowD)) = PyData.depthAll (cur.map rowD) + 1 := by unfold PyData.depth; rfl
  unfold SeqAt.shaped
  rw [e1, a, e2, Bool.true_and]
  exact decide_eq_true (by omega)
theorem eqv_tier (cur : Fnd) : PyData.eqv (.list (cur.map rowD)) (.list []) = decide (cur = []) := by
  cases cur with
  | nil => rfl
  | cons w r => rfl
/-- the rows are of the names -/
def RIn (ys : List Str) (f : Fnd) : Prop := ∀ p ∈ f, ∀ n ∈ p.2, n ∈ ys
theorem nStep_rin {d : ThD} {w n : Str} {ys : List Str} {st : Fnd × List Str} (hn : n ∈ ys) (h : RIn ys st.1) : RIn ys (nStep d w st n).1 := by
  unfold nStep
  cases d.led w n with
  | none => exact h
  | some g =>
    dsimp only
    cases rowOf st.1 g with
    | some r => exact h
    | none =>
      intro p hp m hm
      rcases List.mem_append.mp hp with z | z
      · exact h p z m hm
      · rw [List.mem_singleton.mp z] at hm
        rcases List.mem_append.mp hm with q | q
        · cases e : rowOf st.1 w with
          | none => rw [e] at q; cases q
          | some r => rw [e] at q; exact h _ (rowOf_some e) m q
        · rw [List.mem_singleton.mp q]; exact hn
def spLawFirst (K : PySem.W.Frag) : Sp := fun vs H Q _ => ∃ (pt nl : Addr) (d : ThD) (x : Str) (xs ys : List Str) (l : Ld) (f : Fnd), vs = [.ref pt, .str x, .ref nl] ∧ IsPt H pt d ∧ d.Ok ∧ look d.ents x = some l ∧ SqL K H nl (xs.map V.str) ∧ xs.length ≤ 60 ∧ d.Own xs ∧ (∀ n ∈ xs, PyData.canLay0 (.str n) = true) ∧
  ys.Perm xs ∧ sortedS ys = true ∧ Run d ys [(d.start, [])] [d.start] f ∧ (∀ H', Ex H H' → firstIn l f = none → Q .non H') ∧ ∀ (row : List Str) (p : Addr) (H' : Hp), Ex H H' → H p = none → H' p = some (.lst (row.map V.str)) → firstIn l f = some row → Q (.ref p) H'
/-- at each turn of the while -/
def LInv (K : PySem.W.Frag) (H : Hp) (d : ThD) (ys : List Str) (l : Ld) (f : Fnd) (pt nl : Addr) (x : Str) (m : Nat) (σ : L2.St) (H2 : Hp) : Prop := ∃ (dn cur : Fnd) (ta ma : Addr) (o5 o6 o7 o8 o9 : Option V), σ = [some (.ref pt), some (.str x), some (.ref nl), some (.ref ta), some (.ref ma), o5, o6, o7, o8, o9] ∧ Ex H H2 ∧ TR K H2 ta cur ∧ H2 ma = some (.lst (((dn ++ cur).map (·.1)).map V.str)) ∧
  H ma = none ∧ ta ≠ ma ∧ FOk d (dn ++ cur) ∧ RIn ys (dn ++ cur) ∧ firstIn l dn = none ∧ Run d ys (dn ++ cur) (cur.map (·.1)) f ∧ m = 2 * (d.vals.length - (dn ++ cur).length) + (if cur = [] then 0 else 1)
theorem paired_get2 {α β : Type} {R : α → β → Prop} {l : List α} {r : List β} (p : Paired R l r) : ∀ {i : Nat} {x : α}, l[i]? = some x → ∃ y, r[i]? = some y ∧ R x y := by
  induction p with
  | nil => intro i y h; simp at h
  | cons x _ ih =>
    intro i y h
    cases i with
    | zero => simp at h; subst h; exact ⟨_, rfl, x⟩
    | succ i =>
      obtain ⟨z, e, q⟩ := ih (by simpa using h)
      exact ⟨z, by simpa using e, q⟩
theorem rowOf_in : ∀ {f : Fnd} {p : Str × List Str}, (f.map (·.1)).Nodup → p ∈ f → rowOf f p.1 = some p.2
  | q :: r, p, nd, m => by
    rw [List.map_cons, List.nodup_cons] at nd
    unfold rowOf
    rw [List.find?_cons]
    rcases List.mem_cons.mp m with rfl | m
    · rw [decide_eq_true rfl]
      rfl
    · have ne : ¬ q.1 = p.1 := fun z => nd.1 (z ▸ List.mem_map_of_mem m)
      rw [decide_eq_false ne]
      exact rowOf_in nd.2 m
theorem firstIn_take {l : Ld} {f : Fnd} {i : Nat} {p : Str × List Str} (h : f[i]? = some p) (n : firstIn l (f.take i) = none) : (lookL l p.1 = none → firstIn l (f.take (i + 1)) = none) ∧ ((lookL l p.1).isSome = true → firstIn l f = some p.2) := by
  refine ⟨fun z => ?_, fun z => ?_⟩
  · rw [List.take_add_one, h, Option.toList_some, firstIn_app_none n]
    unfold firstIn
    rw [List.find?_cons, z]
    rfl
  · obtain ⟨lt, e⟩ := List.getElem?_eq_some_iff.mp h
    rw [← List.take_append_drop i f, firstIn_app_none n, List.drop_eq_getElem_cons lt, e]
    unfold firstIn
    rw [List.find?_cons, z]
    rfl
/-- within the two loops -/
structure LSt (K : PySem.W.Frag) (H : Hp) (d : ThD) (ys : List Str) (cur fnd : Fnd) (ta ma ll : Addr) (st : Fnd × List Str) (H4 : Hp) : Prop where
  ex : Ex H H4
  tr : TR K H4 ta cur
  mt : H4 ma = some (.lst ((st.1.map (·.1)).map V.str))
  lt : ∃ nw, st = (fnd ++ nw, nw.map (·.1)) ∧ TR K H4 ll nw
  ok : FOk d st.1
  rin : RIn ys st.1
  fresh : H ma = none ∧ H ll = none ∧ ma ≠ ll ∧ ta ≠ ma ∧ ta ≠ ll
section
variable {P : Program} {w : World} {K : PySem.W.Frag} {mg : Str → Option Value} {base : Heap} {f C CN CB : Addr} {fd : FuncData}
end
end TH

/-! A26: _law_met -/
namespace TH
open PySem PySem.Spec PyProof.Rows L2 LamV LamX XK0
open C8 (pss_cut tCut)
abbrev sMet : Stmt := top 56
theorem takes_len {X : Cx} {W : WX} (tk : Takes X W) : Takes X (fun cls d σ H => σ.length = X.N.length → W cls d σ H) := by
  rintro u s' ⟨a, B, sI, pins', τ, G, cls, d, e, J, nb, up, sky, na, os, ag, w⟩
  exact tk u s' ⟨a, B, sI, pins', τ, G, cls, d, e, J, nb, up, sky, na, os, ag, w J.len⟩
/-- what the two classes are to one another -/
structure MetC (K : PySem.W.Frag) (mg : Str → Option Value) (CN CB : Addr) : Prop where
  gN : mg "BadNumber" = some (.ref CN)
  gB : mg "BadCalls" = some (.ref CB)
  xN : XfC K CN
  xB : XfC K CB
  nN : PySem.W.findIn K (.ref CN) "number" = some none
  nB : PySem.W.findIn K (.ref CB) "index" = some none
  eNN : PySem.W.exmOne K (.ref CN) (.ref CN) = some true
  eBN : PySem.W.exmOne K (.ref CB) (.ref CN) = some false
  eBB : PySem.W.exmOne K (.ref CB) (.ref CB) = some true
/-- what _law_met makes of what it calls -/
def TTmet (CN CB : Addr) : (XK → Hp → VK → Prop) → Hp → VK → Prop := fun tl H Q => tl (fun cls dd H' => ∃ (d : Addr) (v : V), dd = some d ∧ ((cls = .ref CN ∧ H' d = some (.xd [("number", v)]) ∧ ∀ p, H' p = none → Q (.ref p) (upd H' p (.lst [.str "number", v]))) ∨
  (cls = .ref CB ∧ H' d = some (.xd [("index", v)]) ∧ ∀ p, H' p = none → Q (.ref p) (upd H' p (.lst [.str "calls", v]))))) H (fun _ H' => Q .non H')
theorem scMet : FnScope ["_law_ask", "e"] ["_law_ask"] (defScope sMet) := ⟨rfl, rfl, rfl, by decide +kernel, rfl, by decide +kernel, by decide +kernel⟩
theorem met_gives {X : Cx} {g CN CB : Addr} {cdg : Value} {q : Str} (M : MetC X.K X.mg CN CB) : GivesTo X ["_law_ask", "e"] "_law_met" (defScope sMet) g cdg (defBody sMet) "_law_ask" q (TTmet CN CB) := by
  intro f c' s H Q tl act hc h
  refine ⟨_, pss_cons (ps_tryAs (X := (cxOf C8.CX0 X.prog X.w X.K X.mg X.base ["_law_ask", "e"] "_law_met" (defScope sMet) g cdg X.A X.stack s H C8.E0).nox) (i := 1) (Wo := fun _ _ _ _ => False)
      (tb := fun W D σ H => ∃ Ech : XK, (∀ cls d σ' H', Ech cls d H' → σ'.length = 2 → W cls d σ' H') ∧ σ[0]? = some (some (.ref f)) ∧ H c' = some (CodeO c' q) ∧ tl Ech H fun _ H' => D.nx σ H')
      rfl rfl scMet.nd rfl rfl L2.takes0 (fun W pn xe tk _ => ⟨fun pins s' σ H' D I h' => ?_⟩)
      (.cons ⟨rfl, by decide, .inl M.gN⟩ (fun a oe cls d pn hz hf => pss_one (ps_ret (pe_lst (pa_cons pe_str (pa_cons (pe_xf M.xN M.nN hz hf (pv 1)) pa_nil)))))
      (.cons ⟨rfl, by decide, .inl M.gB⟩ (fun a oe cls d pn hz hf => pss_one (ps_ret (pe_lst (pa_cons pe_str (pa_cons (pe_xf M.xB M.nB hz hf (pv 1)) pa_nil))))) .nil)))
    (pss_one (ps_ret pe_non)), ?_⟩
  · obtain ⟨Ech, hW, h1, h2, h3⟩ := h'
    exact (pss_one (ps_expr (act _ pn xe Ech _ _ (takes_len tk) fun cls d σ' H' e l => hW cls d σ' H' e l))).run pins s' σ H' D I ⟨h1, h2, h3⟩
  · refine ⟨_, ?_, rfl, hc, h⟩
    rintro cls dd σ' H' ⟨d, v, rfl, ⟨rfl, hd, hq⟩ | ⟨rfl, hd, hq⟩⟩ len
    · exact ⟨true, M.eNN, fun _ a na => ⟨.ref a, List.getElem?_set_self (by omega), rfl, rfl, d, _, v, rfl, hd, rfl, by show 2 ≤ sizeLine; decide, fun p np => hq p np⟩, fun z => nomatch z⟩
    · exact ⟨false, M.eBN, (fun z => nomatch z), fun _ => ⟨true, M.eBB, fun _ a na => ⟨.ref a, List.getElem?_set_self (by omega), rfl, rfl, d, _, v, rfl, hd, rfl, by show 2 ≤ sizeLine; decide, fun p np => hq p np⟩, fun z => nomatch z⟩⟩
end TH

/-! A27: all but the spring and tables stands; odd things; which index is refused; promises where nothing is being shown -/
namespace TH
open PySem PySem.Spec PyProof.Rows L2 LamV LamX XK0
open C8 (pss_cut tCut)
/-- all but the spring and tables stands -/
def ExSN (sp l : Addr) (H H' : Hp) : Prop := ∀ b o, b ≠ sp → b ≠ l → H b = some o → (∀ ps, o ≠ .tbl ps) → H' b = some o
theorem ExSN.refl {sp l : Addr} {H : Hp} : ExSN sp l H H := fun _ _ _ _ e _ => e
theorem ExSN.trans {sp l : Addr} {H H1 H2 : Hp} (x : ExSN sp l H H1) (y : ExSN sp l H1 H2) : ExSN sp l H H2 := fun b o h1 h2 e n => y b o h1 h2 (x b o h1 h2 e n) n
theorem ExS.sn {sp l : Addr} {H H' : Hp} (x : ExS sp l H H') : ExSN sp l H H' := fun b o h1 h2 e _ => x b o h1 h2 e
theorem exN_sn {sp l : Addr} {H H' : Hp} (x : ExtN H H') : ExSN sp l H H' := fun b o _ _ e n => x b o e n
theorem Ex.sn {sp l : Addr} {H H' : Hp} (x : Ex H H') : ExSN sp l H H' := fun b o _ _ e _ => x b o e
theorem Spr.exN {sp l : Addr} {H H' : Hp} {n : Nat} (x : ExtN H H') : Spr H sp l n → Spr H' sp l n := fun ⟨ns, a, m, s⟩ => ⟨ns, a, m, x _ _ s.hs (fun _ z => nomatch z), x _ _ s.hl (fun _ z => nomatch z), s.ne, s.a0, s.m0, s.m1⟩
/-- what is neither list nor table stands -/
theorem ExSN.non {sp l b : Addr} {H H' : Hp} {n : Nat} {o : HO} (x : ExSN sp l H H') (s : Spr H sp l n) (h : H b = some o) (no : ∀ xs, o ≠ .lst xs) (nt : ∀ ps, o ≠ .tbl ps) : H' b = some o := by
  obtain ⟨ns, a, m, s⟩ := s
  exact x b o (fun z => by rw [z, s.hs] at h; exact no _ (Option.some.inj h).symm) (fun z => by rw [z, s.hl] at h; exact no _ (Option.some.inj h).symm) h nt
theorem ExSN.lst {sp l b : Addr} {H H' : Hp} {xs : List V} (x : ExSN sp l H H') (h : H b = some (.lst xs)) (n : b ≠ sp ∧ b ≠ l) : H' b = some (.lst xs) := x b _ n.1 n.2 h fun _ z => nomatch z
theorem DD.sn {sp l : Addr} {H H' : Hp} {n : Nat} {a : Addr} {ls : Lds} (x : ExSN sp l H H') (s : Spr H sp l n) (h : DD H a ls) : DD H' a ls := by
  obtain ⟨kvs, e, p⟩ := h
  exact ⟨kvs, x.non s e (fun _ z => nomatch z) (fun _ z => nomatch z), Paired.mapP p fun _ _ ⟨e1, b, e2, e3⟩ => ⟨e1, b, e2, x.non s e3 (fun _ z => nomatch z) (fun _ z => nomatch z)⟩⟩
theorem IsTh.sn {sp l : Addr} {H H' : Hp} {n : Nat} {C t : Addr} {d : ThD} (x : ExSN sp l H H') (s : Spr H sp l n) (h : IsTh H C t d) : IsTh H' C t d := by
  obtain ⟨dx, vt, dd, de, e1, e2, e3, e4⟩ := h
  exact ⟨dx, vt, dd, de, x.non s e1 (fun _ z => nomatch z) (fun _ z => nomatch z), x.non s e2 (fun _ z => nomatch z) (fun _ z => nomatch z), e3.sn x s, e4.sn x s⟩
theorem IsPtS.sn {sp l : Addr} {H H' : Hp} {n : Nat} {pt : Addr} {d : ThD} (x : ExSN sp l H H') (s : Spr H sp l n) (h : IsPtS sp l H pt d) : IsPtS sp l H' pt d := by
  obtain ⟨vl, dd, de, e1, e2, e3, e4, e5⟩ := h
  exact ⟨vl, dd, de, x.non s e1 (fun _ z => nomatch z) (fun _ z => nomatch z), x.lst e2 e3, e3, e4.sn x s, e5.sn x s⟩
theorem Tabs.exS {sp l : Addr} {H H' : Hp} {n : Nat} {T : List (Addr × Str)} (x : ExS sp l H H') (s : Spr H sp l n) (t : Tabs T H) : Tabs T H' := fun p hp => by
  obtain ⟨ps, h1, h2, h3⟩ := t p hp
  refine ⟨ps, x.non s h1 (fun _ z => nomatch z), h2, fun pos cv hc => ?_⟩
  obtain ⟨c, e1, e2⟩ := h3 pos cv hc
  exact ⟨c, e1, x.non s e2 (fun _ z => by unfold CodeO at z; cases z)⟩
/-- new, or a table -/
theorem NewP.off {H : Hp} {p b : Addr} {o : HO} (n : NewP H p) (h : H b = some o) (nt : ∀ ps, o ≠ .tbl ps) : p ≠ b := fun z => n o (z ▸ h) nt
/-! ### odd things -/
inductive Odd (sp l : Addr) (H : Hp) (P : Str → Prop) : V → PyData → Prop
  | non : Odd sp l H P .non .none
  | int : Odd sp l H P (.int 5) (.int 5)
  | str (x : Str) (h : P x) : Odd sp l H P (.str x) (.str x)
  | lst (a : Addr) (h : H a = some (.lst [.str "e"])) (n : a ≠ sp ∧ a ≠ l) : Odd sp l H P (.ref a) (.list [.str "e"])
  | dct (a : Addr) (h : H a = some (.dK [])) : Odd sp l H P (.ref a) (.dict [])
theorem Odd.sn {sp l : Addr} {H H' : Hp} {n : Nat} {P : Str → Prop} {v : V} {d : PyData} (x : ExSN sp l H H') (s : Spr H sp l n) (h : Odd sp l H P v d) : Odd sp l H' P v d := by
  cases h with
  | non => exact .non
  | int => exact .int
  | str x h => exact .str x h
  | lst a h n => exact .lst a (x.lst h n) n
  | dct a h => exact .dct a (x.non s h (fun _ z => nomatch z) (fun _ z => nomatch z))
theorem Odd.kd {K : PySem.W.Frag} {sp l : Addr} {H : Hp} {P : Str → Prop} {v : V} {d : PyData} (hP : ∀ x, P x → x.length ≤ 1000) (h : Odd sp l H P v d) : ∃ T, Kd K H v T := by
  cases h with
  | non => exact ⟨"NoneType", by decide, .base .non, fun x z => nomatch z⟩
  | int => exact ⟨"int", by decide, .base (.int 5), fun x z => nomatch z⟩
  | str x h => exact ⟨_, str_kd (hP x h)⟩
  | lst a h n => exact ⟨_, sqL_kd (.inl (.inl h))⟩
  | dct a h => exact ⟨"dict", by decide, .base (.dK h), fun x z => nomatch z⟩
theorem Odd.wd {sp l : Addr} {H : Hp} {P : Str → Prop} {v : V} {d : PyData} (h : Odd sp l H P v d) : isWd v = false ∨ ∃ x, v = .str x ∧ P x ∧ okS x = true := by
  cases h with
  | str x h =>
    cases e : okS x with
    | false => exact .inl e
    | true => exact .inr ⟨x, rfl, h, e⟩
  | _ => exact .inl rfl
theorem Odd.rd {sp l : Addr} {H : Hp} {P : Str → Prop} {v : V} {d : PyData} (h : Odd sp l H P v d) : RdD H 2 v d := by
  cases h with
  | non => exact rfl
  | int => exact rfl
  | str x h => exact rfl
  | lst a h n => exact ⟨a, _, rfl, h, .cons rfl .nil⟩
  | dct a h => exact ⟨a, _, rfl, h, .nil⟩
/-! ### which index is refused -/
theorem fbw_pre : ∀ (xs : List Str) (met r : List V) (i : Nat), (∀ x ∈ xs, okS x = true) → xs.Nodup → (∀ x ∈ xs, inV (.str x) met = false) → fbw (xs.map V.str ++ r) met i = fbw r (met ++ xs.map V.str) (i + xs.length)
  | [], met, r, i, _, _, _ => by simp
  | x :: xs, met, r, i, h, nd, nm => by
    have e : fbw ((x :: xs).map V.str ++ r) met i = if (!isWd (.str x) || inV (.str x) met) = true then some i else fbw (xs.map V.str ++ r) (met ++ [.str x]) (i + 1) := rfl
    have n1 : isWd (.str x) = true := h x List.mem_cons_self
    rw [List.nodup_cons] at nd
    rw [e, n1, nm x List.mem_cons_self, if_neg (by simp), fbw_pre xs _ r (i + 1) (fun y m => h y (List.mem_cons_of_mem _ m)) nd.2 fun y m => ?_]
    · rw [List.map_cons, List.append_assoc, List.length_cons]
      congr 1
      omega
    · have z := nm y (List.mem_cons_of_mem _ m)
      have ne : ¬ x = y := fun q => nd.1 (q ▸ m)
      unfold inV at z ⊢
      rw [List.any_append, z]
      show (false || (eqV (V.str x) (V.str y) || false)) = false
      rw [show eqV (V.str x) (V.str y) = false from beq_eq_false_iff_ne.mpr ne]
      rfl
/-- words that are known, then an odd one -/
theorem bad_at {some_ ks : List Str} {z : V} {r : List V} (ok : ∀ x ∈ some_, okS x = true) (nd : some_.Nodup) (sub : ∀ x ∈ some_, x ∈ ks) (bad : (!isWd z || inV z (some_.map V.str)) = true) : badIx (some_.map V.str ++ z :: r) ks = some some_.length := by
  have e : fbw (some_.map V.str ++ z :: r) [] 0 = some some_.length := by
    rw [fbw_pre some_ [] _ 0 ok nd fun _ _ => rfl, List.nil_append, Nat.zero_add]
    show (if (!isWd z || inV z (some_.map V.str)) = true then some some_.length else _) = _
    rw [if_pos bad]
  unfold badIx fewL
  rw [e]
  dsimp only
  rw [List.take_left' (by rw [List.length_map])]
  have s : strange (some_.map V.str) ks = none := by
    unfold strange
    rw [List.findIdx?_eq_none_iff]
    intro v hv
    obtain ⟨x, mx, rfl⟩ := List.mem_map.mp hv
    rw [inV_strs, decide_eq_true (sub x mx)]
    rfl
  rw [s]
theorem strange_at {some_ ks : List Str} {z : Str} {r : List V} (sub : ∀ x ∈ some_, x ∈ ks) (nz : z ∉ ks) : strange (some_.map V.str ++ .str z :: r) ks = some some_.length := by
  unfold strange
  rw [List.findIdx?_append]
  have s : (some_.map V.str).findIdx? (fun x => !inV x (ks.map V.str)) = none := by
    rw [List.findIdx?_eq_none_iff]
    intro v hv
    obtain ⟨x, mx, rfl⟩ := List.mem_map.mp hv
    rw [inV_strs, decide_eq_true (sub x mx)]
    rfl
  rw [s, List.findIdx?_cons, inV_strs, decide_eq_false nz]
  simp
/-- words that are known, then a word that is none of these, and two more -/
theorem bad_word {some_ ks : List Str} {z y : Str} (ok : ∀ x ∈ some_, okS x = true) (nd : some_.Nodup) (sub : ∀ x ∈ some_, x ∈ ks) (oz : okS z = true) (oy : okS y = true) (nz : z ∉ some_) (ny : y ∉ some_) (yz : y ≠ z) (nk : z ∉ ks) : badIx (some_.map V.str ++ [.str z, .str y, .non]) ks = some some_.length := by
  have e : fbw (some_.map V.str ++ [.str z, .str y, .non]) [] 0 = some (some_.length + 2) := by
    have h1 : ∀ x ∈ some_ ++ [z, y], okS x = true := fun x m => by
      rcases List.mem_append.mp m with m | m
      · exact ok x m
      · simp only [List.mem_cons, List.mem_nil_iff, or_false] at m
        rcases m with rfl | rfl <;> assumption
    have h2 : (some_ ++ [z, y]).Nodup := List.nodup_append.mpr ⟨nd, by simp [yz.symm], fun a ma b mb q => by
      simp only [List.mem_cons, List.mem_nil_iff, or_false] at mb
      rcases mb with rfl | rfl
      · exact nz (q ▸ ma)
      · exact ny (q ▸ ma)⟩
    have q := fbw_pre (some_ ++ [z, y]) [] [.non] 0 h1 h2 fun _ _ => rfl
    rw [List.map_append, List.append_assoc, List.nil_append, Nat.zero_add, List.length_append] at q
    exact q
  unfold badIx fewL
  rw [e]
  dsimp only
  have tk : (some_.map V.str ++ [V.str z, V.str y, V.non]).take (some_.length + 2) = some_.map V.str ++ [V.str z, V.str y] := by
    have h := List.take_length_add_append (l₁ := some_.map V.str) (l₂ := [V.str z, .str y, .non]) 2
    rw [List.length_map] at h
    rw [h]
    rfl
  rw [tk, strange_at sub nk]
theorem bad_last {some_ ks : List Str} {z : Str} (ok : ∀ x ∈ some_, okS x = true) (nd : some_.Nodup) (sub : ∀ x ∈ some_, x ∈ ks) (oz : okS z = true) (nz : z ∉ some_) (nk : z ∉ ks) : badIx (some_.map V.str ++ [.str z]) ks = some some_.length := by
  have e : fbw (some_.map V.str ++ [.str z]) [] 0 = none := by
    rw [fbw_pre some_ [] _ 0 ok nd fun _ _ => rfl, List.nil_append]
    show (if (!isWd (.str z) || inV (.str z) (some_.map V.str)) = true then _ else none) = _
    rw [show isWd (.str z) = true from oz, inV_strs, decide_eq_false nz, if_neg (by simp)]
  unfold badIx fewL
  rw [e]
  dsimp only
  rw [strange_at sub nk]
/-! ### promises where nothing is being shown -/
structure FnOkG (P : Program) (w : World) (K : PySem.W.Frag) (mg : Str → Option Value) (base : Heap) (CX : CXT) (k : Nat) (f : Addr) (fd : FuncData) (ps : List Str) (sp : Sp) : Prop where
  len : ∀ vs H Q E, sp vs H Q E → vs.length = ps.length
  run : ∀ (A : Around) (outer : List Env) (s : Shared) (H : Hp) (args : Args) (us : List Value) (vs : List V) (Q : VK) (E : XK), A.guards = some [] → Room k A → Env0 P w K mg base A outer s H → BindsTo s fd args (ps.zip us) → Vals vs us → sp vs H Q E →
    codeAny (model P w) A (.call (.ref f) args) (CR CX outer P w H s Q E) s
theorem okG {P : Program} {w : World} {K : PySem.W.Frag} {mg : Str → Option Value} {base : Heap} {x qual : Str} {params : Arguments} {body : List Stmt} {scope : Scope} {dvs : List V} {kws : List (Str × V)} {f c : Addr} {fd : FuncData} {CX : CXT} {N ps : List Str} {k : Nat} {sp : Sp}
    (F : FunD K x qual params body scope dvs kws f fd) (hcode : codeOf K f = some (.ref c)) (S : FnScope N ps scope) (len : ∀ vs H Q E, sp vs H Q E → vs.length = ps.length)
    (hbody : ∀ (A : Around) (outer : List Env) (s : Shared) (H : Hp) (vs : List V) (Q : VK) (E : XK), A.guards = some [] → Room k (A.deeper (envOfC qual scope s.heap.objs.size f (.ref c))) → sp vs H Q E →
      ∃ t, PSs (cxOf CX P w K mg base N qual scope f (.ref c) A outer s H E) body t ∧ t { nx := fun _ H' => Q .non H', rt := Q } (L2.start N vs) H) : FnOkG P w K mg base CX (k + 1) f fd ps sp := by
  obtain ⟨oc, od, dV, kV, doc, pm, an, cdv, ct, osl, rfl, lk, hcd, _, _⟩ := F.ex
  have ec : cdv = .ref c := by
    unfold codeOf at hcode
    rw [lk] at hcode
    exact Option.some.inj hcode
  subst ec
  refine ⟨len, fun A outer s H args us vs Q E hG hr e0 hb r hsp => ?_⟩
  exact run_ofS lk hcd S hr e0 hb r (len _ _ _ _ hsp) fun hr' => hbody A outer s H vs Q E hG hr' hsp
theorem pe_callG {X : Cx} {CX : CXT} {k : Nat} {f : Addr} {fd : FuncData} {ps : List Str} {sp : Sp} {E : XK} {x : Str} {p pos : Pos} {e : Expr} {es : List Expr} {t : TA} (hG : X.A.guards = some []) (F : FnOkG X.prog X.w X.K X.mg X.base CX k f fd ps sp) (hr : Room k X.A) (hg : Gl X x) (hm : X.mg x = some (.ref f)) (hk : PySem.W.keepIn X.K (.ref f) = true) (hb : Binds X.K fd ps []) (hx : Passes CX X E)
    (ha : PA X (e :: es) t) (dbg : (x == ("__debug__" : Str)) = false := by decide) (stars : starEach (e :: es) X.env = (false, eval e X.env) :: starEach es X.env := by rfl) (plain : (backTo pos (starEach es X.env)).any (·.1) = false := by rfl) :
    PE X (.Call (.Name x p) (e :: es) [] pos) (tCall sp [] E t) := ⟨fun pins s σ H Q I h => wpAny_Call_Name_kw (ld_glob I hg hm (PySem.W.callWith_K (h₀ := X.base) I.ok.mod.kin hk (thn (ha.run pos pins s σ H _ I h) fun us s1 ⟨vs, H1, J, rel, want⟩ => ⟨J.kIn, by
  have want : sp vs H1 Q E := by
    rw [← List.append_nil vs]
    exact want
  have many : us.length = ps.length := rel.length.symm.trans (F.len _ _ _ _ want)
  have bound := hb s1 us J.kIn (by rw [List.append_nil]; exact many)
  rw [List.append_nil] at bound
  refine wpAny_call (codeAny_mono (F.run X.A X.stack s1 H1 ⟨us, []⟩ us vs Q E hG hr J.env0 bound rel want) fun r s' z => ?_)
  match r, z with
  | .error y, z => exact hx pins σ H1 s1 y s' J z
  | .ok (.ret y), z => exact J.after z
  | .ok .next, z => exact z.elim
  | .ok .brk, z => exact z.elim
  | .ok .cont, z => exact z.elim⟩) stars plain) dbg)⟩
end TH

/-! A28: _law_met(lambda: ..), what is found -/
namespace TH
open PySem PySem.Spec PyProof.Rows L2 LamV LamX XK0
open C8 (pss_cut tCut)
abbrev sRefused : Stmt := top 57
abbrev lamR : Str := ("_law_refused" : Str) ++ ".<locals>." ++ "<lambda>"
theorem pe_met {X : Cx} {T : List (Addr × Str)} {g c Pt CN CB : Addr} {fd : FuncData} {k : Nat} {q : Str} {params : Arguments} {body : Expr} {scope : Scope} {t : XK → TE} {p lpos pos : Pos} (M : MetC X.K X.mg CN CB) (F : FnP X.K "_law_met" sMet g fd) (hm : X.mg "_law_met" = some (.ref g)) (hk : PySem.W.keepIn X.K (.ref g) = true)
    (TB : TabB X.base X.mg c Pt) (hcode : X.env.code = .ref c) (hq : X.env.qual ++ "<lambda>" = q) (hmT : (Pt, q) ∈ T) (hu : ∀ p ∈ T, p.1 = Pt → p.2 = q) (hr : Room (k + 2) X.A) (hg : Gl X "_law_met") (L : LamS X.env.scope scope) (hdef : defaultsOf params X.env = ([], []))
    (hbind : ∀ (q : Str) (cl : List (Str × Addr)) (pm cv ctv : Value), bindArgs (PySem.W.kla_fn "<lambda>" q params body scope cl pm cv ctv) ⟨[], []⟩ = pure [])
    (hbody : ∀ (A : Around) (outer : List Env) (s : Shared) (H : Hp) (E : XK) (f c' : Addr), Room k (A.deeper (lamEnv X scope s.heap.objs.size f c')) → PE (lamCx X A outer s H E scope f c') body (t E)) :
    PE X (.Call (.Name "_law_met" p) [.Lambda params body scope lpos] [] pos) (tLam T (TTmet CN CB) t) := by
  have hb := L2.FunD.bindsA (ps := ["_law_ask"]) F (fun _ _ _ _ _ _ us hl => match us, hl with | [_], _ => rfl)
  obtain ⟨oc, od, dV, kV, doc, pm, an, cdv, ct, osl, rfl, lk, hcd, hD, hK⟩ := F.ex
  have bd : L2.Binds X.K (PySem.W.fnOf "_law_met" "_law_met" (defArgs sMet) (defBody sMet) (defScope sMet) dV kV doc pm an cdv ct) ["_law_ask"] [] := fun s us _ hl => by
    rw [List.append_nil] at hl ⊢
    exact hb s us hl
  subst hq
  exact pe_lamcall hg hm hk lk hcd bd scMet rfl (.inl rfl) (met_gives M) TB hcode hmT hu hr L hdef hbind hbody
theorem lamN {T : List (Addr × Str)} {CN CB : Addr} {t : XK → TE} {σ : L2.St} {H : Hp} {Q : VK} {v : V} (hT : Tabs T H) (ht : ∀ E H1 Q', ExtN H H1 → Tabs T H1 → Rz E H1 CN [("number", v)] → t E σ H1 Q')
    (hQ : ∀ p H', ExtN H H' → Tabs T H' → NewP H p → H' p = some (.lst [.str "number", v]) → Q (.ref p) H') : tLam T (TTmet CN CB) t σ H Q := by
  refine ⟨hT, fun H1 x1 t1 => ht _ H1 _ x1 t1 fun H2 dd x2 nd => ⟨dd, v, rfl, .inl ⟨rfl, upd_same, fun p np => ?_⟩⟩⟩
  have x3 : Ex H1 (upd (upd H2 dd (.xd [("number", v)])) p (.lst [.str "number", v])) := (x2.trans (Ex.new nd)).trans (Ex.new np)
  refine hQ p _ (x1.trans x3.extN) (x3.tabs t1) (fun o e n => ?_) upd_same
  rw [(x2.trans (Ex.new nd)) _ _ (x1 _ _ e n)] at np
  cases np
theorem lamB {T : List (Addr × Str)} {CN CB : Addr} {t : XK → TE} {σ : L2.St} {H : Hp} {Q : VK} {v : V} (hT : Tabs T H) (ht : ∀ E H1 Q', ExtN H H1 → Tabs T H1 → Rz E H1 CB [("index", v)] → t E σ H1 Q')
    (hQ : ∀ p H', ExtN H H' → Tabs T H' → NewP H p → H' p = some (.lst [.str "calls", v]) → Q (.ref p) H') : tLam T (TTmet CN CB) t σ H Q := by
  refine ⟨hT, fun H1 x1 t1 => ht _ H1 _ x1 t1 fun H2 dd x2 nd => ⟨dd, v, rfl, .inr ⟨rfl, upd_same, fun p np => ?_⟩⟩⟩
  have x3 : Ex H1 (upd (upd H2 dd (.xd [("index", v)])) p (.lst [.str "calls", v])) := (x2.trans (Ex.new nd)).trans (Ex.new np)
  refine hQ p _ (x1.trans x3.extN) (x3.tabs t1) (fun o e n => ?_) upd_same
  rw [(x2.trans (Ex.new nd)) _ _ (x1 _ _ e n)] at np
  cases np
/-- k things found so far, each the list [x, v] -/
structure Fs (T : List (Addr × Str)) (H2 H : Hp) (fl : Addr) (k : Nat) (x : Str) (v : V) : Prop where
  ex : ExtN H2 H
  new : NewP H2 fl
  tabs : Tabs T H
  all : ∃ ps : List Addr, ps.length = k ∧ H fl = some (.lst (ps.map V.ref)) ∧ ∀ p ∈ ps, H p = some (.lst [.str x, v])
theorem Fs.first {T : List (Addr × Str)} {H2 H : Hp} {fl p : Addr} {x : Str} {v : V} (e : ExtN H2 H) (t : Tabs T H) (hp : H p = some (.lst [.str x, v])) (nf : H fl = none) : Fs T H2 (upd H fl (.lst [.ref p])) fl 1 x v :=
  ⟨e.trans (Ex.new nf).extN, (fun o e2 n => by rw [e _ _ e2 n] at nf; cases nf), (Ex.new nf).tabs t, [p], rfl, upd_same, fun q m => by rw [List.mem_singleton.mp m]; exact (Ex.new nf) _ _ hp⟩
theorem Fs.lst {T : List (Addr × Str)} {H2 H : Hp} {fl : Addr} {k : Nat} {x : Str} {v : V} (F : Fs T H2 H fl k x v) : ∃ xs, H fl = some (.lst xs) ∧ xs.length = k := by
  obtain ⟨ps, l, e, _⟩ := F.all
  exact ⟨_, e, by rw [List.length_map, l]⟩
/-- one more -/
theorem Fs.app {T : List (Addr × Str)} {H2 H H' : Hp} {fl p : Addr} {k : Nat} {x : Str} {v : V} {xs : List V} (F : Fs T H2 H fl k x v) (e : ExtN H H') (t : Tabs T H') (np : NewP H p) (hp : H' p = some (.lst [.str x, v])) (hx : H' fl = some (.lst xs)) : Fs T H2 (upd H' fl (.lst (xs ++ [.ref p]))) fl (k + 1) x v := by
  obtain ⟨ps, l, hf, all⟩ := F.all
  have ef := e _ _ hf fun _ z => nomatch z
  rw [ef] at hx
  cases hx
  have pf : p ≠ fl := np.off hf fun _ z => nomatch z
  refine ⟨fun b o eb n => ?_, F.new, fun q hq => ?_, ps ++ [p], by rw [List.length_append, l]; rfl, by rw [upd_same, List.map_append]; rfl, fun q m => ?_⟩
  · refine (upd_ne fun z => ?_).trans (e _ _ (F.ex _ _ eb n) n)
    exact F.new o (z ▸ eb) n
  · obtain ⟨rs, h1, h2, h3⟩ := t q hq
    refine ⟨rs, (upd_ne fun z => by rw [z, ef] at h1; cases h1).trans h1, h2, fun pos cv hc => ?_⟩
    obtain ⟨c, e1, e2⟩ := h3 pos cv hc
    exact ⟨c, e1, (upd_ne fun z => by rw [z, ef] at e2; cases e2).trans e2⟩
  · rcases List.mem_append.mp m with m | m
    · have hq := e _ _ (all q m) fun _ z => nomatch z
      refine (upd_ne fun z => ?_).trans hq
      rw [z, ef] at hq
      have z2 : ps.map V.ref = [.str x, v] := HO.lst.inj (Option.some.inj hq)
      cases ps with
      | nil => cases z2
      | cons a r => cases z2
    · rw [List.mem_singleton.mp m]
      exact (upd_ne pf).trans hp
/-! ### what is shown -/
def entD (od : PyData) : PyData := .list [.str "number", od]
def Showy (d : PyData) : Prop := d.showable = true ∧ d.depth ≤ 40 ∧ d.shown.length ≤ sizeLine
theorem shown_ok {sp l : Addr} {H : Hp} {v : V} {od : PyData} (h : Odd sp l H (fun x => x = "none" ∨ x = "E" ∨ x ∈ deedN) v od) : Showy (.list (List.replicate 5 (entD od))) := by
  have len : ∀ d : PyData, d.shown.length ≤ 1000 → d.shown.length ≤ sizeLine := fun d h => by rw [sizeLine_eq]; omega
  cases h with
  | non => exact ⟨by decide +kernel, by decide +kernel, len _ (by decide +kernel)⟩
  | int => exact ⟨by decide +kernel, by decide +kernel, len _ (by decide +kernel)⟩
  | str x h =>
    rcases h with rfl | rfl | h
    · exact ⟨by decide +kernel, by decide +kernel, len _ (by decide +kernel)⟩
    · exact ⟨by decide +kernel, by decide +kernel, len _ (by decide +kernel)⟩
    · simp only [deedN, List.mem_cons, List.mem_nil_iff, or_false] at h
      rcases h with rfl | rfl
      · exact ⟨by decide +kernel, by decide +kernel, len _ (by decide +kernel)⟩
      · exact ⟨by decide +kernel, by decide +kernel, len _ (by decide +kernel)⟩
  | lst a h n => exact ⟨by decide +kernel, by decide +kernel, len _ (by decide +kernel)⟩
  | dct a h => exact ⟨by decide +kernel, by decide +kernel, len _ (by decide +kernel)⟩
theorem paired_rep {α β : Type} {R : α → β → Prop} {b : β} : ∀ {l : List α} {k : Nat}, l.length = k → (∀ a ∈ l, R a b) → Paired R l (List.replicate k b)
  | [], 0, _, _ => .nil
  | a :: r, k + 1, h, q => .cons (q a List.mem_cons_self) (paired_rep (by simpa using h) fun x m => q x (List.mem_cons_of_mem _ m))
  | a :: r, 0, h, _ => by cases h
  | [], k + 1, h, _ => by cases h
theorem ent_rd {H : Hp} {p : Addr} {v : V} {od : PyData} (hp : H p = some (.lst [.str "number", v])) (r : RdD H 2 v od) : RdD H 3 (.ref p) (entD od) := ⟨p, _, rfl, hp, .cons rfl (.cons r .nil)⟩
def numD (j : Int) : PyData := .list [.str "calls", .int j]
theorem dp_rep {K : PySem.W.Frag} {H : Hp} {d : PyData} : ∀ {ps : List Addr} {k : Nat}, ps.length = k → (∀ p ∈ ps, Dp K H (.ref p) d) → DpAll K H (ps.map V.ref) (List.replicate k d)
  | [], 0, _, _ => .nil
  | a :: r, k + 1, h, q => .cons (q a List.mem_cons_self) (dp_rep (by simpa using h) fun x m => q x (List.mem_cons_of_mem _ m))
  | a :: r, 0, h, _ => by cases h
  | [], k + 1, h, _ => by cases h
theorem num_dp {K : PySem.W.Frag} {H : Hp} {p : Addr} {j : Int} (hp : H p = some (.lst [.str "calls", .int j])) : Dp K H (.ref p) (numD j) := .lst (.inl (.inl hp)) (.cons (.str _) (.cons (.int _) .nil))
theorem num_ok4 (j : Int) : SeqAt.shaped (.list (List.replicate 4 (numD j))) = true := by
  have h : PyData.canLay0 (.str "calls") = true := by decide +kernel
  unfold SeqAt.shaped
  have e2 : PyData.depth (.list (List.replicate 4 (numD j))) = 2 := rfl
  rw [e2]
  have e1 : PyData.canLay0 (.list (List.replicate 4 (numD j))) = true := by
    show (((PyData.canLay0 (.str "calls")) && (true && true)) && (((PyData.canLay0 (.str "calls")) && (true && true)) && (((PyData.canLay0 (.str "calls")) && (true && true)) && (((PyData.canLay0 (.str "calls")) && (true && true)) && true)))) = true
    rw [h]
    rfl
  rw [e1]
  decide
theorem num_ok2 : SeqAt.shaped (.list (List.replicate 2 (numD 0))) = true := by decide +kernel
end TH

/-! A28B: plainly, of right parts and the thing of them -/
namespace TH
open PySem PySem.Spec PyProof.Rows L2 LamV LamX XK0
theorem valN_ok : ∀ x ∈ valN, okS x = true ∧ PyData.canLay0 (.str x) = true := by
  intro x m
  simp only [valN, List.mem_cons, List.mem_nil_iff, or_false] at m
  rcases m with rfl | rfl | rfl | rfl <;> exact ⟨by decide +kernel, by decide +kernel⟩
theorem nameN_ok : ∀ x ∈ deedN ++ entN, okS x = true ∧ PyData.canLay0 (.str x) = true := by
  intro x m
  simp only [deedN, entN, List.mem_cons, List.mem_nil_iff, or_false, List.cons_append, List.nil_append] at m
  rcases m with rfl | rfl | rfl | rfl | rfl <;> exact ⟨by decide +kernel, by decide +kernel⟩
theorem apart : ∀ x ∈ deedN, x ∉ entN := by decide +kernel
namespace ThD.Good
variable {d : ThD} (g : d.Good)
include g
theorem vsub : ∀ v ∈ d.vals, v ∈ valN := fun v m => by
  obtain ⟨k, _, _, e⟩ := g.vals
  rw [e] at m
  exact List.mem_of_mem_take m
theorem vnd : d.vals.Nodup := by
  obtain ⟨k, _, _, e⟩ := g.vals
  rw [e]
  exact (List.take_sublist _ valN).nodup (by decide)
theorem vlen : d.vals.length ≤ 4 ∧ 2 ≤ d.vals.length := by
  obtain ⟨k, h1, h2, e⟩ := g.vals
  have : (valN.take k).length = k := by rw [List.length_take]; exact Nat.min_eq_left h2
  rw [e, this]
  exact ⟨h2, h1⟩
theorem dsub : ∀ x ∈ d.deeds.map (·.1), x ∈ deedN := fun v m => by
  obtain ⟨k, _, e⟩ := g.dn
  rw [e] at m
  exact List.mem_of_mem_take m
theorem esub : ∀ x ∈ d.ents.map (·.1), x ∈ entN := fun v m => by
  obtain ⟨k, _, _, e⟩ := g.en
  rw [e] at m
  exact List.mem_of_mem_take m
theorem dnd : (d.deeds.map (·.1)).Nodup := by
  obtain ⟨k, _, e⟩ := g.dn
  rw [e]
  exact (List.take_sublist _ deedN).nodup (by decide)
theorem end_ : (d.ents.map (·.1)).Nodup := by
  obtain ⟨k, _, _, e⟩ := g.en
  rw [e]
  exact (List.take_sublist _ entN).nodup (by decide)
theorem dlen : d.deeds.length ≤ 2 := by
  obtain ⟨k, h, e⟩ := g.dn
  have := congrArg List.length e
  rw [List.length_map, List.length_take] at this
  omega
theorem elen : d.ents.length ≤ 3 := by
  obtain ⟨k, _, h, e⟩ := g.en
  have := congrArg List.length e
  rw [List.length_map, List.length_take] at this
  omega
theorem has_e : ("e" : Str) ∈ d.ents.map (·.1) := by
  obtain ⟨k, h1, _, e⟩ := g.en
  rw [e]
  obtain ⟨j, rfl⟩ : ∃ j, k = j + 1 := ⟨k - 1, by omega⟩
  exact List.mem_cons_self
theorem nsub : ∀ x ∈ d.names, x ∈ deedN ++ entN := fun x m => by
  unfold ThD.names at m
  rcases List.mem_append.mp m with m | m
  · exact List.mem_append_left _ (g.dsub x m)
  · exact List.mem_append_right _ (g.esub x m)
theorem nlen : d.names.length ≤ 5 := by
  unfold ThD.names
  rw [List.length_append, List.length_map, List.length_map]
  have := g.dlen
  have := g.elen
  omega
theorem nnd : d.names.Nodup := List.nodup_append.mpr ⟨g.dnd, g.end_, fun a ma b mb e => apart a (g.dsub a ma) (e ▸ g.esub b mb)⟩
theorem fit : d.Fit where
  vne := fun z => by have := g.vlen.2; rw [z] at this; simp at this
  vok := fun x m => (valN_ok x (g.vsub x m)).1
  vnd := g.vnd
  vln := by have := g.vlen.1; omega
  st := g.start
  dln := by have := g.dlen; omega
  eln := by have := g.elen; omega
  dnd := g.dnd
  end_ := g.end_
  dok := fun l m => ⟨(nameN_ok _ (List.mem_append_left _ (g.dsub _ (List.mem_map_of_mem m)))).1, by
    obtain ⟨h1, h2⟩ := g.dl l m
    have hl : l.2.length = d.vals.length := by rw [← h1, List.length_map]
    refine ⟨fun q mq => ⟨h1 ▸ List.mem_map_of_mem mq, h2 q mq⟩, h1 ▸ g.vnd, ?_, fun _ => hl⟩
    have := g.vlen.1
    omega⟩
  eok := fun l m => ⟨(nameN_ok _ (List.mem_append_right _ (g.esub _ (List.mem_map_of_mem m)))).1, fun z => apart _ (g.dsub _ z) (g.esub _ (List.mem_map_of_mem m)), by
    obtain ⟨h1, h2, h3⟩ := g.el l m
    refine ⟨fun q mq => ⟨h2 q mq, h3 q mq⟩, h1, ?_, fun z => nomatch z⟩
    have z := h1.length_le_of_subset (l₂ := d.vals) fun x mx => by
      obtain ⟨q, mq, rfl⟩ := List.mem_map.mp mx
      exact h2 q mq
    rw [List.length_map] at z
    have := g.vlen.1
    omega⟩
theorem ok : d.Ok where
  few := by have := g.vlen.1; omega
  start := g.start
  txt := fun v m => (valN_ok v (g.vsub v m)).2
  deeds := fun n l h v mv => by
    obtain ⟨p, mp, _, rfl⟩ := look_some h
    obtain ⟨h1, h2⟩ := g.dl p mp
    rw [← h1] at mv
    obtain ⟨q, mq, rfl⟩ := List.mem_map.mp mv
    exact ⟨q.2, h2 q mq, lookL_mem (h1 ▸ g.vnd) mq⟩
  ents := fun n l h v x e => by
    obtain ⟨p, mp, _, rfl⟩ := look_some h
    obtain ⟨h1, h2, h3⟩ := g.el p mp
    obtain ⟨q, mq, hq⟩ := List.mem_map.mp (lookL_keys e)
    have := lookL_mem h1 mq
    rw [hq, e] at this
    cases this
    exact h3 q mq
end ThD.Good
/-! ### the thing of right parts -/
theorem ord_names {d d' : ThD} (h : IsOrd d d') : d'.names.Perm d.names := by
  obtain ⟨ns, ms, p1, s1, p2, s2, rfl⟩ := h
  unfold ThD.names ordD
  dsimp only
  rw [List.map_map, List.map_map]
  have e : ∀ (vals : List Str) (lds : Lds) (l : List Str), l.map ((fun x : Str × Ld => x.1) ∘ fun n => (n, ordL vals ((look lds n).getD []))) = l := fun vals lds l => by
    induction l with
    | nil => rfl
    | cons a r ih => rw [List.map_cons, ih]; rfl
  rw [e, e]
  exact p1.append p2
theorem look_no {ls : Lds} {n : Str} (h : n ∉ ls.map (·.1)) : look ls n = none := by
  cases q : look ls n with
  | none => rfl
  | some l =>
    obtain ⟨p, m, e, _⟩ := look_some q
    exact absurd (e ▸ List.mem_map_of_mem m) h
theorem ord_ents {d d' : ThD} (g : d.Good) (h : IsOrd d d') (n : Str) : look d'.ents n = (look d.ents n).map (ordL d.vals) := by
  obtain ⟨ns, ms, p1, s1, p2, s2, rfl⟩ := h
  exact look_ordD g.end_ p2 n
theorem ord_deeds {d d' : ThD} (g : d.Good) (h : IsOrd d d') (n : Str) : look d'.deeds n = (look d.deeds n).map (ordL d.vals) := by
  obtain ⟨ns, ms, p1, s1, p2, s2, rfl⟩ := h
  exact look_ordD g.dnd p1 n
theorem ord_vals {d d' : ThD} (h : IsOrd d d') : d'.vals = d.vals ∧ d'.start = d.start := by
  obtain ⟨ns, ms, p1, s1, p2, s2, rfl⟩ := h
  exact ⟨rfl, rfl⟩
theorem ord_ok {d d' : ThD} (g : d.Good) (h : IsOrd d d') : d'.Ok := by
  obtain ⟨ev, es⟩ := ord_vals h
  have k := g.ok
  refine ⟨by rw [ev]; exact k.few, by rw [ev, es]; exact k.start, by rw [ev]; exact k.txt, fun n l hl v mv => ?_, fun n l hl v x e => ?_⟩
  · rw [ord_deeds g h] at hl
    obtain ⟨l0, e0, rfl⟩ := Option.map_eq_some_iff.mp hl
    rw [ev] at mv ⊢
    obtain ⟨p, mp, _, e2⟩ := look_some e0
    obtain ⟨y, my, ey⟩ := k.deeds n l0 e0 v mv
    refine ⟨y, my, ?_⟩
    rw [ordL_look g.vnd fun q mq => ?_]
    · exact ey
    · rw [← e2] at mq
      exact ((g.fit.dok p mp).2.1 q mq).1
  · rw [ord_ents g h] at hl
    obtain ⟨l0, e0, rfl⟩ := Option.map_eq_some_iff.mp hl
    obtain ⟨p, mp, _, e2⟩ := look_some e0
    rw [ev]
    rw [ordL_look g.vnd fun q mq => ?_] at e
    · exact k.ents n l0 e0 v x e
    · rw [← e2] at mq
      exact ((g.fit.eok p mp).2.2.1 q mq).1
theorem ord_e {d d' : ThD} (g : d.Good) (h : IsOrd d d') : (look d'.ents "e").isSome = true := by
  rw [ord_ents g h, Option.isSome_map]
  exact look_mem g.has_e
/-- an odd word is no entry -/
theorem odd_no {d d' : ThD} (g : d.Good) (h : IsOrd d d') {x : Str} (hx : x = "none" ∨ x = "E" ∨ x ∈ deedN) : look d'.ents x = none := by
  rw [ord_ents g h, look_no fun m => ?_]
  · rfl
  · have m := g.esub x m
    rcases hx with rfl | rfl | hx
    · exact absurd m (by decide +kernel)
    · exact absurd m (by decide +kernel)
    · exact apart x hx m
end TH

/-! C1: enumerate of a locked dict -/
namespace TH
open PySem PySem.Spec PyProof.Rows L2 LamV LamX XK0
section
variable {prog : Program} {w : World} {A : Around} {E : Value → Shared → Prop} {s : Shared} {it d : Addr} {i n ep : Nat} {od : Obj} {es : Array DictEntry}
/-- the common way in: the iterator's place among the entries -/
theorem keyNext {en : DictEntry} {Q : Value → Shared → Prop} (hit : s.heap.IsKeyIter it d i n ep) (hod : s.heap.get? d = some od) (hdd : od.data = .dict es ep) (hsz : es.size = n) (hx : es[i]? = some en)
    (hQ : ∀ h', h'.IsKeyIter it d (i + 1) n ep → Heap.SameBut it s.heap h' → Q en.key { s with heap := h' }) : wpAny (model prog w) A (Builtin.SmallTypes.nextOf (.ref it)) Q E s := by
  obtain ⟨o, ho, hc, hd⟩ := id hit
  obtain ⟨lt, he⟩ := Array.getElem?_eq_some_iff.mp hx
  have turned : (s.heap.update it (Obj.mapFields (·.setIfInBounds 1 (rawInt ((i : Int) + 1))))).IsKeyIter it d (i + 1) n ep :=
    ⟨_, Heap.get?_update_self _ ho (Obj.isFreed_of_fields (Obj.data_mapFields hd _)), (Obj.cls_mapFields ..).trans hc, by rw [Obj.data_mapFields hd]; simp [rawInt]⟩
  unfold Builtin.SmallTypes.nextOf
  refine wpAny_bind (wpAny_callSpecial?_slot hit.typeIs PySem.F.slot_dict_keyiterator_next (wpAny_call_entry PySem.F.slot_dict_keyiterator_next hit.typeIs PySem.F.entry_dict_keyiterator_next ?_ (PySem.F.args_dict_keyiterator_next_1 _)))
  refine wpAny_bind (wpAny_pure (wpAny_bind (wpAny_bind ?_)))
  first
    | refine wpAny_bind (wpAny_typeNameOfWhole_keyiter hit.typeIs (wpAny_pure (wpAny_bind (wpAny_fieldsOf ho hd ?_))))
    | refine wpAny_bind (wpAny_typeNameOf_keyiter hit.typeIs (wpAny_pure (wpAny_bind (wpAny_fieldsOf ho hd ?_))))
  simp only [show Builtin.Dict_items.ownsTuple "dict_keyiterator" = false by decide, Bool.false_eq_true, if_false]
  show wpAny _ _ (if _ then _ else _) _ _ s
  rw [if_neg (by simp)]
  refine wpAny_bind (wpAny_pure (wpAny_bind (wpAny_dictEntries hod hdd ?_)))
  rw [if_neg (by simp [hsz])]
  refine wpAny_bind (wpAny_pure (wpAny_bind (wpAny_dictEpoch hod hdd ?_)))
  rw [if_neg (by simp)]
  refine wpAny_pure ?_
  simp only [show ¬ ((i : Int) < 0) by omega, if_false, Int.toNat_natCast, hx]
  refine wpAny_bind ?_
  first
    | refine wpAny_bind (wpAny_typeNameOfWhole_keyiter hit.typeIs (wpAny_pure (wpAny_bind (wpAny_isOneOf_keyiter hit.typeIs ?_))))
    | refine wpAny_bind (wpAny_typeNameOf_keyiter hit.typeIs (wpAny_pure (wpAny_bind (wpAny_isOneOf_keyiter hit.typeIs ?_))))
  show wpAny _ _ ((setField (.ref it) 1 (rawInt ((i : Int) + 1))) >>= _) _ _ _
  refine wpAny_bind (wpAny_setField ho hd (by simp) (wpAny_bind (wpAny_holding (wpAny_bind (wpAny_isOneOf_keyiter turned.typeIs ?_)))))
  exact wpAny_pure (wpAny_pure ⟨_, rfl, wpAny_pure (hQ _ turned (Heap.SameBut.update ..))⟩)
theorem keyEnd {Q : Value → Shared → Prop} (hh : A.handled = none) (hit : s.heap.IsKeyIter it d i n ep) (hod : s.heap.get? d = some od) (hdd : od.data = .dict es ep) (hsz : es.size = n) (hge : n ≤ i)
    (hE : ∀ h' e, Heap.ExtBut it s.heap h' → (∃ o, h'.get? e = some o ∧ o.cls = .type "StopIteration") → E (.ref e) { s with heap := h' }) : wpAny (model prog w) A (Builtin.SmallTypes.nextOf (.ref it)) Q E s := by
  obtain ⟨o, ho, hc, hd⟩ := id hit
  have hx : es[i]? = none := Array.getElem?_eq_none (by omega)
  unfold Builtin.SmallTypes.nextOf
  refine wpAny_bind (wpAny_callSpecial?_slot hit.typeIs PySem.F.slot_dict_keyiterator_next (wpAny_call_entry PySem.F.slot_dict_keyiterator_next hit.typeIs PySem.F.entry_dict_keyiterator_next ?_ (PySem.F.args_dict_keyiterator_next_1 _)))
  refine wpAny_bind (wpAny_pure (wpAny_bind (wpAny_bind ?_)))
  first
    | refine wpAny_bind (wpAny_typeNameOfWhole_keyiter hit.typeIs (wpAny_pure (wpAny_bind (wpAny_fieldsOf ho hd ?_))))
    | refine wpAny_bind (wpAny_typeNameOf_keyiter hit.typeIs (wpAny_pure (wpAny_bind (wpAny_fieldsOf ho hd ?_))))
  simp only [show Builtin.Dict_items.ownsTuple "dict_keyiterator" = false by decide, Bool.false_eq_true, if_false]
  show wpAny _ _ (if _ then _ else _) _ _ s
  rw [if_neg (by simp)]
  refine wpAny_bind (wpAny_pure (wpAny_bind (wpAny_dictEntries hod hdd ?_)))
  rw [if_neg (by simp [hsz])]
  refine wpAny_bind (wpAny_pure (wpAny_bind (wpAny_dictEpoch hod hdd ?_)))
  rw [if_neg (by simp)]
  refine wpAny_pure ?_
  simp only [show ¬ ((i : Int) < 0) by omega, if_false, Int.toNat_natCast, hx]
  refine wpAny_bind ?_
  first
    | refine wpAny_bind (wpAny_typeNameOfWhole_keyiter hit.typeIs (wpAny_pure ?_))
    | refine wpAny_bind (wpAny_typeNameOf_keyiter hit.typeIs (wpAny_pure ?_))
  show wpAny _ _ ((setField (.ref it) 0 Value.none) >>= _) _ _ _
  refine wpAny_bind (wpAny_setField ho hd (by simp) ?_)
  refine wpAny_bind (m := newExc (.type "StopIteration") []) ?_
  simp only [newExc, newTuple]
  refine wpAny_bind (wpAny_newObj_type (wpAny_bind (m := firstArgMember _ _) (wpAny_of_eq (a := Value.none) (by first | rfl | (simp only [firstArgMember]; rfl)) (wpAny_newObj_type ?_ (by size_fits)))) (by size_fits))
  simp only [raiseNew]
  refine wpAny_bind (wpAny_handled ?_)
  rw [show A.in1.handled = none from hh]
  exact wpAny_bind (wpAny_pure (wpAny_throw (hE _ _ (((Heap.SameBut.update ..).extBut.push _).push _) ⟨_, Heap.get?_push_size _ rfl, rfl⟩)))
end
end TH

/-! C2: for i, k in enumerate(d) -/
namespace TH
open PySem PySem.Spec PyProof.Rows L2 LamV LamX XK0
abbrev keyO (d : Addr) (n ep : Nat) : Obj := { cls := .type "dict_keyiterator", data := .fields #[.ref d, .int 0 0, .int n 0, .int ep 0] }
theorem begins_keys {d : Addr} {od : Obj} {es : Array DictEntry} {ep : Nat} (hs : (d == sysModules) = false) (hx : od.ExactDict) (hd : od.data = .dict es ep) : Begins (.ref d) (keyO d es.size ep) fun h => h.get? d = some od where
  iter := fun prog w A E s Q e h => wpAny_pyIter_dict_raw hs ⟨od, e, hx, hd⟩ h
  keeps := fun h h' e k => k _ _ e
  free := rfl
theorem draws_keys {prog : Program} {w : World} {A : Around} (hh : A.handled = none) (it d : Addr) (ne : d ≠ it) {od : Obj} {es : Array DictEntry} {ep : Nat} (hd : od.data = .dict es ep) :
    Draws prog w A it [it, d] es.size (fun i v => ∃ en, es[i]? = some en ∧ v = en.key) (fun i h => h.IsKeyIter it d i es.size ep ∧ h.get? d = some od) where
  live := fun i h st => by
    obtain ⟨o, e, _⟩ := st.1
    exact ⟨o, e⟩
  frame := fun i h h' st k => ⟨st.1.at fun o e => k it (by simp) o e, k d (by simp) _ st.2⟩
  item := fun i s Q E hi st hQ => keyNext st.1 st.2 hd rfl (Array.getElem?_eq_getElem hi) fun h' it' sb => hQ _ h' s.toks ⟨_, Array.getElem?_eq_getElem hi, rfl⟩ ⟨it', (sb.2 d ne).trans st.2⟩ sb
  done := fun s Q E st hE => keyEnd hh st.1 st.2 hd rfl (Nat.le_refl _) hE
/-- the keys of the locked dict d, each in a new pair -/
def ItD (d : Addr) (o : Obj) (kvs : List (Key × V)) : L2.It :=
  ⟨fun i H => H d = some (.frz o (.dK kvs)) ∧ i < kvs.length, fun i H v H' => ∃ T k x, kvs[i]? = some (k, x) ∧ v = .ref T ∧ H T = none ∧ H' = upd H T (.tup [.int (i : Nat), kV k]), fun i H => H d = some (.frz o (.dK kvs)) ∧ kvs.length = i⟩
theorem walk_enumD {d : Addr} {o : Obj} {kvs : List (Key × V)} : Walk (ItD d o kvs) kvs.length (fun H => H d = some (.frz o (.dK kvs))) (YPair (fun i => some (.int (i : Nat))) (fun i => kvs[i]?.map fun kv => kV kv.1)) where
  goes := fun i H hi h => ⟨h, hi⟩
  stops := fun H h => ⟨h, rfl⟩
  yields := fun i H v H' _ h ⟨T, k, x, e, e1, e2, e3⟩ => ⟨T, _, kV k, e1, e2, e3, rfl, by show (kvs[i]?.map fun kv => kV kv.1) = _; rw [e]; rfl⟩
def EnSD (d e it : Addr) (n ep : Nat) (i : Nat) (h : Heap) : Prop := (∃ old, IsEnum h e it ((i : Nat) : Int) old) ∧ h.IsKeyIter it d i n ep ∧ e ≠ it ∧ d ≠ it ∧ e ≠ d
theorem turn_enumD {P : Program} {w : World} {K : PySem.W.Frag} {elts : List Expr} {kk : Nat} {tpos : Pos} {kvs : List (Key × V)} {o : Obj} {es : Array DictEntry} {ep : Nat} (d e it : Addr) (hod : o.data = .dict es ep) : Turn P w K (.Tuple elts kk tpos) (ItD d o kvs) [e, it] e (EnSD d e it kvs.length ep) where
  mem := List.mem_cons_self
  obj := fun i h ⟨⟨old, he⟩, ⟨ob, ho, _, hd⟩, _⟩ b hb => by
    rcases List.mem_cons.mp hb with z | z
    · subst z
      exact ⟨_, he, fun v q => nomatch q⟩
    · rw [List.mem_singleton.mp z]
      exact ⟨ob, ho, fun v q => by rw [hd] at q; cases q⟩
  keep := fun i h h' ⟨⟨old, he⟩, hi, hne⟩ k => ⟨⟨old, k e List.mem_cons_self _ he⟩, hi.at fun ob q => k it (by simp) ob q, hne⟩
  item := by
    intro X hP hw hK hc i pins s σ H E I hf st ⟨hdF, hi⟩
    subst hP hw hK
    obtain ⟨⟨old, he⟩, hit, ne, na, nea⟩ := st
    obtain ⟨hs, hgd, hx, es', ep', vs, hdt, hsz, kv, hm⟩ := I.frzK hdF
    obtain ⟨rfl, rfl⟩ := dict_ep hod hdt
    obtain ⟨⟨k, v⟩, hkv⟩ : ∃ p, kvs[i]? = some p := ⟨kvs[i], List.getElem?_eq_getElem hi⟩
    obtain ⟨u, hu, ru⟩ := kv_get kv hkv
    rw [← hsz] at hit
    have lte : e < s.heap.objs.size := Heap.lt_size he
    have lti : it < s.heap.objs.size := by
      obtain ⟨_, q, _⟩ := hit
      exact Heap.lt_size q
    refine wpAny_pyNext_enum_itemC (draws_keys (show X.A.in1.handled = none from I.ok.hd hc) it d na hod) he ⟨hit, hgd⟩ (by rw [hsz]; exact hi) ne (by simp [ne, nea]) fun y h1 tk py out st1 new sz keep => ?_
    obtain ⟨en, hen, ey⟩ := py
    have rk : RelV (kV k) y := by
      obtain ⟨es2, hr2, hs2, he2⟩ := hm.raw
      obtain ⟨o2, q1, _, q2⟩ := hr2
      rw [hgd] at q1
      cases q1
      obtain ⟨rfl, _⟩ := dict_ep hod q2
      obtain ⟨lt, e2⟩ := Array.getElem?_eq_some_iff.mp hen
      have z := (he2 i lt k u hu).1
      rw [ey, ← e2]
      exact relV_key (show keyIs k _ = true from z)
    refine ⟨_, rfl, wpAny_letOwnedTupleGo_enum (s := { s with heap := h1, toks := tk + 1 }) out fun h2 he2 sb => ?_⟩
    have new2 : h2.get? s.heap.objs.size = some { cls := .type "tuple", data := .seq #[.int i tk, y] } := (sb.2 _ (Nat.ne_of_gt lte)).trans new
    have ok : ObjOk X.prog X.w (upd H s.heap.objs.size (.tup [.int (i : Nat), kV k])) h2 s.heap.objs.size (.tup [.int (i : Nat), kV k]) := ⟨by show 2 ≤ sizeLine; decide, [.int i tk, y], .cons ⟨_, rfl⟩ (.cons rk .nil), _, new2, rfl, _, rfl⟩
    have J : Inv X pins σ (upd H s.heap.objs.size (.tup [.int (i : Nat), kV k])) { s with heap := h2, toks := tk + 1 } :=
      I.turnedNew (ch := [e, it]) (fun b ob hb q => (sb.2 b fun z => hb (by simp [z])).trans (keep b ob (fun z => hb (by simp [z])) (fun z => hb (by simp [z])) q)) hf (Nat.le_refl _) ok
    refine ⟨.ref s.heap.objs.size, _, J, rfl, ⟨_, k, v, hkv, rfl, I.hok.fresh (Nat.le_refl _), rfl⟩, ⟨⟨y, ?_⟩, ?_, ne, na, nea⟩, fun b hb => ?_⟩
    · rw [show ((i + 1 : Nat) : Int) = (i : Int) + 1 by omega]
      exact he2
    · rw [← hsz]
      exact st1.1.at fun ob q => (sb.2 it (Ne.symm ne)).trans q
    · have lb : b < s.heap.objs.size := by
        rcases List.mem_cons.mp hb with z | z
        · rw [z]; exact lte
        · rw [List.mem_singleton.mp z]; exact lti
      exact (upd_ne (Nat.ne_of_lt lb)).trans (hf b hb).1
  done := by
    intro X hP hw hK hc i pins s σ H E I hf st ⟨hdF, le⟩
    subst hP hw hK
    obtain ⟨⟨old, he⟩, hit, ne, na, nea⟩ := st
    obtain ⟨hs, hgd, hx, es', ep', vs, hdt, hsz, kv, hm⟩ := I.frzK hdF
    obtain ⟨rfl, rfl⟩ := dict_ep hod hdt
    subst le
    rw [← hsz] at hit
    obtain ⟨f0, f1, _, f3, f4, f5⟩ := hf it (by simp)
    exact wpAny_pyNext_enum_endD (draws_keys (show X.A.in1.handled = none from I.ok.hd hc) it d na hod) he ⟨hit, hgd⟩ fun h1 eb => ⟨rfl, I.turned (t' := s.toks) (fun b o nb q => eb b o nb q) f0 f1 f3 f4 f5⟩
  self := fun A i s Q E ⟨⟨_, he⟩, _⟩ h => wpAny_pyIter_enum he h
def iEnumD (ta : TA) : TI := fun σ H R => ta σ H fun vs H1 => ∃ (d : Addr) (o : Obj) (kvs : List (Key × V)), vs = [.ref d] ∧ H1 d = some (.frz o (.dK kvs)) ∧ R (ItD d o kvs) H1
/-- enumerate of a locked dict -/
theorem pi_enumD {X : Cx} {e : Expr} {ta : TA} {p pos tpos : Pos} {elts : List Expr} {kk : Nat} (hg : Gl X "enumerate") (hm : X.mg "enumerate" = none) (ha : PA X [e] ta) (stars : starEach [e] X.env = [(false, eval e X.env)] := by rfl) :
    PI X (.Tuple elts kk tpos) (.Call (.Name "enumerate" p) [e] [] pos) (iEnumD ta) := ⟨fun pins s σ H R I h => Call_ (ld_blt I hg hm boot_enumerate (PyProof.Rows.callWith_type1 (thn (ha.run pos pins s σ H _ I h) fun us s1 ⟨vs, H1, J, rel, d, o, kvs, ev, hdF, q⟩ => by
  subst ev
  cases rel with
  | cons r rr =>
    cases rr
    cases r
    have far : ∀ b, b ∈ [s1.heap.objs.size + 1, s1.heap.objs.size] → s1.heap.objs.size ≤ b := fun b m => by
      rcases List.mem_cons.mp m with z | z
      · rw [z]; exact Nat.le_succ _
      · rw [List.mem_singleton.mp z]; exact Nat.le_refl _
    have apart : ∀ b, b ∈ [s1.heap.objs.size + 1, s1.heap.objs.size] → FpOk X pins H1 b := fun b m => J.fpOk (far b m) (J.hok.fresh (far b m))
    obtain ⟨hs, hgd, hx, es, ep, vs, hdt, hsz, kv, hmm⟩ := J.frzK hdF
    have ld : d < s1.heap.objs.size := Heap.lt_size hgd
    have tI : (s1.heap.push (keyO d es.size ep)).objs.size = s1.heap.objs.size + 1 := Heap.size_push ..
    have en : IsEnum ((s1.heap.push (keyO d es.size ep)).push (enO s1.heap.objs.size)) (s1.heap.objs.size + 1) s1.heap.objs.size 0 .none := by
      have z := Heap.get?_push_size (s1.heap.push (keyO d es.size ep)) (o := enO s1.heap.objs.size) rfl
      rw [tI] at z
      exact z
    refine enum_call (begins_keys hs hx hdt) hgd (wpAny_pyIter_enum en ⟨s1.heap.objs.size + 1, _, _, _, H1, rfl, J.kept (t' := s1.toks) fun b o z => Heap.get?_push_of_some _ (Heap.get?_push_of_some _ z), turn_enumD d (s1.heap.objs.size + 1) s1.heap.objs.size hdt, ⟨⟨.none, en⟩, ⟨_, Heap.get?_push_of_some _ (Heap.get?_push_size _ rfl), rfl, by rw [← hsz]; rfl⟩, Nat.succ_ne_self _, Nat.ne_of_lt ld, Nat.ne_of_gt (Nat.lt_succ_of_lt ld)⟩, apart, q⟩)) stars rfl))⟩
end TH

/-! C3: rows of callers, plainly; served -/
namespace TH
open PySem PySem.Spec PyProof.Rows L2 LamV LamX XK0
open C8 (pss_cut tCut)
abbrev Rws := List (List Nat)
def nV (r : List Nat) : List V := r.map fun (c : Nat) => V.int c
def tot (rows : Rws) : Nat := (rows.map List.length).sum
def able1 (l : Ld) (w : Str) (r : List Nat) : Option Str := if r = [] then none else lookL l w
def firstAble : Lds → Rws → Str → Nat → Option (Nat × Str)
  | e :: es, r :: rs, w, i => match able1 e.2 w r with
    | some g => some (i, g)
    | none => firstAble es rs w (i + 1)
  | _, _, _, _ => none
/-- who is served, one after another -/
def serve (es : Lds) : Nat → Str → Rws → List Nat → (Str × Rws) × List Nat
  | 0, w, rows, gn => ((w, rows), gn)
  | n + 1, w, rows, gn => match firstAble es rows w 0 with
    | none => ((w, rows), gn)
    | some (i, g) => match rows[i]? with
      | some (c :: r) => serve es n g (rows.set i r) (gn ++ [c])
      | _ => ((w, rows), gn)
theorem firstAble_at : ∀ {es : Lds} {rows : Rws} {w : Str} {j i : Nat} {g : Str}, firstAble es rows w j = some (i, g) → j ≤ i ∧ ∃ c r, rows[i - j]? = some (c :: r)
  | e :: es, r :: rs, w, j, i, g, h => by
    unfold firstAble at h
    cases q : able1 e.2 w r with
    | some g' =>
      rw [q] at h
      cases h
      refine ⟨Nat.le_refl _, ?_⟩
      rw [Nat.sub_self]
      cases r with
      | nil => unfold able1 at q; rw [if_pos rfl] at q; cases q
      | cons c r => exact ⟨c, r, rfl⟩
    | none =>
      rw [q] at h
      obtain ⟨h1, c, r', h2⟩ := firstAble_at h
      refine ⟨by omega, c, r', ?_⟩
      rw [show i - j = (i - (j + 1)) + 1 by omega]
      exact h2
  | [], _, _, _, _, _, h => by unfold firstAble at h; cases h
  | _ :: _, [], _, _, _, _, h => by unfold firstAble at h; cases h
theorem tot_set {rows : Rws} {i c : Nat} {r : List Nat} (h : rows[i]? = some (c :: r)) : tot (rows.set i r) + 1 = tot rows := by
  unfold tot
  induction rows generalizing i with
  | nil => simp at h
  | cons x xs ih =>
    cases i with
    | zero =>
      simp at h
      subst h
      simp
      omega
    | succ i =>
      have := ih (i := i) (by simpa using h)
      simp only [List.set_cons_succ, List.map_cons, List.sum_cons] at this ⊢
      omega
theorem serve_none {es : Lds} {n : Nat} {w : Str} {rows : Rws} {gn : List Nat} (h : firstAble es rows w 0 = none) : serve es n w rows gn = ((w, rows), gn) := by
  cases n with
  | zero => rfl
  | succ n =>
    unfold serve
    rw [h]
theorem serve_step {es : Lds} {n : Nat} {w g : Str} {rows : Rws} {gn : List Nat} {i c : Nat} {r : List Nat} (h : firstAble es rows w 0 = some (i, g)) (hr : rows[i]? = some (c :: r)) : serve es (n + 1) w rows gn = serve es n g (rows.set i r) (gn ++ [c]) := by
  show (match firstAble es rows w 0 with
    | none => ((w, rows), gn)
    | some (i, g) => match rows[i]? with
      | some (c :: r) => serve es n g (rows.set i r) (gn ++ [c])
      | _ => ((w, rows), gn)) = _
  rw [h]
  dsimp only
  rw [hr]
theorem firstAble_drop {es : Lds} {rows : Rws} {w : Str} {j : Nat} {e : Str × Ld} {r : List Nat} (he : es[j]? = some e) (hr : rows[j]? = some r) : firstAble (es.drop j) (rows.drop j) w j = match able1 e.2 w r with
    | some g => some (j, g)
    | none => firstAble (es.drop (j + 1)) (rows.drop (j + 1)) w (j + 1) := by
  obtain ⟨l1, e1⟩ := List.getElem?_eq_some_iff.mp he
  obtain ⟨l2, e2⟩ := List.getElem?_eq_some_iff.mp hr
  rw [List.drop_eq_getElem_cons l1, List.drop_eq_getElem_cons l2, e1, e2]
  rfl
/-! ### in memory -/
/-- rows as a list of tuples -/
def TRl (K : PySem.W.Frag) (H : Hp) (wl : Addr) (rows : Rws) : Prop := ∃ rs : List Addr, H wl = some (.lst (rs.map V.ref)) ∧ Paired (fun a r => SqT K H a (nV r)) rs rows
/-- a state: the value, the rows as a tuple of tuples -/
def PSt (K : PySem.W.Frag) (H : Hp) (sa : Addr) (w : Str) (rows : Rws) : Prop := ∃ (tr : Addr) (rs : List Addr), H sa = some (.tup [.str w, .ref tr]) ∧ SqT K H tr (rs.map V.ref) ∧ Paired (fun a r => SqT K H a (nV r)) rs rows
theorem TRl.exL {K : PySem.W.Frag} {H H' : Hp} {wl : Addr} {rows : Rws} (x : ExL H H') (h : ∀ xs, H wl = some (.lst xs) → H' wl = some (.lst xs)) (t : TRl K H wl rows) : TRl K H' wl rows := by
  obtain ⟨rs, e, p⟩ := t
  exact ⟨rs, h _ e, Paired.mapP p fun _ _ z => x.sqT z⟩
theorem PSt.exL {K : PySem.W.Frag} {H H' : Hp} {sa : Addr} {w : Str} {rows : Rws} (x : ExL H H') (h : PSt K H sa w rows) : PSt K H' sa w rows := by
  obtain ⟨tr, rs, e, s, p⟩ := h
  exact ⟨tr, rs, x _ _ e (fun _ z => nomatch z), x.sqT s, Paired.mapP p fun _ _ z => x.sqT z⟩
theorem PSt.ex {K : PySem.W.Frag} {H H' : Hp} {sa : Addr} {w : Str} {rows : Rws} (x : Ex H H') (h : PSt K H sa w rows) : PSt K H' sa w rows := h.exL x.exL
theorem look_in : ∀ {ls : Lds} {q : Str × Ld}, (ls.map (·.1)).Nodup → q ∈ ls → look ls q.1 = some q.2
  | e :: es, q, nd, h => by
    have nd' := List.nodup_cons.mp nd
    unfold look
    rw [List.find?_cons]
    by_cases k : e.1 = q.1
    · have e1 : decide (e.1 = q.1) = true := decide_eq_true k
      rw [e1]
      rcases List.mem_cons.mp h with z | z
      · rw [z]; rfl
      · exact absurd (List.mem_map_of_mem (f := (·.1)) z) (k ▸ nd'.1)
    · have e1 : decide (e.1 = q.1) = false := decide_eq_false k
      rw [e1]
      rcases List.mem_cons.mp h with z | z
      · exact absurd (by rw [z]) k
      · exact look_in nd'.2 z
theorem ixN_nat {n j : Nat} (hj : j < n) : ixN n (j : Int) = some j := by
  unfold ixN
  rw [if_pos (by omega), if_pos (by omega)]
  simp
theorem atI_nat {α : Type} {xs : List α} {j : Nat} {x : α} (h : xs[j]? = some x) : atI xs (j : Int) = some x := by
  unfold atI
  rw [ixN_nat (List.getElem?_eq_some_iff.mp h).1]
  exact h
theorem cut_one (x : V) (xs : List V) : cutV (x :: xs) (some 1) none = xs := by
  unfold cutV HT.sIx
  simp
theorem cut_oneN (x : V) (xs : List V) : ¬ (HT.sIx (x :: xs).length 0 (some 1) = 0 ∧ HT.sIx (x :: xs).length (x :: xs).length none = (x :: xs).length) := by
  unfold HT.sIx
  simp
theorem ints_map (r : List Nat) : nV r = (r.map fun (c : Nat) => (c : Int)).map V.int := by
  unfold nV
  rw [List.map_map]
  rfl
theorem shaped_tints (r : List Nat) : SeqAt.shaped (.tuple ((r.map fun (c : Nat) => (c : Int)).map PyData.int)) = true := by
  obtain ⟨a, b⟩ := lay_ints (r.map fun (c : Nat) => (c : Int))
  have e1 : PyData.canLay0 (.tuple ((r.map fun (c : Nat) => (c : Int)).map PyData.int)) = PyData.canLayAll0 ((r.map fun (c : Nat) => (c : Int)).map PyData.int) := by unfold PyData.canLay0; rfl
  have e2 : PyData.depth (.tuple ((r.map fun (c : Nat) => (c : Int)).map PyData.int)) = PyData.depthAll ((r.map fun (c : Nat) => (c : Int)).map PyData.int) + 1 := by unfold PyData.depth; rfl
  unfold SeqAt.shaped
  rw [e1, a, e2, b]
  decide
theorem eqv_tnil (r : List Nat) : PyData.eqv (.tuple ((r.map fun (c : Nat) => (c : Int)).map PyData.int)) (.tuple []) = decide (r = []) := by
  cases r with
  | nil => rfl
  | cons w r => rfl
/-- row i is another one -/
theorem TRl.set {K : PySem.W.Frag} {H : Hp} {wl : Addr} {rs : List Addr} {rows : Rws} {i : Nat} {a : Addr} {r : List Nat} (p : Paired (fun a r => SqT K H a (nV r)) rs rows) (ha : SqT K H a (nV r)) : Paired (fun a r => SqT K H a (nV r)) (rs.set i a) (rows.set i r) := by
  induction p generalizing i with
  | nil => exact .nil
  | cons x q ih =>
    cases i with
    | zero => exact .cons ha q
    | succ i => exact .cons x (ih (i := i))
theorem sqT_unl {K : PySem.W.Frag} {H : Hp} {p a : Addr} {od : Obj} {es : List (Key × V)} {o : HO} {xs : List V} (hp : H p = some (.frz od (.dK es))) (h : SqT K H a xs) : SqT K (upd H p o) a xs := by
  rcases h with (h | ⟨ob, h⟩) | h
  · exact .inl (.inl ((upd_ne fun z => by rw [z, hp] at h; cases h).trans h))
  · exact .inl (.inr ⟨ob, (upd_ne fun z => by rw [z, hp] at h; cases h).trans h⟩)
  · exact .inr h
abbrev sServed : Stmt := top 33
def spServed (K : PySem.W.Frag) (C : Addr) : Sp := fun vs H Q _ => ∃ (t sa : Addr) (d : ThD) (w : Str) (rows : Rws), vs = [.ref t, .ref sa] ∧ IsTh H C t d ∧ PSt K H sa w rows ∧ rows.length = d.ents.length ∧ d.ents.length ≤ 60 ∧ (d.ents.map (·.1)).Nodup ∧ tot rows ≤ 100 ∧
  ∀ (p sa' gl : Addr) (H' : Hp) (w' : Str) (rows' : Rws) (gn : List Nat), Ex H H' → H' p = some (.tup [.ref sa', .ref gl]) → PSt K H' sa' w' rows' → H' gl = some (.lst (nV gn)) → serve d.ents (tot rows) w rows [] = ((w', rows'), gn) → Q (.ref p) H'
/-- at each turn of the while -/
structure SInv (K : PySem.W.Frag) (H : Hp) (d : ThD) (t sa : Addr) (w0 : Str) (rows0 : Rws) (wl gl : Addr) (w : Str) (rows : Rws) (gn : List Nat) (H2 : Hp) : Prop where
  tr : TRl K H2 wl rows
  gone : H2 gl = some (.lst (nV gn))
  fresh : H wl = none ∧ H gl = none ∧ wl ≠ gl
  len : rows.length = d.ents.length
  small : tot rows + gn.length = tot rows0
  serve : serve d.ents (tot rows0) w0 rows0 [] = serve d.ents (tot rows) w rows gn
def SW (K : PySem.W.Frag) (H : Hp) (d : ThD) (t sa : Addr) (w0 : Str) (rows0 : Rws) (wl gl : Addr) (m : Nat) (σ : L2.St) (H2 : Hp) : Prop := ∃ (w : Str) (rows : Rws) (gn : List Nat) (ag : Bool) (o6 o7 : Option V), σ = [some (.ref t), some (.ref sa), some (.str w), some (.ref wl), some (.ref gl), some (.bl ag), o6, o7] ∧ Ex H H2 ∧ SInv K H d t sa w0 rows0 wl gl w rows gn H2 ∧
  (ag = false → firstAble d.ents rows w 0 = none) ∧ m = 2 * tot rows + (if ag = true then 1 else 0)
section
variable {P : Program} {w : World} {K : PySem.W.Frag} {mg : Str → Option Value} {base : Heap} {f C CN CB : Addr} {fd : FuncData}
theorem scServed : FnScope ["thing", "state", "worth", "waiting", "gone", "again", "number", "entry"] ["thing", "state"] (defScope sServed) := ⟨rfl, rfl, rfl, by decide +kernel, rfl, by decide +kernel, by decide +kernel⟩
theorem ok_served (F : FnP K "served" sServed f fd) (TC : ThC K C) (gL : mg "list" = none) (ge : mg "enumerate" = none) (gt : mg "tuple" = none) : FnOk P w K mg base CX0 1 f fd ["thing", "state"] (spServed K C) := by
  refine F.ok scServed (fun vs H Q E h => ?_) (fun cdv A outer s H vs Q E hr h => ?_)
  · obtain ⟨t, sa, d, w, rows, rfl, _⟩ := h
    rfl
  · have hu := hu_of hr
    refine ⟨_, PSs.nox (pss_cons (ps_par (i := 2) (j := 3) rfl scServed.nd rfl rfl (by decide) rfl rfl (pa_cons (pe_ix ix_tup (pv 1) pe_int (fun _ _ => rfl)) (pa_cons (pe_callTy call_list_of rfl gL boot_list (pa_cons (pe_ix ix_tup (pv 1) pe_int (fun _ _ => rfl)) pa_nil)) pa_nil)) rfl)
      (pss_cons (ps_par (i := 4) (j := 5) rfl scServed.nd rfl rfl (by decide) rfl rfl (pa_cons (pe_lst pa_nil) (pa_cons pe_bl pa_nil)) rfl)
      (pss_cons (ps_while PassesOwn.never (pt_val (pv 5))
        (pss_cons (ps_set (i := 5) scServed.nd rfl (.inl rfl) pe_bl)
        (pss_one (ps_lock (ps_for PassesOwn.never rfl (pi_enumD rfl ge (pa_cons (pe_fld (pv 0) rfl) pa_nil)) (pg_tup rfl (pgs_cons (pg_name (i := 6) scServed.nd rfl (.inl rfl)) (pgs_cons (pg_name (i := 7) scServed.nd rfl (.inl rfl)) pgs_nil)))
          (pss_one (ps_if (PW.pt (pw_and (pt_not (pt_val (pv 5))) (pw_and (pt_cmp (pc_din hu (pv 2) (pe_dget hu (pe_fld (pv 0) rfl) (pv 7) (fun _ _ => rfl)))) (pw_and1 (pt_cmpR (op_neD hr.units) (pe_ix ix_list (pv 3) (pv 6) (fun _ _ => rfl)) (pe_tup pa_nil) (nomark _))))))
            (pss_cons (ps_expr (pe_bm PySem.F.plainAttrs_list PySem.F.slot_list_append PySem.F.type_list_append mt_append (pv 4) (pa_cons (pe_ix ix_tup (pe_ix ix_list (pv 3) (pv 6) (fun _ _ => rfl)) pe_int (fun _ _ => rfl)) pa_nil)))
            (pss_cons (ps_asg (pe_slice sl_tup (pe_ix ix_list (pv 3) (pv 6) (fun _ _ => rfl)) (po_some pe_int) po_none) (pg_sub (pv 3) (pv 6) set_list))
            (pss_one (ps_par (i := 2) (j := 5) rfl scServed.nd rfl rfl (by decide) rfl rfl (pa_cons (pe_dget hu (pe_dget hu (pe_fld (pv 0) rfl) (pv 7) (fun _ _ => rfl)) (pv 2) (fun _ _ => rfl)) (pa_cons pe_bl pa_nil)) rfl)))) pss_nil)))))))
      (pss_one (ps_ret (pe_tup (pa_cons (pe_tup (pa_cons (pv 2) (pa_cons (pe_callTy call_tuple_of rfl gt boot_tuple (pa_cons (pv 3) pa_nil)) pa_nil))) (pa_cons (pv 4) pa_nil)))))))), ?_⟩
    obtain ⟨t, sa, d, w0, rows0, rfl, th, ps, len, elen, end_, small, hQ⟩ := h
    obtain ⟨tr, rs, e1, e2, e3⟩ := ps
    refine ⟨.ref sa, rfl, sa, _, 0, .str w0, rfl, rfl, .inl (.inl e1), rfl, .ref sa, rfl, sa, _, 1, .ref tr, rfl, rfl, .inl (.inl e1), rfl, tr, _, rfl, .inr e2, fun wl nwl => ⟨_, _, rfl, ?_⟩⟩
    have x1 : Ex H (upd H wl (.lst (rs.map V.ref))) := Ex.new nwl
    refine ⟨Nat.zero_le _, fun gl ngl => ⟨_, _, rfl, ?_⟩⟩
    have x2 : Ex H (upd (upd H wl (.lst (rs.map V.ref))) gl (.lst [])) := x1.trans (Ex.new ngl)
    have hwl : upd (upd H wl (.lst (rs.map V.ref))) gl (.lst []) wl = some (.lst (rs.map V.ref)) := (Ex.new ngl) _ _ upd_same
    have wg : wl ≠ gl := fun z => by rw [← z, upd_same] at ngl; cases ngl
    have tr0 : TRl K (upd (upd H wl (.lst (rs.map V.ref))) gl (.lst [])) wl rows0 := ⟨rs, hwl, Paired.mapP e3 fun _ _ z => x2.sqT z⟩
    have hgl : upd (upd H wl (.lst (rs.map V.ref))) gl (.lst []) gl = some (.lst (nV [])) := upd_same
    have nglH : H gl = none := x1.none ngl
    generalize upd (upd H wl (.lst (rs.map V.ref))) gl (.lst []) = H1 at x2 tr0 hgl ⊢
    refine ⟨SW K H d t sa w0 rows0 wl gl, ⟨_, w0, rows0, [], true, none, none, rfl, x2, ⟨tr0, hgl, ⟨nwl, nglH, wg⟩, len, by simp, rfl⟩, (fun z => nomatch z), rfl⟩, fun m σ H2 h => ?_⟩
    clear tr0 hgl x2 hwl x1 ngl
    obtain ⟨w, rows, gn, ag, o6, o7, rfl, x2, S, fa, em⟩ := h
    refine ⟨.bl ag, rfl, ag, rfl, ?_⟩
    cases ag with
    | false =>
      obtain ⟨rs2, h1, h2⟩ := S.tr
      refine ⟨.str w, rfl, .ref wl, rfl, wl, _, rfl, .inl ⟨.inl (.inl h1), fun tq ntq => ⟨by show 2 ≤ sizeLine; decide, fun sq nsq => ⟨.ref gl, rfl, by show 2 ≤ sizeLine; decide, fun p np => ?_⟩⟩⟩⟩
      have xa := ((Ex.new (o := .tup (rs2.map V.ref)) ntq).trans (Ex.new (o := .tup [.str w, .ref tq]) nsq)).trans (Ex.new (o := .tup [.ref sq, .ref gl]) np)
      refine hQ p sq gl _ w rows gn (x2.trans xa) upd_same ⟨tq, rs2, (Ex.new np) _ _ upd_same, .inl (.inl ((Ex.new np) _ _ ((Ex.new nsq) _ _ upd_same))), Paired.mapP h2 fun _ _ z => xa.sqT z⟩ (xa _ _ S.gone) ?_
      rw [S.serve]
      exact serve_none (fa rfl)
    | true =>
      refine ⟨fun σ' H' => ∃ m', m' < m ∧ SW K H d t sa w0 rows0 wl gl m' σ' H', fun σ' H' h => h, ?_⟩
      obtain ⟨dx, vt, dd, de, f1, f2, f3, ⟨es, m1, mp⟩⟩ := th
      have m12 := x2 _ _ m1
      refine ⟨de, _, m12, trivial, fun od => ?_⟩
      have up : ∀ {H7 : Hp} {b : Addr} {o : HO}, (∀ b o, b ≠ de → H b = some o → H7 b = some o) → H b = some o → o ≠ .dK es → H7 b = some o := fun xx e n => xx _ _ (fun z => n (by rw [z, m1] at e; exact (Option.some.inj e).symm)) e
      have x0 : ∀ b o, b ≠ de → H b = some o → upd H2 de (.frz od (.dK es)) b = some o := fun b o n e => (upd_ne n).trans (x2 _ _ e)
      have keep0 : ExL H2 (upd H2 de (.frz od (.dK es))) → True := fun _ => trivial
      have wde : wl ≠ de := fun z => by
        obtain ⟨_, q, _⟩ := S.tr
        rw [z, m12] at q; cases q
      have gde : gl ≠ de := fun z => by have q := S.gone; rw [z, m12] at q; cases q
      have trL : TRl K (upd H2 de (.frz od (.dK es))) wl rows := by
        obtain ⟨rs2, h1, h2⟩ := S.tr
        exact ⟨rs2, (upd_ne wde).trans h1, Paired.mapP h2 fun _ _ z => sqT_put m12 (fun _ z => nomatch z) (fun _ _ z => nomatch z) z⟩
      refine ⟨.ref t, rfl, t, C, dx, _, .ref de, rfl, up x0 f1 (fun z => nomatch z), TC.cls, TC.ents, rfl, de, od, es, rfl, upd_same, for_it walk_enumD (fun j σ H7 => ∃ (w7 : Str) (rows7 : Rws) (gn7 : List Nat) (ag : Bool) (o6 o7 : Option V), σ = [some (.ref t), some (.ref sa), some (.str w7), some (.ref wl), some (.ref gl), some (.bl ag), o6, o7] ∧
        (∀ b o, b ≠ de → H b = some o → H7 b = some o) ∧ H7 de = some (.frz od (.dK es)) ∧ SInv K H d t sa w0 rows0 wl gl w7 rows7 gn7 H7 ∧ (ag = false → rows7 = rows ∧ firstAble d.ents rows7 w7 0 = firstAble (d.ents.drop j) (rows7.drop j) w7 j) ∧ (ag = true → tot rows7 + 1 = tot rows))
        ⟨w, rows, gn, false, o6, o7, rfl, x0, upd_same, ⟨trL, (upd_ne gde).trans S.gone, S.fresh, S.len, S.small, S.serve⟩, fun _ => ⟨rfl, rfl⟩, fun z => nomatch z⟩ (fun j σ H7 _ ⟨_, _, _, _, _, _, _, _, z, _⟩ => z) (fun j v σ H7 H8 hj h y => ?_) fun σ H7 h => ?_⟩
      · obtain ⟨w7, rows7, gn7, ag, p6, p7, rfl, x7, z7, T, c1, c2⟩ := h
        obtain ⟨tt, u, k, rfl, nt, rfl, eu, ek⟩ := y
        cases eu
        have ek : (es[j]?.map fun kv => kV kv.1) = some k := ek
        obtain ⟨kv, ekv, rfl⟩ := Option.map_eq_some_iff.mp ek
        obtain ⟨l, el, r1, b, r2, r3⟩ := paired_get mp ekv
        have r1 : kv.1 = Sum.inr l.1 := r1
        rw [r1]
        have xt : Ex H7 (upd H7 tt (.tup [.int (j : Nat), kV (Sum.inr l.1)])) := Ex.new nt
        have htt : upd H7 tt (.tup [.int (j : Nat), kV (Sum.inr l.1)]) tt = some (.tup [.int (j : Nat), .str l.1]) := upd_same
        have x8 : ∀ b o, b ≠ de → H b = some o → upd H7 tt (.tup [.int (j : Nat), kV (Sum.inr l.1)]) b = some o := fun b o n e => xt _ _ (x7 b o n e)
        have z8 := xt _ _ z7
        have T8 : SInv K H d t sa w0 rows0 wl gl w7 rows7 gn7 (upd H7 tt (.tup [.int (j : Nat), kV (Sum.inr l.1)])) := ⟨T.tr.exL xt.exL fun _ e => xt _ _ e, xt _ _ T.gone, T.fresh, T.len, T.small, T.serve⟩
        generalize upd H7 tt (.tup [.int (j : Nat), kV (Sum.inr l.1)]) = H8 at x8 z8 T8 htt ⊢
        clear xt nt T x7 z7
        refine ⟨tt, _, rfl, .inl (.inl htt), rfl, .int j, [.str l.1], rfl, .str l.1, [], rfl, rfl, ?_⟩
        refine ⟨.bl ag, rfl, ag, rfl, ?_⟩
        cases ag with
        | true => exact ⟨w7, rows7, gn7, true, _, _, rfl, x8, z8, T8, (fun z => nomatch z), c2⟩
        | false =>
          obtain ⟨er, fd7⟩ := c1 rfl
          have jl : j < d.ents.length := (List.getElem?_eq_some_iff.mp el).1
          obtain ⟨r, hr7⟩ : ∃ r, rows7[j]? = some r := ⟨_, List.getElem?_eq_getElem (by rw [T8.len]; exact jl)⟩
          rw [firstAble_drop el hr7] at fd7
          have lk : look d.ents l.1 = some l.2 := look_in end_ (List.mem_of_getElem? el)
          obtain ⟨b2, vb, hb⟩ : ∃ b2, valV es (Sum.inr l.1) = some (.ref b2) ∧ H b2 = some (.dK (ldV l.2)) := by
            rcases look_val mp l.1 with ⟨q, _⟩ | ⟨l', b', q1, q2, q3⟩
            · rw [lk] at q; cases q
            · rw [lk] at q1
              cases q1
              exact ⟨b', q2, q3⟩
          have nb2 : HO.dK (ldV l.2) ≠ HO.dK es := fun q => by
            injection q with q
            have mm : (kv.1, kv.2) ∈ ldV l.2 := q ▸ List.mem_of_getElem? ekv
            unfold ldV at mm
            obtain ⟨qq, _, eq⟩ := List.mem_map.mp mm
            have e2 : V.str qq.2 = kv.2 := congrArg Prod.snd eq
            rw [r2] at e2
            cases e2
          have dg : ∀ {H9 : Hp}, H9 de = some (.frz od (.dK es)) → DGet H9 de (.str l.1) (some (.ref b2)) := fun z => vb ▸ .inl ⟨es, Sum.inr l.1, .inr ⟨od, z⟩, rfl, rfl⟩
          have skip : ∀ H9 : Hp, (∀ b o, b ≠ de → H b = some o → H9 b = some o) → H9 de = some (.frz od (.dK es)) → SInv K H d t sa w0 rows0 wl gl w7 rows7 gn7 H9 → able1 l.2 w7 r = none → ∃ (w8 : Str) (rows8 : Rws) (gn8 : List Nat) (ag : Bool) (o6 o7 : Option V), [some (V.ref t), some (.ref sa), some (.str w7), some (.ref wl), some (.ref gl), some (.bl false), some (.int (j : Nat)), some (.str l.1)] = [some (.ref t), some (.ref sa), some (.str w8), some (.ref wl), some (.ref gl), some (.bl ag), o6, o7] ∧
              (∀ b o, b ≠ de → H b = some o → H9 b = some o) ∧ H9 de = some (.frz od (.dK es)) ∧ SInv K H d t sa w0 rows0 wl gl w8 rows8 gn8 H9 ∧ (ag = false → rows8 = rows ∧ firstAble d.ents rows8 w8 0 = firstAble (d.ents.drop (j + 1)) (rows8.drop (j + 1)) w8 (j + 1)) ∧ (ag = true → tot rows8 + 1 = tot rows) := fun H9 a1 a2 a3 a4 => by
            rw [a4] at fd7
            exact ⟨w7, rows7, gn7, false, _, _, rfl, a1, a2, a3, fun _ => ⟨er, fd7⟩, fun z => nomatch z⟩
          refine ⟨.str w7, rfl, .ref t, rfl, t, C, dx, _, .ref de, rfl, up x8 f1 (fun z => nomatch z), TC.cls, TC.ents, rfl, .str l.1, rfl, de, .ref b2, rfl, dg z8, b2, _, rfl, DGet.k (k := Sum.inr w7) (up x8 hb nb2), _, rfl, ?_⟩
          rw [lookL_val]
          cases q : lookL l.2 w7 with
          | none =>
            rw [if_neg (by simp)]
            obtain ⟨a1, a2, a3, a4, a5, a6, a7, a8⟩ := skip H8 x8 z8 T8 (by unfold able1; split <;> first | rfl | exact q)
            refine ⟨a1, a2, a3, a4, a5, a6, a7, a8⟩
          | some g =>
            rw [if_pos (by rfl)]
            obtain ⟨rs2, h1, h2⟩ := T8.tr
            obtain ⟨ra, era, hra⟩ := paired_get h2 hr7
            have jl2 : j < rs2.length := (List.getElem?_eq_some_iff.mp era).1
            have at3 : atI (rs2.map V.ref) (j : Int) = some (.ref ra) := atI_nat (by rw [List.getElem?_map, era]; rfl)
            refine ⟨.ref wl, rfl, .int j, rfl, wl, _, j, _, rfl, rfl, .inl (.inl h1), at3, Nat.zero_le _, fun tq ntq => ?_⟩
            have xq : Ex H8 (upd H8 tq (.tup [])) := Ex.new ntq
            refine ⟨_, _, .tup (xq.sqT hra) (ints_map r ▸ dp_ints _), .tup (.inl (.inl upd_same)) .nil, shaped_tints r, shaped_tints [], _, rfl, ?_⟩
            rw [eqv_tnil]
            have x9 : ∀ b o, b ≠ de → H b = some o → upd H8 tq (.tup []) b = some o := fun b o n e => xq _ _ (x8 b o n e)
            have z9 := xq _ _ z8
            have T9 : SInv K H d t sa w0 rows0 wl gl w7 rows7 gn7 (upd H8 tq (.tup [])) := ⟨T8.tr.exL xq.exL fun _ e => xq _ _ e, xq _ _ T8.gone, T8.fresh, T8.len, T8.small, T8.serve⟩
            replace h1 := xq _ _ h1
            replace hra := xq.sqT hra
            replace h2 : Paired (fun a r => SqT K (upd H8 tq (.tup [])) a (nV r)) rs2 rows7 := Paired.mapP h2 fun _ _ z => xq.sqT z
            generalize upd H8 tq (.tup []) = H9 at x9 z9 T9 h1 hra h2 ⊢
            clear xq ntq x8 z8 T8 htt
            cases r with
            | nil =>
              rw [show (!decide (([] : List Nat) = [])) = false from rfl]
              obtain ⟨a1, a2, a3, a4, a5, a6, a7, a8⟩ := skip H9 x9 z9 T9 (if_pos rfl)
              exact ⟨a1, a2, a3, a4, a5, a6, a7, a8⟩
            | cons c r =>
              have len7 : tot rows7 = tot rows := by rw [er]
              have ts := tot_set hr7
              have sm := T9.small
              rw [show (!decide ((c :: r : List Nat) = [])) = true by simp]
              refine ⟨.ref gl, rfl, .inl ⟨rfl, _, .inl (.inl T9.gone)⟩, .ref wl, rfl, .int j, rfl, wl, _, j, _, rfl, rfl, .inl (.inl h1), at3, ra, _, 0, _, rfl, rfl, hra, atI_nat (j := 0) rfl, gl, _, _, rfl, rfl, T9.gone, Nat.lt_of_lt_of_le (m := 100000) (by unfold nV; rw [List.length_map]; omega) (by decide), ?_⟩
              have nde : ∀ {b : Addr}, H b = none → b ≠ de := fun e z => by rw [z, m1] at e; cases e
              obtain ⟨fw, fg, _⟩ := T9.fresh
              have x10 : ∀ b o, b ≠ de → H b = some o → upd H9 gl (.lst (nV gn7 ++ [V.int (c : Nat)])) b = some o := fun b o n e => (upd_ne fun z => by rw [z, fg] at e; cases e).trans (x9 b o n e)
              have z10 : upd H9 gl (.lst (nV gn7 ++ [V.int (c : Nat)])) de = some (.frz od (.dK es)) := (upd_ne (Ne.symm gde)).trans z9
              have h10 : upd H9 gl (.lst (nV gn7 ++ [V.int (c : Nat)])) wl = some (.lst (rs2.map V.ref)) := (upd_ne wg).trans h1
              have r10 : SqT K (upd H9 gl (.lst (nV gn7 ++ [V.int (c : Nat)]))) ra (nV (c :: r)) := sqT_put T9.gone (fun _ z => nomatch z) (fun _ _ z => nomatch z) hra
              have p10 : Paired (fun a r => SqT K (upd H9 gl (.lst (nV gn7 ++ [V.int (c : Nat)]))) a (nV r)) rs2 rows7 := Paired.mapP h2 fun _ _ z => sqT_put T9.gone (fun _ z => nomatch z) (fun _ _ z => nomatch z) z
              have g10 : upd H9 gl (.lst (nV gn7 ++ [V.int (c : Nat)])) gl = some (.lst (nV (gn7 ++ [c]))) := by
                rw [upd_same]
                unfold nV
                rw [List.map_append]
                rfl
              have T9s := T9.serve
              generalize upd H9 gl (.lst (nV gn7 ++ [V.int (c : Nat)])) = H10 at x10 z10 h10 r10 p10 g10 ⊢
              refine ⟨.ref wl, rfl, .int j, rfl, wl, _, j, _, rfl, rfl, .inl (.inl h10), at3, 1, rfl, ra, _, rfl, r10, cut_oneN _ _, fun np nnp => ?_⟩
              have xp : Ex H10 (upd H10 np (.tup (cutV (nV (c :: r)) (some 1) none))) := Ex.new nnp
              have hp : SqT K (upd H10 np (.tup (cutV (nV (c :: r)) (some 1) none))) np (nV r) := .inl (.inl (upd_same.trans (by rw [show nV (c :: r) = V.int (c : Nat) :: nV r from rfl, cut_one])))
              have x11 : ∀ b o, b ≠ de → H b = some o → upd H10 np (.tup (cutV (nV (c :: r)) (some 1) none)) b = some o := fun b o n e => xp _ _ (x10 b o n e)
              have z11 := xp _ _ z10
              have h11 := xp _ _ h10
              have p11 : Paired (fun a q => SqT K (upd H10 np (.tup (cutV (nV (c :: r)) (some 1) none))) a (nV q)) rs2 rows7 := Paired.mapP p10 fun _ _ z => xp.sqT z
              have g11 := xp _ _ g10
              generalize upd H10 np (.tup (cutV (nV (c :: r)) (some 1) none)) = H11 at hp x11 z11 h11 p11 g11 ⊢
              refine ⟨.ref wl, rfl, .int j, rfl, wl, _, j, j, rfl, rfl, h11, ixN_nat (by rw [List.length_map]; exact jl2), ?_⟩
              have x12 : ∀ b o, b ≠ de → H b = some o → upd H11 wl (.lst ((rs2.map V.ref).set j (.ref np))) b = some o := fun b o n e => (upd_ne fun z => by rw [z, fw] at e; cases e).trans (x11 b o n e)
              have z12 : upd H11 wl (.lst ((rs2.map V.ref).set j (.ref np))) de = some (.frz od (.dK es)) := (upd_ne (Ne.symm wde)).trans z11
              have p12 : Paired (fun a r => SqT K (upd H11 wl (.lst ((rs2.map V.ref).set j (.ref np)))) a (nV r)) (rs2.set j np) (rows7.set j r) := TRl.set (H := upd H11 wl (.lst ((rs2.map V.ref).set j (.ref np)))) (wl := wl) (Paired.mapP p11 fun _ _ z => sqT_put h11 (fun _ z => nomatch z) (fun _ _ z => nomatch z) z) (sqT_put h11 (fun _ z => nomatch z) (fun _ _ z => nomatch z) hp)
              have h12 : upd H11 wl (.lst ((rs2.map V.ref).set j (.ref np))) wl = some (.lst ((rs2.set j np).map V.ref)) := by rw [upd_same, List.map_set]
              have g12 : upd H11 wl (.lst ((rs2.map V.ref).set j (.ref np))) gl = some (.lst (nV (gn7 ++ [c]))) := (upd_ne (Ne.symm wg)).trans g11
              generalize upd H11 wl (.lst ((rs2.map V.ref).set j (.ref np))) = H12 at x12 z12 p12 h12 g12 ⊢
              have dq : DGet H12 b2 (.str w7) (some (.str g)) := by
                have z := DGet.k (k := Sum.inr w7) (up x12 hb nb2)
                rw [lookL_val, q] at z
                exact z
              refine ⟨.ref t, rfl, t, C, dx, _, .ref de, rfl, up x12 f1 (fun z => nomatch z), TC.cls, TC.ents, rfl, .str l.1, rfl, de, .ref b2, rfl, dg z12, .str w7, rfl, b2, .str g, rfl, dq, _, _, rfl, ?_⟩
              have fd8 : firstAble d.ents rows7 w7 0 = some (j, g) := by
                rw [fd7]
                unfold able1
                rw [if_neg (fun z => nomatch z), q]
              refine ⟨g, rows7.set j r, gn7 ++ [c], true, _, _, rfl, x12, z12, ⟨⟨_, h12, p12⟩, g12, T9.fresh, by rw [List.length_set]; exact T9.len, by rw [List.length_append, List.length_singleton]; omega, ?_⟩, (fun z => nomatch z), fun _ => by omega⟩
              rw [T9s, ← ts]
              exact serve_step fd8 hr7
      · obtain ⟨w7, rows7, gn7, ag, p6, p7, rfl, x7, z7, T, c1, c2⟩ := h
        have xu : Ex H (upd H7 de (.dK es)) := fun b o e => by
          by_cases z : b = de
          · rw [z] at e ⊢
            rw [m1] at e
            rw [upd_same]
            exact e
          · exact (upd_ne z).trans (x7 b o z e)
        obtain ⟨rs2, h1, h2⟩ := T.tr
        refine ⟨z7, 2 * tot rows7 + (if ag = true then 1 else 0), ?_, w7, rows7, gn7, ag, p6, p7, rfl, xu, ⟨⟨rs2, (upd_ne wde).trans h1, Paired.mapP h2 fun _ _ z => sqT_unl z7 z⟩, (upd_ne gde).trans T.gone, T.fresh, T.len, T.small, T.serve⟩, ?_, rfl⟩
        · rw [em]
          cases ag with
          | true =>
            have := c2 rfl
            simp
            omega
          | false =>
            have := (c1 rfl).1
            subst this
            simp
        · intro z
          have ll := Paired.length mp
          have lr := T.len
          rw [(c1 z).2, List.drop_eq_nil_of_le (by omega)]
          unfold firstAble
          rfl
end
end TH

/-! C4: is_integer, is_natural, is_positive, is_pair, check_number, first_state, is_waiting -/
namespace TH
open PySem PySem.Spec PyProof.Rows L2 LamV LamX XK0
open C8 (pss_cut tCut)
abbrev sIsInt : Stmt := top 3
abbrev sIsNat : Stmt := top 4
abbrev sIsPos : Stmt := top 5
abbrev sIsPair : Stmt := top 7
abbrev sCheckNum : Stmt := top 29
abbrev sFirstState : Stmt := top 30
abbrev sIsWaiting : Stmt := top 31
def intV : V → Option Int
  | .int i => some i
  | _ => none
def natV (v : V) : Bool := match intV v with
  | some i => decide (0 ≤ i)
  | none => false
def posV (v : V) : Bool := match intV v with
  | some i => decide (1 ≤ i)
  | none => false
def waits (rows : Rws) (c : Int) : Bool := rows.any fun r => inV (.int c) (nV r)
theorem Kd.int {K : PySem.W.Frag} {H : Hp} {v : V} (h : Kd K H v "int") : ∃ i, v = .int i := by
  obtain ⟨_, h, l⟩ := h
  generalize e : Value.type "int" = t at h
  cases h with
  | base h => cases h <;> first | exact ⟨_, rfl⟩ | (exfalso; simp at e)
  | _ => exfalso; simp at e
theorem intV_no {K : PySem.W.Frag} {H : Hp} {v : V} {T : String} (h : Kd K H v T) (n : T ≠ "int") : intV v = none := by
  cases v with
  | int i =>
    obtain ⟨_, t, _⟩ := h
    cases t with
    | base t => cases t; exact absurd rfl n
  | _ => rfl
theorem int_kd {K : PySem.W.Frag} {H : Hp} {i : Int} : Kd K H (.int i) "int" := ⟨by decide, .base (.int i), fun _ z => nomatch z⟩
theorem kit_int {K : PySem.W.Frag} {T : String} (h : T ∈ tys) : PySem.W.kitOne K (.type T) (.type "int") = some (decide (T = "int") || decide (T = "bool")) := by
  simp only [tys, List.mem_cons, List.mem_nil_iff, or_false] at h
  rcases h with rfl | rfl | rfl | rfl | rfl | rfl | rfl <;> exact kit_ty (by decide +kernel)
theorem kit_bool {K : PySem.W.Frag} {T : String} (h : T ∈ tys) : PySem.W.kitOne K (.type T) (.type "bool") = some (decide (T = "bool")) := by
  simp only [tys, List.mem_cons, List.mem_nil_iff, or_false] at h
  rcases h with rfl | rfl | rfl | rfl | rfl | rfl | rfl <;> exact kit_ty (by decide +kernel)
def spIsInt (K : PySem.W.Frag) : Sp := fun vs H Q _ => ∃ v T, vs = [v] ∧ Kd K H v T ∧ Q (.bl (intV v).isSome) H
def spIsNat (K : PySem.W.Frag) : Sp := fun vs H Q _ => ∃ v T, vs = [v] ∧ Kd K H v T ∧ Q (.bl (natV v)) H
def spIsPos (K : PySem.W.Frag) : Sp := fun vs H Q _ => ∃ v T, vs = [v] ∧ Kd K H v T ∧ Q (.bl (posV v)) H
def spIsPair (K : PySem.W.Frag) : Sp := fun vs H Q _ => (∃ v T, vs = [v] ∧ Kd K H v T ∧ isLt T = false ∧ ∀ H', Ex H H' → Q (.bl false) H') ∨ (∃ a xs, vs = [.ref a] ∧ Sq K H a xs ∧ ∀ H', Ex H H' → Q (.bl (decide (xs.length = 2))) H')
def spCheckNumX (K : PySem.W.Frag) (CN : Addr) : Sp := fun vs H Q E => ∃ v T, vs = [v] ∧ Kd K H v T ∧ ((posV v = true ∧ Q .non H) ∨ (posV v = false ∧ Rz E H CN [("number", v)]))
def spFirstState (K : PySem.W.Frag) (C : Addr) : Sp := fun vs H Q _ => ∃ (t : Addr) (d : ThD) (w : Str), vs = [.ref t, .str w] ∧ IsTh H C t d ∧ d.ents.length ≤ 60 ∧ ∀ (p : Addr) (H' : Hp), Ex H H' → PSt K H' p w (List.replicate d.ents.length []) → Q (.ref p) H'
def spIsWaiting (K : PySem.W.Frag) : Sp := fun vs H Q _ => ∃ (sa : Addr) (w : Str) (rows : Rws) (c : Int), vs = [.ref sa, .int c] ∧ PSt K H sa w rows ∧ rows.length ≤ 60 ∧ ∀ H', Ex H H' → Q (.bl (waits rows c)) H'
section
variable {P : Program} {w : World} {K : PySem.W.Frag} {mg : Str → Option Value} {base : Heap} {f C CN : Addr} {fd : FuncData}
theorem scIsInt : FnScope ["thing"] ["thing"] (defScope sIsInt) := ⟨rfl, rfl, rfl, by decide +kernel, rfl, by decide +kernel, by decide +kernel⟩
theorem scIsNat : FnScope ["thing"] ["thing"] (defScope sIsNat) := ⟨rfl, rfl, rfl, by decide +kernel, rfl, by decide +kernel, by decide +kernel⟩
theorem scIsPos : FnScope ["thing"] ["thing"] (defScope sIsPos) := ⟨rfl, rfl, rfl, by decide +kernel, rfl, by decide +kernel, by decide +kernel⟩
theorem scIsPair : FnScope ["thing"] ["thing"] (defScope sIsPair) := ⟨rfl, rfl, rfl, by decide +kernel, rfl, by decide +kernel, by decide +kernel⟩
theorem scCheckNum : FnScope ["callers"] ["callers"] (defScope sCheckNum) := ⟨rfl, rfl, rfl, by decide +kernel, rfl, by decide +kernel, by decide +kernel⟩
theorem scFirstState : FnScope ["thing", "worth", "entry"] ["thing", "worth"] (defScope sFirstState) := ⟨rfl, rfl, rfl, by decide +kernel, rfl, by decide +kernel, by decide +kernel⟩
theorem scIsWaiting : FnScope ["state", "caller", "waiting"] ["state", "caller"] (defScope sIsWaiting) := ⟨rfl, rfl, rfl, by decide +kernel, rfl, by decide +kernel, by decide +kernel⟩
theorem ok_is_int (F : FnP K "is_integer" sIsInt f fd) (gi : mg "isinstance" = none) (gn : mg "int" = none) (gb : mg "bool" = none) : FnOk P w K mg base CX0 1 f fd ["thing"] (spIsInt K) := by
  refine F.ok scIsInt (fun vs H Q E h => ?_) (fun cdv A outer s H vs Q E hr h => ?_)
  · obtain ⟨v, T, rfl, _⟩ := h
    rfl
  · refine ⟨_, PSs.nox (pss_one (ps_ret (pe_and (pe_callB call_isi rfl gi boot_isinstance (pa_cons (pv 0) (pa_cons (pe_bltn (v := .ty "int") rfl gn boot_int rfl) pa_nil)))
      (pe_one (pe_not (pe_callB call_isi rfl gi boot_isinstance (pa_cons (pv 0) (pa_cons (pe_bltn (v := .ty "bool") rfl gb boot_bool rfl) pa_nil)))))))), ?_⟩
    obtain ⟨v, T, rfl, k, hQ⟩ := h
    refine ⟨v, rfl, v, .ty "int", _, _, _, rfl, .ty "int", k.2.1, kit_int k.1, _, rfl, ?_⟩
    by_cases hT : T = "int"
    · subst hT
      obtain ⟨i, rfl⟩ := k.int
      exact ⟨_, rfl, _, .ty "bool", _, _, _, rfl, .ty "bool", k.2.1, kit_bool k.1, _, rfl, hQ⟩
    · rw [intV_no k hT] at hQ
      by_cases hB : T = "bool"
      · subst hB
        exact ⟨_, rfl, _, .ty "bool", _, _, _, rfl, .ty "bool", k.2.1, kit_bool k.1, _, rfl, hQ⟩
      · rw [decide_eq_false hT, decide_eq_false hB]
        exact hQ
theorem ok_is_nat (F : FnP K "is_natural" sIsNat f fd) (FI : Has P w K mg base "is_integer" 1 ["thing"] (spIsInt K)) : FnOk P w K mg base CX0 2 f fd ["thing"] (spIsNat K) := by
  refine F.ok scIsNat (fun vs H Q E h => ?_) (fun cdv A outer s H vs Q E hr h => ?_)
  · obtain ⟨v, T, rfl, _⟩ := h
    rfl
  · refine ⟨_, PSs.nox (pss_one (ps_ret (pe_and (pe_has FI hr (by decide) rfl (pa_cons (pv 0) pa_nil)) (pe_one (pe_cmpR op_ge (pv 0) pe_int (nomark _)))))), ?_⟩
    obtain ⟨v, T, rfl, k, hQ⟩ := h
    refine ⟨v, rfl, v, T, rfl, k, _, rfl, ?_⟩
    unfold natV at hQ
    by_cases hT : T = "int"
    · subst hT
      obtain ⟨i, rfl⟩ := k.int
      exact ⟨_, rfl, i, 0, rfl, rfl, hQ⟩
    · rw [intV_no k hT] at hQ ⊢
      exact hQ
theorem ok_is_pos (F : FnP K "is_positive" sIsPos f fd) (FI : Has P w K mg base "is_integer" 1 ["thing"] (spIsInt K)) : FnOk P w K mg base CX0 2 f fd ["thing"] (spIsPos K) := by
  refine F.ok scIsPos (fun vs H Q E h => ?_) (fun cdv A outer s H vs Q E hr h => ?_)
  · obtain ⟨v, T, rfl, _⟩ := h
    rfl
  · refine ⟨_, PSs.nox (pss_one (ps_ret (pe_and (pe_has FI hr (by decide) rfl (pa_cons (pv 0) pa_nil)) (pe_one (pe_cmpR op_ge (pv 0) pe_int (nomark _)))))), ?_⟩
    obtain ⟨v, T, rfl, k, hQ⟩ := h
    refine ⟨v, rfl, v, T, rfl, k, _, rfl, ?_⟩
    unfold posV at hQ
    by_cases hT : T = "int"
    · subst hT
      obtain ⟨i, rfl⟩ := k.int
      exact ⟨_, rfl, i, 1, rfl, rfl, hQ⟩
    · rw [intV_no k hT] at hQ ⊢
      exact hQ
theorem ok_is_pair (F : FnP K "is_pair" sIsPair f fd) (FL : Has P w K mg base "is_list" 1 ["thing"] (spIsList K)) (gn : mg "len" = none) : FnOk P w K mg base CX0 2 f fd ["thing"] (spIsPair K) := by
  refine F.ok scIsPair (fun vs H Q E h => ?_) (fun cdv A outer s H vs Q E hr h => ?_)
  · rcases h with ⟨v, T, rfl, _⟩ | ⟨a, xs, rfl, _⟩
    · rfl
    · rfl
  · refine ⟨_, PSs.nox (pss_one (ps_ret (pe_and (pe_has FL hr (by decide) rfl (pa_cons (pv 0) pa_nil)) (pe_one (pe_cmp (pc_eqI (pe_callB call_len rfl gn boot_len (pa_cons (pv 0) pa_nil)) pe_int)))))), ?_⟩
    rcases h with ⟨v, T, rfl, k, nl, hQ⟩ | ⟨a, xs, rfl, sq, hQ⟩
    · refine ⟨v, rfl, v, T, rfl, k, fun H1 x1 => ⟨_, rfl, ?_⟩⟩
      rw [nl]
      exact hQ H1 x1
    · obtain ⟨T, kT, lT⟩ : ∃ T, Kd K H (.ref a) T ∧ isLt T = true := by
        rcases sq with sq | sq
        · exact ⟨_, sqL_kd sq, rfl⟩
        · exact ⟨_, sqT_kd sq, rfl⟩
      refine ⟨.ref a, rfl, .ref a, T, rfl, kT, fun H1 x1 => ⟨_, rfl, ?_⟩⟩
      rw [lT]
      have ln : LenV K (.ref a) H1 xs.length := by
        rcases sq with sq | sq
        · exact .inl ⟨xs, x1.sqL sq, rfl⟩
        · exact .inr ⟨xs, x1.sqT sq, rfl⟩
      refine ⟨.ref a, rfl, .ref a, xs.length, rfl, ln, _, _, rfl, rfl, ?_⟩
      have q := hQ H1 x1
      have e : decide ((xs.length : Int) = (2 : Int)) = decide (xs.length = 2) := by
        by_cases z : xs.length = 2
        · rw [decide_eq_true z, decide_eq_true (by omega)]
        · rw [decide_eq_false z, decide_eq_false (by omega)]
      show Q (.bl (decide ((xs.length : Int) = (2 : Int)))) H1
      rw [e]
      exact q
theorem ok_check_num (F : FnP K "check_number" sCheckNum f fd) (EN : Ec1 K mg "BadNumber" "number" CN) (FP : Has P w K mg base "is_positive" 2 ["thing"] (spIsPos K)) : FnOk P w K mg base (L2.CX P w) 3 f fd ["callers"] (spCheckNumX K CN) := by
  refine FunD.okX F scCheckNum (fun vs H Q E h => ?_) (fun cdv A outer s H vs Q E hr h => ?_)
  · obtain ⟨v, T, rfl, _⟩ := h
    rfl
  · refine ⟨_, pss_one (ps_if (pt_not (pt_val (pe_has FP hr (by decide) rfl (pa_cons (pv 0) pa_nil)))) (pss_one (ps_raise1 EN rfl hr (takes_of rfl rfl rfl rfl) rfl (pv 0))) pss_nil), ?_⟩
    obtain ⟨v, T, rfl, k, h⟩ := h
    refine ⟨v, rfl, v, T, rfl, k, _, rfl, ?_⟩
    rcases h with ⟨e, hQ⟩ | ⟨e, rz⟩
    · rw [e]
      exact hQ
    · rw [e]
      exact ⟨v, rfl, mk1_ok EN fun d n => rz _ _ Ex.refl n⟩
theorem ok_first_state (F : FnP K "first_state" sFirstState f fd) (TC : ThC K C) (gt : mg "tuple" = none) : FnOk P w K mg base CX0 1 f fd ["thing", "worth"] (spFirstState K C) := by
  refine F.ok scFirstState (fun vs H Q E h => ?_) (fun cdv A outer s H vs Q E hr h => ?_)
  · obtain ⟨t, d, w, rfl, _⟩ := h
    rfl
  · refine ⟨_, PSs.nox (pss_one (ps_ret (pe_tup (pa_cons (pv 1) (pa_cons (pe_callTy call_tuple_of rfl gt boot_tuple (pa_cons (pe_lock (pe_lc (own := [("entry", 2)]) rfl scFirstState.nd (pi_keys (pe_fld (pv 0) rfl)) (blkOk_by (by kernel_rfl)) (fun s H C cl fp => pg_name (i := 2) scFirstState.nd rfl (.inl rfl) (.inr rfl)) (fun s H C cl fp => pts_nil) (fun s H C cl fp => pe_tup pa_nil))) pa_nil)) pa_nil))))), ?_⟩
    obtain ⟨t, d, w, rfl, th, elen, hQ⟩ := h
    obtain ⟨dx, vt, dd, de, f1, f2, f3, ⟨es, m1, mp⟩⟩ := th
    refine ⟨.str w, rfl, de, _, m1, trivial, fun od => ?_⟩
    have fne : t ≠ de := fun z => by rw [z, m1] at f1; cases f1
    refine ⟨.ref t, rfl, t, C, dx, _, .ref de, rfl, (upd_ne fne).trans f1, TC.cls, TC.ents, rfl, de, od, rfl, .inl ⟨es, upd_same, fun D nD => ?_⟩⟩
    have eln : es.length = d.ents.length := (Paired.length mp).symm
    refine lc_it walk_keys (fun n H2 => ∃ rs : List Addr, rs.length = n ∧ Ex (upd H de (.frz od (.dK es))) H2 ∧ H2 D = some (.lst (rs.map V.ref)) ∧ ∀ a ∈ rs, H2 a = some (.tup [])) ⟨[], rfl, Ex.new nD, upd_same, fun a m => by cases m⟩ (fun n H2 _ ⟨rs, _, x, _⟩ => x _ _ upd_same) (fun n v H2 H3 hn h y => ?_) fun H2 h => ?_
    · obtain ⟨rs, ln, x2, hD, all⟩ := h
      obtain ⟨rfl, k, v2, ek, rfl⟩ := y
      refine ⟨rfl, Nat.zero_le _, fun p np => ?_⟩
      have xp : Ex H3 (upd H3 p (.tup [])) := Ex.new np
      have pD : p ≠ D := fun z => by rw [z, hD] at np; cases np
      have Dall : ∀ a ∈ rs, a ≠ D := fun a m z => by have q := all a m; rw [z, hD] at q; cases q
      refine ⟨rs.map V.ref, xp _ _ hD, by rw [sizeLine_eq, List.length_map]; omega, rs ++ [p], by rw [List.length_append, ln]; rfl, fun b o e => (upd_ne fun z => by rw [z] at e; rw [nD] at e; cases e).trans (xp _ _ (x2 _ _ e)), by rw [upd_same, List.map_append]; rfl, fun a m => ?_⟩
      rcases List.mem_append.mp m with m | m
      · exact (upd_ne (Dall a m)).trans (xp _ _ (all a m))
      · rw [List.mem_singleton.mp m]
        exact (upd_ne pD).trans upd_same
    · obtain ⟨rs, ln, x2, hD, all⟩ := h
      have xu : Ex H (upd H2 de (.dK es)) := Ex.unlock m1 x2
      have nde : ∀ {a : Addr} {o : HO}, H2 a = some o → o ≠ .frz od (.dK es) → a ≠ de := fun e n z => n (by rw [z, x2 _ _ upd_same] at e; exact (Option.some.inj e).symm)
      have hD2 : upd H2 de (.dK es) D = some (.lst (rs.map V.ref)) := (upd_ne (nde hD fun z => nomatch z)).trans hD
      have all2 : ∀ a ∈ rs, upd H2 de (.dK es) a = some (.tup []) := fun a m => (upd_ne (nde (all a m) fun z => nomatch z)).trans (all a m)
      refine ⟨x2 _ _ upd_same, D, _, rfl, .inl ⟨.inl (.inl hD2), fun tq ntq => ⟨by show 2 ≤ sizeLine; decide, fun p np => ?_⟩⟩⟩
      have xa := (Ex.new (o := .tup (rs.map V.ref)) ntq).trans (Ex.new (o := .tup [.str w, .ref tq]) np)
      refine hQ p _ (xu.trans xa) ⟨tq, rs, upd_same, .inl (.inl ((Ex.new np) _ _ upd_same)), ?_⟩
      rw [← eln, ← ln]
      exact paired_rep rfl fun a m => .inl (.inl (xa _ _ (all2 a m)))
theorem op_in_seqK {X : Cx} {K : PySem.W.Frag} (h : X.K = K) : OpR X (compareOp .In) (rIn K false) := h ▸ op_in_seq
theorem nV_flat (r : List Nat) : (nV r).all flatV = true := by
  unfold nV
  rw [List.all_map]
  exact List.all_eq_true.mpr fun _ _ => rfl
theorem ok_is_waiting (F : FnP K "is_waiting" sIsWaiting f fd) (ga : mg "any" = none) : FnOk P w K mg base CX0 1 f fd ["state", "caller"] (spIsWaiting K) := by
  refine F.ok scIsWaiting (fun vs H Q E h => ?_) (fun cdv A outer s H vs Q E hr h => ?_)
  · obtain ⟨sa, w, rows, c, rfl, _⟩ := h
    rfl
  · refine ⟨_, PSs.nox (pss_one (ps_ret (pe_callB (cr_any rfl) rfl ga boot_any (pa_cons (pe_lc (own := [("waiting", 2)]) rfl scIsWaiting.nd (pi_tup (pe_ix ix_tup (pv 0) pe_int (fun _ _ => rfl))) (blkOk_by (by kernel_rfl)) (fun s H C cl fp => pg_name (i := 2) scIsWaiting.nd rfl (.inl rfl) (.inr rfl)) (fun s H C cl fp => pts_nil)
        (fun s H C cl fp => pe_cmpR (op_in_seqK (K := K) rfl) (pv 1) (pv 2) (by with_unfolding_all rfl))) pa_nil)))), ?_⟩
    obtain ⟨sa, w, rows, c, rfl, ps, len, hQ⟩ := h
    obtain ⟨tr, rs, e1, e2, e3⟩ := ps
    have rl : rs.length = rows.length := Paired.length e3
    refine ⟨.ref sa, rfl, sa, _, 1, .ref tr, rfl, rfl, .inl (.inl e1), rfl, tr, rfl, ⟨_, e2⟩, fun D nD => ?_⟩
    refine lc_it (walk_tup (xs := rs.map V.ref)) (fun n H2 => Ex H H2 ∧ H2 D = some (.lst (((rows.take n).map fun r => inV (.int c) (nV r)).map V.bl))) ⟨Ex.new nD, upd_same⟩ (fun n H2 _ h => h.1.sqT e2) (fun n v H2 H3 hn h y => ?_) fun H2 h => ?_
    · obtain ⟨x2, hD⟩ := h
      obtain ⟨rfl, ev⟩ := y
      rw [List.getElem?_map] at ev
      obtain ⟨a, ea, rfl⟩ := Option.map_eq_some_iff.mp ev
      have nl : n < rows.length := by rw [List.length_map] at hn; omega
      obtain ⟨r, er⟩ : ∃ r, rows[n]? = some r := ⟨_, List.getElem?_eq_getElem nl⟩
      obtain ⟨a', ea', ha⟩ := paired_get e3 er
      rw [ea] at ea'
      cases ea'
      refine ⟨rfl, .int c, rfl, .ref a, rfl, a, nV r, rfl, .inr (x2.sqT ha), rfl, nV_flat r, _, hD, by rw [sizeLine_eq, List.length_map, List.length_map, List.length_take]; have := Nat.min_le_right n rows.length; omega, fun b o e => (upd_ne fun z => by rw [z, nD] at e; cases e).trans (x2 _ _ e), ?_⟩
      rw [upd_same, List.take_add_one, er, Option.toList_some, List.map_append, List.map_append]
      rfl
    · obtain ⟨x2, hD⟩ := h
      refine ⟨D, _, rfl, .inl (.inl hD), ?_⟩
      have q := hQ H2 x2
      rw [List.length_map, rl, List.take_length, List.any_map]
      exact q
end
end TH

/-! C5: is_call, called -/
namespace TH
open PySem PySem.Spec PyProof.Rows L2 LamV LamX XK0
open C8 (pss_cut tCut)
abbrev sIsCall : Stmt := top 32
abbrev sCalled : Stmt := top 34
def inNames (d : ThD) : V → Bool
  | .str n => decide (n ∈ d.names)
  | _ => false
/-- a thing handed as a call, judged -/
inductive CallB (K : PySem.W.Frag) (H : Hp) (d : ThD) (callers : Int) (rows : Rws) : V → Bool → Prop
  | notseq {v : V} {T : String} : Kd K H v T → isLt T = false → CallB K H d callers rows v false
  | notpair {a : Addr} {xs : List V} : Sq K H a xs → xs.length ≠ 2 → CallB K H d callers rows (.ref a) false
  | notnat {a : Addr} {x y : V} {T : String} : Sq K H a [x, y] → Kd K H x T → natV x = false → CallB K H d callers rows (.ref a) false
  | int {a : Addr} {c : Int} {y : V} {T : String} : Sq K H a [.int c, y] → 0 ≤ c → Kd K H y T → CallB K H d callers rows (.ref a) (decide (c < callers) && (isWd y && (inNames d y && !waits rows c)))
theorem CallB.ex {K : PySem.W.Frag} {H H' : Hp} {d : ThD} {callers : Int} {rows : Rws} {v : V} {b : Bool} (x : Ex H H') (h : CallB K H d callers rows v b) : CallB K H' d callers rows v b := by
  cases h with
  | notseq k n => exact .notseq (k.ex x) n
  | notpair s n => exact .notpair (s.ex x) n
  | notnat s k n => exact .notnat (s.ex x) (k.ex x) n
  | int s c k => exact .int (s.ex x) c (k.ex x)
def spIsCall (K : PySem.W.Frag) (C : Addr) : Sp := fun vs H Q _ => ∃ (t : Addr) (d : ThD) (callers : Int) (sa : Addr) (w : Str) (rows : Rws) (v : V) (b : Bool), vs = [.ref t, .int callers, .ref sa, v] ∧ IsTh H C t d ∧ d.names.length < 64 ∧ PSt K H sa w rows ∧ rows.length ≤ 60 ∧ CallB K H d callers rows v b ∧
  ∀ H', Ex H H' → Q (.bl b) H'
theorem inV_names {ys : List Str} {d : ThD} (pm : ys.Perm d.names) (n : Str) : inV (.str n) (ys.map V.str) = inNames d (.str n) := by
  rw [inV_strs]
  show decide (n ∈ ys) = decide (n ∈ d.names)
  by_cases z : n ∈ d.names
  · rw [decide_eq_true z, decide_eq_true (pm.mem_iff.mpr z)]
  · rw [decide_eq_false z, decide_eq_false fun q => z (pm.mem_iff.mp q)]
/-! ### a call's step -/
def putRow (es : Lds) (rows : Rws) (n : Str) (c : Nat) : Rws := match rows[(es.map (·.1)).idxOf n]? with
  | some r => rows.set ((es.map (·.1)).idxOf n) (r ++ [c])
  | none => rows
def callStep (d : ThD) (st : Str × Rws) (c : Nat) (n : Str) : (Str × Rws) × List Nat := match d.led st.1 n with
  | some g => ((serve d.ents (tot st.2) g st.2 []).1, c :: (serve d.ents (tot st.2) g st.2 []).2)
  | none => ((st.1, putRow d.ents st.2 n c), [])
def spCalled (K : PySem.W.Frag) (C : Addr) : Sp := fun vs H Q _ => ∃ (t : Addr) (d : ThD) (sa ca : Addr) (w : Str) (rows : Rws) (c : Nat) (n : Str), vs = [.ref t, .ref sa, .ref ca] ∧ IsTh H C t d ∧ PSt K H sa w rows ∧ SqT K H ca [.int c, .str n] ∧
  ((∃ l, look d.deeds n = some l ∧ (lookL l w).isSome = true) ∨ (look d.deeds n = none ∧ (look d.ents n).isSome = true)) ∧
  rows.length = d.ents.length ∧ d.ents.length ≤ 60 ∧ (d.ents.map (·.1)).Nodup ∧ tot rows ≤ 100 ∧
  ∀ (p sa' gl : Addr) (H' : Hp), Ex H H' → H' p = some (.tup [.ref sa', .ref gl]) → PSt K H' sa' (callStep d (w, rows) c n).1.1 (callStep d (w, rows) c n).1.2 → SqT K H' gl (nV (callStep d (w, rows) c n).2) → Q (.ref p) H'
theorem serve_len {es : Lds} : ∀ {n : Nat} {w : Str} {rows : Rws} {gn : List Nat}, (serve es n w rows gn).2.length ≤ gn.length + n
  | 0, w, rows, gn => Nat.le_refl _
  | n + 1, w, rows, gn => by
    unfold serve
    split
    · exact Nat.le_add_right _ _
    · split
      · refine Nat.le_trans serve_len ?_
        rw [List.length_append, List.length_singleton]
        omega
      · exact Nat.le_add_right _ _
theorem look_mem2 {ls : Lds} {n : Str} (h : (look ls n).isSome = true) : n ∈ ls.map (·.1) := by
  obtain ⟨l, e⟩ := Option.isSome_iff_exists.mp h
  obtain ⟨p, m, rfl, _⟩ := look_some e
  exact List.mem_map_of_mem m
theorem idx_at {ks : List Str} {n : Str} (h : n ∈ ks) : (ks.map V.str)[ks.idxOf n]? = some (.str n) ∧ ∀ (m : Nat) (z : V), m < ks.idxOf n → (ks.map V.str)[m]? = some z → eqV z (.str n) = false := by
  have lt := List.idxOf_lt_length_iff.mpr h
  refine ⟨by rw [List.getElem?_map, List.getElem?_eq_getElem lt, List.getElem_idxOf]; rfl, fun m z hm e => ?_⟩
  rw [List.getElem?_map] at e
  obtain ⟨x, ex, rfl⟩ := Option.map_eq_some_iff.mp e
  obtain ⟨l2, e2⟩ := List.getElem?_eq_some_iff.mp ex
  have q := List.not_of_lt_findIdx (p := (· == n)) (xs := ks) (i := m) hm
  rw [e2] at q
  simpa [eqV] using q
theorem cut_to (xs : List V) (i : Nat) : cutV xs none (some (i : Int)) = xs.take i := by
  unfold cutV
  rw [HT.sIx_none, HT.sIx_nat, List.drop_zero, Nat.sub_zero]
  by_cases z : i ≤ xs.length
  · rw [Nat.min_eq_left z]
  · rw [Nat.min_eq_right (by omega), List.take_length, List.take_of_length_le (by omega)]
theorem cut_from (xs : List V) (i : Nat) : cutV xs (some (i : Int)) none = xs.drop i := by
  unfold cutV
  rw [HT.sIx_none, HT.sIx_nat]
  by_cases z : i ≤ xs.length
  · rw [Nat.min_eq_left z, List.take_of_length_le (by rw [List.length_drop]; omega)]
  · rw [Nat.min_eq_right (by omega), List.drop_eq_nil_of_le (by omega), List.drop_eq_nil_of_le (by omega), List.take_nil]
theorem set_cut (rs : List Addr) {j : Nat} (h : j < rs.length) (p : Addr) : cutV (rs.map V.ref) none (some (j : Int)) ++ [V.ref p] ++ cutV (rs.map V.ref) (some ((j : Int) + 1)) none = (rs.set j p).map V.ref := by
  rw [cut_to, show ((j : Int) + 1) = ((j + 1 : Nat) : Int) from rfl, cut_from, List.set_eq_take_append_cons_drop, if_pos h, List.map_append, List.map_take, List.map_cons, List.map_drop, List.append_assoc]
  rfl
theorem cutV_le (xs : List V) (lo hi : Option Int) : (cutV xs lo hi).length ≤ xs.length := cutV_length xs lo hi
theorem tot_ge : ∀ {rows : Rws} {r : List Nat}, r ∈ rows → r.length ≤ tot rows
  | x :: xs, r, h => by
    have e : tot (x :: xs) = x.length + tot xs := by unfold tot; rw [List.map_cons, List.sum_cons]
    rcases List.mem_cons.mp h with rfl | h
    · omega
    · have := tot_ge h
      omega
theorem catA_go {K : PySem.W.Frag} {a b : Addr} {xs ys : List V} {H : Hp} {Q : VK} (ha : SqT K H a xs) (hb : SqT K H b ys) (len : xs.length + ys.length ≤ 1000) (h : ∀ p H', Ex H H' → SqT K H' p (xs ++ ys) → Q (.ref p) H') : rCatA K (.ref a) (.ref b) H Q :=
  ⟨a, b, xs, ys, rfl, rfl, ha, hb, by rw [sizeLine_eq]; omega, (fun e => h b H Ex.refl (by rw [e]; exact hb)), (fun _ e => h a H Ex.refl (by rw [e, List.append_nil]; exact ha)), fun _ _ p np => h p _ (Ex.new np) (.inl (.inl upd_same))⟩
theorem slA_go {K : PySem.W.Frag} {a : Addr} {xs : List V} {lo hi : Option Int} {H : Hp} {Q : VK} (ha : SqT K H a xs) (h : ∀ p H', Ex H H' → SqT K H' p (cutV xs lo hi) → Q (.ref p) H') : rSlA K (.ref a) lo hi H Q :=
  ⟨a, xs, rfl, ha, (fun e => h a H Ex.refl (by unfold cutV; rw [e.1, e.2, List.drop_zero, Nat.sub_zero, List.take_length]; exact ha)), fun _ p np => h p _ (Ex.new np) (.inl (.inl upd_same))⟩
theorem if_t {b : Bool} {A B : Prop} (e : b = true) (h : A) : if b = true then A else B := by rw [e]; exact h
theorem if_f {b : Bool} {A B : Prop} (e : b = false) (h : B) : if b = true then A else B := by rw [e]; exact h
theorem idx_lt {ks : List Str} {n : Str} (h : n ∈ ks) : ks.idxOf n < ks.length := List.idxOf_lt_length_iff.mpr h
section
variable {P : Program} {w : World} {K : PySem.W.Frag} {mg : Str → Option Value} {base : Heap} {f C CN : Addr} {fd : FuncData}
theorem scIsCall : FnScope ["thing", "callers", "state", "call"] ["thing", "callers", "state", "call"] (defScope sIsCall) := ⟨rfl, rfl, rfl, by decide +kernel, rfl, by decide +kernel, by decide +kernel⟩
theorem scCalled : FnScope ["thing", "state", "call", "caller", "name", "goal", "later", "gone", "number"] ["thing", "state", "call"] (defScope sCalled) := ⟨rfl, rfl, rfl, by decide +kernel, rfl, by decide +kernel, by decide +kernel⟩
theorem ix_seq {K : PySem.W.Frag} {H : Hp} {a : Addr} {xs : List V} {i : Int} {v : V} {Q : VK} (s : Sq K H a xs) (e : atI xs i = some v) (h : Q v H) : rIxL K (.ref a) (.int i) H Q ∨ rIxT K (.ref a) (.int i) H Q := by
  rcases s with s | s
  · exact .inl ⟨a, xs, i, v, rfl, rfl, s, e, h⟩
  · exact .inr ⟨a, xs, i, v, rfl, rfl, s, e, h⟩
theorem ok_is_call (F : FnP K "is_call" sIsCall f fd) (FP : Has P w K mg base "is_pair" 2 ["thing"] (spIsPair K)) (FNt : Has P w K mg base "is_natural" 2 ["thing"] (spIsNat K)) (FW : Has P w K mg base "is_word" 1 ["thing"] (spIsWord K)) (FN : Has P w K mg base "names_of" 1 ["thing"] (spNamesOf C)) (FWt : Has P w K mg base "is_waiting" 1 ["state", "caller"] (spIsWaiting K)) : FnOk P w K mg base CX0 3 f fd ["thing", "callers", "state", "call"] (spIsCall K C) := by
  refine F.ok scIsCall (fun vs H Q E h => ?_) (fun cdv A outer s H vs Q E hr h => ?_)
  · obtain ⟨t, d, callers, sa, w, rows, v, b, rfl, _⟩ := h
    rfl
  · refine ⟨_, PSs.nox (pss_cons (ps_if (PW.pt (pw_or (pt_not (pt_val (pe_has FP hr (by decide) rfl (pa_cons (pv 3) pa_nil)))) (pw_or (pt_not (pt_val (pe_has FNt hr (by decide) rfl (pa_cons (pe_ix (ix_list.or ix_tup) (pv 3) pe_int (fun _ _ => rfl)) pa_nil)))) (pw_or (pt_cmp (pc_ge (pe_ix (ix_list.or ix_tup) (pv 3) pe_int (fun _ _ => rfl)) (pv 1))) (pw_or1 (pt_not (pt_val (pe_has FW hr (by decide) rfl (pa_cons (pe_ix (ix_list.or ix_tup) (pv 3) pe_int (fun _ _ => rfl)) pa_nil)))))))))
        (pss_one (ps_ret pe_bl)) pss_nil)
      (pss_one (ps_ret (pe_and (pe_cmpR op_in_seq (pe_ix (ix_list.or ix_tup) (pv 3) pe_int (fun _ _ => rfl)) (pe_has FN hr (by decide) rfl (pa_cons (pv 0) pa_nil)) (by with_unfolding_all rfl)) (pe_one (pe_not (pe_has FWt hr (by decide) rfl (pa_cons (pv 2) (pa_cons (pe_ix (ix_list.or ix_tup) (pv 3) pe_int (fun _ _ => rfl)) pa_nil))))))))), ?_⟩
    obtain ⟨t, d, callers, sa, w, rows, v, b, rfl, th, nlen, ps, rlen, cb, hQ⟩ := h
    cases cb with
    | notseq k n => exact ⟨v, rfl, .inl ⟨v, _, rfl, k, n, fun H1 x1 => ⟨_, rfl, hQ H1 x1⟩⟩⟩
    | @notpair a xs s n =>
      refine ⟨.ref a, rfl, .inr ⟨a, xs, rfl, s, fun H1 x1 => ⟨_, rfl, ?_⟩⟩⟩
      rw [decide_eq_false n]
      exact hQ H1 x1
    | @notnat a x y T s k n =>
      refine ⟨.ref a, rfl, .inr ⟨a, [x, y], rfl, s, fun H1 x1 => ⟨_, rfl, ?_⟩⟩⟩
      refine ⟨.ref a, rfl, ix_seq (s.ex x1) (atI_nat (j := 0) rfl) ⟨x, T, rfl, k.ex x1, _, rfl, ?_⟩⟩
      rw [n]
      exact hQ H1 x1
    | @int a c y T s c0 k =>
      refine ⟨.ref a, rfl, .inr ⟨a, [.int c, y], rfl, s, fun H1 x1 => ⟨_, rfl, ?_⟩⟩⟩
      refine ⟨.ref a, rfl, ix_seq (s.ex x1) (atI_nat (j := 0) rfl) ⟨.int c, "int", rfl, int_kd, _, rfl, ?_⟩⟩
      rw [show natV (.int c) = true from decide_eq_true c0]
      refine ⟨.ref a, rfl, ix_seq (s.ex x1) (atI_nat (j := 0) rfl) ⟨.int callers, rfl, c, callers, rfl, rfl, _, rfl, ?_⟩⟩
      by_cases lt : c < callers
      · rw [decide_eq_true lt] at hQ
        refine if_f (decide_eq_false (show ¬ callers ≤ c by omega)) ?_
        refine ⟨.ref a, rfl, ix_seq (s.ex x1) (atI_nat (j := 1) rfl) ⟨y, T, rfl, k.ex x1, fun H2 x2 => ⟨_, rfl, ?_⟩⟩⟩
        have y2 := x1.trans x2
        cases wd : isWd y with
        | false =>
          rw [wd] at hQ
          exact hQ H2 y2
        | true =>
          rw [wd] at hQ
          obtain ⟨n, rfl⟩ := isWd_str wd
          refine ⟨.ref a, rfl, ix_seq (s.ex y2) (atI_nat (j := 1) rfl) ⟨.ref t, rfl, t, d, rfl, th.ex y2, nlen, fun p ys H3 x3 np hp pm so => ⟨p, _, rfl, .inl (.inl (.inl hp)), rfl, flat_strs ys, _, rfl, ?_⟩⟩⟩
          have y3 := y2.trans x3
          show if inV (.str n) (ys.map V.str) = true then _ else _
          rw [inV_names pm]
          cases nm : inNames d (.str n) with
          | false =>
            rw [nm] at hQ
            exact hQ H3 y3
          | true =>
            rw [nm] at hQ
            refine ⟨.ref sa, rfl, .ref a, rfl, ix_seq (s.ex y3) (atI_nat (j := 0) rfl) ⟨sa, w, rows, c, rfl, ps.ex y3, rlen, fun H4 x4 => ⟨_, rfl, hQ H4 (y3.trans x4)⟩⟩⟩
      · rw [decide_eq_false lt] at hQ
        refine if_t (decide_eq_true (show callers ≤ c by omega)) ?_
        exact hQ H1 x1
theorem ok_called (F : FnP K "called" sCalled f fd) (TC : ThC K C) (FL : Has P w K mg base "led_to" 1 ["thing", "worth", "name"] (spLedTo C)) (FS : Has P w K mg base "served" 1 ["thing", "state"] (spServed K C)) (gt : mg "tuple" = none) (gl : mg "list" = none) : FnOk P w K mg base CX0 2 f fd ["thing", "state", "call"] (spCalled K C) := by
  refine F.ok scCalled (fun vs H Q E h => ?_) (fun cdv A outer s H vs Q E hr h => ?_)
  · obtain ⟨t, d, sa, ca, w, rows, c, n, rfl, _⟩ := h
    rfl
  · have hu := hu_of hr
    refine ⟨_, PSs.nox (pss_cons (ps_asg (pv 2) (pg_tup rfl (pgs_cons (pg_name (i := 3) scCalled.nd rfl (.inl rfl)) (pgs_cons (pg_name (i := 4) scCalled.nd rfl (.inl rfl)) pgs_nil))))
      (pss_cons (ps_set (i := 5) scCalled.nd rfl (.inl rfl) (pe_has FL hr (by decide) rfl (pa_cons (pv 0) (pa_cons (pe_ix ix_tup (pv 1) pe_int (fun _ _ => rfl)) (pa_cons (pv 4) pa_nil)))))
      (pss_cons (ps_if (pt_cmp (pc_notN (pv 5)))
        (pss_cons (ps_asg (pe_has FS hr (by decide) rfl (pa_cons (pv 0) (pa_cons (pe_tup (pa_cons (pv 5) (pa_cons (pe_ix ix_tup (pv 1) pe_int (fun _ _ => rfl)) pa_nil))) pa_nil))) (pg_tup rfl (pgs_cons (pg_name (i := 6) scCalled.nd rfl (.inl rfl)) (pgs_cons (pg_name (i := 7) scCalled.nd rfl (.inl rfl)) pgs_nil))))
        (pss_one (ps_ret (pe_tup (pa_cons (pv 6) (pa_cons (pe_op op_catA (pe_tup (pa_cons (pv 3) pa_nil)) (pe_callTy call_tuple_of rfl gt boot_tuple (pa_cons (pv 7) pa_nil))) pa_nil)))))) pss_nil)
      (pss_cons (ps_set (i := 8) scCalled.nd rfl (.inl rfl) (pe_bm PySem.F.plainAttrs_list PySem.F.slot_list_index PySem.F.type_list_index mt_index (pe_callTy (call_listD rfl) rfl gl boot_list (pa_cons (pe_fld (pv 0) rfl) pa_nil)) (pa_cons (pv 4) pa_nil)))
      (pss_one (ps_ret (pe_tup (pa_cons (pe_tup (pa_cons (pe_ix ix_tup (pv 1) pe_int (fun _ _ => rfl)) (pa_cons (pe_op op_catA (pe_op op_catA (pe_slice sl_tupA (pe_ix ix_tup (pv 1) pe_int (fun _ _ => rfl)) po_none (po_some (pv 8))) (pe_tup (pa_cons (pe_op op_catA (pe_ix ix_tup (pe_ix ix_tup (pv 1) pe_int (fun _ _ => rfl)) (pv 8) (fun _ _ => rfl)) (pe_tup (pa_cons (pv 3) pa_nil))) pa_nil)))
        (pe_slice sl_tupA (pe_ix ix_tup (pv 1) pe_int (fun _ _ => rfl)) (po_some (pe_op op_add (pv 8) pe_int)) po_none)) pa_nil))) (pa_cons (pe_tup pa_nil) pa_nil))))))))), ?_⟩
    obtain ⟨t, d, sa, ca, w, rows, c, n, rfl, th, ps, sc, way, rlen, elen, end_, small, hQ⟩ := h
    have ps0 := ps
    obtain ⟨tr, rs, e1, e2, e3⟩ := ps
    refine ⟨.ref ca, rfl, ca, _, rfl, sc, rfl, .int c, [.str n], rfl, .str n, [], rfl, rfl, ?_⟩
    refine ⟨.ref t, rfl, .ref sa, rfl, sa, _, 0, .str w, rfl, rfl, .inl (.inl e1), rfl, .str n, rfl, t, d, w, n, rfl, th, way, ?_⟩
    have x0 : ∀ {o : HO} {p : Addr} {H : Hp}, H p = none → Ex H (upd H p o) := fun n => Ex.new n
    cases eg : d.led w n with
    | some g =>
      have step : callStep d (w, rows) c n = ((serve d.ents (tot rows) g rows []).1, c :: (serve d.ents (tot rows) g rows []).2) := by
        unfold callStep
        rw [eg]
      refine ⟨.str g, rfl, true, rfl, .ref t, rfl, .str g, rfl, .ref sa, rfl, sa, _, 1, .ref tr, rfl, rfl, .inl (.inl e1), rfl, by show 2 ≤ sizeLine; decide, fun s2 ns2 => ?_⟩
      have x2 : Ex H (upd H s2 (.tup [.str g, .ref tr])) := Ex.new ns2
      refine ⟨t, s2, d, g, rows, rfl, th.ex x2, ⟨tr, rs, upd_same, x2.sqT e2, Paired.mapP e3 fun _ _ z => x2.sqT z⟩, rlen, elen, end_, small, fun p sa' gl H3 w' rows' gn x3 hp hs hgl es => ?_⟩
      have y3 := x2.trans x3
      have gln : gn.length ≤ 100 := by
        have z := serve_len (es := d.ents) (n := tot rows) (w := g) (rows := rows) (gn := [])
        rw [es] at z
        simp at z
        omega
      refine ⟨p, _, rfl, .inl (.inl hp), rfl, .ref sa', [.ref gl], rfl, .ref gl, [], rfl, rfl, ?_⟩
      refine ⟨.ref sa', rfl, .int c, rfl, by show 1 ≤ sizeLine; decide, fun q nq => ⟨.ref gl, rfl, gl, nV gn, rfl, .inl ⟨.inl (.inl ((Ex.new nq) _ _ hgl)), fun tq ntq => ?_⟩⟩⟩
      have x4 : Ex H3 (upd (upd H3 q (.tup [.int (c : Nat)])) tq (.tup (nV gn))) := (Ex.new nq).trans (Ex.new ntq)
      refine catA_go (xs := [.int (c : Nat)]) (.inl (.inl ((Ex.new ntq) _ _ upd_same))) (.inl (.inl upd_same)) (by unfold nV; rw [List.length_map, List.length_singleton]; omega) fun p6 H6 x6 s6 => ⟨by show 2 ≤ sizeLine; decide, fun p7 n7 => ?_⟩
      have x7 : Ex H6 (upd H6 p7 (.tup [.ref sa', .ref p6])) := Ex.new n7
      have y7 := (x4.trans x6).trans x7
      refine hQ p7 sa' p6 _ (y3.trans y7) upd_same ?_ ?_
      · rw [step, es]
        exact hs.ex y7
      · rw [step, es]
        exact x7.sqT s6
    | none =>
      have wy : (look d.ents n).isSome = true := by
        rcases way with ⟨l, a1, a2⟩ | ⟨_, a⟩
        · exfalso
          unfold ThD.led at eg
          rw [a1] at eg
          have eg : lookL l w = none := eg
          rw [eg] at a2
          cases a2
        · exact a
      have mem := look_mem2 wy
      obtain ⟨at1, at2⟩ := idx_at mem
      have jl := idx_lt mem
      obtain ⟨j, hj⟩ : ∃ j, (d.ents.map (·.1)).idxOf n = j := ⟨_, rfl⟩
      rw [hj] at at1 at2 jl
      rw [List.length_map] at jl
      obtain ⟨r, er⟩ : ∃ r, rows[j]? = some r := ⟨_, List.getElem?_eq_getElem (by omega)⟩
      obtain ⟨ra, era, hra⟩ := paired_get e3 er
      have jr := (List.getElem?_eq_some_iff.mp era).1
      have step : callStep d (w, rows) c n = ((w, rows.set j (r ++ [c])), []) := by
        unfold callStep putRow
        rw [eg]
        dsimp only
        rw [hj, er]
      have rsm : r.length ≤ 100 := by
        obtain ⟨pos, e⟩ := List.getElem?_eq_some_iff.mp er
        have : r.length ≤ tot rows := by
          exact tot_ge (List.mem_of_getElem? er)
        omega
      have rsl : rs.length ≤ 60 := by have := Paired.length e3; omega
      obtain ⟨dx, vt, dd, de, f1, f2, f3, ⟨es, m1, mp⟩⟩ := th
      have ek : (es.map fun kv => kV kv.1) = (d.ents.map (·.1)).map V.str := by
        rw [DD.keys mp fun _ _ r => r.1, List.map_map]
        rfl
      refine ⟨.non, rfl, false, rfl, .ref t, rfl, t, C, dx, _, .ref de, rfl, f1, TC.cls, TC.ents, rfl, de, es, rfl, .inl m1, fun b nb => ?_⟩
      rw [ek]
      have xb : Ex H (upd H b (.lst ((d.ents.map (·.1)).map V.str))) := Ex.new nb
      refine ⟨.inl ⟨rfl, _, .inl (.inl upd_same)⟩, .str n, rfl, b, _, .str n, j, .str n, rfl, rfl, .inl (.inl upd_same), rfl, flat_strs _, at1, by simp [eqV], at2, ?_⟩
      replace e1 := xb _ _ e1
      replace e2 := xb.sqT e2
      replace hra := xb.sqT hra
      replace e3 : Paired (fun a r => SqT K (upd H b (.lst ((d.ents.map (·.1)).map V.str))) a (nV r)) rs rows := Paired.mapP e3 fun _ _ z => xb.sqT z
      generalize upd H b (.lst ((d.ents.map (·.1)).map V.str)) = H0 at xb e1 e2 e3 hra ⊢
      have atr : atI (rs.map V.ref) (j : Int) = some (.ref ra) := atI_nat (by rw [List.getElem?_map, era]; rfl)
      refine ⟨.ref sa, rfl, sa, _, 0, .str w, rfl, rfl, .inl (.inl e1), rfl, .ref sa, rfl, sa, _, 1, .ref tr, rfl, rfl, .inl (.inl e1), rfl, .int j, rfl, j, rfl, slA_go e2 fun p1 H1 x1 s1 => ?_⟩
      refine ⟨.ref sa, rfl, sa, _, 1, .ref tr, rfl, rfl, .inl (.inl (x1 _ _ e1)), rfl, .int j, rfl, tr, _, j, .ref ra, rfl, rfl, x1.sqT e2, atr, .int c, rfl, by show 1 ≤ sizeLine; decide, fun q nq => ?_⟩
      have xq : Ex H1 (upd H1 q (.tup [.int (c : Nat)])) := Ex.new nq
      refine catA_go (ys := [.int (c : Nat)]) (xq.sqT (x1.sqT hra)) (.inl (.inl upd_same)) (by unfold nV; rw [List.length_map, List.length_singleton]; omega) fun p2 H2 x2 s2 => ⟨by show 1 ≤ sizeLine; decide, fun p3 n3 => ?_⟩
      have x3 : Ex H2 (upd H2 p3 (.tup [.ref p2])) := Ex.new n3
      have y3 : Ex H1 (upd H2 p3 (.tup [.ref p2])) := (xq.trans x2).trans x3
      have cl1 := cutV_length (rs.map V.ref) none (some (j : Int))
      have cl2 := cutV_length (rs.map V.ref) (some ((j : Int) + 1)) none
      rw [List.length_map] at cl1 cl2
      refine catA_go (ys := [.ref p2]) (y3.sqT s1) (.inl (.inl upd_same)) (by rw [List.length_singleton]; omega) fun p4 H4 x4 s4 => ?_
      have y4 := x1.trans (y3.trans x4)
      refine ⟨.ref sa, rfl, sa, _, 1, .ref tr, rfl, rfl, .inl (.inl (y4 _ _ e1)), rfl, .int j, rfl, j, 1, rfl, rfl, _, rfl, ?_⟩
      dsimp only [tNoPart]
      refine slA_go (y4.sqT e2) fun p5 H5 x5 s5 => ?_
      refine catA_go (x5.sqT s4) s5 (by rw [List.length_append, List.length_singleton]; omega) fun p6 H6 x6 s6 => ⟨by show 2 ≤ sizeLine; decide, fun p7 n7 => ⟨Nat.zero_le _, fun p8 n8 => ⟨by show 2 ≤ sizeLine; decide, fun p9 n9 => ?_⟩⟩⟩
      rw [set_cut rs jr] at s6
      have x7 := Ex.new (o := .tup [.str w, .ref p6]) n7
      have x8 := Ex.new (o := .tup []) n8
      have x9 := Ex.new (o := .tup [.ref p7, .ref p8]) n9
      have y6 := y4.trans (x5.trans x6)
      have y9 := (x7.trans x8).trans x9
      have z2 : SqT K H6 p2 (nV (r ++ [c])) := by
        have z : nV (r ++ [c]) = nV r ++ [.int (c : Nat)] := by
          unfold nV
          rw [List.map_append]
          rfl
        rw [z]
        exact (x3.trans (x4.trans (x5.trans x6))).sqT s2
      refine hQ p9 p7 p8 _ (xb.trans (y6.trans y9)) upd_same ?_ ?_
      · rw [step]
        exact ⟨p6, rs.set j p2, x9 _ _ (x8 _ _ upd_same), y9.sqT s6, Paired.mapP (TRl.set (H := H6) (wl := p6) (Paired.mapP e3 fun _ _ z => y6.sqT z) z2) fun _ _ z => y9.sqT z⟩
      · rw [step]
        exact .inl (.inl (x9 _ _ upd_same))
end
end TH

/-! C6: gone_on -/
namespace TH
open PySem PySem.Spec PyProof.Rows L2 LamV LamX XK0
open C8 (pss_cut tCut)
abbrev sGoneOn : Stmt := top 35
abbrev TSt := Str × Rws
abbrev Call1 := Nat × Str
def goneRun (d : ThD) : TSt → List Call1 → TSt × List (List Nat)
  | st, [] => (st, [])
  | st, (c, n) :: r => ((goneRun d (callStep d st c n).1 r).1, (callStep d st c n).2 :: (goneRun d (callStep d st c n).1 r).2)
def GoodCall (d : ThD) (k : Int) (st : TSt) (c : Nat) (n : Str) : Prop := (c : Int) < k ∧ okS n = true ∧ n ∈ d.names ∧ waits st.2 c = false
def GoodRun (d : ThD) (k : Int) : TSt → List Call1 → Prop
  | _, [] => True
  | st, (c, n) :: r => GoodCall d k st c n ∧ GoodRun d k (callStep d st c n).1 r
theorem goneRun_snoc {d : ThD} {c : Nat} {n : Str} : ∀ {cs : List Call1} {st : TSt}, goneRun d st (cs ++ [(c, n)]) = ((callStep d (goneRun d st cs).1 c n).1, (goneRun d st cs).2 ++ [(callStep d (goneRun d st cs).1 c n).2])
  | [], st => rfl
  | (c', n') :: r, st => by
    have e : ∀ xs, goneRun d st ((c', n') :: xs) = ((goneRun d (callStep d st c' n').1 xs).1, (callStep d st c' n').2 :: (goneRun d (callStep d st c' n').1 xs).2) := fun _ => rfl
    rw [List.cons_append, e, e, goneRun_snoc]
    rfl
theorem goodRun_at {d : ThD} {k : Int} {c : Nat} {n : Str} : ∀ {cs : List Call1} {st : TSt} {i : Nat}, GoodRun d k st cs → cs[i]? = some (c, n) → GoodCall d k (goneRun d st (cs.take i)).1 c n
  | [], _, i, _, e => by simp at e
  | (c', n') :: r, st, 0, h, e => by
    simp at e
    obtain ⟨rfl, rfl⟩ := e
    exact h.1
  | (c', n') :: r, st, i + 1, h, e => goodRun_at (cs := r) h.2 (by simpa using e)
theorem goodRun_snoc {d : ThD} {k : Int} {c : Nat} {n : Str} : ∀ {cs : List Call1} {st : TSt}, GoodRun d k st cs → GoodCall d k (goneRun d st cs).1 c n → GoodRun d k st (cs ++ [(c, n)])
  | [], st, _, h => ⟨h, trivial⟩
  | (c', n') :: r, st, g, h => ⟨g.1, goodRun_snoc (cs := r) g.2 h⟩
/-- a state that the thing may be in, m calls waiting at most -/
structure StOk (d : ThD) (st : TSt) (m : Nat) : Prop where
  val : st.1 ∈ d.vals
  len : st.2.length = d.ents.length
  few : tot st.2 ≤ m
theorem StOk.mono {d : ThD} {st : TSt} {m m' : Nat} (h : StOk d st m) (l : m ≤ m') : StOk d st m' := ⟨h.val, h.len, Nat.le_trans h.few l⟩
theorem firstAble_ok {d : ThD} (k : d.Ok) : ∀ {es : Lds} {rows : Rws} {w : Str} {j i : Nat} {g : Str}, (∀ e ∈ es, look d.ents e.1 = some e.2) → firstAble es rows w j = some (i, g) → g ∈ d.vals
  | e :: es, r :: rs, w, j, i, g, h, q => by
    unfold firstAble at q
    cases a : able1 e.2 w r with
    | some g' =>
      rw [a] at q
      cases q
      unfold able1 at a
      split at a
      · cases a
      · exact k.ents _ _ (h e List.mem_cons_self) _ _ a
    | none =>
      rw [a] at q
      exact firstAble_ok k (fun e m => h e (List.mem_cons_of_mem _ m)) q
  | [], _, _, _, _, _, _, q => by unfold firstAble at q; cases q
  | _ :: _, [], _, _, _, _, _, q => by unfold firstAble at q; cases q
theorem serve_ok {d : ThD} (k : d.Ok) (nd : (d.ents.map (·.1)).Nodup) : ∀ {n : Nat} {w : Str} {rows : Rws} {gn : List Nat}, w ∈ d.vals → rows.length = d.ents.length → StOk d (serve d.ents n w rows gn).1 (tot rows)
  | 0, w, rows, gn, h1, h2 => ⟨h1, h2, Nat.le_refl _⟩
  | n + 1, w, rows, gn, h1, h2 => by
    unfold serve
    cases q : firstAble d.ents rows w 0 with
    | none => exact ⟨h1, h2, Nat.le_refl _⟩
    | some ig =>
      obtain ⟨i, g⟩ := ig
      obtain ⟨_, c, r, e⟩ := firstAble_at q
      rw [Nat.sub_zero] at e
      dsimp only
      rw [e]
      have t := tot_set e
      exact (serve_ok k nd (firstAble_ok k (fun e m => look_in nd m) q) (by rw [List.length_set]; exact h2)).mono (by omega)
theorem tot_put {rows : Rws} {i c : Nat} {r : List Nat} (h : rows[i]? = some r) : tot (rows.set i (r ++ [c])) = tot rows + 1 := by
  unfold tot
  induction rows generalizing i with
  | nil => simp at h
  | cons x xs ih =>
    cases i with
    | zero =>
      simp at h
      subst h
      simp
      omega
    | succ i =>
      have := ih (i := i) (by simpa using h)
      simp only [List.set_cons_succ, List.map_cons, List.sum_cons] at this ⊢
      omega
theorem callStep_ok {d : ThD} (k : d.Ok) (nd : (d.ents.map (·.1)).Nodup) {st : TSt} {m c : Nat} {n : Str} (h : StOk d st m) : StOk d (callStep d st c n).1 (m + 1) := by
  unfold callStep
  cases q : d.led st.1 n with
  | some g => exact (serve_ok k nd (k.led h.val q) h.len).mono (by have := h.few; omega)
  | none =>
    refine ⟨h.val, ?_, ?_⟩
    · unfold putRow
      dsimp only
      split
      · rw [List.length_set]; exact h.len
      · exact h.len
    · unfold putRow
      dsimp only
      split
      · next e => rw [tot_put e]; exact Nat.succ_le_succ h.few
      · exact Nat.le_succ_of_le h.few
theorem goneRun_ok {d : ThD} (k : d.Ok) (nd : (d.ents.map (·.1)).Nodup) : ∀ {cs : List Call1} {st : TSt} {m : Nat}, StOk d st m → StOk d (goneRun d st cs).1 (m + cs.length)
  | [], _, _, h => h
  | (c, n) :: r, st, m, h => (goneRun_ok k nd (cs := r) (callStep_ok k nd (c := c) (n := n) h)).mono (by rw [List.length_cons]; omega)
def st0 (d : ThD) : TSt := (d.start, List.replicate d.ents.length [])
theorem st0_ok {d : ThD} (k : d.Ok) : StOk d (st0 d) 0 := by
  refine ⟨k.start, List.length_replicate, ?_⟩
  unfold st0 tot
  simp
theorem way_of {d : ThD} (k : d.Ok) {w n : Str} (hw : w ∈ d.vals) (hn : n ∈ d.names) : (∃ l, look d.deeds n = some l ∧ (lookL l w).isSome = true) ∨ (look d.deeds n = none ∧ (look d.ents n).isSome = true) := by
  cases q : look d.deeds n with
  | some l =>
    obtain ⟨g, _, e⟩ := k.deeds n l q w hw
    exact .inl ⟨l, rfl, by rw [e]; rfl⟩
  | none =>
    refine .inr ⟨rfl, ?_⟩
    rcases List.mem_append.mp hn with z | z
    · have := look_mem z
      rw [q] at this
      cases this
    · exact look_mem z
/-- calls in memory, each a list or a tuple -/
def CallsAt (K : PySem.W.Frag) (H : Hp) (xs : List V) (cs : List Call1) : Prop := cs.length ≤ xs.length ∧ ∀ (i c : Nat) (n : Str), cs[i]? = some (c, n) → ∃ a : Addr, xs[i]? = some (V.ref a) ∧ Sq K H a [V.int (c : Nat), V.str n]
def spGoneOnX (K : PySem.W.Frag) (C CN CB : Addr) : Sp := fun vs H Q E => ∃ (t : Addr) (d : ThD) (cv v : V), vs = [.ref t, cv, v] ∧ IsTh H C t d ∧ d.Ok ∧ d.names.length < 64 ∧ d.ents.length ≤ 60 ∧ (d.ents.map (·.1)).Nodup ∧
  ((∃ T, Kd K H cv T ∧ posV cv = false ∧ Rz E H CN [("number", cv)]) ∨
   (∃ (k : Int) (T : String), cv = .int k ∧ 1 ≤ k ∧ Kd K H v T ∧ isLt T = false ∧ Rz E H CB [("index", .int 0)]) ∨
   (∃ (k : Int) (a : Addr) (xs : List V) (cs : List Call1), cv = .int k ∧ 1 ≤ k ∧ v = .ref a ∧ Sq K H a xs ∧ cs.length ≤ 20 ∧ CallsAt K H xs cs ∧ GoodRun d k (st0 d) cs ∧
     ((xs.length = cs.length ∧ ∀ (p : Addr) (ps : List Addr) (H' : Hp), Ex H H' → H p = none → H' p = some (.lst (ps.map V.ref)) → Paired (fun a g => SqT K H' a (nV g)) ps (goneRun d (st0 d) cs).2 → Q (.ref p) H') ∨
      (∃ x, xs[cs.length]? = some x ∧ CallB K H d k (goneRun d (st0 d) cs).1.2 x false ∧ Rz E H CB [("index", .int (cs.length : Nat))]))))
section
variable {P : Program} {w : World} {K : PySem.W.Frag} {mg : Str → Option Value} {base : Heap} {f C CN CB : Addr} {fd : FuncData}
theorem scGoneOn : FnScope ["thing", "callers", "calls", "state", "found", "index", "call", "gone"] ["thing", "callers", "calls"] (defScope sGoneOn) := ⟨rfl, rfl, rfl, by decide +kernel, rfl, by decide +kernel, by decide +kernel⟩
theorem ok_gone_on (F : FnP K "gone_on" sGoneOn f fd) (TC : ThC K C) (EB : Ec1 K mg "BadCalls" "index" CB) (FC : HasX P w K mg base "check_number" 3 ["callers"] (spCheckNumX K CN)) (FL : Has P w K mg base "is_list" 1 ["thing"] (spIsList K)) (FS : Has P w K mg base "first_state" 1 ["thing", "worth"] (spFirstState K C)) (FI : Has P w K mg base "is_call" 3 ["thing", "callers", "state", "call"] (spIsCall K C)) (FD : Has P w K mg base "called" 2 ["thing", "state", "call"] (spCalled K C)) (ge : mg "enumerate" = none) : FnOk P w K mg base (L2.CX P w) 4 f fd ["thing", "callers", "calls"] (spGoneOnX K C CN CB) := by
  refine FunD.okX F scGoneOn (fun vs H Q E h => ?_) (fun cdv A outer s H vs Q E hr h => ?_)
  · obtain ⟨t, d, cv, v, rfl, _⟩ := h
    rfl
  · refine ⟨_, pss_cons (ps_expr (pe_hasX (E := E) FC hr (by decide) rfl (takes_of rfl rfl rfl rfl) (fun _ _ _ _ z => z) (pa_cons (pv 1) pa_nil)))
      (pss_cons (ps_if (pt_not (pt_val (pe_has FL hr (by decide) rfl (pa_cons (pv 2) pa_nil)))) (pss_one (ps_raise1 EB rfl (hr.mono (by decide)) (takes_of rfl rfl rfl rfl) rfl pe_int)) pss_nil)
      (pss_cons (ps_par (i := 3) (j := 4) rfl scGoneOn.nd rfl rfl (by decide) rfl rfl (pa_cons (pe_has FS hr (by decide) rfl (pa_cons (pv 0) (pa_cons (pe_fld (pv 0) rfl) pa_nil))) (pa_cons (pe_lst pa_nil) pa_nil)) rfl)
      (pss_cons (ps_for (L2.passes_of rfl) rfl (pi_enumT rfl ge (pa_cons (pv 2) pa_nil)) (pg_tup rfl (pgs_cons (pg_name (i := 5) scGoneOn.nd rfl (.inl rfl)) (pgs_cons (pg_name (i := 6) scGoneOn.nd rfl (.inl rfl)) pgs_nil)))
        (pss_cons (ps_if (pt_not (pt_val (pe_has FI hr (by decide) rfl (pa_cons (pv 0) (pa_cons (pv 1) (pa_cons (pv 3) (pa_cons (pv 6) pa_nil))))))) (pss_one (ps_raise1 EB rfl (hr.mono (by decide)) (takes_of rfl rfl rfl rfl) rfl (pv 5))) pss_nil)
        (pss_cons (ps_asg (pe_has FD hr (by decide) rfl (pa_cons (pv 0) (pa_cons (pv 3) (pa_cons (pe_tup (pa_cons (pe_ix (ix_list.or ix_tup) (pv 6) pe_int (fun _ _ => rfl)) (pa_cons (pe_ix (ix_list.or ix_tup) (pv 6) pe_int (fun _ _ => rfl)) pa_nil))) pa_nil)))) (pg_tup rfl (pgs_cons (pg_name (i := 3) scGoneOn.nd rfl (.inl rfl)) (pgs_cons (pg_name (i := 7) scGoneOn.nd rfl (.inl rfl)) pgs_nil))))
        (pss_one (ps_expr (pe_bm PySem.F.plainAttrs_list PySem.F.slot_list_append PySem.F.type_list_append mt_append (pv 4) (pa_cons (pv 7) pa_nil)))))))
      (pss_one (ps_ret (pv 4)))))), ?_⟩
    obtain ⟨t, d, cv, v, rfl, th, dk, nlen, elen, nd, h⟩ := h
    refine ⟨cv, rfl, ?_⟩
    rcases h with ⟨T, kd, np, rz⟩ | ⟨k, T, rfl, k1, kd, nl, rz⟩ | ⟨k, a, xs, cs, rfl, k1, rfl, sq, clen, cat, gr, h⟩
    · exact ⟨cv, T, rfl, kd, .inr ⟨np, rz⟩⟩
    · refine ⟨.int k, _, rfl, int_kd, .inl ⟨decide_eq_true k1, v, rfl, v, T, rfl, kd, fun H1 x1 => ⟨_, rfl, ?_⟩⟩⟩
      rw [nl]
      exact mk1_ok EB fun d n => rz _ _ x1 n
    · obtain ⟨T, kT, lT⟩ : ∃ T, Kd K H (.ref a) T ∧ isLt T = true := by
        rcases sq with sq | sq
        · exact ⟨_, sqL_kd sq, rfl⟩
        · exact ⟨_, sqT_kd sq, rfl⟩
      refine ⟨.int k, _, rfl, int_kd, .inl ⟨decide_eq_true k1, .ref a, rfl, .ref a, T, rfl, kT, fun H1 x1 => ⟨_, rfl, ?_⟩⟩⟩
      rw [lT]
      have th1 := th.ex x1
      obtain ⟨dx, vt, dd, de, f1, _⟩ := th1
      refine ⟨.ref t, rfl, .ref t, rfl, t, C, dx, _, .str d.start, rfl, f1, TC.cls, TC.start, rfl, t, d, d.start, rfl, th.ex x1, elen, fun sa H2 x2 ps => ⟨Nat.zero_le _, fun fl nfl => ⟨_, _, rfl, ?_⟩⟩⟩
      have y2 := x1.trans x2
      have x3 : Ex H2 (upd H2 fl (.lst [])) := Ex.new nfl
      refine ⟨.ref a, rfl, a, xs, H, rfl, y2.trans x3, sq, fun J ⟨G, W, gs⟩ => for_it W (fun i σ H4 => ∃ (sa : Addr) (ps : List Addr) (o5 o6 o7 : Option V), σ = [some (.ref t), some (.int k), some (.ref a), some (.ref sa), some (.ref fl), o5, o6, o7] ∧ i ≤ cs.length ∧ Ex H H4 ∧ H4 fl = some (.lst (ps.map V.ref)) ∧
          Paired (fun a g => SqT K H4 a (nV g)) ps (goneRun d (st0 d) (cs.take i)).2 ∧ PSt K H4 sa (goneRun d (st0 d) (cs.take i)).1.1 (goneRun d (st0 d) (cs.take i)).1.2)
        ⟨sa, [], _, _, _, rfl, Nat.zero_le _, y2.trans x3, upd_same, .nil, ps.ex x3⟩ (fun i σ H4 _ ⟨_, _, _, _, _, _, _, x, _⟩ => gs H4 x) (fun i v σ H4 H5 hi h5 y => ?_) fun σ H4 h4 => ?_⟩
      · obtain ⟨sa, ps, o5, o6, o7, rfl, il, x4, hfl, pr, pst⟩ := h5
        obtain ⟨tt, u, x, rfl, nt, rfl, eu, ex⟩ := y
        cases eu
        have xt : Ex H4 (upd H4 tt (.tup [.int (i : Nat), x])) := Ex.new nt
        refine ⟨tt, _, rfl, .inl (.inl upd_same), rfl, .int i, [x], rfl, x, [], rfl, rfl, ?_⟩
        have y5 := x4.trans xt
        have sok := goneRun_ok dk nd (cs := cs.take i) (st0_ok dk)
        have tl : (cs.take i).length ≤ 20 := by rw [List.length_take]; have := Nat.min_le_right i cs.length; omega
        have ex : xs[i]? = some x := ex
        by_cases ic : i < cs.length
        · obtain ⟨⟨c, n⟩, ec⟩ : ∃ q, cs[i]? = some q := ⟨_, List.getElem?_eq_getElem ic⟩
          obtain ⟨ca, eca, hca⟩ := cat.2 i c n ec
          rw [ex] at eca
          cases eca
          obtain ⟨g1, g2, g3, g4⟩ := goodRun_at gr ec
          have cb : CallB K (upd H4 tt (.tup [.int (i : Nat), .ref ca])) d k (goneRun d (st0 d) (cs.take i)).1.2 (.ref ca) true := by
            have z := CallB.int (d := d) (callers := k) (rows := (goneRun d (st0 d) (cs.take i)).1.2) (hca.ex y5) (by omega) (str_kd (K := K) (H := upd H4 tt (.tup [.int (i : Nat), .ref ca])) (x := n) (by have := okS_len g2; omega))
            rw [decide_eq_true g1, show isWd (.str n) = true from g2, show inNames d (.str n) = true from decide_eq_true g3, g4] at z
            exact z
          refine ⟨.ref t, rfl, .int k, rfl, .ref sa, rfl, .ref ca, rfl, t, d, k, sa, _, _, _, true, rfl, th.ex y5, nlen, pst.ex xt, by have := sok.len; omega, cb, fun H6 x6 => ⟨_, rfl, ?_⟩⟩
          have y6 := y5.trans x6
          refine ⟨.ref t, rfl, .ref sa, rfl, .ref ca, rfl, ix_seq (hca.ex y6) (atI_nat (j := 0) rfl) ⟨.ref ca, rfl, ix_seq (hca.ex y6) (atI_nat (j := 1) rfl) ⟨by show 2 ≤ sizeLine; decide, fun q nq => ?_⟩⟩⟩
          have xq : Ex H6 (upd H6 q (.tup [.int (c : Nat), .str n])) := Ex.new nq
          have z6 := (xt.trans x6).trans xq
          refine ⟨t, d, sa, q, _, _, c, n, rfl, th.ex (x4.trans z6), pst.ex z6, .inl (.inl upd_same), way_of dk sok.val g3, sok.len, elen, nd, by have := sok.few; omega, fun p sa' gl H7 x7 hp ps' hgl => ?_⟩
          have z7 := z6.trans x7
          refine ⟨p, _, rfl, .inl (.inl hp), rfl, .ref sa', [.ref gl], rfl, .ref gl, [], rfl, rfl, ?_⟩
          have hfl7 := z7 _ _ hfl
          have flH : H fl = none := y2.none nfl
          refine ⟨.ref fl, rfl, .inl ⟨rfl, _, .inl (.inl hfl7)⟩, .ref gl, rfl, fl, _, _, rfl, rfl, hfl7, ?_, ?_⟩
          · rw [List.length_map, Paired.length pr, sizeLine_eq]
            have : ∀ (cs : List Call1) (st : TSt), (goneRun d st cs).2.length = cs.length := fun cs => by
              induction cs with
              | nil => exact fun _ => rfl
              | cons q r ih => exact fun st => congrArg (· + 1) (ih _)
            rw [this]
            omega
          · have kp : ∀ {a : Addr} {xs : List V}, SqT K H7 a xs → SqT K (upd H7 fl (.lst (ps.map V.ref ++ [V.ref gl]))) a xs := fun s => sqT_put hfl7 (fun _ z => nomatch z) (fun _ _ z => nomatch z) s
            refine ⟨sa', ps ++ [gl], _, _, _, rfl, ic, fun b o e => (upd_ne fun z => by rw [z, flH] at e; cases e).trans ((x4.trans z7) _ _ e), by rw [upd_same, List.map_append]; rfl, ?_, ?_⟩
            · rw [List.take_add_one, ec, Option.toList_some, goneRun_snoc]
              exact paired_snoc (Paired.mapP pr fun _ _ s => kp (z7.sqT s)) (kp hgl)
            · rw [List.take_add_one, ec, Option.toList_some, goneRun_snoc]
              obtain ⟨tr, rs, p1, p2, p3⟩ := ps'
              exact ⟨tr, rs, (upd_ne fun z => by rw [z, hfl7] at p1; cases p1).trans p1, kp p2, Paired.mapP p3 fun _ _ s => kp s⟩
        · have ei : i = cs.length := by omega
          subst ei
          rcases h with ⟨e, _⟩ | ⟨x', ex', cb, rz⟩
          · have := (List.getElem?_eq_some_iff.mp ex).1
            omega
          · rw [ex] at ex'
            cases ex'
            rw [List.take_length] at pst sok
            refine ⟨.ref t, rfl, .int k, rfl, .ref sa, rfl, x, rfl, t, d, k, sa, _, _, _, false, rfl, th.ex y5, nlen, pst.ex xt, by have := sok.len; omega, cb.ex y5, fun H6 x6 => ⟨_, rfl, ?_⟩⟩
            exact ⟨.int cs.length, rfl, mk1_ok EB fun d n => rz _ _ (y5.trans x6) n⟩
      · obtain ⟨sa, ps, o5, o6, o7, rfl, il, x4, hfl, pr, pst⟩ := h4
        rcases h with ⟨e, hQ⟩ | ⟨x', ex', cb, rz⟩
        · rw [e, List.take_length] at pr
          exact ⟨.ref fl, rfl, hQ fl ps H4 x4 (y2.none nfl) hfl pr⟩
        · have := (List.getElem?_eq_some_iff.mp ex').1
          omega
end
end TH

/-! C7: calls_that_part, like_values, least_thing, where the number is bad -/
namespace TH
open PySem PySem.Spec PyProof.Rows L2 LamV LamX XK0
open C8 (pss_cut tCut)
abbrev sPart : Stmt := top 38
abbrev sLikeV : Stmt := top 40
abbrev sLeast : Stmt := top 41
def spNum2X (K : PySem.W.Frag) (CN : Addr) : Sp := fun vs H _ E => ∃ (x cv : V) (T : String), vs = [x, cv] ∧ Kd K H cv T ∧ posV cv = false ∧ Rz E H CN [("number", cv)]
def spNum3X (K : PySem.W.Frag) (CN : Addr) : Sp := fun vs H _ E => ∃ (x y cv : V) (T : String), vs = [x, y, cv] ∧ Kd K H cv T ∧ posV cv = false ∧ Rz E H CN [("number", cv)]
section
variable {P : Program} {w : World} {K : PySem.W.Frag} {mg : Str → Option Value} {base : Heap} {f C CN CB : Addr} {fd : FuncData}
theorem ok_partX (F : FnP K "calls_that_part" sPart f fd) (FC : HasX P w K mg base "check_number" 3 ["callers"] (spCheckNumX K CN)) : FnOk P w K mg base (L2.CX P w) 4 f fd ["one", "other", "callers"] (spNum3X K CN) := by
  refine FunD.okX (N := ["one", "other", "callers"]) F ⟨rfl, rfl, rfl, by decide +kernel, rfl, by decide +kernel, by decide +kernel⟩ (fun vs H Q E h => ?_) (fun cdv A outer s H vs Q E hr h => ?_)
  · obtain ⟨x, y, cv, T, rfl, _⟩ := h
    rfl
  · refine ⟨_, pss_cons (ps_expr (pe_hasX (E := E) FC hr (by decide) rfl (takes_of rfl rfl rfl rfl) (fun _ _ _ _ z => z) (pa_cons (pv 2) pa_nil))) pss_dead, ?_⟩
    obtain ⟨x, y, cv, T, rfl, kd, np, rz⟩ := h
    exact ⟨cv, rfl, cv, T, rfl, kd, .inr ⟨np, rz⟩⟩
theorem ok_likeX (F : FnP K "like_values" sLikeV f fd) (FC : HasX P w K mg base "check_number" 3 ["callers"] (spCheckNumX K CN)) : FnOk P w K mg base (L2.CX P w) 4 f fd ["thing", "callers"] (spNum2X K CN) := by
  refine FunD.okX (N := ["thing", "callers"]) F ⟨rfl, rfl, rfl, by decide +kernel, rfl, by decide +kernel, by decide +kernel⟩ (fun vs H Q E h => ?_) (fun cdv A outer s H vs Q E hr h => ?_)
  · obtain ⟨x, cv, T, rfl, _⟩ := h
    rfl
  · refine ⟨_, pss_cons (ps_expr (pe_hasX (E := E) FC hr (by decide) rfl (takes_of rfl rfl rfl rfl) (fun _ _ _ _ z => z) (pa_cons (pv 1) pa_nil))) pss_dead, ?_⟩
    obtain ⟨x, cv, T, rfl, kd, np, rz⟩ := h
    exact ⟨cv, rfl, cv, T, rfl, kd, .inr ⟨np, rz⟩⟩
theorem ok_leastX (F : FnP K "least_thing" sLeast f fd) (FC : HasX P w K mg base "check_number" 3 ["callers"] (spCheckNumX K CN)) : FnOk P w K mg base (L2.CX P w) 4 f fd ["thing", "callers"] (spNum2X K CN) := by
  refine FunD.okX (N := ["thing", "callers", "coming", "firsts", "lot", "some", "kept", "deeds", "entries", "name", "lead"]) F ⟨rfl, rfl, rfl, by decide +kernel, rfl, by decide +kernel, by decide +kernel⟩ (fun vs H Q E h => ?_) (fun cdv A outer s H vs Q E hr h => ?_)
  · obtain ⟨x, cv, T, rfl, _⟩ := h
    rfl
  · refine ⟨_, pss_cons (ps_expr (pe_hasX (E := E) FC hr (by decide) rfl (takes_of rfl rfl rfl rfl) (fun _ _ _ _ z => z) (pa_cons (pv 1) pa_nil))) pss_dead, ?_⟩
    obtain ⟨x, cv, T, rfl, kd, np, rz⟩ := h
    exact ⟨cv, rfl, cv, T, rfl, kd, .inr ⟨np, rz⟩⟩
end
end TH

/-! C8: the law's states; _law_begin, _law_waits, _law_calls -/
namespace TH
open PySem PySem.Spec PyProof.Rows L2 LamV LamX XK0
open C8 (pss_cut tCut)
abbrev sBegin : Stmt := top 52
abbrev sWaits : Stmt := top 53
abbrev sCalls : Stmt := top 54
abbrev LRows := List (Str × List Nat)
def rowV (rl : LRows) (n : Str) : List Nat := ((rl.find? fun e => decide (e.1 = n)).map (·.2)).getD []
def LR (H : Hp) (rd : Addr) (rl : LRows) : Prop := ∃ kvs : List (Key × V), H rd = some (.dK kvs) ∧ Paired (fun (e : Str × List Nat) (kv : Key × V) => kv.1 = Sum.inr e.1 ∧ ∃ b, kv.2 = .ref b ∧ H b = some (.lst (nV e.2))) rl kvs
theorem LR.ex {H H' : Hp} {rd : Addr} {rl : LRows} (x : Ex H H') (h : LR H rd rl) : LR H' rd rl := by
  obtain ⟨kvs, e, p⟩ := h
  exact ⟨kvs, x _ _ e, Paired.mapP p fun _ _ ⟨e1, b, e2, e3⟩ => ⟨e1, b, e2, x _ _ e3⟩⟩
/-- .. of lists that were not there at H0, each its own -/
def LRf (P : Addr → Prop) (H : Hp) (rd : Addr) (rl : LRows) : Prop := ∃ kvs : List (Key × V), H rd = some (.dK kvs) ∧ Paired (fun (e : Str × List Nat) (kv : Key × V) => kv.1 = Sum.inr e.1 ∧ ∃ b, kv.2 = .ref b ∧ P b ∧ H b = some (.lst (nV e.2))) rl kvs ∧ (kvs.map (·.2)).Nodup
theorem LRf.lr {P : Addr → Prop} {H : Hp} {rd : Addr} {rl : LRows} (h : LRf P H rd rl) : LR H rd rl := by
  obtain ⟨kvs, e, p, _⟩ := h
  exact ⟨kvs, e, Paired.mapP p fun _ _ ⟨e1, b, e2, _, e3⟩ => ⟨e1, b, e2, e3⟩⟩
theorem LRf.ex {P : Addr → Prop} {H H' : Hp} {rd : Addr} {rl : LRows} (x : Ex H H') (h : LRf P H rd rl) : LRf P H' rd rl := by
  obtain ⟨kvs, e, p, vn⟩ := h
  exact ⟨kvs, x _ _ e, Paired.mapP p fun _ _ ⟨e1, b, e2, e0, e3⟩ => ⟨e1, b, e2, e0, x _ _ e3⟩, vn⟩
/-- the same, its lists told by P -/
def LSf (P : Addr → Prop) (H : Hp) (sa : Addr) (w : Str) (rl : LRows) : Prop := ∃ rd, H sa = some (.tup [.str w, .ref rd]) ∧ LRf P H rd rl
def LS (H : Hp) (sa : Addr) (w : Str) (rl : LRows) : Prop := ∃ rd, H sa = some (.tup [.str w, .ref rd]) ∧ LR H rd rl
theorem LSf.ls {P : Addr → Prop} {H : Hp} {sa : Addr} {w : Str} {rl : LRows} (h : LSf P H sa w rl) : LS H sa w rl := by
  obtain ⟨rd, e, p⟩ := h
  exact ⟨rd, e, p.lr⟩
theorem LSf.chg {P : Addr → Prop} {H H' : Hp} {sa : Addr} {w : Str} {rl : LRows} (h : LSf P H sa w rl) (n : ∀ b o, H b = some o → (∀ xs, o ≠ .lst xs) → (∀ ps, o ≠ .tbl ps) → H' b = some o) (k : ∀ b xs, P b → H b = some (.lst xs) → H' b = some (.lst xs)) : LSf P H' sa w rl := by
  obtain ⟨rd, e, kvs, e1, p, vn⟩ := h
  exact ⟨rd, n _ _ e (fun _ z => nomatch z) (fun _ z => nomatch z), kvs, n _ _ e1 (fun _ z => nomatch z) (fun _ z => nomatch z), Paired.mapP p fun _ _ ⟨a1, b, a2, a3, a4⟩ => ⟨a1, b, a2, a3, k _ _ a3 a4⟩, vn⟩
theorem LSf.imp {P P' : Addr → Prop} {H : Hp} {sa : Addr} {w : Str} {rl : LRows} (h : LSf P H sa w rl) (i : ∀ b xs, P b → H b = some (.lst xs) → P' b) : LSf P' H sa w rl := by
  obtain ⟨rd, e, kvs, e1, p, vn⟩ := h
  exact ⟨rd, e, kvs, e1, Paired.mapP p fun _ _ ⟨a1, b, a2, a3, a4⟩ => ⟨a1, b, a2, i _ _ a3 a4, a4⟩, vn⟩
theorem LS.ex {H H' : Hp} {sa : Addr} {w : Str} {rl : LRows} (x : Ex H H') (h : LS H sa w rl) : LS H' sa w rl := by
  obtain ⟨rd, e, p⟩ := h
  exact ⟨rd, x _ _ e, p.ex x⟩
theorem LR.keys {H : Hp} {rl : LRows} {kvs : List (Key × V)} (p : Paired (fun (e : Str × List Nat) (kv : Key × V) => kv.1 = Sum.inr e.1 ∧ ∃ b, kv.2 = .ref b ∧ H b = some (.lst (nV e.2))) rl kvs) : kvs.map (·.1) = (rl.map (·.1)).map Sum.inr := by
  induction p with
  | nil => rfl
  | cons r _ ih =>
    simp only [List.map_cons] at ih ⊢
    rw [r.1, ih]
theorem rowV_val {H : Hp} {rl : LRows} {kvs : List (Key × V)} (p : Paired (fun (e : Str × List Nat) (kv : Key × V) => kv.1 = Sum.inr e.1 ∧ ∃ b, kv.2 = .ref b ∧ H b = some (.lst (nV e.2))) rl kvs) {n : Str} (h : n ∈ rl.map (·.1)) : ∃ b, valV kvs (Sum.inr n) = some (.ref b) ∧ H b = some (.lst (nV (rowV rl n))) := by
  induction p with
  | nil => cases h
  | @cons e kv rl kvs r _ ih =>
    obtain ⟨r1, b, r2, r3⟩ := r
    unfold rowV
    rw [List.find?_cons]
    by_cases z : e.1 = n
    · rw [decide_eq_true z]
      refine ⟨b, ?_, r3⟩
      obtain ⟨k, v⟩ := kv
      rw [← r2]
      exact valV_pos (r1.trans (congrArg Sum.inr z))
    · rw [decide_eq_false z]
      rcases List.mem_cons.mp h with q | q
      · exact absurd q.symm z
      · obtain ⟨b', e1, e2⟩ := ih q
        refine ⟨b', ?_, e2⟩
        obtain ⟨k, v⟩ := kv
        rw [valV_neg fun q => z (Sum.inr.inj (r1.symm.trans q))]
        exact e1
theorem find_mem {e : Str × List Nat} : ∀ {rl : LRows}, (rl.map (·.1)).Nodup → e ∈ rl → rl.find? (fun q => decide (q.1 = e.1)) = some e
  | [], _, m => by cases m
  | q :: r, nd, m => by
    have nd' := List.nodup_cons.mp nd
    rw [List.find?_cons]
    rcases List.mem_cons.mp m with z | z
    · rw [← z, decide_eq_true rfl]
    · have ne : ¬ q.1 = e.1 := fun y => nd'.1 (List.mem_map.mpr ⟨e, z, y.symm⟩)
      rw [decide_eq_false ne]
      exact find_mem nd'.2 z
theorem rowV_mem {e : Str × List Nat} {rl : LRows} (nd : (rl.map (·.1)).Nodup) (m : e ∈ rl) : rowV rl e.1 = e.2 := by
  unfold rowV
  rw [find_mem nd m]
  rfl
theorem keysS_nd {ks : List Str} (h : ks.Nodup) : (ks.map (Sum.inr : Str → Key)).Nodup := List.pairwise_map.mpr (List.Pairwise.imp (fun z q => z (Sum.inr.inj q)) h)
/-- dict([(n, a new list) for n in d]) -/
theorem rows_go {K : PySem.W.Frag} {σ : L2.St} {i : Nat} {td tv : TE} {es : List (Key × V)} {d : Addr} {H : Hp} {Q : VK} {rl : LRows} (hd : H d = some (.dK es)) (ek : es.map (·.1) = (rl.map (·.1)).map Sum.inr) (nd : (rl.map (·.1)).Nodup) (len : rl.length ≤ 100) (si : i < σ.length)
    (htd : ∀ od Q, Q (V.ref d) (upd H d (.frz od (.dK es))) → td σ (upd H d (.frz od (.dK es))) Q)
    (htv : ∀ od H2 Q, ∀ e ∈ rl, Ex (upd H d (.frz od (.dK es))) H2 → (∀ b H3, Ex H2 H3 → H2 b = none → H3 b = some (.lst (nV e.2)) → Q (V.ref b) H3) → tv ((wipe σ [i]).set i (some (.str e.1))) H2 Q)
    (hQ : ∀ p H', Ex H H' → H p = none → LRf (fun b => H b = none) H' p rl → Q (V.ref p) H') : tCB (rDictP K) (tCons (tLockE (tLc (iKeys td) (gName i) tYes (tTup (tCons (tVar i) (tCons tv tNil))) [i])) tNil) σ H Q := by
  refine ⟨d, _, hd, trivial, fun od => htd od _ ⟨d, od, rfl, .inl ⟨es, upd_same, fun D nD => ?_⟩⟩⟩
  have x0 : Ex (upd H d (.frz od (.dK es))) (upd (upd H d (.frz od (.dK es))) D (.lst [])) := Ex.new nD
  have eln : es.length = rl.length := by
    have := congrArg List.length ek
    simpa using this
  refine lc_it walk_keys (fun n H2 => Ex (upd H d (.frz od (.dK es))) H2 ∧ ∃ (ps : List Addr) (kvs : List (Key × V)), H2 D = some (.lst (ps.map V.ref)) ∧ ps.length = n ∧ Paired (fun p (kv : Key × V) => H2 p = some (.tup [kV kv.1, kv.2])) ps kvs ∧ Paired (fun (e : Str × List Nat) (kv : Key × V) => kv.1 = Sum.inr e.1 ∧ ∃ b, kv.2 = .ref b ∧ b ≠ D ∧ H b = none ∧ H2 b = some (.lst (nV e.2))) (rl.take n) kvs ∧ (kvs.map (·.2)).Nodup)
    ⟨x0, [], [], upd_same, rfl, .nil, .nil, .nil⟩ (fun n H2 _ h => h.1 _ _ upd_same) (fun n v H2 H3 hn h y => ?_) fun H2 h => ?_
  · obtain ⟨x2, ps, kvs, hD, pl, p1, p2, vn⟩ := h
    obtain ⟨rfl, k, u, ek2, rfl⟩ := y
    have nl : n < rl.length := by omega
    obtain ⟨e, ee⟩ : ∃ e, rl[n]? = some e := ⟨_, List.getElem?_eq_getElem nl⟩
    have ke : k = Sum.inr e.1 := by
      have z := congrArg (·[n]?) ek
      simp only [List.getElem?_map, ek2, ee, Option.map_some] at z
      exact Option.some.inj z
    subst ke
    refine ⟨by show ((σ.set i none).set i _).set i none = σ.set i none; rw [List.set_set, List.set_set], ?_⟩
    refine ⟨.str e.1, List.getElem?_set_self (by rw [wipe_length]; exact si), htv od H3 _ e (List.mem_of_getElem? ee) x2 fun b H4 x4 nb hb => ⟨by show 2 ≤ sizeLine; decide, fun p np => ?_⟩⟩
    have hD4 := x4 _ _ hD
    have pD : p ≠ D := fun z => by rw [z, hD4] at np; cases np
    have bD : b ≠ D := fun z => by rw [z, hD] at nb; cases nb
    have nbH : H b = none := by
      have z := x2.none nb
      by_cases q : b = d
      · rw [q, upd_same] at z; cases z
      · rw [upd_ne q] at z; exact z
    have xp : Ex H4 (upd H4 p (.tup [.str e.1, .ref b])) := Ex.new np
    refine ⟨ps.map V.ref, xp _ _ hD4, by rw [sizeLine_eq, List.length_map]; omega, fun c o eo => (upd_ne fun z => by rw [z, nD] at eo; cases eo).trans (xp _ _ (x4 _ _ (x2 _ _ eo))), ps ++ [p], kvs ++ [(Sum.inr e.1, .ref b)], by rw [upd_same, List.map_append]; rfl, by rw [List.length_append, pl]; rfl, ?_, ?_, ?_⟩
    · refine paired_app (Paired.mapP p1 fun a kv ea => ?_) ((upd_ne pD).trans upd_same)
      have e5 := xp _ _ (x4 _ _ ea)
      exact (upd_ne fun z => by rw [z, xp _ _ hD4] at e5; cases e5).trans e5
    · rw [List.take_add_one, ee]
      refine paired_app (Paired.mapP p2 fun a kv ⟨r1, b', r2, r3, r0, r4⟩ => ⟨r1, b', r2, r3, r0, (upd_ne r3).trans (xp _ _ (x4 _ _ r4))⟩) ⟨rfl, b, rfl, bD, nbH, (upd_ne bD).trans (xp _ _ hb)⟩
    · rw [List.map_append]
      refine List.nodup_append.mpr ⟨vn, by simp, fun y my z mz q => ?_⟩
      rw [List.mem_singleton.mp mz] at q
      obtain ⟨kv, mk, rfl⟩ := List.mem_map.mp my
      obtain ⟨j, ej⟩ := List.getElem?_of_mem mk
      obtain ⟨e', _, _, b', r2, _, _, r4⟩ := paired_get p2 ej
      rw [q] at r2
      cases r2
      rw [r4] at nb
      cases nb
  · obtain ⟨x2, ps, kvs, hD, pl, p1, p2, vn⟩ := h
    have hde := x2 _ _ upd_same
    have xu : Ex H (upd H2 d (.dK es)) := Ex.unlock hd x2
    have nde : ∀ {a : Addr} {o : HO}, H2 a = some o → o ≠ .frz od (.dK es) → a ≠ d := fun e n z => n (by rw [z, hde] at e; exact (Option.some.inj e).symm)
    rw [eln, List.take_length] at p2
    refine ⟨hde, D, ps, kvs, rfl, .inl (.inl ((upd_ne (nde hD fun z => nomatch z)).trans hD)), Paired.mapP p1 fun a kv ea => .inl (.inl ((upd_ne (nde ea fun z => nomatch z)).trans ea)), fun p np => ?_⟩
    have kk := LR.keys (H := H2) (Paired.mapP p2 fun _ _ ⟨r1, b, r2, _, _, r3⟩ => ⟨r1, b, r2, r3⟩)
    have mm : mergeK [] kvs = kvs := merge_nd _ _ (by rw [List.nil_append, kk]; exact keysS_nd nd)
    rw [mm]
    refine hQ p _ (xu.trans (Ex.new np)) (xu.none np) ⟨kvs, upd_same, Paired.mapP p2 fun a kv ⟨r1, b, r2, _, r0, r3⟩ => ⟨r1, b, r2, r0, (Ex.new np) _ _ ((upd_ne (nde r3 fun z => nomatch z)).trans r3)⟩, vn⟩
def spBegin : Sp := fun vs H Q _ => ∃ (pt : Addr) (d : ThD) (w : Str), vs = [.ref pt, .str w] ∧ IsPt H pt d ∧ (d.ents.map (·.1)).Nodup ∧ d.ents.length ≤ 60 ∧ ∀ (p : Addr) (H' : Hp), Ex H H' → H p = none → LSf (fun b => H b = none) H' p w (d.ents.map fun e => (e.1, [])) → Q (.ref p) H'
def lwaits (rl : LRows) (c : Int) : Bool := rl.any fun e => inV (.int c) (nV e.2)
def spWaits : Sp := fun vs H Q _ => ∃ (sa : Addr) (w : Str) (rl : LRows) (c : Int), vs = [.ref sa, .int c] ∧ LS H sa w rl ∧ (rl.map (·.1)).Nodup ∧ rl.length ≤ 60 ∧ ∀ H', Ex H H' → Q (.bl (lwaits rl c)) H'
section
variable {P : Program} {w : World} {K : PySem.W.Frag} {mg : Str → Option Value} {base : Heap} {f C CN : Addr} {fd : FuncData}
theorem scBegin : FnScope ["_law_parts", "_law_worth", "_law_entry"] ["_law_parts", "_law_worth"] (defScope sBegin) := ⟨rfl, rfl, rfl, by decide +kernel, rfl, by decide +kernel, by decide +kernel⟩
theorem scWaits : FnScope ["_law_state", "_law_caller", "_law_entry"] ["_law_state", "_law_caller"] (defScope sWaits) := ⟨rfl, rfl, rfl, by decide +kernel, rfl, by decide +kernel, by decide +kernel⟩
theorem ok_begin (F : FnP K "_law_begin" sBegin f fd) (gd : mg "dict" = none) : FnOk P w K mg base CX0 1 f fd ["_law_parts", "_law_worth"] spBegin := by
  refine F.ok scBegin (fun vs H Q E h => ?_) (fun cdv A outer s H vs Q E hr h => ?_)
  · obtain ⟨pt, d, w, rfl, _⟩ := h
    rfl
  · refine ⟨_, PSs.nox (pss_one (ps_ret (pe_tup (pa_cons (pv 1) (pa_cons (pe_callTy (call_dictPK rfl) rfl gd boot_dict (pa_cons (pe_lock (pe_lc (te := tTup (tCons (tVar 2) (tCons (tLst tNil) tNil))) (own := [("_law_entry", 2)]) rfl scBegin.nd (pi_keys (pe_ix ix_tup (pv 0) pe_int (fun _ _ => rfl))) (blkOk_by (by kernel_rfl)) (fun s H C cl fp => pg_name (i := 2) scBegin.nd rfl (.inl rfl) (.inr rfl)) (fun s H C cl fp => pts_nil)
        (fun s H C cl fp => pe_tup (pa_cons (pv 2) (pa_cons (pe_lst pa_nil) pa_nil))))) pa_nil)) pa_nil))))), ?_⟩
    obtain ⟨pt, d, w, rfl, ip, nd, elen, hQ⟩ := h
    obtain ⟨vl, dd, de, e1, e2, ⟨ks, k1, kp⟩, ⟨es, m1, mp⟩⟩ := ip
    have ek : es.map (·.1) = ((d.ents.map fun e => ((e.1, []) : Str × List Nat)).map (·.1)).map Sum.inr := by
      rw [PR.keys mp, List.map_map, List.map_map, List.map_map]
      rfl
    have ptd : pt ≠ de := fun z => by rw [z, m1] at e1; cases e1
    refine ⟨.str w, rfl, rows_go (rl := d.ents.map fun e => (e.1, [])) m1 ek (by rw [List.map_map]; exact nd) (by rw [List.length_map]; omega) (by show 2 < 3; decide) (fun od Q q => ⟨.ref pt, rfl, pt, _, 3, .ref de, rfl, rfl, .inl (.inl ((upd_ne ptd).trans e1)), rfl, q⟩) (fun od H2 Q e m x q => ?_) fun p H2 x2 np lr => ⟨by show 2 ≤ sizeLine; decide, fun p2 np2 => ?_⟩⟩
    · refine ⟨Nat.zero_le _, fun b nb => q b _ (Ex.new nb) nb ?_⟩
      obtain ⟨u, _, rfl⟩ := List.mem_map.mp m
      exact upd_same
    · exact hQ p2 _ (x2.trans (Ex.new np2)) (x2.none np2) ⟨p, upd_same, lr.ex (Ex.new np2)⟩
theorem ok_waits (F : FnP K "_law_waits" sWaits f fd) (ga : mg "any" = none) : FnOk P w K mg base CX0 1 f fd ["_law_state", "_law_caller"] spWaits := by
  refine F.ok scWaits (fun vs H Q E h => ?_) (fun cdv A outer s H vs Q E hr h => ?_)
  · obtain ⟨sa, w, rl, c, rfl, _⟩ := h
    rfl
  · have hu := hu_of hr
    refine ⟨_, PSs.nox (pss_one (ps_ret (pe_callB (cr_any rfl) rfl ga boot_any (pa_cons (pe_lock (pe_lc (te := tOp (rIn K false) (tVar 1) (tDGet (tOp (rIxT K) (tVar 0) (tC (.int 1))) (tVar 2))) (own := [("_law_entry", 2)]) rfl scWaits.nd (pi_keys (pe_ix ix_tup (pv 0) pe_int (fun _ _ => rfl))) (blkOk_by (by kernel_rfl)) (fun s H C cl fp => pg_name (i := 2) scWaits.nd rfl (.inl rfl) (.inr rfl)) (fun s H C cl fp => pts_nil)
        (fun s H C cl fp => pe_cmpR (op_in_seqK (K := K) rfl) (pv 1) (pe_dget hu (pe_ix ix_tup (pv 0) pe_int (fun _ _ => rfl)) (pv 2) (fun _ _ => rfl)) (by with_unfolding_all rfl)))) pa_nil)))), ?_⟩
    obtain ⟨sa, w, rl, c, rfl, ⟨rd, s1, kvs, s2, pr⟩, nd, len, hQ⟩ := h
    refine ⟨rd, _, s2, trivial, fun od => ?_⟩
    have sne : sa ≠ rd := fun z => by rw [z, s2] at s1; cases s1
    have s1' : upd H rd (.frz od (.dK kvs)) sa = some (.tup [.str w, .ref rd]) := (upd_ne sne).trans s1
    refine ⟨.ref sa, rfl, sa, _, 1, .ref rd, rfl, rfl, .inl (.inl s1'), rfl, rd, od, rfl, .inl ⟨kvs, upd_same, fun D nD => ?_⟩⟩
    have kln : kvs.length = rl.length := (Paired.length pr).symm
    refine lc_it walk_keys (fun n H2 => Ex (upd H rd (.frz od (.dK kvs))) H2 ∧ H2 D = some (.lst (((rl.take n).map fun e => inV (.int c) (nV e.2)).map V.bl))) ⟨Ex.new nD, upd_same⟩ (fun n H2 _ h => h.1 _ _ upd_same) (fun n v H2 H3 hn h y => ?_) fun H2 h => ?_
    · obtain ⟨x2, hD⟩ := h
      obtain ⟨rfl, k, v2, ek, rfl⟩ := y
      obtain ⟨e, ee, r1, b, r2, r3⟩ := paired_get pr ek
      have r1 : k = Sum.inr e.1 := r1
      subst r1
      obtain ⟨b', vb, hb⟩ := rowV_val pr (List.mem_map_of_mem (f := (·.1)) (List.mem_of_getElem? ee))
      have ev := rowV_mem nd (List.mem_of_getElem? ee)
      rw [ev] at hb
      have bne : b' ≠ rd := fun z => by rw [z, s2] at hb; cases hb
      have hb3 := x2 _ _ ((upd_ne bne).trans hb)
      refine ⟨rfl, .int c, rfl, .ref sa, rfl, sa, _, 1, .ref rd, rfl, rfl, .inl (.inl (x2 _ _ s1')), rfl, .str e.1, rfl, rd, .ref b', rfl, .inl ⟨kvs, Sum.inr e.1, .inr ⟨od, x2 _ _ upd_same⟩, rfl, vb.symm⟩, b', nV e.2, rfl, .inl (.inl (.inl hb3)), rfl, nV_flat e.2, ?_⟩
      refine ⟨_, hD, by rw [sizeLine_eq, List.length_map, List.length_map, List.length_take]; have := Nat.min_le_right n rl.length; omega, fun b o e => (upd_ne fun z => by rw [z, nD] at e; cases e).trans (x2 _ _ e), ?_⟩
      rw [upd_same, List.take_add_one, ee, Option.toList_some, List.map_append, List.map_append]
      rfl
    · obtain ⟨x2, hD⟩ := h
      have hrd := x2 _ _ upd_same
      have xu : Ex H (upd H2 rd (.dK kvs)) := Ex.unlock s2 x2
      rw [kln, List.take_length] at hD
      refine ⟨hrd, D, _, rfl, .inl (.inl ((upd_ne fun z => by rw [z, hrd] at hD; cases hD).trans hD)), ?_⟩
      have q := hQ _ xu
      unfold lwaits at q
      rw [List.any_map]
      exact q
end
end TH

/-! C9: _law_calls -/
namespace TH
open PySem PySem.Spec PyProof.Rows L2 LamV LamX XK0
open C8 (pss_cut tCut)
/-- calls in memory, each a new pair -/
def CTs (H : Hp) (ps : List Addr) (cs : List Call1) : Prop := Paired (fun a (q : Call1) => H a = some (.tup [.int (q.1 : Nat), .str q.2])) ps cs
theorem CTs.exL {H H' : Hp} {ps : List Addr} {cs : List Call1} (x : ExL H H') (h : CTs H ps cs) : CTs H' ps cs := Paired.mapP h fun _ _ e => x _ _ e fun _ z => nomatch z
def MayCall (d : ThD) (rl : LRows) (k : Nat) (q : Call1) : Prop := q.1 < k ∧ q.2 ∈ d.names ∧ lwaits rl q.1 = false
def spCalls : Sp := fun vs H Q _ => ∃ (pt sa : Addr) (d : ThD) (w : Str) (rl : LRows) (k : Nat), vs = [.ref pt, .ref sa, .int k] ∧ IsPt H pt d ∧ LS H sa w rl ∧ (rl.map (·.1)).Nodup ∧ rl.length ≤ 60 ∧ d.names.length ≤ 10 ∧ k ≤ 10 ∧
  ∀ (p : Addr) (ps : List Addr) (cs : List Call1) (H' : Hp), Ex H H' → H p = none → H' p = some (.lst (ps.map V.ref)) → CTs H' ps cs → (∀ q ∈ cs, MayCall d rl k q) → cs.length ≤ 100 → Q (.ref p) H'
theorem paired_apps {α β : Type} {R : α → β → Prop} : ∀ {l l' : List α} {r r' : List β}, Paired R l r → Paired R l' r' → Paired R (l ++ l') (r ++ r')
  | _, _, _, _, .nil, h => h
  | _, _, _, _, .cons x q, h => .cons x (paired_apps q h)
section
variable {P : Program} {w : World} {K : PySem.W.Frag} {mg : Str → Option Value} {base : Heap} {f C CN : Addr} {fd : FuncData}
theorem scCalls : FnScope ["_law_parts", "_law_state", "_law_callers", "_law_found", "_law_caller", "_law_name"] ["_law_parts", "_law_state", "_law_callers"] (defScope sCalls) := ⟨rfl, rfl, rfl, by decide +kernel, rfl, by decide +kernel, by decide +kernel⟩
theorem ok_calls (F : FnP K "_law_calls" sCalls f fd) (FN : Has P w K mg base "_law_names" 1 ["_law_parts"] spNames) (FW : Has P w K mg base "_law_waits" 1 ["_law_state", "_law_caller"] spWaits) (gr : mg "range" = none) : FnOk P w K mg base CX0 2 f fd ["_law_parts", "_law_state", "_law_callers"] spCalls := by
  refine F.ok scCalls (fun vs H Q E h => ?_) (fun cdv A outer s H vs Q E hr h => ?_)
  · obtain ⟨pt, sa, d, w, rl, k, rfl, _⟩ := h
    rfl
  · have hu := hu_of hr
    refine ⟨_, PSs.nox (pss_cons (ps_set (i := 3) scCalls.nd rfl (.inl rfl) (pe_lst pa_nil))
      (pss_cons (ps_for PassesOwn.never rfl (pi_range1 rfl gr (pa_cons (pv 2) pa_nil)) (pg_name (i := 4) scCalls.nd rfl (.inr rfl))
        (pss_one (ps_expr (pe_bm PySem.F.plainAttrs_list PySem.F.slot_list_extend PySem.F.type_list_extend mt_extend (pv 3) (pa_cons (pe_ifExp (pt_not (pt_val (pe_has FW hr (by decide) rfl (pa_cons (pv 1) (pa_cons (pv 4) pa_nil)))))
          (pe_lc (te := tTup (tCons (tVar 4) (tCons (tVar 5) tNil))) (own := [("_law_name", 5)]) rfl scCalls.nd (pi_list (pe_has FN hr (by decide) rfl (pa_cons (pv 0) pa_nil))) (blkOk_by (by kernel_rfl)) (fun s H C cl fp => pg_name (i := 5) scCalls.nd rfl (.inl rfl) (.inr rfl)) (fun s H C cl fp => pts_nil)
            (fun s H C cl fp => pe_tup (pa_cons (pv 4) (pa_cons (pv 5) pa_nil))))
          (pe_lst pa_nil)) pa_nil)))))
      (pss_one (ps_ret (pv 3))))), ?_⟩
    obtain ⟨pt, sa, d, w, rl, k, rfl, ip, ls, nd, rlen, nlen, k10, hQ⟩ := h
    refine ⟨Nat.zero_le _, fun fl nfl => ?_⟩
    refine ⟨.int k, rfl, k, rfl, by omega, by omega, for_range (lo := 0) (n := k) (fun i σ H2 => ∃ (o4 : Option V) (ps : List Addr) (cs : List Call1), σ = [some (.ref pt), some (.ref sa), some (.int k), some (.ref fl), o4, none] ∧ Ex H H2 ∧ H2 fl = some (.lst (ps.map V.ref)) ∧ CTs H2 ps cs ∧ (∀ q ∈ cs, MayCall d rl k q) ∧ cs.length ≤ i * 10)
      ⟨_, [], [], rfl, Ex.new nfl, upd_same, .nil, fun q m => (nomatch m), Nat.le_refl _⟩ (fun i σ H2 hi h => ?_) fun σ H2 h => ?_⟩
    · obtain ⟨o4, ps, cs, rfl, x2, hfl, ct, ok, cl⟩ := h
      rw [Int.zero_add]
      have pl : ps.length = cs.length := Paired.length ct
      have flH : ∀ {b : Addr} {o : HO}, H b = some o → b ≠ fl := fun e z => by rw [z, nfl] at e; cases e
      refine ⟨.ref fl, rfl, .inl ⟨rfl, _, .inl (.inl hfl)⟩, .ref sa, rfl, .int i, rfl, sa, w, rl, i, rfl, ls.ex x2, nd, rlen, fun H3 x3 => ⟨_, rfl, ?_⟩⟩
      have y3 := x2.trans x3
      have hfl3 := x3 _ _ hfl
      cases wt : lwaits rl (i : Int) with
      | true =>
        refine ⟨Nat.zero_le _, fun b nb => ?_⟩
        have xb : Ex H3 (upd H3 b (.lst [])) := Ex.new nb
        refine ⟨fl, b, _, [], rfl, rfl, xb _ _ hfl3, upd_same, by rw [sizeLine_eq, List.length_map, List.length_nil]; omega, ?_⟩
        rw [List.append_nil]
        exact ⟨_, ps, cs, rfl, fun c o e => (upd_ne (flH e)).trans ((y3.trans xb) _ _ e), upd_same, (ct.exL (x3.trans xb).exL).exL (ExL.upd (xb _ _ hfl3)), ok, by omega⟩
      | false =>
        refine ⟨.ref pt, rfl, pt, d, rfl, ip.ex y3, by omega, fun p ys H4 x4 np hp pm so => ⟨p, rfl, ⟨_, .inl (.inl hp)⟩, fun D nD => ?_⟩⟩
        have hfl4 := x4 _ _ hfl3
        have yln : ys.length ≤ 10 := by rw [pm.length_eq]; exact nlen
        refine lc_it (walk_list (xs := ys.map V.str)) (fun n H5 => Ex H4 H5 ∧ ∃ qs : List Addr, H5 D = some (.lst (qs.map V.ref)) ∧ CTs H5 qs ((ys.take n).map fun y => (i, y))) ⟨Ex.new nD, [], upd_same, .nil⟩ (fun n H5 _ h => .inl (.inl (h.1 _ _ hp))) (fun n v H5 H6 hn h y => ?_) fun H5 h => ?_
        · obtain ⟨x5, qs, hD, cq⟩ := h
          obtain ⟨rfl, ev⟩ := y
          rw [List.getElem?_map] at ev
          obtain ⟨z, ez, rfl⟩ := Option.map_eq_some_iff.mp ev
          refine ⟨rfl, .int i, rfl, .str z, rfl, by show 2 ≤ sizeLine; decide, fun q nq => ?_⟩
          have xq : Ex H6 (upd H6 q (.tup [.int (i : Nat), .str z])) := Ex.new nq
          have qD : q ≠ D := fun z => by rw [z, hD] at nq; cases nq
          have ql : qs.length ≤ 10 := by
            have := Paired.length cq
            rw [List.length_map, List.length_take] at this
            have := Nat.min_le_right n ys.length
            omega
          refine ⟨qs.map V.ref, xq _ _ hD, by rw [sizeLine_eq, List.length_map]; omega, fun b o e => (upd_ne fun z => by rw [z, nD] at e; cases e).trans (xq _ _ (x5 _ _ e)), qs ++ [q], by rw [upd_same, List.map_append]; rfl, ?_⟩
          rw [List.take_add_one, ez, Option.toList_some, List.map_append]
          exact paired_app ((cq.exL xq.exL).exL (ExL.upd (xq _ _ hD))) ((upd_ne qD).trans upd_same)
        · obtain ⟨x5, qs, hD, cq⟩ := h
          rw [List.length_map, List.take_length] at cq
          have ql : qs.length = ys.length := by rw [Paired.length cq, List.length_map]
          refine ⟨fl, D, _, _, rfl, rfl, x5 _ _ hfl4, hD, by rw [sizeLine_eq, List.length_map, List.length_map]; omega, ?_⟩
          have y5 := x3.trans (x4.trans x5)
          refine ⟨_, ps ++ qs, cs ++ ys.map fun y => (i, y), rfl, fun c o e => (upd_ne (flH e)).trans ((x2.trans y5) _ _ e), by rw [upd_same, List.map_append], paired_apps ((ct.exL y5.exL).exL (ExL.upd (y5 _ _ hfl))) (cq.exL (ExL.upd (y5 _ _ hfl))), fun q m => ?_, by rw [List.length_append, List.length_map]; omega⟩
          rcases List.mem_append.mp m with m | m
          · exact ok q m
          · obtain ⟨y, my, rfl⟩ := List.mem_map.mp m
            exact ⟨hi, pm.mem_iff.mp my, wt⟩
    · obtain ⟨o4, ps, cs, rfl, x2, hfl, ct, ok, cl⟩ := h
      exact ⟨.ref fl, rfl, hQ fl ps cs H2 x2 nfl hfl ct ok (by omega)⟩
end
end TH

/-! C10: the law's rows, plainly -/
namespace TH
open PySem PySem.Spec PyProof.Rows L2 LamV LamX XK0
open C8 (pss_cut tCut)
def ableD (es : Lds) (g : Str → List Nat) (w : Str) : Lds := es.filter fun e => (able1 e.2 w (g e.1)).isSome
def Rof (es : Lds) (g : Str → List Nat) : Rws := es.map fun e => g e.1
theorem fa_none : ∀ {es : Lds} {g : Str → List Nat} {w : Str} {j : Nat}, ableD es g w = [] → firstAble es (Rof es g) w j = none
  | [], _, _, _, _ => rfl
  | e :: es, g, w, j, h => by
    show (match able1 e.2 w (g e.1) with
      | some g' => some (j, g')
      | none => firstAble es (Rof es g) w (j + 1)) = none
    unfold ableD at h
    cases q : able1 e.2 w (g e.1) with
    | some v =>
      rw [List.filter_cons_of_pos (by rw [q]; rfl)] at h
      cases h
    | none =>
      rw [List.filter_cons_of_neg (by rw [q]; simp)] at h
      exact fa_none h
theorem fa_some : ∀ {es : Lds} {g : Str → List Nat} {w : Str} {j : Nat} {e : Str × Ld} {r : Lds}, ableD es g w = e :: r → ∃ i v, firstAble es (Rof es g) w j = some (j + i, v) ∧ es[i]? = some e ∧ able1 e.2 w (g e.1) = some v
  | x :: es, g, w, j, e, r, h => by
    have u : firstAble (x :: es) (Rof (x :: es) g) w j = (match able1 x.2 w (g x.1) with
      | some g' => some (j, g')
      | none => firstAble es (Rof es g) w (j + 1)) := rfl
    unfold ableD at h
    cases q : able1 x.2 w (g x.1) with
    | some v =>
      rw [List.filter_cons_of_pos (by rw [q]; rfl)] at h
      cases h
      rw [q] at u
      exact ⟨0, v, u, rfl, q⟩
    | none =>
      rw [List.filter_cons_of_neg (by rw [q]; simp)] at h
      obtain ⟨i, v, e1, e2, e3⟩ := fa_some (j := j + 1) h
      rw [q] at u
      exact ⟨i + 1, v, u.trans (by rw [e1, show j + 1 + i = j + (i + 1) by omega]), e2, e3⟩
  | [], _, _, _, _, _, h => by cases h
def setR (rl : LRows) (n : Str) (r : List Nat) : LRows := rl.map fun e => if e.1 = n then (e.1, r) else e
theorem setR_keys (rl : LRows) (n : Str) (r : List Nat) : (setR rl n r).map (·.1) = rl.map (·.1) := by
  unfold setR
  rw [List.map_map]
  refine List.map_congr_left fun e _ => ?_
  show (if e.1 = n then (e.1, r) else e).1 = e.1
  split <;> rfl
theorem setR_row {n : Str} {r : List Nat} (m : Str) : ∀ {rl : LRows}, n ∈ rl.map (·.1) → rowV (setR rl n r) m = if m = n then r else rowV rl m
  | e :: rl, h => by
    have u : rowV (e :: rl) m = if e.1 = m then e.2 else rowV rl m := by
      unfold rowV
      rw [List.find?_cons]
      by_cases z : e.1 = m
      · rw [decide_eq_true z, if_pos z]; rfl
      · rw [decide_eq_false z, if_neg z]
    have u2 : rowV (setR (e :: rl) n r) m = if e.1 = m then (if e.1 = n then r else e.2) else rowV (setR rl n r) m := by
      have : setR (e :: rl) n r = (if e.1 = n then (e.1, r) else e) :: setR rl n r := rfl
      rw [this]
      unfold rowV
      rw [List.find?_cons]
      by_cases y : e.1 = n
      · rw [if_pos y, if_pos y]
        by_cases z : e.1 = m
        · rw [decide_eq_true z, if_pos z]; rfl
        · rw [decide_eq_false z, if_neg z]
      · rw [if_neg y, if_neg y]
        by_cases z : e.1 = m
        · rw [decide_eq_true z, if_pos z]; rfl
        · rw [decide_eq_false z, if_neg z]
    rw [u2, u]
    by_cases z : e.1 = m
    · rw [if_pos z, if_pos z, z]
    · rw [if_neg z, if_neg z]
      by_cases q : n ∈ rl.map (·.1)
      · exact setR_row m q
      · have ne : e.1 = n := by
          rcases List.mem_cons.mp h with y | y
          · exact y.symm
          · exact absurd y q
        have : setR rl n r = rl := by
          unfold setR
          refine (List.map_congr_left fun p mp => ?_).trans (List.map_id _)
          exact if_neg fun (y : p.1 = n) => q (List.mem_map.mpr ⟨p, mp, y⟩)
        rw [this, if_neg fun y => z (ne.trans y.symm)]
theorem Rof_set {es : Lds} {g : Str → List Nat} {r : List Nat} : ∀ {i : Nat} {e : Str × Ld}, (es.map (·.1)).Nodup → es[i]? = some e → (Rof es g).set i r = Rof es fun m => if m = e.1 then r else g m := by
  induction es with
  | nil => exact fun _ h => by simp at h
  | cons x xs ih =>
    intro i e nd h
    have nd' := List.nodup_cons.mp nd
    cases i with
    | zero =>
      simp at h
      subst h
      show r :: Rof xs g = (if x.1 = x.1 then r else g x.1) :: Rof xs fun m => if m = x.1 then r else g m
      rw [if_pos rfl]
      refine congrArg _ (List.map_congr_left fun p mp => ?_)
      exact (if_neg fun y => nd'.1 (List.mem_map.mpr ⟨p, mp, y⟩)).symm
    | succ i =>
      have h : xs[i]? = some e := by simpa using h
      show g x.1 :: (Rof xs g).set i r = (if x.1 = e.1 then r else g x.1) :: Rof xs fun m => if m = e.1 then r else g m
      rw [if_neg fun y => nd'.1 (List.mem_map.mpr ⟨e, List.mem_of_getElem? h, y.symm⟩), ih nd'.2 h]
theorem Rof_congr {es : Lds} {g g' : Str → List Nat} (h : ∀ m, m ∈ es.map (·.1) → g m = g' m) : Rof es g = Rof es g' := List.map_congr_left fun e me => h e.1 (List.mem_map_of_mem me)
/-! ### in memory -/
abbrev RelR (P : Addr → Prop) (H : Hp) (e : Str × List Nat) (kv : Key × V) : Prop := kv.1 = Sum.inr e.1 ∧ ∃ b, kv.2 = .ref b ∧ P b ∧ H b = some (.lst (nV e.2))
theorem pair_other {P : Addr → Prop} {H : Hp} {b : Addr} {n : Str} {r : List Nat} {o : HO} {rl : LRows} {kvs : List (Key × V)} (p : Paired (RelR P H) rl kvs) (h1 : ∀ kv ∈ kvs, kv.2 ≠ .ref b) (h2 : n ∉ rl.map (·.1)) : Paired (RelR P (upd H b o)) (setR rl n r) kvs := by
  induction p with
  | nil => exact .nil
  | @cons e kv rl kvs x q ih =>
    obtain ⟨x1, b', x2, x3, x4⟩ := x
    have e1 : setR (e :: rl) n r = e :: setR rl n r := by
      show (if e.1 = n then (e.1, r) else e) :: setR rl n r = _
      rw [if_neg fun (y : e.1 = n) => h2 (List.mem_map.mpr ⟨e, List.mem_cons_self, y⟩)]
    rw [e1]
    exact .cons ⟨x1, b', x2, x3, (upd_ne fun y => h1 kv List.mem_cons_self (by rw [x2, y])).trans x4⟩ (ih (fun kv m => h1 kv (List.mem_cons_of_mem _ m)) fun m => h2 (List.mem_cons_of_mem _ m))
theorem valV_mem {kvs : List (Key × V)} {k : Key} {v : V} (h : valV kvs k = some v) : v ∈ kvs.map (·.2) := by
  induction kvs with
  | nil => cases h
  | cons p r ih =>
    obtain ⟨k', v'⟩ := p
    by_cases z : k' = k
    · rw [valV_pos z] at h
      cases h
      exact List.mem_cons_self
    · rw [valV_neg z] at h
      exact List.mem_cons_of_mem _ (ih h)
theorem pair_set {P : Addr → Prop} {H : Hp} {b : Addr} {n : Str} {r : List Nat} {rl : LRows} {kvs : List (Key × V)} (p : Paired (RelR P H) rl kvs) : (rl.map (·.1)).Nodup → (kvs.map (·.2)).Nodup → valV kvs (Sum.inr n) = some (.ref b) → Paired (RelR P (upd H b (.lst (nV r)))) (setR rl n r) kvs := by
  induction p with
  | nil => exact fun _ _ h => by cases h
  | @cons e kv rl kvs x q ih =>
    intro nd vn h
    have nd' := List.nodup_cons.mp nd
    have vn' := List.nodup_cons.mp vn
    obtain ⟨x1, b', x2, x3, x4⟩ := x
    obtain ⟨k, v⟩ := kv
    have x1 : k = Sum.inr e.1 := x1
    have x2 : v = .ref b' := x2
    subst x1 x2
    by_cases y : e.1 = n
    · rw [valV_pos (congrArg Sum.inr y)] at h
      cases h
      have e1 : setR (e :: rl) n r = (e.1, r) :: setR rl n r := by
        show (if e.1 = n then (e.1, r) else e) :: setR rl n r = _
        rw [if_pos y]
      rw [e1]
      exact .cons ⟨rfl, b, rfl, x3, upd_same⟩ (pair_other q (fun kv m z => vn'.1 (z ▸ List.mem_map_of_mem (f := (·.2)) m)) (y ▸ nd'.1))
    · rw [valV_neg fun z => y (Sum.inr.inj z)] at h
      have e1 : setR (e :: rl) n r = e :: setR rl n r := by
        show (if e.1 = n then (e.1, r) else e) :: setR rl n r = _
        rw [if_neg y]
      rw [e1]
      have mb := valV_mem h
      exact .cons ⟨rfl, b', rfl, x3, (upd_ne fun z => vn'.1 (by rw [← z] at mb; exact mb)).trans x4⟩ (ih nd'.2 vn'.2 h)
theorem LRf.get {P : Addr → Prop} {H : Hp} {rd : Addr} {rl : LRows} {n : Str} (h : LRf P H rd rl) (nd : (rl.map (·.1)).Nodup) (m : n ∈ rl.map (·.1)) : ∃ b, DGet H rd (.str n) (some (.ref b)) ∧ H b = some (.lst (nV (rowV rl n))) ∧ P b ∧ ∀ r, LRf P (upd H b (.lst (nV r))) rd (setR rl n r) := by
  obtain ⟨kvs, e, p, vn⟩ := h
  obtain ⟨b, vb, hb⟩ := rowV_val (H := H) (Paired.mapP p fun _ _ ⟨e1, b, e2, _, e3⟩ => ⟨e1, b, e2, e3⟩) m
  have fb : P b := by
    obtain ⟨kv, mk, ek⟩ := List.mem_map.mp (valV_mem vb)
    obtain ⟨j, ej⟩ := List.getElem?_of_mem mk
    obtain ⟨e', _, _, b', r2, r3, _⟩ := paired_get p ej
    rw [ek] at r2
    cases r2
    exact r3
  refine ⟨b, vb ▸ DGet.k (k := Sum.inr n) e, hb, fb, fun r => ⟨kvs, (upd_ne fun z => by rw [z, hb] at e; cases e).trans e, pair_set p nd vn vb, vn⟩⟩
theorem LRf.imp {P P' : Addr → Prop} {H : Hp} {rd : Addr} {rl : LRows} (h : LRf P H rd rl) (i : ∀ b xs, P b → H b = some (.lst xs) → P' b) : LRf P' H rd rl := by
  obtain ⟨kvs, e, p, vn⟩ := h
  exact ⟨kvs, e, Paired.mapP p fun _ _ ⟨e1, b, e2, e0, e3⟩ => ⟨e1, b, e2, i b _ e0 e3, e3⟩, vn⟩
def entL (d : ThD) (n : Str) : Ld := (look d.ents n).getD []
/-- the Thing's entries, of the parts' -/
structure OrdE (d d' : ThD) (ms : List Str) : Prop where
  pm : ms.Perm (d.ents.map (·.1))
  so : sortedS ms = true
  ents : d'.ents = ms.map fun n => (n, ordL d.vals (entL d n))
  led : ∀ v n, d'.led v n = d.led v n
  look : ∀ n v, lookL (ordL d.vals (entL d n)) v = lookL (entL d n) v
theorem ord_E {d d' : ThD} (ft : d.Fit) (h : IsOrd d d') : ∃ ms, OrdE d d' ms := by
  have led := ord_led ft h
  obtain ⟨ns, ms, p1, s1, p2, s2, rfl⟩ := h
  refine ⟨ms, p2, s2, rfl, led, fun n v => ordL_look ft.vnd (fun q m => ?_) v⟩
  unfold entL at m
  cases e : TH.look d.ents n with
  | none => rw [e] at m; cases m
  | some l =>
    rw [e] at m
    obtain ⟨p, mp, e1, rfl⟩ := look_some e
    exact ((ft.eok p mp).2.2.1 q m).1
def ableN (d : ThD) (rl : LRows) (w : Str) (ms : List Str) : List Str := ms.filter fun n => (able1 (entL d n) w (rowV rl n)).isSome
theorem able_same {d d' : ThD} {ms : List Str} (E : OrdE d d' ms) (rl : LRows) (w : Str) : ableD d'.ents (rowV rl) w = (ableN d rl w ms).map fun n => (n, ordL d.vals (entL d n)) := by
  unfold ableD ableN
  rw [E.ents, List.filter_map]
  congr 1
  refine List.filter_congr fun n _ => ?_
  show (able1 (ordL d.vals (entL d n)) w (rowV rl n)).isSome = _
  unfold able1
  rw [E.look]
end TH

/-! C11: _law_after -/
namespace TH
open PySem PySem.Spec PyProof.Rows L2 LamV LamX XK0
open C8 (pss_cut tCut)
abbrev sAfter : Stmt := top 51
abbrev rSortD : List V → Hp → VK → Prop := fun xs H Q => ∃ (a : Addr) (kvs : List (Key × V)) (ks : List Str), xs = [.ref a] ∧ Rd H a (.dK kvs) ∧ kvs.map (·.1) = ks.map Sum.inr ∧ ks.length < 64 ∧
    ∀ ys p, ys.Perm ks → sortedS ys = true → H p = none → Q (.ref p) (upd H p (.lst (ys.map V.str)))
abbrev rLstOf (K : PySem.W.Frag) : List V → Hp → VK → Prop := fun xs H Q => ∃ p ys, xs = [.ref p] ∧ (SqL K H p ys ∨ SqT K H p ys) ∧ ∀ l, H l = none → Q (.ref l) (upd H l (.lst ys))
theorem cr_sortD {X : Cx} (hc : X.calm = true) : CallR X (.builtin "sorted") rSortD := call_sortedD hc
theorem call_listK {X : Cx} {K : PySem.W.Frag} (h : X.K = K) : CallR X (.type "list") (rLstOf K) := h ▸ call_list_of
theorem op_neDK {X : Cx} {K : PySem.W.Frag} (h : X.K = K) (hu : X.A.units + 64 < cLine) : OpR X (compareOp .NotEq) (rNeD K) := h ▸ op_neD hu
theorem ix_tupK {X : Cx} {K : PySem.W.Frag} (h : X.K = K) : IxR X (rIxT K) := h ▸ ix_tup
abbrev tAble (K : PySem.W.Frag) : TE := tLc (iList K (tCB rSortD (tCons (tVar 4) tNil))) (gName 10) (tAnd (tTest (tOp (rNeD K) (tDGet (tVar 4) (tVar 10)) (tLst tNil))) (tB (tDIn (tVar 3) (tDGet (tOp (rIxT K) (tVar 0) (tC (.int 3))) (tVar 10))))) (tVar 10) [10]
theorem able1_some (l : Ld) (w : Str) (r : List Nat) : (able1 l w r).isSome = (!decide (r = []) && (lookL l w).isSome) := by
  unfold able1
  by_cases h : r = []
  · rw [if_pos h, decide_eq_true h]; rfl
  · rw [if_neg h, decide_eq_false h]; rfl
theorem able_go {K : PySem.W.Frag} {o1 o2 o5 o6 o7 o8 o9 : Option V} {H : Hp} {Q : VK} {pt rd : Addr} {d d' : ThD} {ms : List Str} {w : Str} {rl : LRows} {P : Addr → Prop} (ip : IsPt H pt d) (lr : LRf P H rd rl) (keys : rl.map (·.1) = d.ents.map (·.1)) (nd : (d.ents.map (·.1)).Nodup) (elen : d.ents.length ≤ 60) (E : OrdE d d' ms)
    (hQ : ∀ p H', Ex H H' → H p = none → H' p = some (.lst ((ableN d rl w ms).map V.str)) → Q (.ref p) H') :
    tAble K [some (.ref pt), o1, o2, some (.str w), some (.ref rd), o5, o6, o7, o8, o9, none] H Q := by
  obtain ⟨kvs, s2, pr, vn⟩ := id lr
  have kk := LR.keys (H := H) (Paired.mapP pr fun _ _ ⟨r1, b, r2, _, r3⟩ => ⟨r1, b, r2, r3⟩)
  refine ⟨.ref rd, rfl, rd, kvs, rl.map (·.1), rfl, .inl s2, kk, by rw [List.length_map]; have := congrArg List.length keys; simp only [List.length_map] at this; omega, fun ys p pm so np => ?_⟩
  obtain rfl : ys = ms := sorted_one so E.so ((keys ▸ pm).trans E.pm.symm)
  have xp : Ex H (upd H p (.lst (ys.map V.str))) := Ex.new np
  have hp : upd H p (.lst (ys.map V.str)) p = some (.lst (ys.map V.str)) := upd_same
  generalize upd H p (.lst (ys.map V.str)) = H1 at xp hp ⊢
  refine ⟨p, rfl, ⟨_, .inl (.inl hp)⟩, fun D nD => ?_⟩
  have mlen : ys.length ≤ 60 := by rw [E.pm.length_eq, List.length_map]; exact elen
  refine lc_it (walk_list (xs := ys.map V.str)) (fun n H2 => Ex H1 H2 ∧ H2 D = some (.lst (((ys.take n).filter fun n => (able1 (entL d n) w (rowV rl n)).isSome).map V.str))) ⟨Ex.new nD, upd_same⟩ (fun n H2 _ h => .inl (.inl (h.1 _ _ hp))) (fun n v H2 H3 hn h y => ?_) fun H2 h => ?_
  · obtain ⟨x2, hD⟩ := h
    obtain ⟨rfl, ev⟩ := y
    rw [List.getElem?_map] at ev
    obtain ⟨z, ez, rfl⟩ := Option.map_eq_some_iff.mp ev
    have y2 := xp.trans x2
    have mz : z ∈ d.ents.map (·.1) := E.pm.mem_iff.mp (List.mem_of_getElem? ez)
    obtain ⟨b, dg, hb, _, _⟩ := (lr.ex y2).get (keys ▸ nd) (keys ▸ mz)
    refine ⟨rfl, .ref rd, rfl, .str z, rfl, rd, .ref b, rfl, dg, Nat.zero_le _, fun e ne => ?_⟩
    have xe : Ex H3 (upd H3 e (.lst [])) := Ex.new ne
    refine ⟨.list (((rowV rl z).map fun (c : Nat) => (c : Int)).map PyData.int), .list [], .lst (.inl (.inl (xe _ _ hb))) (ints_map (rowV rl z) ▸ dp_ints _), .lst (.inl (.inl upd_same)) .nil, shaped_ints _, rfl, _, rfl, ?_⟩
    have eqv : PyData.eqv (.list (((rowV rl z).map fun (c : Nat) => (c : Int)).map PyData.int)) (.list []) = decide (rowV rl z = []) := by
      rw [eqv_nilI]
      cases rowV rl z <;> rfl
    rw [eqv]
    have fin : ∀ {H4 : Hp}, Ex H3 H4 → (able1 (entL d z) w (rowV rl z)).isSome = false → Ex H1 H4 ∧ H4 D = some (.lst (((ys.take (n + 1)).filter fun n => (able1 (entL d n) w (rowV rl n)).isSome).map V.str)) := fun x q => by
      refine ⟨x2.trans x, ?_⟩
      rw [List.take_add_one, ez, Option.toList_some, List.filter_append, List.filter_cons_of_neg (by simpa using q), List.filter_nil, List.append_nil]
      exact x _ _ hD
    have as := able1_some (entL d z) w (rowV rl z)
    cases er : decide (rowV rl z = []) with
    | true =>
      rw [er] at as
      exact fin xe as
    | false =>
      rw [er] at as
      obtain ⟨vl, dd, de, f1, f2, f3, ⟨es, m1, mp⟩⟩ := ip.ex (y2.trans xe)
      rcases look_val mp z with ⟨b1, b2⟩ | ⟨l, b, b1, b2, b3⟩
      · have := look_mem mz
        rw [b1] at this
        cases this
      · have el : entL d z = l := by unfold entL; rw [b1]; rfl
        rw [el] at as
        refine ⟨.str w, rfl, .ref pt, rfl, pt, _, 3, .ref de, rfl, rfl, .inl (.inl f1), rfl, .str z, rfl, de, .ref b, rfl, b2 ▸ DGet.k (k := Sum.inr z) m1, b, _, rfl, DGet.k (k := Sum.inr w) b3, _, rfl, ?_⟩
        rw [lookL_val]
        cases q : lookL l w with
        | none =>
          rw [q] at as
          exact fin xe (by rw [el]; exact as)
        | some g =>
          rw [q] at as
          have hD4 := xe _ _ hD
          refine ⟨.str z, rfl, _, hD4, by rw [sizeLine_eq, List.length_map]; have := List.length_filter_le (fun n => (able1 (entL d n) w (rowV rl n)).isSome) (ys.take n); have t := List.length_take (l := ys) (i := n); have := Nat.min_le_right n ys.length; omega, fun c o eo => (upd_ne fun q => by rw [q, nD] at eo; cases eo).trans (xe _ _ (x2 _ _ eo)), ?_⟩
          rw [upd_same, List.take_add_one, ez, Option.toList_some, List.filter_append, List.filter_cons_of_pos (by rw [el]; exact as), List.filter_nil, List.map_append]
          rfl
  · obtain ⟨x2, hD⟩ := h
    rw [List.length_map, List.take_length] at hD
    exact hQ D H2 (xp.trans x2) (xp.none nD) hD
theorem LRf.put {P : Addr → Prop} {H : Hp} {rd gl : Addr} {rl : LRows} {xs : List V} {o : HO} (h : LRf P H rd rl) (hg : H gl = some (.lst xs)) (i : ∀ b, P b → b ≠ gl) : LRf P (upd H gl o) rd rl := by
  obtain ⟨kvs, e, p, vn⟩ := h
  exact ⟨kvs, (upd_ne fun z => by rw [z, hg] at e; cases e).trans e, Paired.mapP p fun _ _ ⟨e1, b, e2, e0, e3⟩ => ⟨e1, b, e2, e0, (upd_ne (i b e0)).trans e3⟩, vn⟩
theorem seq_asg {te : TE} {g : TG} {b : TS} {D : Ends} {σ : L2.St} {H : Hp} (h : te σ H fun x H1 => g x σ H1 (b D)) : tSeq (tAsg te g) b D σ H := h
theorem one_asg {te : TE} {g : TG} {D : Ends} {σ : L2.St} {H : Hp} (h : te σ H fun x H1 => g x σ H1 D.nx) : tAsg te g D σ H := h
def spAfter : Sp := fun vs H Q _ => ∃ (pt sa ca : Addr) (d d' : ThD) (ms : List Str) (w n : Str) (c : Nat) (rl : LRows), vs = [.ref pt, .ref sa, .ref ca] ∧ IsPt H pt d ∧ OrdE d d' ms ∧ LS H sa w rl ∧ rl.map (·.1) = d.ents.map (·.1) ∧ (d.ents.map (·.1)).Nodup ∧ d.ents.length ≤ 60 ∧
  H ca = some (.tup [.int (c : Nat), .str n]) ∧ ((∃ l, look d.deeds n = some l ∧ (lookL l w).isSome = true) ∨ (look d.deeds n = none ∧ (look d.ents n).isSome = true)) ∧ (∀ n ∈ d.ents.map (·.1), PyData.canLay0 (.str n) = true) ∧ tot (Rof d'.ents (rowV rl)) ≤ 100 ∧
  ∀ (p sa' gl : Addr) (H' : Hp) (rl' : LRows), Ex H H' → H gl = none → H' p = some (.tup [.ref sa', .ref gl]) → LSf (fun b => H b = none) H' sa' (callStep d' (w, Rof d'.ents (rowV rl)) c n).1.1 rl' → rl'.map (·.1) = d.ents.map (·.1) → Rof d'.ents (rowV rl') = (callStep d' (w, Rof d'.ents (rowV rl)) c n).1.2 →
    H' gl = some (.lst (nV (callStep d' (w, Rof d'.ents (rowV rl)) c n).2)) → Q (.ref p) H'
/-- at each turn of the while -/
def AfI (H : Hp) (d d' : ThD) (ms : List Str) (pt sa ca rd gl : Addr) (c : Nat) (n g0 : Str) (R0 : Rws) (m : Nat) (σ : L2.St) (H2 : Hp) : Prop := ∃ (w7 : Str) (rl7 : LRows) (gn : List Nat) (al : Addr), σ = [some (.ref pt), some (.ref sa), some (.ref ca), some (.str w7), some (.ref rd), some (.int c), some (.str n), some (.str g0), some (.ref gl), some (.ref al), none] ∧
  Ex H H2 ∧ LRf (fun b => H b = none ∧ b ≠ gl) H2 rd rl7 ∧ rl7.map (·.1) = d.ents.map (·.1) ∧ H2 gl = some (.lst (nV (c :: gn))) ∧ H2 al = some (.lst ((ableN d rl7 w7 ms).map V.str)) ∧ al ≠ gl ∧ tot (Rof d'.ents (rowV rl7)) + gn.length = tot R0 ∧
  serve d'.ents (tot R0) g0 R0 [] = serve d'.ents (tot (Rof d'.ents (rowV rl7))) w7 (Rof d'.ents (rowV rl7)) gn ∧ m = tot (Rof d'.ents (rowV rl7))
section
variable {P : Program} {w : World} {K : PySem.W.Frag} {mg : Str → Option Value} {base : Heap} {f C CN : Addr} {fd : FuncData}
theorem scAfter : FnScope ["_law_parts", "_law_state", "_law_call", "_law_worth", "_law_rows", "_law_caller", "_law_name", "_law_goal", "_law_gone", "_law_able", "_law_entry"] ["_law_parts", "_law_state", "_law_call"] (defScope sAfter) := ⟨rfl, rfl, rfl, by decide +kernel, rfl, by decide +kernel, by decide +kernel⟩
theorem ok_after (F : FnP K "_law_after" sAfter f fd) (FL : Has P w K mg base "_law_led" 1 ["_law_parts", "_law_worth", "_law_name"] spLed) (gd : mg "dict" = none) (gl : mg "list" = none) (gs : mg "sorted" = none) : FnOk P w K mg base CX0 2 f fd ["_law_parts", "_law_state", "_law_call"] spAfter := by
  refine F.ok scAfter (fun vs H Q E h => ?_) (fun cdv A outer s H vs Q E hr h => ?_)
  · obtain ⟨pt, sa, ca, d, d', ms, w, n, c, rl, rfl, _⟩ := h
    rfl
  · have hu := hu_of hr
    refine ⟨_, PSs.nox (pss_cons (ps_asg (pv 1) (pg_tup rfl (pgs_cons (pg_name (i := 3) scAfter.nd rfl (.inr rfl)) (pgs_cons (pg_name (i := 4) scAfter.nd rfl (.inr rfl)) pgs_nil))))
      (pss_cons (ps_asg (pv 2) (pg_tup rfl (pgs_cons (pg_name (i := 5) scAfter.nd rfl (.inl rfl)) (pgs_cons (pg_name (i := 6) scAfter.nd rfl (.inl rfl)) pgs_nil))))
      (pss_cons (ps_set (i := 4) scAfter.nd rfl (.inr rfl) (pe_callTy (call_dictPK rfl) rfl gd boot_dict (pa_cons (pe_lock (pe_lc (te := tTup (tCons (tVar 10) (tCons (tCB (rLstOf K) (tCons (tDGet (tVar 4) (tVar 10)) tNil)) tNil))) (own := [("_law_entry", 10)]) rfl scAfter.nd (pi_keys (pv 4)) (blkOk_by (by kernel_rfl)) (fun s H C cl fp => pg_name (i := 10) scAfter.nd rfl (.inl rfl) (.inr rfl)) (fun s H C cl fp => pts_nil)
          (fun s H C cl fp => pe_tup (pa_cons (pv 10) (pa_cons (pe_callTy (call_listK (K := K) rfl) rfl gl boot_list (pa_cons (pe_dget hu (pv 4) (pv 10) (fun _ _ => rfl)) pa_nil)) pa_nil))))) pa_nil)))
      (pss_cons (ps_set (i := 7) scAfter.nd rfl (.inl rfl) (pe_has FL hr (by decide) rfl (pa_cons (pv 0) (pa_cons (pv 3) (pa_cons (pv 6) pa_nil)))))
      (pss_cons (ps_if (pt_cmp (pc_isN (pv 7)))
        (pss_cons (ps_expr (pe_bm PySem.F.plainAttrs_list PySem.F.slot_list_append PySem.F.type_list_append mt_append (pe_dget hu (pv 4) (pv 6) (fun _ _ => rfl)) (pa_cons (pv 5) pa_nil)))
        (pss_one (ps_ret (pe_tup (pa_cons (pe_tup (pa_cons (pv 3) (pa_cons (pv 4) pa_nil))) (pa_cons (pe_lst pa_nil) pa_nil)))))) pss_nil)
      (pss_cons (ps_asg (pe_tup (pa_cons (pv 7) (pa_cons (pe_lst (pa_cons (pv 5) pa_nil)) pa_nil))) (pg_tup rfl (pgs_cons (pg_name (i := 3) scAfter.nd rfl (.inr rfl)) (pgs_cons (pg_name (i := 8) scAfter.nd rfl (.inl rfl)) pgs_nil))))
      (pss_cons (ps_setLc (i := 9) (te := tVar 10) (tt := tAnd (tTest (tOp (rNeD K) (tDGet (tVar 4) (tVar 10)) (tLst tNil))) (tB (tDIn (tVar 3) (tDGet (tOp (rIxT K) (tVar 0) (tC (.int 3))) (tVar 10))))) (own := [("_law_entry", 10)]) rfl scAfter.nd rfl rfl (sw_true rfl rfl rfl rfl) (pi_list (pe_callB (cr_sortD rfl) rfl gs boot_sorted (pa_cons (pv 4) pa_nil))) (blkOk_by (by kernel_rfl)) (fun s H C cl fp => pg_name (i := 10) scAfter.nd rfl (.inl rfl) (.inr rfl))
          (fun s H C cl fp => pts_one (PW.pt (pw_and (pt_cmpR (op_neDK (K := K) rfl hr.units) (pe_dget hu (pv 4) (pv 10) (fun _ _ => rfl)) (pe_lst pa_nil) (nomark _)) (pw_and1 (pt_cmp (pc_din hu (pv 3) (pe_dget hu (pe_ix (ix_tupK (K := K) rfl) (pv 0) pe_int (fun _ _ => rfl)) (pv 10) (fun _ _ => rfl)))))))) (fun s H C cl fp => pv 10))
      (pss_cons (ps_while PassesOwn.never (pt_cmpR (op_neD hr.units) (pv 9) (pe_lst pa_nil) (nomark _))
        (pss_cons (ps_expr (pe_bm PySem.F.plainAttrs_list PySem.F.slot_list_append PySem.F.type_list_append mt_append (pv 8) (pa_cons (pe_bm PySem.F.plainAttrs_list PySem.F.slot_list_pop PySem.F.type_list_pop mt_popAt (pe_dget hu (pv 4) (pe_ix ix_list (pv 9) pe_int (fun _ _ => rfl)) (fun _ _ => rfl)) (pa_cons pe_int pa_nil)) pa_nil)))
        (pss_cons (ps_set (i := 3) scAfter.nd rfl (.inr rfl) (pe_dget hu (pe_dget hu (pe_ix ix_tup (pv 0) pe_int (fun _ _ => rfl)) (pe_ix ix_list (pv 9) pe_int (fun _ _ => rfl)) (fun _ _ => rfl)) (pv 3) (fun _ _ => rfl)))
        (pss_one (ps_setLc (i := 9) (te := tVar 10) (tt := tAnd (tTest (tOp (rNeD K) (tDGet (tVar 4) (tVar 10)) (tLst tNil))) (tB (tDIn (tVar 3) (tDGet (tOp (rIxT K) (tVar 0) (tC (.int 3))) (tVar 10))))) (own := [("_law_entry", 10)]) rfl scAfter.nd rfl rfl (sw_true rfl rfl rfl rfl) (pi_list (pe_callB (cr_sortD rfl) rfl gs boot_sorted (pa_cons (pv 4) pa_nil))) (blkOk_by (by kernel_rfl)) (fun s H C cl fp => pg_name (i := 10) scAfter.nd rfl (.inl rfl) (.inr rfl))
          (fun s H C cl fp => pts_one (PW.pt (pw_and (pt_cmpR (op_neDK (K := K) rfl hr.units) (pe_dget hu (pv 4) (pv 10) (fun _ _ => rfl)) (pe_lst pa_nil) (nomark _)) (pw_and1 (pt_cmp (pc_din hu (pv 3) (pe_dget hu (pe_ix (ix_tupK (K := K) rfl) (pv 0) pe_int (fun _ _ => rfl)) (pv 10) (fun _ _ => rfl)))))))) (fun s H C cl fp => pv 10))))))
      (pss_one (ps_ret (pe_tup (pa_cons (pe_tup (pa_cons (pv 3) (pa_cons (pv 4) pa_nil))) (pa_cons (pv 8) pa_nil))))))))))))), ?_⟩
    obtain ⟨pt, sa, ca, d, d', ms, w, n, c, rl, rfl, ip, E, ⟨rd0, s1, lr0⟩, keys, nd, elen, hca, way, lay, small, hQ⟩ := h
    obtain ⟨kvs0, k1, k2⟩ := lr0
    refine ⟨.ref sa, rfl, sa, _, rfl, .inl (.inl s1), rfl, .str w, [.ref rd0], rfl, .ref rd0, [], rfl, rfl, ?_⟩
    refine ⟨.ref ca, rfl, ca, _, rfl, .inl (.inl hca), rfl, .int c, [.str n], rfl, .str n, [], rfl, rfl, ?_⟩
    have rlen : rl.length ≤ 60 := by have := congrArg List.length keys; simp only [List.length_map] at this; omega
    refine rows_go (rl := rl) (d := rd0) k1 (LR.keys k2) (keys ▸ nd) (by omega) (by show 10 < 11; decide) (fun od Q q => ⟨.ref rd0, rfl, q⟩) (fun od H2 Q e m x q => ?_) fun rd H1 x1 nrd lr => ?_
    · obtain ⟨b, vb, hb⟩ := rowV_val k2 (List.mem_map_of_mem (f := (·.1)) m)
      rw [rowV_mem (keys ▸ nd) m] at hb
      have bne : b ≠ rd0 := fun z => by rw [z, k1] at hb; cases hb
      refine ⟨.ref rd0, rfl, .str e.1, rfl, rd0, .ref b, rfl, .inl ⟨kvs0, Sum.inr e.1, .inr ⟨od, x _ _ upd_same⟩, rfl, vb.symm⟩, b, nV e.2, rfl, .inl (.inl (.inl (x _ _ ((upd_ne bne).trans hb)))), fun l nl => q l _ (Ex.new nl) nl upd_same⟩
    refine ⟨.ref pt, rfl, .str w, rfl, .str n, rfl, pt, d, w, n, rfl, ip.ex x1, way, ?_⟩
    have esf : d'.ents.map (·.1) = ms := by
      rw [E.ents, List.map_map]
      exact (List.map_congr_left fun _ _ => rfl).trans (List.map_id _)
    have msnd : ms.Nodup := E.pm.nodup_iff.mpr nd
    have led := E.led w n
    cases eg : d.led w n with
    | none =>
      rw [eg] at led
      have mem : n ∈ d.ents.map (·.1) := by
        rcases way with ⟨l, a1, a2⟩ | ⟨_, a⟩
        · exfalso
          unfold ThD.led at eg
          rw [a1] at eg
          have eg : lookL l w = none := eg
          rw [eg] at a2
          cases a2
        · exact look_mem2 a
      obtain ⟨b, dg, hb, fb, set⟩ := lr.get (keys ▸ nd) (keys ▸ mem)
      have rsm : (rowV rl n).length ≤ 100 := by
        have m2 : n ∈ d'.ents.map (·.1) := by rw [esf]; exact E.pm.mem_iff.mpr mem
        obtain ⟨e, me, rfl⟩ := List.mem_map.mp m2
        exact Nat.le_trans (tot_ge (List.mem_map_of_mem (f := fun e => rowV rl e.1) me)) small
      refine ⟨.non, rfl, true, rfl, .ref rd, rfl, .str n, rfl, rd, .ref b, rfl, dg, .inl ⟨rfl, _, .inl (.inl hb)⟩, .int c, rfl, b, _, _, rfl, rfl, hb, Nat.lt_of_le_of_lt (m := 100) (by unfold nV; rw [List.length_map]; exact rsm) (by decide), ?_⟩
      have z := set (rowV rl n ++ [c])
      have en : nV (rowV rl n) ++ [V.int (c : Nat)] = nV (rowV rl n ++ [c]) := by
        unfold nV
        rw [List.map_append]
        rfl
      rw [en]
      have x2 : Ex H (upd H1 b (.lst (nV (rowV rl n ++ [c])))) := fun q o e => (upd_ne fun z => by rw [z, fb] at e; cases e).trans (x1 _ _ e)
      generalize upd H1 b (.lst (nV (rowV rl n ++ [c]))) = H2 at z x2 ⊢
      refine ⟨.str w, rfl, .ref rd, rfl, by show 2 ≤ sizeLine; decide, fun p np => ⟨Nat.zero_le _, fun q nq => ⟨by show 2 ≤ sizeLine; decide, fun r nr => ?_⟩⟩⟩
      have xa := (Ex.new (o := .tup [.str w, .ref rd]) np).trans ((Ex.new (o := .lst []) nq).trans (Ex.new (o := .tup [.ref p, .ref q]) nr))
      have step : callStep d' (w, Rof d'.ents (rowV rl)) c n = ((w, putRow d'.ents (Rof d'.ents (rowV rl)) n c), []) := by
        unfold callStep
        rw [led]
      refine hQ r p q _ (setR rl n (rowV rl n ++ [c])) (x2.trans xa) ((x2.trans (Ex.new np)).none nq) upd_same ?_ (by rw [setR_keys]; exact keys) ?_ ?_
      · rw [step]
        exact ⟨rd, (Ex.new nr) _ _ ((Ex.new nq) _ _ upd_same), z.ex xa⟩
      · rw [step]
        show _ = putRow d'.ents (Rof d'.ents (rowV rl)) n c
        have il : ms.idxOf n < ms.length := List.idxOf_lt_length_iff.mpr (E.pm.mem_iff.mpr mem)
        have ei : d'.ents[ms.idxOf n]? = some (n, ordL d.vals (entL d n)) := by
          rw [E.ents, List.getElem?_map, List.getElem?_eq_getElem il, List.getElem_idxOf]
          rfl
        have er : (Rof d'.ents (rowV rl))[ms.idxOf n]? = some (rowV rl n) := by
          unfold Rof
          rw [List.getElem?_map, ei]
          rfl
        unfold putRow
        rw [esf, er]
        dsimp only
        rw [Rof_set (esf ▸ msnd) ei]
        refine Rof_congr fun m _ => ?_
        exact setR_row m (keys ▸ mem)
      · rw [step]
        exact (Ex.new nr) _ _ upd_same
    | some g =>
      rw [eg] at led
      have step : callStep d' (w, Rof d'.ents (rowV rl)) c n = ((serve d'.ents (tot (Rof d'.ents (rowV rl))) g (Rof d'.ents (rowV rl)) []).1, c :: (serve d'.ents (tot (Rof d'.ents (rowV rl))) g (Rof d'.ents (rowV rl)) []).2) := by
        unfold callStep
        rw [led]
      refine ⟨.str g, rfl, false, rfl, .str g, rfl, .int c, rfl, by show 1 ≤ sizeLine; decide, fun gl ngl => ⟨by show 2 ≤ sizeLine; decide, fun tp ntp => ⟨tp, _, rfl, .inl (.inl upd_same), rfl, .str g, [.ref gl], rfl, .ref gl, [], rfl, rfl, ?_⟩⟩⟩
      have x2 : Ex H1 (upd (upd H1 gl (.lst [.int (c : Nat)])) tp (.tup [.str g, .ref gl])) := (Ex.new ngl).trans (Ex.new ntp)
      have hgl : upd (upd H1 gl (.lst [.int (c : Nat)])) tp (.tup [.str g, .ref gl]) gl = some (.lst (nV [c])) := (Ex.new ntp) _ _ upd_same
      have lr2 : LRf (fun b => H b = none ∧ b ≠ gl) (upd (upd H1 gl (.lst [.int (c : Nat)])) tp (.tup [.str g, .ref gl])) rd rl := (lr.imp fun b xs h1 h2 => ⟨h1, fun z => by rw [z, ngl] at h2; cases h2⟩).ex x2
      have nglH := x1.none ngl
      generalize upd (upd H1 gl (.lst [.int (c : Nat)])) tp (.tup [.str g, .ref gl]) = H2 at x2 hgl lr2 ⊢
      have y2 := x1.trans x2
      dsimp only
      refine seq_asg ?_
      refine able_go (d' := d') (ms := ms) (ip.ex y2) lr2 keys nd elen E fun al H3 x3 nal hal => ?_
      refine ⟨AfI H d d' ms pt sa ca rd gl c n g (Rof d'.ents (rowV rl)), ⟨_, g, rl, [], al, rfl, y2.trans x3, lr2.ex x3, keys, x3 _ _ hgl, hal, (fun z => by rw [z, hgl] at nal; cases nal), rfl, rfl, rfl⟩, fun m σ H4 h => ?_⟩
      clear x3 nal hal lr2 x2 y2 ngl
      obtain ⟨w7, rl7, gn, al, rfl, x4, lr4, keys7, hgl4, hal, alg, sum, ser, em⟩ := h
      have gnl : gn.length ≤ 100 := by omega
      have alay : ∀ m ∈ ableN d rl7 w7 ms, PyData.canLay0 (.str m) = true := fun m mm => lay m (E.pm.mem_iff.mp (List.mem_filter.mp mm).1)
      refine ⟨.ref al, rfl, Nat.zero_le _, fun e ne => ⟨.list ((ableN d rl7 w7 ms).map PyData.str), .list [], .lst (.inl (.inl ((Ex.new ne) _ _ hal))) (dp_strs _), .lst (.inl (.inl upd_same)) .nil, shaped_strs alay, rfl, _, rfl, ?_⟩⟩
      rw [eqv_nil]
      have xe : Ex H4 (upd H4 e (.lst [])) := Ex.new ne
      replace x4 := x4.trans xe
      replace lr4 := lr4.ex xe
      replace hgl4 := xe _ _ hgl4
      replace hal := xe _ _ hal
      generalize upd H4 e (.lst []) = H5 at x4 lr4 hgl4 hal ⊢
      clear xe ne
      have esame := able_same E rl7 w7
      cases eab : ableN d rl7 w7 ms with
      | nil =>
        rw [eab] at esame
        rw [serve_none (fa_none esame)] at ser
        refine ⟨.str w7, rfl, .ref rd, rfl, by show 2 ≤ sizeLine; decide, fun p np => ⟨.ref gl, rfl, by show 2 ≤ sizeLine; decide, fun q nq => ?_⟩⟩
        have xa := (Ex.new (o := .tup [.str w7, .ref rd]) np).trans (Ex.new (o := .tup [.ref p, .ref gl]) nq)
        refine hQ q p gl _ rl7 (x4.trans xa) nglH upd_same ?_ keys7 ?_ ?_
        · rw [step, ser]
          exact ⟨rd, (Ex.new nq) _ _ upd_same, (lr4.imp fun b _ h _ => h.1).ex xa⟩
        · rw [step, ser]
        · rw [step, ser]
          exact xa _ _ hgl4
      | cons z zs =>
        rw [eab] at esame hal
        obtain ⟨i, v, fa, ei, ab⟩ := fa_some (j := 0) (esame.trans (List.map_cons ..))
        rw [Nat.zero_add] at fa
        have mz : z ∈ d.ents.map (·.1) := E.pm.mem_iff.mp (List.mem_filter.mp (show z ∈ ableN d rl7 w7 ms by rw [eab]; exact List.mem_cons_self)).1
        obtain ⟨b, dg, hb, ⟨fb, bg⟩, set⟩ := lr4.get (keys7 ▸ nd) (keys7 ▸ mz)
        have ab : able1 (ordL d.vals (entL d z)) w7 (rowV rl7 z) = some v := ab
        unfold able1 at ab
        cases er : rowV rl7 z with
        | nil => rw [er, if_pos rfl] at ab; cases ab
        | cons c1 r1 =>
          rw [er, if_neg (fun y => nomatch y), E.look] at ab
          rw [er] at hb
          have eR : (Rof d'.ents (rowV rl7))[i]? = some (c1 :: r1) := by
            unfold Rof
            rw [List.getElem?_map, ei, ← er]
            rfl
          have ts := tot_set eR
          have eset : Rof d'.ents (rowV (setR rl7 z r1)) = (Rof d'.ents (rowV rl7)).set i r1 := by
            rw [Rof_set (esf ▸ msnd) ei]
            exact Rof_congr fun m _ => setR_row m (keys7 ▸ mz)
          have albn : al ≠ b := fun y => by
            rw [y, hb] at hal
            have := HO.lst.inj (Option.some.inj hal)
            cases this
          refine ⟨fun σ' H' => ∃ m', m' < m ∧ AfI H d d' ms pt sa ca rd gl c n g (Rof d'.ents (rowV rl)) m' σ' H', fun σ' H' h => h, ?_⟩
          refine ⟨.ref gl, rfl, .inl ⟨rfl, _, .inl (.inl hgl4)⟩, .ref rd, rfl, .ref al, rfl, al, _, 0, .str z, rfl, rfl, .inl (.inl hal), atI_nat (j := 0) rfl, rd, .ref b, rfl, dg, .inl ⟨rfl, _, .inl (.inl hb)⟩, b, _, 0, 0, .int c1, rfl, rfl, hb, by decide, by decide, seqIndex_of (by decide) (by simp [nV]), rfl, ?_⟩
          have e1 : (nV (c1 :: r1)).eraseIdx 0 = nV r1 := rfl
          rw [e1]
          have z5 := set r1
          have hgl6 : upd H5 b (.lst (nV r1)) gl = some (.lst (nV (c :: gn))) := (upd_ne (Ne.symm bg)).trans hgl4
          have hal6 : upd H5 b (.lst (nV r1)) al = some (.lst ((z :: zs).map V.str)) := (upd_ne albn).trans hal
          have x6 : Ex H (upd H5 b (.lst (nV r1))) := fun q o e => (upd_ne fun y => by rw [y, fb] at e; cases e).trans (x4 _ _ e)
          generalize upd H5 b (.lst (nV r1)) = H6 at z5 hgl6 hal6 x6 ⊢
          refine ⟨gl, _, _, rfl, rfl, hgl6, Nat.lt_of_le_of_lt (m := 101) (by unfold nV; rw [List.length_map, List.length_cons]; omega) (by decide), ?_⟩
          have en : nV (c :: gn) ++ [V.int (c1 : Nat)] = nV (c :: (gn ++ [c1])) := by
            unfold nV
            rw [← List.cons_append, List.map_append]
            rfl
          rw [en]
          have z7 : LRf (fun b => H b = none ∧ b ≠ gl) (upd H6 gl (.lst (nV (c :: (gn ++ [c1]))))) rd (setR rl7 z r1) := z5.put hgl6 fun b h => h.2
          have hgl7 : upd H6 gl (.lst (nV (c :: (gn ++ [c1])))) gl = some (.lst (nV (c :: (gn ++ [c1])))) := upd_same
          have hal7 : upd H6 gl (.lst (nV (c :: (gn ++ [c1])))) al = some (.lst ((z :: zs).map V.str)) := (upd_ne alg).trans hal6
          have x7 : Ex H (upd H6 gl (.lst (nV (c :: (gn ++ [c1]))))) := fun q o e => (upd_ne fun y => by rw [y, nglH] at e; cases e).trans (x6 _ _ e)
          generalize upd H6 gl (.lst (nV (c :: (gn ++ [c1])))) = H7 at z7 hgl7 hal7 x7 ⊢
          obtain ⟨vl, dd, de, f1, f2, f3, ⟨es, m1, mp⟩⟩ := ip.ex x7
          rcases look_val mp z with ⟨b1, b2⟩ | ⟨l, b', b1, b2, b3⟩
          · have := look_mem mz
            rw [b1] at this
            cases this
          · have el : entL d z = l := by unfold entL; rw [b1]; rfl
            rw [el] at ab
            have dv : DGet H7 b' (.str w7) (some (.str v)) := by
              have q := DGet.k (k := Sum.inr w7) b3
              rw [lookL_val, ab] at q
              exact q
            refine ⟨.ref pt, rfl, pt, _, 3, .ref de, rfl, rfl, .inl (.inl f1), rfl, .ref al, rfl, al, _, 0, .str z, rfl, rfl, .inl (.inl hal7), atI_nat (j := 0) rfl, de, .ref b', rfl, b2 ▸ DGet.k (k := Sum.inr z) m1, .str w7, rfl, b', .str v, rfl, dv, ?_⟩
            dsimp only
            refine one_asg ?_
            refine able_go (d' := d') (ms := ms) (ip.ex x7) z7 (by rw [setR_keys]; exact keys7) nd elen E fun al2 H8 x8 nal2 hal2 => ?_
            refine ⟨tot (Rof d'.ents (rowV (setR rl7 z r1))), by rw [eset]; omega, v, setR rl7 z r1, gn ++ [c1], al2, rfl, x7.trans x8, z7.ex x8, by rw [setR_keys]; exact keys7, x8 _ _ hgl7, hal2, (fun y => by rw [y, hgl7] at nal2; cases nal2), by rw [eset, List.length_append, List.length_singleton]; omega, ?_, rfl⟩
            rw [ser, ← ts, eset]
            exact serve_step fa eR
end
end TH

/-! C12: odd calls, bad numbers; draws within a lambda; what is found -/
namespace TH
open PySem PySem.Spec PyProof.Rows L2 LamV LamX XK0
open C8 (pss_cut tCut)
/-- the two kinds of rows tell alike who waits -/
theorem waits_same {es : Lds} {rl : LRows} (pm : (es.map (·.1)).Perm (rl.map (·.1))) (nd : (rl.map (·.1)).Nodup) (c : Int) : waits (Rof es (rowV rl)) c = lwaits rl c := by
  have e1 : waits (Rof es (rowV rl)) c = (es.map (·.1)).any fun n => inV (.int c) (nV (rowV rl n)) := by
    unfold waits Rof
    rw [List.any_map, List.any_map]
    rfl
  have e2 : lwaits rl c = (rl.map (·.1)).any fun n => inV (.int c) (nV (rowV rl n)) := by
    unfold lwaits
    rw [List.any_map]
    have : ∀ l : LRows, (∀ e ∈ l, rowV rl e.1 = e.2) → (l.any fun e => inV (.int c) (nV e.2)) = l.any ((fun n => inV (.int c) (nV (rowV rl n))) ∘ fun x => x.1) := fun l h => by
      induction l with
      | nil => rfl
      | cons e r ih =>
        rw [List.any_cons, List.any_cons, ih fun e m => h e (List.mem_cons_of_mem _ m)]
        show _ = (inV (.int c) (nV (rowV rl e.1)) || _)
        rw [h e List.mem_cons_self]
    exact this rl fun e m => rowV_mem nd m
  rw [e1, e2]
  exact pm.any_eq
/-! ### odd calls -/
/-- what is no good call, k callers, rl waiting -/
inductive OddC (H : Hp) (k : Nat) (rl : LRows) : V → Prop
  | non : OddC H k rl .non
  | int : OddC H k rl (.int 5)
  | str : OddC H k rl (.str "p")
  | one (a : Addr) : H a = some (.tup [.int 0]) → OddC H k rl (.ref a)
  | three (a : Addr) : H a = some (.tup [.int 0, .str "e", .int 0]) → OddC H k rl (.ref a)
  | neg (a : Addr) : H a = some (.tup [.int (-1), .str "e"]) → OddC H k rl (.ref a)
  | bl (a : Addr) : H a = some (.tup [.bl true, .str "e"]) → OddC H k rl (.ref a)
  | word (a : Addr) : H a = some (.tup [.str "0", .str "e"]) → OddC H k rl (.ref a)
  | num (a : Addr) : H a = some (.tup [.int 0, .int 5]) → OddC H k rl (.ref a)
  | none (a : Addr) : H a = some (.tup [.int 0, .str "none"]) → OddC H k rl (.ref a)
  | big (a : Addr) : H a = some (.tup [.int k, .str "e"]) → OddC H k rl (.ref a)
  | wait (a : Addr) (c : Nat) : H a = some (.tup [.int c, .str "e"]) → lwaits rl c = true → OddC H k rl (.ref a)
theorem OddC.keep {H H' : Hp} {k : Nat} {rl : LRows} {v : V} (x : ∀ a xs, H a = some (.tup xs) → H' a = some (.tup xs)) (h : OddC H k rl v) : OddC H' k rl v := by
  cases h with
  | non => exact .non
  | int => exact .int
  | str => exact .str
  | one a e => exact .one a (x _ _ e)
  | three a e => exact .three a (x _ _ e)
  | neg a e => exact .neg a (x _ _ e)
  | bl a e => exact .bl a (x _ _ e)
  | word a e => exact .word a (x _ _ e)
  | num a e => exact .num a (x _ _ e)
  | none a e => exact .none a (x _ _ e)
  | big a e => exact .big a (x _ _ e)
  | wait a c e w => exact .wait a c (x _ _ e) w
theorem OddC.bad {K : PySem.W.Frag} {H : Hp} {k : Nat} {rl : LRows} {v : V} {d : ThD} {rows : Rws} (hw : ∀ c, waits rows c = lwaits rl c) (hn : ("none" : Str) ∉ d.names) (h : OddC H k rl v) : CallB K H d k rows v false := by
  have tp : ∀ {a : Addr} {xs : List V}, H a = some (.tup xs) → Sq K H a xs := fun e => .inr (.inl (.inl e))
  have kint : ∀ {i : Int}, Kd K H (.int i) "int" := int_kd
  cases h with
  | non => exact .notseq (T := "NoneType") ⟨by decide, .base .non, fun x z => nomatch z⟩ (by decide +kernel)
  | int => exact .notseq (T := "int") kint (by decide +kernel)
  | str => exact .notseq (T := "str") (str_kd (by decide +kernel)) (by decide +kernel)
  | one a e => exact .notpair (tp e) (by decide)
  | three a e => exact .notpair (tp e) (by decide)
  | neg a e => exact .notnat (tp e) kint rfl
  | bl a e => exact .notnat (T := "bool") (tp e) ⟨by decide, .base (.bl true), fun x z => nomatch z⟩ rfl
  | word a e => exact .notnat (T := "str") (tp e) (str_kd (by decide +kernel)) rfl
  | num a e =>
    have z := CallB.int (K := K) (H := H) (d := d) (callers := k) (rows := rows) (tp e) (by decide) (kint (i := 5))
    rw [show isWd (.int 5) = false from rfl, Bool.false_and, Bool.and_false] at z
    exact z
  | none a e =>
    have z := CallB.int (K := K) (H := H) (d := d) (callers := k) (rows := rows) (T := "str") (y := .str "none") (tp e) (by decide) (str_kd (by decide +kernel))
    rw [show inNames d (.str "none") = false from decide_eq_false hn, Bool.false_and, Bool.and_false, Bool.and_false] at z
    exact z
  | big a e =>
    have z := CallB.int (K := K) (H := H) (d := d) (callers := k) (rows := rows) (T := "str") (y := .str "e") (tp e) (by omega) (str_kd (by decide +kernel))
    rw [decide_eq_false (show ¬ ((k : Int) < k) by omega), Bool.false_and] at z
    exact z
  | wait a c e w =>
    have z := CallB.int (K := K) (H := H) (d := d) (callers := k) (rows := rows) (T := "str") (y := .str "e") (tp e) (by omega) (str_kd (by decide +kernel))
    rw [hw, w, Bool.not_true, Bool.and_false, Bool.and_false, Bool.and_false] at z
    exact z
/-! ### bad numbers -/
inductive NumV (sp l : Addr) (H : Hp) : V → PyData → Prop
  | non : NumV sp l H .non .none
  | int (i : Int) (h : i = 0 ∨ i = -1) : NumV sp l H (.int i) (.int i)
  | bl : NumV sp l H (.bl true) (.bool true)
  | str : NumV sp l H (.str "1") (.str "1")
  | lst (a : Addr) (h : H a = some (.lst [.int 1])) (n : a ≠ sp ∧ a ≠ l) : NumV sp l H (.ref a) (.list [.int 1])
  | dct (a : Addr) (h : H a = some (.dK [])) : NumV sp l H (.ref a) (.dict [])
theorem NumV.sn {sp l : Addr} {H H' : Hp} {n : Nat} {v : V} {d : PyData} (x : ExSN sp l H H') (s : Spr H sp l n) (h : NumV sp l H v d) : NumV sp l H' v d := by
  cases h with
  | non => exact .non
  | int i h => exact .int i h
  | bl => exact .bl
  | str => exact .str
  | lst a h n => exact .lst a (x.lst h n) n
  | dct a h => exact .dct a (x.non s h (fun _ z => nomatch z) (fun _ z => nomatch z))
theorem NumV.kd {K : PySem.W.Frag} {sp l : Addr} {H : Hp} {v : V} {d : PyData} (h : NumV sp l H v d) : ∃ T, Kd K H v T := by
  cases h with
  | non => exact ⟨"NoneType", by decide, .base .non, fun x z => nomatch z⟩
  | int i h => exact ⟨_, int_kd⟩
  | bl => exact ⟨"bool", by decide, .base (.bl true), fun x z => nomatch z⟩
  | str => exact ⟨_, str_kd (by decide +kernel)⟩
  | lst a h n => exact ⟨_, sqL_kd (.inl (.inl h))⟩
  | dct a h => exact ⟨"dict", by decide, .base (.dK h), fun x z => nomatch z⟩
theorem NumV.pos {sp l : Addr} {H : Hp} {v : V} {d : PyData} (h : NumV sp l H v d) : posV v = false := by
  cases h with
  | int i h => rcases h with rfl | rfl <;> rfl
  | _ => rfl
theorem NumV.rd {sp l : Addr} {H : Hp} {v : V} {d : PyData} (h : NumV sp l H v d) : RdD H 2 v d := by
  cases h with
  | non => exact rfl
  | int i h => exact rfl
  | bl => exact rfl
  | str => exact rfl
  | lst a h n => exact ⟨a, _, rfl, h, .cons rfl .nil⟩
  | dct a h => exact ⟨a, _, rfl, h, .nil⟩
/-! ### draws within a lambda -/
theorem lamS {T : List (Addr × Str)} {CN CB sp l : Addr} {n m : Nat} {t : XK → TE} {σ : L2.St} {H : Hp} {Q : VK} {v : V} (S : Spr H sp l n) (hT : Tabs T H) (ht : ∀ E H1 Q', ExtN H H1 → Tabs T H1 → (∀ H2, ExS sp l H1 H2 → Spr H2 sp l m → Rz E H2 CB [("index", v)]) → t E σ H1 Q')
    (hQ : ∀ p H', ExSN sp l H H' → Spr H' sp l m → Tabs T H' → NewP H p → H' p = some (.lst [.str "calls", v]) → Q (.ref p) H') : tLam T (TTmet CN CB) t σ H Q := by
  refine ⟨hT, fun H1 x1 t1 => ht _ H1 _ x1 t1 fun H2 x2 S2 H3 dd x3 nd => ⟨dd, v, rfl, .inr ⟨rfl, upd_same, fun p np => ?_⟩⟩⟩
  have S1 := S.exN x1
  have y3 : Ex H2 (upd H3 dd (.xd [("index", v)])) := x3.trans (Ex.new nd)
  have x4 : Ex H2 (upd (upd H3 dd (.xd [("index", v)])) p (.lst [.str "calls", v])) := y3.trans (Ex.new np)
  refine hQ p _ ((exN_sn x1).trans (x2.trans x4.exS).sn) (S2.ex x4) (Tabs.exS (x2.trans x4.exS) S1 t1) (fun o e nt => ?_) upd_same
  have po := (S2.ex y3).off np
  rw [(x2.trans y3.exS) _ _ po.1 po.2 (x1 _ _ e nt)] at np
  cases np
/-- things found so far, each the list [x, v] -/
structure Fo (sp l : Addr) (T : List (Addr × Str)) (H0 H : Hp) (fl : Addr) (its : List (Str × V)) : Prop where
  ex : ExSN sp l H0 H
  new : NewP H0 fl
  off : fl ≠ sp ∧ fl ≠ l
  tabs : Tabs T H
  all : ∃ ps : List Addr, H fl = some (.lst (ps.map V.ref)) ∧ Paired (fun p (q : Str × V) => (p ≠ sp ∧ p ≠ l) ∧ H p = some (.lst [.str q.1, q.2])) ps its
theorem Fo.first {sp l : Addr} {T : List (Addr × Str)} {H0 H : Hp} {fl p : Addr} {x : Str} {v : V} {n : Nat} (S : Spr H sp l n) (e : ExSN sp l H0 H) (t : Tabs T H) (po : p ≠ sp ∧ p ≠ l) (hp : H p = some (.lst [.str x, v])) (nf : H fl = none) : Fo sp l T H0 (upd H fl (.lst [.ref p])) fl [(x, v)] :=
  ⟨e.trans (Ex.new nf).sn, (fun o e2 nt => by rw [e _ _ (S.off nf).1 (S.off nf).2 e2 nt] at nf; cases nf), S.off nf, (Ex.new nf).tabs t, [p], upd_same, .cons ⟨po, (Ex.new nf) _ _ hp⟩ .nil⟩
theorem Fo.lst {sp l : Addr} {T : List (Addr × Str)} {H0 H : Hp} {fl : Addr} {its : List (Str × V)} (F : Fo sp l T H0 H fl its) : ∃ xs, H fl = some (.lst xs) ∧ xs.length = its.length := by
  obtain ⟨ps, e, p⟩ := F.all
  exact ⟨_, e, by rw [List.length_map]; exact Paired.length p⟩
theorem Fo.app {sp l : Addr} {T : List (Addr × Str)} {H0 H H' : Hp} {fl p : Addr} {its : List (Str × V)} {x : Str} {v : V} {xs : List V} (F : Fo sp l T H0 H fl its) (e : ExSN sp l H H') (t : Tabs T H') (np : NewP H p) (po : p ≠ sp ∧ p ≠ l) (hp : H' p = some (.lst [.str x, v])) (hx : H' fl = some (.lst xs)) : Fo sp l T H0 (upd H' fl (.lst (xs ++ [.ref p]))) fl (its ++ [(x, v)]) := by
  obtain ⟨ps, hf, pr⟩ := F.all
  have ef := e.lst hf F.off
  rw [ef] at hx
  cases hx
  have pf : p ≠ fl := np.off hf fun _ z => nomatch z
  refine ⟨fun b o b1 b2 eb nt => ?_, F.new, F.off, fun q hq => ?_, ps ++ [p], by rw [upd_same, List.map_append]; rfl, ?_⟩
  · exact (upd_ne fun (z : b = fl) => F.new o (by rw [← z]; exact eb) nt).trans (e _ _ b1 b2 (F.ex _ _ b1 b2 eb nt) nt)
  · obtain ⟨rs, h1, h2, h3⟩ := t q hq
    refine ⟨rs, (upd_ne fun z => by rw [z, ef] at h1; cases h1).trans h1, h2, fun pos cv hc => ?_⟩
    obtain ⟨c, e1, e2⟩ := h3 pos cv hc
    exact ⟨c, e1, (upd_ne fun z => by rw [z, ef] at e2; cases e2).trans e2⟩
  · refine paired_app (Paired.mapP pr fun q it ⟨o1, o2⟩ => ⟨o1, ?_⟩) ⟨po, (upd_ne pf).trans hp⟩
    have q2 := e.lst o2 o1
    refine (upd_ne fun z => ?_).trans q2
    rw [z, ef] at q2
    have q2 := HO.lst.inj (Option.some.inj q2)
    have := congrArg List.head? q2
    cases ps with
    | nil => cases this
    | cons a r => cases this
def itD (x : Str) (d : PyData) : PyData := .list [.str x, d]
def foundD (k : Nat) (d : PyData) : PyData := .list [itD "calls" (.int (k : Nat)), itD "calls" (.int 0), itD "number" d, itD "number" d, itD "number" d, itD "number" d]
theorem found_ok {sp l : Addr} {H : Hp} {v : V} {d : PyData} {k : Nat} (hk : k < 10) (h : NumV sp l H v d) : Showy (foundD k d) := by
  have len : ∀ d : PyData, d.shown.length ≤ 1000 → d.shown.length ≤ sizeLine := fun d h => by rw [sizeLine_eq]; omega
  have go : ∀ d : PyData, ((List.range 10).all fun k => (foundD k d).showable && (decide ((foundD k d).depth ≤ 40) && decide ((foundD k d).shown.length ≤ 1000))) = true → Showy (foundD k d) := fun d e => by
    have z := List.all_eq_true.mp e k (List.mem_range.mpr hk)
    rw [Bool.and_eq_true, Bool.and_eq_true] at z
    exact ⟨z.1, of_decide_eq_true z.2.1, len _ (of_decide_eq_true z.2.2)⟩
  cases h with
  | non => exact go _ (by decide +kernel)
  | int i h =>
    rcases h with rfl | rfl
    · exact go _ (by decide +kernel)
    · exact go _ (by decide +kernel)
  | bl => exact go _ (by decide +kernel)
  | str => exact go _ (by decide +kernel)
  | lst a h n => exact go _ (by decide +kernel)
  | dct a h => exact go _ (by decide +kernel)
theorem it_rd {H : Hp} {p : Addr} {x : Str} {v : V} {d : PyData} (hp : H p = some (.lst [.str x, v])) (r : RdD H 2 v d) : RdD H 3 (.ref p) (itD x d) := ⟨p, _, rfl, hp, .cons rfl (.cons r .nil)⟩
theorem found_rd {sp l : Addr} {H : Hp} {fl : Addr} {ps : List Addr} {v : V} {d : PyData} {k : Nat} (hf : H fl = some (.lst (ps.map V.ref))) (p : Paired (fun p (q : Str × V) => (p ≠ sp ∧ p ≠ l) ∧ H p = some (.lst [.str q.1, q.2])) ps [("calls", .int (k : Nat)), ("calls", .int 0), ("number", v), ("number", v), ("number", v), ("number", v)]) (r : RdD H 2 v d) : RdD H 4 (.ref fl) (foundD k d) := by
  cases p with
  | cons a1 p => cases p with
    | cons a2 p => cases p with
      | cons a3 p => cases p with
        | cons a4 p => cases p with
          | cons a5 p => cases p with
            | cons a6 p =>
              cases p
              exact ⟨fl, _, rfl, hf, .cons (it_rd a1.2 rfl) (.cons (it_rd a2.2 rfl) (.cons (it_rd a3.2 r) (.cons (it_rd a4.2 r) (.cons (it_rd a5.2 r) (.cons (it_rd a6.2 r) .nil)))))⟩
end TH

/-! C13: _law_refused -/
namespace TH
open PySem PySem.Spec PyProof.Rows L2 LamV LamX XK0
open C8 (pss_cut tCut)
abbrev sRefused37 : Stmt := top 57
def spRefused37 (K : PySem.W.Frag) (C : Addr) (T : List (Addr × Str)) : Sp := fun vs H Q _ => ∃ (sp l t pt ch sa : Addr) (n k : Nat) (d d' : ThD) (w : Str) (rl : LRows) (ps : List Addr) (cs : List Call1), vs = [.ref sp, .ref t, .ref pt, .ref ch, .ref sa, .int k] ∧ Spr H sp l n ∧ n + 100 < 1000000 ∧ IsTh H C t d' ∧ d.Good ∧ IsOrd d d' ∧ LS H sa w rl ∧ rl.map (·.1) = d.ents.map (·.1) ∧
  H ch = some (.lst (ps.map V.ref)) ∧ (ch ≠ sp ∧ ch ≠ l) ∧ CTs H ps cs ∧ cs.length ≤ 9 ∧ k ≤ 3 ∧ 1 ≤ k ∧ GoodRun d' k (st0 d') cs ∧ (goneRun d' (st0 d') cs).1.2 = Rof d'.ents (rowV rl) ∧ Tabs T H ∧
  ∀ (H' : Hp) (m : Nat), m ≤ n + 20 → ExSN sp l H H' → Spr H' sp l m → Tabs T H' → Q (.bl true) H'
section
variable {P : Program} {w : World} {K : PySem.W.Frag} {mg : Str → Option Value} {base : Heap} {f C CN CB c Pt gm fI : Addr} {fd fdm fdI : FuncData} {T : List (Addr × Str)}
theorem scRefused37 : FnScope ["_law_spring_here", "_law_thing_here", "_law_parts", "_law_calls_here", "_law_state", "_law_callers", "_law_odd", "_law_found", "_law_bent", "_law_number", "_law_caller"] ["_law_spring_here", "_law_thing_here", "_law_parts", "_law_calls_here", "_law_state", "_law_callers"] (defScope sRefused37) := ⟨rfl, rfl, rfl, by decide +kernel, rfl, by decide +kernel, by decide +kernel⟩
abbrev tWait : TE := tLc (iRng1 (tCons (tVar 5) tNil)) (gName 10) (tB (tCall spWaits [] E0 (tCons (tVar 4) (tCons (tVar 10) tNil)))) (tTup (tCons (tVar 10) (tCons (tC (.str "e")) tNil))) [10]
theorem cons_one {te : TE} {tr : TA} {σ : L2.St} {H : Hp} {Q : List V → Hp → Prop} (h : te σ H fun x H1 => tr σ H1 fun xs H2 => Q (x :: xs) H2) : tCons te tr σ H Q := h
theorem op_one {r : R2} {ta tb : TE} {σ : L2.St} {H : Hp} {Q : VK} (h : ta σ H fun x H1 => tb σ H1 fun y H2 => r x y H2 Q) : tOp r ta tb σ H Q := h
theorem wait_go {o0 o1 o2 o3 o6 o7 o8 o9 : Option V} {H : Hp} {Q : VK} {sa : Addr} {w : Str} {rl : LRows} {k : Nat} (ls : LS H sa w rl) (nd : (rl.map (·.1)).Nodup) (rlen : rl.length ≤ 60) (hk : k ≤ 10)
    (hQ : ∀ (p : Addr) (H' : Hp) (ws : List V), Ex H H' → H p = none → H' p = some (.lst ws) → (∀ v ∈ ws, OddC H' k rl v) → ws.length ≤ k → Q (V.ref p) H') : tWait [o0, o1, o2, o3, some (.ref sa), some (.int k), o6, o7, o8, o9, none] H Q := by
  refine ⟨.int k, rfl, k, rfl, by omega, by omega, fun D nD => ?_⟩
  refine lc_it (walk_range (lo := 0) (n := k)) (fun n H2 => Ex H H2 ∧ ∃ ws : List V, H2 D = some (.lst ws) ∧ (∀ v ∈ ws, OddC H2 k rl v) ∧ ws.length ≤ n) ⟨Ex.new nD, [], upd_same, (fun v m => nomatch m), Nat.le_refl _⟩ (fun _ _ _ _ => trivial) (fun n v H2 H3 hn h y => ?_) fun H2 h => ?_
  · obtain ⟨x2, ws, hD, odd, wl⟩ := h
    obtain ⟨rfl, ev⟩ := y
    obtain rfl : v = .int (n : Nat) := ev.trans (congrArg V.int (Int.zero_add _))
    refine ⟨rfl, .ref sa, rfl, .int n, rfl, sa, w, rl, n, rfl, ls.ex x2, nd, rlen, fun H4 x4 => ⟨_, rfl, ?_⟩⟩
    have hD4 := x4 _ _ hD
    have odd4 : ∀ v ∈ ws, OddC H4 k rl v := fun v m => (odd v m).keep fun _ _ e => x4 _ _ e
    cases wt : lwaits rl (n : Int) with
    | false => exact ⟨x2.trans x4, ws, hD4, odd4, by omega⟩
    | true =>
      refine ⟨.int n, rfl, by show 2 ≤ sizeLine; decide, fun p np => ?_⟩
      have xp : Ex H4 (upd H4 p (.tup [.int (n : Nat), .str "e"])) := Ex.new np
      have pD : p ≠ D := fun z => by rw [z, hD4] at np; cases np
      have keep : ∀ {a : Addr} {xs : List V} {o : HO}, upd H4 p (.tup [.int (n : Nat), .str "e"]) a = some (.tup xs) → upd (upd H4 p (.tup [.int (n : Nat), .str "e"])) D o a = some (.tup xs) := fun {a xs o} e => (upd_ne fun z => by rw [z, xp _ _ hD4] at e; cases e).trans e
      refine ⟨ws, xp _ _ hD4, by rw [sizeLine_eq]; omega, fun b o e => (upd_ne fun z => by rw [z, nD] at e; cases e).trans (xp _ _ (x4 _ _ (x2 _ _ e))), _, upd_same, fun v m => ?_, by rw [List.length_append, List.length_singleton]; omega⟩
      rcases List.mem_append.mp m with m | m
      · exact (odd4 v m).keep fun a xs e => keep (xp _ _ e)
      · rw [List.mem_singleton.mp m]
        exact .wait p n (keep upd_same) wt
  · obtain ⟨x2, ws, hD, odd, wl⟩ := h
    exact hQ D H2 ws x2 nD hD odd wl
/-- what stands throughout -/
structure Amb (C sp l t ch : Addr) (k : Nat) (bl : Addr) (ps : List Addr) (cs : List Call1) (num : V) (nd : PyData) (z : V) (d' : ThD) (rl : LRows) (H2 : Hp) (m : Nat) : Prop where
  S : Spr H2 sp l m
  th : IsTh H2 C t d'
  hch : H2 ch = some (.lst (ps.map V.ref))
  hcho : ch ≠ sp ∧ ch ≠ l
  hbl : H2 bl = some (.lst (ps.map V.ref ++ [z, .non]))
  hblo : bl ≠ sp ∧ bl ≠ l
  ct : CTs H2 ps cs
  odd : OddC H2 k rl z
  num : NumV sp l H2 num nd
theorem Amb.sn {C sp l t ch : Addr} {k : Nat} {bl : Addr} {ps : List Addr} {cs : List Call1} {num : V} {nd : PyData} {z : V} {d' : ThD} {rl : LRows} {H2 H3 : Hp} {m m' : Nat} (A : Amb C sp l t ch k bl ps cs num nd z d' rl H2 m) (x : ExSN sp l H2 H3) (S : Spr H3 sp l m') : Amb C sp l t ch k bl ps cs num nd z d' rl H3 m' :=
  ⟨S, A.th.sn x A.S, x.lst A.hch A.hcho, A.hcho, x.lst A.hbl A.hblo, A.hblo, Paired.mapP A.ct fun _ _ e => x.non A.S e (fun _ z => nomatch z) (fun _ z => nomatch z), A.odd.keep fun _ _ e => x.non A.S e (fun _ z => nomatch z) (fun _ z => nomatch z), A.num.sn x A.S⟩
theorem NewP.spr {H : Hp} {p sp l : Addr} {n : Nat} (np : NewP H p) (S : Spr H sp l n) : p ≠ sp ∧ p ≠ l := by
  obtain ⟨ns, a, m, s⟩ := S
  exact ⟨np.off s.hs (fun _ z => nomatch z), np.off s.hl (fun _ z => nomatch z)⟩
def RMid37 (C sp l t pt ch sa ol : Addr) (n k : Nat) (ps : List Addr) (cs : List Call1) (d' : ThD) (rl : LRows) (T : List (Addr × Str)) (H : Hp) (σ : L2.St) (H2 : Hp) : Prop := ∃ (bl : Addr) (num z : V) (nd : PyData) (m : Nat), σ = [some (.ref sp), some (.ref t), some (.ref pt), some (.ref ch), some (.ref sa), some (.int k), some (.ref ol), none, some (.ref bl), some num, none] ∧
  ExSN sp l H H2 ∧ m ≤ n + 10 ∧ Tabs T H2 ∧ Amb C sp l t ch k bl ps cs num nd z d' rl H2 m
theorem lst_one {ta : TA} {σ : L2.St} {H : Hp} {Q : VK} (h : ta σ H fun xs H1 => xs.length ≤ sizeLine ∧ ∀ p, H1 p = none → Q (.ref p) (upd H1 p (.lst xs))) : tLst ta σ H Q := h
theorem calls_at {K : PySem.W.Frag} {H : Hp} {ps : List Addr} {cs : List Call1} (ct : CTs H ps cs) (r : List V) : CallsAt K H (ps.map V.ref ++ r) cs := by
  refine ⟨by rw [List.length_append, List.length_map, Paired.length ct]; omega, fun i c n e => ?_⟩
  obtain ⟨a, ea, ha⟩ := paired_get ct e
  refine ⟨a, ?_, .inr (.inl (.inl ha))⟩
  rw [List.getElem?_append_left (by rw [List.length_map]; exact (List.getElem?_eq_some_iff.mp ea).1), List.getElem?_map, ea]
  rfl
theorem calls_end {ps : List Addr} {cs : List Call1} {z : V} {r : List V} (e : ps.length = cs.length) : (ps.map V.ref ++ z :: r)[cs.length]? = some z := by
  rw [List.getElem?_append_right (by rw [List.length_map, e]; exact Nat.le_refl _), List.length_map, e, Nat.sub_self]
  rfl
def d0 : ThD := ⟨["a"], "a", [("zz", [("a", "a")])], []⟩
theorem fit0 : d0.Fit where
  vne := by decide
  vok := by decide +kernel
  vnd := by decide
  vln := by decide
  st := by decide
  dln := by decide
  eln := by decide
  dnd := by decide
  end_ := by decide
  dok := fun l m => by
    rw [List.mem_singleton.mp m]
    exact ⟨by decide +kernel, by decide, by decide, by decide, fun _ => rfl⟩
  eok := fun l m => by cases m
theorem ok_refused37 (F : FnP K "_law_refused" sRefused37 f fd) (hcode : codeOf K f = some (.ref c)) (TB : TabB base mg c Pt) (hm : (Pt, lamR) ∈ T) (hT : ∀ p ∈ T, p.1 = Pt → p.2 = lamR) (M : MetC K mg CN CB) (FMt : FnP K "_law_met" sMet gm fdm) (gMt : mg "_law_met" = some (.ref gm)) (kMt : PySem.W.keepIn K (.ref gm) = true)
    (MT : Mk K C fI) (gT : mg "Thing" = some (.ref C)) (bI : Binds K fdI ["self", "values", "start", "deeds", "entries"] []) (FI : FnOk P w K mg base CX0 4 fI fdI ["self", "values", "start", "deeds", "entries"] (spInit K C))
    (FO : Has P w K mg base "_law_one" 2 ["_law_spring_here", "_law_things"] spOne) (FW : Has P w K mg base "_law_waits" 1 ["_law_state", "_law_caller"] spWaits)
    (FG : HasX P w K mg base "gone_on" 4 ["thing", "callers", "calls"] (spGoneOnX K C CN CB)) (FPt : HasX P w K mg base "calls_that_part" 4 ["one", "other", "callers"] (spNum3X K CN)) (FLk : HasX P w K mg base "like_values" 4 ["thing", "callers"] (spNum2X K CN)) (FLs : HasX P w K mg base "least_thing" 4 ["thing", "callers"] (spNum2X K CN))
    (gn : mg "len" = none) (gr : mg "repr" = none) (gra : mg "range" = none) (hS : (K.lookup sysModules).isSome = true) :
    FnOkG P w K mg base CX0 8 f fd ["_law_spring_here", "_law_thing_here", "_law_parts", "_law_calls_here", "_law_state", "_law_callers"] (spRefused37 K C T) := by
  refine okG F hcode scRefused37 (fun vs H Q E h => ?_) (fun A outer s H vs Q E hG hr h => ?_)
  · obtain ⟨sp, l, t, pt, ch, sa, n, k, d, d', w, rl, ps, cs, rfl, _⟩ := h
    rfl
  · have hu := hu_of hr
    refine ⟨_, PSs.nox (pss_cons (ps_set (i := 6) scRefused37.nd rfl (.inl rfl) (pe_lst (pa_cons pe_non (pa_cons pe_int (pa_cons pe_str (pa_cons (pe_tup (pa_cons pe_int pa_nil)) (pa_cons (pe_tup (pa_cons (pv 5) (pa_cons pe_str pa_nil))) (pa_cons (pe_tup (pa_cons (pe_un un_neg pe_int) (pa_cons pe_str pa_nil))) (pa_cons (pe_tup (pa_cons pe_bl (pa_cons pe_str pa_nil))) (pa_cons (pe_tup (pa_cons pe_int (pa_cons pe_str pa_nil))) (pa_cons (pe_tup (pa_cons pe_int (pa_cons pe_int pa_nil))) (pa_cons (pe_tup (pa_cons pe_int (pa_cons pe_str (pa_cons pe_int pa_nil)))) (pa_cons (pe_tup (pa_cons pe_str (pa_cons pe_str pa_nil))) pa_nil)))))))))))))
      (pss_cons (ps_expr (pe_bm PySem.F.plainAttrs_list PySem.F.slot_list_extend PySem.F.type_list_extend mt_extend (pv 6) (pa_cons (pe_op op_rep (pe_lc (te := tTup (tCons (tVar 10) (tCons (tC (.str "e")) tNil))) (tt := tB (tCall spWaits [] E0 (tCons (tVar 4) (tCons (tVar 10) tNil)))) (own := [("_law_caller", 10)]) rfl scRefused37.nd (pi_range1 rfl gra (pa_cons (pv 5) pa_nil)) (blkOk_by (by kernel_rfl)) (fun s H C cl fp => pg_name (i := 10) scRefused37.nd rfl (.inl rfl) (.inr rfl)) (fun s H C cl fp => pts_one (pt_val (pe_has FW hr (by decide) rfl (pa_cons (pv 4) (pa_cons (pv 10) pa_nil))))) (fun s H C cl fp => pe_tup (pa_cons (pv 10) (pa_cons pe_str pa_nil)))) pe_int) pa_nil)))
      (pss_cut (ps_asg (pe_tup (pa_cons (pe_op op_cat (pv 3) (pe_lst (pa_cons (pe_has FO hr (by decide) rfl (pa_cons (pv 0) (pa_cons (pv 6) pa_nil))) (pa_cons pe_non pa_nil)))) (pa_cons (pe_has FO hr (by decide) rfl (pa_cons (pv 0) (pa_cons (pe_lst (pa_cons pe_non (pa_cons pe_int (pa_cons (pe_un un_neg pe_int) (pa_cons pe_bl (pa_cons pe_str (pa_cons (pe_lst (pa_cons pe_int pa_nil)) (pa_cons pe_dnewK pa_nil)))))))) pa_nil))) pa_nil))) (pg_tup rfl (pgs_cons (pg_name (i := 8) scRefused37.nd rfl (.inr rfl)) (pgs_cons (pg_name (i := 9) scRefused37.nd rfl (.inr rfl)) pgs_nil))))
      (pss_cons (ps_set (i := 7) scRefused37.nd rfl (.inl rfl) (pe_lst (pa_cons (pe_met M FMt gMt kMt TB rfl rfl hm hT hr rfl (lamS_by (by kernel_rfl)) rfl (fun _ _ _ _ _ => rfl) (fun A outer s H E f c' hr2 => pe_hasX (E := E) FG hr2 (by decide) rfl (takes_of rfl rfl rfl rfl) (fun _ _ _ _ z => z) (pa_cons (pv 1) (pa_cons (pv 5) (pa_cons (pv 8) pa_nil))))) pa_nil)))
      (pss_cons (ps_expr (pe_bm PySem.F.plainAttrs_list PySem.F.slot_list_append PySem.F.type_list_append mt_append (pv 7) (pa_cons (pe_met M FMt gMt kMt TB rfl rfl hm hT hr rfl (lamS_by (by kernel_rfl)) rfl (fun _ _ _ _ _ => rfl) (fun A outer s H E f c' hr2 => pe_hasX (E := E) FG hr2 (by decide) rfl (takes_of rfl rfl rfl rfl) (fun _ _ _ _ z => z) (pa_cons (pv 1) (pa_cons (pv 5) (pa_cons (pe_has FO hr2 (by decide) rfl (pa_cons (pv 0) (pa_cons (pe_lst (pa_cons pe_non (pa_cons pe_int (pa_cons pe_str (pa_cons pe_dnewK pa_nil))))) pa_nil))) pa_nil))))) pa_nil)))
      (pss_cons (ps_expr (pe_bm PySem.F.plainAttrs_list PySem.F.slot_list_append PySem.F.type_list_append mt_append (pv 7) (pa_cons (pe_met M FMt gMt kMt TB rfl rfl hm hT hr rfl (lamS_by (by kernel_rfl)) rfl (fun _ _ _ _ _ => rfl) (fun A outer s H E f c' hr2 => pe_hasX (E := E) FG hr2 (by decide) rfl (takes_of rfl rfl rfl rfl) (fun _ _ _ _ z => z) (pa_cons (pv 1) (pa_cons (pv 9) (pa_cons (pe_lst (pa_cons pe_non pa_nil)) pa_nil))))) pa_nil)))
      (pss_cons (ps_expr (pe_bm PySem.F.plainAttrs_list PySem.F.slot_list_append PySem.F.type_list_append mt_append (pv 7) (pa_cons (pe_met M FMt gMt kMt TB rfl rfl hm hT hr rfl (lamS_by (by kernel_rfl)) rfl (fun _ _ _ _ _ => rfl) (fun A outer s H E f c' hr2 => pe_hasX (E := E) FPt hr2 (by decide) rfl (takes_of rfl rfl rfl rfl) (fun _ _ _ _ z => z) (pa_cons (pv 1) (pa_cons (pe_make MT FI hr2 rfl gT bI .nil pass0 (pa_cons (pe_lst (pa_cons pe_str pa_nil)) (pa_cons pe_str (pa_cons (pe_disp (pps_cons pe_str (pe_disp (pps_cons pe_str pe_str pps_nil) rfl rfl (by simp) (by decide)) pps_nil) rfl rfl (by simp) (by decide)) (pa_cons pe_dnewK pa_nil))))) (pa_cons (pv 9) pa_nil))))) pa_nil)))
      (pss_cons (ps_expr (pe_bm PySem.F.plainAttrs_list PySem.F.slot_list_append PySem.F.type_list_append mt_append (pv 7) (pa_cons (pe_met M FMt gMt kMt TB rfl rfl hm hT hr rfl (lamS_by (by kernel_rfl)) rfl (fun _ _ _ _ _ => rfl) (fun A outer s H E f c' hr2 => pe_hasX (E := E) FLk hr2 (by decide) rfl (takes_of rfl rfl rfl rfl) (fun _ _ _ _ z => z) (pa_cons (pv 1) (pa_cons (pv 9) pa_nil)))) pa_nil)))
      (pss_cons (ps_expr (pe_bm PySem.F.plainAttrs_list PySem.F.slot_list_append PySem.F.type_list_append mt_append (pv 7) (pa_cons (pe_met M FMt gMt kMt TB rfl rfl hm hT hr rfl (lamS_by (by kernel_rfl)) rfl (fun _ _ _ _ _ => rfl) (fun A outer s H E f c' hr2 => pe_hasX (E := E) FLs hr2 (by decide) rfl (takes_of rfl rfl rfl rfl) (fun _ _ _ _ z => z) (pa_cons (pv 1) (pa_cons (pv 9) pa_nil)))) pa_nil)))
      (pss_one (ps_ret (pe_cmpR op_eq (pe_callB (call_reprD hG hr.units hS) rfl gr PyProof.Rows.boot_repr (pa_cons (pv 7) pa_nil)) (pe_callB (call_reprD hG hr.units hS) rfl gr PyProof.Rows.boot_repr (pa_cons (pe_op op_cat (pe_lst (pa_cons (pe_lst (pa_cons pe_str (pa_cons (pe_callB call_len rfl gn boot_len (pa_cons (pv 3) pa_nil)) pa_nil))) (pa_cons (pe_lst (pa_cons pe_str (pa_cons pe_int pa_nil))) pa_nil))) (pe_op op_rep (pe_lst (pa_cons (pe_lst (pa_cons pe_str (pa_cons (pv 9) pa_nil))) pa_nil)) pe_int)) pa_nil)) (nomark _))))))))))))), ?_⟩
    obtain ⟨sp, l, t, pt, ch, sa, n, k, d, d', w, rl, ps, cs, rfl, S, hn, th, gd, io, ls, keys, hch, cho, ct, csl, k3, k1, gr', grows, tabs, hQ⟩ := h
    have hnd : (rl.map (·.1)).Nodup := keys ▸ gd.end_
    have rlen : rl.length ≤ 60 := by have := congrArg List.length keys; simp only [List.length_map] at this; have := gd.elen; omega
    have psl : ps.length = cs.length := Paired.length ct
    refine ⟨by show 1 ≤ sizeLine; decide, fun a1 n1 => ⟨.int k, rfl, by show 2 ≤ sizeLine; decide, fun a2 n2 => ⟨1, rfl, by show 2 ≤ sizeLine; decide, fun a3 n3 => ⟨by show 2 ≤ sizeLine; decide, fun a4 n4 => ⟨by show 2 ≤ sizeLine; decide, fun a5 n5 => ⟨by show 2 ≤ sizeLine; decide, fun a6 n6 => ⟨by show 3 ≤ sizeLine; decide, fun a7 n7 => ⟨by show 2 ≤ sizeLine; decide, fun a8 n8 => ⟨by show 11 ≤ sizeLine; decide, fun ol nol => ?_⟩⟩⟩⟩⟩⟩⟩⟩⟩
    have x1 : Ex H (upd (upd (upd (upd (upd (upd (upd (upd (upd H a1 (.tup [.int 0])) a2 (.tup [.int (k : Nat), .str "e"])) a3 (.tup [.int (-1), .str "e"])) a4 (.tup [.bl true, .str "e"])) a5 (.tup [.int 0, .str "none"])) a6 (.tup [.int 0, .int 5])) a7 (.tup [.int 0, .str "e", .int 0])) a8 (.tup [.str "0", .str "e"])) ol (.lst [V.non, .int 5, .str "p", .ref a1, .ref a2, .ref a3, .ref a4, .ref a5, .ref a6, .ref a7, .ref a8])) := (Ex.new n1).trans ((Ex.new n2).trans ((Ex.new n3).trans ((Ex.new n4).trans ((Ex.new n5).trans ((Ex.new n6).trans ((Ex.new n7).trans ((Ex.new n8).trans (Ex.new nol))))))))
    have hol : (upd (upd (upd (upd (upd (upd (upd (upd (upd H a1 (.tup [.int 0])) a2 (.tup [.int (k : Nat), .str "e"])) a3 (.tup [.int (-1), .str "e"])) a4 (.tup [.bl true, .str "e"])) a5 (.tup [.int 0, .str "none"])) a6 (.tup [.int 0, .int 5])) a7 (.tup [.int 0, .str "e", .int 0])) a8 (.tup [.str "0", .str "e"])) ol (.lst [V.non, .int 5, .str "p", .ref a1, .ref a2, .ref a3, .ref a4, .ref a5, .ref a6, .ref a7, .ref a8])) ol = some (.lst [V.non, .int 5, .str "p", .ref a1, .ref a2, .ref a3, .ref a4, .ref a5, .ref a6, .ref a7, .ref a8]) := upd_same
    have odd1 : ∀ v ∈ [V.non, .int 5, .str "p", .ref a1, .ref a2, .ref a3, .ref a4, .ref a5, .ref a6, .ref a7, .ref a8], OddC (upd (upd (upd (upd (upd (upd (upd (upd (upd H a1 (.tup [.int 0])) a2 (.tup [.int (k : Nat), .str "e"])) a3 (.tup [.int (-1), .str "e"])) a4 (.tup [.bl true, .str "e"])) a5 (.tup [.int 0, .str "none"])) a6 (.tup [.int 0, .int 5])) a7 (.tup [.int 0, .str "e", .int 0])) a8 (.tup [.str "0", .str "e"])) ol (.lst [V.non, .int 5, .str "p", .ref a1, .ref a2, .ref a3, .ref a4, .ref a5, .ref a6, .ref a7, .ref a8])) k rl v := fun v m => by
      simp only [List.mem_cons, List.mem_nil_iff, or_false] at m
      rcases m with rfl | rfl | rfl | rfl | rfl | rfl | rfl | rfl | rfl | rfl | rfl
      · exact .non
      · exact .int
      · exact .str
      · exact .one _ ((Ex.new nol) _ _ ((Ex.new n8) _ _ ((Ex.new n7) _ _ ((Ex.new n6) _ _ ((Ex.new n5) _ _ ((Ex.new n4) _ _ ((Ex.new n3) _ _ ((Ex.new n2) _ _ upd_same))))))))
      · exact .big _ ((Ex.new nol) _ _ ((Ex.new n8) _ _ ((Ex.new n7) _ _ ((Ex.new n6) _ _ ((Ex.new n5) _ _ ((Ex.new n4) _ _ ((Ex.new n3) _ _ upd_same)))))))
      · exact .neg _ ((Ex.new nol) _ _ ((Ex.new n8) _ _ ((Ex.new n7) _ _ ((Ex.new n6) _ _ ((Ex.new n5) _ _ ((Ex.new n4) _ _ upd_same))))))
      · exact .bl _ ((Ex.new nol) _ _ ((Ex.new n8) _ _ ((Ex.new n7) _ _ ((Ex.new n6) _ _ ((Ex.new n5) _ _ upd_same)))))
      · exact .none _ ((Ex.new nol) _ _ ((Ex.new n8) _ _ ((Ex.new n7) _ _ ((Ex.new n6) _ _ upd_same))))
      · exact .num _ ((Ex.new nol) _ _ ((Ex.new n8) _ _ ((Ex.new n7) _ _ upd_same)))
      · exact .three _ ((Ex.new nol) _ _ ((Ex.new n8) _ _ upd_same))
      · exact .word _ ((Ex.new nol) _ _ upd_same)
    have olH : H ol = none := Ex.none ((Ex.new n1).trans ((Ex.new n2).trans ((Ex.new n3).trans ((Ex.new n4).trans ((Ex.new n5).trans ((Ex.new n6).trans ((Ex.new n7).trans (Ex.new n8)))))))) nol
    have ne1 : [V.non, .int 5, .str "p", .ref a1, .ref a2, .ref a3, .ref a4, .ref a5, .ref a6, .ref a7, .ref a8] ≠ [] := fun z => nomatch z
    have le1 : ([V.non, .int 5, .str "p", .ref a1, .ref a2, .ref a3, .ref a4, .ref a5, .ref a6, .ref a7, .ref a8] : List V).length = 11 := rfl
    generalize (upd (upd (upd (upd (upd (upd (upd (upd (upd H a1 (.tup [.int 0])) a2 (.tup [.int (k : Nat), .str "e"])) a3 (.tup [.int (-1), .str "e"])) a4 (.tup [.bl true, .str "e"])) a5 (.tup [.int 0, .str "none"])) a6 (.tup [.int 0, .int 5])) a7 (.tup [.int 0, .str "e", .int 0])) a8 (.tup [.str "0", .str "e"])) ol (.lst [V.non, .int 5, .str "p", .ref a1, .ref a2, .ref a3, .ref a4, .ref a5, .ref a6, .ref a7, .ref a8])) = G1 at x1 hol odd1 ⊢
    generalize [V.non, .int 5, .str "p", .ref a1, .ref a2, .ref a3, .ref a4, .ref a5, .ref a6, .ref a7, .ref a8] = oL at hol odd1 ne1 le1 ⊢
    -- those who wait
    refine ⟨.ref ol, rfl, .inl ⟨rfl, _, .inl (.inl hol)⟩, ?_⟩
    refine cons_one (op_one ?_)
    refine wait_go (k := k) (ls.ex x1) hnd rlen (by omega) fun wl G2 ws x2 nwl hwl wodd wlen => ?_
    refine ⟨wl, 3, ws, rfl, rfl, hwl, by decide, by decide, by rw [sizeLine_eq]; show ws.length * 3 ≤ _; omega, fun b3 nb3 => ?_⟩
    have fl3 : (List.replicate (3 : Int).toNat ws).flatten = ws ++ (ws ++ (ws ++ [])) := rfl
    rw [fl3]
    have x3 : Ex G2 (upd G2 b3 (.lst (ws ++ (ws ++ (ws ++ []))))) := Ex.new nb3
    have hol3 := x3 _ _ (x2 _ _ hol)
    refine ⟨ol, b3, _, _, rfl, rfl, hol3, upd_same, by rw [sizeLine_eq, le1]; simp only [List.length_append, List.length_nil]; omega, ?_⟩
    have keep : ∀ {a : Addr} {xs : List V} {o : HO}, upd G2 b3 (.lst (ws ++ (ws ++ (ws ++ [])))) a = some (.tup xs) → upd (upd G2 b3 (.lst (ws ++ (ws ++ (ws ++ []))))) ol o a = some (.tup xs) := fun {a xs o} e => (upd_ne fun z => by rw [z, hol3] at e; cases e).trans e
    have oddW : ∀ v ∈ ws, OddC (upd (upd G2 b3 (.lst (ws ++ (ws ++ (ws ++ []))))) ol (.lst (oL ++ (ws ++ (ws ++ (ws ++ [])))))) k rl v := fun v m => (wodd v m).keep fun _ _ e => keep (x3 _ _ e)
    have odd4 : ∀ v ∈ oL ++ (ws ++ (ws ++ (ws ++ []))), OddC (upd (upd G2 b3 (.lst (ws ++ (ws ++ (ws ++ []))))) ol (.lst (oL ++ (ws ++ (ws ++ (ws ++ [])))))) k rl v := fun v m => by
      rcases List.mem_append.mp m with m | m
      · exact (odd1 v m).keep fun _ _ e => keep (x3 _ _ (x2 _ _ e))
      · rcases List.mem_append.mp m with m | m
        · exact oddW v m
        · rcases List.mem_append.mp m with m | m
          · exact oddW v m
          · rcases List.mem_append.mp m with m | m
            · exact oddW v m
            · cases m
    have x4 : Ex H (upd (upd G2 b3 (.lst (ws ++ (ws ++ (ws ++ []))))) ol (.lst (oL ++ (ws ++ (ws ++ (ws ++ [])))))) := fun b o e => (upd_ne fun z => by rw [z, olH] at e; cases e).trans (x3 _ _ (x2 _ _ (x1 _ _ e)))
    have hol4 : upd (upd G2 b3 (.lst (ws ++ (ws ++ (ws ++ []))))) ol (.lst (oL ++ (ws ++ (ws ++ (ws ++ []))))) ol = some (.lst (oL ++ (ws ++ (ws ++ (ws ++ []))))) := upd_same
    have ne4 : oL ++ (ws ++ (ws ++ (ws ++ []))) ≠ [] := fun z => ne1 (List.append_eq_nil_iff.mp z).1
    have le4 : (oL ++ (ws ++ (ws ++ (ws ++ [])))).length ≤ 100 := by simp only [List.length_append, List.length_nil]; omega
    generalize upd (upd G2 b3 (.lst (ws ++ (ws ++ (ws ++ []))))) ol (.lst (oL ++ (ws ++ (ws ++ (ws ++ []))))) = G4 at odd4 x4 hol4 ⊢
    generalize oL ++ (ws ++ (ws ++ (ws ++ []))) = o4 at odd4 hol4 ne4 le4 ⊢
    clear x3 hol3 nb3 nwl hwl wodd x2 x1 hol odd1 keep oddW
    have olo := S.off olH
    have S4 := S.ex x4
    -- the draws
    refine ⟨RMid37 C sp l t pt ch sa ol n k ps cs d' rl T H, ?_, fun σ2 H2 mid => ?_⟩
    · refine ⟨.ref ch, rfl, .ref sp, rfl, .ref ol, rfl, sp, l, ol, n, o4, rfl, S4, by omega, olo.1, olo.2, hol4, ne4, by omega, fun z G5 mz x5 S5 => ⟨by show 2 ≤ sizeLine; decide, fun b1 nb1 => ?_⟩⟩
      have y5 := x4.exS.trans x5
      have hch5 := y5 _ _ cho.1 cho.2 hch
      have oz := (odd4 z mz).keep fun _ _ e => x5.non S4 e fun _ q => nomatch q
      have x6 : Ex G5 (upd G5 b1 (.lst [z, .non])) := Ex.new nb1
      refine ⟨ch, b1, _, _, rfl, rfl, x6 _ _ hch5, upd_same, by rw [List.length_map, sizeLine_eq]; show ps.length + 2 ≤ _; omega, fun bl nbl => ?_⟩
      have x7 : Ex G5 (upd (upd G5 b1 (.lst [z, .non])) bl (.lst (ps.map V.ref ++ [z, .non]))) := x6.trans (Ex.new nbl)
      have hbl : upd (upd G5 b1 (.lst [z, .non])) bl (.lst (ps.map V.ref ++ [z, .non])) bl = some (.lst (ps.map V.ref ++ [z, .non])) := upd_same
      have blo := (S5.ex x6).off nbl
      generalize upd (upd G5 b1 (.lst [z, .non])) bl (.lst (ps.map V.ref ++ [z, .non])) = G7 at x7 hbl ⊢
      have S7 := S5.ex x7
      refine ⟨.ref sp, rfl, 1, rfl, by show 1 ≤ sizeLine; decide, fun e1 ne1' => fun e2 ne2 => ⟨by show 7 ≤ sizeLine; decide, fun nl nnl => ?_⟩⟩
      have x8 : Ex G7 (upd (upd (upd G7 e1 (.lst [.int 1])) e2 (.dK [])) nl (.lst [.non, .int 0, .int (-1), .bl true, .str "1", .ref e1, .ref e2])) := ((Ex.new ne1').trans (Ex.new ne2)).trans (Ex.new nnl)
      have he1 : upd (upd (upd G7 e1 (.lst [.int 1])) e2 (.dK [])) nl (.lst [.non, .int 0, .int (-1), .bl true, .str "1", .ref e1, .ref e2]) e1 = some (.lst [.int 1]) := (Ex.new nnl) _ _ ((Ex.new ne2) _ _ upd_same)
      have he2 : upd (upd (upd G7 e1 (.lst [.int 1])) e2 (.dK [])) nl (.lst [.non, .int 0, .int (-1), .bl true, .str "1", .ref e1, .ref e2]) e2 = some (.dK []) := (Ex.new nnl) _ _ upd_same
      have hnl : upd (upd (upd G7 e1 (.lst [.int 1])) e2 (.dK [])) nl (.lst [.non, .int 0, .int (-1), .bl true, .str "1", .ref e1, .ref e2]) nl = some (.lst [.non, .int 0, .int (-1), .bl true, .str "1", .ref e1, .ref e2]) := upd_same
      have e1o := S7.off ne1'
      have nlo := (S7.ex ((Ex.new ne1').trans (Ex.new ne2))).off nnl
      generalize upd (upd (upd G7 e1 (.lst [.int 1])) e2 (.dK [])) nl (.lst [.non, .int 0, .int (-1), .bl true, .str "1", .ref e1, .ref e2]) = G8 at x8 he1 he2 hnl ⊢
      have S8 := S7.ex x8
      refine ⟨sp, l, nl, n + 1, _, rfl, S8, by omega, nlo.1, nlo.2, hnl, (fun z => nomatch z), by show 7 ≤ 1000; decide, fun num G9 mn x9 S9 => ⟨by show 2 ≤ sizeLine; decide, fun tp ntp => ?_⟩⟩
      have x10 : Ex G9 (upd G9 tp (.tup [.ref bl, num])) := Ex.new ntp
      have hn : ∃ nd, NumV sp l G8 num nd := by
        simp only [List.mem_cons, List.mem_nil_iff, or_false] at mn
        rcases mn with rfl | rfl | rfl | rfl | rfl | rfl | rfl
        · exact ⟨_, .non⟩
        · exact ⟨_, .int 0 (.inl rfl)⟩
        · exact ⟨_, .int (-1) (.inr rfl)⟩
        · exact ⟨_, .bl⟩
        · exact ⟨_, .str⟩
        · exact ⟨_, .lst e1 he1 e1o⟩
        · exact ⟨_, .dct e2 he2⟩
      obtain ⟨nd, hn⟩ := hn
      have y9 : ExS sp l G5 (upd G9 tp (.tup [.ref bl, num])) := (x7.trans x8).exS.trans (x9.trans x10.exS)
      have y10 := y5.trans y9
      refine ⟨tp, _, rfl, .inl (.inl upd_same), rfl, .ref bl, [num], rfl, num, [], rfl, rfl, bl, num, z, nd, n + 1 + 1, rfl, y10.sn, by omega, Tabs.exS y10 S tabs, S9.ex x10, th.sn y10.sn S, y10 _ _ cho.1 cho.2 hch, cho, ?_, blo, ?_, ?_, ?_⟩
      · exact x10 _ _ (x9 _ _ blo.1 blo.2 (x8 _ _ hbl))
      · exact Paired.mapP ct fun _ _ e => y10.non S e fun _ q => nomatch q
      · exact oz.keep fun _ _ e => y9.non S5 e fun _ q => nomatch q
      · exact hn.sn (x9.trans x10.exS).sn S8
    · obtain ⟨bl, num, z, nd, m, rfl, x2, hm10, tb2, A2⟩ := mid
      obtain ⟨ms, EO⟩ := ord_E gd.fit io
      have dok := ord_ok gd io
      have nlen : d'.names.length < 64 := by rw [(ord_names io).length_eq]; have := gd.nlen; omega
      have esf : d'.ents.map (·.1) = ms := by
        rw [EO.ents, List.map_map]
        exact (List.map_congr_left fun _ _ => rfl).trans (List.map_id _)
      have elen : d'.ents.length ≤ 60 := by
        have := congrArg List.length esf
        rw [List.length_map, EO.pm.length_eq, List.length_map] at this
        have := gd.elen
        omega
      have end_ : (d'.ents.map (·.1)).Nodup := by rw [esf]; exact EO.pm.nodup_iff.mpr gd.end_
      have hw : ∀ c, waits (goneRun d' (st0 d') cs).1.2 c = lwaits rl c := fun c => by
        rw [grows]
        exact waits_same (by rw [esf, keys]; exact EO.pm) hnd c
      have nno : ("none" : Str) ∉ d'.names := fun q => absurd (gd.nsub _ ((ord_names io).mem_iff.mp q)) (by decide +kernel)
      have go : ∀ {E : XK} {G : Hp} {mm : Nat} {Q' : VK}, Amb C sp l t ch k bl ps cs num nd z d' rl G mm → Rz E G CB [("index", .int (cs.length : Nat))] → spGoneOnX K C CN CB [.ref t, .int k, .ref bl] G Q' E := fun A rz =>
        ⟨t, d', .int k, .ref bl, rfl, A.th, dok, nlen, elen, end_, .inr (.inr ⟨k, bl, _, cs, rfl, by omega, rfl, .inl (.inl (.inl A.hbl)), by omega, calls_at A.ct _, gr', .inr ⟨z, calls_end psl, A.odd.bad hw nno, rz⟩⟩)⟩
      dsimp only
      refine seq_asg (lst_one (cons_one ?_))
      refine lamB (v := .int (cs.length : Nat)) tb2 (fun E H1 Q' y1 t1 rz => ?_) fun p H1 y1 t1 np hp => ?_
      · exact ⟨.ref t, rfl, .int k, rfl, .ref bl, rfl, go (A2.sn (exN_sn y1) (A2.S.exN y1)) rz⟩
      refine ⟨by show 1 ≤ sizeLine; decide, fun fl nfl => ?_⟩
      have S1 := A2.S.exN y1
      have F := Fo.first (x := "calls") S1 (exN_sn y1) t1 (np.spr A2.S) hp nfl
      have S := S1.new (o := .lst [.ref p]) nfl
      generalize upd H1 fl (.lst [.ref p]) = G at F S ⊢
      clear S1 nfl hp np t1 y1
      obtain ⟨xs, hx, hxl⟩ := F.lst
      have A := A2.sn F.ex S
      refine ⟨.ref fl, rfl, .inl ⟨rfl, xs, .inl (.inl hx)⟩, ?_⟩
      refine cons_one ?_
      refine lamS (m := m + 1) (v := .int 0) A.S F.tabs (fun E H1 Q' y1 t1 rz => ?_) fun p H1 y1 S1 t1 np hp => ?_
      · have A1 := A.sn (exN_sn y1) (A.S.exN y1)
        refine ⟨.ref t, rfl, .int k, rfl, .ref sp, rfl, fun ed ned => ⟨by show 4 ≤ sizeLine; decide, fun nl nnl => ?_⟩⟩
        have xl : Ex H1 (upd (upd H1 ed (.dK [])) nl (.lst [.non, .int 5, .str "ab", .ref ed])) := (Ex.new ned).trans (Ex.new nnl)
        have hed : upd (upd H1 ed (.dK [])) nl (.lst [.non, .int 5, .str "ab", .ref ed]) ed = some (.dK []) := (Ex.new nnl) _ _ upd_same
        have nlo := (A1.S.new ned).off nnl
        refine ⟨sp, l, nl, m, _, rfl, A1.S.ex xl, by omega, nlo.1, nlo.2, upd_same, (fun z => nomatch z), by show 4 ≤ 1000; decide, fun v G3 mv x3 S3 => ?_⟩
        have kd : ∃ T, Kd K G3 v T ∧ isLt T = false := by
          simp only [List.mem_cons, List.mem_nil_iff, or_false] at mv
          rcases mv with rfl | rfl | rfl | rfl
          · exact ⟨"NoneType", ⟨by decide, .base .non, fun x z => nomatch z⟩, by decide +kernel⟩
          · exact ⟨"int", int_kd, by decide +kernel⟩
          · exact ⟨"str", str_kd (by decide +kernel), by decide +kernel⟩
          · exact ⟨"dict", ⟨by decide, .base (.dK (x3.non (A1.S.ex xl) hed fun _ z => nomatch z)), fun x z => nomatch z⟩, by decide +kernel⟩
        obtain ⟨T', kd, nlt⟩ := kd
        have A3 := A1.sn (xl.exS.trans x3).sn S3
        exact ⟨t, d', .int k, v, rfl, A3.th, dok, nlen, elen, end_, .inr (.inl ⟨k, T', rfl, by omega, kd, nlt, rz G3 (xl.exS.trans x3) S3⟩)⟩
      have hx1 := (y1).lst hx F.off
      refine ⟨fl, xs, .ref p, rfl, rfl, hx1, by rw [sizeLine_eq, hxl]; show 1 < _; decide, ?_⟩
      have F2 := F.app (x := "calls") y1 t1 np (np.spr A.S) hp hx1
      have S2 := S1.put (o := .lst (xs ++ [.ref p])) F.off
      clear F S A
      generalize upd H1 fl (.lst (xs ++ [.ref p])) = K1 at F2 S2 ⊢
      clear hx1 hp np t1 y1 hxl hx xs
      have F := F2
      have S := S2
      clear F2 S2
      obtain ⟨xs, hx, hxl⟩ := F.lst
      have A := A2.sn F.ex S
      refine ⟨.ref fl, rfl, .inl ⟨rfl, xs, .inl (.inl hx)⟩, ?_⟩
      refine cons_one ?_
      refine lamN (v := num) F.tabs (fun E H1 Q' y1 t1 rz => ?_) fun p H1 y1 t1 np hp => ?_
      · have A1 := A.sn (exN_sn y1) (A.S.exN y1)
        refine ⟨.ref t, rfl, num, rfl, by show 1 ≤ sizeLine; decide, fun e ne => ?_⟩
        have xe : Ex H1 (upd H1 e (.lst [.non])) := Ex.new ne
        obtain ⟨T', kd⟩ := A1.num.kd (K := K)
        exact ⟨t, d', num, .ref e, rfl, A1.th.ex xe, dok, nlen, elen, end_, .inl ⟨T', kd.ex xe, A1.num.pos, rz.ex xe⟩⟩
      have hx1 := ((exN_sn y1)).lst hx F.off
      refine ⟨fl, xs, .ref p, rfl, rfl, hx1, by rw [sizeLine_eq, hxl]; show 2 < _; decide, ?_⟩
      have F2 := F.app (x := "number") (exN_sn y1) t1 np (np.spr A.S) hp hx1
      have S2 := (A.S.exN y1).put (o := .lst (xs ++ [.ref p])) F.off
      clear F S A
      generalize upd H1 fl (.lst (xs ++ [.ref p])) = K2 at F2 S2 ⊢
      clear hx1 hp np t1 y1 hxl hx xs
      have F := F2
      have S := S2
      clear F2 S2
      obtain ⟨xs, hx, hxl⟩ := F.lst
      have A := A2.sn F.ex S
      refine ⟨.ref fl, rfl, .inl ⟨rfl, xs, .inl (.inl hx)⟩, ?_⟩
      refine cons_one ?_
      refine lamN (v := num) F.tabs (fun E H1 Q' y1 t1 rz => ?_) fun p H1 y1 t1 np hp => ?_
      · have A1 := A.sn (exN_sn y1) (A.S.exN y1)
        obtain ⟨T', kd⟩ := A1.num.kd (K := K)
        refine ⟨.ref t, rfl, by show 1 ≤ sizeLine; decide, fun v1 nv1 => fun d1 nd1 => fun d2 nd2 => ⟨upd_same, [(.inr "a", .str "a")], rfl, by show 1 ≤ 15; decide, ?_⟩⟩
        have xA : Ex H1 (upd H1 v1 (.lst [.str "a"])) := Ex.new nv1
        have hv1 : upd H1 v1 (.lst [.str "a"]) v1 = some (.lst [.str "a"]) := upd_same
        generalize upd H1 v1 (.lst [.str "a"]) = HA at xA hv1 nd1 nd2 ⊢
        have n21 : d1 ≠ d2 := fun z => by rw [← z, upd_same] at nd2; cases nd2
        have nd2A : HA d2 = none := (Ex.new nd1).none nd2
        have h1 : upd (upd (upd HA d1 (.dK [])) d2 (.dK [])) d2 (.dK (mergeK [] [(.inr "a", .str "a")])) d1 = some (.dK []) := (upd_ne n21).trans ((upd_ne n21).trans upd_same)
        refine ⟨h1, [(.inr "zz", .ref d2)], rfl, by show 1 ≤ 15; decide, ?_⟩
        have xB : Ex HA (upd (upd (upd (upd HA d1 (.dK [])) d2 (.dK [])) d2 (.dK (mergeK [] [(.inr "a", .str "a")]))) d1 (.dK (mergeK [] [(.inr "zz", .ref d2)]))) := fun b o e => (upd_ne fun z => by rw [z, nd1] at e; cases e).trans ((upd_ne fun z => by rw [z, nd2A] at e; cases e).trans ((upd_ne fun z => by rw [z, nd2A] at e; cases e).trans ((upd_ne fun z => by rw [z, nd1] at e; cases e).trans e)))
        have hB1 : upd (upd (upd (upd HA d1 (.dK [])) d2 (.dK [])) d2 (.dK (mergeK [] [(.inr "a", .str "a")]))) d1 (.dK (mergeK [] [(.inr "zz", .ref d2)])) d1 = some (.dK [(.inr "zz", .ref d2)]) := upd_same
        have hB2 : upd (upd (upd (upd HA d1 (.dK [])) d2 (.dK [])) d2 (.dK (mergeK [] [(.inr "a", .str "a")]))) d1 (.dK (mergeK [] [(.inr "zz", .ref d2)])) d2 = some (.dK [(.inr "a", .str "a")]) := (upd_ne (Ne.symm n21)).trans upd_same
        generalize upd (upd (upd (upd HA d1 (.dK [])) d2 (.dK [])) d2 (.dK (mergeK [] [(.inr "a", .str "a")]))) d1 (.dK (mergeK [] [(.inr "zz", .ref d2)])) = HB at xB hB1 hB2 ⊢
        refine fun d3 nd3 => fun x dx nx ndx nex => ?_
        have xC : Ex HB (upd HB d3 (.dK [])) := Ex.new nd3
        have h3 : upd HB d3 (.dK []) d3 = some (.dK []) := upd_same
        generalize upd HB d3 (.dK []) = HC at xC h3 nx ndx ⊢
        have xD : Ex HC (upd (upd HC dx (.own x)) x (.ins C dx [])) := fun b o e => (upd_ne fun z => by rw [z, nx] at e; cases e).trans ((upd_ne fun z => by rw [z, ndx] at e; cases e).trans e)
        have xCD := xC.trans xD
        refine ⟨x, dx, v1, d1, d3, d0, rfl, upd_same, .inl (.inl (xCD _ _ (xB _ _ hv1))), ⟨_, xCD _ _ hB1, .cons ⟨rfl, d2, rfl, xCD _ _ hB2⟩ .nil⟩, ⟨_, xD _ _ h3, .nil⟩, fit0, fun H' d'' xa _ _ => ⟨rfl, num, rfl, .ref t, .ref x, num, T', rfl, ?_⟩⟩
        have nxH : H1 x = none := (xA.trans (xB.trans xC)).none nx
        have xF : Ex H1 H' := fun b o e => xa _ _ (fun z => by rw [z, nxH] at e; cases e) (xCD _ _ (xB _ _ (xA _ _ e)))
        exact ⟨kd.ex xF, A1.num.pos, rz.ex xF⟩
      have hx1 := ((exN_sn y1)).lst hx F.off
      refine ⟨fl, xs, .ref p, rfl, rfl, hx1, by rw [sizeLine_eq, hxl]; show 3 < _; decide, ?_⟩
      have F2 := F.app (x := "number") (exN_sn y1) t1 np (np.spr A.S) hp hx1
      have S2 := (A.S.exN y1).put (o := .lst (xs ++ [.ref p])) F.off
      clear F S A
      generalize upd H1 fl (.lst (xs ++ [.ref p])) = K3 at F2 S2 ⊢
      clear hx1 hp np t1 y1 hxl hx xs
      have F := F2
      have S := S2
      clear F2 S2
      obtain ⟨xs, hx, hxl⟩ := F.lst
      have A := A2.sn F.ex S
      refine ⟨.ref fl, rfl, .inl ⟨rfl, xs, .inl (.inl hx)⟩, ?_⟩
      refine cons_one ?_
      refine lamN (v := num) F.tabs (fun E H1 Q' y1 t1 rz => ?_) fun p H1 y1 t1 np hp => ?_
      · have A1 := A.sn (exN_sn y1) (A.S.exN y1)
        obtain ⟨T', kd⟩ := A1.num.kd (K := K)
        exact ⟨.ref t, rfl, num, rfl, .ref t, num, T', rfl, kd, A1.num.pos, rz⟩
      have hx1 := ((exN_sn y1)).lst hx F.off
      refine ⟨fl, xs, .ref p, rfl, rfl, hx1, by rw [sizeLine_eq, hxl]; show 4 < _; decide, ?_⟩
      have F2 := F.app (x := "number") (exN_sn y1) t1 np (np.spr A.S) hp hx1
      have S2 := (A.S.exN y1).put (o := .lst (xs ++ [.ref p])) F.off
      clear F S A
      generalize upd H1 fl (.lst (xs ++ [.ref p])) = K4 at F2 S2 ⊢
      clear hx1 hp np t1 y1 hxl hx xs
      have F := F2
      have S := S2
      clear F2 S2
      obtain ⟨xs, hx, hxl⟩ := F.lst
      have A := A2.sn F.ex S
      refine ⟨.ref fl, rfl, .inl ⟨rfl, xs, .inl (.inl hx)⟩, ?_⟩
      refine cons_one ?_
      refine lamN (v := num) F.tabs (fun E H1 Q' y1 t1 rz => ?_) fun p H1 y1 t1 np hp => ?_
      · have A1 := A.sn (exN_sn y1) (A.S.exN y1)
        obtain ⟨T', kd⟩ := A1.num.kd (K := K)
        exact ⟨.ref t, rfl, num, rfl, .ref t, num, T', rfl, kd, A1.num.pos, rz⟩
      have hx1 := ((exN_sn y1)).lst hx F.off
      refine ⟨fl, xs, .ref p, rfl, rfl, hx1, by rw [sizeLine_eq, hxl]; show 5 < _; decide, ?_⟩
      have F2 := F.app (x := "number") (exN_sn y1) t1 np (np.spr A.S) hp hx1
      have S2 := (A.S.exN y1).put (o := .lst (xs ++ [.ref p])) F.off
      clear F S A
      generalize upd H1 fl (.lst (xs ++ [.ref p])) = K5 at F2 S2 ⊢
      clear hx1 hp np t1 y1 hxl hx xs
      have F := F2
      have S := S2
      clear F2 S2
      have A := A2.sn F.ex S
      obtain ⟨ps2, hf, pr⟩ := F.all
      have sh := found_ok (k := cs.length) (by omega) A.num
      refine ⟨.ref fl, rfl, fl, 4, foundD cs.length nd, rfl, found_rd hf pr A.num.rd, sh.1, sh.2.1, sh.2.2, ?_⟩
      refine ⟨.ref ch, rfl, .ref ch, cs.length, rfl, .inl ⟨_, .inl (.inl A.hch), by rw [List.length_map, psl]⟩, by show 2 ≤ sizeLine; decide, fun i1 ni1 => ⟨by show 2 ≤ sizeLine; decide, fun i2 ni2 => ⟨by show 2 ≤ sizeLine; decide, fun i3 ni3 => ⟨num, rfl, by show 2 ≤ sizeLine; decide, fun j1 nj1 => ⟨by show 1 ≤ sizeLine; decide, fun j2 nj2 => ⟨j2, 4, [.ref j1], rfl, rfl, upd_same, by decide, by decide, by show 1 * 4 ≤ sizeLine; decide, fun j3 nj3 => ?_⟩⟩⟩⟩⟩⟩
      have z1 := Ex.new (o := .lst [.str "calls", .int (cs.length : Nat)]) ni1
      have z2 := Ex.new (o := .lst [.str "calls", .int 0]) ni2
      have z3 := Ex.new (o := .lst [.ref i1, .ref i2]) ni3
      have z4 := Ex.new (o := .lst [.str "number", num]) nj1
      have z5 := Ex.new (o := .lst [.ref j1]) nj2
      have z6 := Ex.new (o := .lst (List.replicate (4 : Int).toNat [V.ref j1]).flatten) nj3
      refine ⟨i3, j3, [.ref i1, .ref i2], _, rfl, rfl, z6 _ _ (z5 _ _ (z4 _ _ upd_same)), upd_same, by show 2 + 4 ≤ sizeLine; decide, fun r nr => ?_⟩
      have z7 := Ex.new (o := .lst ([V.ref i1, .ref i2] ++ (List.replicate (4 : Int).toNat [V.ref j1]).flatten)) nr
      have e1 := z7 _ _ (z6 _ _ (z5 _ _ (z4 _ _ (z3 _ _ (z2 _ _ (upd_same : upd _ i1 (.lst [.str "calls", .int (cs.length : Nat)]) i1 = _))))))
      have e2 := z7 _ _ (z6 _ _ (z5 _ _ (z4 _ _ (z3 _ _ (upd_same : upd _ i2 (.lst [.str "calls", .int 0]) i2 = _)))))
      have e3 := z7 _ _ (z6 _ _ (z5 _ _ (upd_same : upd _ j1 (.lst [.str "number", num]) j1 = _)))
      have zz := z1.trans (z2.trans (z3.trans (z4.trans (z5.trans (z6.trans z7)))))
      have nr4 := (A.num.sn zz.sn A.S).rd
      have hr : ∀ G : Hp, G r = some (.lst ([V.ref i1, .ref i2] ++ (List.replicate (4 : Int).toNat [V.ref j1]).flatten)) → G r = some (.lst [.ref i1, .ref i2, .ref j1, .ref j1, .ref j1, .ref j1]) := fun _ h => h
      refine ⟨r, 4, foundD cs.length nd, rfl, ⟨r, _, rfl, hr _ upd_same, .cons (it_rd e1 rfl) (.cons (it_rd e2 rfl) (.cons (it_rd e3 nr4) (.cons (it_rd e3 nr4) (.cons (it_rd e3 nr4) (.cons (it_rd e3 nr4) .nil)))))⟩, sh.1, sh.2.1, sh.2.2, rfl, ?_⟩
      rw [decide_eq_true rfl]
      exact hQ _ _ (by omega) (x2.trans (F.ex.trans zz.sn)) (S.ex zz) (zz.tabs F.tabs)
end
end TH

/-! C14: the law, plainly -/
namespace TH
open PySem PySem.Spec PyProof.Rows L2 LamV LamX XK0
open C8 (pss_cut tCut)
abbrev sLaw37 : Stmt := top 58
theorem Tabs.putL {H : Hp} {p : Addr} {xs : List V} {o : HO} {T : List (Addr × Str)} (h : H p = some (.lst xs)) (t : Tabs T H) : Tabs T (upd H p o) := fun q hq => by
  obtain ⟨rs, h1, h2, h3⟩ := t q hq
  refine ⟨rs, (upd_ne fun z => by rw [z, h] at h1; cases h1).trans h1, h2, fun pos cv hc => ?_⟩
  obtain ⟨c, e1, e2⟩ := h3 pos cv hc
  exact ⟨c, e1, (upd_ne fun z => by rw [z, h] at e2; cases e2).trans e2⟩
theorem extN_put {H H' : Hp} {p : Addr} {o : HO} (x : ExtN H H') (n : NewP H p) : ExtN H (upd H' p o) := fun b u e nt => (upd_ne fun z => n u (by rw [← z]; exact e) nt).trans (x _ _ e nt)
/-- as okG, whatever the code object is -/
theorem okGa {P : Program} {w : World} {K : PySem.W.Frag} {mg : Str → Option Value} {base : Heap} {x qual : Str} {params : Arguments} {body : List Stmt} {scope : Scope} {dvs : List V} {kws : List (Str × V)} {f : Addr} {fd : FuncData} {CX : CXT} {N ps : List Str} {k : Nat} {sp : Sp}
    (F : FunD K x qual params body scope dvs kws f fd) (S : FnScope N ps scope) (len : ∀ vs H Q E, sp vs H Q E → vs.length = ps.length)
    (hbody : ∀ (cdv : Value) (A : Around) (outer : List Env) (s : Shared) (H : Hp) (vs : List V) (Q : VK) (E : XK), A.guards = some [] → Room k (A.deeper (envOfC qual scope s.heap.objs.size f cdv)) → sp vs H Q E →
      ∃ t, PSs (cxOf CX P w K mg base N qual scope f cdv A outer s H E) body t ∧ t { nx := fun _ H' => Q .non H', rt := Q } (L2.start N vs) H) : FnOkG P w K mg base CX (k + 1) f fd ps sp := by
  obtain ⟨oc, od, dV, kV, doc, pm, an, cdv, ct, osl, rfl, lk, hcd, _, _⟩ := F.ex
  refine ⟨len, fun A outer s H args us vs Q E hG hr e0 hb r hsp => ?_⟩
  exact run_ofS lk hcd S hr e0 hb r (len _ _ _ _ hsp) fun hr' => hbody cdv A outer s H vs Q E hG hr' hsp
def spLaw37 (K : PySem.W.Frag) (T : List (Addr × Str)) : Sp := fun vs H Q _ => ∃ (a : Addr) (ns : List Int), vs = [.ref a] ∧ SqL K H a (ns.map V.int) ∧ ns.length ≤ 63 ∧ Tabs T H ∧ ∀ H', Q (.bl true) H'
/-! ### what is changed -/
structure Chg (P : Addr → Prop) (H H' : Hp) : Prop where
  non : ∀ b o, H b = some o → (∀ xs, o ≠ .lst xs) → (∀ ps, o ≠ .tbl ps) → H' b = some o
  lst : ∀ b xs, P b → H b = some (.lst xs) → H' b = some (.lst xs)
namespace Chg
variable {P : Addr → Prop} {H H' H2 : Hp}
theorem trans (x : Chg P H H') (y : Chg P H' H2) : Chg P H H2 := ⟨fun b o e n1 n2 => y.non b o (x.non b o e n1 n2) n1 n2, fun b xs p e => y.lst b xs p (x.lst b xs p e)⟩
theorem sn {sp l : Addr} {n : Nat} (S : Spr H sp l n) (hP : ∀ b, P b → b ≠ sp ∧ b ≠ l) (x : ExSN sp l H H') : Chg P H H' := ⟨fun b o e n1 n2 => x.non S e n1 n2, fun b xs p e => x.lst e (hP b p)⟩
theorem put {p : Addr} {xs : List V} {o : HO} (h : H p = some (.lst xs)) (hP : ∀ b, P b → b ≠ p) : Chg P H (upd H p o) := ⟨fun b u e n1 _ => (upd_ne fun z => n1 xs (by rw [z, h] at e; exact (Option.some.inj e).symm)).trans e, fun b ys q e => (upd_ne (hP b q)).trans e⟩
theorem ex (x : Ex H H') : Chg P H H' := ⟨fun b o e _ _ => x b o e, fun b xs _ e => x _ _ e⟩
theorem dd {a : Addr} {ls : Lds} (x : Chg P H H') (h : DD H a ls) : DD H' a ls := by
  obtain ⟨kvs, e, p⟩ := h
  exact ⟨kvs, x.non _ _ e (fun _ z => nomatch z) (fun _ z => nomatch z), Paired.mapP p fun _ _ ⟨e1, b, e2, e3⟩ => ⟨e1, b, e2, x.non _ _ e3 (fun _ z => nomatch z) (fun _ z => nomatch z)⟩⟩
theorem th {C t : Addr} {d : ThD} (x : Chg P H H') (h : IsTh H C t d) : IsTh H' C t d := by
  obtain ⟨dx, vt, dd, de, e1, e2, e3, e4⟩ := h
  exact ⟨dx, vt, dd, de, x.non _ _ e1 (fun _ z => nomatch z) (fun _ z => nomatch z), x.non _ _ e2 (fun _ z => nomatch z) (fun _ z => nomatch z), x.dd e3, x.dd e4⟩
theorem ct {ps : List Addr} {cs : List Call1} (x : Chg P H H') (h : CTs H ps cs) : CTs H' ps cs := Paired.mapP h fun _ _ e => x.non _ _ e (fun _ z => nomatch z) (fun _ z => nomatch z)
theorem sqT {K : PySem.W.Frag} {a : Addr} {xs : List V} (x : Chg P H H') (h : SqT K H a xs) : SqT K H' a xs := h.imp (Or.imp (fun z => x.non _ _ z (fun _ q => nomatch q) fun _ q => nomatch q) fun ⟨o, z⟩ => ⟨o, x.non _ _ z (fun _ q => nomatch q) fun _ q => nomatch q⟩) id
theorem ls {sa : Addr} {w : Str} {rl : LRows} (x : Chg P H H') (h : LSf P H sa w rl) : LSf P H' sa w rl := h.chg x.non x.lst
end Chg
/-- the parts, their list told by P -/
def IsPtP (P : Addr → Prop) (H : Hp) (pt : Addr) (d : ThD) : Prop := ∃ vl dd de, H pt = some (.tup [.ref vl, .str d.start, .ref dd, .ref de]) ∧ H vl = some (.lst (d.vals.map V.str)) ∧ P vl ∧ DD H dd d.deeds ∧ DD H de d.ents
theorem IsPtP.pt {P : Addr → Prop} {H : Hp} {pt : Addr} {d : ThD} (h : IsPtP P H pt d) : IsPt H pt d := by
  obtain ⟨vl, dd, de, e1, e2, _, e3, e4⟩ := h
  exact ⟨vl, dd, de, e1, e2, e3, e4⟩
theorem Chg.ptp {P : Addr → Prop} {H H' : Hp} {pt : Addr} {d : ThD} (x : Chg P H H') (h : IsPtP P H pt d) : IsPtP P H' pt d := by
  obtain ⟨vl, dd, de, e1, e2, e5, e3, e4⟩ := h
  exact ⟨vl, dd, de, x.non _ _ e1 (fun _ z => nomatch z) (fun _ z => nomatch z), x.lst _ _ e5 e2, e5, x.dd e3, x.dd e4⟩
/-- none of the four lists that change -/
def Off4 (sp l ch du b : Addr) : Prop := b ≠ sp ∧ b ≠ l ∧ b ≠ ch ∧ b ≠ du
/-- within the round: cs are the calls so far -/
structure Rnd (K : PySem.W.Frag) (C sp l t pt ch du sa : Addr) (k : Nat) (d d' : ThD) (T : List (Addr × Str)) (rl : LRows) (psc pg : List Addr) (cs : List Call1) (H : Hp) (m : Nat) : Prop where
  S : Spr H sp l m
  tabs : Tabs T H
  th : IsTh H C t d'
  ip : IsPtP (Off4 sp l ch du) H pt d
  ls : LSf (Off4 sp l ch du) H sa (goneRun d' (st0 d') cs).1.1 rl
  keys : rl.map (·.1) = d.ents.map (·.1)
  rows : (goneRun d' (st0 d') cs).1.2 = Rof d'.ents (rowV rl)
  hch : H ch = some (.lst (psc.map V.ref))
  cho : ch ≠ sp ∧ ch ≠ l
  ct : CTs H psc cs
  hdu : H du = some (.lst (pg.map V.ref))
  duo : du ≠ sp ∧ du ≠ l
  chdu : ch ≠ du
  pr : Paired (fun a g => SqT K H a (nV g)) pg (goneRun d' (st0 d') cs).2
  good : GoodRun d' k (st0 d') cs
/-- only the spring is changed -/
theorem Rnd.sn {K : PySem.W.Frag} {C sp l t pt ch du sa : Addr} {k : Nat} {d d' : ThD} {T : List (Addr × Str)} {rl : LRows} {psc pg : List Addr} {cs : List Call1} {H H' : Hp} {m m' : Nat} (R : Rnd K C sp l t pt ch du sa k d d' T rl psc pg cs H m) (x : ExSN sp l H H') (S : Spr H' sp l m') (tb : Tabs T H') : Rnd K C sp l t pt ch du sa k d d' T rl psc pg cs H' m' := by
  have c : Chg (Off4 sp l ch du) H H' := Chg.sn R.S (fun b h => ⟨h.1, h.2.1⟩) x
  exact ⟨S, tb, c.th R.th, c.ptp R.ip, c.ls R.ls, R.keys, R.rows, x.lst R.hch R.cho, R.cho, c.ct R.ct, x.lst R.hdu R.duo, R.duo, R.chdu, Paired.mapP R.pr fun _ _ z => c.sqT z, R.good⟩
theorem Rnd.exS {K : PySem.W.Frag} {C sp l t pt ch du sa : Addr} {k : Nat} {d d' : ThD} {T : List (Addr × Str)} {rl : LRows} {psc pg : List Addr} {cs : List Call1} {H H' : Hp} {m m' : Nat} (R : Rnd K C sp l t pt ch du sa k d d' T rl psc pg cs H m) (x : ExS sp l H H') (S : Spr H' sp l m') : Rnd K C sp l t pt ch du sa k d d' T rl psc pg cs H' m' := R.sn x.sn S (Tabs.exS x R.S R.tabs)
def callD (q : Call1) : PyData := .tuple [.int (q.1 : Nat), .str q.2]
theorem dp_calls {K : PySem.W.Frag} {H : Hp} : ∀ {ps : List Addr} {cs : List Call1}, CTs H ps cs → DpAll K H (ps.map V.ref) (cs.map callD)
  | _, _, .nil => .nil
  | _, _, .cons e q => .cons (.tup (.inl (.inl e)) (.cons (.int _) (.cons (.str _) .nil))) (dp_calls q)
theorem lay_calls : ∀ {cs : List Call1}, (∀ q ∈ cs, PyData.canLay0 (.str q.2) = true) → PyData.canLayAll0 (cs.map callD) = true ∧ PyData.depthAll (cs.map callD) ≤ 1
  | [], _ => ⟨rfl, by decide⟩
  | p :: r, h => by
    obtain ⟨a, b⟩ := lay_calls (cs := r) fun q m => h q (List.mem_cons_of_mem _ m)
    refine ⟨?_, ?_⟩
    · show (PyData.canLay0 (callD p) && PyData.canLayAll0 (r.map callD)) = true
      rw [a, Bool.and_true]
      show (true && (PyData.canLay0 (.str p.2) && true)) = true
      rw [h p List.mem_cons_self]
      rfl
    · show max (PyData.depth (callD p)) (PyData.depthAll (r.map callD)) ≤ 1
      have z : PyData.depth (callD p) = 1 := rfl
      rw [z]
      exact Nat.max_le.mpr ⟨by decide, b⟩
theorem shaped_calls {cs : List Call1} (h : ∀ q ∈ cs, PyData.canLay0 (.str q.2) = true) : SeqAt.shaped (.list (cs.map callD)) = true := by
  obtain ⟨a, b⟩ := lay_calls h
  have e1 : PyData.canLay0 (.list (cs.map callD)) = PyData.canLayAll0 (cs.map callD) := by unfold PyData.canLay0; rfl
  have e2 : PyData.depth (.list (cs.map callD)) = PyData.depthAll (cs.map callD) + 1 := by unfold PyData.depth; rfl
  unfold SeqAt.shaped
  rw [e1, a, e2, Bool.true_and]
  exact decide_eq_true (by omega)
theorem eqv_calls (cs : List Call1) : PyData.eqv (.list (cs.map callD)) (.list []) = decide (cs = []) := by
  cases cs with
  | nil => rfl
  | cons w r => rfl
/-! ### what is told -/
def goneD (g : List Nat) : PyData := .tuple ((g.map fun (c : Nat) => (c : Int)).map PyData.int)
theorem dp_gone {K : PySem.W.Frag} {H : Hp} : ∀ {ps : List Addr} {gs : List (List Nat)}, Paired (fun a g => SqT K H a (nV g)) ps gs → DpAll K H (ps.map V.ref) (gs.map goneD)
  | _, _, .nil => .nil
  | _, _, .cons e q => .cons (.tup e (ints_map _ ▸ dp_ints _)) (dp_gone q)
theorem lay_gone : ∀ gs : List (List Nat), PyData.canLayAll0 (gs.map goneD) = true ∧ PyData.depthAll (gs.map goneD) ≤ 1
  | [] => ⟨rfl, by decide⟩
  | p :: r => by
    obtain ⟨a, b⟩ := lay_gone r
    obtain ⟨e1, e2⟩ := lay_ints (p.map fun (c : Nat) => (c : Int))
    refine ⟨?_, ?_⟩
    · show (PyData.canLay0 (goneD p) && PyData.canLayAll0 (r.map goneD)) = true
      rw [a, Bool.and_true]
      show PyData.canLayAll0 ((p.map fun (c : Nat) => (c : Int)).map PyData.int) = true
      exact e1
    · show max (PyData.depth (goneD p)) (PyData.depthAll (r.map goneD)) ≤ 1
      have z : PyData.depth (goneD p) = PyData.depthAll ((p.map fun (c : Nat) => (c : Int)).map PyData.int) + 1 := rfl
      rw [z, e2]
      exact Nat.max_le.mpr ⟨by decide, b⟩
theorem shaped_gone (gs : List (List Nat)) : SeqAt.shaped (.list (gs.map goneD)) = true := by
  obtain ⟨a, b⟩ := lay_gone gs
  have e1 : PyData.canLay0 (.list (gs.map goneD)) = PyData.canLayAll0 (gs.map goneD) := by unfold PyData.canLay0; rfl
  have e2 : PyData.depth (.list (gs.map goneD)) = PyData.depthAll (gs.map goneD) + 1 := by unfold PyData.depth; rfl
  unfold SeqAt.shaped
  rw [e1, a, e2, Bool.true_and]
  exact decide_eq_true (by omega)
/-- the same is told -/
theorem same_gone {K : PySem.W.Frag} {H : Hp} {p q : Addr} {ps qs : List Addr} {gs : List (List Nat)} (hp : H p = some (.lst (ps.map V.ref))) (hq : H q = some (.lst (qs.map V.ref))) (pp : Paired (fun a g => SqT K H a (nV g)) ps gs) (pq : Paired (fun a g => SqT K H a (nV g)) qs gs) : ∃ d e, Dp K H (.ref p) d ∧ Dp K H (.ref q) e ∧ SeqAt.shaped d = true ∧ SeqAt.shaped e = true ∧ PyData.eqv d e = true :=
  ⟨.list (gs.map goneD), .list (gs.map goneD), .lst (.inl (.inl hp)) (dp_gone pp), .lst (.inl (.inl hq)) (dp_gone pq), shaped_gone gs, shaped_gone gs, SeqAt.eqv_refl _ (SeqAt.canLay_of_shaped (shaped_gone gs))⟩
end TH

/-! C14B: displays of dicts; the two things that are always the same -/
namespace TH
open PySem PySem.Spec PyProof.Rows L2 LamV LamX XK0
open C8 (pss_cut tCut)
abbrev ldT (ld : Ld) : List (TE × TE) := ld.map fun p => (tC (.str p.1), tC (.str p.2))
abbrev ddT (lds : Lds) : List (TE × TE) := lds.map fun e => (tC (.str e.1), tDisp (ldT e.2))
theorem ldP_go {σ : L2.St} : ∀ {ld : Ld} {H : Hp} {Q : List (V × V) → Hp → Prop}, Q ((ldV ld).map fun kv => (kV kv.1, kv.2)) H → tPairs (ldT ld) σ H Q
  | [], _, _, h => h
  | p :: r, H, Q, h => ldP_go (ld := r) (H := H) (Q := fun ps H3 => Q ((.str p.1, .str p.2) :: ps) H3) h
theorem ld_go {σ : L2.St} {ld : Ld} {H : Hp} {Q : VK} (nd : (ld.map (·.1)).Nodup) (len : ld.length ≤ 15) (h : ∀ b H', Ex H H' → H b = none → H' b = some (.dK (ldV ld)) → Q (.ref b) H') : tDisp (ldT ld) σ H Q := fun p np =>
  ldP_go ⟨upd_same, ldV ld, rfl, by unfold ldV; rw [List.length_map]; exact len, by
    have e : mergeK [] (ldV ld) = ldV ld := merge_nd _ _ (keys_nd nd)
    rw [e]
    exact h p _ (fun b o e => (upd_ne fun z => by rw [z, np] at e; cases e).trans ((upd_ne fun z => by rw [z, np] at e; cases e).trans e)) np upd_same⟩
abbrev PRf (H0 H : Hp) (lds : Lds) (kvs : List (Key × V)) : Prop := Paired (fun (l : Str × Ld) (kv : Key × V) => kv.1 = Sum.inr l.1 ∧ ∃ b, kv.2 = .ref b ∧ H0 b = none ∧ H b = some (.dK (ldV l.2))) lds kvs
theorem ddP_go {σ : L2.St} : ∀ {lds : Lds} {H : Hp} {Q : List (V × V) → Hp → Prop}, (∀ e ∈ lds, (e.2.map (·.1)).Nodup ∧ e.2.length ≤ 15) → (∀ (kvs : List (Key × V)) (H' : Hp), Ex H H' → PRf H H' lds kvs → Q (kvs.map fun kv => (kV kv.1, kv.2)) H') → tPairs (ddT lds) σ H Q
  | [], H, _, _, h => h [] H Ex.refl .nil
  | e :: r, H, Q, ok, h => by
    show tDisp (ldT e.2) σ H fun y H2 => tPairs (ddT r) σ H2 fun ps H3 => Q ((.str e.1, y) :: ps) H3
    refine ld_go (ok e List.mem_cons_self).1 (ok e List.mem_cons_self).2 fun b H2 x2 nb hb => ?_
    refine ddP_go (fun e m => ok e (List.mem_cons_of_mem _ m)) fun kvs H3 x3 pr => ?_
    exact h ((Sum.inr e.1, .ref b) :: kvs) H3 (x2.trans x3) (.cons ⟨rfl, b, rfl, nb, x3 _ _ hb⟩ (Paired.mapP pr fun _ _ ⟨a1, b, a2, a3, a4⟩ => ⟨a1, b, a2, x2.none a3, a4⟩))
theorem dd_go {σ : L2.St} {lds : Lds} {H : Hp} {Q : VK} (nd : (lds.map (·.1)).Nodup) (len : lds.length ≤ 15) (ok : ∀ e ∈ lds, (e.2.map (·.1)).Nodup ∧ e.2.length ≤ 15) (h : ∀ p H', Ex H H' → H p = none → DD H' p lds → Q (.ref p) H') : tDisp (ddT lds) σ H Q := fun p np => by
  refine ddP_go ok fun kvs H2 x2 pr => ⟨x2 _ _ upd_same, kvs, rfl, by rw [← Paired.length pr]; exact len, ?_⟩
  have e : mergeK [] kvs = kvs := merge_nd _ _ (by rw [List.nil_append, PR.keys (H := H2) (Paired.mapP pr fun _ _ ⟨a1, b, a2, _, a4⟩ => ⟨a1, b, a2, a4⟩)]; exact nd_inr nd)
  rw [e]
  have x0 : Ex H H2 := (Ex.new np).trans x2
  refine h p _ (fun b o e => (upd_ne fun z => by rw [z, np] at e; cases e).trans (x0 _ _ e)) np ⟨kvs, upd_same, Paired.mapP pr fun _ _ ⟨a1, b, a2, a3, a4⟩ => ⟨a1, b, a2, (upd_ne fun z => ?_).trans a4⟩⟩
  rw [z, upd_same] at a3
  cases a3
/-! ### the lock, the turns -/
def lockP : ThD := ⟨["free", "held"], "free", [("drop", [("free", "free"), ("held", "free")])], [("get", [("free", "held")])]⟩
def turnP : ThD := ⟨["a", "b", "c"], "a", [("p", [("a", "b"), ("b", "b"), ("c", "c")])], [("g", [("b", "c")]), ("h", [("c", "a")])]⟩
def lockT : ThD := ⟨lockP.vals, lockP.start, ordD lockP.vals lockP.deeds ["drop"], ordD lockP.vals lockP.ents ["get"]⟩
def turnT : ThD := ⟨turnP.vals, turnP.start, ordD turnP.vals turnP.deeds ["p"], ordD turnP.vals turnP.ents ["g", "h"]⟩
theorem ord_lock {d' : ThD} (h : IsOrd lockP d') : d' = lockT := by
  obtain ⟨ns, ms, p1, s1, p2, s2, rfl⟩ := h
  obtain rfl : ns = (["drop"] : List Str) := sorted_one s1 (by decide +kernel) p1
  obtain rfl : ms = (["get"] : List Str) := sorted_one s2 (by decide +kernel) p2
  rfl
theorem ord_turn {d' : ThD} (h : IsOrd turnP d') : d' = turnT := by
  obtain ⟨ns, ms, p1, s1, p2, s2, rfl⟩ := h
  obtain rfl : ns = (["p"] : List Str) := sorted_one s1 (by decide +kernel) p1
  obtain rfl : ms = (["g", "h"] : List Str) := sorted_one s2 (by decide +kernel) p2
  rfl
theorem lookL_in {l : Ld} {v g : Str} (h : lookL l v = some g) : ∃ q ∈ l, q.2 = g := by
  unfold lookL at h
  obtain ⟨p, e, h2⟩ := Option.map_eq_some_iff.mp h
  exact ⟨p, List.mem_of_find?_eq_some e, h2⟩
theorem ok_by {d : ThD} (h1 : d.vals.length ≤ 10) (h2 : d.start ∈ d.vals) (h3 : ∀ v ∈ d.vals, PyData.canLay0 (.str v) = true) (h4 : ∀ p ∈ d.deeds, ∀ v ∈ d.vals, ∃ g ∈ d.vals, lookL p.2 v = some g) (h5 : ∀ p ∈ d.ents, ∀ q ∈ p.2, q.2 ∈ d.vals) : d.Ok := by
  refine ⟨h1, h2, h3, fun n l h v m => ?_, fun n l h v g e => ?_⟩
  · obtain ⟨p, mp, _, rfl⟩ := look_some h
    exact h4 p mp v m
  · obtain ⟨p, mp, _, rfl⟩ := look_some h
    obtain ⟨q, mq, rfl⟩ := lookL_in e
    exact h5 p mp q mq
theorem lock_ok : lockT.Ok := ok_by (by decide) (by decide +kernel) (by decide +kernel) (by decide +kernel) (by decide +kernel)
theorem turn_ok : turnT.Ok := ok_by (by decide) (by decide +kernel) (by decide +kernel) (by decide +kernel) (by decide +kernel)
theorem lock_run : GoodRun lockT 2 (st0 lockT) [(0, "get"), (1, "get"), (0, "drop")] ∧ (goneRun lockT (st0 lockT) [(0, "get"), (1, "get"), (0, "drop")]).2 = [[0], [], [0, 1]] := by
  refine ⟨⟨⟨by decide, by decide +kernel, by decide +kernel, by decide +kernel⟩, ⟨by decide, by decide +kernel, by decide +kernel, by decide +kernel⟩, ⟨by decide, by decide +kernel, by decide +kernel, by decide +kernel⟩, trivial⟩, by decide +kernel⟩
theorem turn_run : GoodRun turnT 3 (st0 turnT) [(0, "g"), (1, "h"), (2, "p")] ∧ (goneRun turnT (st0 turnT) [(0, "g"), (1, "h"), (2, "p")]).2 = [[], [], [2, 0, 1]] := by
  refine ⟨⟨⟨by decide, by decide +kernel, by decide +kernel, by decide +kernel⟩, ⟨by decide, by decide +kernel, by decide +kernel, by decide +kernel⟩, ⟨by decide, by decide +kernel, by decide +kernel, by decide +kernel⟩, trivial⟩, by decide +kernel⟩
theorem fit_by {d : ThD} (vne : d.vals ≠ []) (vok : ∀ x ∈ d.vals, okS x = true) (vnd : d.vals.Nodup) (vln : d.vals.length ≤ 60) (st : d.start ∈ d.vals) (dln : d.deeds.length < 60) (eln : d.ents.length < 60) (dnd : (d.deeds.map (·.1)).Nodup) (end_ : (d.ents.map (·.1)).Nodup)
    (dok : ∀ l ∈ d.deeds, okS l.1 = true ∧ (∀ q ∈ l.2, q.1 ∈ d.vals ∧ q.2 ∈ d.vals) ∧ (l.2.map (·.1)).Nodup ∧ l.2.length ≤ 1000 ∧ l.2.length = d.vals.length) (eok : ∀ l ∈ d.ents, okS l.1 = true ∧ l.1 ∉ d.deeds.map (·.1) ∧ (∀ q ∈ l.2, q.1 ∈ d.vals ∧ q.2 ∈ d.vals) ∧ (l.2.map (·.1)).Nodup ∧ l.2.length ≤ 1000) : d.Fit :=
  ⟨vne, vok, vnd, vln, st, dln, eln, dnd, end_, fun l m => ⟨(dok l m).1, (dok l m).2.1, (dok l m).2.2.1, (dok l m).2.2.2.1, fun _ => (dok l m).2.2.2.2⟩, fun l m => ⟨(eok l m).1, (eok l m).2.1, (eok l m).2.2.1, (eok l m).2.2.2.1, (eok l m).2.2.2.2, fun z => nomatch z⟩⟩
theorem lock_fit : lockP.Fit := fit_by (by decide) (by decide +kernel) (by decide +kernel) (by decide) (by decide +kernel) (by decide) (by decide) (by decide +kernel) (by decide +kernel) (by decide +kernel) (by decide +kernel)
theorem turn_fit : turnP.Fit := fit_by (by decide) (by decide +kernel) (by decide +kernel) (by decide) (by decide +kernel) (by decide) (by decide) (by decide +kernel) (by decide +kernel) (by decide +kernel) (by decide +kernel)
end TH

/-! C15: law -/
namespace TH
open PySem PySem.Spec PyProof.Rows L2 LamV LamX XK0
open C8 (pss_cut tCut)
theorem call_isiK {X : Cx} {K : PySem.W.Frag} (h : X.K = K) : CallR X (.builtin "isinstance") (rIsi K) := h ▸ call_isi
abbrev tIsT (K : PySem.W.Frag) : TE := tCB (rIsi K) (tCons (tVar 17) (tCons (tC (.ty "tuple")) tNil))
def LwO37 (sp l : Addr) (T : List (Addr × Str)) (a : Addr) (i : Nat) (σ : L2.St) (H : Hp) : Prop := ∃ (o2 o3 o4 o5 o6 o7 o8 o9 o10 o11 o12 o13 o14 : Option V) (m : Nat), σ = [some (.ref a), some (.ref sp), o2, o3, o4, o5, o6, o7, o8, o9, o10, o11, o12, o13, o14, none, none, none] ∧ m ≤ 300 * i ∧ Spr H sp l m ∧ Tabs T H
def KI37 (K : PySem.W.Frag) (C sp l t pt ch du a : Addr) (k : Nat) (d d' : ThD) (T : List (Addr × Str)) (b i : Nat) (σ : L2.St) (H : Hp) : Prop := ∃ (o2 o9 o10 o11 o12 o13 o14 : Option V) (sa : Addr) (rl : LRows) (psc pg : List Addr) (cs : List Call1) (m : Nat), σ = [some (.ref a), some (.ref sp), o2, some (.ref pt), some (.ref t), some (.int k), some (.ref sa), some (.ref ch), some (.ref du), o9, o10, o11, o12, o13, o14, none, none, none] ∧ cs.length ≤ i ∧ m ≤ b + i ∧ Rnd K C sp l t pt ch du sa k d d' T rl psc pg cs H m
theorem goneRun_len {d : ThD} : ∀ {cs : List Call1} {st : TSt}, (goneRun d st cs).2.length = cs.length
  | [], _ => rfl
  | _ :: r, _ => congrArg (· + 1) (goneRun_len (cs := r))
abbrev tHanded (K : PySem.W.Frag) : TE := tLc (iList K (tVar 7)) (gName 11) tYes (tCall spOne [] E0 (tCons (tVar 1) (tCons (tLst (tCons (tVar 11) (tCons (tCB (rLstOf K) (tCons (tVar 11) tNil)) tNil))) tNil))) [11]
def HSq (sp l : Addr) (H : Hp) (a : Addr) (q : Call1) : Prop := H a = some (.tup [.int (q.1 : Nat), .str q.2]) ∨ (H a = some (.lst [.int (q.1 : Nat), .str q.2]) ∧ a ≠ sp ∧ a ≠ l)
theorem HSq.exS {sp l : Addr} {H H' : Hp} {n : Nat} {a : Addr} {q : Call1} (x : ExS sp l H H') (S : Spr H sp l n) (h : HSq sp l H a q) : HSq sp l H' a q := by
  rcases h with h | ⟨h, n1, n2⟩
  · exact .inl (x.non S h fun _ z => nomatch z)
  · exact .inr ⟨x _ _ n1 n2 h, n1, n2⟩
theorem HSq.sq {K : PySem.W.Frag} {sp l : Addr} {H : Hp} {a : Addr} {q : Call1} (h : HSq sp l H a q) : Sq K H a [.int (q.1 : Nat), .str q.2] := by
  rcases h with h | ⟨h, _⟩
  · exact .inr (.inl (.inl h))
  · exact .inl (.inl (.inl h))
theorem hs_at {K : PySem.W.Frag} {sp l : Addr} {H : Hp} {hs : List Addr} {cs : List Call1} (p : Paired (HSq sp l H) hs cs) : CallsAt K H (hs.map V.ref) cs := by
  refine ⟨by rw [List.length_map, Paired.length p]; exact Nat.le_refl _, fun i c n e => ?_⟩
  obtain ⟨a, ea, ha⟩ := paired_get p e
  exact ⟨a, by rw [List.getElem?_map, ea]; rfl, ha.sq⟩
theorem handed_go {K : PySem.W.Frag} {o0 o2 o3 o4 o5 o6 o8 o9 o10 o11 o12 o13 o14 o15 o16 o17 : Option V} {H : Hp} {Q : VK} {sp l ch : Addr} {m : Nat} {psc : List Addr} {cs : List Call1} (S : Spr H sp l m) (hch : H ch = some (.lst (psc.map V.ref))) (cho : ch ≠ sp ∧ ch ≠ l) (ct : CTs H psc cs) (csl : cs.length ≤ 9) (hm : m + 20 < 1000000)
    (hQ : ∀ (hd : Addr) (H' : Hp) (hs : List Addr), ExS sp l H H' → Spr H' sp l (m + cs.length) → H hd = none → H' hd = some (.lst (hs.map V.ref)) → Paired (HSq sp l H') hs cs → Q (.ref hd) H') :
    tHanded K [o0, some (.ref sp), o2, o3, o4, o5, o6, some (.ref ch), o8, o9, o10, o11, o12, o13, o14, o15, o16, o17] H Q := by
  have psl := Paired.length ct
  refine ⟨.ref ch, rfl, ch, rfl, ⟨_, .inl (.inl hch)⟩, fun D nD => ?_⟩
  have Do := S.off nD
  refine lc_it (walk_list (xs := psc.map V.ref)) (fun n H2 => ExS sp l H H2 ∧ Spr H2 sp l (m + n) ∧ ∃ hs : List Addr, H2 D = some (.lst (hs.map V.ref)) ∧ Paired (HSq sp l H2) hs (cs.take n)) ⟨(Ex.new nD).exS, S.new nD, [], upd_same, .nil⟩ (fun n H2 _ h => .inl (.inl (h.1 _ _ cho.1 cho.2 hch))) (fun n v H2 H3 hn h y => ?_) fun H2 h => ?_
  · obtain ⟨x2, S2, hs, hD, pr⟩ := h
    obtain ⟨rfl, ev⟩ := y
    rw [List.getElem?_map] at ev
    obtain ⟨a, ea, rfl⟩ := Option.map_eq_some_iff.mp ev
    have nl : n < cs.length := by rw [← psl]; exact (List.getElem?_eq_some_iff.mp ea).1
    obtain ⟨q, eq⟩ : ∃ q, cs[n]? = some q := ⟨_, List.getElem?_eq_getElem nl⟩
    obtain ⟨a', ea', ha⟩ := paired_get ct eq
    rw [ea] at ea'
    cases ea'
    have ha3 := x2.non S ha fun _ z => nomatch z
    have hl : hs.length ≤ 9 := by
      have := Paired.length pr
      rw [List.length_take] at this
      have := Nat.min_le_right n cs.length
      omega
    refine ⟨rfl, .ref sp, rfl, .ref a, rfl, .ref a, rfl, a, _, rfl, .inr (.inl (.inl ha3)), fun lc nlc => ⟨by show 2 ≤ sizeLine; decide, fun l2 nl2 => ?_⟩⟩
    have x4 : Ex H3 (upd (upd H3 lc (.lst [.int (q.1 : Nat), .str q.2])) l2 (.lst [.ref a, .ref lc])) := (Ex.new nlc).trans (Ex.new nl2)
    have hlc : upd (upd H3 lc (.lst [.int (q.1 : Nat), .str q.2])) l2 (.lst [.ref a, .ref lc]) lc = some (.lst [.int (q.1 : Nat), .str q.2]) := (Ex.new nl2) _ _ upd_same
    have lco := S2.off nlc
    have l2o := (S2.new nlc).off nl2
    refine ⟨sp, l, l2, m + n, _, rfl, S2.ex x4, by omega, l2o.1, l2o.2, upd_same, (fun z => nomatch z), by show 2 ≤ 1000; decide, fun y H5 my x5 S5 => ?_⟩
    have y5 : ExS sp l H3 H5 := x4.exS.trans x5
    have hD5 := y5 _ _ Do.1 Do.2 hD
    have hy : ∃ y', y = .ref y' ∧ HSq sp l H5 y' q ∧ y' ≠ D := by
      simp only [List.mem_cons, List.mem_nil_iff, or_false] at my
      rcases my with rfl | rfl
      · refine ⟨a, rfl, .inl (y5.non S2 ha3 fun _ z => nomatch z), fun z => ?_⟩
        rw [z, hD] at ha3
        cases ha3
      · refine ⟨lc, rfl, .inr ⟨x5 _ _ lco.1 lco.2 hlc, lco⟩, fun z => ?_⟩
        rw [z, hD] at nlc
        cases nlc
    obtain ⟨y', rfl, hy, yD⟩ := hy
    have up : ∀ {b : Addr} {q : Call1} {o : HO}, b ≠ D → HSq sp l H5 b q → HSq sp l (upd H5 D o) b q := fun nb h => by
      rcases h with h | ⟨h, n1⟩
      · exact .inl ((upd_ne nb).trans h)
      · exact .inr ⟨(upd_ne nb).trans h, n1⟩
    refine ⟨hs.map V.ref, hD5, by rw [sizeLine_eq, List.length_map]; omega, ?_, S5.put Do, hs ++ [y'], by rw [upd_same, List.map_append]; rfl, ?_⟩
    · exact fun b o b1 b2 e => (upd_ne fun z => by rw [z, nD] at e; cases e).trans (y5 _ _ b1 b2 (x2 _ _ b1 b2 e))
    · rw [List.take_add_one, eq]
      refine paired_app (Paired.mapP pr fun b q h => ?_) (up yD hy)
      have h5 := h.exS y5 S2
      rcases h5 with h5 | ⟨h5, n1⟩
      · exact .inl ((upd_ne fun z => by rw [z, hD5] at h5; cases h5).trans h5)
      · refine .inr ⟨(upd_ne fun z => ?_).trans h5, n1⟩
        rw [z, hD5] at h5
        have := congrArg List.head? (HO.lst.inj (Option.some.inj h5))
        cases hs with
        | nil => cases this
        | cons b r => cases this
  · obtain ⟨x2, S2, hs, hD, pr⟩ := h
    rw [List.length_map, psl] at S2 pr
    rw [List.take_length] at pr
    exact hQ D H2 hs x2 S2 nD hD pr
/-- all are tuples -/
theorem allT_go {K : PySem.W.Frag} {o0 o1 o2 o3 o4 o5 o6 o7 o8 o9 o10 o11 o12 o13 o15 o16 o17 : Option V} {H : Hp} {Q : VK} {p : Addr} {ps : List Addr} {gs : List (List Nat)} (hp : H p = some (.lst (ps.map V.ref))) (pr : Paired (fun a g => SqT K H a (nV g)) ps gs) (len : ps.length ≤ 100)
    (hQ : ∀ (D : Addr) (H' : Hp), Ex H H' → H' D = some (.lst ((List.replicate ps.length true).map V.bl)) → Q (.ref D) H') :
    tLc (iList K (tVar 14)) (gName 17) tYes (tIsT K) [17] [o0, o1, o2, o3, o4, o5, o6, o7, o8, o9, o10, o11, o12, o13, some (.ref p), o15, o16, o17] H Q := by
  refine ⟨.ref p, rfl, p, rfl, ⟨_, .inl (.inl hp)⟩, fun D nD => ?_⟩
  refine lc_it (walk_list (xs := ps.map V.ref)) (fun n H2 => Ex H H2 ∧ H2 D = some (.lst ((List.replicate n true).map V.bl))) ⟨Ex.new nD, upd_same⟩ (fun n H2 _ h => .inl (.inl (h.1 _ _ hp))) (fun n v H2 H3 hn h y => ?_) fun H2 h => ?_
  · obtain ⟨x2, hD⟩ := h
    obtain ⟨rfl, ev⟩ := y
    rw [List.getElem?_map] at ev
    obtain ⟨a, ea, rfl⟩ := Option.map_eq_some_iff.mp ev
    have nl : n < gs.length := by rw [← Paired.length pr]; exact (List.getElem?_eq_some_iff.mp ea).1
    obtain ⟨g, eg⟩ : ∃ g, gs[n]? = some g := ⟨_, List.getElem?_eq_getElem nl⟩
    obtain ⟨a', ea', ha⟩ := paired_get pr eg
    rw [ea] at ea'
    cases ea'
    rw [List.length_map] at hn
    refine ⟨rfl, .ref a, rfl, .ref a, .ty "tuple", _, _, _, rfl, .ty "tuple", (sqT_kd (x2.sqT ha)).2.1, kit_ty (show kitB "tuple" "tuple" = some true by decide +kernel), _, hD, by rw [sizeLine_eq, List.length_map, List.length_replicate]; omega, fun b o e => (upd_ne fun z => by rw [z, nD] at e; cases e).trans (x2 _ _ e), ?_⟩
    rw [upd_same, List.replicate_succ', List.map_append]
    rfl
  · rw [List.length_map] at h
    exact hQ D H2 h.1 h.2
theorem not_one {t : TT} {σ : L2.St} {H : Hp} {Q : Bool → Hp → Prop} (h : t σ H fun c H1 => Q (!c) H1) : tNot t σ H Q := h
theorem b_one {t : TE} {σ : L2.St} {H : Hp} {Q : Bool → Hp → Prop} (h : t σ H fun x H1 => ∃ c, x = .bl c ∧ Q c H1) : tB t σ H Q := h
theorem cb_one {r : List V → Hp → VK → Prop} {ta : TA} {σ : L2.St} {H : Hp} {Q : VK} (h : ta σ H fun vs H1 => r vs H1 Q) : tCB r ta σ H Q := h
theorem make_one {C : Addr} {sp : Sp} {dvs : List V} {E : XK} {t : TA} {σ : L2.St} {H : Hp} {Q : VK} (h : t σ H fun vs H1 => ∀ x dx, H1 x = none → H1 dx = none → dx ≠ x → sp (.ref x :: (vs ++ dvs)) (upd (upd H1 dx (.own x)) x (.ins C dx [])) (fun v H2 => v = .non ∧ Q (.ref x) H2) E) : tMake C sp dvs E t σ H Q := h
theorem c_one {v : V} {σ : L2.St} {H : Hp} {Q : VK} (h : Q v H) : tC v σ H Q := h
theorem next_one {D : Ends} {σ : L2.St} {H : Hp} (h : D.nx σ H) : tNext D σ H := h
section
variable {P : Program} {w : World} {K : PySem.W.Frag} {mg : Str → Option Value} {base : Heap} {f C CN CB gRf fI : Addr} {fd fdR fdI : FuncData} {T : List (Addr × Str)}
theorem scLaw37 : FnScope ["_law_script", "_law_spring_here", "_law_turn", "_law_parts", "_law_thing_here", "_law_callers", "_law_state", "_law_calls_here", "_law_due", "_law_k", "_law_some", "_law_call", "_law_gone", "_law_handed", "_law_told", "_law_lock", "_law_turns", "_law_one_here"] ["_law_script"] (defScope sLaw37) := ⟨rfl, rfl, rfl, by decide +kernel, rfl, by decide +kernel, by decide +kernel⟩
theorem ok_law37 (F : FnP K "law" sLaw37 f fd) (FS : Has P w K mg base "_law_spring" 1 ["_law_script"] (spSpring K)) (FT : Has P w K mg base "_law_thing" 3 ["_law_spring_here", "_law_most", "_law_many"] spThing) (FMd : Has P w K mg base "_law_made" 6 ["_law_parts"] (spMade K C)) (FTk : Has P w K mg base "_law_take" 1 ["_law_spring_here", "_law_many"] spTake)
    (FB : Has P w K mg base "_law_begin" 1 ["_law_parts", "_law_worth"] spBegin) (FCl : Has P w K mg base "_law_calls" 2 ["_law_parts", "_law_state", "_law_callers"] spCalls) (FAf : Has P w K mg base "_law_after" 2 ["_law_parts", "_law_state", "_law_call"] spAfter) (FO : Has P w K mg base "_law_one" 2 ["_law_spring_here", "_law_things"] spOne)
    (FG : HasX P w K mg base "gone_on" 4 ["thing", "callers", "calls"] (spGoneOnX K C CN CB))
    (FR : FnOkG P w K mg base CX0 8 gRf fdR ["_law_spring_here", "_law_thing_here", "_law_parts", "_law_calls_here", "_law_state", "_law_callers"] (spRefused37 K C T)) (gR : mg "_law_refused" = some (.ref gRf)) (kR : PySem.W.keepIn K (.ref gRf) = true) (bR : Binds K fdR ["_law_spring_here", "_law_thing_here", "_law_parts", "_law_calls_here", "_law_state", "_law_callers"] [])
    (MT : Mk K C fI) (gT : mg "Thing" = some (.ref C)) (bI : Binds K fdI ["self", "values", "start", "deeds", "entries"] []) (FI : FnOk P w K mg base CX0 4 fI fdI ["self", "values", "start", "deeds", "entries"] (spInit K C))
    (gl : mg "list" = none) (gt : mg "tuple" = none) (gi : mg "isinstance" = none) (ga : mg "all" = none) (gra : mg "range" = none) : FnOkG P w K mg base CX0 9 f fd ["_law_script"] (spLaw37 K T) := by
  refine okGa F scLaw37 (fun vs H Q E h => ?_) (fun cdv A outer s H vs Q E hG hr h => ?_)
  · obtain ⟨a, ns, rfl, _⟩ := h
    rfl
  · have hu := hu_of hr
    refine ⟨_, PSs.nox 
(pss_cons (ps_set (i := 1) scLaw37.nd rfl (.inr rfl) (pe_has FS hr (by decide) rfl (pa_cons (pv 0) pa_nil)))
 (pss_cut (ps_for PassesOwn.never rfl (pi_range1 rfl gra (pa_cons pe_int pa_nil)) (pg_name (i := 2) scLaw37.nd rfl (.inl rfl)) (pss_cons (ps_set (i := 3) scLaw37.nd rfl (.inl rfl) (pe_has FT hr (by decide) rfl (pa_cons (pv 1) (pa_cons pe_int (pa_cons pe_int pa_nil)))))
 (pss_cons (ps_par (i := 4) (j := 5) rfl scLaw37.nd rfl rfl (by decide) rfl rfl (pa_cons (pe_has FMd hr (by decide) rfl (pa_cons (pv 3) pa_nil)) (pa_cons (pe_op op_add pe_int (pe_has FTk hr (by decide) rfl (pa_cons (pv 1) (pa_cons pe_int pa_nil)))) pa_nil)) rfl)
 (pss_cons (ps_par3 (i := 6) (j := 7) (l := 8) rfl scLaw37.nd rfl rfl rfl (by decide) (by decide) (by decide) rfl rfl rfl (pa_cons (pe_has FB hr (by decide) rfl (pa_cons (pv 3) (pa_cons (pe_ix ix_tup (pv 3) pe_int (fun _ _ => rfl)) pa_nil))) (pa_cons (pe_lst pa_nil) (pa_cons (pe_lst pa_nil) pa_nil))) rfl)
 (pss_cons (ps_for PassesOwn.never rfl (pi_range1 rfl gra (pa_cons pe_int pa_nil)) (pg_name (i := 9) scLaw37.nd rfl (.inl rfl)) (pss_cons (ps_set (i := 10) scLaw37.nd rfl (.inl rfl) (pe_has FCl hr (by decide) rfl (pa_cons (pv 3) (pa_cons (pv 6) (pa_cons (pv 5) pa_nil)))))
 (pss_one (ps_if (pt_cmpR (op_neD hr.units) (pv 10) (pe_lst pa_nil) (nomark _)) (pss_cons (ps_set (i := 11) scLaw37.nd rfl (.inl rfl) (pe_has FO hr (by decide) rfl (pa_cons (pv 1) (pa_cons (pv 10) pa_nil))))
 (pss_cons (ps_asg (pe_has FAf hr (by decide) rfl (pa_cons (pv 3) (pa_cons (pv 6) (pa_cons (pv 11) pa_nil)))) (pg_tup rfl (pgs_cons (pg_name (i := 6) scLaw37.nd rfl (.inl rfl)) (pgs_cons (pg_name (i := 12) scLaw37.nd rfl (.inl rfl)) pgs_nil))))
 (pss_cons (ps_expr (pe_bm PySem.F.plainAttrs_list PySem.F.slot_list_append PySem.F.type_list_append mt_append (pv 7) (pa_cons (pv 11) pa_nil)))
 (pss_one (ps_expr (pe_bm PySem.F.plainAttrs_list PySem.F.slot_list_append PySem.F.type_list_append mt_append (pv 8) (pa_cons (pe_callTy call_tuple_of rfl gt boot_tuple (pa_cons (pv 12) pa_nil)) pa_nil))))))) pss_nil))))
 (pss_cons (ps_setLc (i := 13) (te := tCall spOne [] E0 (tCons (tVar 1) (tCons (tLst (tCons (tVar 11) (tCons (tCB (rLstOf K) (tCons (tVar 11) tNil)) tNil))) tNil))) (own := [("_law_call", 11)]) rfl scLaw37.nd rfl rfl (sw_true rfl rfl rfl rfl) (pi_list (pv 7)) (blkOk_by (by kernel_rfl)) (fun s H C cl fp => pg_name (i := 11) scLaw37.nd rfl (.inl rfl) (.inr rfl)) (fun s H C cl fp => pts_nil)
  (fun s H C cl fp => pe_has FO hr (by decide) rfl (pa_cons (pv 1) (pa_cons (pe_lst (pa_cons (pv 11) (pa_cons (pe_callTy (call_listK (K := K) rfl) rfl gl boot_list (pa_cons (pv 11) pa_nil)) pa_nil))) pa_nil))))
 (pss_cons (ps_set (i := 14) scLaw37.nd rfl (.inl rfl) (pe_hasX (E := fun _ _ _ => False) FG hr (by decide) rfl L2.takes0 (fun _ _ _ _ z => z) (pa_cons (pv 4) (pa_cons (pv 5) (pa_cons (pe_has FO hr (by decide) rfl (pa_cons (pv 1) (pa_cons (pe_lst (pa_cons (pv 13) (pa_cons (pe_callTy call_tuple_of rfl gt boot_tuple (pa_cons (pv 13) pa_nil)) pa_nil))) pa_nil))) pa_nil)))))
 (pss_cons (ps_if (PW.pt (pw_or (pt_cmpR (op_neD hr.units) (pv 14) (pv 8) (nomark _)) (pw_or (pt_not (pt_val (pe_callB call_isi rfl gi boot_isinstance (pa_cons (pv 14) (pa_cons (pe_bltn (v := .ty "list") rfl gl boot_list rfl) pa_nil))))) (pw_or1 (pt_not (pt_val (pe_callB (cr_all rfl) rfl ga boot_all (pa_cons (pe_lc (te := tIsT K) (own := [("_law_one_here", 17)]) rfl scLaw37.nd (pi_list (pv 14)) (blkOk_by (by kernel_rfl)) (fun s H C cl fp => pg_name (i := 17) scLaw37.nd rfl (.inl rfl) (.inr rfl)) (fun s H C cl fp => pts_nil) (fun s H C cl fp => pe_callB (call_isiK (K := K) rfl) rfl gi boot_isinstance (pa_cons (pv 17) (pa_cons (pe_bltn (v := .ty "tuple") rfl gt boot_tuple rfl) pa_nil)))) pa_nil)))))))) (pss_one (ps_ret pe_bl)) pss_nil)
 (pss_cons (ps_expr (pe_bm PySem.F.plainAttrs_list PySem.F.slot_list_append PySem.F.type_list_append mt_append (pv 14) (pa_cons pe_str pa_nil)))
 (pss_one (ps_if (PW.pt (pw_or (pt_cmpR (op_neD hr.units) (pe_hasX (E := fun _ _ _ => False) FG hr (by decide) rfl L2.takes0 (fun _ _ _ _ z => z) (pa_cons (pv 4) (pa_cons (pv 5) (pa_cons (pv 7) pa_nil)))) (pv 8) (nomark _)) (pw_or1 (pt_not (pt_val (pe_callG hG FR hr rfl gR kR bR pass0 (pa_cons (pv 1) (pa_cons (pv 4) (pa_cons (pv 3) (pa_cons (pv 7) (pa_cons (pv 6) (pa_cons (pv 5) pa_nil)))))))))))) (pss_one (ps_ret pe_bl)) pss_nil)))))))))))
 (pss_cons (ps_set (i := 15) scLaw37.nd rfl (.inl rfl) (pe_make MT FI (hr.mono (by decide)) rfl gT bI .nil pass0 (pa_cons (pe_lst (pa_cons pe_str (pa_cons pe_str pa_nil))) (pa_cons pe_str (pa_cons (pe_disp (pps_cons pe_str (pe_disp (pps_cons pe_str pe_str (pps_cons pe_str pe_str pps_nil)) rfl rfl (by simp) (by decide)) pps_nil) rfl rfl (by simp) (by decide)) (pa_cons (pe_disp (pps_cons pe_str (pe_disp (pps_cons pe_str pe_str pps_nil) rfl rfl (by simp) (by decide)) pps_nil) rfl rfl (by simp) (by decide)) pa_nil))))))
 (pss_cons (ps_if (pt_cmpR (op_neD hr.units) (pe_hasX (E := fun _ _ _ => False) FG hr (by decide) rfl L2.takes0 (fun _ _ _ _ z => z) (pa_cons (pv 15) (pa_cons pe_int (pa_cons (pe_lst (pa_cons (pe_tup (pa_cons pe_int (pa_cons pe_str pa_nil))) (pa_cons (pe_tup (pa_cons pe_int (pa_cons pe_str pa_nil))) (pa_cons (pe_tup (pa_cons pe_int (pa_cons pe_str pa_nil))) pa_nil)))) pa_nil)))) (pe_lst (pa_cons (pe_tup (pa_cons pe_int pa_nil)) (pa_cons (pe_tup pa_nil) (pa_cons (pe_tup (pa_cons pe_int (pa_cons pe_int pa_nil))) pa_nil)))) (nomark _)) (pss_one (ps_ret pe_bl)) pss_nil)
 (pss_cons (ps_set (i := 16) scLaw37.nd rfl (.inl rfl) (pe_make MT FI (hr.mono (by decide)) rfl gT bI .nil pass0 (pa_cons (pe_lst (pa_cons pe_str (pa_cons pe_str (pa_cons pe_str pa_nil)))) (pa_cons pe_str (pa_cons (pe_disp (pps_cons pe_str (pe_disp (pps_cons pe_str pe_str (pps_cons pe_str pe_str (pps_cons pe_str pe_str pps_nil))) rfl rfl (by simp) (by decide)) pps_nil) rfl rfl (by simp) (by decide)) (pa_cons (pe_disp (pps_cons pe_str (pe_disp (pps_cons pe_str pe_str pps_nil) rfl rfl (by simp) (by decide)) (pps_cons pe_str (pe_disp (pps_cons pe_str pe_str pps_nil) rfl rfl (by simp) (by decide)) pps_nil)) rfl rfl (by simp) (by decide)) pa_nil))))))
 (pss_one (ps_ret (pe_cmpR (op_eqD hr.units) (pe_hasX (E := fun _ _ _ => False) FG hr (by decide) rfl L2.takes0 (fun _ _ _ _ z => z) (pa_cons (pv 16) (pa_cons pe_int (pa_cons (pe_lst (pa_cons (pe_tup (pa_cons pe_int (pa_cons pe_str pa_nil))) (pa_cons (pe_tup (pa_cons pe_int (pa_cons pe_str pa_nil))) (pa_cons (pe_tup (pa_cons pe_int (pa_cons pe_str pa_nil))) pa_nil)))) pa_nil)))) (pe_lst (pa_cons (pe_tup pa_nil) (pa_cons (pe_tup pa_nil) (pa_cons (pe_tup (pa_cons pe_int (pa_cons pe_int (pa_cons pe_int pa_nil)))) pa_nil)))) (nomark _))))))))), ?_⟩
    obtain ⟨a, ns, rfl, sn, len, tabs, hQ⟩ := h
    refine ⟨.ref a, rfl, a, ns, rfl, sn, by rw [sizeLine_eq]; omega, fun sp l H1 x1 nsp nl S1 => ?_⟩
    refine ⟨LwO37 sp l T a 6, ⟨6, rfl, by decide, by decide, for_range (n := 6) (LwO37 sp l T a) ⟨none, none, none, none, none, none, none, none, none, none, none, none, none, 0, rfl, Nat.le_refl _, S1, x1.tabs tabs⟩ (fun i σ H2 hi h => ?_) fun σ H2 h => h⟩, fun σ2 H2 mid => ?_⟩
    · obtain ⟨o2, o3, o4, o5, o6, o7, o8, o9, o10, o11, o12, o13, o14, m, rfl, hm, S, tb⟩ := h
      have hi : i < 6 := hi
      refine ⟨.ref sp, rfl, sp, l, m, 4, 3, rfl, S, by omega, by decide, by decide, by decide, by decide, fun pt d m2 H3 gd hm2 x3 S3 npt ip => ?_⟩
      refine ⟨.ref pt, rfl, pt, d, rfl, ip.pt, gd.fit, fun t H4 d' x4 nt th io => ?_⟩
      have S4 := S3.ex x4
      have tb4 := x4.tabs (Tabs.exS x3 S tb)
      have ip4 := ip.sn x4.sn S3
      refine ⟨.ref sp, rfl, sp, l, 3, m2, rfl, S4, by omega, by decide, by decide, fun q H5 hq x5 S5 => ⟨1, q, rfl, rfl, ?_⟩⟩
      obtain ⟨k, ek, k1, k3⟩ : ∃ k : Nat, (1 : Int) + (q : Nat) = (k : Nat) ∧ 1 ≤ k ∧ k ≤ 3 := ⟨1 + q, by omega, by omega, by omega⟩
      refine ⟨.ref t, .int (k : Nat), congrArg (fun z => [V.ref t, z]) (congrArg V.int ek), ?_⟩
      have tb5 := Tabs.exS x5 S4 tb4
      have th5 := th.sn x5.sn S4
      have ip5 := ip4.sn x5.sn S4
      clear tb4 ip4 ip th x4 S4 nt x3 S3 npt S tb x5 ek
      obtain ⟨ms, EO⟩ := ord_E gd.fit io
      have dok := ord_ok gd io
      have esf : d'.ents.map (·.1) = ms := by
        rw [EO.ents, List.map_map]
        exact (List.map_congr_left fun _ _ => rfl).trans (List.map_id _)
      have elen := gd.elen
      have end_ : (d'.ents.map (·.1)).Nodup := by rw [esf]; exact EO.pm.nodup_iff.mpr gd.end_
      have elen' : d'.ents.length = d.ents.length := by
        have := congrArg List.length esf
        rw [List.length_map, EO.pm.length_eq, List.length_map] at this
        exact this
      obtain ⟨vl, dd, de, e1, e2, e5, e3, e4⟩ := id ip5
      refine ⟨.ref pt, rfl, .ref pt, rfl, pt, _, 1, .str d.start, rfl, rfl, .inl (.inl e1), rfl, pt, d, d.start, rfl, ip5.pt, gd.end_, by omega, fun sa H6 x6 nsa ls => ⟨Nat.zero_le _, fun ch nch => ⟨Nat.zero_le _, fun du ndu => ⟨_, _, _, rfl, ?_⟩⟩⟩⟩
      have x7 : Ex H6 (upd H6 ch (.lst [])) := Ex.new nch
      have x8 : Ex H6 (upd (upd H6 ch (.lst [])) du (.lst [])) := x7.trans (Ex.new ndu)
      have S6 := S5.ex x6
      have R0 : Rnd K C sp l t pt ch du sa k d d' T (d.ents.map fun e => (e.1, [])) [] [] [] (upd (upd H6 ch (.lst [])) du (.lst [])) (m2 + 1) := by
        have ndu6 : H6 du = none := x7.none ndu
        have off : ∀ b xs, b ≠ sp ∧ b ≠ l → H6 b = some (.lst xs) → Off4 sp l ch du b := fun b xs h e => ⟨h.1, h.2, (fun z => by rw [z, nch] at e; cases e), (fun z => by rw [z, ndu6] at e; cases e)⟩
        refine ⟨S6.ex x8, (x6.trans x8).tabs tb5, th5.ex (x6.trans x8), ?_, ?_, by rw [List.map_map]; rfl, ?_, (Ex.new ndu) _ _ upd_same, S6.off nch, .nil, upd_same, (S6.ex x7).off ndu, (fun z => by rw [z, upd_same] at ndu; cases ndu), .nil, trivial⟩
        · exact ⟨vl, dd, de, (x6.trans x8) _ _ e1, (x6.trans x8) _ _ e2, off _ _ e5 (x6 _ _ e2), e3.ex (x6.trans x8), e4.ex (x6.trans x8)⟩
        · have z : LSf (Off4 sp l ch du) H6 sa d.start (d.ents.map fun e => (e.1, [])) := ls.imp fun b xs nb e => off b xs (S5.off nb) e
          have es : (st0 d').1 = d.start := (ord_vals io).2
          show LSf (Off4 sp l ch du) _ sa (st0 d').1 _
          rw [es]
          exact (Chg.ex x8).ls z
        · show (st0 d').2 = _
          have : ∀ n, rowV (d.ents.map fun e => ((e.1, []) : Str × List Nat)) n = [] := fun n => by
            unfold rowV
            cases q : List.find? (fun e : Str × List Nat => decide (e.1 = n)) (d.ents.map fun e => (e.1, [])) with
            | none => rfl
            | some e =>
              obtain ⟨u, _, rfl⟩ := List.mem_map.mp (List.mem_of_find?_eq_some q)
              rfl
          unfold st0 Rof
          simp only [this]
          exact List.map_const'.symm
      clear ls x6 x8 x7 nch ndu nsa e1 e2 e5 e3 e4 tb5 th5 ip5 S5 S6
      generalize upd (upd H6 ch (.lst [])) du (.lst []) = H7 at R0 ⊢
      refine ⟨9, rfl, by decide, by decide, for_range (n := 9) (KI37 K C sp l t pt ch du a k d d' T (m2 + 1)) ⟨_, _, _, _, _, _, _, sa, _, [], [], [], m2 + 1, rfl, Nat.le_refl _, Nat.le_refl _, R0⟩ (fun j σ H8 hj h => ?_) fun σ H8 h => ?_⟩
      · obtain ⟨p2, p9, p10, p11, p12, p13, p14, sa, rl, psc, pg, cs, m3, rfl, csl, hm3, R⟩ := h
        have hj : j < 9 := hj
        clear R0
        have gok := goneRun_ok dok end_ (cs := cs) (st0_ok dok)
        have wv : (goneRun d' (st0 d') cs).1.1 ∈ d.vals := (ord_vals io).1 ▸ gok.val
        have knd : (rl.map (·.1)).Nodup := R.keys ▸ gd.end_
        have rlen : rl.length ≤ 60 := by have := congrArg List.length R.keys; simp only [List.length_map] at this; omega
        refine ⟨.ref pt, rfl, .ref sa, rfl, .int k, rfl, pt, sa, d, _, rl, k, rfl, R.ip.pt, R.ls.ls, knd, rlen, by have := gd.nlen; omega, by omega, fun p ps2 os H9 x9 np hp cts may olen => ?_⟩
        have R9 := R.exS x9.exS (R.S.ex x9)
        have olay : ∀ q ∈ os, PyData.canLay0 (.str q.2) = true := fun q m => (nameN_ok _ (gd.nsub _ (may q m).2.1)).2
        refine ⟨.ref p, rfl, Nat.zero_le _, fun e ne => ⟨.list (os.map callD), .list [], .lst (.inl (.inl ((Ex.new ne) _ _ hp))) (dp_calls (cts.exL (Ex.new ne).exL)), .lst (.inl (.inl upd_same)) .nil, shaped_calls olay, rfl, _, rfl, ?_⟩⟩
        rw [eqv_calls]
        have xe : Ex H9 (upd H9 e (.lst [])) := Ex.new ne
        have hpe := xe _ _ hp
        replace cts := cts.exL xe.exL
        have Re := R9.exS xe.exS (R9.S.ex xe)
        have po := R.S.off np
        generalize upd H9 e (.lst []) = H10 at hpe cts Re ⊢
        clear xe ne hp R9
        cases os with
        | nil => exact ⟨p2, _, _, p11, p12, p13, p14, sa, rl, psc, pg, cs, m3, rfl, by omega, by omega, Re⟩
        | cons q0 qr =>
          have cl := Paired.length cts
          refine ⟨.ref sp, rfl, .ref p, rfl, sp, l, p, m3, _, rfl, Re.S, by omega, po.1, po.2, hpe, (fun z => by rw [List.map_eq_nil_iff.mp z] at cl; cases cl), by rw [List.length_map, cl]; omega, fun y H11 my x11 S11 => ?_⟩
          obtain ⟨ac, mac, rfl⟩ := List.mem_map.mp my
          obtain ⟨jx, ejx⟩ := List.getElem?_of_mem mac
          have jl := (List.getElem?_eq_some_iff.mp ejx).1
          obtain ⟨q1, eq1⟩ : ∃ q1, (q0 :: qr)[jx]? = some q1 := ⟨_, List.getElem?_eq_getElem (by rw [← cl]; exact jl)⟩
          obtain ⟨a', ea', hac⟩ := paired_get cts eq1
          rw [ejx] at ea'
          cases ea'
          obtain ⟨mk1, mk2, mk3⟩ := may q1 (List.mem_of_getElem? eq1)
          have R11 := Re.exS x11 S11
          have hac11 := x11.non Re.S hac fun _ z => nomatch z
          obtain ⟨c1, n1⟩ := q1
          refine ⟨.ref pt, rfl, .ref sa, rfl, .ref ac, rfl, pt, sa, ac, d, d', ms, _, n1, c1, rl, rfl, R11.ip.pt, EO, R11.ls.ls, R.keys, gd.end_, by omega, hac11, way_of gd.ok wv mk2, (fun n m => (nameN_ok _ (List.mem_append_right _ (gd.esub n m))).2), by rw [← R.rows]; have := gok.few; omega, fun pr2 sa2 gl2 H12 rl2 x12 ngl2 hp2 ls2 keys2 rows2 hgl2 => ?_⟩
          have est : (((goneRun d' (st0 d') cs).1.1, Rof d'.ents (rowV rl)) : TSt) = (goneRun d' (st0 d') cs).1 := by rw [← R.rows]
          rw [est] at ls2 rows2 hgl2
          have R12 := R11.exS x12.exS (R11.S.ex x12)
          have g1 : gl2 ≠ ch := fun z => by rw [z, R11.hch] at ngl2; cases ngl2
          have g2 : gl2 ≠ du := fun z => by rw [z, R11.hdu] at ngl2; cases ngl2
          have ls3 : LSf (Off4 sp l ch du) H12 sa2 (callStep d' (goneRun d' (st0 d') cs).1 c1 n1).1.1 rl2 := ls2.imp fun b xs nb _ => ⟨(R11.S.off nb).1, (R11.S.off nb).2, (fun z => by rw [z, R11.hch] at nb; cases nb), (fun z => by rw [z, R11.hdu] at nb; cases nb)⟩
          have hac12 := x12 _ _ hac11
          have pgl : pg.length = cs.length := by rw [Paired.length R12.pr, goneRun_len]
          refine ⟨pr2, _, rfl, .inl (.inl hp2), rfl, .ref sa2, [.ref gl2], rfl, .ref gl2, [], rfl, rfl, ?_⟩
          refine ⟨.ref ch, rfl, .inl ⟨rfl, _, .inl (.inl R12.hch)⟩, .ref ac, rfl, ch, _, _, rfl, rfl, R12.hch, by rw [sizeLine_eq, List.length_map, Paired.length R12.ct]; omega, ?_⟩
          have c13 : Chg (Off4 sp l ch du) H12 (upd H12 ch (.lst (psc.map V.ref ++ [.ref ac]))) := Chg.put R12.hch fun b h => h.2.2.1
          have hch13 : upd H12 ch (.lst (psc.map V.ref ++ [.ref ac])) ch = some (.lst ((psc ++ [ac]).map V.ref)) := by rw [upd_same, List.map_append]; rfl
          have hdu13 : upd H12 ch (.lst (psc.map V.ref ++ [.ref ac])) du = some (.lst (pg.map V.ref)) := (upd_ne (Ne.symm R.chdu)).trans R12.hdu
          have hgl13 : upd H12 ch (.lst (psc.map V.ref ++ [.ref ac])) gl2 = some (.lst (nV (callStep d' (goneRun d' (st0 d') cs).1 c1 n1).2)) := (upd_ne g1).trans hgl2
          have S13 := R12.S.put (o := .lst (psc.map V.ref ++ [.ref ac])) R.cho
          have tb13 := Tabs.putL (o := .lst (psc.map V.ref ++ [.ref ac])) R12.hch R12.tabs
          generalize upd H12 ch (.lst (psc.map V.ref ++ [.ref ac])) = H13 at c13 hch13 hdu13 hgl13 S13 tb13 ⊢
          refine ⟨.ref du, rfl, .inl ⟨rfl, _, .inl (.inl hdu13)⟩, .ref gl2, rfl, gl2, _, rfl, .inl ⟨.inl (.inl hgl13), fun tg ntg => ?_⟩⟩
          have x14 : Ex H13 (upd H13 tg (.tup (nV (callStep d' (goneRun d' (st0 d') cs).1 c1 n1).2))) := Ex.new ntg
          have htg : upd H13 tg (.tup (nV (callStep d' (goneRun d' (st0 d') cs).1 c1 n1).2)) tg = some (.tup (nV (callStep d' (goneRun d' (st0 d') cs).1 c1 n1).2)) := upd_same
          generalize upd H13 tg (.tup (nV (callStep d' (goneRun d' (st0 d') cs).1 c1 n1).2)) = H14 at x14 htg ⊢
          have hdu14 := x14 _ _ hdu13
          refine ⟨du, _, _, rfl, rfl, hdu14, by rw [sizeLine_eq, List.length_map]; omega, ?_⟩
          have c15 : Chg (Off4 sp l ch du) H14 (upd H14 du (.lst (pg.map V.ref ++ [.ref tg]))) := Chg.put hdu14 fun b h => h.2.2.2
          have cA := c13.trans ((Chg.ex x14).trans c15)
          have eg := goneRun_snoc (d := d') (cs := cs) (st := st0 d') (c := c1) (n := n1)
          refine ⟨p2, _, _, _, _, p13, p14, sa2, rl2, psc ++ [ac], pg ++ [tg], cs ++ [(c1, n1)], m3 + 1, rfl, by rw [List.length_append, List.length_singleton]; omega, by omega, (S13.ex x14).put R.duo, Tabs.putL hdu14 (x14.tabs tb13), cA.th R12.th, cA.ptp R12.ip, ?_, keys2, ?_, (upd_ne R.chdu).trans (x14 _ _ hch13), R.cho, ?_, by rw [upd_same, List.map_append]; rfl, R.duo, R.chdu, ?_, ?_⟩
          · rw [eg]
            exact cA.ls ls3
          · rw [eg]
            exact rows2.symm
          · exact paired_app (cA.ct R12.ct) (cA.non _ _ hac12 (fun _ z => nomatch z) fun _ z => nomatch z)
          · rw [eg]
            exact paired_app (Paired.mapP R12.pr fun _ _ z => cA.sqT z) (c15.sqT (.inl (.inl htg)))
          · refine goodRun_snoc R.good ⟨by omega, (nameN_ok _ (gd.nsub _ mk2)).1, (ord_names io).mem_iff.mpr mk2, ?_⟩
            rw [R.rows, waits_same (by rw [esf, R.keys]; exact EO.pm) knd]
            exact mk3
      · obtain ⟨p2, p9, p10, p11, p12, p13, p14, sa, rl, psc, pg, cs, m3, rfl, csl, hm3, R⟩ := h
        clear R0
        have psl := Paired.length R.ct
        have nlen : d'.names.length < 64 := by rw [(ord_names io).length_eq]; have := gd.nlen; omega
        have pgl : pg.length = cs.length := by rw [Paired.length R.pr, goneRun_len]
        dsimp only
        refine seq_asg ?_
        refine handed_go R.S R.hch R.cho R.ct csl (by omega) fun hd H9 hs x9 S9 nhd hhd hpr => ?_
        have R9 := R.exS x9 S9
        have hdo := R.S.off nhd
        have hsl := Paired.length hpr
        refine ⟨.ref t, rfl, .int k, rfl, .ref sp, rfl, .ref hd, rfl, .ref hd, rfl, hd, _, rfl, .inl ⟨.inl (.inl hhd), fun tq ntq => ⟨by show 2 ≤ sizeLine; decide, fun l2 nl2 => ?_⟩⟩⟩
        have xA : Ex H9 (upd (upd H9 tq (.tup (hs.map V.ref))) l2 (.lst [.ref hd, .ref tq])) := (Ex.new ntq).trans (Ex.new nl2)
        have htq : upd (upd H9 tq (.tup (hs.map V.ref))) l2 (.lst [.ref hd, .ref tq]) tq = some (.tup (hs.map V.ref)) := (Ex.new nl2) _ _ upd_same
        have hl2 : upd (upd H9 tq (.tup (hs.map V.ref))) l2 (.lst [.ref hd, .ref tq]) l2 = some (.lst [.ref hd, .ref tq]) := upd_same
        have l2o := (S9.new ntq).off nl2
        generalize upd (upd H9 tq (.tup (hs.map V.ref))) l2 (.lst [.ref hd, .ref tq]) = HA at xA htq hl2 ⊢
        have SA := S9.ex xA
        refine ⟨sp, l, l2, m3 + cs.length, _, rfl, SA, by omega, l2o.1, l2o.2, hl2, (fun z => nomatch z), by show 2 ≤ 1000; decide, fun y HB my xB SB => ?_⟩
        have y9 : ExS sp l H9 HB := xA.exS.trans xB
        have RB := R9.exS y9 SB
        have hprB : Paired (HSq sp l HB) hs cs := Paired.mapP hpr fun _ _ z => z.exS y9 S9
        have hy : ∃ y', y = .ref y' ∧ Sq K HB y' (hs.map V.ref) := by
          simp only [List.mem_cons, List.mem_nil_iff, or_false] at my
          rcases my with rfl | rfl
          · exact ⟨hd, rfl, .inl (.inl (.inl (y9 _ _ hdo.1 hdo.2 hhd)))⟩
          · exact ⟨tq, rfl, .inr (.inl (.inl (xB.non SA htq fun _ z => nomatch z)))⟩
        obtain ⟨y', rfl, hsq⟩ := hy
        refine ⟨t, d', .int k, .ref y', rfl, RB.th, dok, nlen, by omega, end_, .inr (.inr ⟨k, y', _, cs, rfl, by omega, rfl, hsq, by omega, hs_at hprB, R.good, .inl ⟨by rw [List.length_map, hsl], fun p ps HC xC np hp pp => ?_⟩⟩)⟩
        have SC := SB.ex xC
        have RC := RB.exS xC.exS SC
        have po := SB.off np
        have pch : p ≠ ch := fun z => by rw [z, RB.hch] at np; cases np
        have pdu : p ≠ du := fun z => by rw [z, RB.hdu] at np; cases np
        have ppl : ps.length = cs.length := by rw [Paired.length pp, goneRun_len]
        obtain ⟨dd1, dd2, D1, D2, s1, s2, ee⟩ := same_gone hp RC.hdu pp RC.pr
        refine ⟨.ref p, rfl, .ref du, rfl, dd1, dd2, D1, D2, s1, s2, _, rfl, ?_⟩
        rw [ee]
        refine ⟨.ref p, rfl, .ref p, .ty "list", _, _, _, rfl, .ty "list", (sqL_kd (.inl (.inl hp))).2.1, kit_ty (show kitB "list" "list" = some true by decide +kernel), _, rfl, ?_⟩
        dsimp only
        refine if_f rfl ?_
        refine not_one (b_one (cb_one (cons_one ?_)))
        refine allT_go hp pp (by omega) fun D HD xD hD => ⟨D, _, rfl, .inl (.inl hD), _, rfl, ?_⟩
        have ea : (List.replicate ps.length true).all id = true := by
          rw [List.all_replicate]
          simp
        rw [ea]
        have RD := RC.exS xD.exS (SC.ex xD)
        have hpD := xD _ _ hp
        -- late
        refine ⟨.ref p, rfl, .inl ⟨rfl, _, .inl (.inl hpD)⟩, p, _, _, rfl, rfl, hpD, by rw [sizeLine_eq, List.length_map]; omega, ?_⟩
        have xF : Ex HB (upd HD p (.lst (ps.map V.ref ++ [.str "late"]))) := fun b o e => (upd_ne fun z => by rw [z, np] at e; cases e).trans (xD _ _ (xC _ _ e))
        have SF := (SC.ex xD).put (o := .lst (ps.map V.ref ++ [.str "late"])) po
        have RF := RB.exS xF.exS SF
        generalize upd HD p (.lst (ps.map V.ref ++ [.str "late"])) = HF at xF SF RF ⊢
        have cF : CallsAt K HF (psc.map V.ref) cs := by
          have z := calls_at (K := K) RF.ct []
          rw [List.append_nil] at z
          exact z
        refine ⟨.ref t, rfl, .int k, rfl, .ref ch, rfl, t, d', .int k, .ref ch, rfl, RF.th, dok, nlen, by omega, end_, .inr (.inr ⟨k, ch, _, cs, rfl, by omega, rfl, .inl (.inl (.inl RF.hch)), by omega, cF, R.good, .inl ⟨by rw [List.length_map, psl], fun p3 ps3 HG xG np3 hp3 pp3 => ?_⟩⟩)⟩
        have SG := SF.ex xG
        have RG := RF.exS xG.exS SG
        obtain ⟨da, db, DA, DB, sa1, sb1, eab⟩ := same_gone hp3 RG.hdu pp3 RG.pr
        refine ⟨.ref du, rfl, da, db, DA, DB, sa1, sb1, _, rfl, ?_⟩
        rw [eab]
        refine ⟨.ref sp, rfl, .ref t, rfl, .ref pt, rfl, .ref ch, rfl, .ref sa, rfl, .int k, rfl, sp, l, t, pt, ch, sa, _, k, d, d', _, rl, psc, cs, rfl, SG, by omega, RG.th, gd, io, RG.ls.ls, R.keys, RG.hch, R.cho, RG.ct, by omega, k3, k1, R.good, R.rows, RG.tabs, fun HH m6 hm6 xH SH tbH => ⟨_, rfl, ?_⟩⟩
        exact ⟨_, _, _, _, _, _, _, _, _, _, _, _, _, m6, rfl, by omega, SH, tbH⟩
    · obtain ⟨o2, o3, o4, o5, o6, o7, o8, o9, o10, o11, o12, o13, o14, m, rfl, hm, S, tb⟩ := mid
      dsimp only
      refine seq_asg ?_
      refine make_one (cons_one ?_)
      refine ⟨by show 2 ≤ sizeLine; decide, fun v1J nv1 => ?_⟩
      have xv : Ex H2 (upd H2 v1J (.lst [.str "free", .str "held"])) := Ex.new nv1
      have hv1 : upd H2 v1J (.lst [.str "free", .str "held"]) v1J = some (.lst [.str "free", .str "held"]) := upd_same
      generalize upd H2 v1J (.lst [.str "free", .str "held"]) = J3 at xv hv1 ⊢
      refine cons_one (c_one (cons_one ?_))
      refine dd_go (lds := lockP.deeds) (by decide +kernel) (by decide) (by decide +kernel) fun d1J J4 x4 nd1 hd1 => ?_
      refine cons_one ?_
      refine dd_go (lds := lockP.ents) (by decide +kernel) (by decide) (by decide +kernel) fun d2J J5 x5 nd2 hd2 => ?_
      refine fun xJ dxJ nx ndx nex => ?_
      have xD : Ex J5 (upd (upd J5 dxJ (.own xJ)) xJ (.ins C dxJ [])) := fun b o e => (upd_ne fun z => by rw [z, nx] at e; cases e).trans ((upd_ne fun z => by rw [z, ndx] at e; cases e).trans e)
      refine ⟨xJ, dxJ, v1J, d1J, d2J, lockP, rfl, upd_same, .inl (.inl (xD _ _ (x5 _ _ (x4 _ _ hv1)))), (hd1.ex x5).ex xD, hd2.ex xD, lock_fit, fun J6 d6J xaJ thJ ioJ => ⟨rfl, ?_⟩⟩
      obtain rfl := ord_lock ioJ
      clear xv hv1 x4 nd1 hd1 x5 nd2 hd2 nx ndx nex xD xaJ ioJ
      refine ⟨.ref xJ, rfl, by show 2 ≤ sizeLine; decide, fun b1J nb1 => ⟨by show 2 ≤ sizeLine; decide, fun b2J nb2 => ⟨by show 2 ≤ sizeLine; decide, fun b3J nb3 => ⟨by show 3 ≤ sizeLine; decide, fun clJ ncl => ?_⟩⟩⟩⟩
      have xc : Ex J6 (upd (upd (upd (upd J6 b1J (.tup [.int 0, .str "get"])) b2J (.tup [.int 1, .str "get"])) b3J (.tup [.int 0, .str "drop"])) clJ (.lst [.ref b1J, .ref b2J, .ref b3J])) := ((Ex.new nb1).trans (Ex.new nb2)).trans ((Ex.new nb3).trans (Ex.new ncl))
      have hcl : (upd (upd (upd (upd J6 b1J (.tup [.int 0, .str "get"])) b2J (.tup [.int 1, .str "get"])) b3J (.tup [.int 0, .str "drop"])) clJ (.lst [.ref b1J, .ref b2J, .ref b3J])) clJ = some (.lst ([b1J, b2J, b3J].map V.ref)) := upd_same
      have ct : CTs (upd (upd (upd (upd J6 b1J (.tup [.int 0, .str "get"])) b2J (.tup [.int 1, .str "get"])) b3J (.tup [.int 0, .str "drop"])) clJ (.lst [.ref b1J, .ref b2J, .ref b3J])) [b1J, b2J, b3J] [(0, "get"), (1, "get"), (0, "drop")] := .cons ((Ex.new ncl) _ _ ((Ex.new nb3) _ _ ((Ex.new nb2) _ _ upd_same))) (.cons ((Ex.new ncl) _ _ ((Ex.new nb3) _ _ upd_same)) (.cons ((Ex.new ncl) _ _ upd_same) .nil))
      generalize (upd (upd (upd (upd J6 b1J (.tup [.int 0, .str "get"])) b2J (.tup [.int 1, .str "get"])) b3J (.tup [.int 0, .str "drop"])) clJ (.lst [.ref b1J, .ref b2J, .ref b3J])) = J7 at xc hcl ct ⊢
      have cat : CallsAt K J7 ([b1J, b2J, b3J].map V.ref) [(0, "get"), (1, "get"), (0, "drop")] := by
        have z := calls_at (K := K) ct []
        rw [List.append_nil] at z
        exact z
      refine ⟨xJ, lockT, .int 2, .ref clJ, rfl, thJ.ex xc, lock_ok, by decide, by decide, by decide +kernel, .inr (.inr ⟨2, clJ, _, [(0, "get"), (1, "get"), (0, "drop")], rfl, by decide, rfl, .inl (.inl (.inl hcl)), by decide, cat, lock_run.1, .inl ⟨rfl, fun pJ psJ J8 x8 np8 hp8 pp8 => ?_⟩⟩)⟩
      rw [lock_run.2] at pp8
      clear cat ct hcl xc nb1 nb2 nb3 ncl
      refine ⟨by show 1 ≤ sizeLine; decide, fun e1J ne1 => ⟨by show 0 ≤ sizeLine; decide, fun e2J ne2 => ⟨by show 2 ≤ sizeLine; decide, fun e3J ne3 => ⟨by show 3 ≤ sizeLine; decide, fun elJ nel => ?_⟩⟩⟩⟩
      have xc : Ex J8 (upd (upd (upd (upd J8 e1J (.tup [.int 0])) e2J (.tup [])) e3J (.tup [.int 0, .int 1])) elJ (.lst [.ref e1J, .ref e2J, .ref e3J])) := ((Ex.new ne1).trans (Ex.new ne2)).trans ((Ex.new ne3).trans (Ex.new nel))
      have hel : (upd (upd (upd (upd J8 e1J (.tup [.int 0])) e2J (.tup [])) e3J (.tup [.int 0, .int 1])) elJ (.lst [.ref e1J, .ref e2J, .ref e3J])) elJ = some (.lst ([e1J, e2J, e3J].map V.ref)) := upd_same
      have pe : Paired (fun a g => SqT K (upd (upd (upd (upd J8 e1J (.tup [.int 0])) e2J (.tup [])) e3J (.tup [.int 0, .int 1])) elJ (.lst [.ref e1J, .ref e2J, .ref e3J])) a (nV g)) [e1J, e2J, e3J] ([[0], [], [0, 1]] : List (List Nat)) := .cons (.inl (.inl ((Ex.new nel) _ _ ((Ex.new ne3) _ _ ((Ex.new ne2) _ _ upd_same))))) (.cons (.inl (.inl ((Ex.new nel) _ _ ((Ex.new ne3) _ _ upd_same)))) (.cons (.inl (.inl ((Ex.new nel) _ _ upd_same))) .nil))
      generalize (upd (upd (upd (upd J8 e1J (.tup [.int 0])) e2J (.tup [])) e3J (.tup [.int 0, .int 1])) elJ (.lst [.ref e1J, .ref e2J, .ref e3J])) = J9 at xc hel pe ⊢
      obtain ⟨daJ, dbJ, DA, DB, s1, s2, ee⟩ := same_gone (xc _ _ hp8) hel (Paired.mapP pp8 fun _ _ z => xc.sqT z) pe
      clear ne1 ne2 ne3 nel
      refine ⟨daJ, dbJ, DA, DB, s1, s2, _, rfl, ?_⟩
      rw [ee]
      refine if_f rfl (next_one ?_)
      dsimp only
      refine seq_asg ?_
      refine make_one (cons_one ?_)
      refine ⟨by show 3 ≤ sizeLine; decide, fun v1M nv1 => ?_⟩
      have xv : Ex J9 (upd J9 v1M (.lst [.str "a", .str "b", .str "c"])) := Ex.new nv1
      have hv1 : upd J9 v1M (.lst [.str "a", .str "b", .str "c"]) v1M = some (.lst [.str "a", .str "b", .str "c"]) := upd_same
      generalize upd J9 v1M (.lst [.str "a", .str "b", .str "c"]) = M3 at xv hv1 ⊢
      refine cons_one (c_one (cons_one ?_))
      refine dd_go (lds := turnP.deeds) (by decide +kernel) (by decide) (by decide +kernel) fun d1M M4 x4 nd1 hd1 => ?_
      refine cons_one ?_
      refine dd_go (lds := turnP.ents) (by decide +kernel) (by decide) (by decide +kernel) fun d2M M5 x5 nd2 hd2 => ?_
      refine fun xM dxM nx ndx nex => ?_
      have xD : Ex M5 (upd (upd M5 dxM (.own xM)) xM (.ins C dxM [])) := fun b o e => (upd_ne fun z => by rw [z, nx] at e; cases e).trans ((upd_ne fun z => by rw [z, ndx] at e; cases e).trans e)
      refine ⟨xM, dxM, v1M, d1M, d2M, turnP, rfl, upd_same, .inl (.inl (xD _ _ (x5 _ _ (x4 _ _ hv1)))), (hd1.ex x5).ex xD, hd2.ex xD, turn_fit, fun M6 d6M xaM thM ioM => ⟨rfl, ?_⟩⟩
      obtain rfl := ord_turn ioM
      clear xv hv1 x4 nd1 hd1 x5 nd2 hd2 nx ndx nex xD xaM ioM
      refine ⟨.ref xM, rfl, by show 2 ≤ sizeLine; decide, fun b1M nb1 => ⟨by show 2 ≤ sizeLine; decide, fun b2M nb2 => ⟨by show 2 ≤ sizeLine; decide, fun b3M nb3 => ⟨by show 3 ≤ sizeLine; decide, fun clM ncl => ?_⟩⟩⟩⟩
      have xc : Ex M6 (upd (upd (upd (upd M6 b1M (.tup [.int 0, .str "g"])) b2M (.tup [.int 1, .str "h"])) b3M (.tup [.int 2, .str "p"])) clM (.lst [.ref b1M, .ref b2M, .ref b3M])) := ((Ex.new nb1).trans (Ex.new nb2)).trans ((Ex.new nb3).trans (Ex.new ncl))
      have hcl : (upd (upd (upd (upd M6 b1M (.tup [.int 0, .str "g"])) b2M (.tup [.int 1, .str "h"])) b3M (.tup [.int 2, .str "p"])) clM (.lst [.ref b1M, .ref b2M, .ref b3M])) clM = some (.lst ([b1M, b2M, b3M].map V.ref)) := upd_same
      have ct : CTs (upd (upd (upd (upd M6 b1M (.tup [.int 0, .str "g"])) b2M (.tup [.int 1, .str "h"])) b3M (.tup [.int 2, .str "p"])) clM (.lst [.ref b1M, .ref b2M, .ref b3M])) [b1M, b2M, b3M] [(0, "g"), (1, "h"), (2, "p")] := .cons ((Ex.new ncl) _ _ ((Ex.new nb3) _ _ ((Ex.new nb2) _ _ upd_same))) (.cons ((Ex.new ncl) _ _ ((Ex.new nb3) _ _ upd_same)) (.cons ((Ex.new ncl) _ _ upd_same) .nil))
      generalize (upd (upd (upd (upd M6 b1M (.tup [.int 0, .str "g"])) b2M (.tup [.int 1, .str "h"])) b3M (.tup [.int 2, .str "p"])) clM (.lst [.ref b1M, .ref b2M, .ref b3M])) = M7 at xc hcl ct ⊢
      have cat : CallsAt K M7 ([b1M, b2M, b3M].map V.ref) [(0, "g"), (1, "h"), (2, "p")] := by
        have z := calls_at (K := K) ct []
        rw [List.append_nil] at z
        exact z
      refine ⟨xM, turnT, .int 3, .ref clM, rfl, thM.ex xc, turn_ok, by decide, by decide, by decide +kernel, .inr (.inr ⟨3, clM, _, [(0, "g"), (1, "h"), (2, "p")], rfl, by decide, rfl, .inl (.inl (.inl hcl)), by decide, cat, turn_run.1, .inl ⟨rfl, fun pM psM M8 x8 np8 hp8 pp8 => ?_⟩⟩)⟩
      rw [turn_run.2] at pp8
      clear cat ct hcl xc nb1 nb2 nb3 ncl
      refine ⟨by show 0 ≤ sizeLine; decide, fun e1M ne1 => ⟨by show 0 ≤ sizeLine; decide, fun e2M ne2 => ⟨by show 3 ≤ sizeLine; decide, fun e3M ne3 => ⟨by show 3 ≤ sizeLine; decide, fun elM nel => ?_⟩⟩⟩⟩
      have xc : Ex M8 (upd (upd (upd (upd M8 e1M (.tup [])) e2M (.tup [])) e3M (.tup [.int 2, .int 0, .int 1])) elM (.lst [.ref e1M, .ref e2M, .ref e3M])) := ((Ex.new ne1).trans (Ex.new ne2)).trans ((Ex.new ne3).trans (Ex.new nel))
      have hel : (upd (upd (upd (upd M8 e1M (.tup [])) e2M (.tup [])) e3M (.tup [.int 2, .int 0, .int 1])) elM (.lst [.ref e1M, .ref e2M, .ref e3M])) elM = some (.lst ([e1M, e2M, e3M].map V.ref)) := upd_same
      have pe : Paired (fun a g => SqT K (upd (upd (upd (upd M8 e1M (.tup [])) e2M (.tup [])) e3M (.tup [.int 2, .int 0, .int 1])) elM (.lst [.ref e1M, .ref e2M, .ref e3M])) a (nV g)) [e1M, e2M, e3M] ([[], [], [2, 0, 1]] : List (List Nat)) := .cons (.inl (.inl ((Ex.new nel) _ _ ((Ex.new ne3) _ _ ((Ex.new ne2) _ _ upd_same))))) (.cons (.inl (.inl ((Ex.new nel) _ _ ((Ex.new ne3) _ _ upd_same)))) (.cons (.inl (.inl ((Ex.new nel) _ _ upd_same))) .nil))
      generalize (upd (upd (upd (upd M8 e1M (.tup [])) e2M (.tup [])) e3M (.tup [.int 2, .int 0, .int 1])) elM (.lst [.ref e1M, .ref e2M, .ref e3M])) = M9 at xc hel pe ⊢
      obtain ⟨daM, dbM, DA, DB, s1, s2, ee⟩ := same_gone (xc _ _ hp8) hel (Paired.mapP pp8 fun _ _ z => xc.sqT z) pe
      clear ne1 ne2 ne3 nel
      refine ⟨daM, dbM, DA, DB, s1, s2, ?_⟩
      rw [ee]
      exact hQ _
end
end TH

/-! GX: what a law's head tells, over lists of facts, defs, makers of lambdas, own exceptions (of no row) -/
namespace GX
open PySem PySem.Spec PyProof.Rows L2 LamX LamV XK0
/-! ### what is asked of a class, as a test of the head's part -/
def tailV : List Value := [.type "ValueError", .type "Exception", .type "BaseException", .type "object"]
def oexB (K : PySem.W.Frag) (C : Addr) : Bool := match K.lookup C with
  | some ⟨.type t, _, .cls cd, sl⟩ => decide (t = "type") && (!cd.hasDel && (cd.hasDict && ((match cd.mro with
      | .ref C' :: bm => decide (C' = C) && PySem.HandSPX.refsVE bm
      | _ => false) && (match sl.toList with
      | [_, _, _, _, some (.builtin n), _] => decide (n = "ValueError.__new__")
      | _ => false))))
  | _ => false
theorem oexB_ok {K : PySem.W.Frag} {C : Addr} (h : oexB K C = true) : ∃ nm q N bs bm sn sub ab col dd k0 k1 k2 k3 k5, K.lookup C = some (excClassObj nm q C N bs bm true sn sub ab col dd k0 k1 k2 k3 k5 "ValueError.__new__") ∧ PySem.HandSPX.refsVE bm = true := by
  unfold oexB at h
  split at h
  · rename_i t dd cd sl ho
    obtain ⟨nm, bs, mro, ns, qn, hd, sn, sub, ab, col, del⟩ := cd
    simp only [Bool.and_eq_true, decide_eq_true_eq, Bool.not_eq_true'] at h
    obtain ⟨rfl, h1, h2, h3, h4⟩ := h
    subst h1 h2
    split at h3
    · rename_i C' bm
      simp only [Bool.and_eq_true, decide_eq_true_eq] at h3
      obtain ⟨rfl, h3⟩ := h3
      split at h4
      · rename_i k0 k1 k2 k3 n k5 hs
        have hn : n = "ValueError.__new__" := of_decide_eq_true h4
        subst hn
        have hsl : sl = #[k0, k1, k2, k3, some (.builtin "ValueError.__new__"), k5] := by
          obtain ⟨l⟩ := sl
          simp only at hs
          rw [hs]
        subst hsl
        exact ⟨nm, qn, ns, bs, bm, sn, sub, ab, col, dd, k0, k1, k2, k3, k5, ho, h3⟩
      · cases h4
    · cases h3
  · cases h
def eqV' (a b : Option (Option Value)) : Bool := decide (a = b)
/-- the class by its name: right beneath TaskError (or it itself), as it stands behind the top -/
def clsB (K : PySem.W.Frag) (up : List Value) (x : Str) (fs : List Str) : Bool :=
  let C := He.ga K x
  He.eqO (PySem.W.nsIn K mainGlobals x) (some (some (.ref C))) && (oexB K C && (He.eqO (PySem.W.findIn K (.ref C) "__setattr__") (some (some (.builtin "object.__setattr__"))) && (xfB K C && (He.eqO (PySem.W.findIn K (.ref C) "__class__") (some (some (.builtin "object.__class__"))) &&
    (PySem.W.keepIn K (.ref C) && (decide (PySem.W.typeIn K (.ref C) = some (.type "type")) && ((PySem.W.clsIn K C).any (fun cd => decide (cd.mro = .ref C :: up)) && fs.all fun f => He.eqO (PySem.W.findIn K (.ref C) f) (some none))))))))
structure ClsF (K : PySem.W.Frag) (mg : Str → Option Value) (up : List Value) (x : Str) (fs : List Str) : Prop where
  gl : mg x = some (.ref (He.ga K x))
  ox : OexC K (He.ga K x)
  xf : XfC K (He.ga K x)
  ha : PySem.W.findIn K (.ref (He.ga K x)) "__class__" = some (some (.builtin "object.__class__"))
  mro : ∃ cd, PySem.W.clsIn K (He.ga K x) = some cd ∧ cd.mro = .ref (He.ga K x) :: up
  no : ∀ f ∈ fs, PySem.W.findIn K (.ref (He.ga K x)) f = some none
theorem any_ok {α : Type} {o : Option α} {p : α → Bool} (h : o.any p = true) : ∃ a, o = some a ∧ p a = true := by
  cases o with
  | none => cases h
  | some a => exact ⟨a, rfl, h⟩
theorem clsB_ok {K : PySem.W.Frag} {mg : Str → Option Value} {h : Heap} {up : List Value} {x : Str} {fs : List Str} (X : K.In h) (G : h.Ns mainGlobals mg) (c : clsB K up x fs = true) : ClsF K mg up x fs := by
  unfold clsB at c
  obtain ⟨c1, c⟩ := He.ba c
  obtain ⟨c2, c⟩ := He.ba c
  obtain ⟨c3, c⟩ := He.ba c
  obtain ⟨c4, c⟩ := He.ba c
  obtain ⟨c5, c⟩ := He.ba c
  obtain ⟨c6, c⟩ := He.ba c
  obtain ⟨c7, c⟩ := He.ba c
  obtain ⟨c8, c9⟩ := He.ba c
  have XF := xfB_ok c4
  obtain ⟨cd, hc, hm⟩ := any_ok c8
  exact ⟨PySem.W.mg_of X G (He.eqO_ok c1), ⟨oexB_ok c2, He.eqO_ok c3, XF.exC, of_decide_eq_true c7, c6⟩, XF, He.eqO_ok c5, ⟨cd, hc, of_decide_eq_true hm⟩, fun f hf => He.eqO_ok (List.all_eq_true.mp c9 f hf)⟩
def initB (K : PySem.W.Frag) (x : Str) : Bool := He.eqO (PySem.W.findIn K (.ref (He.ga K x)) "__init__") (some (some (.ref (He.fAd K (x, some "__init__"))))) && decide (PySem.W.typeIn K (.ref (He.fAd K (x, some "__init__"))) = some (.type "function"))
section
variable {K : PySem.W.Frag} {mg : Str → Option Value} {fd : FuncData}
theorem vals_app {vs zs : List V} {us ws : List Value} (a : Vals vs us) (b : Vals zs ws) : Vals (vs ++ zs) (us ++ ws) := a.append b
theorem vals_rev : ∀ {vs : List V} {us : List Value}, Vals vs us → Vals vs.reverse us.reverse
  | _, _, .nil => .nil
  | _, _, .cons r t => by
    rw [List.reverse_cons, List.reverse_cons]
    exact (vals_rev t).append (.cons r .nil)
theorem ec1_of {x f qual : Str} {params : Arguments} {scope : Scope} {up : List Value} {fs : List Str} {p1 p2 p3 p4 : Pos} (c : ClsF K mg up x fs) (hf : f ∈ fs) (hi : initB K x = true)
    (F : FunD K "__init__" qual params [.Assign [.Attribute (.Name "self" p1) f p2] (.Name f p3) p4] scope [] [] (He.fAd K (x, some "__init__")) fd) (S : FnScope ["self", f] ["self", f] scope) (hd : (f == ("__debug__" : Str)) = false) (hc : (f == ("__classdict__" : Str)) = false)
    (b1 : ∀ (kV doc pm : Value) (an : Option Addr) (cdv ct : Value) (us ws : List Value), us.length = 2 → ws.length = ([] : List Str).length → bindArgs (PySem.W.fnOf "__init__" qual params [.Assign [.Attribute (.Name "self" p1) f p2] (.Name f p3) p4] scope .none kV doc pm an cdv ct) ⟨us, ([] : List Str).zip ws⟩ = pure ((["self", f] : List Str).zip us))
    (b2 : ∀ (kV doc pm : Value) (an : Option Addr) (cdv ct : Value) (us ws : List Value), us.length = 1 → ws.length = [f].length → bindArgs (PySem.W.fnOf "__init__" qual params [.Assign [.Attribute (.Name "self" p1) f p2] (.Name f p3) p4] scope .none kV doc pm an cdv ct) ⟨us, [f].zip ws⟩ = pure ((["self", f] : List Str).zip (us ++ ws))) : Ec1 K mg x f (He.ga K x) := by
  obtain ⟨i1, i2⟩ := He.ba hi
  exact ⟨c.ox, c.gl, c.no f hf, _, fd, He.eqO_ok i1, of_decide_eq_true i2, fun P w base => ok_init1 F S hd hc, kbn_of F 2 [] (fun us ws => us) (fun a _ => a) b1, kbn_of F 1 [f] (fun us ws => us ++ ws) (fun a b => a.append b) b2⟩
theorem ec2_of {x f g qual : Str} {params : Arguments} {scope : Scope} {up : List Value} {fs : List Str} {p1 p2 p3 p4 q1 q2 q3 q4 : Pos} (c : ClsF K mg up x fs) (hf : f ∈ fs) (hg : g ∈ fs) (hi : initB K x = true)
    (F : FunD K "__init__" qual params [.Assign [.Attribute (.Name "self" p1) f p2] (.Name f p3) p4, .Assign [.Attribute (.Name "self" q1) g q2] (.Name g q3) q4] scope [] [] (He.fAd K (x, some "__init__")) fd) (S : FnScope ["self", f, g] ["self", f, g] scope)
    (hd : (f == ("__debug__" : Str)) = false) (hc : (f == ("__classdict__" : Str)) = false) (hd2 : (g == ("__debug__" : Str)) = false) (hc2 : (g == ("__classdict__" : Str)) = false)
    (b1 : ∀ (kV doc pm : Value) (an : Option Addr) (cdv ct : Value) (us ws : List Value), us.length = 3 → ws.length = ([] : List Str).length → bindArgs (PySem.W.fnOf "__init__" qual params [.Assign [.Attribute (.Name "self" p1) f p2] (.Name f p3) p4, .Assign [.Attribute (.Name "self" q1) g q2] (.Name g q3) q4] scope .none kV doc pm an cdv ct) ⟨us, ([] : List Str).zip ws⟩ = pure ((["self", f, g] : List Str).zip us))
    (b2 : ∀ (kV doc pm : Value) (an : Option Addr) (cdv ct : Value) (us ws : List Value), us.length = 1 → ws.length = [g, f].length → bindArgs (PySem.W.fnOf "__init__" qual params [.Assign [.Attribute (.Name "self" p1) f p2] (.Name f p3) p4, .Assign [.Attribute (.Name "self" q1) g q2] (.Name g q3) q4] scope .none kV doc pm an cdv ct) ⟨us, [g, f].zip ws⟩ = pure ((["self", f, g] : List Str).zip (us ++ ws.reverse))) : Ec2 K mg x f g (He.ga K x) := by
  obtain ⟨i1, i2⟩ := He.ba hi
  exact ⟨c.ox, c.gl, c.no f hf, c.no g hg, _, fd, He.eqO_ok i1, of_decide_eq_true i2, fun P w base => ok_init2 F S hd hc hd2 hc2, kbn_of F 3 [] (fun us ws => us) (fun a _ => a) b1, kbn_of F 1 [g, f] (fun us ws => us ++ ws.reverse) (fun a b => a.append (vals_rev b)) b2⟩
abbrev UpT (K : PySem.W.Frag) : List Value := .ref (He.ga K "TaskError") :: tailV
end
/-! ### the head's part: the module's names, the classes' dicts, the functions, their code -/
def as1 (g : Addr → Option Obj) : List Addr := match g mainGlobals with
  | some ⟨_, _, .dict es _, _⟩ => es.toList.flatMap fun e => He.refV e.val
  | _ => []
def as2 (g : Addr → Option Obj) : List Addr := (as1 g).flatMap fun a => match g a with
  | some ⟨_, _, .cls cd, _⟩ => [cd.ns]
  | some ⟨_, _, .func fd, _⟩ => He.refV fd.code
  | _ => []
def as3 (g : Addr → Option Obj) : List Addr := (as2 g).flatMap fun a => match g a with
  | some ⟨_, _, .dict es _, _⟩ => es.toList.flatMap fun e => (match e.val with
    | .ref b => (match g b with
      | some ⟨_, _, .func _, _⟩ => [b]
      | _ => [])
    | _ => [])
  | _ => []
def as4 (g : Addr → Option Obj) : List Addr := (as3 g).flatMap fun a => match g a with
  | some ⟨_, _, .func fd, _⟩ => He.refV fd.code
  | _ => []
def asX (g : Addr → Option Obj) : List Addr := mainGlobals :: sysModules :: (as1 g ++ (as2 g ++ (as3 g ++ as4 g)))
def nodB : List Addr → Bool
  | [] => true
  | a :: r => !r.contains a && nodB r
theorem nodB_ok : ∀ {l : List Addr}, nodB l = true → l.Nodup
  | [], _ => List.nodup_nil
  | a :: r, h => by
    obtain ⟨h1, h2⟩ := He.ba h
    refine List.nodup_cons.mpr ⟨fun z => ?_, nodB_ok h2⟩
    rw [Bool.not_eq_true'] at h1
    have : r.contains a = true := List.contains_iff_mem.mpr z
    rw [h1] at this
    cases this
def codeHdB (o : Obj) (c P : Addr) : Bool := match o with
  | ⟨.type t, _, .fields vs, _⟩ => decide (t = "code") && ((match (vs[11]? : Option Value) with
      | some (.ref Q) => decide (Q = P)
      | _ => false) && ((match vs.getD 18 .none with
      | .str _ _ => true
      | _ => false) && ((match vs.getD 7 .none with
      | .int _ _ => true
      | _ => false) && ((match vs.getD 9 .none with
      | .bool _ => true
      | _ => false) && ((match vs.getD 10 .none with
      | .int _ _ => true
      | _ => false) && !decide (c = P))))))
  | _ => false
theorem codeHdB_ok {h : Heap} {o : Obj} {c P : Addr} (e : h.get? c = some o) (b : codeHdB o c P = true) : PySem.W.CodeHd h c P := by
  unfold codeHdB at b
  split at b
  · rename_i t dd vs sl
    obtain ⟨b1, b⟩ := He.ba b
    obtain ⟨b2, b⟩ := He.ba b
    obtain ⟨b3, b⟩ := He.ba b
    obtain ⟨b4, b⟩ := He.ba b
    obtain ⟨b5, b⟩ := He.ba b
    obtain ⟨b6, b7⟩ := He.ba b
    have ht : t = "code" := of_decide_eq_true b1
    subst ht
    split at b2
    · rename_i Q hq
      have hQ : Q = P := of_decide_eq_true b2
      subst hQ
      split at b3
      · rename_i file tf h18
        split at b4
        · rename_i fl tg h7
          split at b5
          · rename_i inF h9
            split at b6
            · rename_i tx tt h10
              refine ⟨_, vs, file, tf, fl, tg, inF, tx, tt, e, rfl, rfl, hq, ?_, h18, h7, h9, h10, ?_⟩
              · rw [Array.getD_eq_getD_getElem?, hq]
                rfl
              · simpa using b7
            · cases b6
          · cases b5
        · cases b4
      · cases b3
    · cases b2
  · cases b
def tabOf (K : PySem.W.Frag) (x : Str) : Addr × Addr := match codeOf K (He.ga K x) with
  | some (.ref c) => (match K.lookup c with
    | some ⟨_, _, .fields vs, _⟩ => (match (vs[11]? : Option Value) with
      | some (.ref P) => (c, P)
      | _ => (0, 0))
    | _ => (0, 0))
  | _ => (0, 0)
def isRef (o : Option Value) (c : Addr) : Bool := match o with
  | some (.ref d) => decide (d = c)
  | _ => false
theorem isRef_ok {o : Option Value} {c : Addr} (h : isRef o c = true) : o = some (.ref c) := by
  unfold isRef at h
  split at h
  · rename_i d
    have e : d = c := of_decide_eq_true h
    rw [e]
  · cases h
def emptyB (o : Option Obj) : Bool := match o with
  | some ⟨.none, none, .fields vs, sl⟩ => vs.isEmpty && sl.isEmpty
  | _ => false
theorem emptyB_ok {o : Option Obj} (h : emptyB o = true) : o = some { cls := .none, data := .fields #[] } := by
  unfold emptyB at h
  split at h
  · rename_i vs sl
    obtain ⟨h1, h2⟩ := He.ba h
    rw [Array.isEmpty_iff.mp h1, Array.isEmpty_iff.mp h2]
  · cases h
def tabB (K : PySem.W.Frag) (g : Addr → Option Obj) (x : Str) : Bool := isRef (codeOf K (He.ga K x)) (tabOf K x).1 && ((match K.lookup (tabOf K x).1 with
  | some o => codeHdB o (tabOf K x).1 (tabOf K x).2
  | none => false) && ((K.lookup (tabOf K x).2).isNone && emptyB (g (tabOf K x).2)))
structure TabH (K : PySem.W.Frag) (h : Heap) (x : Str) : Prop where
  co : codeOf K (He.ga K x) = some (.ref (tabOf K x).1)
  hd : PySem.W.CodeHd h (tabOf K x).1 (tabOf K x).2
  no : K.lookup (tabOf K x).2 = none
  em : h.get? (tabOf K x).2 = some { cls := .none, data := .fields #[] }
theorem tabB_ok {K : PySem.W.Frag} {h : Heap} {x : Str} (X : K.In h) (b : tabB K h.get? x = true) : TabH K h x := by
  obtain ⟨b1, b⟩ := He.ba b
  obtain ⟨b2, b⟩ := He.ba b
  obtain ⟨b3, b4⟩ := He.ba b
  split at b2
  · rename_i o ho
    exact ⟨isRef_ok b1, codeHdB_ok (X _ _ ho) b2, Option.isNone_iff_eq_none.mp b3, emptyB_ok b4⟩
  · cases b2
section
variable (fa : List He.Fa) (fn : List He.DefD) (mk : List Str) (nms : List (Str × List Str))
def clsAll (K : PySem.W.Frag) : Bool := clsB K tailV "TaskError" [] && (nms.all (fun p => clsB K (UpT K) p.1 p.2 && initB K p.1) && (K.lookup sysModules).isSome)
def obsX (g : Addr → Option Obj) (K : PySem.W.Frag) : Bool × He.AlD := (clsAll nms K && (mk.all (fun x => tabB K g x) && nodB (mk.map fun x => (tabOf K x).2)), He.obsD fa fn K)
structure SayX (h : Heap) (K : PySem.W.Frag) : Prop where
  inh : K.In h
  cls : clsAll nms K = true
  tab : ∀ x ∈ mk, TabH K h x
  nod : (mk.map fun x => (tabOf K x).2).Nodup
  say : He.SaysD fa fn K
def hkX : PySem.W.Hook where
  α := Bool × He.AlD
  obs := fun s => obsX fa fn mk nms s.heap.get? (He.frG s.heap.get? (asX s.heap.get?))
  val := fun _ => (true, He.valD fn)
  says := fun _ h => ∃ K, SayX fa fn mk nms h K
  of := fun _ s e => by
    have e1 := congrArg Prod.fst e
    have e2 := congrArg Prod.snd e
    obtain ⟨c1, c2⟩ := He.ba e1
    obtain ⟨c2, c3⟩ := He.ba c2
    exact ⟨_, He.frG_in, c1, fun x hx => tabB_ok He.frG_in (List.all_eq_true.mp c2 x hx), nodB_ok c3, e2⟩
  keeps := fun _ h h' ⟨K, s⟩ k => ⟨K, PySem.W.Frag.In.keeps s.inh k, s.cls, fun x hx => ⟨(s.tab x hx).co, (s.tab x hx).hd.keeps k, (s.tab x hx).no, k _ _ (s.tab x hx).em⟩, s.nod, s.say⟩
def obX (s : PySem.W.SharedT) : Bool × He.AlD := obsX fa fn mk nms (HandSHeadRun.getT s) (He.frG (HandSHeadRun.getT s) (asX (HandSHeadRun.getT s)))
theorem obX_eq (s : PySem.W.SharedT) : obX fa fn mk nms s = (hkX fa fn mk nms).obs s.abs := by
  have e : HandSHeadRun.getT s = s.abs.heap.get? := funext (HandSHeadRun.getT_eq s)
  unfold obX
  rw [e]
  rfl
end
section
variable {fa : List He.Fa} {fn : List He.DefD} {mk : List Str} {nms : List (Str × List Str)} {h : Heap} {K : PySem.W.Frag} {mg : Str → Option Value}
theorem SayX.fact (s : SayX fa fn mk nms h K) {f : He.Fa} (hf : f ∈ fa) : f.ok K = true := by
  obtain ⟨i, hi⟩ := List.mem_iff_getElem?.mp hf
  exact s.say.fact i hi
theorem SayX.fd (s : SayX fa fn mk nms h K) {d : He.DefD} (hd : d ∈ fn) : ∃ fd, FunD K d.name d.qual d.params d.body d.scope (d.dvs K) (d.kws K) (He.fAd K d.at_) fd := by
  obtain ⟨i, hi⟩ := List.mem_iff_getElem?.mp hd
  exact s.say.def_ i hi
theorem SayX.glo (s : SayX fa fn mk nms h K) (G : h.Ns mainGlobals mg) {x : Str} (hf : He.Fa.glo x ∈ fa) : mg x = some (.ref (He.ga K x)) := He.glo_ok s.inh G (s.fact hf)
theorem SayX.free (s : SayX fa fn mk nms h K) (G : h.Ns mainGlobals mg) {x : Str} (hf : He.Fa.free x ∈ fa) : mg x = none := He.free_ok s.inh G (s.fact hf)
theorem SayX.te (s : SayX fa fn mk nms h K) (G : h.Ns mainGlobals mg) : ClsF K mg tailV "TaskError" [] := clsB_ok s.inh G (He.ba s.cls).1
theorem SayX.exc (s : SayX fa fn mk nms h K) (G : h.Ns mainGlobals mg) {p : Str × List Str} (hp : p ∈ nms) : ClsF K mg (UpT K) p.1 p.2 ∧ initB K p.1 = true := by
  have z := List.all_eq_true.mp (He.ba (He.ba s.cls).2).1 p hp
  exact ⟨clsB_ok s.inh G (He.ba z).1, (He.ba z).2⟩
theorem SayX.sm (s : SayX fa fn mk nms h K) : (K.lookup sysModules).isSome = true := (He.ba (He.ba s.cls).2).2
end
/-- a def's parameters, bound by place -/
theorem binds0 {K : PySem.W.Frag} {x qual : Str} {params : Arguments} {body : List Stmt} {scope : Scope} {f : Addr} {fd : FuncData} {ps : List Str} (F : FunD K x qual params body scope [] [] f fd)
    (h : ∀ (kV doc pm : Value) (an : Option Addr) (cdv ct : Value) (us : List Value), us.length = ps.length → bindArgs (PySem.W.fnOf x qual params body scope .none kV doc pm an cdv ct) ⟨us, []⟩ = pure (ps.zip us)) : Binds K fd ps [] := by
  obtain ⟨oc, od, dV, kV, doc, pm, an, cdv, ct, osl, rfl, lk, hcd, hD, hK⟩ := F.ex
  rcases hD with ⟨_, rfl⟩ | ⟨e, _⟩
  · exact fun s us _ hl => by
      rw [List.append_nil] at hl ⊢
      exact .of_eq (h kV doc pm an cdv ct us hl)
  · exact absurd rfl e
end GX


/-! the facts of the law's head (printed by genend.py) -/
namespace K37
open PySem PySem.Spec PyProof.Rows L2 LamX LamV XK0
def fD (x : Str) (t : Nat) : He.DefD := ⟨(x, none), x, x, defArgs (TH.top t), defBody (TH.top t), defScope (TH.top t), [], []⟩
def mD (x m q : Str) (t j : Nat) : He.DefD := ⟨(x, some m), m, q, defArgs (inClass (TH.top t) j), defBody (inClass (TH.top t) j), defScope (inClass (TH.top t) j), [], []⟩
def fnF : List He.DefD := [fD "is_integer" 3, fD "is_natural" 4, fD "is_positive" 5, fD "is_list" 6, fD "is_pair" 7, fD "is_word" 8, fD "first_bad_word" 9, fD "is_lead" 20, fD "first_wrong" 21, fD "ordered" 22, fD "names_of" 25, fD "led_to" 26, fD "rows_from" 27, fD "check_number" 29, fD "first_state" 30, fD "is_waiting" 31, fD "is_call" 32, fD "served" 33, fD "called" 34, fD "gone_on" 35, fD "calls_let" 36, fD "parting_from" 37, fD "calls_that_part" 38, fD "lots_by_first" 39, fD "like_values" 40, fD "least_thing" 41, fD "_law_spring" 43, fD "_law_take" 44, fD "_law_one" 45, fD "_law_mix" 46, fD "_law_thing" 47, fD "_law_made" 48, fD "_law_names" 49, fD "_law_led" 50, fD "_law_after" 51, fD "_law_begin" 52, fD "_law_waits" 53, fD "_law_calls" 54, fD "_law_parting" 55, fD "_law_met" 56, fD "_law_refused" 57, fD "law" 58]
def fnI : List He.DefD := [mD "BadNumber" "__init__" "BadNumber.__init__" 16 0, mD "BadCalls" "__init__" "BadCalls.__init__" 17 0, mD "Thing" "__init__" "Thing.__init__" 23 0, mD "Thing" "start" "Thing.start" 23 2, mD "Thing" "deeds" "Thing.deeds" 23 3, mD "Thing" "entries" "Thing.entries" 23 4]
def fn : List He.DefD := fnF ++ fnI
def fa : List He.Fa := [.glo "is_integer", .glo "is_natural", .glo "is_positive", .glo "is_list", .glo "is_pair", .glo "is_word", .glo "first_bad_word", .glo "is_lead", .glo "first_wrong", .glo "ordered", .glo "names_of", .glo "led_to", .glo "rows_from", .glo "check_number", .glo "first_state", .glo "is_waiting", .glo "is_call", .glo "served", .glo "called", .glo "gone_on", .glo "calls_let", .glo "parting_from", .glo "calls_that_part", .glo "lots_by_first", .glo "like_values", .glo "least_thing", .glo "_law_spring", .glo "_law_take", .glo "_law_one", .glo "_law_mix", .glo "_law_thing", .glo "_law_made", .glo "_law_names", .glo "_law_led", .glo "_law_after", .glo "_law_begin", .glo "_law_waits", .glo "_law_calls", .glo "_law_parting", .glo "_law_met", .glo "_law_refused", .glo "law", .free "isinstance", .free "list", .free "tuple", .free "str", .free "len", .free "all", .free "enumerate", .free "sorted", .free "dict", .free "range", .free "repr", .free "int", .free "abs", .free "bool", .free "any", .str "LETTERS" "abcdefghijklmnopqrstuvwxyz", .glo "Thing", .cls "Thing", .mkr "Thing", .noat "Thing" "kept_values", .noat "Thing" "kept_start", .noat "Thing" "kept_deeds", .noat "Thing" "kept_entries", .meth "Thing" "start", .meth "Thing" "deeds", .meth "Thing" "entries", .exm "BadNumber" "BadNumber" true, .exm "BadNumber" "BadCalls" false, .exm "BadCalls" "BadNumber" false, .exm "BadCalls" "BadCalls" true]
def mk : List Str := ["_law_refused"]
def nms : List (Str × List Str) := [("BadNumber", ["number"]), ("BadCalls", ["index"])]
abbrev hk : PySem.W.Hook := GX.hkX fa fn mk nms
end K37

namespace K37
open PySem PySem.Spec PyProof.Rows L2 LamX LamV XK0 TH
theorem law_all {P : Program} {w : World} {h base : Heap} {K : PySem.W.Frag} {mg : Str → Option Value} (S : GX.SayX fa fn mk nms h K) (G : h.Ns mainGlobals mg) {T : List (Addr × Str)} {c2 P2 : Addr} (t2 : codeOf K (He.fAd K ("_law_refused", none)) = some (.ref c2))
    (TB2 : TabB base mg c2 P2) (m2 : (P2, TH.lamR) ∈ T) (u2 : ∀ p ∈ T, p.1 = P2 → p.2 = TH.lamR) :
    ∃ fd, FnP K "law" (TH.top 58) (He.fAd K ("law", none)) fd ∧ FnOkG P w K mg base CX0 9 (He.fAd K ("law", none)) fd ["_law_script"] (TH.spLaw37 K T) := by
  have fr : ∀ x, x ∈ (["isinstance", "list", "tuple", "str", "len", "all", "enumerate", "sorted", "dict", "range", "repr", "int", "abs", "bool", "any"] : List Str) → mg x = none := fun x hx => by
    simp only [List.mem_cons, List.mem_nil_iff, or_false] at hx
    rcases hx with rfl | rfl | rfl | rfl | rfl | rfl | rfl | rfl | rfl | rfl | rfl | rfl | rfl | rfl | rfl <;> exact S.free G (by simp [fa])
  obtain ⟨tL, gL⟩ := He.str_ok S.inh G (S.fact (f := .str "LETTERS" "abcdefghijklmnopqrstuvwxyz") (by simp [fa]))
  let C : Addr := He.ga K "Thing"
  let CN : Addr := He.ga K "BadNumber"
  let CB : Addr := He.ga K "BadCalls"
  have TC : ThC K C := ⟨He.cls_ok (S.fact (f := .cls "Thing") (by simp [fa])), He.noat_ok (S.fact (f := .noat "Thing" "kept_values") (by simp [fa])), He.noat_ok (S.fact (f := .noat "Thing" "kept_start") (by simp [fa])), He.noat_ok (S.fact (f := .noat "Thing" "kept_deeds") (by simp [fa])), He.noat_ok (S.fact (f := .noat "Thing" "kept_entries") (by simp [fa]))⟩
  obtain ⟨xN, iN⟩ := S.exc G (p := ("BadNumber", ["number"])) (by simp [nms])
  obtain ⟨xB, iB⟩ := S.exc G (p := ("BadCalls", ["index"])) (by simp [nms])
  obtain ⟨dN, hN⟩ := S.fd (d := mD "BadNumber" "__init__" "BadNumber.__init__" 16 0) (by simp [fn, fnI])
  obtain ⟨dB, hB⟩ := S.fd (d := mD "BadCalls" "__init__" "BadCalls.__init__" 17 0) (by simp [fn, fnI])
  have EN : Ec1 K mg "BadNumber" "number" CN := GX.ec1_of xN (by simp) iN hN ⟨rfl, rfl, rfl, by decide +kernel, rfl, by decide +kernel, by decide +kernel⟩ (by decide) (by decide) (fun _ _ _ _ _ _ us ws hl _ => match us, hl with | [_, _], _ => rfl) (fun _ _ _ _ _ _ us ws hl hw => match us, hl, ws, hw with | [_], _, [_], _ => rfl)
  have EB : Ec1 K mg "BadCalls" "index" CB := GX.ec1_of xB (by simp) iB hB ⟨rfl, rfl, rfl, by decide +kernel, rfl, by decide +kernel, by decide +kernel⟩ (by decide) (by decide) (fun _ _ _ _ _ _ us ws hl _ => match us, hl with | [_, _], _ => rfl) (fun _ _ _ _ _ _ us ws hl hw => match us, hl, ws, hw with | [_], _, [_], _ => rfl)
  have MC : MetC K mg CN CB := ⟨xN.gl, xB.gl, xN.xf, xB.xf, xN.no _ (by simp), xB.no _ (by simp), He.exm_ok (S.fact (f := .exm "BadNumber" "BadNumber" true) (by simp [fa])), He.exm_ok (S.fact (f := .exm "BadCalls" "BadNumber" false) (by simp [fa])), He.exm_ok (S.fact (f := .exm "BadCalls" "BadCalls" true) (by simp [fa]))⟩
  obtain ⟨dil, hil⟩ := S.fd (d := fD "is_list" 6) (by simp [fn, fnF])
  have Hil : Has P w K mg base "is_list" 1 ["thing"] (spIsList K) := ⟨_, dil, S.glo G (by simp [fa]), hil.kp, GX.binds0 hil (fun _ _ _ _ _ _ us hl => match us, hl with | [_], _ => rfl), ok_is_list hil (fr "isinstance" (by simp)) (fr "list" (by simp)) (fr "tuple" (by simp))⟩
  obtain ⟨diw, hiw⟩ := S.fd (d := fD "is_word" 8) (by simp [fn, fnF])
  have Hiw : Has P w K mg base "is_word" 1 ["thing"] (spIsWord K) := ⟨_, diw, S.glo G (by simp [fa]), hiw.kp, GX.binds0 hiw (fun _ _ _ _ _ _ us hl => match us, hl with | [_], _ => rfl), ok_is_word hiw (fr "isinstance" (by simp)) (fr "str" (by simp)) (fr "len" (by simp)) (fr "all" (by simp)) gL⟩
  obtain ⟨dii, hii⟩ := S.fd (d := fD "is_integer" 3) (by simp [fn, fnF])
  have Hii : Has P w K mg base "is_integer" 1 ["thing"] (spIsInt K) := ⟨_, dii, S.glo G (by simp [fa]), hii.kp, GX.binds0 hii (fun _ _ _ _ _ _ us hl => match us, hl with | [_], _ => rfl), ok_is_int hii (fr "isinstance" (by simp)) (fr "int" (by simp)) (fr "bool" (by simp))⟩
  obtain ⟨dina, hina⟩ := S.fd (d := fD "is_natural" 4) (by simp [fn, fnF])
  have Hina : Has P w K mg base "is_natural" 2 ["thing"] (spIsNat K) := ⟨_, dina, S.glo G (by simp [fa]), hina.kp, GX.binds0 hina (fun _ _ _ _ _ _ us hl => match us, hl with | [_], _ => rfl), ok_is_nat hina Hii⟩
  obtain ⟨dip, hip⟩ := S.fd (d := fD "is_positive" 5) (by simp [fn, fnF])
  have Hip : Has P w K mg base "is_positive" 2 ["thing"] (spIsPos K) := ⟨_, dip, S.glo G (by simp [fa]), hip.kp, GX.binds0 hip (fun _ _ _ _ _ _ us hl => match us, hl with | [_], _ => rfl), ok_is_pos hip Hii⟩
  obtain ⟨dipr, hipr⟩ := S.fd (d := fD "is_pair" 7) (by simp [fn, fnF])
  have Hipr : Has P w K mg base "is_pair" 2 ["thing"] (spIsPair K) := ⟨_, dipr, S.glo G (by simp [fa]), hipr.kp, GX.binds0 hipr (fun _ _ _ _ _ _ us hl => match us, hl with | [_], _ => rfl), ok_is_pair hipr Hil (fr "len" (by simp))⟩
  obtain ⟨dfb, hfb⟩ := S.fd (d := fD "first_bad_word" 9) (by simp [fn, fnF])
  have Hfb : Has P w K mg base "first_bad_word" 2 ["things", "barred"] (spFirstBad K) := ⟨_, dfb, S.glo G (by simp [fa]), hfb.kp, GX.binds0 hfb (fun _ _ _ _ _ _ us hl => match us, hl with | [_, _], _ => rfl), ok_first_bad hfb Hil Hiw (fr "list" (by simp)) (fr "enumerate" (by simp))⟩
  obtain ⟨dno, hno⟩ := S.fd (d := fD "names_of" 25) (by simp [fn, fnF])
  have Hno : Has P w K mg base "names_of" 1 ["thing"] (spNamesOf C) := ⟨_, dno, S.glo G (by simp [fa]), hno.kp, GX.binds0 hno (fun _ _ _ _ _ _ us hl => match us, hl with | [_], _ => rfl), ok_names_of hno TC (fr "sorted" (by simp))⟩
  obtain ⟨dlt, hlt⟩ := S.fd (d := fD "led_to" 26) (by simp [fn, fnF])
  have Hlt : Has P w K mg base "led_to" 1 ["thing", "worth", "name"] (spLedTo C) := ⟨_, dlt, S.glo G (by simp [fa]), hlt.kp, GX.binds0 hlt (fun _ _ _ _ _ _ us hl => match us, hl with | [_, _, _], _ => rfl), ok_led_to hlt TC⟩
  obtain ⟨dcn, hcn⟩ := S.fd (d := fD "check_number" 29) (by simp [fn, fnF])
  have Hcn : HasX P w K mg base "check_number" 3 ["callers"] (spCheckNumX K CN) := ⟨_, dcn, S.glo G (by simp [fa]), hcn.kp, GX.binds0 hcn (fun _ _ _ _ _ _ us hl => match us, hl with | [_], _ => rfl), ok_check_num hcn EN Hip⟩
  obtain ⟨dfs, hfs⟩ := S.fd (d := fD "first_state" 30) (by simp [fn, fnF])
  have Hfs : Has P w K mg base "first_state" 1 ["thing", "worth"] (spFirstState K C) := ⟨_, dfs, S.glo G (by simp [fa]), hfs.kp, GX.binds0 hfs (fun _ _ _ _ _ _ us hl => match us, hl with | [_, _], _ => rfl), ok_first_state hfs TC (fr "tuple" (by simp))⟩
  obtain ⟨diwt, hiwt⟩ := S.fd (d := fD "is_waiting" 31) (by simp [fn, fnF])
  have Hiwt : Has P w K mg base "is_waiting" 1 ["state", "caller"] (spIsWaiting K) := ⟨_, diwt, S.glo G (by simp [fa]), hiwt.kp, GX.binds0 hiwt (fun _ _ _ _ _ _ us hl => match us, hl with | [_, _], _ => rfl), ok_is_waiting hiwt (fr "any" (by simp))⟩
  obtain ⟨dic, hic⟩ := S.fd (d := fD "is_call" 32) (by simp [fn, fnF])
  have Hic : Has P w K mg base "is_call" 3 ["thing", "callers", "state", "call"] (spIsCall K C) := ⟨_, dic, S.glo G (by simp [fa]), hic.kp, GX.binds0 hic (fun _ _ _ _ _ _ us hl => match us, hl with | [_, _, _, _], _ => rfl), ok_is_call hic Hipr Hina Hiw Hno Hiwt⟩
  obtain ⟨dsv, hsv⟩ := S.fd (d := fD "served" 33) (by simp [fn, fnF])
  have Hsv : Has P w K mg base "served" 1 ["thing", "state"] (spServed K C) := ⟨_, dsv, S.glo G (by simp [fa]), hsv.kp, GX.binds0 hsv (fun _ _ _ _ _ _ us hl => match us, hl with | [_, _], _ => rfl), ok_served hsv TC (fr "list" (by simp)) (fr "enumerate" (by simp)) (fr "tuple" (by simp))⟩
  obtain ⟨dcd, hcd⟩ := S.fd (d := fD "called" 34) (by simp [fn, fnF])
  have Hcd : Has P w K mg base "called" 2 ["thing", "state", "call"] (spCalled K C) := ⟨_, dcd, S.glo G (by simp [fa]), hcd.kp, GX.binds0 hcd (fun _ _ _ _ _ _ us hl => match us, hl with | [_, _, _], _ => rfl), ok_called hcd TC Hlt Hsv (fr "tuple" (by simp)) (fr "list" (by simp))⟩
  obtain ⟨dgo, hgo⟩ := S.fd (d := fD "gone_on" 35) (by simp [fn, fnF])
  have Hgo : HasX P w K mg base "gone_on" 4 ["thing", "callers", "calls"] (spGoneOnX K C CN CB) := ⟨_, dgo, S.glo G (by simp [fa]), hgo.kp, GX.binds0 hgo (fun _ _ _ _ _ _ us hl => match us, hl with | [_, _, _], _ => rfl), ok_gone_on hgo TC EB Hcn Hil Hfs Hic Hcd (fr "enumerate" (by simp))⟩
  obtain ⟨dcp, hcp⟩ := S.fd (d := fD "calls_that_part" 38) (by simp [fn, fnF])
  have Hcp : HasX P w K mg base "calls_that_part" 4 ["one", "other", "callers"] (spNum3X K CN) := ⟨_, dcp, S.glo G (by simp [fa]), hcp.kp, GX.binds0 hcp (fun _ _ _ _ _ _ us hl => match us, hl with | [_, _, _], _ => rfl), ok_partX hcp Hcn⟩
  obtain ⟨dlv, hlv⟩ := S.fd (d := fD "like_values" 40) (by simp [fn, fnF])
  have Hlv : HasX P w K mg base "like_values" 4 ["thing", "callers"] (spNum2X K CN) := ⟨_, dlv, S.glo G (by simp [fa]), hlv.kp, GX.binds0 hlv (fun _ _ _ _ _ _ us hl => match us, hl with | [_, _], _ => rfl), ok_likeX hlv Hcn⟩
  obtain ⟨dls, hls⟩ := S.fd (d := fD "least_thing" 41) (by simp [fn, fnF])
  have Hls : HasX P w K mg base "least_thing" 4 ["thing", "callers"] (spNum2X K CN) := ⟨_, dls, S.glo G (by simp [fa]), hls.kp, GX.binds0 hls (fun _ _ _ _ _ _ us hl => match us, hl with | [_, _], _ => rfl), ok_leastX hls Hcn⟩
  obtain ⟨dld, hld⟩ := S.fd (d := fD "is_lead" 20) (by simp [fn, fnF])
  have Hld : Has P w K mg base "is_lead" 2 ["thing", "known", "is_whole"] (spIsLead K) := ⟨_, dld, S.glo G (by simp [fa]), hld.kp, GX.binds0 hld (fun _ _ _ _ _ _ us hl => match us, hl with | [_, _, _], _ => rfl), ok_is_lead hld Hiw (fr "isinstance" (by simp)) (fr "dict" (by simp)) (fr "len" (by simp))⟩
  obtain ⟨dfw, hfw⟩ := S.fd (d := fD "first_wrong" 21) (by simp [fn, fnF])
  have Hfw : Has P w K mg base "first_wrong" 3 ["leads", "known", "barred", "is_whole"] (spFirstWrong K) := ⟨_, dfw, S.glo G (by simp [fa]), hfw.kp, GX.binds0 hfw (fun _ _ _ _ _ _ us hl => match us, hl with | [_, _, _, _], _ => rfl), ok_first_wrong hfw Hiw Hld (fr "isinstance" (by simp)) (fr "dict" (by simp))⟩
  obtain ⟨dod, hod⟩ := S.fd (d := fD "ordered" 22) (by simp [fn, fnF])
  have Hod : Has P w K mg base "ordered" 1 ["leads", "known"] (spOrdered K) := ⟨_, dod, S.glo G (by simp [fa]), hod.kp, GX.binds0 hod (fun _ _ _ _ _ _ us hl => match us, hl with | [_, _], _ => rfl), ok_ordered hod (fr "sorted" (by simp))⟩
  obtain ⟨dI, hI⟩ := S.fd (d := mD "Thing" "__init__" "Thing.__init__" 23 0) (by simp [fn, fnI])
  have bI : Binds K dI ["self", "values", "start", "deeds", "entries"] [] := GX.binds0 hI (fun _ _ _ _ _ _ us hl => match us, hl with | [_, _, _, _, _], _ => rfl)
  have OI : FnOk P w K mg base CX0 4 (He.fAd K ("Thing", some "__init__")) dI ["self", "values", "start", "deeds", "entries"] (spInit K C) := ok_init hI TC Hfb Hiw Hfw Hod (fr "len" (by simp)) (fr "tuple" (by simp)) (fr "list" (by simp))
  obtain ⟨dsp, hsp⟩ := S.fd (d := fD "_law_spring" 43) (by simp [fn, fnF])
  have Hsp : Has P w K mg base "_law_spring" 1 ["_law_script"] (spSpring K) := ⟨_, dsp, S.glo G (by simp [fa]), hsp.kp, GX.binds0 hsp (fun _ _ _ _ _ _ us hl => match us, hl with | [_], _ => rfl), ok_spring hsp (fr "list" (by simp))⟩
  obtain ⟨dtk, htk⟩ := S.fd (d := fD "_law_take" 44) (by simp [fn, fnF])
  have Htk : Has P w K mg base "_law_take" 1 ["_law_spring_here", "_law_many"] (spTake) := ⟨_, dtk, S.glo G (by simp [fa]), htk.kp, GX.binds0 htk (fun _ _ _ _ _ _ us hl => match us, hl with | [_, _], _ => rfl), ok_take htk (fr "int" (by simp)) (fr "abs" (by simp))⟩
  obtain ⟨don, hon⟩ := S.fd (d := fD "_law_one" 45) (by simp [fn, fnF])
  have Hon : Has P w K mg base "_law_one" 2 ["_law_spring_here", "_law_things"] (spOne) := ⟨_, don, S.glo G (by simp [fa]), hon.kp, GX.binds0 hon (fun _ _ _ _ _ _ us hl => match us, hl with | [_, _], _ => rfl), ok_one hon Htk (fr "len" (by simp))⟩
  obtain ⟨dmx, hmx⟩ := S.fd (d := fD "_law_mix" 46) (by simp [fn, fnF])
  have Hmx : Has P w K mg base "_law_mix" 2 ["_law_spring_here", "_law_things"] (spMix K) := ⟨_, dmx, S.glo G (by simp [fa]), hmx.kp, GX.binds0 hmx (fun _ _ _ _ _ _ us hl => match us, hl with | [_, _], _ => rfl), ok_mix hmx Htk (fr "len" (by simp)) (fr "list" (by simp)) (fr "range" (by simp))⟩
  obtain ⟨dth, hth⟩ := S.fd (d := fD "_law_thing" 47) (by simp [fn, fnF])
  have Hth : Has P w K mg base "_law_thing" 3 ["_law_spring_here", "_law_most", "_law_many"] (spThing) := ⟨_, dth, S.glo G (by simp [fa]), hth.kp, GX.binds0 hth (fun _ _ _ _ _ _ us hl => match us, hl with | [_, _, _], _ => rfl), ok_thing hth Htk Hon Hmx (fr "len" (by simp)) (fr "dict" (by simp))⟩
  obtain ⟨dmd, hmd⟩ := S.fd (d := fD "_law_made" 48) (by simp [fn, fnF])
  have Hmd : Has P w K mg base "_law_made" 6 ["_law_parts"] (spMade K C) := ⟨_, dmd, S.glo G (by simp [fa]), hmd.kp, GX.binds0 hmd (fun _ _ _ _ _ _ us hl => match us, hl with | [_], _ => rfl), ok_made hmd (He.mkr_ok (S.fact (f := .mkr "Thing") (by simp [fa]))) (S.glo G (by simp [fa])) bI OI⟩
  obtain ⟨dnm, hnm⟩ := S.fd (d := fD "_law_names" 49) (by simp [fn, fnF])
  have Hnm : Has P w K mg base "_law_names" 1 ["_law_parts"] (spNames) := ⟨_, dnm, S.glo G (by simp [fa]), hnm.kp, GX.binds0 hnm (fun _ _ _ _ _ _ us hl => match us, hl with | [_], _ => rfl), ok_names hnm (fr "sorted" (by simp)) (fr "list" (by simp))⟩
  obtain ⟨dle, hle⟩ := S.fd (d := fD "_law_led" 50) (by simp [fn, fnF])
  have Hle : Has P w K mg base "_law_led" 1 ["_law_parts", "_law_worth", "_law_name"] (spLed) := ⟨_, dle, S.glo G (by simp [fa]), hle.kp, GX.binds0 hle (fun _ _ _ _ _ _ us hl => match us, hl with | [_, _, _], _ => rfl), ok_led hle⟩
  obtain ⟨daf, haf⟩ := S.fd (d := fD "_law_after" 51) (by simp [fn, fnF])
  have Haf : Has P w K mg base "_law_after" 2 ["_law_parts", "_law_state", "_law_call"] (spAfter) := ⟨_, daf, S.glo G (by simp [fa]), haf.kp, GX.binds0 haf (fun _ _ _ _ _ _ us hl => match us, hl with | [_, _, _], _ => rfl), ok_after haf Hle (fr "dict" (by simp)) (fr "list" (by simp)) (fr "sorted" (by simp))⟩
  obtain ⟨dbe, hbe⟩ := S.fd (d := fD "_law_begin" 52) (by simp [fn, fnF])
  have Hbe : Has P w K mg base "_law_begin" 1 ["_law_parts", "_law_worth"] (spBegin) := ⟨_, dbe, S.glo G (by simp [fa]), hbe.kp, GX.binds0 hbe (fun _ _ _ _ _ _ us hl => match us, hl with | [_, _], _ => rfl), ok_begin hbe (fr "dict" (by simp))⟩
  obtain ⟨dwa, hwa⟩ := S.fd (d := fD "_law_waits" 53) (by simp [fn, fnF])
  have Hwa : Has P w K mg base "_law_waits" 1 ["_law_state", "_law_caller"] (spWaits) := ⟨_, dwa, S.glo G (by simp [fa]), hwa.kp, GX.binds0 hwa (fun _ _ _ _ _ _ us hl => match us, hl with | [_, _], _ => rfl), ok_waits hwa (fr "any" (by simp))⟩
  obtain ⟨dca, hca⟩ := S.fd (d := fD "_law_calls" 54) (by simp [fn, fnF])
  have Hca : Has P w K mg base "_law_calls" 2 ["_law_parts", "_law_state", "_law_callers"] (spCalls) := ⟨_, dca, S.glo G (by simp [fa]), hca.kp, GX.binds0 hca (fun _ _ _ _ _ _ us hl => match us, hl with | [_, _, _], _ => rfl), ok_calls hca Hnm Hwa (fr "range" (by simp))⟩
  obtain ⟨dmt, hmt⟩ := S.fd (d := fD "_law_met" 56) (by simp [fn, fnF])
  obtain ⟨dre, hre⟩ := S.fd (d := fD "_law_refused" 57) (by simp [fn, fnF])
  obtain ⟨dla, hla⟩ := S.fd (d := fD "law" 58) (by simp [fn, fnF])
  have OR := ok_refused37 (P := P) (w := w) (base := base) hre t2 TB2 m2 u2 MC hmt (S.glo G (by simp [fa])) hmt.kp (He.mkr_ok (S.fact (f := .mkr "Thing") (by simp [fa]))) (S.glo G (by simp [fa])) bI OI Hon Hwa Hgo Hcp Hlv Hls (fr "len" (by simp)) (fr "repr" (by simp)) (fr "range" (by simp)) S.sm
  have OL := ok_law37 (P := P) (w := w) (base := base) hla Hsp Hth Hmd Htk Hbe Hca Haf Hon Hgo OR (S.glo G (by simp [fa])) hre.kp (GX.binds0 hre (fun _ _ _ _ _ _ us hl => match us, hl with | [_, _, _, _, _, _], _ => rfl)) (He.mkr_ok (S.fact (f := .mkr "Thing") (by simp [fa]))) (S.glo G (by simp [fa])) bI OI (fr "list" (by simp)) (fr "tuple" (by simp)) (fr "isinstance" (by simp)) (fr "all" (by simp)) (fr "range" (by simp))
  exact ⟨dla, hla, OL⟩
end K37

/-! the head's looks, kernel runs (printed by genend.py) -/
namespace K37
open PySem PySem.W PySem.Calls PyProof.Rows
abbrev R : OpenRow := OpenLaw.row PySem.Challenge.rw_meettasks_k37_callers_in_rows
abbrev qv : Program := view R.prog [58]
def n0 : List PySem.Str := [(PySem.Str.ofString "_wall"), (PySem.Str.ofString "is_integer"), (PySem.Str.ofString "is_natural"), (PySem.Str.ofString "is_positive"), (PySem.Str.ofString "is_list"), (PySem.Str.ofString "is_pair"), (PySem.Str.ofString "is_word"), (PySem.Str.ofString "first_bad_word"), (PySem.Str.ofString "TaskError"), (PySem.Str.ofString "BadValues"), (PySem.Str.ofString "BadStart"), (PySem.Str.ofString "BadDeeds"), (PySem.Str.ofString "BadEntries"), (PySem.Str.ofString "BadNumber"), (PySem.Str.ofString "BadCalls"), (PySem.Str.ofString "UnlikeNames"), (PySem.Str.ofString "is_lead"), (PySem.Str.ofString "first_wrong"), (PySem.Str.ofString "ordered"), (PySem.Str.ofString "Thing"), (PySem.Str.ofString "names_of"), (PySem.Str.ofString "led_to"), (PySem.Str.ofString "rows_from"), (PySem.Str.ofString "check_number"), (PySem.Str.ofString "first_state")]
def n1 : List PySem.Str := [(PySem.Str.ofString "is_waiting"), (PySem.Str.ofString "is_call"), (PySem.Str.ofString "served"), (PySem.Str.ofString "called"), (PySem.Str.ofString "gone_on"), (PySem.Str.ofString "calls_let"), (PySem.Str.ofString "parting_from"), (PySem.Str.ofString "calls_that_part"), (PySem.Str.ofString "lots_by_first"), (PySem.Str.ofString "like_values"), (PySem.Str.ofString "least_thing"), (PySem.Str.ofString "_law_spring"), (PySem.Str.ofString "_law_take"), (PySem.Str.ofString "_law_one"), (PySem.Str.ofString "_law_mix"), (PySem.Str.ofString "_law_thing"), (PySem.Str.ofString "_law_made"), (PySem.Str.ofString "_law_names"), (PySem.Str.ofString "_law_led"), (PySem.Str.ofString "_law_after"), (PySem.Str.ofString "_law_begin"), (PySem.Str.ofString "_law_waits"), (PySem.Str.ofString "_law_calls"), (PySem.Str.ofString "_law_parting"), (PySem.Str.ofString "_law_met")]
def n2 : List PySem.Str := [(PySem.Str.ofString "_law_refused"), (PySem.Str.ofString "LETTERS")]
def names : List PySem.Str := n0 ++ n1 ++ n2
noncomputable abbrev Zs (w : World) (os : OsState) : SharedT := K37H.Sz w os
noncomputable abbrev KZ (w : World) (os : OsState) : Frag := He.frG (HandSHeadRun.getT (Zs w os)) (GX.asX (HandSHeadRun.getT (Zs w os)))
theorem zLooks (w : World) (os : OsState) : HandSHeadRun.looksF R.prog (boot_heap w.params) (Zs w os).abs = true := by kernel_rfl
theorem zSeen (w : World) (os : OsState) : HandSHeadRun.seenQ qv names (importedModules R.prog.main.body) (fun s => xlAt qv [] s && recOk R.toRowW.records s) (Zs w os).abs = openGood qv names := by kernel_rfl
theorem zFa (w : World) (os : OsState) : (fa.all fun f => f.ok (KZ w os)) = true := by kernel_rfl
theorem zFF (w : World) (os : OsState) : ((fnF.all fun d => d.ok (KZ w os)), fnF.map fun d => He.fnW (KZ w os) d.at_) = (true, fnF.map He.DefD.val) := by kernel_rfl
theorem zFI (w : World) (os : OsState) : ((fnI.all fun d => d.ok (KZ w os)), fnI.map fun d => He.fnW (KZ w os) d.at_) = (true, fnI.map He.DefD.val) := by kernel_rfl
theorem zTb (w : World) (os : OsState) : (mk.all (fun x => GX.tabB (KZ w os) (HandSHeadRun.getT (Zs w os)) x) && GX.nodB (mk.map fun x => (GX.tabOf (KZ w os) x).2)) = true := by kernel_rfl
theorem zCl (w : World) (os : OsState) : GX.clsAll nms (KZ w os) = true := by kernel_rfl
theorem zOb (w : World) (os : OsState) : hk.obs (Zs w os).abs = (true, He.valD fn) := by
  rw [← GX.obX_eq]
  have a := zFF w os
  have b := zFI w os
  simp only [Prod.mk.injEq] at a b
  have dd : He.obsD fa fn (KZ w os) = He.valD fn := by
    unfold He.obsD He.valD
    rw [show fn = fnF ++ fnI from rfl, List.map_append, List.map_append, a.2, b.2, List.all_append, zFa, a.1, b.1]
    rfl
  show GX.obsX fa fn mk nms _ (KZ w os) = _
  unfold GX.obsX
  rw [dd, zCl, zTb]
  rfl
end K37

open PySem PySem.W PySem.Calls PyProof.Rows
theorem PySem.Challenge.cw_meettasks_k37_callers_in_rows_holds : PySem.Challenge.rw_meettasks_k37_callers_in_rows.Holds := by
  w_on; o_law
  refine HG.head (r := OpenLaw.row PySem.Challenge.rw_meettasks_k37_callers_in_rows) (q := view (OpenLaw.row PySem.Challenge.rw_meettasks_k37_callers_in_rows).prog [58]) (H := K37.hk) (loose := K37.names) (d := HandSHeadRun.topDef (OpenLaw.row PySem.Challenge.rw_meettasks_k37_callers_in_rows).prog 58) (kwd := [])
    (by kernel_rfl) (fun s => by kernel_rfl) K37H.top K37.zLooks K37.zSeen K37.zOb (by kernel_rfl) (by kernel_rfl) (by kernel_rfl) (by rfl) (by first | assumption | decide +kernel) (by decide +kernel) ⟨rfl, rfl, rfl, rfl, rfl, by decide +kernel⟩ ?hw ?hc
  case hw => w_witness2
  case hc =>
    refine LamX.walk_ofG (l := PySem.Challenge.rw_meettasks_k37_callers_in_rows) (n := 63) (CX := L2.CX0) rfl (by decide) (by kernel_rfl) ?F (fun _ _ _ _ z => z)
    intro w mg fa h Y G hmg0
    obtain ⟨K, S⟩ := Y
    have hmg : mg ("law" : PySem.Str) = some (.ref fa) := by
      have e : (HandSHeadRun.topDef (OpenLaw.row PySem.Challenge.rw_meettasks_k37_callers_in_rows).prog 58).name = ("law" : PySem.Str) := by kernel_rfl
      rw [← e]
      exact hmg0
    have gl : mg ("law" : PySem.Str) = some (.ref (He.ga K "law")) := S.glo G (by simp [K37.fa])
    have efa : He.ga K "law" = fa := by
      rw [gl] at hmg
      exact Value.ref.inj (Option.some.inj hmg)
    subst efa
    have tb := S.tab "_law_refused" (by simp [K37.mk])
    refine ⟨K, [GX.tabOf K "_law_refused"], S.inh, fun p hp => ?_, fun p hp => ?_, fun p hp => ?_, fun base hK hg TB s H a ns hl hT hS e0 => ?_⟩
    · obtain rfl := List.mem_singleton.mp hp
      exact tb.em
    · obtain rfl := List.mem_singleton.mp hp
      exact tb.no
    · obtain rfl := List.mem_singleton.mp hp
      exact tb.hd
    · have hu2 : ∀ p ∈ [((GX.tabOf K "_law_refused").2, TH.lamR)], p.1 = (GX.tabOf K "_law_refused").2 → p.2 = TH.lamR := fun p hp e => by
        obtain rfl := List.mem_singleton.mp hp
        rfl
      obtain ⟨fd, FL, OL⟩ := K37.law_all (P := PySem.Challenge.rw_meettasks_k37_callers_in_rows.prog) (w := w) (base := base) S G (T := [((GX.tabOf K "_law_refused").2, TH.lamR)]) tb.co (TB _ (by simp)) (by simp) hu2
      have hb := L2.FunD.bindsA (ps := ["_law_script"]) FL (fun _ _ _ _ _ _ us hl => match us, hl with | [_], _ => rfl) s [Value.ref a] rfl
      refine OL.run callerA [] s H ⟨[.ref a], []⟩ [.ref a] [.ref a] _ _ rfl ⟨rfl, by decide, by decide⟩ e0 hb (.cons rfl .nil) ⟨a, ns, rfl, hS, hl, fun p hp => ?_, fun _ => rfl⟩
      obtain rfl := List.mem_singleton.mp hp
      exact LamX.TabS.nil (hT _ (by simp))
#print axioms PySem.Challenge.cw_meettasks_k37_callers_in_rows_holds

